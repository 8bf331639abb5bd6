import PyProof.Rows.All
import Wide.All
import OpenK.AllK
import Wide.FinOn
import HandS.ForMost
import HandS.Lambda
import HandS.CallSlots
import HandS.TupAny
import HandS.TupMul
import HandS.Wide
import HandS.Defaults
import HandS.WideBits
import HandS.Deep
import HandS.Flow
import KE.SortData
import KE.KTupSum
import KE.GoesEnum
import HandS.Zip
import HandS.Comp
import HandS.HeadHook4
import HandS.ExcOwn
import HandS.EndTab
import HandS.IsInst
import HandS.BoundList
import PyProof.ReprRoads
import PyProof.ReprLen
import HandS.SetFor
import HandS.TupSets
import KE.DataFind
import HandS.Strs
import KE.DataMinMax
import HandS.Style
import HandS.ExcIs
import PyProof.ExcBaseAll.ValueError
import HandS.Dict
import HandS.Head2
import HandS.HeadEnd
import PySem.Challenge.RW_bedlands_k07_things_shared
set_option Elab.async false
set_option linter.all false
set_option maxRecDepth 100000
/-! Bd1: data D, what of the heap stands for it (Rep), the state of a def at work (World). -/
namespace Bd
open PySem PySem.Spec PyProof.Rows L2

/-- how a list is held: by one place alone, by several and never changed again, by the written part -/
inductive M where
  | own | shr | con
  deriving DecidableEq
inductive D where
  | gone | non
  | bl (b : Bool)
  | int (i : Int)
  | str (x : Str)
  | tup (ds : List D)
  | lst (m : M) (ds : List D)
  | dct (m : M) (ks : List Key) (ds : List D)
  | opq (v : V)
abbrev AS := Addr → Prop
def M0 : AS := fun _ => False

mutual
def D.frz : D → D
  | .tup ds => .tup (frzs ds)
  | .lst .own ds => .lst .shr (frzs ds)
  | .dct .own ks ds => .dct .shr ks (frzs ds)
  | d => d
def frzs : List D → List D
  | [] => []
  | d :: r => d.frz :: frzs r
end
mutual
def D.solid : D → Bool
  | .tup ds => solids ds
  | .lst m _ => m != .own
  | .dct m _ _ => m != .own
  | _ => true
def solids : List D → Bool
  | [] => true
  | d :: r => d.solid && solids r
end
mutual
theorem frz_solid : ∀ d : D, d.frz.solid = true
  | .tup ds => by rw [D.frz, D.solid]; exact frzs_solid ds
  | .lst .own ds => rfl
  | .lst .shr ds => rfl
  | .lst .con ds => rfl
  | .dct .own _ _ => rfl
  | .dct .shr _ _ => rfl
  | .dct .con _ _ => rfl
  | .gone => rfl
  | .non => rfl
  | .bl _ => rfl
  | .int _ => rfl
  | .str _ => rfl
  | .opq _ => rfl
theorem frzs_solid : ∀ ds : List D, solids (frzs ds) = true
  | [] => rfl
  | d :: r => by rw [frzs, solids, frz_solid d, frzs_solid r]; rfl
end
mutual
theorem frz_of_solid : ∀ d : D, d.solid = true → d.frz = d
  | .tup ds, h => by rw [D.frz, frzs_of_solid ds (by rw [D.solid] at h; exact h)]
  | .lst .own ds, h => by cases h
  | .lst .shr ds, _ => rfl
  | .lst .con ds, _ => rfl
  | .dct .own _ _, h => by cases h
  | .dct .shr _ _, _ => rfl
  | .dct .con _ _, _ => rfl
  | .gone, _ => rfl
  | .non, _ => rfl
  | .bl _, _ => rfl
  | .int _, _ => rfl
  | .str _, _ => rfl
  | .opq _, _ => rfl
theorem frzs_of_solid : ∀ ds : List D, solids ds = true → frzs ds = ds
  | [], _ => rfl
  | d :: r, h => by
    rw [solids, Bool.and_eq_true] at h
    rw [frzs, frz_of_solid d h.1, frzs_of_solid r h.2]
end
theorem frzs_eq_map : ∀ ds : List D, frzs ds = ds.map D.frz
  | [] => by simp [frzs]
  | d :: r => by rw [frzs, frzs_eq_map r, List.map_cons]
theorem frzs_length (ds : List D) : (frzs ds).length = ds.length := by rw [frzs_eq_map, List.length_map]

/-! ### what stands for a datum -/
/-- a list that nobody can write: locked, or of the written part -/
def CnL (K : PySem.W.Frag) (H : Hp) (a : Addr) (xs : List V) : Prop :=
  (∃ o, H a = some (.frz o (.lst xs))) ∨
    ∃ (o : Obj) (its : Array Value) (n : Nat), K.lookup a = some o ∧ o.cls = .type "list" ∧ o.dict = none ∧ o.data = .seq its n ∧ its.size ≤ sizeLine ∧ Vals xs its.toList
theorem CnL.sq {K : PySem.W.Frag} {H : Hp} {a : Addr} {xs : List V} (h : CnL K H a xs) : SqL K H a xs := by
  rcases h with ⟨o, h⟩ | h
  · exact .inl (.inr ⟨o, h⟩)
  · exact .inr h

/-- a tuple known to have no own dict -/
def TupD (K : PySem.W.Frag) (H : Hp) (a : Addr) (xs : List V) : Prop :=
  (∃ o, H a = some (.frz o (.tup xs)) ∧ o.dict = none) ∨
    ∃ (o : Obj) (its : Array Value) (n : Nat), K.lookup a = some o ∧ o.cls = .type "tuple" ∧ o.dict = none ∧ o.data = .seq its n ∧ its.size ≤ sizeLine ∧ Vals xs its.toList
theorem TupD.sq {K : PySem.W.Frag} {H : Hp} {a : Addr} {xs : List V} (h : TupD K H a xs) : SqT K H a xs := by
  rcases h with ⟨o, h, _⟩ | ⟨o, its, n, h1, h2, _, h3⟩
  · exact .inl (.inr ⟨o, h⟩)
  · exact .inr ⟨o, its, n, h1, h2, h3⟩

mutual
inductive Rep (K : PySem.W.Frag) (H : Hp) (F : AS) : V → D → AS → Prop
  | gone {v A} : Rep K H F v .gone A
  | non {A} : Rep K H F .non .non A
  | bl {b A} : Rep K H F (.bl b) (.bl b) A
  | int {i A} : Rep K H F (.int i) (.int i) A
  | str {x A} : Rep K H F (.str x) (.str x) A
  | opq {v A} : Rep K H F v (.opq v) A
  | tup {a us ds A} : TupD K H a us → Reps K H F us ds A → Rep K H F (.ref a) (.tup ds) A
  | own {a us ds A B} : H a = some (.lst us) → A a → Reps K H F us ds B → (∀ x, B x → A x ∧ x ≠ a) → Rep K H F (.ref a) (.lst .own ds) A
  | shr {a us ds A} : H a = some (.lst us) → F a → Reps K H F us ds M0 → Rep K H F (.ref a) (.lst .shr ds) A
  | con {a us ds A} : CnL K H a us → Reps K H F us ds M0 → Rep K H F (.ref a) (.lst .con ds) A
  | dOwn {a kvs ks ds A B} : H a = some (.dK kvs) → kvs.map (·.1) = ks → A a → Reps K H F (kvs.map (·.2)) ds B → (∀ x, B x → A x ∧ x ≠ a) → Rep K H F (.ref a) (.dct .own ks ds) A
  | dShr {a kvs ks ds A} : H a = some (.dK kvs) → kvs.map (·.1) = ks → F a → Reps K H F (kvs.map (·.2)) ds M0 → Rep K H F (.ref a) (.dct .shr ks ds) A
inductive Reps (K : PySem.W.Frag) (H : Hp) (F : AS) : List V → List D → AS → Prop
  | nil {A} : Reps K H F [] [] A
  | cons {v d vs ds A B C} : Rep K H F v d B → Reps K H F vs ds C → (∀ x, B x → A x) → (∀ x, C x → A x) → (∀ x, B x → ¬ C x) → Reps K H F (v :: vs) (d :: ds) A
end
section
variable {K : PySem.W.Frag} {H H' : Hp} {F F' A A' B C : AS} {v w : V} {d e : D} {vs us : List V} {ds es : List D}
theorem Rep.mono (r : Rep K H F v d A) (h : ∀ x, A x → A' x) : Rep K H F v d A' := by
  cases r with
  | gone => exact .gone
  | non => exact .non
  | bl => exact .bl
  | int => exact .int
  | str => exact .str
  | opq => exact .opq
  | tup s q =>
    refine .tup s ?_
    cases q with
    | nil => exact .nil
    | cons a b i j k => exact .cons a b (fun x hx => h x (i x hx)) (fun x hx => h x (j x hx)) k
  | own e a q s => exact .own e (h _ a) q fun x hx => ⟨h x (s x hx).1, (s x hx).2⟩
  | shr e a q => exact .shr e a q
  | con c q => exact .con c q
  | dOwn e k a q s => exact .dOwn e k (h _ a) q fun x hx => ⟨h x (s x hx).1, (s x hx).2⟩
  | dShr e k a q => exact .dShr e k a q
theorem Reps.mono (r : Reps K H F vs ds A) (h : ∀ x, A x → A' x) : Reps K H F vs ds A' := by
  cases r with
  | nil => exact .nil
  | cons a b i j k => exact .cons a b (fun x hx => h x (i x hx)) (fun x hx => h x (j x hx)) k
theorem Reps.length : ∀ {vs : List V} {ds : List D} {A : AS}, Reps K H F vs ds A → vs.length = ds.length
  | _, _, _, .nil => rfl
  | _, _, _, .cons _ q _ _ _ => by rw [List.length_cons, List.length_cons, q.length]
/-- objects that are never written -/
def Fix : HO → Prop
  | .tup _ => True
  | .frz _ _ => True
  | _ => False
/-- objects that an owner may write -/
def isOwn : HO → Prop
  | .lst _ => True
  | .dK _ => True
  | .dT _ => True
  | _ => False
def Agr (A F : AS) (H H' : Hp) : Prop := ∀ a o, H a = some o → (A a ∨ F a ∨ Fix o) → H' a = some o
theorem TupD.agr {a : Addr} {us : List V} (h : Agr A F H H') (s : TupD K H a us) : TupD K H' a us := by
  rcases s with ⟨o, q, d⟩ | q
  · exact .inl ⟨o, h _ _ q (.inr (.inr trivial)), d⟩
  · exact .inr q
theorem CnL.agr {a : Addr} {us : List V} (h : Agr A F H H') (s : CnL K H a us) : CnL K H' a us := by
  rcases s with ⟨o, q⟩ | q
  · exact .inl ⟨o, h _ _ q (.inr (.inr trivial))⟩
  · exact .inr q
theorem Agr.sub (h : Agr A F H H') (s : ∀ x, B x → A x) : Agr B F H H' := fun a o e q => h a o e (by
  rcases q with q | q | q
  · exact .inl (s a q)
  · exact .inr (.inl q)
  · exact .inr (.inr q))
mutual
theorem Rep.agr : ∀ {v : V} {d : D} {A : AS}, Rep K H F v d A → Agr A F H H' → (∀ x, F x → F' x) → Rep K H' F' v d A
  | _, _, _, .gone, _, _ => .gone
  | _, _, _, .non, _, _ => .non
  | _, _, _, .bl, _, _ => .bl
  | _, _, _, .int, _, _ => .int
  | _, _, _, .str, _, _ => .str
  | _, _, _, .opq, _, _ => .opq
  | _, _, _, .tup s q, h, f => .tup (TupD.agr h s) (Reps.agr q h f)
  | _, _, _, .own e a q s, h, f => .own (h _ _ e (.inl a)) a (Reps.agr q (h.sub fun x hx => (s x hx).1) f) s
  | _, _, _, .shr e a q, h, f => .shr (h _ _ e (.inr (.inl a))) (f _ a) (Reps.agr q (h.sub fun _ hx => hx.elim) f)
  | _, _, _, .con c q, h, f => .con (CnL.agr h c) (Reps.agr q (h.sub fun _ hx => hx.elim) f)
  | _, _, _, .dOwn e k a q s, h, f => .dOwn (h _ _ e (.inl a)) k a (Reps.agr q (h.sub fun x hx => (s x hx).1) f) s
  | _, _, _, .dShr e k a q, h, f => .dShr (h _ _ e (.inr (.inl a))) k (f _ a) (Reps.agr q (h.sub fun _ hx => hx.elim) f)
theorem Reps.agr : ∀ {vs : List V} {ds : List D} {A : AS}, Reps K H F vs ds A → Agr A F H H' → (∀ x, F x → F' x) → Reps K H' F' vs ds A
  | _, _, _, .nil, _, _ => .nil
  | _, _, _, .cons a b i j k, h, f => .cons (Rep.agr a (h.sub i) f) (Reps.agr b (h.sub j) f) i j k
end
mutual
theorem Rep.frz : ∀ {v : V} {d : D} {A : AS}, Rep K H F v d A → (∀ x, A x → F' x) → (∀ x, F x → F' x) → Rep K H F' v d.frz M0
  | _, _, _, .gone, _, _ => .gone
  | _, _, _, .non, _, _ => .non
  | _, _, _, .bl, _, _ => .bl
  | _, _, _, .int, _, _ => .int
  | _, _, _, .str, _, _ => .str
  | _, _, _, .opq, _, _ => .opq
  | _, _, _, .tup s q, h, f => by rw [D.frz]; exact .tup s (Reps.frz q h f)
  | _, _, _, .own e a q s, h, f => by rw [D.frz]; exact .shr e (h _ a) (Reps.frz q (fun x hx => h x (s x hx).1) f)
  | _, _, _, .shr e a q, h, f => .shr e (f _ a) (Reps.agr q (fun _ _ e _ => e) f)
  | _, _, _, .con c q, h, f => .con c (Reps.agr q (fun _ _ e _ => e) f)
  | _, _, _, .dOwn e k a q s, h, f => by rw [D.frz]; exact .dShr e k (h _ a) (Reps.frz q (fun x hx => h x (s x hx).1) f)
  | _, _, _, .dShr e k a q, h, f => .dShr e k (f _ a) (Reps.agr q (fun _ _ e _ => e) f)
theorem Reps.frz : ∀ {vs : List V} {ds : List D} {A : AS}, Reps K H F vs ds A → (∀ x, A x → F' x) → (∀ x, F x → F' x) → Reps K H F' vs (frzs ds) M0
  | _, _, _, .nil, _, _ => .nil
  | _, _, _, .cons a b i j k, h, f => by
    rw [frzs]
    exact .cons (Rep.frz a (fun x hx => h x (i x hx)) f) (Reps.frz b (fun x hx => h x (j x hx)) f) (fun _ hx => hx) (fun _ hx => hx) (fun _ hx _ => hx)
end
mutual
theorem Rep.solid : ∀ {v : V} {d : D} {A : AS}, Rep K H F v d A → d.solid = true → Rep K H F v d M0
  | _, _, _, .gone, _ => .gone
  | _, _, _, .non, _ => .non
  | _, _, _, .bl, _ => .bl
  | _, _, _, .int, _ => .int
  | _, _, _, .str, _ => .str
  | _, _, _, .opq, _ => .opq
  | _, _, _, .tup s q, h => .tup s (Reps.solid q (by rw [D.solid] at h; exact h))
  | _, _, _, .own e a q s, h => by cases h
  | _, _, _, .shr e a q, h => .shr e a q
  | _, _, _, .con c q, h => .con c q
  | _, _, _, .dOwn e k a q s, h => by cases h
  | _, _, _, .dShr e k a q, h => .dShr e k a q
theorem Reps.solid : ∀ {vs : List V} {ds : List D} {A : AS}, Reps K H F vs ds A → solids ds = true → Reps K H F vs ds M0
  | _, _, _, .nil, _ => .nil
  | _, _, _, .cons a b i j k, h => by
    rw [solids, Bool.and_eq_true] at h
    exact .cons (Rep.solid a h.1) (Reps.solid b h.2) (fun _ hx => hx) (fun _ hx => hx) (fun _ hx _ => hx)
end
theorem Reps.swap (r : Reps K H F (v :: w :: vs) (d :: e :: ds) A) : Reps K H F (w :: v :: vs) (e :: d :: ds) A := by
  cases r with
  | cons a b i j k =>
    cases b with
    | cons a' b' i' j' k' =>
      rename_i B1 C1 B2 C2
      refine .cons (B := B2) (C := fun x => B1 x ∨ C2 x) a' (.cons (B := B1) (C := C2) a b' (fun x hx => .inl hx) (fun x hx => .inr hx) fun x h1 h2 => k x h1 (j' x h2)) (fun x hx => j x (i' x hx)) (fun x hx => hx.elim (i x) fun z => j x (j' x z)) fun x h1 h2 => ?_
      rcases h2 with h2 | h2
      · exact k x h2 (i' x h1)
      · exact k' x h1 h2
theorem Reps.split : ∀ {us : List V} {es : List D} {A : AS}, us.length = es.length → Reps K H F (us ++ vs) (es ++ ds) A → ∃ B C : AS, Reps K H F us es B ∧ Reps K H F vs ds C ∧ (∀ x, B x → A x) ∧ (∀ x, C x → A x) ∧ ∀ x, B x → ¬ C x
  | [], [], A, _, r => ⟨M0, A, .nil, r, fun _ h => h.elim, fun _ h => h, fun _ h _ => h⟩
  | u :: us, e :: es, A, hl, r => by
    cases r with
    | cons a b i j k =>
      rename_i B1 C1
      obtain ⟨B, C, r1, r2, h1, h2, h3⟩ := Reps.split (us := us) (es := es) (by simpa using hl) b
      refine ⟨fun x => B1 x ∨ B x, C, .cons a r1 (fun x h => .inl h) (fun x h => .inr h) (fun x p q => k x p (h1 x q)), r2, fun x h => h.elim (i x) fun z => j x (h1 x z), fun x h => j x (h2 x h), fun x h q => ?_⟩
      rcases h with h | h
      · exact k x h (h2 x q)
      · exact h3 x h q
  | [], _ :: _, _, hl, _ => by simp at hl
  | _ :: _, [], _, hl, _ => by simp at hl
theorem Reps.join : ∀ {us : List V} {es : List D} {B C : AS}, Reps K H F us es B → Reps K H F vs ds C → (∀ x, B x → ¬ C x) → Reps K H F (us ++ vs) (es ++ ds) (fun x => B x ∨ C x)
  | _, _, _, _, .nil, r, _ => r.mono fun x h => .inr h
  | _, _, _, C, .cons (B := B1) (C := C1) a b i j k, r, n => by
    refine .cons (B := B1) (C := fun x => C1 x ∨ C x) a (Reps.join b r fun x h => n x (j x h)) (fun x h => .inl (i x h)) (fun x h => h.elim (fun z => .inl (j x z)) .inr) fun x h q => ?_
    rcases q with q | q
    · exact k x h q
    · exact n x (i x h) q
/-- the i-th taken out -/
theorem Reps.pick : ∀ {i : Nat} {us : List V} {es : List D} {A : AS} {d : D}, Reps K H F us es A → es[i]? = some d → ∃ v, us[i]? = some v ∧ Reps K H F (v :: us) (d :: es.set i .gone) A
  | 0, _, _, _, _, .cons a b i j k, h => by
    simp at h
    subst h
    exact ⟨_, rfl, .cons a (.cons (B := M0) .gone b (fun _ h => h.elim) (fun _ h => h) (fun _ h _ => h)) i j k⟩
  | i + 1, _, _, A, d, .cons (B := B1) (C := C1) a b p j k, h => by
    obtain ⟨v, hv, r⟩ := Reps.pick (i := i) b (by simpa using h)
    refine ⟨v, by simpa using hv, ?_⟩
    rw [List.set_cons_succ]
    refine Reps.swap ?_
    exact .cons (B := B1) (C := C1) a r p j k
  | _, _, _, _, _, .nil, h => by simp at h
theorem Reps.replace : ∀ {i : Nat} {us : List V} {es : List D} {A : AS} {v : V} {d : D}, Reps K H F (v :: us) (d :: es) A → Reps K H F (us.set i v) (es.set i d) A
  | i, _, _, A, v, d, .cons (B := B) (C := C) a b p j k => by
    cases b with
    | nil => simp; exact .nil
    | cons a' b' p' j' k' =>
      rename_i B2 C2
      cases i with
      | zero =>
        rw [List.set_cons_zero, List.set_cons_zero]
        exact .cons a b' p (fun x h => j x (j' x h)) fun x h q => k x h (j' x q)
      | succ i =>
        rw [List.set_cons_succ, List.set_cons_succ]
        refine .cons (B := B2) (C := fun x => B x ∨ C2 x) a' (Reps.replace (i := i) (.cons (B := B) (C := C2) a b' (fun x h => .inl h) (fun x h => .inr h) fun x h q => k x h (j' x q))) (fun x h => j x (p' x h)) (fun x h => h.elim (p x) fun z => j x (j' x z)) fun x h q => ?_
        rcases q with q | q
        · exact k x q (p' x h)
        · exact k' x h q
theorem Reps.tail (r : Reps K H F (v :: vs) (d :: ds) A) : Reps K H F vs ds A := by
  cases r with
  | cons a b i j k => exact b.mono j
theorem Reps.copy {i : Nat} (r : Reps K H F us es A) (h : es[i]? = some d) (s : d.solid = true) : ∃ v, us[i]? = some v ∧ Rep K H F v d M0 := by
  obtain ⟨v, hv, q⟩ := r.pick h
  cases q with
  | cons a b i j k => exact ⟨v, hv, a.solid s⟩
theorem Reps.push (r : Reps K H F us es A) (q : Rep K H F v d M0) : Reps K H F (v :: us) (d :: es) A :=
  .cons (B := M0) (C := A) q r (fun _ h => h.elim) (fun _ h => h) fun _ h _ => h
end
end Bd

/-! Bd2: the state of a def at work (World) and its moves. -/
namespace Bd
open PySem PySem.Spec PyProof.Rows L2
abbrev Sl := L2.St
structure Gm where
  H0 : Hp
  A0 : AS
  F0 : AS
  T : List (Addr × Str)
  vs0 : Sl
  n : Nat
def Keep (A : AS) (H H' : Hp) : Prop := ∀ a o, H a = some o → ¬ A a → (∀ ps, o ≠ .tbl ps) → H' a = some o
def sv (σ : Sl) : List V := σ.map fun o => o.getD .non
theorem sv_length (σ : Sl) : (sv σ).length = σ.length := List.length_map ..
/-- nothing that is looked at stands there -/
def Nw (H : Hp) (a : Addr) : Prop := ∀ o, H a = some o → ∃ ps, o = .tbl ps
theorem Nw.none {H : Hp} {a : Addr} (h : H a = none) : Nw H a := fun o e => by rw [h] at e; cases e
theorem Nw.not {H : Hp} {a : Addr} {o : HO} (h : Nw H a) (e : H a = some o) (n : ∀ ps, o ≠ .tbl ps) : False := by
  obtain ⟨ps, z⟩ := h o e
  exact n ps z
structure Fits (K : PySem.W.Frag) (G : Gm) (kp : List Bool) (σ : Sl) (ρ : List D) (vs : List V) (ds : List D) (H : Hp) (A F : AS) : Prop where
  reps : Reps K H F (vs ++ sv σ) (ds ++ ρ) A
  lv : vs.length = ds.length
  ls : σ.length = ρ.length
  sn : σ.length = G.n
  non : ∀ i : Nat, σ[i]? = some none → ρ[i]? = some D.gone
  sep : ∀ a, A a → ¬ F a
  own : ∀ a, A a → ∃ o, H a = some o ∧ isOwn o
  trk : ∀ a, F a → ∃ o, H a = some o ∧ isOwn o
  src : ∀ a, A a → G.A0 a ∨ Nw G.H0 a
  srf : ∀ a, F a → G.A0 a ∨ G.F0 a ∨ Nw G.H0 a
  fr : Keep G.A0 G.H0 H
  al : ∀ a, Nw H a → Nw G.H0 a
  tab : LamX.Tabs G.T H
  kps : ∀ j : Nat, kp.getD j false = true → σ[j]? = G.vs0[j]?
def World (K : PySem.W.Frag) (G : Gm) (kp : List Bool) (σ : Sl) (ρ : List D) (vs : List V) (ds : List D) (H : Hp) : Prop := ∃ A F, Fits K G kp σ ρ vs ds H A F
section
variable {K : PySem.W.Frag} {G : Gm} {kp : List Bool} {σ : Sl} {ρ : List D} {vs us us' xs xs' : List V} {ds es es' fs fs' : List D} {H H' : Hp} {A F : AS} {v w y : V} {d e : D} {a p : Addr} {i : Nat}
theorem Fits.rep (f : Fits K G kp σ ρ vs ds H A F) (A' : AS) (r : Reps K H F (us ++ sv σ) (es ++ ρ) A') (l : us.length = es.length) (s : ∀ x, A' x → A x) : Fits K G kp σ ρ us es H A' F :=
  ⟨r, l, f.ls, f.sn, f.non, fun a h => f.sep a (s a h), fun a h => f.own a (s a h), f.trk, fun a h => f.src a (s a h), f.srf, f.fr, f.al, f.tab, f.kps⟩
theorem Fits.temps (f : Fits K G kp σ ρ vs ds H A F) (h : ∀ A, Reps K H F (vs ++ sv σ) (ds ++ ρ) A → Reps K H F (us ++ sv σ) (es ++ ρ) A) (l : us.length = es.length) : Fits K G kp σ ρ us es H A F :=
  f.rep A (h A f.reps) l fun _ h => h
theorem World.temps (W : World K G kp σ ρ vs ds H) (h : ∀ F A, Reps K H F (vs ++ sv σ) (ds ++ ρ) A → Reps K H F (us ++ sv σ) (es ++ ρ) A) (l : us.length = es.length) : World K G kp σ ρ us es H := by
  obtain ⟨A, F, f⟩ := W
  exact ⟨A, F, f.temps (h F) l⟩
theorem World.lv (W : World K G kp σ ρ vs ds H) : vs.length = ds.length := let ⟨_, _, f⟩ := W; f.lv
theorem World.drop (W : World K G kp σ ρ (v :: vs) (d :: ds) H) : World K G kp σ ρ vs ds H := W.temps (fun _ _ r => r.tail) (by simpa using W.lv)
theorem World.swap (W : World K G kp σ ρ (v :: w :: vs) (d :: e :: ds) H) : World K G kp σ ρ (w :: v :: vs) (e :: d :: ds) H := W.temps (fun _ _ r => Reps.swap r) (by simpa using W.lv)
theorem World.drop2 (W : World K G kp σ ρ (v :: w :: vs) (d :: e :: ds) H) : World K G kp σ ρ (v :: vs) (d :: ds) H := W.swap.drop
theorem World.push (W : World K G kp σ ρ vs ds H) (r : ∀ F, Rep K H F v d M0) : World K G kp σ ρ (v :: vs) (d :: ds) H := W.temps (fun _ _ q => q.push (r _)) (by simpa using W.lv)
theorem World.non (W : World K G kp σ ρ vs ds H) : World K G kp σ ρ (.non :: vs) (.non :: ds) H := W.push fun _ => .non
theorem World.bl {b : Bool} (W : World K G kp σ ρ vs ds H) : World K G kp σ ρ (.bl b :: vs) (.bl b :: ds) H := W.push fun _ => .bl
theorem World.int {j : Int} (W : World K G kp σ ρ vs ds H) : World K G kp σ ρ (.int j :: vs) (.int j :: ds) H := W.push fun _ => .int
theorem World.str {x : Str} (W : World K G kp σ ρ vs ds H) : World K G kp σ ρ (.str x :: vs) (.str x :: ds) H := W.push fun _ => .str
theorem World.opq (W : World K G kp σ ρ vs ds H) : World K G kp σ ρ (v :: vs) (.opq v :: ds) H := W.push fun _ => .opq
theorem World.gone (W : World K G kp σ ρ vs ds H) : World K G kp σ ρ (v :: vs) (.gone :: ds) H := W.push fun _ => .gone
/-- scalars are known -/
theorem World.isInt {j : Int} (W : World K G kp σ ρ (v :: vs) (.int j :: ds) H) : v = .int j := by
  obtain ⟨A, F, f⟩ := W
  cases f.reps with
  | cons a b i j k => cases a; rfl
theorem World.isBl {j : Bool} (W : World K G kp σ ρ (v :: vs) (.bl j :: ds) H) : v = .bl j := by
  obtain ⟨A, F, f⟩ := W
  cases f.reps with
  | cons a b i j k => cases a; rfl
theorem World.isStr {j : Str} (W : World K G kp σ ρ (v :: vs) (.str j :: ds) H) : v = .str j := by
  obtain ⟨A, F, f⟩ := W
  cases f.reps with
  | cons a b i j k => cases a; rfl
theorem World.isNon (W : World K G kp σ ρ (v :: vs) (.non :: ds) H) : v = .non := by
  obtain ⟨A, F, f⟩ := W
  cases f.reps with
  | cons a b i j k => cases a; rfl
theorem World.isOpq (W : World K G kp σ ρ (v :: vs) (.opq w :: ds) H) : v = w := by
  obtain ⟨A, F, f⟩ := W
  cases f.reps with
  | cons a b i j k => cases a; rfl
/-- a tuple is opened -/
theorem World.untup (W : World K G kp σ ρ (v :: vs) (.tup es :: ds) H) : ∃ a us, v = .ref a ∧ TupD K H a us ∧ us.length = es.length ∧ World K G kp σ ρ (us ++ vs) (es ++ ds) H := by
  obtain ⟨A, F, f⟩ := W
  have q := f.reps
  have lv := f.lv
  cases q with
  | cons a b i j k =>
    rename_i B C
    cases a with
    | tup s q =>
      refine ⟨_, _, rfl, s, q.length, fun x => B x ∨ C x, F, f.rep _ ?_ (by simp [q.length] at lv ⊢; exact lv) fun x h => h.elim (i x) (j x)⟩
      rw [List.append_assoc, List.append_assoc]
      exact q.join b k
/-- .. looked at -/
theorem World.isTup (W : World K G kp σ ρ (v :: vs) (.tup es :: ds) H) : ∃ a us, v = .ref a ∧ TupD K H a us ∧ us.length = es.length := by
  obtain ⟨a, us, h1, h2, h3, _⟩ := W.untup
  exact ⟨a, us, h1, h2, h3⟩
theorem tabs_laid {T : List (Addr × Str)} {o : HO} (t : LamX.Tabs T H) (hp : H p = none) : LamX.Tabs T (upd H p o) := t.ext fun b u q => by
  rw [upd_ne (ne_of_none q hp)]
  exact q
theorem agr_laid {A F : AS} {o : HO} (hp : H p = none) : Agr A F H (upd H p o) := fun b u q _ => by
  rw [upd_ne (ne_of_none q hp)]
  exact q
/-- a new object; what it owns -/
theorem Fits.laid {o : HO} (f : Fits K G kp σ ρ vs ds H A F) (hp : H p = none) (A' : AS) (r : Reps K (upd H p o) F (us ++ sv σ) (es ++ ρ) A') (l : us.length = es.length) (s : ∀ x, A' x → A x ∨ (x = p ∧ isOwn o)) : Fits K G kp σ ρ us es (upd H p o) A' F where
  reps := r
  lv := l
  ls := f.ls
  sn := f.sn
  non := f.non
  sep := fun a h => by
    rcases s a h with h | ⟨rfl, _⟩
    · exact f.sep a h
    · intro z
      obtain ⟨u, e, _⟩ := f.trk _ z
      rw [hp] at e; cases e
  own := fun a h => by
    rcases s a h with h | ⟨rfl, h⟩
    · obtain ⟨u, e, q⟩ := f.own a h
      exact ⟨u, by rw [upd_ne (ne_of_none e hp)]; exact e, q⟩
    · exact ⟨o, upd_same, h⟩
  trk := fun a h => by
    obtain ⟨u, e, q⟩ := f.trk a h
    exact ⟨u, by rw [upd_ne (ne_of_none e hp)]; exact e, q⟩
  src := fun a h => by
    rcases s a h with h | ⟨rfl, _⟩
    · exact f.src a h
    · exact .inr (f.al _ (.none hp))
  srf := f.srf
  fr := fun a u e n nt => by
    have q := f.fr a u e n nt
    rw [upd_ne (ne_of_none q hp)]
    exact q
  al := fun a e => by
    by_cases h : a = p
    · rw [h]; exact f.al _ (.none hp)
    · exact f.al a fun u z => e u (by rw [upd_ne h]; exact z)
  tab := tabs_laid f.tab hp
  kps := f.kps
theorem World.laid {o : HO} (W : World K G kp σ ρ vs ds H) (hp : H p = none) : World K G kp σ ρ vs ds (upd H p o) := by
  obtain ⟨A, F, f⟩ := W
  exact ⟨A, F, f.laid hp A (f.reps.agr (agr_laid hp) fun _ h => h) f.lv fun x h => .inl h⟩
theorem World.newTup (W : World K G kp σ ρ (us ++ vs) (es ++ ds) H) (l : us.length = es.length) (hp : H p = none) {o : Obj} (ho : o.dict = none) : World K G kp σ ρ (.ref p :: vs) (.tup es :: ds) (upd H p (.frz o (.tup us))) := by
  obtain ⟨A, F, f⟩ := W
  have r := f.reps
  have lv := f.lv
  rw [List.append_assoc, List.append_assoc] at r
  obtain ⟨B, C, r1, r2, h1, h2, h3⟩ := r.split l
  refine ⟨fun x => B x ∨ C x, F, f.laid hp _ ?_ (by simp [l] at lv ⊢; exact lv) fun x h => .inl (h.elim (h1 x) (h2 x))⟩
  exact .cons (B := B) (C := C) (.tup (.inl ⟨o, upd_same, ho⟩) (r1.agr (agr_laid hp) fun _ h => h)) (r2.agr (agr_laid hp) fun _ h => h) (fun x h => .inl h) (fun x h => .inr h) h3
theorem World.newLst (W : World K G kp σ ρ (us ++ vs) (es ++ ds) H) (l : us.length = es.length) (hp : H p = none) : World K G kp σ ρ (.ref p :: vs) (.lst .own es :: ds) (upd H p (.lst us)) := by
  obtain ⟨A, F, f⟩ := W
  have r := f.reps
  have lv := f.lv
  have na : ¬ A p := fun z => by
    obtain ⟨u, e, _⟩ := f.own _ z
    rw [hp] at e; cases e
  rw [List.append_assoc, List.append_assoc] at r
  obtain ⟨B, C, r1, r2, h1, h2, h3⟩ := r.split l
  refine ⟨fun x => (B x ∨ x = p) ∨ C x, F, f.laid hp _ ?_ (by simp [l] at lv ⊢; exact lv) fun x h => ?_⟩
  · exact .cons (B := fun x => B x ∨ x = p) (C := C) (.own upd_same (.inr rfl) (r1.agr (agr_laid hp) fun _ h => h) fun x h => ⟨.inl h, fun z => na (h1 _ (z ▸ h))⟩) (r2.agr (agr_laid hp) fun _ h => h) (fun x h => .inl h) (fun x h => .inr h)
      fun x h q => h.elim (fun z => h3 x z q) fun z => na (h2 _ (z ▸ q))
  · rcases h with (h | h) | h
    · exact .inl (h1 x h)
    · exact .inr ⟨h, trivial⟩
    · exact .inl (h2 x h)
/-- the slots -/
theorem sv_get {i : Nat} {v : V} (h : (sv σ)[i]? = some v) : ∃ o : Option V, σ[i]? = some o ∧ o.getD .non = v := by
  unfold sv at h
  rw [List.getElem?_map] at h
  cases e : σ[i]? with
  | none => rw [e] at h; cases h
  | some o => rw [e] at h; exact ⟨o, rfl, Option.some.inj h⟩
theorem Fits.slot (f : Fits K G kp σ ρ vs ds H A F) (h : ρ[i]? = some d) (n : d ≠ .gone) {v : V} (hv : (vs ++ sv σ)[vs.length + i]? = some v) : σ[i]? = some (some v) := by
  rw [List.getElem?_append_right (Nat.le_add_right ..), Nat.add_sub_cancel_left] at hv
  obtain ⟨o, e, q⟩ := sv_get hv
  cases o with
  | none =>
    have z := f.non i e
    rw [h] at z
    exact absurd (Option.some.inj z) n
  | some u => rw [e]; exact congrArg (fun z => some (some z)) q
theorem Fits.at_ (f : Fits K G kp σ ρ vs ds H A F) (h : ρ[i]? = some d) : (ds ++ ρ)[vs.length + i]? = some d := by
  rw [f.lv, List.getElem?_append_right (Nat.le_add_right ..), Nat.add_sub_cancel_left]
  exact h
theorem World.copy (W : World K G kp σ ρ vs ds H) (h : ρ[i]? = some d) (n : d ≠ .gone) (s : d.solid = true) : ∃ v, σ[i]? = some (some v) ∧ World K G kp σ ρ (v :: vs) (d :: ds) H := by
  obtain ⟨A, F, f⟩ := W
  obtain ⟨v, hv, r⟩ := f.reps.copy (f.at_ h) s
  exact ⟨v, f.slot h n hv, A, F, f.rep A (f.reps.push r) (by simpa using f.lv) fun _ h => h⟩
theorem Fits.setr (f : Fits K G kp σ ρ vs ds H A F) (A' : AS) (r : Reps K H F (us ++ sv σ) (es ++ ρ.set i d) A') (l : us.length = es.length) (s : ∀ x, A' x → A x) (h : ∀ j : Nat, σ[j]? = some none → (ρ.set i d)[j]? = some D.gone) : Fits K G kp σ (ρ.set i d) us es H A' F :=
  ⟨r, l, by rw [List.length_set]; exact f.ls, f.sn, h, fun a h => f.sep a (s a h), fun a h => f.own a (s a h), f.trk, fun a h => f.src a (s a h), f.srf, f.fr, f.al, f.tab, f.kps⟩
theorem set_app {α : Type} (l r : List α) (i : Nat) (x : α) : (l ++ r).set (l.length + i) x = l ++ r.set i x := by
  rw [List.set_append_right (l.length + i) x (Nat.le_add_right ..), Nat.add_sub_cancel_left]
theorem World.take (W : World K G kp σ ρ vs ds H) (h : ρ[i]? = some d) (n : d ≠ .gone) : ∃ v, σ[i]? = some (some v) ∧ World K G kp σ (ρ.set i .gone) (v :: vs) (d :: ds) H := by
  obtain ⟨A, F, f⟩ := W
  obtain ⟨v, hv, r⟩ := f.reps.pick (f.at_ h)
  refine ⟨v, f.slot h n hv, A, F, f.setr A ?_ (by simpa using f.lv) (fun _ h => h) fun j hj => ?_⟩
  · rw [f.lv, set_app] at r
    exact r
  · by_cases e : i = j
    · subst e
      rw [List.getElem?_set_self (List.getElem?_eq_some_iff.mp h).1]
    · rw [List.getElem?_set_ne e]; exact f.non j hj
theorem World.give (W : World K G kp σ ρ (v :: vs) (d :: ds) H) (h : σ[i]? = some (some v)) : World K G kp σ (ρ.set i d) vs ds H := by
  obtain ⟨A, F, f⟩ := W
  have r : Reps K H F ((vs ++ sv σ).set (vs.length + i) v) ((ds ++ ρ).set (vs.length + i) d) A := f.reps.replace (i := vs.length + i)
  have lv : vs.length = ds.length := by simpa using f.lv
  refine ⟨A, F, f.setr A ?_ lv (fun _ h => h) fun j hj => ?_⟩
  · have e1 : (vs ++ sv σ).set (vs.length + i) v = vs ++ sv σ := by
      rw [set_app]
      congr 1
      refine List.ext_getElem? fun j => ?_
      by_cases e : i = j
      · subst e
        have hi : i < (sv σ).length := by rw [sv_length]; exact (List.getElem?_eq_some_iff.mp h).1
        rw [List.getElem?_set_self hi]
        unfold sv
        rw [List.getElem?_map, h]
        rfl
      · rw [List.getElem?_set_ne e]
    have e2 : (ds ++ ρ).set (vs.length + i) d = ds ++ ρ.set i d := by rw [lv, set_app]
    rw [e1, e2] at r
    exact r
  · by_cases e : i = j
    · subst e; rw [h] at hj; cases hj
    · rw [List.getElem?_set_ne e]; exact f.non j hj
theorem sv_set {o : Option V} : sv (σ.set i o) = (sv σ).set i (o.getD .non) := by unfold sv; rw [List.map_set]
theorem World.store (W : World K G kp σ ρ (v :: vs) (d :: ds) H) (hk : kp.getD i false = false) : World K G kp (σ.set i (some v)) (ρ.set i d) vs ds H := by
  obtain ⟨A, F, f⟩ := W
  have r : Reps K H F ((vs ++ sv σ).set (vs.length + i) v) ((ds ++ ρ).set (vs.length + i) d) A := f.reps.replace (i := vs.length + i)
  have lv : vs.length = ds.length := by simpa using f.lv
  have e2 : (ds ++ ρ).set (vs.length + i) d = ds ++ ρ.set i d := by rw [lv, set_app]
  have e1 : (vs ++ sv σ).set (vs.length + i) v = vs ++ sv (σ.set i (some v)) := by rw [set_app, sv_set]; rfl
  rw [e1, e2] at r
  refine ⟨A, F, r, lv, by rw [List.length_set, List.length_set]; exact f.ls, by rw [List.length_set]; exact f.sn, fun j hj => ?_, f.sep, f.own, f.trk, f.src, f.srf, f.fr, f.al, f.tab, fun j hj => ?_⟩
  · by_cases e : i = j
    · subst e
      by_cases hl : i < σ.length
      · rw [List.getElem?_set_self hl] at hj; cases hj
      · rw [List.getElem?_eq_none (by simpa using hl)] at hj; cases hj
    · rw [List.getElem?_set_ne e] at hj ⊢; exact f.non j hj
  · have ne : i ≠ j := fun e => by
      rw [← e, hk] at hj
      cases hj
    rw [List.getElem?_set_ne ne]
    exact f.kps j hj
/-- a slot is forgotten -/
theorem World.forget (W : World K G kp σ ρ vs ds H) : World K G kp σ (ρ.set i .gone) vs ds H := by
  obtain ⟨A, F, f⟩ := W
  have e2 : (ds ++ ρ).set (vs.length + i) .gone = ds ++ ρ.set i .gone := by rw [f.lv, set_app]
  have r : Reps K H F (vs ++ sv σ) (ds ++ ρ.set i .gone) A := by
    cases h : ρ[i]? with
    | none =>
      rw [List.set_eq_of_length_le (List.getElem?_eq_none_iff.mp h)]
      exact f.reps
    | some d =>
      obtain ⟨v, hv, q⟩ := f.reps.pick (f.at_ h)
      rw [f.lv, set_app] at q
      exact q.tail
  refine ⟨A, F, f.setr A r f.lv (fun _ h => h) fun j hj => ?_⟩
  by_cases e : i = j
  · subst e
    have h := f.non i hj
    rw [List.getElem?_set_self (List.getElem?_eq_some_iff.mp h).1]
  · rw [List.getElem?_set_ne e]; exact f.non j hj
/-- the top is frozen -/
theorem World.frzTop (W : World K G kp σ ρ (v :: vs) (d :: ds) H) : World K G kp σ ρ (v :: vs) (d.frz :: ds) H := by
  obtain ⟨A, F, f⟩ := W
  have r := f.reps
  cases r with
  | cons a b i j k =>
    rename_i B C
    refine ⟨C, fun x => F x ∨ B x, ⟨.cons (B := M0) (C := C) (a.frz (fun x h => .inr h) fun x h => .inl h) (b.agr (fun _ _ e _ => e) fun x h => .inl h) (fun _ h => h.elim) (fun _ h => h) fun _ h _ => h, by simpa using f.lv, f.ls, f.sn, f.non, fun a h q => ?_, fun a h => f.own a (j a h), fun a h => ?_, fun a h => f.src a (j a h), fun a h => ?_, f.fr, f.al, f.tab, f.kps⟩⟩
    · rcases q with q | q
      · exact f.sep a (j a h) q
      · exact k a q h
    · exact h.elim (f.trk a) fun z => f.own a (i a z)
    · rcases h with h | h
      · exact f.srf a h
      · exact (f.src a (i a h)).elim .inl fun z => .inr (.inr z)
/-- the kids of the top are frozen -/
def frzK : D → D
  | .tup es => .tup (frzs es)
  | .lst m es => .lst m (frzs es)
  | .dct m ks es => .dct m ks (frzs es)
  | d => d
theorem World.frzKids (W : World K G kp σ ρ (v :: vs) (d :: ds) H) : World K G kp σ ρ (v :: vs) (frzK d :: ds) H := by
  obtain ⟨A, F, f⟩ := W
  have r := f.reps
  cases r with
  | cons a b i j k =>
    rename_i B C
    have go : ∀ B' Z : AS, (∀ x, Z x → B x) → (∀ x, B' x → B x) → (∀ x, B' x → ¬ Z x) → Rep K H (fun x => F x ∨ Z x) v (frzK d) B' → World K G kp σ ρ (v :: vs) (frzK d :: ds) H := fun B' Z hz hb hn r =>
      ⟨fun x => B' x ∨ C x, fun x => F x ∨ Z x, .cons (B := B') (C := C) r (b.agr (fun _ _ e _ => e) fun x h => .inl h) (fun x h => .inl h) (fun x h => .inr h) (fun x h q => k x (hb x h) q), by simpa using f.lv, f.ls, f.sn, f.non,
        fun a h q => by
          rcases h with h | h
          · rcases q with q | q
            · exact f.sep a (i a (hb a h)) q
            · exact hn a h q
          · rcases q with q | q
            · exact f.sep a (j a h) q
            · exact k a (hz a q) h,
        fun a h => h.elim (fun z => f.own a (i a (hb a z))) fun z => f.own a (j a z),
        fun a h => h.elim (f.trk a) fun z => f.own a (i a (hz a z)),
        fun a h => h.elim (fun z => f.src a (i a (hb a z))) fun z => f.src a (j a z),
        fun a h => by
          rcases h with h | h
          · exact f.srf a h
          · exact (f.src a (i a (hz a h))).elim .inl fun z => .inr (.inr z),
        f.fr, f.al, f.tab, f.kps⟩
    have same : frzK d = d → World K G kp σ ρ (v :: vs) (frzK d :: ds) H := fun e => by rw [e]; exact ⟨A, F, f⟩
    cases a with
    | gone => exact same rfl
    | non => exact same rfl
    | bl => exact same rfl
    | int => exact same rfl
    | str => exact same rfl
    | opq => exact same rfl
    | tup s q => exact go M0 B (fun _ h => h) (fun _ h => h.elim) (fun _ h _ => h) (.tup s (q.frz (fun x h => .inr h) fun x h => .inl h))
    | own e a q s =>
      rename_i ad us es B1
      exact go (fun x => x = ad) B1 (fun x h => (s x h).1) (fun x h => h ▸ a) (fun x h q => (s x q).2 h) (.own e rfl (q.frz (fun x h => .inr h) fun x h => .inl h) fun _ h => h.elim)
    | shr e a q => exact go M0 M0 (fun _ h => h.elim) (fun _ h => h.elim) (fun _ h _ => h) (.shr e (.inl a) (q.frz (fun x h => h.elim) fun x h => .inl h))
    | con c q => exact go M0 M0 (fun _ h => h.elim) (fun _ h => h.elim) (fun _ h _ => h) (.con c (q.frz (fun x h => h.elim) fun x h => .inl h))
    | dOwn e kk a q s =>
      rename_i ad kvs ks es B1
      exact go (fun x => x = ad) B1 (fun x h => (s x h).1) (fun x h => h ▸ a) (fun x h q => (s x q).2 h) (.dOwn e kk rfl (q.frz (fun x h => .inr h) fun x h => .inl h) fun _ h => h.elim)
    | dShr e kk a q => exact go M0 M0 (fun _ h => h.elim) (fun _ h => h.elim) (fun _ h _ => h) (.dShr e kk (.inl a) (q.frz (fun x h => h.elim) fun x h => .inl h))
/-- a list on top, read; its kids, where they are solid -/
theorem World.isLst {m : M} (W : World K G kp σ ρ (v :: vs) (.lst m es :: ds) H) : ∃ a us, v = .ref a ∧ SqL K H a us ∧ us.length = es.length ∧ (m = .own ∨ m = .shr → H a = some (.lst us)) ∧ ((solids es = true ∨ m ≠ .own) → World K G kp σ ρ (us ++ v :: vs) (es ++ .lst m es :: ds) H) := by
  obtain ⟨A, F, f⟩ := W
  have r := f.reps
  have lv := f.lv
  have fin : ∀ us : List V, us.length = es.length → Reps K H F us es M0 → World K G kp σ ρ (us ++ v :: vs) (es ++ .lst m es :: ds) H := fun us l q => by
    refine ⟨fun x => M0 x ∨ A x, F, f.rep _ ?_ (by simp [l] at lv ⊢; exact lv) fun x h => h.elim (fun z => z.elim) fun z => z⟩
    rw [List.append_assoc, List.append_assoc]
    exact q.join f.reps fun _ h => h.elim
  cases r with
  | cons a b i j k =>
    cases a with
    | own e a q s => exact ⟨_, _, rfl, .inl (.inl e), q.length, fun _ => e, fun h => h.elim (fun z => fin _ q.length (q.solid z)) fun z => absurd rfl z⟩
    | shr e a q => exact ⟨_, _, rfl, .inl (.inl e), q.length, fun _ => e, fun _ => fin _ q.length q⟩
    | con c q => exact ⟨_, _, rfl, c.sq, q.length, (fun h => by rcases h with z | z <;> cases z), fun _ => fin _ q.length q⟩
theorem World.tupKids (W : World K G kp σ ρ (v :: vs) (.tup es :: ds) H) (s : solids es = true) : ∃ a us, v = .ref a ∧ TupD K H a us ∧ us.length = es.length ∧ World K G kp σ ρ (us ++ v :: vs) (es ++ .tup es :: ds) H := by
  obtain ⟨A, F, f⟩ := W
  have r := f.reps
  have lv := f.lv
  cases r with
  | cons a b i j k =>
    cases a with
    | tup e q =>
      rename_i us
      refine ⟨_, _, rfl, e, q.length, fun x => M0 x ∨ A x, F, f.rep _ ?_ (by simp [q.length] at lv ⊢; exact lv) fun x h => h.elim (fun z => z.elim) fun z => z⟩
      rw [List.append_assoc, List.append_assoc]
      exact (q.solid s).join f.reps fun _ h => h.elim
/-- a tuple, a list on top whose kids are solid: what may be made of them -/
theorem World.tupW (W : World K G kp σ ρ (v :: vs) (.tup es :: ds) H) (s : solids es = true) : ∃ a us, v = .ref a ∧ TupD K H a us ∧ us.length = es.length ∧
    ∀ (vs' : List V) (ds' : List D), (∀ F A, Reps K H F us es M0 → Reps K H F (v :: vs ++ sv σ) (.tup es :: ds ++ ρ) A → Reps K H F (vs' ++ sv σ) (ds' ++ ρ) A) → vs'.length = ds'.length → World K G kp σ ρ vs' ds' H := by
  obtain ⟨A, F, f⟩ := W
  have r := f.reps
  cases r with
  | cons a b i j k =>
    cases a with
    | tup e q => exact ⟨_, _, rfl, e, q.length, fun vs' ds' h l => ⟨A, F, f.rep A (h F A (q.solid s) (.cons (.tup e q) b i j k)) l fun _ h => h⟩⟩
theorem World.lstW {m : M} (W : World K G kp σ ρ (v :: vs) (.lst m es :: ds) H) (s : solids es = true) : ∃ a us, v = .ref a ∧ SqL K H a us ∧ (m ≠ .con → H a = some (.lst us)) ∧ us.length = es.length ∧
    ∀ (vs' : List V) (ds' : List D), (∀ F A, Reps K H F us es M0 → Reps K H F (v :: vs ++ sv σ) (.lst m es :: ds ++ ρ) A → Reps K H F (vs' ++ sv σ) (ds' ++ ρ) A) → vs'.length = ds'.length → World K G kp σ ρ vs' ds' H := by
  obtain ⟨A, F, f⟩ := W
  have r := f.reps
  cases r with
  | cons a b i j k =>
    cases a with
    | own e a q t => exact ⟨_, _, rfl, .inl (.inl e), fun _ => e, q.length, fun vs' ds' h l => ⟨A, F, f.rep A (h F A (q.solid s) (.cons (.own e a q t) b i j k)) l fun _ h => h⟩⟩
    | shr e a q => exact ⟨_, _, rfl, .inl (.inl e), fun _ => e, q.length, fun vs' ds' h l => ⟨A, F, f.rep A (h F A q (.cons (.shr e a q) b i j k)) l fun _ h => h⟩⟩
    | con c q => exact ⟨_, _, rfl, c.sq, (fun h => absurd rfl h), q.length, fun vs' ds' h l => ⟨A, F, f.rep A (h F A q (.cons (.con c q) b i j k)) l fun _ h => h⟩⟩
theorem World.lstX {m : M} (W : World K G kp σ ρ (v :: vs) (.lst m es :: ds) H) (s : solids es = true) : ∃ a us, v = .ref a ∧ SqL K H a us ∧ (m ≠ .con → H a = some (.lst us)) ∧ us.length = es.length ∧ (∃ F, Reps K H F us es M0) ∧
    ∀ (vs' : List V) (ds' : List D), (∀ F A, Reps K H F us es M0 → Reps K H F (v :: vs ++ sv σ) (.lst m es :: ds ++ ρ) A → Reps K H F (vs' ++ sv σ) (ds' ++ ρ) A) → vs'.length = ds'.length → World K G kp σ ρ vs' ds' H := by
  obtain ⟨A, F, f⟩ := W
  have r := f.reps
  cases r with
  | cons a b i j k =>
    cases a with
    | own e a q t => exact ⟨_, _, rfl, .inl (.inl e), fun _ => e, q.length, ⟨F, q.solid s⟩, fun vs' ds' h l => ⟨A, F, f.rep A (h F A (q.solid s) (.cons (.own e a q t) b i j k)) l fun _ h => h⟩⟩
    | shr e a q => exact ⟨_, _, rfl, .inl (.inl e), fun _ => e, q.length, ⟨F, q⟩, fun vs' ds' h l => ⟨A, F, f.rep A (h F A q (.cons (.shr e a q) b i j k)) l fun _ h => h⟩⟩
    | con c q => exact ⟨_, _, rfl, c.sq, (fun h => absurd rfl h), q.length, ⟨F, q⟩, fun vs' ds' h l => ⟨A, F, f.rep A (h F A q (.cons (.con c q) b i j k)) l fun _ h => h⟩⟩
/-- one of the temporaries ahead stays, the others go -/
theorem World.nth (W : World K G kp σ ρ (us ++ vs) (es ++ ds) H) (l : us.length = es.length) (h : es[i]? = some d) : ∃ v, us[i]? = some v ∧ World K G kp σ ρ (v :: vs) (d :: ds) H := by
  obtain ⟨A, F, f⟩ := W
  have r := f.reps
  have lv := f.lv
  rw [List.append_assoc, List.append_assoc] at r
  obtain ⟨B, C, r1, r2, h1, h2, h3⟩ := r.split l
  obtain ⟨v, hv, q⟩ := r1.pick h
  refine ⟨v, hv, fun x => B x ∨ C x, F, f.rep _ ?_ (by simp [l] at lv ⊢; exact lv) fun x h => h.elim (h1 x) (h2 x)⟩
  cases q with
  | cons a b i j k => exact .cons (C := C) a r2 (fun x h => .inl (i x h)) (fun x h => .inr h) fun x h q => h3 x (i x h) q
theorem World.dropN (W : World K G kp σ ρ (us ++ vs) (es ++ ds) H) (l : us.length = es.length) : World K G kp σ ρ vs ds H := by
  obtain ⟨A, F, f⟩ := W
  have r := f.reps
  have lv := f.lv
  rw [List.append_assoc, List.append_assoc] at r
  obtain ⟨B, C, r1, r2, h1, h2, h3⟩ := r.split l
  exact ⟨C, F, f.rep _ r2 (by simp [l] at lv; exact lv) h2⟩
theorem Reps.rot : ∀ {us : List V} {es : List D} {A : AS}, us.length = es.length → Reps K H F (us ++ v :: vs) (es ++ d :: ds) A → Reps K H F (v :: (us ++ vs)) (d :: (es ++ ds)) A
  | [], [], _, _, r => r
  | u :: us, e :: es, _, l, .cons a b i j k => Reps.swap (.cons a (Reps.rot (us := us) (es := es) (by simpa using l) b) i j k)
  | [], _ :: _, _, l, _ => by simp at l
  | _ :: _, [], _, l, _ => by simp at l
theorem World.rot (W : World K G kp σ ρ (us ++ v :: vs) (es ++ d :: ds) H) (l : us.length = es.length) : World K G kp σ ρ (v :: (us ++ vs)) (d :: (es ++ ds)) H := W.temps (fun F A r => by
    rw [List.append_assoc, List.append_assoc] at r
    have q := Reps.rot (vs := vs ++ sv σ) (ds := ds ++ ρ) l (by simpa using r)
    simpa [List.append_assoc] using q) (by have := W.lv; simp [l] at this ⊢; omega)
theorem Reps.tor : ∀ {us : List V} {es : List D} {A : AS}, us.length = es.length → Reps K H F (v :: (us ++ vs)) (d :: (es ++ ds)) A → Reps K H F (us ++ v :: vs) (es ++ d :: ds) A
  | [], [], _, _, r => r
  | u :: us, e :: es, _, l, r => by
    have r := Reps.swap r
    cases r with
    | cons a b i j k => exact .cons a (Reps.tor (us := us) (es := es) (by simpa using l) b) i j k
  | [], _ :: _, _, l, _ => by simp at l
  | _ :: _, [], _, l, _ => by simp at l
theorem Reps.under {vs' : List V} {ds' : List D} (l : us.length = es.length) (h : ∀ A, Reps K H F vs ds A → Reps K H F vs' ds' A) (r : Reps K H F (us ++ vs) (es ++ ds) A) : Reps K H F (us ++ vs') (es ++ ds') A := by
  obtain ⟨B, C, r1, r2, h1, h2, h3⟩ := r.split l
  exact (r1.join (h C r2) h3).mono fun x h => h.elim (h1 x) (h2 x)
theorem World.under {vs' : List V} {ds' : List D} (W : World K G kp σ ρ (us ++ vs) (es ++ ds) H) (l : us.length = es.length) (h : ∀ F A, Reps K H F (vs ++ sv σ) (ds ++ ρ) A → Reps K H F (vs' ++ sv σ) (ds' ++ ρ) A) (l' : vs'.length = ds'.length) : World K G kp σ ρ (us ++ vs') (es ++ ds') H :=
  W.temps (fun F A r => by
    rw [List.append_assoc, List.append_assoc] at r ⊢
    exact r.under l (h F)) (by rw [List.length_append, List.length_append, l, l'])
theorem World.tor (W : World K G kp σ ρ (v :: (us ++ vs)) (d :: (es ++ ds)) H) (l : us.length = es.length) : World K G kp σ ρ (us ++ v :: vs) (es ++ d :: ds) H := W.temps (fun F A r => by
    have q := Reps.tor (K := K) (H := H) (F := F) (v := v) (d := d) (us := us) (es := es) (vs := vs ++ sv σ) (ds := ds ++ ρ) (A := A) l (by simpa using r)
    simpa [List.append_assoc] using q) (by have := W.lv; simp [l] at this ⊢; omega)
theorem World.swapU (W : World K G kp σ ρ (us ++ v :: w :: vs) (es ++ d :: e :: ds) H) (l : us.length = es.length) : World K G kp σ ρ (us ++ w :: v :: vs) (es ++ e :: d :: ds) H :=
  W.under l (fun _ _ r => Reps.swap r) (by have := W.lv; simp [l] at this ⊢; omega)
/-- for a call: the arguments' part, and back -/
def Enter (K : PySem.W.Frag) (T : List (Addr × Str)) (vs : List V) (ds : List D) (H : Hp) (A F : AS) : Prop :=
  Reps K H F vs ds A ∧ (∀ a, A a → ¬ F a) ∧ (∀ a, A a → ∃ o, H a = some o ∧ isOwn o) ∧ (∀ a, F a → ∃ o, H a = some o ∧ isOwn o) ∧ LamX.Tabs T H
theorem not_tbl {o : HO} (h : isOwn o) : ∀ ps, o ≠ .tbl ps := fun ps z => by rw [z] at h; exact h
theorem World.call (W : World K G kp σ ρ (us ++ vs) (es ++ ds) H) (l : us.length = es.length) : ∃ A F, Enter K G.T us es H A F ∧
    ∀ ws fs H', ws.length = fs.length → World K ⟨H, A, F, G.T, us.map some, 0⟩ [] [] [] ws fs H' → World K G kp σ ρ (ws ++ vs) (fs ++ ds) H' := by
  obtain ⟨A, F, f⟩ := W
  have r := f.reps
  have lv := f.lv
  rw [List.append_assoc, List.append_assoc] at r
  obtain ⟨B, C, r1, r2, h1, h2, h3⟩ := r.split l
  refine ⟨B, F, ⟨r1, fun a h => f.sep a (h1 a h), fun a h => f.own a (h1 a h), f.trk, f.tab⟩, fun ws fs H' lw W' => ?_⟩
  obtain ⟨A', F', g⟩ := W'
  have fre : ∀ a, Nw H a → ¬ F a := fun a e z => by
    obtain ⟨o, q, w⟩ := f.trk a z
    exact e.not q (not_tbl w)
  have freC : ∀ a, Nw H a → ¬ C a := fun a e z => by
    obtain ⟨o, q, w⟩ := f.own a (h2 a z)
    exact e.not q (not_tbl w)
  have keepC : ∀ a o, H a = some o → C a → H' a = some o := fun a o e c => by
    obtain ⟨o', e', q⟩ := f.own a (h2 a c)
    rw [e] at e'; cases e'
    exact g.fr a o e (fun z => h3 a z c) (not_tbl q)
  have keepF : ∀ a o, H a = some o → F a → H' a = some o := fun a o e c => by
    obtain ⟨o', e', q⟩ := f.trk a c
    rw [e] at e'; cases e'
    exact g.fr a o e (fun z => f.sep a (h1 a z) c) (not_tbl q)
  have agr : Agr C F H H' := fun a o e q => by
    rcases q with q | q | q
    · exact keepC a o e q
    · exact keepF a o e q
    · refine g.fr a o e (fun z => ?_) (fun ps z => by rw [z] at q; exact q)
      obtain ⟨o', e', q'⟩ := f.own a (h1 a z)
      rw [e] at e'; cases e'
      cases o <;> first | exact q.elim | exact q'.elim
  have rw1 : Reps K H' F' ws fs A' := by simpa [sv] using g.reps
  refine ⟨fun x => A' x ∨ C x, fun x => F x ∨ F' x, ?_, by simp [l] at lv; simp [lw, lv], f.ls, f.sn, f.non, fun a h q => ?_, fun a h => ?_, fun a h => ?_, fun a h => ?_, fun a h => ?_, fun a o e n nt => ?_, fun a e => f.al a (g.al a e), g.tab, f.kps⟩
  · rw [List.append_assoc, List.append_assoc]
    refine (rw1.agr (fun _ _ e _ => e) fun x h => .inr h).join (r2.agr agr fun x h => .inl h) fun x h q => ?_
    rcases g.src x h with z | z
    · exact h3 x z q
    · exact freC x z q
  · rcases h with h | h
    · rcases q with q | q
      · rcases g.src a h with z | z
        · exact f.sep a (h1 a z) q
        · exact fre a z q
      · exact g.sep a h q
    · rcases q with q | q
      · exact f.sep a (h2 a h) q
      · rcases g.srf a q with z | z | z
        · exact h3 a z h
        · exact f.sep a (h2 a h) z
        · exact freC a z h
  · rcases h with h | h
    · exact g.own a h
    · obtain ⟨o, e, q⟩ := f.own a (h2 a h)
      exact ⟨o, keepC a o e h, q⟩
  · rcases h with h | h
    · obtain ⟨o, e, q⟩ := f.trk a h
      exact ⟨o, keepF a o e h, q⟩
    · exact g.trk a h
  · rcases h with h | h
    · rcases g.src a h with z | z
      · exact f.src a (h1 a z)
      · exact .inr (f.al a z)
    · exact f.src a (h2 a h)
  · rcases h with h | h
    · exact f.srf a h
    · rcases g.srf a h with z | z | z
      · exact (f.src a (h1 a z)).elim .inl fun z => .inr (.inr z)
      · exact f.srf a z
      · exact .inr (.inr (f.al a z))
  · refine g.fr a o (f.fr a o e n nt) (fun z => ?_) nt
    rcases f.src a (h1 a z) with q | q
    · exact n q
    · exact (q.not e nt).elim
/-- a def's entry and its end -/
def outs : List Bool → List D → List D
  | [], _ => []
  | b :: m, d :: r => (if b then d else .gone) :: outs m r
  | _ :: m, [] => .gone :: outs m []
theorem outs_rep : ∀ {kp : List Bool} {us : List V} {es : List D} {ws : List V} {A : AS}, Reps K H F us es A → ws.length = kp.length → kp.length ≤ us.length → (∀ j : Nat, kp.getD j false = true → us[j]? = ws[j]?) → Reps K H F ws (outs kp es) A
  | [], _, _, [], _, _, _, _, _ => .nil
  | [], _, _, _ :: _, _, _, l, _, _ => by simp at l
  | _ :: _, _, _, [], _, _, l, _, _ => by simp at l
  | b :: m, _, _, w :: ws, A, .nil, _, l, _ => by simp at l
  | b :: m, u :: us, e :: es, w :: ws, A, .cons (B := B) (C := C) p q i j k, l1, l2, h => by
    have r := outs_rep (kp := m) (ws := ws) q (by simpa using l1) (by simpa using l2) fun n hn => by simpa using h (n + 1) (by simpa using hn)
    show Reps K H F (w :: ws) ((if b = true then e else .gone) :: outs m es) A
    cases b with
    | false => exact .cons (B := M0) (C := C) .gone r (fun _ h => h.elim) j fun _ h => h.elim
    | true =>
      have e := h 0 rfl
      simp at e
      subst e
      exact .cons p r i j k
theorem World.begin_ {T : List (Addr × Str)} {N : List Str} {n : Nat} (h : Enter K T vs ds H A F) (hn : n = N.length - vs.length) (hk : ∀ j : Nat, kp.getD j false = true → j < vs.length) (hN : vs.length ≤ N.length) : World K ⟨H, A, F, T, vs.map some, N.length⟩ kp (L2.start N vs) (ds ++ List.replicate n .gone) [] [] H := by
  obtain ⟨r, sep, ow, tr, tb⟩ := h
  have l := r.length
  subst hn
  refine ⟨A, F, ?_, rfl, by simp [L2.start, l], by simp [L2.start]; omega, fun i hi => ?_, sep, ow, tr, fun a h => .inl h, fun a h => .inr (.inl h), fun _ _ e _ _ => e, fun _ e => e, tb, fun j hj => ?_⟩
  · show Reps K H F (sv (L2.start N vs)) _ A
    have e : sv (L2.start N vs) = vs ++ List.replicate (N.length - vs.length) .non := by simp [sv, L2.start, Function.comp_def]
    rw [e]
    have rr : ∀ k, Reps K H F (List.replicate k V.non) (List.replicate k D.gone) M0 := fun k => by
      induction k with
      | zero => exact .nil
      | succ k ih => exact .cons (B := M0) (C := M0) .gone ih (fun _ h => h) (fun _ h => h) fun _ h => h.elim
    exact (r.join (rr _) fun _ _ h => h).mono fun x h => h.elim id fun z => z.elim
  · unfold L2.start at hi
    by_cases hl : i < vs.length
    · rw [List.getElem?_append_left (by simpa using hl), List.getElem?_map, List.getElem?_eq_getElem hl] at hi
      cases hi
    · rw [List.getElem?_append_right (by simpa using hl), List.length_map] at hi
      obtain ⟨h1, _⟩ := List.getElem?_eq_some_iff.mp hi
      rw [List.length_replicate] at h1
      rw [List.getElem?_append_right (by omega), List.getElem?_replicate, if_pos (by omega)]
  · have hl := hk j hj
    unfold L2.start
    rw [List.getElem?_append_left (by simpa using hl)]
theorem World.end_ {H0 : Hp} {A0 F0 : AS} {T : List (Addr × Str)} {ws : List V} {n : Nat} (W : World K ⟨H0, A0, F0, T, ws.map some, n⟩ kp σ ρ vs ds H) (hl : kp.length = ws.length) (hs : ws.length ≤ n) : World K ⟨H0, A0, F0, T, ws.map some, 0⟩ [] [] [] (vs ++ ws) (ds ++ outs kp ρ) H := by
  obtain ⟨A, F, f⟩ := W
  have lo : ∀ (kp : List Bool) (ρ : List D), (outs kp ρ).length = kp.length := fun kp => by
    induction kp with
    | nil => intro ρ; rfl
    | cons b m ih => intro ρ; cases ρ <;> simp [outs, ih]
  obtain ⟨B, C, r1, r2, h1, h2, h3⟩ := f.reps.split f.lv
  have r3 : Reps K H F ws (outs kp ρ) C := outs_rep r2 hl.symm (by have := f.sn; rw [sv_length, hl, this]; exact hs) fun j hj => by
    have q := f.kps j hj
    unfold sv
    rw [List.getElem?_map, q]
    show Option.map _ ((ws.map some)[j]?) = _
    rw [List.getElem?_map]
    cases ws[j]? <;> rfl
  refine ⟨fun x => B x ∨ C x, F, by simpa [sv] using r1.join r3 h3, by rw [List.length_append, List.length_append, f.lv, lo, hl], rfl, rfl, fun i h => by simp at h, fun a h => f.sep a (h.elim (h1 a) (h2 a)), fun a h => f.own a (h.elim (h1 a) (h2 a)), f.trk, fun a h => f.src a (h.elim (h1 a) (h2 a)), f.srf, f.fr, f.al, f.tab, fun j hj => by simp at hj⟩
/-- an owned list rearranged, with temporaries ahead -/
theorem agr_upd {A F : AS} {o : HO} (h1 : ¬ A a) (h2 : ¬ F a) (h3 : ∃ u, H a = some u ∧ isOwn u) : Agr A F H (upd H a o) := fun b u e q => by
  have ne : b ≠ a := by
    rintro rfl
    rcases q with q | q | q
    · exact h1 q
    · exact h2 q
    · obtain ⟨u', e', o'⟩ := h3
      rw [e] at e'; cases e'
      cases u <;> first | exact q.elim | exact o'.elim
  rw [upd_ne ne]
  exact e
theorem tabs_upd {T : List (Addr × Str)} {o : HO} (t : LamX.Tabs T H) (h3 : ∃ u, H a = some u ∧ isOwn u) : LamX.Tabs T (upd H a o) := fun p hp => by
  obtain ⟨ps, e1, e2, e3⟩ := t p hp
  obtain ⟨u, e, q⟩ := h3
  have n1 : p.1 ≠ a := by
    rintro rfl
    rw [e] at e1; cases e1
    exact q
  refine ⟨ps, by rw [upd_ne n1]; exact e1, e2, fun pos cv hc => ?_⟩
  obtain ⟨c, e4, e5⟩ := e3 pos cv hc
  refine ⟨c, e4, ?_⟩
  have n2 : c ≠ a := by
    rintro rfl
    rw [e] at e5; cases e5
    exact q
  rw [upd_ne n2]
  exact e5
theorem Fits.written {o : HO} (f : Fits K G kp σ ρ vs ds H A F) (ha : A a) (ho : isOwn o) (A' : AS) (r : Reps K (upd H a o) F (us ++ sv σ) (es ++ ρ) A') (l : us.length = es.length) (s : ∀ x, A' x → A x) : Fits K G kp σ ρ us es (upd H a o) A' F where
  reps := r
  lv := l
  ls := f.ls
  sn := f.sn
  non := f.non
  sep := fun x h => f.sep x (s x h)
  own := fun x h => by
    by_cases e : x = a
    · rw [e]; exact ⟨o, upd_same, ho⟩
    · rw [upd_ne e]; exact f.own x (s x h)
  trk := fun x h => by
    by_cases e : x = a
    · rw [e]; exact ⟨o, upd_same, ho⟩
    · rw [upd_ne e]; exact f.trk x h
  src := fun x h => f.src x (s x h)
  srf := f.srf
  fr := fun x u e n nt => by
    have ne : x ≠ a := by
      rintro rfl
      rcases f.src _ ha with q | q
      · exact n q
      · exact (q.not e nt).elim
    rw [upd_ne ne]
    exact f.fr x u e n nt
  al := fun x e => by
    by_cases h : x = a
    · subst h; exact (e.not upd_same (not_tbl ho)).elim
    · exact f.al x fun u z => e u (by rw [upd_ne h]; exact z)
  tab := tabs_upd f.tab (f.own a ha)
  kps := f.kps
theorem World.relist (W : World K G kp σ ρ (xs ++ v :: vs) (fs ++ .lst .own es :: ds) H) (l : xs.length = fs.length) : ∃ a us, v = .ref a ∧ H a = some (.lst us) ∧ us.length = es.length ∧
    ∀ xs' fs' us' es', xs'.length = fs'.length → us'.length = es'.length → (∀ F B, Reps K H F (xs ++ us) (fs ++ es) B → Reps K H F (xs' ++ us') (fs' ++ es') B) → World K G kp σ ρ (xs' ++ v :: vs) (fs' ++ .lst .own es' :: ds) (upd H a (.lst us')) := by
  obtain ⟨A, F, f⟩ := W
  have r := f.reps
  have lv := f.lv
  rw [List.append_assoc, List.append_assoc] at r
  obtain ⟨B1, C1, r1, r2, h1, h2, h3⟩ := r.split l
  cases r2 with
  | cons q b i j k =>
    rename_i B2 C2
    cases q with
    | own e ha q s =>
      rename_i a us B3
      refine ⟨a, us, rfl, e, q.length, fun xs' fs' us' es' l' lu tr => ?_⟩
      have rj := tr F _ (r1.join q fun x p z => h3 x p (i x (s x z).1))
      have hA : A a := h2 a (i a ha)
      have hF : ¬ F a := f.sep a hA
      have nb : ¬ (B1 a ∨ B3 a) := fun z => z.elim (fun z => h3 a z (i a ha)) fun z => (s a z).2 rfl
      have ho := f.own a hA
      have rk := rj.agr (agr_upd (o := .lst us') nb hF ho) fun _ h => h
      obtain ⟨B, C, p1, p2, g1, g2, g3⟩ := rk.split l'
      have rest := b.agr (agr_upd (o := .lst us') (fun z => k a ha z) hF ho) fun _ h => h
      refine ⟨A, F, f.written hA (o := .lst us') trivial _ ?_ (by simp [l] at lv; simp [l']; exact lv) fun _ h => h⟩
      rw [List.append_assoc, List.append_assoc]
      have nr : ∀ x, (B1 x ∨ B3 x) → ¬ C2 x := fun x z q => z.elim (fun z => h3 x z (j x q)) fun z => k x (s x z).1 q
      refine (p1.join (C := fun x => (x = a ∨ C x) ∨ C2 x) (.cons (B := fun x => x = a ∨ C x) (C := C2) (.own upd_same (.inl rfl) p2 fun x h => ⟨.inr h, fun z => nb (g2 a (z ▸ h))⟩) rest (fun x h => .inl h) (fun x h => .inr h) fun x h q => ?_) fun x h q => ?_).mono fun x h => ?_
      · rcases h with rfl | h
        · exact k _ ha q
        · exact nr x (g2 x h) q
      · rcases q with (rfl | q) | q
        · exact nb (g1 _ h)
        · exact g3 x h q
        · exact nr x (g1 x h) q
      · rcases h with h | (rfl | h) | h
        · exact (g1 x h).elim (h1 x) fun z => h2 x (i x (s x z).1)
        · exact hA
        · exact (g2 x h).elim (h1 x) fun z => h2 x (i x (s x z).1)
        · exact h2 x (j x h)
end
end Bd

/-! Bd3: the judgements over data: DE (a value that is one's own), DB (a value that may be lent by a slot), DT (a test), DA (values in a row). -/
namespace Bd
open PySem PySem.Spec PyProof.Rows L2
abbrev WE := List D → (D → List D → Prop) → Prop
abbrev WB := List D → (D → Option Nat → List D → Prop) → Prop
abbrev WT := List D → (Bool → List D → Prop) → Prop
abbrev WA := List D → (List D → List D → Prop) → Prop
section
variable (K : PySem.W.Frag) (G : Gm) (kp : List Bool)
def tDE (w : WE) : TE := fun σ H Q => ∃ ρ vs ds, World K G kp σ ρ vs ds H ∧ w ρ fun d ρ' => ∀ v H', World K G kp σ ρ' (v :: vs) (d :: ds) H' → Q v H'
def tDB (w : WB) : TE := fun σ H Q => ∃ ρ vs ds, World K G kp σ ρ vs ds H ∧ w ρ fun d o ρ' => ∀ v H', World K G kp σ ρ' (v :: vs) (d :: ds) H' → (∀ i, o = some i → σ[i]? = some (some v)) → Q v H'
def tDT (w : WT) : TT := fun σ H Q => ∃ ρ vs ds, World K G kp σ ρ vs ds H ∧ w ρ fun b ρ' => ∀ H', World K G kp σ ρ' vs ds H' → Q b H'
def tDA (w : WA) : TA := fun σ H Q => ∃ ρ vs ds, World K G kp σ ρ vs ds H ∧ w ρ fun es ρ' => ∀ us H', us.length = es.length → World K G kp σ ρ' (us ++ vs) (es ++ ds) H' → Q us H'
end
structure DE (X : Cx) (G : Gm) (kp : List Bool) (e : Expr) (w : WE) : Prop where
  mono : ∀ ρ P P', (∀ d r, P d r → P' d r) → w ρ P → w ρ P'
  run : PE X e (tDE X.K G kp w)
structure DB (X : Cx) (G : Gm) (kp : List Bool) (e : Expr) (w : WB) : Prop where
  mono : ∀ ρ P P', (∀ d o r, P d o r → P' d o r) → w ρ P → w ρ P'
  run : PE X e (tDB X.K G kp w)
structure DT (X : Cx) (G : Gm) (kp : List Bool) (e : Expr) (w : WT) : Prop where
  mono : ∀ ρ P P', (∀ d r, P d r → P' d r) → w ρ P → w ρ P'
  run : PT X e (tDT X.K G kp w)
structure DW (X : Cx) (G : Gm) (kp : List Bool) (e : Expr) (w : WT) : Prop where
  mono : ∀ ρ P P', (∀ d r, P d r → P' d r) → w ρ P → w ρ P'
  run : PW X e (tDT X.K G kp w)
structure DA (X : Cx) (G : Gm) (kp : List Bool) (es : List Expr) (w : WA) : Prop where
  mono : ∀ ρ P P', (∀ d r, P d r → P' d r) → w ρ P → w ρ P'
  run : PA X es (tDA X.K G kp w)
theorem pe_imp {X : Cx} {e : Expr} {t t' : TE} (h : PE X e t) (i : ∀ σ H Q, t' σ H Q → t σ H Q) : PE X e t' := ⟨fun pins s σ H Q I q => h.run pins s σ H Q I (i σ H Q q)⟩
theorem pt_imp {X : Cx} {e : Expr} {t t' : TT} (h : PT X e t) (i : ∀ σ H Q, t' σ H Q → t σ H Q) : PT X e t' := ⟨fun pins s σ H Q I q => h.run pins s σ H Q I (i σ H Q q)⟩
theorem pw_imp {X : Cx} {e : Expr} {t t' : TT} (h : PW X e t) (i : ∀ σ H Q, t' σ H Q → t σ H Q) : PW X e t' := ⟨fun wh pins s σ H Q I q => h.run wh pins s σ H Q I (i σ H Q q)⟩
theorem pa_imp {X : Cx} {e : List Expr} {t t' : TA} (h : PA X e t) (i : ∀ σ H Q, t' σ H Q → t σ H Q) : PA X e t' := ⟨fun pos pins s σ H Q I q => h.run pos pins s σ H Q I (i σ H Q q)⟩
theorem ps_imp {X : Cx} {e : Stmt} {t t' : TS} (h : PS X e t) (i : ∀ D σ H, t' D σ H → t D σ H) : PS X e t' := ⟨fun pins s σ H D I q => h.run pins s σ H D I (i D σ H q)⟩
theorem pss_imp {X : Cx} {e : List Stmt} {t t' : TS} (h : PSs X e t) (i : ∀ D σ H, t' D σ H → t D σ H) : PSs X e t' := ⟨fun pins s σ H D I q => h.run pins s σ H D I (i D σ H q)⟩

/-! ### names, constants -/
def there : D → Prop
  | .gone => False
  | _ => True
theorem there.ne {d : D} (h : there d) : d ≠ .gone := fun e => by rw [e] at h; exact h
def gb (o : Option Nat) (d : D) (ρ : List D) : List D := match o with
  | none => ρ
  | some i => ρ.set i d
/-- a name, lent: what is solid is copied, else taken out of its slot for the time being -/
def wN (i : Nat) : WB := fun ρ Q => ∃ d, ρ[i]? = some d ∧ there d ∧ if d.solid = true then Q d none ρ else Q d (some i) (ρ.set i .gone)
/-- a name, handed on: shared from now on -/
def wV (i : Nat) : WE := fun ρ Q => ∃ d, ρ[i]? = some d ∧ there d ∧ Q d.frz (ρ.set i d.frz)
/-- a name, moved: its slot is empty behind -/
def wMv (i : Nat) : WE := fun ρ Q => ∃ d, ρ[i]? = some d ∧ there d ∧ if d.solid = true then Q d ρ else Q d (ρ.set i .gone)
def wC (d : D) : WE := fun ρ Q => Q d ρ
def wB (w : WE) : WB := fun ρ Q => w ρ fun d r => Q d none r
section
variable {X : Cx} {G : Gm} {kp : List Bool} {e a b c : Expr} {pos p1 : Pos} {we wa wb : WE}
theorem db_var {i : Nat} {x : Str} (hN : X.N[i]? = some x) (hv : Vis X.env.scope x) (hd : (x == ("__debug__" : Str)) = false := by decide) (hcd : (x == ("__classdict__" : Str)) = false := by decide) : DB X G kp (.Name x pos) (wN i) := by
  refine ⟨fun ρ P P' hp ⟨d, h1, h2, h3⟩ => ⟨d, h1, h2, ?_⟩, pe_imp (pe_var hN hv hd hcd) fun σ H Q h => ?_⟩
  · split at h3
    · rename_i z; rw [if_pos z]; exact hp _ _ _ h3
    · rename_i z; rw [if_neg z]; exact hp _ _ _ h3
  · obtain ⟨ρ, vs, ds, W, d, h1, h2, h3⟩ := h
    by_cases z : d.solid = true
    · rw [if_pos z] at h3
      obtain ⟨v, e, W'⟩ := W.copy h1 h2.ne z
      exact ⟨v, e, h3 v H W' fun i e => by cases e⟩
    · rw [if_neg z] at h3
      obtain ⟨v, e, W'⟩ := W.take h1 h2.ne
      refine ⟨v, e, h3 v H W' fun j q => ?_⟩
      cases q
      exact e
theorem de_var {i : Nat} {x : Str} (hN : X.N[i]? = some x) (hv : Vis X.env.scope x) (hd : (x == ("__debug__" : Str)) = false := by decide) (hcd : (x == ("__classdict__" : Str)) = false := by decide) : DE X G kp (.Name x pos) (wV i) := by
  refine ⟨fun ρ P P' hp ⟨d, h1, h2, h3⟩ => ⟨d, h1, h2, hp _ _ h3⟩, pe_imp (pe_var hN hv hd hcd) fun σ H Q h => ?_⟩
  obtain ⟨ρ, vs, ds, W, d, h1, h2, h3⟩ := h
  obtain ⟨v, e, W'⟩ := W.take h1 h2.ne
  refine ⟨v, e, h3 v H ?_⟩
  have W2 := W'.frzTop
  obtain ⟨A, F, f⟩ := W2
  have r := f.reps
  have rc : Reps X.K H F (v :: (v :: vs) ++ sv σ) (d.frz :: (d.frz :: ds) ++ ρ.set i .gone) A := by
    cases r with
    | cons p q i j k => exact Reps.push (.cons p q i j k) (p.solid (frz_solid d))
  have W3 : World X.K G kp σ (ρ.set i .gone) (v :: v :: vs) (d.frz :: d.frz :: ds) H := ⟨A, F, f.rep A rc (by simpa using f.lv) fun _ h => h⟩
  have W4 := W3.give e
  rwa [List.set_set] at W4
theorem de_mv {i : Nat} {x : Str} (hN : X.N[i]? = some x) (hv : Vis X.env.scope x) (hd : (x == ("__debug__" : Str)) = false := by decide) (hcd : (x == ("__classdict__" : Str)) = false := by decide) : DE X G kp (.Name x pos) (wMv i) := by
  refine ⟨fun ρ P P' hp ⟨d, h1, h2, h3⟩ => ⟨d, h1, h2, ?_⟩, pe_imp (pe_var hN hv hd hcd) fun σ H Q h => ?_⟩
  · split at h3
    · rename_i z; rw [if_pos z]; exact hp _ _ h3
    · rename_i z; rw [if_neg z]; exact hp _ _ h3
  · obtain ⟨ρ, vs, ds, W, d, h1, h2, h3⟩ := h
    by_cases z : d.solid = true
    · rw [if_pos z] at h3
      obtain ⟨v, e, W'⟩ := W.copy h1 h2.ne z
      exact ⟨v, e, h3 v H W'⟩
    · rw [if_neg z] at h3
      obtain ⟨v, e, W'⟩ := W.take h1 h2.ne
      exact ⟨v, e, h3 v H W'⟩
theorem db_of (h : DE X G kp e we) : DB X G kp e (wB we) :=
  ⟨fun ρ P P' hp q => h.mono ρ _ _ (fun d r z => hp d none r z) q, pe_imp h.run fun σ H Q ⟨ρ, vs, ds, W, q⟩ => ⟨ρ, vs, ds, W, h.mono ρ _ _ (fun d r z v H' W' => z v H' W' fun i e => by cases e) q⟩⟩
theorem de_const {d : D} {v : V} (h : PE X e (tC v)) (r : ∀ K H F, Rep K H F v d M0) : DE X G kp e (wC d) :=
  ⟨fun ρ P P' hp q => hp _ _ q, pe_imp h fun σ H Q ⟨ρ, vs, ds, W, q⟩ => q v H (W.push fun F => r _ _ F)⟩
theorem de_int {i j} : DE X G kp (.Constant (.int i) j pos) (wC (.int i)) := de_const pe_int fun _ _ _ => .int
theorem de_bl {i j} : DE X G kp (.Constant (.bool i) j pos) (wC (.bl i)) := de_const pe_bl fun _ _ _ => .bl
theorem de_non {j} : DE X G kp (.Constant .none j pos) (wC .non) := de_const pe_non fun _ _ _ => .non
theorem de_str {i j} : DE X G kp (.Constant (.str i) j pos) (wC (.str i)) := de_const pe_str fun _ _ _ => .str
/-- a module's constant -/
theorem de_glob {x : Str} {d : D} {v : V} {u : Value} (hg : Gl X x) (hm : X.mg x = some u) (hr : RelV v u) (r : ∀ K H F, Rep K H F v d M0) (hd : (x == ("__debug__" : Str)) = false := by decide) : DE X G kp (.Name x pos) (wC d) := de_const (pe_glob hg hm hr hd) r
theorem de_globI {x : Str} {i : Int} (hg : Gl X x) (hm : ∃ t, X.mg x = some (.int i t)) (hd : (x == ("__debug__" : Str)) = false := by decide) : DE X G kp (.Name x pos) (wC (.int i)) := by
  obtain ⟨t, hm⟩ := hm
  exact de_glob hg hm (v := .int i) ⟨t, rfl⟩ (fun _ _ _ => .int) hd
theorem de_globS {x : Str} {i : Str} (hg : Gl X x) (hm : ∃ t, X.mg x = some (.str i t)) (hd : (x == ("__debug__" : Str)) = false := by decide) : DE X G kp (.Name x pos) (wC (.str i)) := by
  obtain ⟨t, hm⟩ := hm
  exact de_glob hg hm (v := .str i) ⟨t, rfl⟩ (fun _ _ _ => .str) hd
end

/-! ### lent values given back -/
section
variable {K : PySem.W.Frag} {G : Gm} {kp : List Bool} {σ : Sl} {ρ : List D} {vs us : List V} {ds es : List D} {H H' : Hp} {v w y z : V} {d e f : D} {i : Nat} {o o1 o2 : Option Nat}
theorem World.gb (W : World K G kp σ ρ (v :: vs) (d :: ds) H) (h : ∀ i, o = some i → σ[i]? = some (some v)) : World K G kp σ (gb o d ρ) vs ds H := by
  cases o with
  | none => exact W.drop
  | some i => exact W.give (h i rfl)
end
/-! ### operators -/
abbrev W2 := D → D → (D → D → D → Prop) → Prop
abbrev W1 := D → (D → D → Prop) → Prop
/-- a two-place operation that keeps its operands -/
def OpD (X : Cx) (G : Gm) (kp : List Bool) (r : R2) (w2 : W2) : Prop :=
  (∀ x y P P', (∀ a b c, P a b c → P' a b c) → w2 x y P → w2 x y P') ∧
  ∀ σ ρ vs ds x y dx dy H Q, World X.K G kp σ ρ (y :: x :: vs) (dy :: dx :: ds) H → w2 dx dy (fun z dx' dy' => ∀ v H', World X.K G kp σ ρ (v :: y :: x :: vs) (z :: dy' :: dx' :: ds) H' → Q v H') → r x y H Q
def wOp (w2 : W2) (wa wb : WB) : WE := fun ρ Q => wa ρ fun x ox ρ1 => wb ρ1 fun y oy ρ2 => w2 x y fun z x' y' => Q z (gb ox x' (gb oy y' ρ2))
section
variable {X : Cx} {G : Gm} {kp : List Bool} {e a b c : Expr} {pos p1 : Pos} {we : WE} {wa wb wc : WB} {w2 w2' : W2} {r r' : R2}
theorem OpD.conv (h : OpD X G kp r w2) (ma : ∀ ρ P P', (∀ d o r, P d o r → P' d o r) → wa ρ P → wa ρ P') (mb : ∀ ρ P P', (∀ d o r, P d o r → P' d o r) → wb ρ P → wb ρ P') (σ : Sl) (H : Hp) (Q : VK) (q : tDE X.K G kp (wOp w2 wa wb) σ H Q) :
    tOp r (tDB X.K G kp wa) (tDB X.K G kp wb) σ H Q := by
  obtain ⟨ρ, vs, ds, W, q⟩ := q
  refine ⟨ρ, vs, ds, W, ma ρ _ _ (fun dx ox ρ1 q1 x H1 W1 hx => ?_) q⟩
  refine ⟨ρ1, _, _, W1, mb ρ1 _ _ (fun dy oy ρ2 q2 y H2 W2 hy => ?_) q1⟩
  refine h.2 _ _ _ _ _ _ _ _ _ _ W2 (h.1 _ _ _ _ (fun z dx' dy' q3 v H' W3 => q3 v H' ?_) q2)
  -- give back
  have W4 : World X.K G kp σ ρ2 (y :: v :: x :: vs) (dy' :: z :: dx' :: ds) H' := W3.swap
  have W5 : World X.K G kp σ (gb oy dy' ρ2) (v :: x :: vs) (z :: dx' :: ds) H' := W4.gb hy
  exact W5.swap.gb hx
theorem wOp_mono (ho : ∀ x y P P', (∀ a b c, P a b c → P' a b c) → w2 x y P → w2 x y P') (ma : ∀ ρ P P', (∀ d o r, P d o r → P' d o r) → wa ρ P → wa ρ P') (mb : ∀ ρ P P', (∀ d o r, P d o r → P' d o r) → wb ρ P → wb ρ P') :
    ∀ ρ P P', (∀ d r, P d r → P' d r) → wOp w2 wa wb ρ P → wOp w2 wa wb ρ P' := fun ρ P P' hp q => ma ρ _ _ (fun x ox ρ1 q1 => mb ρ1 _ _ (fun y oy ρ2 q2 => ho _ _ _ _ (fun _ _ _ z => hp _ _ z) q2) q1) q
theorem de_op {op : Operator} (ho : OpR X (binaryOp op) r) (h : OpD X G kp r w2) (ha : DB X G kp a wa) (hb : DB X G kp b wb) : DE X G kp (.BinOp a op b pos) (wOp w2 wa wb) :=
  ⟨wOp_mono h.1 ha.mono hb.mono, pe_imp (pe_op ho ha.run hb.run) fun σ H Q q => h.conv ha.mono hb.mono σ H Q q⟩
theorem de_cmp {op : CmpOp} (ho : OpR X (compareOp op) r) (h : OpD X G kp r w2) (ha : DB X G kp a wa) (hb : DB X G kp b wb) (hm : behindInMarks op b = false) : DE X G kp (.Compare a [op] [b] pos) (wOp w2 wa wb) :=
  ⟨wOp_mono h.1 ha.mono hb.mono, pe_imp (pe_cmpR ho ha.run hb.run hm) fun σ H Q q => h.conv ha.mono hb.mono σ H Q q⟩
/-- a bool as a test -/
def isB (d : D) (Q : Bool → Prop) : Prop := match d with
  | .bl b => Q b
  | _ => False
theorem isB_mono {d : D} {P P' : Bool → Prop} (h : ∀ b, P b → P' b) (q : isB d P) : isB d P' := by
  cases d <;> first | exact q.elim | exact h _ q
def wT (w : WE) : WT := fun ρ Q => w ρ fun d r => isB d fun b => Q b r
theorem wT_conv (m : ∀ ρ P P', (∀ d r, P d r → P' d r) → we ρ P → we ρ P') (σ : Sl) (H : Hp) (Q : Bool → Hp → Prop) (q : tDT X.K G kp (wT we) σ H Q) : tB (tDE X.K G kp we) σ H Q := by
  obtain ⟨ρ, vs, ds, W, q⟩ := q
  refine ⟨ρ, vs, ds, W, m ρ _ _ (fun d r z v H' W' => ?_) q⟩
  cases d <;> first | exact z.elim | skip
  have e := W'.isBl
  subst e
  exact ⟨_, rfl, z H' W'.drop⟩
theorem dt_of (h : DE X G kp e we) (he : ∀ whole, isTrue e X.env whole = (do let v ← whole; standAt e.pos; holding [v] (truthy v)) := by intro _; rfl) : DT X G kp e (wT we) :=
  ⟨fun ρ P P' hp q => h.mono ρ _ _ (fun d r z => isB_mono (fun b q => hp b r q) z) q, pt_imp (pt_val h.run he) fun σ H Q q => wT_conv h.mono σ H Q q⟩
theorem dt_cmp {op : CmpOp} (ho : OpR X (compareOp op) r) (h : OpD X G kp r w2) (ha : DB X G kp a wa) (hb : DB X G kp b wb) (hm : behindInMarks op b = false) : DT X G kp (.Compare a [op] [b] pos) (wT (wOp w2 wa wb)) := by
  have mo := wOp_mono h.1 ha.mono hb.mono
  refine ⟨fun ρ P P' hp q => mo ρ _ _ (fun d r z => isB_mono (fun b q => hp b r q) z) q, pt_imp (pt_cmpR ho ha.run hb.run hm) fun σ H Q q => ?_⟩
  refine h.conv ha.mono hb.mono σ H _ ?_
  obtain ⟨ρ, vs, ds, W, q⟩ := q
  refine ⟨ρ, vs, ds, W, mo ρ _ _ (fun d r z v H' W' => ?_) q⟩
  cases d <;> first | exact z.elim | skip
  have e := W'.isBl
  subst e
  exact ⟨_, rfl, z H' W'.drop⟩
/-- a chain of two -/
def wCh (w2 w2' : W2) (wa wb wc : WB) : WE := fun ρ Q => wa ρ fun x ox ρ1 => wb ρ1 fun y oy ρ2 => w2 x y fun z x' y' => isB z fun k =>
  if k = true then wc ρ2 fun u ou ρ3 => w2' y' u fun z2 y2 u2 => Q z2 (gb ox x' (gb oy y2 (gb ou u2 ρ3))) else Q (.bl false) (gb ox x' (gb oy y' ρ2))
theorem wCh_mono (h : OpD X G kp r w2) (h' : OpD X G kp r' w2') (ha : DB X G kp a wa) (hb : DB X G kp b wb) (hc : DB X G kp c wc) : ∀ ρ P P', (∀ d r, P d r → P' d r) → wCh w2 w2' wa wb wc ρ P → wCh w2 w2' wa wb wc ρ P' :=
  fun ρ P P' hp q => ha.mono ρ _ _ (fun x ox ρ1 q1 => hb.mono ρ1 _ _ (fun y oy ρ2 q2 => h.1 _ _ _ _ (fun z x' y' q3 => isB_mono (fun k q4 => by
    cases k with
    | true => exact hc.mono ρ2 _ _ (fun u ou ρ3 q5 => h'.1 _ _ _ _ (fun _ _ _ z => hp _ _ z) q5) q4
    | false => exact hp _ _ q4) q3) q2) q1) q
theorem wCh_conv (h : OpD X G kp r w2) (h' : OpD X G kp r' w2') (ha : DB X G kp a wa) (hb : DB X G kp b wb) (hc : DB X G kp c wc) (σ : Sl) (H : Hp) (Q : VK) (q : tDE X.K G kp (wCh w2 w2' wa wb wc) σ H Q) :
    tChain r r' (tDB X.K G kp wa) (tDB X.K G kp wb) (tDB X.K G kp wc) σ H Q := by
  obtain ⟨ρ, vs, ds, W, q⟩ := q
  refine ⟨ρ, vs, ds, W, ha.mono ρ _ _ (fun dx ox ρ1 q1 x H1 W1 hx => ?_) q⟩
  refine ⟨ρ1, _, _, W1, hb.mono ρ1 _ _ (fun dy oy ρ2 q2 y H2 W2 hy => ?_) q1⟩
  refine h.2 _ _ _ _ _ _ _ _ _ _ W2 (h.1 _ _ _ _ (fun z dx' dy' q3 v H' W3 => ?_) q2)
  cases z <;> first | exact q3.elim | skip
  rename_i k
  have e := W3.isBl
  subst e
  refine ⟨k, rfl, ?_⟩
  have W4 := W3.drop
  cases k with
  | false =>
    refine q3 _ H' ?_
    have W5 : World X.K G kp σ (gb oy dy' ρ2) (x :: vs) (dx' :: ds) H' := W4.gb hy
    exact (W5.gb hx).bl
  | true =>
    refine ⟨ρ2, _, _, W4, hc.mono ρ2 _ _ (fun du ou ρ3 q5 u H5 W5 hu => ?_) q3⟩
    refine h'.2 _ _ _ _ _ _ _ _ _ _ W5 (h'.1 _ _ _ _ (fun z2 dy2 du2 q6 v H6 W6 => q6 v H6 ?_) q5)
    -- v :: u :: y :: x
    have W7 : World X.K G kp σ (gb ou du2 ρ3) (v :: y :: x :: vs) (z2 :: dy2 :: dx' :: ds) H6 := W6.swap.gb hu
    have W8 : World X.K G kp σ (gb oy dy2 (gb ou du2 ρ3)) (v :: x :: vs) (z2 :: dx' :: ds) H6 := W7.swap.gb hy
    exact W8.swap.gb hx
theorem de_chain {op op' : CmpOp} (ho : OpR X (compareOp op) r) (ho' : OpR X (compareOp op') r') (h : OpD X G kp r w2) (h' : OpD X G kp r' w2') (ha : DB X G kp a wa) (hb : DB X G kp b wb) (hc : DB X G kp c wc) (hm : lastMarks [op, op'] [b, c] = false := by with_unfolding_all rfl) : DE X G kp (.Compare a [op, op'] [b, c] pos) (wCh w2 w2' wa wb wc) :=
  ⟨wCh_mono h h' ha hb hc, pe_imp (pe_chain ho ho' ha.run hb.run hc.run hm) fun σ H Q q => wCh_conv h h' ha hb hc σ H Q q⟩
theorem dt_chain {op op' : CmpOp} (ho : OpR X (compareOp op) r) (ho' : OpR X (compareOp op') r') (h : OpD X G kp r w2) (h' : OpD X G kp r' w2') (ha : DB X G kp a wa) (hb : DB X G kp b wb) (hc : DB X G kp c wc) (hm : lastMarks [op, op'] [b, c] = false := by with_unfolding_all rfl) : DT X G kp (.Compare a [op, op'] [b, c] pos) (wT (wCh w2 w2' wa wb wc)) := by
  have mo := wCh_mono h h' ha hb hc
  refine ⟨fun ρ P P' hp q => mo ρ _ _ (fun d r z => isB_mono (fun b q => hp b r q) z) q, pt_imp (pt_chain ho ho' ha.run hb.run hc.run hm) fun σ H Q q => ?_⟩
  refine wCh_conv h h' ha hb hc σ H _ ?_
  obtain ⟨ρ, vs, ds, W, q⟩ := q
  refine ⟨ρ, vs, ds, W, mo ρ _ _ (fun d r z v H' W' => ?_) q⟩
  cases d <;> first | exact z.elim | skip
  have e := W'.isBl
  subst e
  exact ⟨_, rfl, z H' W'.drop⟩
end
end Bd

/-! Bd4: the operators on data. -/
namespace Bd
open PySem PySem.Spec PyProof.Rows L2
section
variable {X : Cx} {G : Gm} {kp : List Bool}
theorem World.two {K : PySem.W.Frag} {σ : Sl} {ρ : List D} {vs : List V} {ds : List D} {H : Hp} {x y : V} {i j : Int} (W : World K G kp σ ρ (y :: x :: vs) (.int j :: .int i :: ds) H) : y = .int j ∧ x = .int i := ⟨W.isInt, W.swap.isInt⟩
/-- ints to a scalar -/
def intD (C : Int → Int → Prop) (g : Int → Int → D) : W2 := fun x y Q => match x, y with
  | .int i, .int j => C i j ∧ Q (g i j) x y
  | _, _ => False
theorem intD_ok {C : Int → Int → Prop} {g : Int → Int → D} {gv : Int → Int → V} (h : ∀ K H F i j, Rep K H F (gv i j) (g i j) M0) : OpD X G kp (rI C gv) (intD C g) := by
  refine ⟨fun x y P P' hp q => ?_, fun σ ρ vs ds x y dx dy H Q W q => ?_⟩
  · cases x <;> cases y <;> first | exact q.elim | exact ⟨q.1, hp _ _ _ q.2⟩
  · cases dx <;> cases dy <;> first | exact q.elim | skip
    rename_i i j
    obtain ⟨e1, e2⟩ := W.two
    exact ⟨i, j, e2, e1, q.1, q.2 _ H (W.push fun F => h _ _ F i j)⟩
def intD0 (g : Int → Int → D) : W2 := fun x y Q => match x, y with
  | .int i, .int j => Q (g i j) x y
  | _, _ => False
theorem intD0_ok {g : Int → Int → D} {gv : Int → Int → V} (h : ∀ K H F i j, Rep K H F (gv i j) (g i j) M0) : OpD X G kp (rI0 gv) (intD0 g) := by
  refine ⟨fun x y P P' hp q => ?_, fun σ ρ vs ds x y dx dy H Q W q => ?_⟩
  · cases x <;> cases y <;> first | exact q.elim | exact hp _ _ _ q
  · cases dx <;> cases dy <;> first | exact q.elim | skip
    rename_i i j
    obtain ⟨e1, e2⟩ := W.two
    exact ⟨i, j, e2, e1, q _ H (W.push fun F => h _ _ F i j)⟩
theorem OpD.or1 {r r' : R2} {w2 : W2} (h : OpD X G kp r w2) : OpD X G kp (fun x y H Q => r x y H Q ∨ r' x y H Q) w2 := ⟨h.1, fun σ ρ vs ds x y dx dy H Q W q => .inl (h.2 σ ρ vs ds x y dx dy H Q W q)⟩

/-! ### + -/
def addD : W2 := fun x y Q => match x, y with
  | .int i, .int j => Q (.int (i + j)) x y
  | .str i, .str j => i.length + j.length ≤ sizeLine ∧ Q (.str (i ++ j)) x y
  | .lst m xs, .lst n ys => m ≠ .con ∧ n ≠ .con ∧ xs.length + ys.length ≤ sizeLine ∧ Q (.lst .own (frzs xs ++ frzs ys)) (.lst m (frzs xs)) (.lst n (frzs ys))
  | .tup xs, .tup ys => xs.length + ys.length ≤ sizeLine ∧ Q (.tup (frzs xs ++ frzs ys)) (.tup (frzs xs)) (.tup (frzs ys))
  | _, _ => False
/-- t + u, the new tuple told whole -/
def rCatP (K : PySem.W.Frag) : R2 := fun x y H Q => ∃ a b xs ys, x = .ref a ∧ y = .ref b ∧ SqT K H a xs ∧ SqT K H b ys ∧ xs.length + ys.length ≤ sizeLine ∧
  (xs = [] → Q (.ref b) H) ∧ (xs ≠ [] → ys = [] → Q (.ref a) H) ∧ (xs ≠ [] → ys ≠ [] → ∀ p o, H p = none → o.dict = none → Q (.ref p) (upd H p (.frz o (.tup (xs ++ ys)))))

theorem laidTup {pins : List (Addr × Obj)} {σ : Sl} {H : Hp} {s : Shared} {xs : List V} {its : List Value} {tk : Nat} {n : Nat} (I : Inv X pins σ H s) (r : Vals xs its) (hz : xs.length ≤ sizeLine) :
    Inv X pins σ (upd H s.heap.objs.size (.frz { cls := .type "tuple", data := .seq its.toArray n } (.tup xs))) { s with heap := s.heap.push { cls := .type "tuple", data := .seq its.toArray n }, toks := tk } :=
  I.laid (t' := tk) (fun b ob q => Heap.get?_push_of_some _ q) (Nat.le_refl _) ⟨Heap.get?_push_size _ rfl, hz, its, r, ⟨_, Heap.get?_push_size _ rfl, rfl, _, rfl⟩⟩
theorem op_catP : OpR X (binaryOp .Add) (rCatP X.K) := by
  intro pins s σ H x y v u Q I rx ry h
  obtain ⟨a, b, xs, ys, rfl, rfl, ha, hb, hz, q0, q1, q2⟩ := h
  obtain ⟨its, r1, p1, _⟩ := I.tuple ha
  obtain ⟨its2, r2, p2, _⟩ := I.tuple hb
  cases rx
  cases ry
  by_cases hx : xs = []
  · subst hx
    cases r1
    exact cat_tup0 p1 p2 ⟨.ref b, H, I, rfl, q0 rfl⟩
  · refine HT.cat_tup p1 p2 (fun z => hx (r1.nil_iff.mp z)) (fun z => ⟨.ref a, H, I, rfl, q1 hx (r2.nil_iff.mp z)⟩) (fun z => ?_) (by rw [← r1.length, ← r2.length]; exact hz)
    exact ⟨.ref s.heap.objs.size, _, laidTup (tk := s.toks) (n := 0) I (r1.append r2) (by rw [List.length_append]; exact hz), rfl, q2 hx (fun w => z (r2.nil_iff.mpr w)) _ _ (I.hok.fresh (Nat.le_refl _)) rfl⟩
/-- t[lo:hi] -/
def rSlP (K : PySem.W.Frag) : V → Option Int → Option Int → Hp → VK → Prop := fun x lo hi H Q => ∃ a xs, x = .ref a ∧ SqT K H a xs ∧
  (HT.sIx xs.length 0 lo = 0 ∧ HT.sIx xs.length xs.length hi = xs.length → Q (.ref a) H) ∧ (¬ (HT.sIx xs.length 0 lo = 0 ∧ HT.sIx xs.length xs.length hi = xs.length) → ∀ p o, H p = none → o.dict = none → Q (.ref p) (upd H p (.frz o (.tup (cutV xs lo hi)))))
theorem sl_tupP : SlR X (rSlP X.K) := by
  intro pins s σ H x v vl vu lo hi sl Q I rx hs pl pu h
  obtain ⟨a, xs, rfl, hx, q1, q2⟩ := h
  cases rx
  obtain ⟨its, r, ht, hz⟩ := I.tuple hx
  have hlen : its.toArray.size = xs.length := by rw [List.size_toArray]; exact r.length.symm
  refine ⟨"tuple", _, PyProof.Rows.slot_tuple_getitem.lookup, ht.typeIs, ?_⟩
  by_cases hw : HT.sIx xs.length 0 lo = 0 ∧ HT.sIx xs.length xs.length hi = xs.length
  · exact getItem_tuple_whole ht hs pl pu (by rw [hlen]; exact hw) ⟨.ref a, H, I, rfl, q1 hw⟩
  · refine HT.getItem_tuple_cut ht hs pl pu (by rw [hlen]; exact hw) ?_ (by rw [hlen]; exact hz)
    rw [hlen]
    exact ⟨.ref s.heap.objs.size, _, laidTup (tk := s.toks) (n := 0) I ((r.drop (HT.sIx xs.length 0 lo)).take (HT.sIx xs.length xs.length hi - HT.sIx xs.length 0 lo)) (Nat.le_trans (cutV_length xs lo hi) hz), rfl, q2 hw _ _ (I.hok.fresh (Nat.le_refl _)) rfl⟩
/-- tuple(xs), tuple(t) -/
theorem call_tupleP : CallR X (.type "tuple") (fun xs H Q => ∃ p ys, xs = [.ref p] ∧ ((SqL X.K H p ys ∧ ∀ l o, H l = none → o.dict = none → Q (.ref l) (upd H l (.frz o (.tup ys)))) ∨ (SqT X.K H p ys ∧ Q (.ref p) H))) := by
  intro pins s σ H xs us Q I r h
  obtain ⟨p, ys, rfl, h⟩ := h
  obtain ⟨u, rfl, rx⟩ := vals1 r
  cases rx
  rcases h with ⟨hq, q⟩ | ⟨hq, q⟩
  · obtain ⟨its, r', pl, hz⟩ := I.list hq
    have hlen := r'.length
    refine call_tuple_list pl.isList (fun h' kp => ?_) (by simp only [List.size_toArray] <;> omega)
    have I1 : Inv X pins σ H { s with heap := h' } := I.kept (t' := s.toks) kp
    exact ⟨.ref h'.objs.size, _, laidTup (tk := s.toks) (n := 0) I1 r' hz, rfl, q _ _ (I1.hok.fresh (Nat.le_refl _)) rfl⟩
  · obtain ⟨its, r', pl, hz⟩ := I.tuple hq
    exact call_tuple_same pl ⟨.ref p, H, I, rfl, q⟩
/-- (a, b, ..) -/
def tTupP (t : TA) : TE := fun σ H Q => t σ H fun xs H1 => xs.length ≤ sizeLine ∧ ∀ p o, H1 p = none → o.dict = none → Q (.ref p) (upd H1 p (.frz o (.tup xs)))
theorem pe_tupP {es : List Expr} {t : TA} {pos : Pos} {x1} (h : PA X es t) : PE X (.Tuple es x1 pos) (tTupP t) := by
  refine ⟨fun pins s σ H Q I hq => ?_⟩
  refine wpAny_Tuple_spliced (thn (h.run pos pins s σ H _ I hq) fun us s1 ⟨xs, H1, I1, r, z, q⟩ => ⟨by rw [← r.length]; exact z, ?_⟩)
  exact ⟨.ref s1.heap.objs.size, _, laidTup (tk := s1.toks) (n := 0) I1 r z, rfl, q _ _ (I1.hok.fresh (Nat.le_refl _)) rfl⟩
/-- divmod -/
theorem call_divmodP : CallR X (.builtin "divmod") (fun xs H Q => ∃ i j, xs = [.int i, .int j] ∧ CDivP i j ∧ ∀ p o, H p = none → o.dict = none → Q (.ref p) (upd H p (.frz o (.tup [.int (i / j), .int (i % j)])))) := by
  intro pins s σ H xs us Q I r h
  obtain ⟨i, j, rfl, ⟨h1, h2⟩, q⟩ := h
  obtain ⟨u, w', rfl, ⟨t, rfl⟩, ⟨t', rfl⟩⟩ := vals2 r
  refine divmod_int (by omega) ?_ (.inl h2)
  rw [Int.fdiv_eq_ediv_of_nonneg i (by omega), Int.fmod_eq_emod_of_nonneg i (by omega)]
  have z : [V.int (i / j), .int (i % j)].length ≤ sizeLine := by simp only [List.length_cons, List.length_nil]; rw [sizeLine_eq]; decide
  exact ⟨.ref s.heap.objs.size, _, laidTup (tk := s.toks + 1 + 1) (n := 0) (its := [.int (i / j) s.toks, .int (i % j) (s.toks + 1)]) I (xs := [.int (i / j), .int (i % j)]) (.cons ⟨_, rfl⟩ (.cons ⟨_, rfl⟩ .nil)) z, rfl, q _ _ (I.hok.fresh (Nat.le_refl _)) rfl⟩
/-- t * 1 is t -/
theorem tuple_mul1W (l : Addr) (items : Array Value) (n : Nat) (u : Tok) (sl : Array (Option Value)) :
    Meets (Builtin.«tuple.__mul__» ⟨[.ref l, .int 1 u], []⟩) (fun _ R s => s.heap.get? l = some { cls := .type "tuple", dict := none, data := .seq items n, slots := sl } ∧ R (.ok (.ret (Value.ref l))) s) :=
  .of_wp fun prog w A R s h => by
    obtain ⟨hp, g, d, tk, os⟩ := s
    obtain ⟨hl, h⟩ := h
    have f1 := AutoSeq1.idx_int
    have c1 : (items.isEmpty || (1 : Int) == 1) = true := by simp
    wp_walk using wpAny_loadPart' hl
    exact ⟨_, rfl, h⟩

theorem dictNone {h : Heap} {K : PySem.W.Frag} {a : Addr} {xs : List V} {H : Hp} (t : TupD K H a xs) (hok : ∀ o, H a = some (.frz o (.tup xs)) → h.get? a = some o) (kin : K.In h) : ∃ o, h.get? a = some o ∧ o.dict = none := by
  rcases t with ⟨o, e, d⟩ | ⟨o, its, n, e, _, d, _⟩
  · exact ⟨o, hok o e, d⟩
  · exact ⟨o, kin a o e, d⟩
/-- t * k, 1 ≤ k -/
def rRepP (K : PySem.W.Frag) : R2 := fun x y H Q => ∃ l k xs, x = .ref l ∧ y = .int k ∧ TupD K H l xs ∧ xs ≠ [] ∧ 1 ≤ k ∧ k ≤ 1000 ∧ xs.length ≤ 1000 ∧ (k = 1 → Q (.ref l) H) ∧ (k ≠ 1 → ∀ p o, H p = none → o.dict = none → Q (.ref p) (upd H p (.frz o (.tup (List.replicate k.toNat xs).flatten))))
theorem op_repP : OpR X (binaryOp .Mult) (rRepP X.K) := by
  intro pins s σ H x y v u Q I rx ry h
  obtain ⟨l, k, xs, rfl, rfl, hD, hne, h1, h2, hz, q1, q2⟩ := h
  have dn := dictNone (h := s.heap) hD (fun o e => (I.hok _ _ e).1) I.kIn
  cases rx
  obtain ⟨t, rfl⟩ := ry
  obtain ⟨its, r, ⟨⟨cls, dd, data, sl⟩, ho, hc, n, hd⟩, hs⟩ := I.tuple hD.sq
  simp only at hc hd
  subst hc hd
  obtain ⟨o', ho', hdn⟩ := dn
  rw [ho] at ho'; cases ho'
  simp only at hdn
  subst hdn
  have hle : its.length = xs.length := r.length.symm
  have hn : its ≠ [] := fun e => hne (by
    rw [e] at hle
    exact List.eq_nil_of_length_eq_zero hle.symm)
  have hi : its.toArray.isEmpty = false := by
    cases its with
    | nil => exact absurd rfl hn
    | cons a b => rfl
  have hsz0 : its.toArray.size = xs.length := by rw [List.size_toArray, hle]
  by_cases hk : k = 1
  · subst hk
    refine wpAny_binaryOp_repeat_ref (T := "tuple") (U := "int") (by decide) ⟨_, ho, rfl⟩ (fun s' => typeIs_int s' 1 t) noFill_tuple_mul F.fills_int_mul F.slot_int_rmul repeat_tuple F.slot_int_index.lookup
      (call_meets F.slot_int_rmul (typeIs_int s 1 t) F.entry_int_rmul (F.args_int_rmul_2 _ _) (int_rmul_tuple 1 t l its.toArray n none sl)
        ⟨ho, rfl, ⟨_, ho, rfl⟩, call_meets F.slot_tuple_mul ⟨_, ho, rfl⟩ F.entry_tuple_mul (F.args_tuple_mul_2 _ _) (tuple_mul1W l its.toArray n t sl) ⟨ho, ?_⟩⟩)
    exact ⟨.ref l, H, I, rfl, q1 rfl⟩
  · have hm : ((its.toArray.size : Nat) : Int) * k ≤ 1000000 := by
      rw [hsz0]
      have a1 : ((xs.length : Nat) : Int) * k ≤ 1000 * k := Int.mul_le_mul_of_nonneg_right (by omega) (by omega)
      omega
    have flen : (List.replicate k.toNat its).flatten.length ≤ sizeLine := by
      rw [PyProof.Rows.lm_len_rep_flat, hle, sizeLine_eq]
      have a1 : k.toNat * xs.length ≤ 1000 * 1000 := Nat.mul_le_mul (by omega) hz
      omega
    have c0 : (decide (k < -(2 ^ 63)) || decide (k ≥ 2 ^ 63)) = false := by
      rw [decide_eq_false (by omega), decide_eq_false (by omega)] <;> rfl
    have c1 : (its.toArray.isEmpty || k == 1) = false := by
      rw [hi, Bool.false_or]
      exact beq_eq_false_iff_ne.mpr (by omega)
    have c2 : (decide (k ≤ 0) || its.toArray.isEmpty) = false := by
      rw [hi, Bool.or_false]
      exact decide_eq_false (by omega)
    have c4 : Builtin.Tuple.tupleTooMany (((its.toArray.size : Nat) : Int) * k) = false := by
      unfold Builtin.Tuple.tupleTooMany
      rw [sizeLine_eq]
      exact decide_eq_false (by omega)
    refine wpAny_binaryOp_repeat_ref (T := "tuple") (U := "int") (by decide) ⟨_, ho, rfl⟩ (fun s' => typeIs_int s' k t) noFill_tuple_mul F.fills_int_mul F.slot_int_rmul repeat_tuple F.slot_int_index.lookup
      (call_meets F.slot_int_rmul (typeIs_int s k t) F.entry_int_rmul (F.args_int_rmul_2 _ _) (int_rmul_tuple k t l its.toArray n none sl)
        ⟨ho, rfl, ⟨_, ho, rfl⟩, call_meets F.slot_tuple_mul ⟨_, ho, rfl⟩ F.entry_tuple_mul (F.args_tuple_mul_2 _ _) (tuple_mulW l its.toArray n none sl k t c0 c1 c2 (by omega) c4 (by rw [size_rep, List.size_toArray]; exact flen)) ⟨ho, ?_⟩⟩)
    rw [size_rep]
    exact ⟨.ref s.heap.objs.size, _, laidTup (tk := s.toks) (n := 0) I (r.rep k.toNat) (by rw [PyProof.Rows.lm_len_rep_flat, sizeLine_eq]; have a1 : k.toNat * xs.length ≤ 1000 * 1000 := Nat.mul_le_mul (by omega) hz; omega), rfl, q2 hk _ _ (I.hok.fresh (Nat.le_refl _)) rfl⟩
end
end Bd

/-! Bd5: the operators on data, lists and tuples; == and in. -/
namespace Bd
open PySem PySem.Spec PyProof.Rows L2
section
variable {K : PySem.W.Frag} {G : Gm} {kp : List Bool} {σ : Sl} {ρ : List D} {vs us : List V} {ds es fs : List D} {H : Hp} {v w x y : V} {d e : D} {m n : M}
theorem frzs_frzs (xs : List D) : frzs (frzs xs) = frzs xs := frzs_of_solid _ (frzs_solid xs)
/-- the kids of the two on top, in order, ahead of all -/
theorem World.kids2 {f g : List D → D} (W : World K G kp σ ρ (y :: x :: vs) (g fs :: f es :: ds) H) (hf : f = D.tup ∨ ∃ m, f = D.lst m) (hg : g = D.tup ∨ ∃ m, g = D.lst m) : ∃ a b xs ys, x = .ref a ∧ y = .ref b ∧
    (f = D.tup → TupD K H a xs) ∧ (g = D.tup → TupD K H b ys) ∧ (∀ m, f = D.lst m → SqL K H a xs ∧ (m ≠ .con → H a = some (.lst xs))) ∧ (∀ m, g = D.lst m → SqL K H b ys ∧ (m ≠ .con → H b = some (.lst ys))) ∧
    xs.length = es.length ∧ ys.length = fs.length ∧ World K G kp σ ρ ((xs ++ ys) ++ y :: x :: vs) ((frzs es ++ frzs fs) ++ g (frzs fs) :: f (frzs es) :: ds) H := by
  have ef : frzK (f es) = f (frzs es) := by rcases hf with rfl | ⟨m, rfl⟩ <;> rfl
  have eg : frzK (g fs) = g (frzs fs) := by rcases hg with rfl | ⟨m, rfl⟩ <;> rfl
  have W1 := W.frzKids.swap.frzKids
  rw [ef, eg] at W1
  have one : ∀ {vs : List V} {ds es : List D} {x : V} {f : List D → D}, (f = D.tup ∨ ∃ m, f = D.lst m) → World K G kp σ ρ (x :: vs) (f (frzs es) :: ds) H → ∃ a xs, x = .ref a ∧ (f = D.tup → TupD K H a xs) ∧ (∀ m, f = D.lst m → SqL K H a xs ∧ (m ≠ .con → H a = some (.lst xs))) ∧ xs.length = es.length ∧
      World K G kp σ ρ (xs ++ x :: vs) (frzs es ++ f (frzs es) :: ds) H := fun hf W => by
    rcases hf with rfl | ⟨m, rfl⟩
    · obtain ⟨a, xs, h1, h2, h3, h4⟩ := W.tupKids (frzs_solid _)
      exact ⟨a, xs, h1, fun _ => h2, (fun m z => by have := congrFun z []; cases this), by rw [h3, frzs_length], h4⟩
    · obtain ⟨a, xs, h1, h2, h3, h4, h5⟩ := W.isLst
      exact ⟨a, xs, h1, (fun z => by have := congrFun z []; cases this), fun m' z => by have := congrFun z []; cases this; exact ⟨h2, fun hc => h4 (by cases m <;> simp_all)⟩, by rw [h3, frzs_length], h5 (.inl (frzs_solid _))⟩
  obtain ⟨b, ys, b1, b2, b3, b4, W2⟩ := one hg W1.swap
  have lb : ys.length = (frzs fs).length := by rw [b4, frzs_length]
  -- ys ++ y :: x :: vs ; x to the front
  have W3 : World K G kp σ ρ ((ys ++ [y]) ++ x :: vs) ((frzs fs ++ [g (frzs fs)]) ++ f (frzs es) :: ds) H := by simpa using W2
  have W4 := W3.rot (by simp [lb])
  obtain ⟨a, xs, a1, a2, a3, a4, W5⟩ := one hf W4
  have la : xs.length = (frzs es).length := by rw [a4, frzs_length]
  refine ⟨a, b, xs, ys, a1, b1, a2, b2, a3, b3, a4, b4, ?_⟩
  -- xs ++ x :: ((ys ++ [y]) ++ vs)  to  xs ++ ys ++ y :: x :: vs
  have W6 := W5.under (us := xs) (es := frzs es) (vs' := (ys ++ [y]) ++ x :: vs) (ds' := (frzs fs ++ [g (frzs fs)]) ++ f (frzs es) :: ds) la (fun F A r => by
    have q := Reps.tor (K := K) (H := H) (F := F) (v := x) (d := f (frzs es)) (us := ys ++ [y]) (es := frzs fs ++ [g (frzs fs)]) (vs := vs ++ sv σ) (ds := ds ++ ρ) (A := A) (by simp [lb]) (by simpa using r)
    simpa [List.append_assoc] using q) (by have := W.lv; simp [lb] at this ⊢; omega)
  simpa [List.append_assoc] using W6
end
section
variable {X : Cx} {G : Gm} {kp : List Bool}
theorem addD_mono : ∀ x y P P', (∀ a b c, P a b c → P' a b c) → addD x y P → addD x y P' := fun x y P P' hp q => by
  cases x <;> cases y <;> first | exact q.elim | exact hp _ _ _ q | exact ⟨q.1, hp _ _ _ q.2⟩ | exact ⟨q.1, q.2.1, q.2.2.1, hp _ _ _ q.2.2.2⟩
abbrev rAddA (K : PySem.W.Frag) : R2 := fun x y H Q => (rI0 (fun i j => .int (i + j)) x y H Q ∨ (∃ i j, x = .str i ∧ y = .str j ∧ i.length + j.length ≤ sizeLine ∧ Q (.str (i ++ j)) H)) ∨ (rCat x y H Q ∨ rCatP K x y H Q)
theorem op_addA : OpR X (binaryOp .Add) (rAddA X.K) := (op_add.or op_add_str).or (op_cat.or op_catP)
theorem addD_ok : OpD X G kp (rAddA X.K) addD := by
  refine ⟨addD_mono, fun σ ρ vs ds x y dx dy H Q W q => ?_⟩
  cases dx <;> cases dy <;> first | exact q.elim | skip
  · obtain ⟨e1, e2⟩ := W.two
    exact .inl (.inl ⟨_, _, e2, e1, q _ H W.int⟩)
  · have e1 := W.isStr
    have e2 := W.swap.isStr
    exact .inl (.inr ⟨_, _, e2, e1, q.1, q.2 _ H W.str⟩)
  · rename_i es fs
    obtain ⟨a, b, xs, ys, rfl, rfl, ha, hb, _, _, l1, l2, W2⟩ := W.kids2 (f := D.tup) (g := D.tup) (.inl rfl) (.inl rfl)
    refine .inr (.inr ⟨a, b, xs, ys, rfl, rfl, (ha rfl).sq, (hb rfl).sq, by rw [l1, l2]; exact q.1, fun e => ?_, fun e1 e2 => ?_, fun e1 e2 p o hp ho => ?_⟩)
    · refine q.2 _ H ?_
      have ee : es = [] := List.eq_nil_of_length_eq_zero (by rw [← l1, e]; rfl)
      subst ee
      subst e
      have W3 := W2.dropN (us := [] ++ ys) (es := frzs [] ++ frzs fs) (by simp [frzs, frzs_length, l2])
      have W4 := W3.temps (us := .ref b :: .ref b :: .ref a :: vs) (es := (frzs [] ++ frzs fs |> D.tup) :: D.tup (frzs fs) :: D.tup (frzs []) :: ds) (fun F A r => ?_) (by have := W.lv; simp at this ⊢; omega)
      · exact W4
      · cases r with
        | cons p q i j k =>
          exact Reps.push (.cons p q i j k) (p.solid (by rw [D.solid]; exact frzs_solid fs))
    · refine q.2 _ H ?_
      have ee : fs = [] := List.eq_nil_of_length_eq_zero (by rw [← l2, e2]; rfl)
      subst ee
      subst e2
      have W3 := W2.dropN (us := xs ++ []) (es := frzs es ++ frzs []) (by simp [frzs, frzs_length, l1])
      have W4 := W3.temps (us := .ref a :: .ref b :: .ref a :: vs) (es := (frzs es ++ frzs [] |> D.tup) :: D.tup (frzs []) :: D.tup (frzs es) :: ds) (fun F A r => ?_) (by have := W.lv; simp at this ⊢; omega)
      · exact W4
      · have r2 := Reps.swap r
        cases r2 with
        | cons p q i j k =>
          refine Reps.push r ?_
          have := p.solid (by rw [D.solid]; exact frzs_solid es)
          simpa [frzs] using this
    · exact q.2 _ _ (W2.newTup (by simp [frzs_length, l1, l2]) hp ho)
  · rename_i m es n fs
    obtain ⟨a, b, xs, ys, rfl, rfl, _, _, ha, hb, l1, l2, W2⟩ := W.kids2 (f := D.lst m) (g := D.lst n) (.inr ⟨m, rfl⟩) (.inr ⟨n, rfl⟩)
    exact .inr (.inl ⟨a, b, xs, ys, rfl, rfl, (ha m rfl).2 q.1, (hb n rfl).2 q.2.1, by rw [l1, l2]; exact q.2.2.1, fun p hp => q.2.2.2 _ _ (W2.newLst (by simp [frzs_length, l1, l2]) hp)⟩)
/-! ### * -/
def repD (k : Int) (xs : List D) : List D := (List.replicate k.toNat (frzs xs)).flatten
def mulD : W2 := fun x y Q => match x, y with
  | .int i, .int j => CMulW i j ∧ Q (.int (i * j)) x y
  | .lst m xs, .int k => m ≠ .con ∧ -(2 ^ 63) ≤ k ∧ k < 2 ^ 63 ∧ xs.length * k.toNat ≤ sizeLine ∧ Q (.lst .own (repD k xs)) (.lst m (frzs xs)) y
  | .tup xs, .int k => xs ≠ [] ∧ 1 ≤ k ∧ k ≤ 1000 ∧ xs.length ≤ 1000 ∧ Q (.tup (repD k xs)) (.tup (frzs xs)) y
  | _, _ => False
abbrev rMulA (K : PySem.W.Frag) : R2 := fun x y H Q => (rI CMulW (fun i j => .int (i * j)) x y H Q ∨ rRep x y H Q) ∨ rRepP K x y H Q
theorem op_mulA : OpR X (binaryOp .Mult) (rMulA X.K) := (op_mulW.or op_rep).or op_repP
theorem mulD_mono : ∀ x y P P', (∀ a b c, P a b c → P' a b c) → mulD x y P → mulD x y P' := fun x y P P' hp q => by
  cases x <;> cases y <;> first | exact q.elim | exact ⟨q.1, hp _ _ _ q.2⟩ | exact ⟨q.1, q.2.1, q.2.2.1, q.2.2.2.1, hp _ _ _ q.2.2.2.2⟩
theorem Reps.rep {K : PySem.W.Frag} {H : Hp} {F : AS} {xs vs : List V} {es ds : List D} {A : AS} (r : Reps K H F xs es M0) (q : Reps K H F vs ds A) : ∀ k : Nat, Reps K H F ((List.replicate k xs).flatten ++ vs) ((List.replicate k es).flatten ++ ds) A
  | 0 => q
  | k + 1 => by
    rw [List.replicate_succ, List.replicate_succ, List.flatten_cons, List.flatten_cons, List.append_assoc, List.append_assoc]
    exact (r.join (Reps.rep r q k) fun _ h => h.elim).mono fun x h => h.elim (fun z => z.elim) id
theorem flat_len {α : Type} (xs : List α) (k : Nat) : (List.replicate k xs).flatten.length = k * xs.length := by simp
theorem mulD_ok : OpD X G kp (rMulA X.K) mulD := by
  refine ⟨mulD_mono, fun σ ρ vs ds x y dx dy H Q W q => ?_⟩
  cases dx <;> cases dy <;> first | exact q.elim | skip
  · obtain ⟨e1, e2⟩ := W.two
    exact .inl (.inl ⟨_, _, e2, e1, q.1, q.2 _ H W.int⟩)
  · rename_i es k
    have e1 := W.isInt
    subst e1
    obtain ⟨hne, h1, h2, h3, q⟩ := q
    have W1 := W.swap.frzKids
    obtain ⟨a, xs, rfl, ht, l, mk⟩ := World.tupW (es := frzs es) W1 (frzs_solid es)
    have l' : xs.length = es.length := by rw [l, frzs_length]
    refine .inr ⟨a, k, xs, rfl, rfl, ht, fun e => hne (List.eq_nil_of_length_eq_zero (by rw [← l', e]; rfl)), h1, h2, by rw [l']; exact h3, fun e => ?_, fun e p o hp ho => ?_⟩
    · subst e
      refine q _ H ?_
      have W3 : World X.K G kp σ ρ (.int 1 :: .ref a :: vs) (.int 1 :: .tup (frzs es) :: ds) H := W1.swap
      have e : repD 1 es = frzs es := by simp [repD]
      rw [e]
      refine W3.temps (fun F A r => ?_) (by have := W.lv; simp at this ⊢; omega)
      have r2 := Reps.swap r
      cases r2 with
      | cons p q i j k => exact Reps.push r (p.solid (by rw [D.solid]; exact frzs_solid es))
    · refine q _ _ ?_
      refine World.newTup (us := (List.replicate k.toNat xs).flatten) (es := repD k es) (mk _ _ (fun F A rk r => ?_) (by have := W.lv; simp [repD, frzs_length, l'] at this ⊢; omega)) (by simp [repD, frzs_length, l']) hp ho
      rw [List.append_assoc, List.append_assoc]
      exact Reps.rep rk (Reps.swap r) _
  · rename_i m es k
    have e1 := W.isInt
    subst e1
    obtain ⟨hne, h1, h2, h3, q⟩ := q
    have W1 := W.swap.frzKids
    obtain ⟨a, xs, rfl, _, ht, l, mk⟩ := World.lstW (es := frzs es) W1 (frzs_solid es)
    have l' : xs.length = es.length := by rw [l, frzs_length]
    refine .inl (.inr ⟨a, k, xs, rfl, rfl, ht hne, h1, h2, by rw [l']; exact h3, fun p hp => q _ _ ?_⟩)
    refine World.newLst (us := (List.replicate k.toNat xs).flatten) (es := repD k es) (mk _ _ (fun F A rk r => ?_) (by have := W.lv; simp [repD, frzs_length, l'] at this ⊢; omega)) (by simp [repD, frzs_length, l']) hp
    rw [List.append_assoc, List.append_assoc]
    exact Reps.rep rk (Reps.swap r) _
end

/-! ### data that == compares -/
mutual
def D.py : D → PyData
  | .non => .none
  | .bl b => .bool b
  | .int i => .int i
  | .str x => .str x
  | .tup ds => .tuple (pys ds)
  | .lst _ ds => .list (pys ds)
  | _ => .dict []
def pys : List D → List PyData
  | [] => []
  | d :: r => d.py :: pys r
end
theorem pys_map : ∀ ds : List D, pys ds = ds.map D.py
  | [] => by simp [pys]
  | d :: r => by rw [pys, pys_map r, List.map_cons]
section
variable {K : PySem.W.Frag} {H : Hp} {F : AS}
mutual
theorem Rep.dp : ∀ {v : V} {d : D} {A : AS}, Rep K H F v d A → d.py.canLay0 = true → Dp K H v d.py
  | _, _, _, .gone, h => by simp [D.py, PyData.canLay0] at h
  | _, _, _, .non, _ => .non
  | _, _, _, .bl, _ => .bl _
  | _, _, _, .int, _ => .int _
  | _, _, _, .str, _ => .str _
  | _, _, _, .opq, h => by simp [D.py, PyData.canLay0] at h
  | _, _, _, .tup s q, h => by rw [D.py] at h ⊢; exact .tup s.sq (Reps.dp q (by rw [PyData.canLay0] at h; exact h))
  | _, _, _, .own e a q s, h => by rw [D.py] at h ⊢; exact .lst (.inl (.inl e)) (Reps.dp q (by rw [PyData.canLay0] at h; exact h))
  | _, _, _, .shr e a q, h => by rw [D.py] at h ⊢; exact .lst (.inl (.inl e)) (Reps.dp q (by rw [PyData.canLay0] at h; exact h))
  | _, _, _, .con c q, h => by rw [D.py] at h ⊢; exact .lst c.sq (Reps.dp q (by rw [PyData.canLay0] at h; exact h))
  | _, _, _, .dOwn e k a q s, h => by simp [D.py, PyData.canLay0] at h
  | _, _, _, .dShr e k a q, h => by simp [D.py, PyData.canLay0] at h
theorem Reps.dp : ∀ {vs : List V} {ds : List D} {A : AS}, Reps K H F vs ds A → PyData.canLayAll0 (pys ds) = true → DpAll K H vs (pys ds)
  | _, _, _, .nil, _ => by rw [pys]; exact .nil
  | _, _, _, .cons a b i j k, h => by
    rw [pys] at h ⊢
    rw [PyData.canLayAll0, Bool.and_eq_true] at h
    exact .cons (Rep.dp a h.1) (Reps.dp b h.2)
end
theorem shaped_lay {d : PyData} (h : SeqAt.shaped d = true) : d.canLay0 = true := by
  unfold SeqAt.shaped at h
  rw [Bool.and_eq_true] at h
  exact h.1
end
/-- data that == compares -/
def shp (d : D) : Prop := SeqAt.shaped d.py = true
def eqd (x y : D) : Bool := PyData.eqv x.py y.py
def eqD : W2 := fun x y Q => shp x ∧ shp y ∧ Q (.bl (eqd x y)) x y
def neD : W2 := fun x y Q => shp x ∧ shp y ∧ Q (.bl (!eqd x y)) x y
section
variable {K : PySem.W.Frag} {G : Gm} {kp : List Bool} {σ : Sl} {ρ : List D} {vs us : List V} {ds es fs : List D} {H : Hp} {v w x y : V} {d e : D} {m n : M}
theorem World.dp (W : World K G kp σ ρ (v :: vs) (d :: ds) H) (h : shp d) : Dp K H v d.py := by
  obtain ⟨A, F, f⟩ := W
  have r := f.reps
  cases r with
  | cons a b i j k => exact a.dp (shaped_lay h)
end
section
variable {X : Cx} {G : Gm} {kp : List Bool}
theorem eqD_ok : OpD X G kp (rEqD X.K) eqD := ⟨fun x y P P' hp q => ⟨q.1, q.2.1, hp _ _ _ q.2.2⟩, fun σ ρ vs ds x y dx dy H Q W q => ⟨dx.py, dy.py, W.swap.dp q.1, W.dp q.2.1, q.1, q.2.1, q.2.2 _ H W.bl⟩⟩
theorem neD_ok : OpD X G kp (rNeD X.K) neD := ⟨fun x y P P' hp q => ⟨q.1, q.2.1, hp _ _ _ q.2.2⟩, fun σ ρ vs ds x y dx dy H Q W q => ⟨dx.py, dy.py, W.swap.dp q.1, W.dp q.2.1, q.1, q.2.1, q.2.2 _ H W.bl⟩⟩
/-- x in xs: a list, a tuple -/
def isIn (x : D) (xs : List D) : Bool := xs.any fun z => eqd z x
def inD (neg : Bool) : W2 := fun x y Q => match y with
  | .lst _ xs => shp x ∧ shp y ∧ Q (.bl (if neg then !isIn x xs else isIn x xs)) x y
  | .str j => (match x with
    | .str i => Q (.bl (if neg then !(!(Builtin.Str.occurrences j i 0 j.length 1).isEmpty) else !(Builtin.Str.occurrences j i 0 j.length 1).isEmpty)) x y
    | _ => False)
  | _ => False
theorem inD_mono {neg : Bool} : ∀ x y P P', (∀ a b c, P a b c → P' a b c) → inD neg x y P → inD neg x y P' := fun x y P P' hp q => by
  cases y <;> first | exact q.elim | exact ⟨q.1, q.2.1, hp _ _ _ q.2.2⟩ | (cases x <;> first | exact q.elim | exact hp _ _ _ q)
theorem isIn_py {x : D} {xs : List D} : ((pys xs).any fun z => PyData.eqv z x.py) = isIn x xs := by
  unfold isIn
  rw [pys_map, List.any_map]
  rfl
theorem inD_ok : OpD X G kp (fun x y H Q => rInD X.K x y H Q ∨ (∃ i j, x = .str i ∧ y = .str j ∧ Q (.bl (!(Builtin.Str.occurrences j i 0 j.length 1).isEmpty)) H)) (inD false) := by
  refine ⟨inD_mono, fun σ ρ vs ds x y dx dy H Q W q => ?_⟩
  cases dy <;> first | exact q.elim | skip
  · cases dx <;> first | exact q.elim | skip
    exact .inr ⟨_, _, W.swap.isStr, W.isStr, q _ H W.bl⟩
  · rename_i m xs
    have e : (D.lst m xs).py = .list (pys xs) := by rw [D.py]
    have p := W.dp q.2.1
    have s := q.2.1
    unfold shp at s
    rw [e] at p s
    exact .inl ⟨dx.py, pys xs, W.swap.dp q.1, p, q.1, s, q.2.2 _ H (by rw [isIn_py]; exact W.bl)⟩
theorem notInD_ok : OpD X G kp (fun x y H Q => rNotInD X.K x y H Q ∨ (∃ i j, x = .str i ∧ y = .str j ∧ Q (.bl (!(!(Builtin.Str.occurrences j i 0 j.length 1).isEmpty))) H)) (inD true) := by
  refine ⟨inD_mono, fun σ ρ vs ds x y dx dy H Q W q => ?_⟩
  cases dy <;> first | exact q.elim | skip
  · cases dx <;> first | exact q.elim | skip
    exact .inr ⟨_, _, W.swap.isStr, W.isStr, q _ H W.bl⟩
  · rename_i m xs
    have e : (D.lst m xs).py = .list (pys xs) := by rw [D.py]
    have p := W.dp q.2.1
    have s := q.2.1
    unfold shp at s
    rw [e] at p s
    exact .inl ⟨dx.py, pys xs, W.swap.dp q.1, p, q.1, s, q.2.2 _ H (by rw [isIn_py]; exact W.bl)⟩
/-- is None -/
def isD (neg : Bool) : W2 := fun x y Q => match y with
  | .non => there x ∧ (match x with
    | .opq _ => False
    | .non => Q (.bl (!neg)) x y
    | _ => Q (.bl neg) x y)
  | _ => False
end
end Bd

/-! Bd6: in over tuples, is None, truth, and, or, not, if-else; displays; subscripts; slices. -/
namespace Bd
open PySem PySem.Spec PyProof.Rows L2
/-! ### scalars -/
def D.scal : D → Option V
  | .non => some .non
  | .bl b => some (.bl b)
  | .int i => some (.int i)
  | .str x => some (.str x)
  | _ => none
def scals (ds : List D) : Bool := ds.all fun d => d.scal.isSome
theorem Rep.scal {K : PySem.W.Frag} {H : Hp} {F A : AS} {v u : V} {d : D} (r : Rep K H F v d A) (h : d.scal = some u) : v = u := by
  cases r <;> simp [D.scal] at h <;> exact h
theorem scal_flat {d : D} {u : V} (h : d.scal = some u) : flatV u = true := by cases d <;> simp [D.scal] at h <;> subst h <;> rfl
theorem scal_eqV {x y : D} {u w : V} (hx : x.scal = some u) (hy : y.scal = some w) : eqV u w = eqd x y := by
  cases x <;> simp [D.scal] at hx <;> subst hx <;> cases y <;> simp [D.scal] at hy <;> subst hy <;> simp [eqV, eqd, D.py, PyData.eqv]
theorem Reps.flat {K : PySem.W.Frag} {H : Hp} {F : AS} : ∀ {vs : List V} {ds : List D} {A : AS}, Reps K H F vs ds A → scals ds = true → vs.all flatV = true ∧ ∀ (x : D) (u : V), x.scal = some u → inV u vs = isIn x ds
  | _, _, _, .nil, _ => ⟨rfl, fun _ _ _ => rfl⟩
  | _, _, _, .cons (v := v) (d := d) a b i j k, h => by
    unfold scals at h
    rw [List.all_cons, Bool.and_eq_true] at h
    obtain ⟨w, hw⟩ := Option.isSome_iff_exists.mp h.1
    have e := a.scal hw
    subst e
    obtain ⟨h1, h2⟩ := Reps.flat b h.2
    refine ⟨by rw [List.all_cons, scal_flat hw, h1]; rfl, fun x u hx => ?_⟩
    have := h2 x u hx
    unfold inV isIn at this ⊢
    rw [List.any_cons, List.any_cons, this, scal_eqV hw hx]
section
variable {K : PySem.W.Frag} {G : Gm} {kp : List Bool} {σ : Sl} {ρ : List D} {vs us : List V} {ds es fs : List D} {H : Hp} {v w x y : V} {d e : D} {m n : M}
theorem World.scal {u : V} (W : World K G kp σ ρ (v :: vs) (d :: ds) H) (h : d.scal = some u) : v = u := by
  obtain ⟨A, F, f⟩ := W
  have r := f.reps
  cases r with
  | cons a b i j k => exact a.scal h
theorem World.tupFlat (W : World K G kp σ ρ (v :: vs) (.tup es :: ds) H) (h : scals es = true) : ∃ a xs, v = .ref a ∧ TupD K H a xs ∧ xs.all flatV = true ∧ ∀ (x : D) (u : V), x.scal = some u → inV u xs = isIn x es := by
  obtain ⟨A, F, f⟩ := W
  have r := f.reps
  cases r with
  | cons a b i j k =>
    cases a with
    | tup t q =>
      obtain ⟨h1, h2⟩ := q.flat h
      exact ⟨_, _, rfl, t, h1, h2⟩
end
section
variable {X : Cx} {G : Gm} {kp : List Bool}
/-- x in y: y a list of data, a text, a tuple of scalars -/
def memD (neg : Bool) : W2 := fun x y Q => match y with
  | .tup xs => x.scal.isSome = true ∧ scals xs = true ∧ Q (.bl (if neg then !isIn x xs else isIn x xs)) x y
  | _ => inD neg x y Q
theorem memD_mono {neg : Bool} : ∀ x y P P', (∀ a b c, P a b c → P' a b c) → memD neg x y P → memD neg x y P' := fun x y P P' hp q => by
  cases y with
  | tup xs => exact ⟨q.1, q.2.1, hp _ _ _ q.2.2⟩
  | gone => exact inD_mono (neg := neg) x .gone P P' hp q
  | non => exact inD_mono (neg := neg) x .non P P' hp q
  | bl b => exact inD_mono (neg := neg) x (.bl b) P P' hp q
  | int b => exact inD_mono (neg := neg) x (.int b) P P' hp q
  | str b => exact inD_mono (neg := neg) x (.str b) P P' hp q
  | lst m b => exact inD_mono (neg := neg) x (.lst m b) P P' hp q
  | dct m k b => exact inD_mono (neg := neg) x (.dct m k b) P P' hp q
  | opq b => exact inD_mono (neg := neg) x (.opq b) P P' hp q
abbrev rMemA (K : PySem.W.Frag) : R2 := fun x y H Q => (rInD K x y H Q ∨ (∃ i j, x = .str i ∧ y = .str j ∧ Q (.bl (!(Builtin.Str.occurrences j i 0 j.length 1).isEmpty)) H)) ∨ rIn K false x y H Q
abbrev rNotMemA (K : PySem.W.Frag) : R2 := fun x y H Q => (rNotInD K x y H Q ∨ (∃ i j, x = .str i ∧ y = .str j ∧ Q (.bl (!(!(Builtin.Str.occurrences j i 0 j.length 1).isEmpty))) H)) ∨ rIn K true x y H Q
theorem op_memA (hu : X.A.units + 65 < cLine) : OpR X (compareOp .In) (rMemA X.K) := ((op_inD hu).or op_in_str).or op_in_seq
theorem op_notMemA (hu : X.A.units + 65 < cLine) : OpR X (compareOp .NotIn) (rNotMemA X.K) := ((op_notInD hu).or op_notin_str).or op_notIn_seq
theorem memD_ok : OpD X G kp (rMemA X.K) (memD false) := by
  refine ⟨memD_mono, fun σ ρ vs ds x y dx dy H Q W q => ?_⟩
  cases dy <;> first | exact .inl (inD_ok.2 _ _ _ _ _ _ _ _ _ _ W q) | skip
  obtain ⟨q1, q2, q3⟩ := q
  obtain ⟨u, hu⟩ := Option.isSome_iff_exists.mp q1
  obtain ⟨a, xs, rfl, t, h1, h2⟩ := W.tupFlat q2
  have e := W.swap.scal hu
  subst e
  exact .inr ⟨a, xs, rfl, .inr t.sq, scal_flat hu, h1, q3 _ H (by rw [h2 dx _ hu]; exact W.bl)⟩
theorem notMemD_ok : OpD X G kp (rNotMemA X.K) (memD true) := by
  refine ⟨memD_mono, fun σ ρ vs ds x y dx dy H Q W q => ?_⟩
  cases dy <;> first | exact .inl (notInD_ok.2 _ _ _ _ _ _ _ _ _ _ W q) | skip
  obtain ⟨q1, q2, q3⟩ := q
  obtain ⟨u, hu⟩ := Option.isSome_iff_exists.mp q1
  obtain ⟨a, xs, rfl, t, h1, h2⟩ := W.tupFlat q2
  have e := W.swap.scal hu
  subst e
  exact .inr ⟨a, xs, rfl, .inr t.sq, scal_flat hu, h1, q3 _ H (by rw [h2 dx _ hu]; exact W.bl)⟩
theorem isD_mono {neg : Bool} : ∀ x y P P', (∀ a b c, P a b c → P' a b c) → isD neg x y P → isD neg x y P' := fun x y P P' hp q => by
  cases y <;> first | exact q.elim | skip
  obtain ⟨q1, q⟩ := q
  cases x <;> first | exact q.elim | exact ⟨q1, hp _ _ _ q⟩
theorem World.ne_non {K : PySem.W.Frag} {σ : Sl} {ρ : List D} {vs : List V} {ds : List D} {H : Hp} {v : V} {d : D} (W : World K G kp σ ρ (v :: vs) (d :: ds) H) (t : there d) : (∃ u, d = .opq u) ∨ (v = .non ↔ d = .non) := by
  obtain ⟨A, F, f⟩ := W
  have r := f.reps
  cases r with
  | cons a b i j k =>
    cases a <;> first | exact t.elim | exact .inl ⟨_, rfl⟩ | exact .inr (by simp)
theorem isD_ok : OpD X G kp (fun x y H Q => y = .non ∧ Q (.bl (decide (x = .non))) H) (isD false) := by
  refine ⟨isD_mono, fun σ ρ vs ds x y dx dy H Q W q => ?_⟩
  cases dy <;> first | exact q.elim | skip
  obtain ⟨t, q⟩ := q
  have e := W.isNon
  subst e
  refine ⟨rfl, ?_⟩
  rcases W.swap.ne_non t with ⟨u, rfl⟩ | h
  · exact q.elim
  · by_cases z : dx = .non
    · subst z
      rw [h.mpr rfl, decide_eq_true rfl]
      have e := h.mpr rfl
      subst e
      exact q _ H W.bl
    · rw [decide_eq_false (fun e => z (h.mp e))]
      cases dx <;> first | exact q.elim | exact absurd rfl z | exact q _ H W.bl
theorem isNotD_ok : OpD X G kp (fun x y H Q => y = .non ∧ Q (.bl (!decide (x = .non))) H) (isD true) := by
  refine ⟨isD_mono, fun σ ρ vs ds x y dx dy H Q W q => ?_⟩
  cases dy <;> first | exact q.elim | skip
  obtain ⟨t, q⟩ := q
  have e := W.isNon
  subst e
  refine ⟨rfl, ?_⟩
  rcases W.swap.ne_non t with ⟨u, rfl⟩ | h
  · exact q.elim
  · by_cases z : dx = .non
    · subst z
      have e := h.mpr rfl
      subst e
      rw [decide_eq_true rfl]
      exact q _ H W.bl
    · rw [decide_eq_false (fun e => z (h.mp e))]
      cases dx <;> first | exact q.elim | exact absurd rfl z | exact q _ H W.bl
end
/-! ### truth -/
def truW (d : D) (Q : Bool → Prop) : Prop := match d with
  | .non => Q false
  | .bl b => Q b
  | .int i => Q (i != 0)
  | .str x => x.length ≤ sizeLine ∧ Q ((x.length : Int) != 0)
  | .tup ds => Q (!ds.isEmpty)
  | .lst _ ds => Q (!ds.isEmpty)
  | _ => False
theorem truW_mono {d : D} {P P' : Bool → Prop} (h : ∀ b, P b → P' b) (q : truW d P) : truW d P' := by
  cases d <;> first | exact q.elim | exact h _ q | exact ⟨q.1, h _ q.2⟩
theorem emp_len {α β : Type} {xs : List α} {ys : List β} (h : xs.length = ys.length) : xs.isEmpty = ys.isEmpty := by
  cases xs <;> cases ys <;> simp_all
section
variable {X : Cx} {G : Gm} {kp : List Bool} {e a b c : Expr} {rest : List Expr} {pos p1 : Pos} {wa wb we : WE} {wt wu : WT}
theorem World.tru {K : PySem.W.Frag} {σ : Sl} {ρ : List D} {vs : List V} {ds : List D} {H : Hp} {v : V} {d : D} {P : Bool → Prop} (W : World K G kp σ ρ (v :: vs) (d :: ds) H) (h : truW d P) : ∃ k, TruV K v H k ∧ P k := by
  cases d <;> first | exact h.elim | skip
  · have e := W.isNon; subst e; exact ⟨false, rfl, h⟩
  · have e := W.isBl; subst e; exact ⟨_, rfl, h⟩
  · have e := W.isInt; subst e; exact ⟨_, rfl, h⟩
  · have e := W.isStr; subst e; exact ⟨_, ⟨h.1, rfl⟩, h.2⟩
  · obtain ⟨a, us, rfl, t, l⟩ := W.isTup
    exact ⟨_, .inr (.inl ⟨us, t.sq, rfl⟩), by rw [emp_len l]; exact h⟩
  · obtain ⟨a, us, rfl, t, l, _⟩ := W.isLst
    exact ⟨_, .inl ⟨us, t, rfl⟩, by rw [emp_len l]; exact h⟩
/-- a test by truth -/
def wTr (w : WB) : WT := fun ρ Q => w ρ fun d o r => truW d fun b => Q b (gb o d r)
theorem dt_truth {wa : WB} (ha : DB X G kp a wa) (he : ∀ whole, isTrue a X.env whole = (do let v ← whole; standAt a.pos; holding [v] (truthy v)) := by intro _; rfl) : DT X G kp a (wTr wa) :=
  ⟨fun ρ P P' hp q => ha.mono ρ _ _ (fun d o r z => truW_mono (fun b q => hp b _ q) z) q, pt_imp (pt_truth ha.run he) fun σ H Q ⟨ρ, vs, ds, W, q⟩ => ⟨ρ, vs, ds, W, ha.mono ρ _ _ (fun d o r z v H' W' ho => by
    obtain ⟨k, t, z⟩ := W'.tru z
    exact ⟨k, t, z H' (W'.gb ho)⟩) q⟩⟩
/-! ### and, or, not in tests -/
def wAnd (wa wb : WT) : WT := fun ρ Q => wa ρ fun k r => if k = true then wb r Q else Q false r
def wOr (wa wb : WT) : WT := fun ρ Q => wa ρ fun k r => if k = true then Q true r else wb r Q
def wNot (wa : WT) : WT := fun ρ Q => wa ρ fun k r => Q (!k) r
theorem dw_and1 {wt : WT} (ha : DT X G kp a wt) : DW X G kp (.BoolOp .And [a] pos) wt := ⟨ha.mono, pw_and1 ha.run⟩
theorem dw_or1 {wt : WT} (ha : DT X G kp a wt) : DW X G kp (.BoolOp .Or [a] pos) wt := ⟨ha.mono, pw_or1 ha.run⟩
theorem tDT_and {wa wb : WT} (ma : ∀ ρ P P', (∀ d r, P d r → P' d r) → wa ρ P → wa ρ P') (σ : Sl) (H : Hp) (Q : Bool → Hp → Prop) (q : tDT X.K G kp (wAnd wa wb) σ H Q) : tAnd (tDT X.K G kp wa) (tDT X.K G kp wb) σ H Q := by
  obtain ⟨ρ, vs, ds, W, q⟩ := q
  refine ⟨ρ, vs, ds, W, ma ρ _ _ (fun k r z H' W' => ?_) q⟩
  cases k with
  | true => exact ⟨r, vs, ds, W', z⟩
  | false => exact z H' W'
theorem tDT_or {wa wb : WT} (ma : ∀ ρ P P', (∀ d r, P d r → P' d r) → wa ρ P → wa ρ P') (σ : Sl) (H : Hp) (Q : Bool → Hp → Prop) (q : tDT X.K G kp (wOr wa wb) σ H Q) : tOr (tDT X.K G kp wa) (tDT X.K G kp wb) σ H Q := by
  obtain ⟨ρ, vs, ds, W, q⟩ := q
  refine ⟨ρ, vs, ds, W, ma ρ _ _ (fun k r z H' W' => ?_) q⟩
  cases k with
  | true => exact z H' W'
  | false => exact ⟨r, vs, ds, W', z⟩
theorem dw_and {wa wb : WT} (ha : DT X G kp a wa) (hb : DW X G kp (.BoolOp .And (b :: rest) pos) wb) : DW X G kp (.BoolOp .And (a :: b :: rest) pos) (wAnd wa wb) :=
  ⟨fun ρ P P' hp q => ha.mono ρ _ _ (fun k r z => by cases k with
    | true => exact hb.mono _ _ _ hp z
    | false => exact hp _ _ z) q, pw_imp (pw_and ha.run hb.run) fun σ H Q q => tDT_and ha.mono σ H Q q⟩
theorem dw_or {wa wb : WT} (ha : DT X G kp a wa) (hb : DW X G kp (.BoolOp .Or (b :: rest) pos) wb) : DW X G kp (.BoolOp .Or (a :: b :: rest) pos) (wOr wa wb) :=
  ⟨fun ρ P P' hp q => ha.mono ρ _ _ (fun k r z => by cases k with
    | true => exact hp _ _ z
    | false => exact hb.mono _ _ _ hp z) q, pw_imp (pw_or ha.run hb.run) fun σ H Q q => tDT_or ha.mono σ H Q q⟩
theorem dt_w {wa : WT} (h : DW X G kp e wa) : DT X G kp e wa := ⟨h.mono, h.run.pt⟩
theorem dt_not {wa : WT} (ha : DT X G kp a wa) : DT X G kp (.UnaryOp .Not a pos) (wNot wa) :=
  ⟨fun ρ P P' hp q => ha.mono ρ _ _ (fun k r z => hp _ _ z) q, pt_imp (pt_not ha.run) fun σ H Q ⟨ρ, vs, ds, W, q⟩ => ⟨ρ, vs, ds, W, ha.mono ρ _ _ (fun k r z H' W' => z H' W') q⟩⟩
/-! ### .. as values -/
def wOrV (wa wb : WE) : WE := fun ρ Q => wa ρ fun d r => truW d fun k => if k = true then Q d r else wb r Q
def wAndV (wa wb : WE) : WE := fun ρ Q => wa ρ fun d r => truW d fun k => if k = true then wb r Q else Q d r
def wNotV (wa : WB) : WE := fun ρ Q => wa ρ fun d o r => truW d fun k => Q (.bl (!k)) (gb o d r)
theorem de_one {op} (h : DE X G kp a wa) : DE X G kp (.BoolOp op [a] pos) wa := ⟨h.mono, pe_one h.run⟩
theorem de_or (ha : DE X G kp a wa) (hb : DE X G kp (.BoolOp .Or (b :: rest) pos) wb) : DE X G kp (.BoolOp .Or (a :: b :: rest) pos) (wOrV wa wb) :=
  ⟨fun ρ P P' hp q => ha.mono ρ _ _ (fun d r z => truW_mono (fun k z => by cases k with
    | true => exact hp _ _ z
    | false => exact hb.mono _ _ _ hp z) z) q, pe_imp (pe_orT ha.run hb.run) fun σ H Q ⟨ρ, vs, ds, W, q⟩ => ⟨ρ, vs, ds, W, ha.mono ρ _ _ (fun d r z v H' W' => by
      obtain ⟨k, t, z⟩ := W'.tru z
      refine ⟨k, t, ?_⟩
      cases k with
      | true => exact z v H' W'
      | false => exact ⟨r, vs, ds, W'.drop, z⟩) q⟩⟩
theorem de_and (ha : DE X G kp a wa) (hb : DE X G kp (.BoolOp .And (b :: rest) pos) wb) : DE X G kp (.BoolOp .And (a :: b :: rest) pos) (wAndV wa wb) :=
  ⟨fun ρ P P' hp q => ha.mono ρ _ _ (fun d r z => truW_mono (fun k z => by cases k with
    | true => exact hb.mono _ _ _ hp z
    | false => exact hp _ _ z) z) q, pe_imp (pe_andT ha.run hb.run) fun σ H Q ⟨ρ, vs, ds, W, q⟩ => ⟨ρ, vs, ds, W, ha.mono ρ _ _ (fun d r z v H' W' => by
      obtain ⟨k, t, z⟩ := W'.tru z
      refine ⟨k, t, ?_⟩
      cases k with
      | true => exact ⟨r, vs, ds, W'.drop, z⟩
      | false => exact z v H' W') q⟩⟩
theorem de_not {wa : WB} (ha : DB X G kp a wa) : DE X G kp (.UnaryOp .Not a pos) (wNotV wa) :=
  ⟨fun ρ P P' hp q => ha.mono ρ _ _ (fun d o r z => truW_mono (fun k z => hp _ _ z) z) q, pe_imp (pe_notT ha.run) fun σ H Q ⟨ρ, vs, ds, W, q⟩ => ⟨ρ, vs, ds, W, ha.mono ρ _ _ (fun d o r z v H' W' ho => by
      obtain ⟨k, t, z⟩ := W'.tru z
      exact ⟨k, t, z _ H' (W'.gb ho).bl⟩) q⟩⟩
/-- a if t else b -/
def wIf (wt : WT) (wa wb : WE) : WE := fun ρ Q => wt ρ fun k r => if k = true then wa r Q else wb r Q
theorem de_if {wt : WT} (hc : DT X G kp c wt) (ha : DE X G kp a wa) (hb : DE X G kp b wb) : DE X G kp (.IfExp c a b pos) (wIf wt wa wb) :=
  ⟨fun ρ P P' hp q => hc.mono ρ _ _ (fun k r z => by cases k with
    | true => exact ha.mono _ _ _ hp z
    | false => exact hb.mono _ _ _ hp z) q, pe_imp (pe_ifExp hc.run ha.run hb.run) fun σ H Q ⟨ρ, vs, ds, W, q⟩ => ⟨ρ, vs, ds, W, hc.mono ρ _ _ (fun k r z H' W' => by
      cases k with
      | true => exact ⟨r, vs, ds, W', z⟩
      | false => exact ⟨r, vs, ds, W', z⟩) q⟩⟩
/-- -x -/
def wNeg (wa : WE) : WE := fun ρ Q => wa ρ fun d r => match d with
  | .int i => Q (.int (-i)) r
  | _ => False
theorem de_neg (ha : DE X G kp a wa) : DE X G kp (.UnaryOp .USub a pos) (wNeg wa) :=
  ⟨fun ρ P P' hp q => ha.mono ρ _ _ (fun d r z => by cases d <;> first | exact z.elim | exact hp _ _ z) q, pe_imp (pe_un un_neg ha.run) fun σ H Q ⟨ρ, vs, ds, W, q⟩ => ⟨ρ, vs, ds, W, ha.mono ρ _ _ (fun d r z v H' W' => by
      cases d <;> first | exact z.elim | skip
      have e := W'.isInt
      subst e
      exact ⟨_, rfl, z _ H' W'.drop.int⟩) q⟩⟩
/-! ### values in a row; displays -/
def wNil : WA := fun ρ Q => Q [] ρ
def wCons (wa : WE) (wr : WA) : WA := fun ρ Q => wa ρ fun d r => wr r fun es r2 => Q (d :: es) r2
theorem da_nil : DA X G kp [] wNil := ⟨fun ρ P P' hp q => hp _ _ q, pa_imp pa_nil fun σ H Q ⟨ρ, vs, ds, W, q⟩ => q [] H rfl W⟩
theorem da_cons {es : List Expr} {wr : WA} (ha : DE X G kp e wa) (hr : DA X G kp es wr) (hs : starEach (e :: es) X.env = (false, eval e X.env) :: starEach es X.env := by rfl) : DA X G kp (e :: es) (wCons wa wr) :=
  ⟨fun ρ P P' hp q => ha.mono ρ _ _ (fun d r z => hr.mono _ _ _ (fun es r2 z => hp _ _ z) z) q, pa_imp (pa_cons ha.run hr.run hs) fun σ H Q ⟨ρ, vs, ds, W, q⟩ => ⟨ρ, vs, ds, W, ha.mono ρ _ _ (fun d r z v H' W' => ⟨r, _, _, W', hr.mono _ _ _ (fun es r2 z us H2 l W2 => z (v :: us) H2 (by simp [l]) (by
    have := W2.rot l
    simpa using this)) z⟩) q⟩⟩
def wTup (wa : WA) : WE := fun ρ Q => wa ρ fun es r => es.length ≤ sizeLine ∧ Q (.tup es) r
def wLst (wa : WA) : WE := fun ρ Q => wa ρ fun es r => es.length ≤ sizeLine ∧ Q (.lst .own es) r
theorem de_tup {es : List Expr} {w : WA} {x1} (h : DA X G kp es w) : DE X G kp (.Tuple es x1 pos) (wTup w) :=
  ⟨fun ρ P P' hp q => h.mono ρ _ _ (fun es r z => ⟨z.1, hp _ _ z.2⟩) q, pe_imp (pe_tupP h.run) fun σ H Q ⟨ρ, vs, ds, W, q⟩ => ⟨ρ, vs, ds, W, h.mono ρ _ _ (fun es r z us H' l W' => ⟨by rw [l]; exact z.1, fun p o hp ho => z.2 _ _ (W'.newTup l hp ho)⟩) q⟩⟩
theorem de_lst {es : List Expr} {w : WA} (h : DA X G kp es w) : DE X G kp (.List es pos) (wLst w) :=
  ⟨fun ρ P P' hp q => h.mono ρ _ _ (fun es r z => ⟨z.1, hp _ _ z.2⟩) q, pe_imp (pe_lst h.run) fun σ H Q ⟨ρ, vs, ds, W, q⟩ => ⟨ρ, vs, ds, W, h.mono ρ _ _ (fun es r z us H' l W' => ⟨by rw [l]; exact z.1, fun p hp => z.2 _ _ (W'.newLst l hp)⟩) q⟩⟩
/-! ### subscripts -/
def ixD : W2 := fun x y Q => match y with
  | .int i => (match x with
    | .lst m xs => ∃ d, atI xs i = some d ∧ Q d.frz (.lst m (frzs xs)) y
    | .tup xs => ∃ d, atI xs i = some d ∧ Q d.frz (.tup (frzs xs)) y
    | .str z => z.length ≤ sizeLine ∧ ∃ c, atI z.cps.toList i = some c ∧ Q (.str ⟨#[c]⟩) x y
    | _ => False)
  | _ => False
theorem atI_map {α β : Type} {xs : List α} {ys : List β} (h : xs.length = ys.length) {i : Int} {d : β} (e : atI ys i = some d) : ∃ j, ixN xs.length i = some j ∧ ys[j]? = some d := by
  unfold atI at e
  rw [← h] at e
  cases q : ixN xs.length i with
  | none => rw [q] at e; cases e
  | some j => rw [q] at e; exact ⟨j, rfl, e⟩
theorem frzs_get {xs : List D} {j : Nat} {d : D} (h : xs[j]? = some d) : (frzs xs)[j]? = some d.frz := by rw [frzs_eq_map, List.getElem?_map, h]; rfl
theorem ixD_mono : ∀ x y P P', (∀ a b c, P a b c → P' a b c) → ixD x y P → ixD x y P' := fun x y P P' hp q => by
  cases y <;> first | exact q.elim | skip
  cases x <;> first | exact q.elim | (obtain ⟨d, e, q⟩ := q; exact ⟨d, e, hp _ _ _ q⟩) | (obtain ⟨z, d, e, q⟩ := q; exact ⟨z, d, e, hp _ _ _ q⟩)
theorem Reps.nth {K : PySem.W.Frag} {H : Hp} {F : AS} : ∀ {us : List V} {es : List D} {A : AS} {j : Nat} {d : D}, Reps K H F us es A → es[j]? = some d → ∃ v, us[j]? = some v ∧ Rep K H F v d A
  | _, _, _, 0, _, .cons a b i j k, h => by simp at h; subst h; exact ⟨_, rfl, a.mono i⟩
  | _, _, _, n + 1, _, .cons a b i j k, h => by
    obtain ⟨v, hv, r⟩ := Reps.nth (j := n) b (by simpa using h)
    exact ⟨v, by simpa using hv, r.mono j⟩
  | _, _, _, _, _, .nil, h => by simp at h
theorem ixD_ok : OpD X G kp (rIx X.K) ixD := by
  refine ⟨ixD_mono, fun σ ρ vs ds x y dx dy H Q W q => ?_⟩
  cases dy <;> first | exact q.elim | skip
  rename_i i
  have e1 := W.isInt
  subst e1
  cases dx <;> first | exact q.elim | skip
  · obtain ⟨z, c, e, q⟩ := q
    exact .inr (.inr ⟨_, i, c, W.swap.isStr, rfl, z, e, q _ H W.str⟩)
  · rename_i es
    obtain ⟨d, e, q⟩ := q
    have W1 : World X.K G kp σ ρ (x :: .int i :: vs) (.tup (frzs es) :: .int i :: ds) H := W.swap.frzKids
    obtain ⟨a, xs, rfl, t, l, mk⟩ := W1.tupW (frzs_solid es)
    obtain ⟨j, hj, hd⟩ := atI_map (xs := xs) (by rw [l, frzs_length]) e
    -- the item
    have hw : ∃ v, xs[j]? = some v := ⟨xs[j]'(by
      have := (List.getElem?_eq_some_iff.mp hd).1
      rw [← frzs_length, ← l] at this; exact this), List.getElem?_eq_getElem _⟩
    obtain ⟨v, hv⟩ := hw
    refine .inr (.inl ⟨a, xs, i, v, rfl, rfl, t.sq, by unfold atI; rw [hj]; exact hv, q v H ?_⟩)
    refine mk _ _ (fun F A rk r => ?_) (by have := W.lv; simp at this ⊢; omega)
    obtain ⟨v', hv', rv⟩ := rk.nth (frzs_get hd)
    rw [hv] at hv'; cases hv'
    exact (Reps.swap r).push rv
  · rename_i m es
    obtain ⟨d, e, q⟩ := q
    have W1 : World X.K G kp σ ρ (x :: .int i :: vs) (.lst m (frzs es) :: .int i :: ds) H := W.swap.frzKids
    obtain ⟨a, xs, rfl, t, _, l, mk⟩ := W1.lstW (frzs_solid es)
    obtain ⟨j, hj, hd⟩ := atI_map (xs := xs) (by rw [l, frzs_length]) e
    have hw : ∃ v, xs[j]? = some v := ⟨xs[j]'(by
      have := (List.getElem?_eq_some_iff.mp hd).1
      rw [← frzs_length, ← l] at this; exact this), List.getElem?_eq_getElem _⟩
    obtain ⟨v, hv⟩ := hw
    refine .inl ⟨a, xs, i, v, rfl, rfl, t, by unfold atI; rw [hj]; exact hv, q v H ?_⟩
    refine mk _ _ (fun F A rk r => ?_) (by have := W.lv; simp at this ⊢; omega)
    obtain ⟨v', hv', rv⟩ := rk.nth (frzs_get hd)
    rw [hv] at hv'; cases hv'
    exact (Reps.swap r).push rv
theorem de_ix {wa wb : WB} (ha : DB X G kp a wa) (hb : DB X G kp b wb) (hs : PlainIx b := by intro _ _; rfl) : DE X G kp (.Subscript a b pos) (wOp ixD wa wb) :=
  ⟨wOp_mono ixD_mono ha.mono hb.mono, pe_imp (pe_ix ix_seq ha.run hb.run hs) fun σ H Q q => ixD_ok.conv ha.mono hb.mono σ H Q q⟩
/-! ### slices -/
def cutD (xs : List D) (lo hi : Option Int) : List D := (xs.drop (HT.sIx xs.length 0 lo)).take (HT.sIx xs.length xs.length hi - HT.sIx xs.length 0 lo)
structure DO (X : Cx) (G : Gm) (kp : List Bool) (e : Option Expr) (w : List D → (Option Int → List D → Prop) → Prop) : Prop where
  mono : ∀ ρ P P', (∀ d r, P d r → P' d r) → w ρ P → w ρ P'
  run : PO X e (fun σ H Q => ∃ ρ vs ds, World X.K G kp σ ρ vs ds H ∧ w ρ fun o ρ' => ∀ H', World X.K G kp σ ρ' vs ds H' → Q o H')
theorem po_imp {o : Option Expr} {t t' : TO} (h : PO X o t) (i : ∀ σ H Q, t' σ H Q → t σ H Q) : PO X o t' := ⟨fun pins s σ H Q I q => h.run pins s σ H Q I (i σ H Q q)⟩
def wNo : List D → (Option Int → List D → Prop) → Prop := fun ρ Q => Q none ρ
def wSo (w : WE) : List D → (Option Int → List D → Prop) → Prop := fun ρ Q => w ρ fun d r => match d with
  | .int i => Q (some i) r
  | _ => False
theorem do_none : DO X G kp none wNo := ⟨fun ρ P P' hp q => hp _ _ q, po_imp po_none fun σ H Q ⟨ρ, vs, ds, W, q⟩ => q H W⟩
theorem do_some (ha : DE X G kp e wa) : DO X G kp (some e) (wSo wa) :=
  ⟨fun ρ P P' hp q => ha.mono ρ _ _ (fun d r z => by cases d <;> first | exact z.elim | exact hp _ _ z) q, po_imp (po_some ha.run) fun σ H Q ⟨ρ, vs, ds, W, q⟩ => ⟨ρ, vs, ds, W, ha.mono ρ _ _ (fun d r z v H' W' => by
    cases d <;> first | exact z.elim | skip
    have e := W'.isInt
    subst e
    exact ⟨_, rfl, z H' W'.drop⟩) q⟩⟩
def slD (x : D) (lo hi : Option Int) (Q : D → D → Prop) : Prop := match x with
  | .lst m xs => Q (.lst .own (cutD (frzs xs) lo hi)) (.lst m (frzs xs))
  | .tup xs => Q (.tup (cutD (frzs xs) lo hi)) (.tup (frzs xs))
  | .str z => z.length ≤ sizeLine ∧ Q (.str (cutS z lo hi)) x
  | _ => False
def wSl (wa : WB) (wl wh : List D → (Option Int → List D → Prop) → Prop) : WE := fun ρ Q => wa ρ fun x o r => wl r fun lo r1 => wh r1 fun hi r2 => slD x lo hi fun z x' => Q z (gb o x' r2)
theorem slD_mono : ∀ x lo hi P P', (∀ a b, P a b → P' a b) → slD x lo hi P → slD x lo hi P' := fun x lo hi P P' hp q => by
  cases x <;> first | exact q.elim | exact hp _ _ q | exact ⟨q.1, hp _ _ q.2⟩
theorem Reps.cut {K : PySem.W.Frag} {H : Hp} {F : AS} : ∀ {us : List V} {es : List D} {A : AS} (a b : Nat), Reps K H F us es A → Reps K H F ((us.drop a).take b) ((es.drop a).take b) A := fun {us es A} a b r => by
  have tk : ∀ (b : Nat) {us : List V} {es : List D} {A : AS}, Reps K H F us es A → Reps K H F (us.take b) (es.take b) A := fun b => by
    induction b with
    | zero => intro us es A r; exact .nil
    | succ b ih =>
      intro us es A r
      cases r with
      | nil => exact .nil
      | cons a b i j k => exact .cons a (ih b) i j k
  have dr : ∀ (a : Nat) {us : List V} {es : List D} {A : AS}, Reps K H F us es A → Reps K H F (us.drop a) (es.drop a) A := fun a => by
    induction a with
    | zero => intro us es A r; exact r
    | succ a ih =>
      intro us es A r
      cases r with
      | nil => exact .nil
      | cons a b i j k => exact (ih b).mono j
  exact tk b (dr a r)
theorem cutD_len {us : List V} {es : List D} (l : us.length = es.length) (lo hi : Option Int) : (cutV us lo hi).length = (cutD es lo hi).length := by
  unfold cutV cutD
  rw [l, List.length_take, List.length_take, List.length_drop, List.length_drop, l]
theorem Reps.cutV {K : PySem.W.Frag} {H : Hp} {F A : AS} {us : List V} {es : List D} (r : Reps K H F us es A) (lo hi : Option Int) : Reps K H F (L2.cutV us lo hi) (cutD es lo hi) A := by
  unfold L2.cutV cutD
  rw [r.length]
  exact r.cut _ _
abbrev rSlAll (K : PySem.W.Frag) := fun (x : V) (lo hi : Option Int) (H : Hp) (Q : VK) => (rSlL K x lo hi H Q ∨ rSlP K x lo hi H Q) ∨ (∃ z, x = .str z ∧ z.length ≤ sizeLine ∧ Q (.str (cutS z lo hi)) H)
theorem sl_all (h : SlR X (fun x lo hi H Q => ∃ z, x = .str z ∧ z.length ≤ sizeLine ∧ Q (.str (cutS z lo hi)) H)) : SlR X (rSlAll X.K) := (sl_list.or sl_tupP).or h
end
end Bd

/-! Bd7: slices; calls: arguments lent; built-ins; methods. -/
namespace Bd
open PySem PySem.Spec PyProof.Rows L2
section
variable {X : Cx} {G : Gm} {kp : List Bool} {e a b c : Expr} {rest : List Expr} {pos p1 p2 : Pos} {we : WE} {wa wb : WB}
theorem slD_ok {lo hi : Option Int} {σ : Sl} {ρ : List D} {vs : List V} {ds : List D} {x : V} {dx : D} {H : Hp} {Q : VK} (W : World X.K G kp σ ρ (x :: vs) (dx :: ds) H) (q : slD dx lo hi fun z x' => ∀ v H', World X.K G kp σ ρ (v :: x :: vs) (z :: x' :: ds) H' → Q v H') : rSlAll X.K x lo hi H Q := by
  cases dx <;> first | exact q.elim | skip
  · have e := W.isStr
    subst e
    exact .inr ⟨_, rfl, q.1, q.2 _ H W.str⟩
  · rename_i es
    have W1 : World X.K G kp σ ρ (x :: vs) (.tup (frzs es) :: ds) H := W.frzKids
    obtain ⟨a, xs, rfl, t, l, mk⟩ := W1.tupW (frzs_solid es)
    refine .inl (.inr ⟨a, xs, rfl, t.sq, fun h => q _ H ?_, fun h p o hp ho => q _ _ ?_⟩)
    · refine mk _ _ (fun F A rk r => ?_) (by have := W.lv; simp at this ⊢; omega)
      refine r.push (.tup t ?_)
      have := rk.cutV lo hi
      have e : L2.cutV xs lo hi = xs := by
        unfold L2.cutV
        rw [h.1, h.2]
        simp
      rwa [e] at this
    · refine World.newTup (us := L2.cutV xs lo hi) (es := cutD (frzs es) lo hi) (mk _ _ (fun F A rk r => ?_) ?_) (cutD_len l lo hi) hp ho
      · rw [List.append_assoc, List.append_assoc]
        exact ((rk.cutV lo hi).join r fun _ h => h.elim).mono fun x h => h.elim (fun z => z.elim) id
      · have := W.lv
        rw [List.length_append, List.length_append, cutD_len l]
        simp at this ⊢; omega
  · rename_i m es
    have W1 : World X.K G kp σ ρ (x :: vs) (.lst m (frzs es) :: ds) H := W.frzKids
    obtain ⟨a, xs, rfl, t, _, l, mk⟩ := W1.lstW (frzs_solid es)
    refine .inl (.inl ⟨a, xs, rfl, t, fun p hp => q _ _ ?_⟩)
    refine World.newLst (us := L2.cutV xs lo hi) (es := cutD (frzs es) lo hi) (mk _ _ (fun F A rk r => ?_) ?_) (cutD_len l lo hi) hp
    · rw [List.append_assoc, List.append_assoc]
      exact ((rk.cutV lo hi).join r fun _ h => h.elim).mono fun x h => h.elim (fun z => z.elim) id
    · have := W.lv
      rw [List.length_append, List.length_append, cutD_len l]
      simp at this ⊢; omega
theorem de_sl {lo hi : Option Expr} {wl wh : List D → (Option Int → List D → Prop) → Prop} (ha : DB X G kp a wa) (hl : DO X G kp lo wl) (hh : DO X G kp hi wh) : DE X G kp (.Subscript a (.Slice lo hi none p2) pos) (wSl wa wl wh) :=
  ⟨fun ρ P P' hp q => ha.mono ρ _ _ (fun d o r z => hl.mono _ _ _ (fun lo r1 z => hh.mono _ _ _ (fun hi r2 z => slD_mono _ _ _ _ _ (fun a b z => hp _ _ z) z) z) z) q,
    pe_imp (pe_slice (sl_all sl_str) ha.run hl.run hh.run) fun σ H Q ⟨ρ, vs, ds, W, q⟩ => ⟨ρ, vs, ds, W, ha.mono ρ _ _ (fun d o r z v H' W' ho => ⟨r, _, _, W', hl.mono _ _ _ (fun lo r1 z H2 W2 => ⟨r1, _, _, W2, hh.mono _ _ _ (fun hi r2 z H3 W3 =>
      slD_ok W3 (slD_mono _ _ _ _ _ (fun y x' z u H4 W4 => z u H4 (W4.swap.gb ho)) z)) z⟩) z⟩) q⟩⟩
/-! ### arguments, lent -/
abbrev WBs := List D → (List D → List (Option Nat) → List D → Prop) → Prop
def Lent (σ : Sl) : List V → List (Option Nat) → Prop
  | v :: vs, o :: os => (∀ i, o = some i → σ[i]? = some (some v)) ∧ Lent σ vs os
  | _, _ => True
def tDBs (K : PySem.W.Frag) (G : Gm) (kp : List Bool) (w : WBs) : TA := fun σ H Q => ∃ ρ vs ds, World K G kp σ ρ vs ds H ∧ w ρ fun es os ρ' => ∀ us H', us.length = es.length → World K G kp σ ρ' (us ++ vs) (es ++ ds) H' → Lent σ us os → Q us H'
structure DBs (X : Cx) (G : Gm) (kp : List Bool) (es : List Expr) (w : WBs) : Prop where
  mono : ∀ ρ P P', (∀ d o r, P d o r → P' d o r) → w ρ P → w ρ P'
  run : PA X es (tDBs X.K G kp w)
def wBn : WBs := fun ρ Q => Q [] [] ρ
def wBc (wa : WB) (wr : WBs) : WBs := fun ρ Q => wa ρ fun d o r => wr r fun es os r2 => Q (d :: es) (o :: os) r2
theorem dbs_nil : DBs X G kp [] wBn := ⟨fun ρ P P' hp q => hp _ _ _ q, pa_imp pa_nil fun σ H Q ⟨ρ, vs, ds, W, q⟩ => q [] H rfl W trivial⟩
theorem dbs_cons {es : List Expr} {wr : WBs} (ha : DB X G kp e wa) (hr : DBs X G kp es wr) (hs : starEach (e :: es) X.env = (false, eval e X.env) :: starEach es X.env := by rfl) : DBs X G kp (e :: es) (wBc wa wr) :=
  ⟨fun ρ P P' hp q => ha.mono ρ _ _ (fun d o r z => hr.mono _ _ _ (fun es os r2 z => hp _ _ _ z) z) q, pa_imp (pa_cons ha.run hr.run hs) fun σ H Q ⟨ρ, vs, ds, W, q⟩ => ⟨ρ, vs, ds, W, ha.mono ρ _ _ (fun d o r z v H' W' ho => ⟨r, _, _, W', hr.mono _ _ _ (fun es os r2 z us H2 l W2 hl => z (v :: us) H2 (by simp [l]) (by
    have := W2.rot l
    simpa using this) ⟨ho, hl⟩) z⟩) q⟩⟩
def gbs : List (Option Nat) → List D → List D → List D
  | o :: os, d :: ds, ρ => gbs os ds (gb o d ρ)
  | _, _, ρ => ρ
section
variable {K : PySem.W.Frag} {σ : Sl} {H : Hp} {v : V} {d : D}
theorem World.gbs : ∀ {us : List V} {es : List D} {os : List (Option Nat)} {ρ : List D} {vs : List V} {ds : List D}, us.length = es.length → World K G kp σ ρ (us ++ vs) (es ++ ds) H → Lent σ us os → World K G kp σ (gbs os es ρ) vs ds H
  | [], [], os, ρ, vs, ds, _, W, _ => by cases os <;> exact W
  | u :: us, e :: es, [], ρ, vs, ds, l, W, _ => W.dropN (us := u :: us) (es := e :: es) l
  | u :: us, e :: es, o :: os, ρ, vs, ds, l, W, h => World.gbs (us := us) (es := es) (by simpa using l) (World.gb (o := o) W h.1) h.2
  | [], _ :: _, _, _, _, _, l, _, _ => by simp at l
  | _ :: _, [], _, _, _, _, l, _, _ => by simp at l
end
/-- a call by values: c of the arguments, the answer and what they are behind it -/
abbrev WK := List D → (D → List D → Prop) → Prop
def wCall (c : WK) (wr : WBs) : WE := fun ρ Q => wr ρ fun es os r => c es fun z es' => es'.length = es.length ∧ Q z (gbs os es' r)
def CallD (X : Cx) (G : Gm) (kp : List Bool) (r : List V → Hp → VK → Prop) (c : WK) : Prop :=
  (∀ es P P', (∀ a b, P a b → P' a b) → c es P → c es P') ∧
  ∀ σ ρ vs ds us es H Q, us.length = es.length → World X.K G kp σ ρ (us ++ vs) (es ++ ds) H → c es (fun z es' => es'.length = es.length ∧ ∀ v H', World X.K G kp σ ρ (v :: (us ++ vs)) (z :: (es' ++ ds)) H' → Q v H') → r us H Q
theorem CallD.conv {r : List V → Hp → VK → Prop} {c : WK} {wr : WBs} (h : CallD X G kp r c) (mr : ∀ ρ P P', (∀ d o r, P d o r → P' d o r) → wr ρ P → wr ρ P') (σ : Sl) (H : Hp) (Q : VK) (q : tDE X.K G kp (wCall c wr) σ H Q) : tCB r (tDBs X.K G kp wr) σ H Q := by
  obtain ⟨ρ, vs, ds, W, q⟩ := q
  refine ⟨ρ, vs, ds, W, mr ρ _ _ (fun es os ρ1 z us H1 l W1 hl => ?_) q⟩
  refine h.2 _ _ _ _ _ _ _ _ l W1 (h.1 _ _ _ (fun z es' q => ⟨q.1, fun v H' W' => q.2 v H' ?_⟩) z)
  have l' : us.length = es'.length := l.trans q.1.symm
  have W2 := W'.tor l'
  exact World.gbs l' W2 hl
theorem wCall_mono {c : WK} {wr : WBs} (mc : ∀ es P P', (∀ a b, P a b → P' a b) → c es P → c es P') (mr : ∀ ρ P P', (∀ d o r, P d o r → P' d o r) → wr ρ P → wr ρ P') : ∀ ρ P P', (∀ d r, P d r → P' d r) → wCall c wr ρ P → wCall c wr ρ P' :=
  fun ρ P P' hp q => mr ρ _ _ (fun es os r z => mc _ _ _ (fun a b z => ⟨z.1, hp _ _ z.2⟩) z) q
theorem de_callB {x : Str} {es : List Expr} {id : String} {r : List V → Hp → VK → Prop} {c : WK} {wr : WBs} (hc : CallR X (.builtin id) r) (hD : CallD X G kp r c) (hg : Gl X x) (hm : X.mg x = none) (hv : bootBuiltins x = some (.builtin id)) (ha : DBs X G kp (e :: es) wr) (hn : x ≠ "__name__" := by decide) (hdb : (x == ("__debug__" : Str)) = false := by decide)
    (he : starEach (e :: es) X.env = (false, eval e X.env) :: starEach es X.env := by rfl) (hpl : (backTo pos (starEach es X.env)).any (·.1) = false := by rfl) : DE X G kp (.Call (.Name x p1) (e :: es) [] pos) (wCall c wr) :=
  ⟨wCall_mono hD.1 ha.mono, pe_imp (pe_callB hc hg hm hv ha.run hn hdb he hpl) fun σ H Q q => hD.conv ha.mono σ H Q q⟩
theorem de_callTy {x : Str} {es : List Expr} {id : String} {r : List V → Hp → VK → Prop} {c : WK} {wr : WBs} (hc : CallR X (.type id) r) (hD : CallD X G kp r c) (hg : Gl X x) (hm : X.mg x = none) (hv : bootBuiltins x = some (.type id)) (ha : DBs X G kp (e :: es) wr) (hn : x ≠ "__name__" := by decide) (hdb : (x == ("__debug__" : Str)) = false := by decide)
    (he : starEach (e :: es) X.env = (false, eval e X.env) :: starEach es X.env := by rfl) (hpl : (backTo pos (starEach es X.env)).any (·.1) = false := by rfl) : DE X G kp (.Call (.Name x p1) (e :: es) [] pos) (wCall c wr) :=
  ⟨wCall_mono hD.1 ha.mono, pe_imp (pe_callTy hc hg hm hv ha.run hn hdb he hpl) fun σ H Q q => hD.conv ha.mono σ H Q q⟩
/-! ### built-ins of one argument that give a scalar and leave it -/
theorem CallD.or {r r' : List V → Hp → VK → Prop} {c : WK} (h : CallD X G kp r c) : CallD X G kp (fun xs H Q => r xs H Q ∨ r' xs H Q) c := ⟨h.1, fun σ ρ vs ds us es H Q l W q => .inl (h.2 σ ρ vs ds us es H Q l W q)⟩
/-- of one argument -/
def c1 (f : D → (D → D → Prop) → Prop) : WK := fun es Q => match es with
  | [d] => f d fun z d' => Q z [d']
  | _ => False
theorem c1_mono {f : D → (D → D → Prop) → Prop} (h : ∀ d P P', (∀ a b, P a b → P' a b) → f d P → f d P') : ∀ es P P', (∀ a b, P a b → P' a b) → c1 f es P → c1 f es P' := fun es P P' hp q => by
  match es, q with
  | [d], q => exact h d _ _ (fun a b z => hp _ _ z) q
theorem c1_ok {r : List V → Hp → VK → Prop} {f : D → (D → D → Prop) → Prop} (h : ∀ d P P', (∀ a b, P a b → P' a b) → f d P → f d P') (hr : ∀ σ ρ vs ds u d H Q, World X.K G kp σ ρ (u :: vs) (d :: ds) H → f d (fun z d' => ∀ v H', World X.K G kp σ ρ (v :: u :: vs) (z :: d' :: ds) H' → Q v H') → r [u] H Q) : CallD X G kp r (c1 f) := by
  refine ⟨c1_mono h, fun σ ρ vs ds us es H Q l W q => ?_⟩
  match es, us, l, W, q with
  | [d], [u], _, W, q => exact hr σ ρ vs ds u d H Q W (h d _ _ (fun a b z => z.2) q)
def c2 (f : D → D → (D → D → D → Prop) → Prop) : WK := fun es Q => match es with
  | [d, e] => f d e fun z d' e' => Q z [d', e']
  | _ => False
theorem c2_ok {r : List V → Hp → VK → Prop} {f : D → D → (D → D → D → Prop) → Prop} (h : ∀ d e P P', (∀ a b c, P a b c → P' a b c) → f d e P → f d e P') (hr : ∀ σ ρ vs ds u w d e H Q, World X.K G kp σ ρ (u :: w :: vs) (d :: e :: ds) H → f d e (fun z d' e' => ∀ v H', World X.K G kp σ ρ (v :: u :: w :: vs) (z :: d' :: e' :: ds) H' → Q v H') → r [u, w] H Q) : CallD X G kp r (c2 f) := by
  refine ⟨fun es P P' hp q => ?_, fun σ ρ vs ds us es H Q l W q => ?_⟩
  · match es, q with
    | [d, e], q => exact h d e _ _ (fun a b c z => hp _ _ z) q
  · match es, us, l, W, q with
    | [d, e], [u, w], _, W, q => exact hr σ ρ vs ds u w d e H Q W (h d e _ _ (fun a b c z => z.2) q)
/-! #### len -/
def lenF (d : D) (Q : D → D → Prop) : Prop := match d with
  | .lst _ xs => Q (.int xs.length) d
  | .tup xs => Q (.int xs.length) d
  | .str z => z.length ≤ sizeLine ∧ Q (.int z.length) d
  | _ => False
abbrev rLenA (K : PySem.W.Frag) := fun (xs : List V) (H : Hp) (Q : VK) => (∃ p ys, xs = [.ref p] ∧ (SqL K H p ys ∨ SqT K H p ys) ∧ Q (.int ys.length) H) ∨ (∃ z, xs = [.str z] ∧ z.length ≤ sizeLine ∧ Q (.int z.length) H)
theorem call_lenA : CallR X (.builtin "len") (rLenA X.K) := call_len_seq.or call_len_str
theorem lenD_ok : CallD X G kp (rLenA X.K) (c1 lenF) := by
  refine c1_ok (fun d P P' hp q => ?_) fun σ ρ vs ds u d H Q W q => ?_
  · cases d <;> first | exact q.elim | exact hp _ _ q | exact ⟨q.1, hp _ _ q.2⟩
  · cases d <;> first | exact q.elim | skip
    · have e := W.isStr
      subst e
      exact .inr ⟨_, rfl, q.1, q.2 _ H W.int⟩
    · obtain ⟨a, us, rfl, t, l⟩ := W.isTup
      exact .inl ⟨a, us, rfl, .inr t.sq, q _ H (by rw [l]; exact W.int)⟩
    · obtain ⟨a, us, rfl, t, l, _⟩ := W.isLst
      exact .inl ⟨a, us, rfl, .inl t, q _ H (by rw [l]; exact W.int)⟩
/-! #### ints of a list -/
def ints? : List D → Option (List Int)
  | [] => some []
  | .int i :: r => (ints? r).map (i :: ·)
  | _ :: _ => none
theorem ints_map (ns : List Int) : ints? (ns.map D.int) = some ns := by
  induction ns with
  | nil => rfl
  | cons n r ih => simp [ints?, ih]
theorem Reps.ints {K : PySem.W.Frag} {H : Hp} {F : AS} : ∀ {us : List V} {es : List D} {A : AS} {ns : List Int}, Reps K H F us es A → ints? es = some ns → us = ns.map V.int ∧ es = ns.map D.int
  | _, _, _, _, .nil, h => by cases h; exact ⟨rfl, rfl⟩
  | _, _, _, ns, .cons (d := d) a b i j k, h => by
    cases d <;> simp [ints?] at h
    obtain ⟨ms, h1, rfl⟩ := h
    obtain ⟨e1, e2⟩ := Reps.ints b h1
    cases a
    exact ⟨by rw [e1]; rfl, by rw [e2]; rfl⟩
def bls? : List D → Option (List Bool)
  | [] => some []
  | .bl i :: r => (bls? r).map (i :: ·)
  | _ :: _ => none
theorem bls_map (ns : List Bool) : bls? (ns.map D.bl) = some ns := by
  induction ns with
  | nil => rfl
  | cons n r ih => simp [bls?, ih]
theorem Reps.bls {K : PySem.W.Frag} {H : Hp} {F : AS} : ∀ {us : List V} {es : List D} {A : AS} {ns : List Bool}, Reps K H F us es A → bls? es = some ns → us = ns.map V.bl
  | _, _, _, _, .nil, h => by cases h; rfl
  | _, _, _, ns, .cons (d := d) a b i j k, h => by
    cases d <;> simp [bls?] at h
    obtain ⟨ms, h1, rfl⟩ := h
    have e1 := Reps.bls b h1
    cases a
    rw [e1]; rfl
section
variable {K : PySem.W.Frag} {σ : Sl} {ρ : List D} {vs : List V} {ds es : List D} {H : Hp} {v : V} {m : M}
/-- the kids' values -/
theorem World.lstR {P : List V → Prop} (W : World K G kp σ ρ (v :: vs) (.lst m es :: ds) H) (h : ∀ F A us, Reps K H F us es A → P us) : ∃ a us, v = .ref a ∧ SqL K H a us ∧ P us := by
  obtain ⟨A, F, f⟩ := W
  have r := f.reps
  cases r with
  | cons a b i j k =>
    cases a with
    | own e a q t => exact ⟨_, _, rfl, .inl (.inl e), h _ _ _ q⟩
    | shr e a q => exact ⟨_, _, rfl, .inl (.inl e), h _ _ _ q⟩
    | con c q => exact ⟨_, _, rfl, c.sq, h _ _ _ q⟩
theorem World.tupR {P : List V → Prop} (W : World K G kp σ ρ (v :: vs) (.tup es :: ds) H) (h : ∀ F A us, Reps K H F us es A → P us) : ∃ a us, v = .ref a ∧ TupD K H a us ∧ P us := by
  obtain ⟨A, F, f⟩ := W
  have r := f.reps
  cases r with
  | cons a b i j k =>
    cases a with
    | tup e q => exact ⟨_, _, rfl, e, h _ _ _ q⟩
end
end
end Bd

/-! Bd8: built-ins: sum, max, min, abs, list, tuple, sorted, divmod; list.append; xs[i] = v. -/
namespace Bd
open PySem PySem.Spec PyProof.Rows L2
section
variable {X : Cx} {G : Gm} {kp : List Bool} {e a b c : Expr} {rest : List Expr} {pos p1 p2 : Pos} {we : WE} {wa wb : WB}
/-! #### sum -/
theorem cr_sumT (hc : X.calm = true) : CallR X (.builtin "sum") (fun vs H Q => ∃ (a : Addr) (ns : List Int), vs = [V.ref a] ∧ SqT X.K H a (ns.map V.int) ∧ Q (.int ns.sum) H) := by
  intro pins s σ H vs us Q I r h
  obtain ⟨a, ns, rfl, hs, q⟩ := h
  obtain ⟨its, rv, hl, _⟩ := I.tuple hs
  rw [Vals.ref1 r]
  have hi : IntsAre its ns := rv.ints
  obtain ⟨xs, e⟩ := hi.allInts.items
  have hn : numsOf (intItems xs).toList = ns := by rw [← e]; exact hi.numsOf
  rw [nums_intItems] at hn
  rw [e] at hl
  refine PySem.W.ktm_sumG (I.ok.hd hc) (show s.heap.IsTuple a (intItems xs) from hl) fun h' tk t' hk => ?_
  rw [preSum_eq, List.take_of_length_le (by simp), hn]
  exact ⟨.int _, H, I.kept hk, ⟨_, rfl⟩, q⟩
def sumF (d : D) (Q : D → D → Prop) : Prop := match d with
  | .lst _ xs => ∃ ns, ints? xs = some ns ∧ Q (.int ns.sum) d
  | .tup xs => ∃ ns, ints? xs = some ns ∧ Q (.int ns.sum) d
  | _ => False
abbrev rSumA (K : PySem.W.Frag) := fun (vs : List V) (H : Hp) (Q : VK) => rSum K vs H Q ∨ (∃ (a : Addr) (ns : List Int), vs = [V.ref a] ∧ SqT K H a (ns.map V.int) ∧ Q (.int ns.sum) H)
theorem call_sumA (hc : X.calm = true) : CallR X (.builtin "sum") (rSumA X.K) := (cr_sum hc).or (cr_sumT hc)
theorem sumD_ok : CallD X G kp (rSumA X.K) (c1 sumF) := by
  refine c1_ok (fun d P P' hp q => ?_) fun σ ρ vs ds u d H Q W q => ?_
  · cases d <;> first | exact q.elim | (obtain ⟨ns, e, q⟩ := q; exact ⟨ns, e, hp _ _ q⟩)
  · cases d <;> first | exact q.elim | skip
    · obtain ⟨ns, e, q⟩ := q
      obtain ⟨a, us, rfl, t, z⟩ := W.tupR (P := fun us => us = ns.map V.int) fun F A us r => (r.ints e).1
      subst z
      exact .inr ⟨a, ns, rfl, t.sq, q _ H W.int⟩
    · obtain ⟨ns, e, q⟩ := q
      obtain ⟨a, us, rfl, t, z⟩ := W.lstR (P := fun us => us = ns.map V.int) fun F A us r => (r.ints e).1
      subst z
      exact .inl ⟨a, ns, rfl, t, q _ H W.int⟩
/-! #### max, min -/
def maxF (d : D) (Q : D → D → Prop) : Prop := match d with
  | .lst _ xs => ∃ ns, ints? xs = some ns ∧ 0 < ns.length ∧ ∀ m, m ∈ ns → (∀ y, y ∈ ns → y ≤ m) → Q (.int m) d
  | _ => False
def minF (d : D) (Q : D → D → Prop) : Prop := match d with
  | .lst _ xs => ∃ ns, ints? xs = some ns ∧ 0 < ns.length ∧ ∀ m, m ∈ ns → (∀ y, y ∈ ns → m ≤ y) → Q (.int m) d
  | _ => False
theorem maxD_ok : CallD X G kp (rMax X.K) (c1 maxF) := by
  refine c1_ok (fun d P P' hp q => ?_) fun σ ρ vs ds u d H Q W q => ?_
  · cases d <;> first | exact q.elim | (obtain ⟨ns, e, l, q⟩ := q; exact ⟨ns, e, l, fun m h1 h2 => hp _ _ (q m h1 h2)⟩)
  · cases d <;> first | exact q.elim | skip
    obtain ⟨ns, e, l, q⟩ := q
    obtain ⟨a, us, rfl, t, z⟩ := W.lstR (P := fun us => us = ns.map V.int) fun F A us r => (r.ints e).1
    subst z
    exact ⟨a, ns, rfl, t, l, fun m h1 h2 => q m h1 h2 _ H W.int⟩
theorem minD_ok : CallD X G kp (rMin X.K) (c1 minF) := by
  refine c1_ok (fun d P P' hp q => ?_) fun σ ρ vs ds u d H Q W q => ?_
  · cases d <;> first | exact q.elim | (obtain ⟨ns, e, l, q⟩ := q; exact ⟨ns, e, l, fun m h1 h2 => hp _ _ (q m h1 h2)⟩)
  · cases d <;> first | exact q.elim | skip
    obtain ⟨ns, e, l, q⟩ := q
    obtain ⟨a, us, rfl, t, z⟩ := W.lstR (P := fun us => us = ns.map V.int) fun F A us r => (r.ints e).1
    subst z
    exact ⟨a, ns, rfl, t, l, fun m h1 h2 => q m h1 h2 _ H W.int⟩
def max2F (d e : D) (Q : D → D → D → Prop) : Prop := match d, e with
  | .int i, .int j => Q (.int (max i j)) d e
  | _, _ => False
def min2F (d e : D) (Q : D → D → D → Prop) : Prop := match d, e with
  | .int i, .int j => Q (.int (min i j)) d e
  | _, _ => False
theorem max_ite (i j : Int) : max i j = if j > i then j else i := by simp only [Int.max_def]; split <;> split <;> omega
theorem min_ite (i j : Int) : min i j = if j < i then j else i := by simp only [Int.min_def]; split <;> split <;> omega
theorem max2D_ok : CallD X G kp (fun xs H Q => ∃ i j, xs = [.int i, .int j] ∧ Q (.int (if j > i then j else i)) H) (c2 max2F) := by
  refine c2_ok (fun d e P P' hp q => ?_) fun σ ρ vs ds u w d e H Q W q => ?_
  · cases d <;> cases e <;> first | exact q.elim | exact hp _ _ _ q
  · cases d <;> cases e <;> first | exact q.elim | skip
    obtain ⟨rfl, rfl⟩ := W.two
    exact ⟨_, _, rfl, q _ H (by rw [max_ite]; exact W.int)⟩
theorem min2D_ok : CallD X G kp (fun xs H Q => ∃ i j, xs = [.int i, .int j] ∧ Q (.int (if j < i then j else i)) H) (c2 min2F) := by
  refine c2_ok (fun d e P P' hp q => ?_) fun σ ρ vs ds u w d e H Q W q => ?_
  · cases d <;> cases e <;> first | exact q.elim | exact hp _ _ _ q
  · cases d <;> cases e <;> first | exact q.elim | skip
    obtain ⟨rfl, rfl⟩ := W.two
    exact ⟨_, _, rfl, q _ H (by rw [min_ite]; exact W.int)⟩
/-! #### abs, divmod -/
def absF (d : D) (Q : D → D → Prop) : Prop := match d with
  | .int i => Q (.int (if i < 0 then -i else i)) d
  | _ => False
theorem absD_ok : CallD X G kp (fun xs H Q => ∃ i, xs = [.int i] ∧ Q (.int (if i < 0 then -i else i)) H) (c1 absF) := by
  refine c1_ok (fun d P P' hp q => ?_) fun σ ρ vs ds u d H Q W q => ?_
  · cases d <;> first | exact q.elim | exact hp _ _ q
  · cases d <;> first | exact q.elim | skip
    have e := W.isInt
    subst e
    exact ⟨_, rfl, q _ H W.int⟩
/-- divmod where C does it by itself -/
def CDivB (j : Int) : Prop := 0 < j ∧ j.natAbs.log2 < 9000
theorem CDivB.p {i j : Int} (h : CDivB j) : CDivP i j := ⟨h.1, PyProof.noPylong_of_log2 h.2⟩
def divF (d e : D) (Q : D → D → D → Prop) : Prop := match d, e with
  | .int i, .int j => CDivB j ∧ Q (.tup [.int (i / j), .int (i % j)]) d e
  | _, _ => False
theorem divD_ok : CallD X G kp (fun xs H Q => ∃ i j, xs = [.int i, .int j] ∧ CDivP i j ∧ ∀ p o, H p = none → o.dict = none → Q (.ref p) (upd H p (.frz o (.tup [.int (i / j), .int (i % j)])))) (c2 divF) := by
  refine c2_ok (fun d e P P' hp q => ?_) fun σ ρ vs ds u w d e H Q W q => ?_
  · cases d <;> cases e <;> first | exact q.elim | exact ⟨q.1, hp _ _ _ q.2⟩
  · cases d <;> cases e <;> first | exact q.elim | skip
    obtain ⟨rfl, rfl⟩ := W.two
    refine ⟨_, _, rfl, q.1.p, fun p o hp ho => q.2 _ _ ?_⟩
    rename_i i j
    exact World.newTup (us := [.int (i / j), .int (i % j)]) (es := [.int (i / j), .int (i % j)]) (W.int.int) rfl hp ho
/-! #### list(..), tuple(..) -/
def listF (d : D) (Q : D → D → Prop) : Prop := match d with
  | .lst m xs => Q (.lst .own (frzs xs)) (.lst m (frzs xs))
  | .tup xs => Q (.lst .own (frzs xs)) (.tup (frzs xs))
  | _ => False
def tupF (d : D) (Q : D → D → Prop) : Prop := match d with
  | .lst m xs => Q (.tup (frzs xs)) (.lst m (frzs xs))
  | .tup xs => Q (.tup (frzs xs)) (.tup (frzs xs))
  | _ => False
theorem listD_ok : CallD X G kp (fun xs H Q => ∃ p ys, xs = [.ref p] ∧ (SqL X.K H p ys ∨ SqT X.K H p ys) ∧ ∀ l, H l = none → Q (.ref l) (upd H l (.lst ys))) (c1 listF) := by
  refine c1_ok (fun d P P' hp q => ?_) fun σ ρ vs ds u d H Q W q => ?_
  · cases d <;> first | exact q.elim | exact hp _ _ q
  · cases d <;> first | exact q.elim | skip
    · rename_i es
      have W1 : World X.K G kp σ ρ (u :: vs) (.tup (frzs es) :: ds) H := W.frzKids
      obtain ⟨a, us, rfl, t, l, W2⟩ := W1.tupKids (frzs_solid es)
      exact ⟨a, us, rfl, .inr t.sq, fun p hp => q _ _ (W2.newLst l hp)⟩
    · rename_i m es
      have W1 : World X.K G kp σ ρ (u :: vs) (.lst m (frzs es) :: ds) H := W.frzKids
      obtain ⟨a, us, rfl, t, l, _, W2⟩ := W1.isLst
      exact ⟨a, us, rfl, .inl t, fun p hp => q _ _ ((W2 (.inl (frzs_solid es))).newLst l hp)⟩
theorem tupD_ok : CallD X G kp (fun xs H Q => ∃ p ys, xs = [.ref p] ∧ ((SqL X.K H p ys ∧ ∀ l o, H l = none → o.dict = none → Q (.ref l) (upd H l (.frz o (.tup ys)))) ∨ (SqT X.K H p ys ∧ Q (.ref p) H))) (c1 tupF) := by
  refine c1_ok (fun d P P' hp q => ?_) fun σ ρ vs ds u d H Q W q => ?_
  · cases d <;> first | exact q.elim | exact hp _ _ q
  · cases d <;> first | exact q.elim | skip
    · rename_i es
      have W1 : World X.K G kp σ ρ (u :: vs) (.tup (frzs es) :: ds) H := W.frzKids
      obtain ⟨a, us, rfl, t, l, mk⟩ := W1.tupW (frzs_solid es)
      refine ⟨a, us, rfl, .inr ⟨t.sq, q _ H (mk _ _ (fun F A rk r => ?_) (by have := W.lv; simp at this ⊢; omega))⟩⟩
      exact r.push (.tup t rk)
    · rename_i m es
      have W1 : World X.K G kp σ ρ (u :: vs) (.lst m (frzs es) :: ds) H := W.frzKids
      obtain ⟨a, us, rfl, t, l, _, W2⟩ := W1.isLst
      exact ⟨a, us, rfl, .inl ⟨t, fun p o hp ho => q _ _ ((W2 (.inl (frzs_solid es))).newTup l hp ho)⟩⟩
/-! #### sorted -/
def leD (x y : D) : Bool := PySem.W.dataLe false D.py x y
def alikeD (xs : List D) : Prop := PySem.W.AllAlike (xs.map D.py)
def sortableD (xs : List D) : Prop := PySem.W.Sortable (xs.map D.py)
def Okd (xs : List D) : Prop := ∀ d, d ∈ xs → d.py.canLay0 = true ∧ d.py.depth ≤ 60
def sortF (d : D) (Q : D → D → Prop) : Prop := match d with
  | .lst m xs => alikeD xs ∧ sortableD xs ∧ Okd xs ∧ Q (.lst .own ((frzs xs).mergeSort leD)) (.lst m (frzs xs))
  | _ => False
mutual
theorem py_frz : ∀ d : D, d.frz.py = d.py
  | .tup ds => by rw [D.frz, D.py, D.py, pys_frz ds]
  | .lst .own ds => by rw [D.frz, D.py, D.py, pys_frz ds]
  | .lst .shr ds => rfl
  | .lst .con ds => rfl
  | .dct .own _ _ => by rw [D.frz, D.py, D.py] <;> simp
  | .dct .shr _ _ => rfl
  | .dct .con _ _ => rfl
  | .gone => rfl
  | .non => rfl
  | .bl _ => rfl
  | .int _ => rfl
  | .str _ => rfl
  | .opq _ => rfl
theorem pys_frz : ∀ ds : List D, pys (frzs ds) = pys ds
  | [] => rfl
  | d :: r => by rw [frzs, pys, pys, py_frz d, pys_frz r]
end
theorem map_py_frzs (xs : List D) : (frzs xs).map D.py = xs.map D.py := by rw [← pys_map, pys_frz, pys_map]
theorem Reps.mems {K : PySem.W.Frag} {H : Hp} {F : AS} : ∀ {us : List V} {es : List D}, Reps K H F us es M0 → ∃ l : List (V × D), l.map (·.1) = us ∧ l.map (·.2) = es ∧ ∀ p, p ∈ l → Rep K H F p.1 p.2 M0
  | _, _, .nil => ⟨[], rfl, rfl, fun _ h => by cases h⟩
  | _, _, .cons (v := v) (d := d) a b i j k => by
    obtain ⟨l, h1, h2, h3⟩ := Reps.mems (b.mono j)
    exact ⟨(v, d) :: l, by simp [h1], by simp [h2], fun p hp => by
      rcases List.mem_cons.mp hp with rfl | hp
      · exact a.mono i
      · exact h3 p hp⟩
theorem Reps.of_mems {K : PySem.W.Frag} {H : Hp} {F : AS} : ∀ (l : List (V × D)), (∀ p, p ∈ l → Rep K H F p.1 p.2 M0) → Reps K H F (l.map (·.1)) (l.map (·.2)) M0
  | [], _ => .nil
  | p :: l, h => .cons (B := M0) (C := M0) (h p (by simp)) (Reps.of_mems l fun q hq => h q (by simp [hq])) (fun _ h => h) (fun _ h => h) fun _ h => h.elim
/-- sorted(xs), by values: V beside D -/
def rSortD (K : PySem.W.Frag) : List V → Hp → VK → Prop := fun vs H Q => ∃ (a : Addr) (l : List (V × D)), vs = [V.ref a] ∧ SqL K H a (l.map (·.1)) ∧ (∀ p, p ∈ l → Dp K H p.1 p.2.py ∧ p.2.py.depth ≤ 60) ∧ alikeD (l.map (·.2)) ∧ sortableD (l.map (·.2)) ∧
  ∀ p, H p = none → Q (.ref p) (upd H p (.lst ((l.mergeSort fun x y => leD x.2 y.2).map (·.1))))
theorem eachIs_vals : ∀ {l : List (V × D)} {out : List Value}, PySem.W.EachIs (fun (v : Value) (b : V × D) => RelV b.1 v) out l → Vals (l.map (·.1)) out
  | _, _, .nil => .nil
  | _, _, .cons r t => .cons r (eachIs_vals t)
theorem vals_eachIs : ∀ {l : List (V × D)} {us : List Value}, Vals (l.map (·.1)) us → PySem.W.EachIs (fun (v : Value) (b : V × D) => RelV b.1 v) us l
  | [], _, r => by cases r; exact .nil
  | _ :: _, _, r => by cases r with | cons a b => exact .cons a (vals_eachIs b)
theorem call_sortD (hu : X.A.units + 64 < cLine) : CallR X (.builtin "sorted") (rSortD X.K) := by
  intro pins s σ H vs us Q I r h
  obtain ⟨a, l, rfl, hs, hd, hal, hso, q⟩ := h
  obtain ⟨its, rv, hl, hz⟩ := I.list hs
  rw [Vals.ref1 r]
  have e1 := vals_eachIs rv
  have er : PySem.W.EachIs (fun (v : Value) (b : V × D) => ∃ as, Reads s.heap v b.2.py as) its l := by
    refine PySem.W.EachIs.of_zip e1.length fun p hp => ?_
    have h1 := e1.zip p hp
    exact Dp.reads I p.2.2.py p.2.1 p.1 (hd p.2 (List.of_mem_zip hp).2).1 h1
  have e2 : l.map (fun b : V × D => b.2.py) = (l.map (·.2)).map D.py := by rw [List.map_map]; rfl
  refine PySem.W.sorted_data (enc := fun b : V × D => b.2.py) hl.isList e1 er (by rw [e2]; exact hal) (by rw [e2]; exact hso) (by have := rv.length; rw [List.length_map] at this hz; exact hz) (fun b hb => by have := (hd b hb).2; omega) fun out ho eo => ?_
  obtain ⟨c, hc⟩ := PyProof.Rows.sortedAll_at s.heap its out.toArray
  have I1 : Inv X pins σ (upd H (s.heap.objs.size + 1) (.lst ((l.mergeSort fun x y => leD x.2 y.2).map (·.1)))) { s with heap := PyProof.Rows.sortedAll s.heap its (List.toArray out) } := by
    refine I.laid (t' := s.toks) (fun b o e => PyProof.Rows.sortedAll_old e) (Nat.le_succ _) ⟨?_, out, c, eachIs_vals eo, hc⟩
    rw [List.length_map, List.length_mergeSort]
    rw [List.length_map] at hz
    exact hz
  exact ⟨.ref (s.heap.objs.size + 1), _, I1, rfl, q _ (I.hok.fresh (Nat.le_succ _))⟩
theorem sortD_ok : CallD X G kp (rSortD X.K) (c1 sortF) := by
  refine c1_ok (fun d P P' hp q => ?_) fun σ ρ vs ds u d H Q W q => ?_
  · cases d <;> first | exact q.elim | exact ⟨q.1, q.2.1, q.2.2.1, hp _ _ q.2.2.2⟩
  · cases d <;> first | exact q.elim | skip
    rename_i m es
    obtain ⟨hal, hso, hok, q⟩ := q
    have W1 : World X.K G kp σ ρ (u :: vs) (.lst m (frzs es) :: ds) H := W.frzKids
    obtain ⟨a, us, rfl, t, _, ln, ⟨F0, r0⟩, mk⟩ := W1.lstX (frzs_solid es)
    obtain ⟨l, h1, h2⟩ : ∃ l : List (V × D), l.map (·.1) = us ∧ l.map (·.2) = frzs es := ⟨us.zip (frzs es), by rw [List.map_fst_zip]; omega, by rw [List.map_snd_zip]; omega⟩
    have key : ∀ F, Reps X.K H F us (frzs es) M0 → ∀ p, p ∈ l → Rep X.K H F p.1 p.2 M0 := fun F rk => by
      obtain ⟨l', g1, g2, g3⟩ := rk.mems
      have zz : ∀ z : List (V × D), (z.map (·.1)).zip (z.map (·.2)) = z := fun z => by
        induction z with
        | nil => rfl
        | cons p z ih => simp [ih]
      have e : l = l' := by rw [← zz l, ← zz l', h1, h2, g1, g2]
      rw [e]; exact g3
    have hmem : ∀ p, p ∈ l → p.2.py.canLay0 = true ∧ p.2.py.depth ≤ 60 := fun p hp => by
      have : p.2 ∈ frzs es := by rw [← h2]; exact List.mem_map.mpr ⟨p, hp, rfl⟩
      rw [frzs_eq_map] at this
      obtain ⟨d0, hd0, e0⟩ := List.mem_map.mp this
      rw [← e0, py_frz]
      exact hok d0 hd0
    refine ⟨a, l, rfl, by rw [h1]; exact t, fun p hp => ⟨(key F0 r0 p hp).dp (hmem p hp).1, (hmem p hp).2⟩, by rw [h2]; unfold alikeD; rw [map_py_frzs]; exact hal, by rw [h2]; unfold sortableD; rw [map_py_frzs]; exact hso, fun p hp => q _ _ ?_⟩
    have em : (l.mergeSort fun x y => leD x.2 y.2).map (·.2) = (frzs es).mergeSort leD := by
      rw [← h2]
      exact PySem.W.sort_maps (fun p : V × D => p.2) fun _ _ _ _ => rfl
    refine World.newLst (us := (l.mergeSort fun x y => leD x.2 y.2).map (·.1)) (es := (frzs es).mergeSort leD) (mk _ _ (fun F A rk r => ?_) ?_) (by rw [← em, List.length_map, List.length_map]) hp
    · rw [List.append_assoc, List.append_assoc]
      have rr := Reps.of_mems (l.mergeSort fun x y => leD x.2 y.2) fun p hp => key F rk p (List.mem_mergeSort.mp hp)
      rw [em] at rr
      exact (rr.join r fun _ h => h.elim).mono fun x h => h.elim (fun z => z.elim) id
    · have := W.lv
      have e3 : ((l.mergeSort fun x y => leD x.2 y.2).map (·.1)).length = ((frzs es).mergeSort leD).length := by rw [← em, List.length_map, List.length_map]
      rw [List.length_append, List.length_append, e3]
      simp at this ⊢; omega
end
end Bd

/-! Bd9: statements, targets, loops. -/
namespace Bd
open PySem PySem.Spec PyProof.Rows L2
structure DEnds where
  nx : List D → Prop
  rt : D → List D → Prop
  bk : List D → Prop := fun _ => False
  ct : List D → Prop := fun _ => False
abbrev WS := DEnds → List D → Prop
structure DEnds.le (A B : DEnds) : Prop where
  nx : ∀ ρ, A.nx ρ → B.nx ρ
  rt : ∀ d ρ, A.rt d ρ → B.rt d ρ
  bk : ∀ ρ, A.bk ρ → B.bk ρ
  ct : ∀ ρ, A.ct ρ → B.ct ρ
def liftE (K : PySem.W.Frag) (G : Gm) (kp : List Bool) (vs : List V) (ds : List D) (E : Ends) : DEnds where
  nx := fun ρ' => ∀ σ' H', World K G kp σ' ρ' vs ds H' → E.nx σ' H'
  rt := fun d ρ' => ∀ v σ' H', World K G kp σ' ρ' (v :: vs) (d :: ds) H' → E.rt v H'
  bk := fun ρ' => ∀ σ' H', World K G kp σ' ρ' vs ds H' → E.bk σ' H'
  ct := fun ρ' => ∀ σ' H', World K G kp σ' ρ' vs ds H' → E.ct σ' H'
def tDS (K : PySem.W.Frag) (G : Gm) (kp : List Bool) (w : WS) : TS := fun E σ H => ∃ ρ vs ds, World K G kp σ ρ vs ds H ∧ w (liftE K G kp vs ds E) ρ
structure DS (X : Cx) (G : Gm) (kp : List Bool) (st : Stmt) (w : WS) : Prop where
  mono : ∀ A B ρ, DEnds.le A B → w A ρ → w B ρ
  run : PS X st (tDS X.K G kp w)
structure DSs (X : Cx) (G : Gm) (kp : List Bool) (st : List Stmt) (w : WS) : Prop where
  mono : ∀ A B ρ, DEnds.le A B → w A ρ → w B ρ
  run : PSs X st (tDS X.K G kp w)
abbrev WG := D → List D → (List D → Prop) → Prop
abbrev WGs := List D → List D → (List D → Prop) → Prop
def tDG (K : PySem.W.Frag) (G : Gm) (kp : List Bool) (g : WG) : TG := fun v σ H Q => ∃ ρ vs d ds, World K G kp σ ρ (v :: vs) (d :: ds) H ∧ g d ρ fun ρ' => ∀ σ' H', World K G kp σ' ρ' vs ds H' → Q σ' H'
def tDGs (K : PySem.W.Frag) (G : Gm) (kp : List Bool) (g : WGs) : TGs := fun us σ H Q => ∃ ρ vs es ds, us.length = es.length ∧ World K G kp σ ρ (us ++ vs) (es ++ ds) H ∧ g es ρ fun ρ' => ∀ σ' H', World K G kp σ' ρ' vs ds H' → Q σ' H'
structure DG (X : Cx) (G : Gm) (kp : List Bool) (e : Expr) (g : WG) : Prop where
  mono : ∀ d ρ P P', (∀ r, P r → P' r) → g d ρ P → g d ρ P'
  run : PG X e (tDG X.K G kp g)
structure DGs (X : Cx) (G : Gm) (kp : List Bool) (e : List Expr) (g : WGs) : Prop where
  mono : ∀ d ρ P P', (∀ r, P r → P' r) → g d ρ P → g d ρ P'
  run : PGs X e (tDGs X.K G kp g)
theorem pg_imp {X : Cx} {e : Expr} {t t' : TG} (h : PG X e t) (i : ∀ v σ H Q, t' v σ H Q → t v σ H Q) : PG X e t' := ⟨fun pins s σ H v u Q I r q => h.run pins s σ H v u Q I r (i v σ H Q q)⟩
theorem pgs_imp {X : Cx} {e : List Expr} {t t' : TGs} (h : PGs X e t) (i : ∀ v σ H Q, t' v σ H Q → t v σ H Q) : PGs X e t' := ⟨fun pins s σ H v u Q I r q => h.run pins s σ H v u Q I r (i v σ H Q q)⟩
section
variable {X : Cx} {G : Gm} {kp : List Bool} {e a b c : Expr} {st : Stmt} {sts body : List Stmt} {pos p1 p2 : Pos} {we : WE} {wa wb : WB} {ws wr : WS} {wt : WT}
/-! ### targets -/
def gN (i : Nat) : WG := fun d ρ Q => Q (ρ.set i d)
theorem dg_name {i : Nat} {x : Str} (hN : X.N.Nodup) (hi : X.N[i]? = some x) (hx : Loc X.env.scope x) (hk : kp.getD i false = false := by rfl) (hf : X.fn x = true ∨ X.env.scope.names.lookup x = some .local := by first | exact .inl rfl | exact .inr rfl | assumption) : DG X G kp (.Name x pos) (gN i) :=
  ⟨fun d ρ P P' hp q => hp _ q, pg_imp (pg_name hN hi hx hf) fun v σ H Q ⟨ρ, vs, d, ds, W, q⟩ => q _ H (W.store hk)⟩
def gsN : WGs := fun es ρ Q => es = [] ∧ Q ρ
def gsC (g : WG) (r : WGs) : WGs := fun es ρ Q => match es with
  | d :: es => g d ρ fun ρ1 => r es ρ1 Q
  | [] => False
theorem dgs_nil : DGs X G kp [] gsN := ⟨fun d ρ P P' hp q => ⟨q.1, hp _ q.2⟩, pgs_imp pgs_nil fun us σ H Q ⟨ρ, vs, es, ds, l, W, e, q⟩ => by
  subst e
  have e : us = [] := List.eq_nil_of_length_eq_zero l
  subst e
  exact ⟨rfl, q _ H W⟩⟩
theorem dgs_cons {es : List Expr} {g : WG} {r : WGs} (h1 : DG X G kp e g) (h2 : DGs X G kp es r) (hs : (assignEach (e :: es) X.env).map (·.2) = assign e X.env :: (assignEach es X.env).map (·.2) := by rfl) : DGs X G kp (e :: es) (gsC g r) :=
  ⟨fun d ρ P P' hp q => by
    cases d with
    | nil => exact q.elim
    | cons d es => exact h1.mono _ _ _ _ (fun r z => h2.mono _ _ _ _ hp z) q, pgs_imp (pgs_cons h1.run h2.run hs) fun us σ H Q ⟨ρ, vs, es, ds, l, W, q⟩ => by
    cases es with
    | nil => exact q.elim
    | cons d es =>
      cases us with
      | nil => simp at l
      | cons u us => exact ⟨u, us, rfl, ρ, us ++ vs, d, es ++ ds, W, h1.mono _ _ _ _ (fun ρ1 z σ1 H1 W1 => ⟨ρ1, vs, es, ds, by simpa using l, W1, z⟩) q⟩⟩
def gT (g : WGs) : WG := fun d ρ Q => match d with
  | .tup es => g es ρ Q
  | _ => False
def gL (g : WGs) : WG := fun d ρ Q => match d with
  | .lst m es => g (if m = .own then es else frzs es) ρ Q
  | _ => False
theorem dg_tup {es : List Expr} {k : Nat} {g : WGs} (hc : X.calm = true) (h : DGs X G kp es g) (hl : ∀ ds ρ P, g ds ρ P → ds.length = es.length) (hn : (assignEach es X.env).length = es.length := by rfl) (hst : (assignEach es X.env).findIdx? (·.1) = none := by rfl) : DG X G kp (.Tuple es k pos) (gT g) :=
  ⟨fun d ρ P P' hp q => by
    cases d <;> first | exact q.elim | exact h.mono _ _ _ _ hp q, pg_imp (pg_tup (n := es.length) hc h.run hn hst) fun v σ H Q ⟨ρ, vs, d, ds, W, q⟩ => by
    cases d <;> first | exact q.elim | skip
    obtain ⟨a, us, rfl, t, l, W'⟩ := W.untup
    exact ⟨a, us, rfl, t.sq, by rw [l]; exact hl _ _ _ q, ρ, vs, _, ds, l, W', q⟩⟩
theorem gsN_len : ∀ ds ρ P, gsN ds ρ P → ds.length = ([] : List Expr).length := fun ds ρ P q => by rw [q.1]; rfl
theorem gsC_len {g : WG} {r : WGs} {es : List Expr} {e : Expr} (hg : ∀ d ρ P P', (∀ r, P r → P' r) → g d ρ P → g d ρ P') (he : ∀ d ρ (C : Prop), g d ρ (fun _ => C) → C) (h : ∀ ds ρ P, r ds ρ P → ds.length = es.length) : ∀ ds ρ P, gsC g r ds ρ P → ds.length = (e :: es).length := fun ds ρ P q => by
  cases ds with
  | nil => exact q.elim
  | cons d ds =>
    have q : g d ρ fun ρ1 => r ds ρ1 P := q
    have := he d ρ (ds.length = es.length) (hg _ _ _ _ (fun ρ1 z => h _ _ _ z) q)
    simp [this]
/-! ### blocks, small statements -/
def wsN : WS := fun E ρ => E.nx ρ
def wsS (w r : WS) : WS := fun E ρ => w { E with nx := r E } ρ
theorem le_lift {E E' : DEnds} (h : ∀ ρ, E.nx ρ → E'.nx ρ) (h2 : ∀ d ρ, E.rt d ρ → E'.rt d ρ) (h3 : ∀ ρ, E.bk ρ → E'.bk ρ) (h4 : ∀ ρ, E.ct ρ → E'.ct ρ) : DEnds.le E E' := ⟨h, h2, h3, h4⟩
theorem dss_nil : DSs X G kp [] wsN := ⟨fun A B ρ h q => h.nx _ q, pss_imp pss_nil fun E σ H ⟨ρ, vs, ds, W, q⟩ => q _ H W⟩
theorem dss_cons (h1 : DS X G kp st ws) (h2 : DSs X G kp sts wr) : DSs X G kp (st :: sts) (wsS ws wr) :=
  ⟨fun A B ρ h q => h1.mono { A with nx := wr A } { B with nx := wr B } ρ ⟨fun r z => h2.mono _ _ _ h z, h.rt, h.bk, h.ct⟩ q, pss_imp (pss_cons h1.run h2.run) fun E σ H ⟨ρ, vs, ds, W, q⟩ => ⟨ρ, vs, ds, W, h1.mono { liftE X.K G kp vs ds E with nx := wr (liftE X.K G kp vs ds E) } _ _ ⟨fun r z σ' H' W' => ⟨r, vs, ds, W', z⟩, fun _ _ z => z, fun _ z => z, fun _ z => z⟩ q⟩⟩
theorem dss_one (h1 : DS X G kp st ws) : DSs X G kp [st] ws := ⟨h1.mono, pss_one h1.run⟩
theorem dss_never {sts : List Stmt} : DSs X G kp sts (fun _ _ => False) := ⟨fun _ _ _ _ q => q.elim, ⟨fun _ _ _ _ _ _ q => by obtain ⟨_, _, _, _, q⟩ := q; exact q.elim⟩⟩
theorem ds_pass : DS X G kp (.Pass pos) wsN := ⟨fun A B ρ h q => h.nx _ q, ps_imp ps_pass fun E σ H ⟨ρ, vs, ds, W, q⟩ => q _ H W⟩
def wsBk : WS := fun E ρ => E.bk ρ
def wsCt : WS := fun E ρ => E.ct ρ
theorem ds_break : DS X G kp (.Break pos) wsBk := ⟨fun A B ρ h q => h.bk _ q, ps_imp ps_break fun E σ H ⟨ρ, vs, ds, W, q⟩ => q _ H W⟩
theorem ds_continue : DS X G kp (.Continue pos) wsCt := ⟨fun A B ρ h q => h.ct _ q, ps_imp ps_continue fun E σ H ⟨ρ, vs, ds, W, q⟩ => q _ H W⟩
def wsX (w : WE) : WS := fun E ρ => w ρ fun _ r => E.nx r
theorem ds_expr (h : DE X G kp e we) (hs : swapsWith e none pos.line X.env = pure false := by rfl) : DS X G kp (.Expr e pos) (wsX we) :=
  ⟨fun A B ρ hl q => h.mono _ _ _ (fun d r z => hl.nx _ z) q, ps_imp (ps_expr h.run hs) fun E σ H ⟨ρ, vs, ds, W, q⟩ => ⟨ρ, vs, ds, W, h.mono _ _ _ (fun d r z v H' W' => z _ H' W'.drop) q⟩⟩
def wsR (w : WE) : WS := fun E ρ => w ρ fun d r => E.rt d r
theorem ds_ret (h : DE X G kp e we) : DS X G kp (.Return (some e) pos) (wsR we) :=
  ⟨fun A B ρ hl q => h.mono _ _ _ (fun d r z => hl.rt _ _ z) q, ps_imp (ps_ret h.run) fun E σ H ⟨ρ, vs, ds, W, q⟩ => ⟨ρ, vs, ds, W, h.mono _ _ _ (fun d r z v H' W' => z v _ H' W') q⟩⟩
def wsRN : WS := fun E ρ => E.rt .non ρ
theorem ds_retN : DS X G kp (.Return none pos) wsRN := ⟨fun A B ρ h q => h.rt _ _ q, ps_imp ps_retN fun E σ H ⟨ρ, vs, ds, W, q⟩ => q _ _ H W.non⟩
def wsA (w : WE) (g : WG) : WS := fun E ρ => w ρ fun d r => g d r fun r2 => E.nx r2
/-- name = value -/
theorem ds_set {i : Nat} {x : Str} {pos' : Pos} (hN : X.N.Nodup) (hi : X.N[i]? = some x) (hx : Loc X.env.scope x) (h : DE X G kp e we) (hk : kp.getD i false = false := by rfl) (hs : swapsWith e (some (.Name x pos')) pos.line X.env = pure false := by rfl) (hf : X.fn x = true ∨ X.env.scope.names.lookup x = some .local := by first | exact .inl rfl | exact .inr rfl | assumption) :
    DS X G kp (.Assign [.Name x pos'] e pos) (wsA we (gN i)) :=
  ⟨fun A B ρ hl q => h.mono _ _ _ (fun d r z => hl.nx _ z) q, ps_imp (ps_set hN hi hx h.run hs hf) fun E σ H ⟨ρ, vs, ds, W, q⟩ => ⟨ρ, vs, ds, W, h.mono _ _ _ (fun d r z v H' W' => z _ H' (W'.store hk)) q⟩⟩
theorem ds_asg {tg : Expr} {g : WG} (h : DE X G kp e we) (hg : DG X G kp tg g) (hs : swapsWithSole [tg] e pos.line X.env = pure false := by rfl) (hw : swappedStores [tg] e X.env = pure none := by rfl)
    (h1 : (assignEach [tg] X.env).map (·.2) = [assign tg X.env] := by rfl) : DS X G kp (.Assign [tg] e pos) (wsA we g) :=
  ⟨fun A B ρ hl q => h.mono _ _ _ (fun d r z => hg.mono _ _ _ _ (fun r z => hl.nx _ z) z) q, ps_imp (ps_asg h.run hg.run hs hw h1) fun E σ H ⟨ρ, vs, ds, W, q⟩ => ⟨ρ, vs, ds, W, h.mono _ _ _ (fun d r z v H' W' => ⟨r, vs, d, ds, W', hg.mono _ _ _ _ (fun r2 z σ2 H2 W2 => z σ2 H2 W2) z⟩) q⟩⟩
/-- a, b = x, y with plain local names -/
def wsP (i j : Nat) (w : WA) : WS := fun E ρ => w ρ fun es r => match es with
  | [d, f] => E.nx ((r.set i d).set j f)
  | _ => False
theorem ds_par {i j : Nat} {x y : Str} {px py pt : Pos} {kt k2 pt2} {w : WA} (hc : X.calm = true) (hN : X.N.Nodup) (hi : X.N[i]? = some x) (hj : X.N[j]? = some y) (hij : i ≠ j) (hx : X.env.scope.names.lookup x = some .local) (hy : X.env.scope.names.lookup y = some .local) (ha : DA X G kp [a, b] w)
    (hw : swappedStores [.Tuple [.Name x px, .Name y py] kt pt] (.Tuple [a, b] k2 pt2) X.env = pure (some [x, y])) (hk : kp.getD i false = false := by rfl) (hk2 : kp.getD j false = false := by rfl) (hs : swapsWithSole [.Tuple [.Name x px, .Name y py] kt pt] (.Tuple [a, b] k2 pt2) pos.line X.env = pure false := by rfl) :
    DS X G kp (.Assign [.Tuple [.Name x px, .Name y py] kt pt] (.Tuple [a, b] k2 pt2) pos) (wsP i j w) := by
  refine ⟨fun A B ρ hl q => ha.mono _ _ _ (fun es r z => ?_) q, ps_imp (ps_par hc hN hi hj hij hx hy ha.run hw hs) fun E σ H ⟨ρ, vs, ds, W, q⟩ => ⟨ρ, vs, ds, W, ha.mono _ _ _ (fun es r z us H' l W' => ?_) q⟩⟩
  · match es, z with
    | [d, f], z => exact hl.nx _ z
  · match es, us, l, W', z with
    | [d, f], [u, w], _, W', z => exact ⟨u, w, rfl, z _ H' ((W'.store hk).store hk2)⟩
def wsI (wt : WT) (w r : WS) : WS := fun E ρ => wt ρ fun k r1 => if k = true then w E r1 else r E r1
theorem ds_if {b1 b2 : List Stmt} (hc : DT X G kp c wt) (h1 : DSs X G kp b1 ws) (h2 : DSs X G kp b2 wr) : DS X G kp (.If c b1 b2 pos) (wsI wt ws wr) :=
  ⟨fun A B ρ hl q => hc.mono _ _ _ (fun k r z => by cases k with
    | true => exact h1.mono _ _ _ hl z
    | false => exact h2.mono _ _ _ hl z) q, ps_imp (ps_if hc.run h1.run h2.run) fun E σ H ⟨ρ, vs, ds, W, q⟩ => ⟨ρ, vs, ds, W, hc.mono _ _ _ (fun k r z H' W' => by
      cases k with
      | true => exact ⟨r, vs, ds, W', z⟩
      | false => exact ⟨r, vs, ds, W', z⟩) q⟩⟩
/-! ### while -/
def whileN (wt : WT) (wb : WS) (E : DEnds) : Nat → List D → Prop
  | 0 => fun _ => False
  | n + 1 => fun ρ => wt ρ fun k r => if k = true then wb { E with nx := whileN wt wb E n, ct := whileN wt wb E n, bk := E.nx } r else E.nx r
def wsW (wt : WT) (wb : WS) : WS := fun E ρ => ∃ n, whileN wt wb E n ρ
theorem whileN_mono {wb : WS} (ht : ∀ ρ P P', (∀ d r, P d r → P' d r) → wt ρ P → wt ρ P') (hb : ∀ A B ρ, DEnds.le A B → wb A ρ → wb B ρ) {A B : DEnds} (h : DEnds.le A B) : ∀ (n : Nat) ρ, whileN wt wb A n ρ → whileN wt wb B n ρ
  | 0, _, q => q.elim
  | n + 1, ρ, q => ht _ _ _ (fun k r z => by
    cases k with
    | true => exact hb { A with nx := whileN wt wb A n, ct := whileN wt wb A n, bk := A.nx } { B with nx := whileN wt wb B n, ct := whileN wt wb B n, bk := B.nx } _ ⟨fun r z => whileN_mono ht hb h n r z, h.rt, fun r z => h.nx _ z, fun r z => whileN_mono ht hb h n r z⟩ z
    | false => exact h.nx _ z) q
theorem ds_while {wb : WS} (hp : PassesOwn (model X.prog X.w) X.A X.env X.xe) (hc : DT X G kp c wt) (hb : DSs X G kp body wb) : DS X G kp (.While c body [] pos) (wsW wt wb) := by
  refine ⟨fun A B ρ h ⟨n, q⟩ => ⟨n, whileN_mono hc.mono hb.mono h n ρ q⟩, ps_imp (ps_while hp hc.run hb.run) fun E σ H ⟨ρ, vs, ds, W, n, q⟩ => ?_⟩
  refine ⟨fun m σ H => ∃ ρ, World X.K G kp σ ρ vs ds H ∧ whileN wt wb (liftE X.K G kp vs ds E) m ρ, ⟨n, ρ, W, q⟩, fun m σ H ⟨ρ, W, q⟩ => ?_⟩
  cases m with
  | zero => exact q.elim
  | succ m =>
    refine ⟨ρ, vs, ds, W, hc.mono _ _ _ (fun k r z H' W' => ?_) q⟩
    cases k with
    | false => exact z σ H' W'
    | true =>
      refine ⟨fun σ' H' => ∃ ρ, World X.K G kp σ' ρ vs ds H' ∧ whileN wt wb (liftE X.K G kp vs ds E) m ρ, fun σ' H' z => ⟨m, Nat.lt_succ_self m, z⟩, r, vs, ds, W', ?_⟩
      have z' : wb { liftE X.K G kp vs ds E with nx := whileN wt wb (liftE X.K G kp vs ds E) m, ct := whileN wt wb (liftE X.K G kp vs ds E) m, bk := (liftE X.K G kp vs ds E).nx } r := z
      exact hb.mono { liftE X.K G kp vs ds E with nx := whileN wt wb (liftE X.K G kp vs ds E) m, ct := whileN wt wb (liftE X.K G kp vs ds E) m, bk := (liftE X.K G kp vs ds E).nx } _ _ ⟨fun r z σ' H' W' => ⟨r, W', z⟩, fun d r z => z, fun r z => z, fun r z σ' H' W' => ⟨r, W', z⟩⟩ z'
/-! ### what a for or a comprehension walks -/
/-- an item: one value, or a new tuple of values -/
def Shape (K : PySem.W.Frag) (sh : Bool) (H : Hp) (x : V) (xs : List V) : Prop := if sh = true then ∃ a, x = .ref a ∧ SqT K H a xs else xs = [x]
def Yl (K : PySem.W.Frag) (G : Gm) (kp : List Bool) (sh : Bool) (J : It) (us : List V) (ds0 : List D) (items : List (List D)) : Prop :=
  ∀ i σ ρ vs ds H, World K G kp σ ρ (us ++ vs) (ds0 ++ ds) H → (i = items.length → J.stop i H) ∧ ∀ its, items[i]? = some its → J.go i H ∧ ∀ x H', J.yld i H x H' → ∃ xs, xs.length = its.length ∧ Shape K sh H' x xs ∧ World K G kp σ ρ (xs ++ (us ++ vs)) (its ++ (ds0 ++ ds)) H'
/-- items, what is held meanwhile -/
abbrev WI := List D → (List (List D) → List D → List D → Prop) → Prop
def tDI (K : PySem.W.Frag) (G : Gm) (kp : List Bool) (sh : Bool) (w : WI) : TI := fun σ H R => ∃ ρ vs ds, World K G kp σ ρ vs ds H ∧ w ρ fun items ds0 ρ' => ∀ J us H', us.length = ds0.length → World K G kp σ ρ' (us ++ vs) (ds0 ++ ds) H' → (∀ G' kp', Yl K G' kp' sh J us ds0 items) → R J H'
structure DI (X : Cx) (G : Gm) (kp : List Bool) (sh : Bool) (tg iter : Expr) (w : WI) : Prop where
  mono : ∀ ρ P P', (∀ a b c, P a b c → P' a b c) → w ρ P → w ρ P'
  run : PI X tg iter (tDI X.K G kp sh w)
theorem pi_imp {X : Cx} {tg e : Expr} {t t' : TI} (h : PI X tg e t) (i : ∀ σ H Q, t' σ H Q → t σ H Q) : PI X tg e t' := ⟨fun pins s σ H Q I q => h.run pins s σ H Q I (i σ H Q q)⟩
/-- a target for items -/
def tDGI (K : PySem.W.Frag) (G : Gm) (kp : List Bool) (sh : Bool) (g : WGs) : TG := fun x σ H Q => ∃ ρ xs its vs ds, xs.length = its.length ∧ Shape K sh H x xs ∧ World K G kp σ ρ (xs ++ vs) (its ++ ds) H ∧ g its ρ fun ρ' => ∀ σ' H', World K G kp σ' ρ' vs ds H' → Q σ' H'
structure DGI (X : Cx) (G : Gm) (kp : List Bool) (sh : Bool) (tg : Expr) (g : WGs) : Prop where
  mono : ∀ d ρ P P', (∀ r, P r → P' r) → g d ρ P → g d ρ P'
  run : PG X tg (tDGI X.K G kp sh g)
def gi1 (g : WG) : WGs := fun es ρ Q => match es with
  | [d] => g d ρ Q
  | _ => False
theorem dgi_one {g : WG} (h : DG X G kp e g) : DGI X G kp false e (gi1 g) :=
  ⟨fun d ρ P P' hp q => by
    match d, q with
    | [d], q => exact h.mono _ _ _ _ hp q, pg_imp h.run fun x σ H Q ⟨ρ, xs, its, vs, ds, l, s, W, q⟩ => by
    match its, q with
    | [d], q =>
      have e : xs = [x] := s
      subst e
      exact ⟨ρ, vs, d, ds, W, q⟩⟩
theorem dgi_tup {es : List Expr} {k : Nat} {g : WGs} (hc : X.calm = true) (h : DGs X G kp es g) (hl : ∀ ds ρ P, g ds ρ P → ds.length = es.length) (hn : (assignEach es X.env).length = es.length := by rfl) (hst : (assignEach es X.env).findIdx? (·.1) = none := by rfl) : DGI X G kp true (.Tuple es k pos) g :=
  ⟨h.mono, pg_imp (pg_tup (n := es.length) hc h.run hn hst) fun x σ H Q ⟨ρ, xs, its, vs, ds, l, ⟨a, e, t⟩, W, q⟩ => ⟨a, xs, e, t, by rw [l]; exact hl _ _ _ q, ρ, vs, its, ds, l, W, q⟩⟩
/-! ### for -/
def forL (g : WGs) (wb : WS) (E : DEnds) : List (List D) → List D → Prop
  | [] => E.nx
  | its :: r => fun ρ => g its ρ fun ρ1 => wb { E with nx := forL g wb E r, ct := forL g wb E r, bk := E.nx } ρ1
def wsF (wi : WI) (g : WGs) (wb : WS) : WS := fun E ρ => wi ρ fun items _ r => forL g wb { nx := E.nx, rt := E.rt } items r
theorem forL_mono {g : WGs} {wb : WS} (hg : ∀ d ρ P P', (∀ r, P r → P' r) → g d ρ P → g d ρ P') (hb : ∀ A B ρ, DEnds.le A B → wb A ρ → wb B ρ) {A B : DEnds} (h : DEnds.le A B) : ∀ (l : List (List D)) ρ, forL g wb A l ρ → forL g wb B l ρ
  | [], _, q => h.nx _ q
  | its :: r, ρ, q => hg _ _ _ _ (fun ρ1 z => hb { A with nx := forL g wb A r, ct := forL g wb A r, bk := A.nx } { B with nx := forL g wb B r, ct := forL g wb B r, bk := B.nx } _ ⟨fun r' z => forL_mono hg hb h r r' z, h.rt, fun r' z => h.nx _ z, fun r' z => forL_mono hg hb h r r' z⟩ z) q
theorem ds_for {sh : Bool} {tg iter : Expr} {wi : WI} {g : WGs} {wb : WS} (hp : PassesOwn (model X.prog X.w) X.A X.env X.xe) (hc : X.calm = true) (hi : DI X G kp sh tg iter wi) (hg : DGI X G kp sh tg g) (hb : DSs X G kp body wb)
    (hs : ∀ x, foldedSetIterable iter X.env x = pure x := by intro _; rfl) : DS X G kp (.For tg iter body [] pos) (wsF wi g wb) := by
  refine ⟨fun A B ρ h q => hi.mono _ _ _ (fun items ds0 r z => forL_mono hg.mono hb.mono (A := { nx := A.nx, rt := A.rt }) (B := { nx := B.nx, rt := B.rt }) ⟨h.nx, h.rt, fun _ z => z, fun _ z => z⟩ items r z) q, ps_imp (ps_for hp hc hi.run hg.run hb.run hs) fun E σ H ⟨ρ, vs, ds, W, q⟩ => ?_⟩
  refine ⟨ρ, vs, ds, W, hi.mono _ _ _ (fun items ds0 r z J us H1 l W1 hy => ?_) q⟩
  refine ⟨fun i m σ' H' => m = items.length - i ∧ i ≤ items.length ∧ ∃ ρ', World X.K G kp σ' ρ' (us ++ vs) (ds0 ++ ds) H' ∧ forL g wb { nx := (liftE X.K G kp vs ds E).nx, rt := (liftE X.K G kp vs ds E).rt } (items.drop i) ρ', ⟨items.length, by simp, Nat.zero_le _, r, W1, z⟩, ?_⟩
  rintro i m σ' H' ⟨rfl, hi', ρ', W', z'⟩
  obtain ⟨y1, y2⟩ := hy G kp i σ' ρ' vs ds H' W'
  by_cases hlt : i < items.length
  · obtain ⟨its, hits⟩ : ∃ its, items[i]? = some its := ⟨_, List.getElem?_eq_getElem hlt⟩
    obtain ⟨go, y3⟩ := y2 its hits
    rw [List.drop_eq_getElem_cons hlt, (List.getElem?_eq_some_iff.mp hits).2] at z'
    refine .inr ⟨go, fun σ2 H2 => ∃ ρ2, World X.K G kp σ2 ρ2 (us ++ vs) (ds0 ++ ds) H2 ∧ forL g wb { nx := (liftE X.K G kp vs ds E).nx, rt := (liftE X.K G kp vs ds E).rt } (items.drop (i + 1)) ρ2, fun σ2 H2 h2 => ⟨items.length - (i + 1), by omega, rfl, hlt, h2⟩, fun x H2 hy2 => ?_⟩
    obtain ⟨xs, lx, hsh, W2⟩ := y3 x H2 hy2
    refine ⟨ρ', xs, its, us ++ vs, ds0 ++ ds, lx, hsh, W2, hg.mono _ _ _ _ (fun ρ1 z1 σ3 H3 W3 => ⟨ρ1, us ++ vs, ds0 ++ ds, W3, ?_⟩) z'⟩
    refine hb.mono { nx := forL g wb { nx := (liftE X.K G kp vs ds E).nx, rt := (liftE X.K G kp vs ds E).rt } (items.drop (i + 1)), rt := (liftE X.K G kp vs ds E).rt, bk := (liftE X.K G kp vs ds E).nx, ct := forL g wb { nx := (liftE X.K G kp vs ds E).nx, rt := (liftE X.K G kp vs ds E).rt } (items.drop (i + 1)) } _ _ ⟨fun r z σ4 H4 W4 => ⟨r, W4, z⟩, fun d r z v σ4 H4 W4 => z v σ4 H4 ?_, fun r z σ4 H4 W4 => z σ4 H4 (W4.dropN l), fun r z σ4 H4 W4 => ⟨r, W4, z⟩⟩ z1
    have W5 : World X.K G kp σ4 r (us ++ v :: vs) (ds0 ++ d :: ds) H4 := W4.tor l
    exact W5.dropN l
  · have e : i = items.length := by omega
    subst e
    rw [List.drop_length] at z'
    exact .inl ⟨y1 rfl, z' σ' H' (W'.dropN l)⟩
/-! ### sources -/
/-- a list, a tuple -/
def wiL (w : WE) : WI := fun ρ Q => w ρ fun d r => match d with
  | .lst m es => Q ((frzs es).map fun x => [x]) [.lst m (frzs es)] r
  | _ => False
def wiT (w : WE) : WI := fun ρ Q => w ρ fun d r => match d with
  | .tup es => Q ((frzs es).map fun x => [x]) [.tup (frzs es)] r
  | _ => False
theorem di_list {tg : Expr} (h : DE X G kp e we) : DI X G kp false tg e (wiL we) := by
  refine ⟨fun ρ P P' hp q => h.mono _ _ _ (fun d r z => by cases d <;> first | exact z.elim | exact hp _ _ _ z) q, pi_imp (pi_list h.run) fun σ H R ⟨ρ, vs, ds, W, q⟩ => ⟨ρ, vs, ds, W, h.mono _ _ _ (fun d r z v H' W' => ?_) q⟩⟩
  cases d <;> first | exact z.elim | skip
  rename_i m es
  have W1 : World X.K G kp σ r (v :: vs) (.lst m (frzs es) :: ds) H' := W'.frzKids
  obtain ⟨a, us, rfl, t, _, l, mk⟩ := W1.lstW (frzs_solid es)
  refine ⟨a, rfl, ⟨us, t⟩, z _ [.ref a] H' rfl W1 fun G' kp' i σ2 ρ2 vs2 ds2 H2 W2 => ?_⟩
  obtain ⟨a', us2, e2, t2, _, l2, mk2⟩ := World.lstW (es := frzs es) W2 (frzs_solid es)
  cases e2
  refine ⟨fun e => ⟨us2, t2, by rw [e, List.length_map, ← l2]; exact Nat.le_refl _⟩, fun its hits => ?_⟩
  rw [List.getElem?_map] at hits
  cases hd : (frzs es)[i]? with
  | none => rw [hd] at hits; cases hits
  | some d =>
    rw [hd] at hits
    cases hits
    have hu : ∃ u, us2[i]? = some u := ⟨us2[i]'(by
      have := (List.getElem?_eq_some_iff.mp hd).1
      omega), List.getElem?_eq_getElem _⟩
    obtain ⟨u, hu⟩ := hu
    refine ⟨⟨us2, u, t2, hu⟩, fun x H3 ⟨e3, hx⟩ => ?_⟩
    subst e3
    have ex : us2[i]? = some x := hx us2 t2
    refine ⟨[x], rfl, rfl, mk2 _ _ (fun F A rk r => ?_) (by have := W2.lv; simp at this ⊢; omega)⟩
    obtain ⟨v', hv', rv⟩ := rk.nth hd
    rw [ex] at hv'; cases hv'
    exact r.push rv
theorem di_tup {tg : Expr} (h : DE X G kp e we) : DI X G kp false tg e (wiT we) := by
  refine ⟨fun ρ P P' hp q => h.mono _ _ _ (fun d r z => by cases d <;> first | exact z.elim | exact hp _ _ _ z) q, pi_imp (pi_tup h.run) fun σ H R ⟨ρ, vs, ds, W, q⟩ => ⟨ρ, vs, ds, W, h.mono _ _ _ (fun d r z v H' W' => ?_) q⟩⟩
  cases d <;> first | exact z.elim | skip
  rename_i es
  have W1 : World X.K G kp σ r (v :: vs) (.tup (frzs es) :: ds) H' := W'.frzKids
  obtain ⟨a, us, rfl, t, l, mk⟩ := W1.tupW (frzs_solid es)
  refine ⟨a, rfl, ⟨us, t.sq⟩, z _ [.ref a] H' rfl W1 fun G' kp' i σ2 ρ2 vs2 ds2 H2 W2 => ?_⟩
  obtain ⟨a', us2, e2, t2, l2, mk2⟩ := World.tupW (es := frzs es) W2 (frzs_solid es)
  cases e2
  refine ⟨fun e => ⟨us2, t2.sq, by rw [e, List.length_map, ← l2]; exact Nat.le_refl _⟩, fun its hits => ?_⟩
  rw [List.getElem?_map] at hits
  cases hd : (frzs es)[i]? with
  | none => rw [hd] at hits; cases hits
  | some d =>
    rw [hd] at hits
    cases hits
    have hu : ∃ u, us2[i]? = some u := ⟨us2[i]'(by
      have := (List.getElem?_eq_some_iff.mp hd).1
      omega), List.getElem?_eq_getElem _⟩
    obtain ⟨u, hu⟩ := hu
    refine ⟨⟨us2, u, t2.sq, hu⟩, fun x H3 ⟨e3, hx⟩ => ?_⟩
    subst e3
    have ex : us2[i]? = some x := hx us2 t2.sq
    refine ⟨[x], rfl, rfl, mk2 _ _ (fun F A rk r => ?_) (by have := W2.lv; simp at this ⊢; omega)⟩
    obtain ⟨v', hv', rv⟩ := rk.nth hd
    rw [ex] at hv'; cases hv'
    exact r.push rv
/-- range -/
def rgL (lo : Int) (n : Nat) : List (List D) := (List.range n).map fun i => [D.int (lo + (i : Nat))]
theorem yl_range {lo : Int} {n : Nat} : Yl X.K G kp false (Itr lo n) [] [] (rgL lo n) := fun i σ ρ vs ds H W => by
  refine ⟨fun e => ?_, fun its hits => ?_⟩
  · show n ≤ i
    rw [e]; simp [rgL]
  · unfold rgL at hits
    rw [List.getElem?_map] at hits
    cases hd : (List.range n)[i]? with
    | none => rw [hd] at hits; cases hits
    | some j =>
      rw [hd] at hits
      cases hits
      obtain ⟨h1, h2⟩ := List.getElem?_eq_some_iff.mp hd
      rw [List.length_range] at h1
      rw [List.getElem_range] at h2
      subst h2
      refine ⟨h1, fun x H' ⟨e1, e2⟩ => ?_⟩
      subst e1 e2
      exact ⟨[_], rfl, rfl, W.int⟩
def wiR1 (w : WA) : WI := fun ρ Q => w ρ fun es r => match es with
  | [.int j] => -(2 ^ 62) ≤ j ∧ j < 2 ^ 62 ∧ Q (rgL 0 j.toNat) [] r
  | _ => False
def wiR2 (w : WA) : WI := fun ρ Q => w ρ fun es r => match es with
  | [.int i, .int j] => -(2 ^ 62) ≤ i ∧ i < 2 ^ 62 ∧ -(2 ^ 62) ≤ j ∧ j < 2 ^ 62 ∧ Q (rgL i (j - i).toNat) [] r
  | _ => False
theorem di_range1 {tg : Expr} {wa : WA} {p : Pos} (hg : Gl X "range") (hm : X.mg "range" = none) (ha : DA X G kp [a] wa) (hs : starEach [a] X.env = [(false, eval a X.env)] := by rfl) : DI X G kp false tg (.Call (.Name "range" p) [a] [] pos) (wiR1 wa) := by
  refine ⟨fun ρ P P' hp q => ha.mono _ _ _ (fun es r z => ?_) q, pi_imp (pi_range1 hg hm ha.run hs) fun σ H R ⟨ρ, vs, ds, W, q⟩ => ⟨ρ, vs, ds, W, ha.mono _ _ _ (fun es r z us H' l W' => ?_) q⟩⟩
  · match es, z with
    | [.int j], z => exact ⟨z.1, z.2.1, hp _ _ _ z.2.2⟩
  · match es, us, l, W', z with
    | [.int j], [u], _, W', z =>
      have e := W'.isInt
      subst e
      exact ⟨j, rfl, z.1, z.2.1, z.2.2 _ [] H' rfl W'.drop fun G' kp' => yl_range⟩
theorem di_range2 {tg : Expr} {wa : WA} {p : Pos} (hg : Gl X "range") (hm : X.mg "range" = none) (ha : DA X G kp [a, b] wa) (hs : starEach [a, b] X.env = [(false, eval a X.env), (false, eval b X.env)] := by rfl) (hs2 : starEach [b] X.env = [(false, eval b X.env)] := by rfl) : DI X G kp false tg (.Call (.Name "range" p) [a, b] [] pos) (wiR2 wa) := by
  refine ⟨fun ρ P P' hp q => ha.mono _ _ _ (fun es r z => ?_) q, pi_imp (pi_range2 hg hm ha.run hs hs2) fun σ H R ⟨ρ, vs, ds, W, q⟩ => ⟨ρ, vs, ds, W, ha.mono _ _ _ (fun es r z us H' l W' => ?_) q⟩⟩
  · match es, z with
    | [.int i, .int j], z => exact ⟨z.1, z.2.1, z.2.2.1, z.2.2.2.1, hp _ _ _ z.2.2.2.2⟩
  · match es, us, l, W', z with
    | [.int i, .int j], [u, w], _, W', z =>
      have e := W'.isInt
      have e2 := W'.drop.isInt
      subst e e2
      exact ⟨i, j, rfl, ⟨z.1, z.2.1, z.2.2.1, z.2.2.2.1⟩, z.2.2.2.2 _ [] H' rfl W'.drop.drop fun G' kp' => yl_range⟩
end
end Bd

/-! Bd10: zip, enumerate over lists and tuples, mixed. -/
namespace Bd
open PySem PySem.Spec PyProof.Rows L2
def SqK (k : Bool) (K : PySem.W.Frag) (H : Hp) (a : Addr) (xs : List V) : Prop := if k = true then SqT K H a xs else SqL K H a xs
def ItK (k : Bool) (h : Heap) (it a : Addr) (i : Nat) : Prop := if k = true then h.IsTupleIter it a i else h.IsListIter it a i
def DaK (k : Bool) (h : Heap) (a : Addr) (its : Array Value) : Prop := if k = true then h.IsTuple a its else h.IsList a its
def obK (k : Bool) (a : Addr) : Obj := if k = true then { cls := .type "tuple_iterator", data := .fields #[.ref a, .int 0 0] } else { cls := .type "list_iterator", data := .fields #[.ref a, .int 0 0] }
theorem draws_k {P : Program} {w : PySem.World} {A : Around} (hh : A.handled = none) (k : Bool) (it a : Addr) (hne : a ≠ it) (its : Array Value) :
    Draws P w A it [it, a] its.size (fun i v => its[i]? = some v) (fun i h => ItK k h it a i ∧ DaK k h a its) := by
  cases k with
  | true => exact Draws.tuple hh it a hne its
  | false => exact Draws.list hh it a hne its
theorem begins_k (k : Bool) (a : Addr) (its : Array Value) : Begins (.ref a) (obK k a) fun h => DaK k h a its := by
  cases k with
  | true => exact begins_tuple a its
  | false => exact begins_list a its
theorem seq_k {X : Cx} {pins : List (Addr × Obj)} {σ : Sl} {H : Hp} {s : Shared} {k : Bool} {a : Addr} {xs : List V} (I : Inv X pins σ H s) (h : SqK k X.K H a xs) : ∃ its : List Value, Vals xs its ∧ DaK k s.heap a its.toArray ∧ a < s.heap.objs.size := by
  cases k with
  | true =>
    obtain ⟨its, r, p, _⟩ := I.tuple h
    obtain ⟨o, ho, _⟩ := id p
    exact ⟨its, r, p, Heap.lt_size ho⟩
  | false =>
    obtain ⟨its, r, p, _⟩ := I.list h
    exact ⟨its, r, p.isList, p.lt⟩
theorem inj_k {X : Cx} {pins : List (Addr × Obj)} {σ : Sl} {H : Hp} {s : Shared} {k : Bool} {a : Addr} {xs ys : List V} (I : Inv X pins σ H s) (h : SqK k X.K H a xs) (h' : SqK k X.K H a ys) : xs = ys := by
  cases k with
  | true => exact I.tuple_inj h h'
  | false => exact I.list_inj h h'
theorem ItK.obj {k : Bool} {h : Heap} {it a : Addr} {i : Nat} (z : ItK k h it a i) : ∃ o, h.get? it = some o ∧ ∀ v, o.data ≠ .cell v := by
  cases k with
  | true =>
    obtain ⟨o, e, _, d⟩ := (show h.IsTupleIter it a i from z)
    exact ⟨o, e, fun v q => by rw [d] at q; cases q⟩
  | false =>
    obtain ⟨o, e, _, d⟩ := (show h.IsListIter it a i from z)
    exact ⟨o, e, fun v q => by rw [d] at q; cases q⟩
theorem ItK.at_ {k : Bool} {h h' : Heap} {it a : Addr} {i : Nat} (z : ItK k h it a i) (q : ∀ o, h.get? it = some o → h'.get? it = some o) : ItK k h' it a i := by
  cases k with
  | true => exact Heap.IsTupleIter.at (show h.IsTupleIter it a i from z) q
  | false => exact Heap.IsListIter.at (show h.IsListIter it a i from z) q
theorem ItK.new {k : Bool} {h : Heap} {it a : Addr} (e : h.get? it = some (obK k a)) : ItK k h it a 0 := by
  cases k with
  | true => exact ⟨_, e, rfl, rfl⟩
  | false => exact ⟨_, e, rfl, rfl⟩
/-! ### zip -/
def ItzK (K : PySem.W.Frag) (k1 k2 : Bool) (a b : Addr) : It :=
  ⟨fun i H => ∃ (xs ys : List V) (x y : V), SqK k1 K H a xs ∧ SqK k2 K H b ys ∧ xs[i]? = some x ∧ ys[i]? = some y,
    fun i H v H' => ∃ T x y, v = .ref T ∧ H T = none ∧ H' = upd H T (.tup [x, y]) ∧ (∀ xs, SqK k1 K H a xs → xs[i]? = some x) ∧ ∀ ys, SqK k2 K H b ys → ys[i]? = some y,
    fun i H => ∃ xs ys : List V, SqK k1 K H a xs ∧ SqK k2 K H b ys ∧ i = min xs.length ys.length⟩
theorem turn_zipK {P : Program} {w : PySem.World} {K : PySem.W.Frag} {elts : List Expr} {kk : Nat} {tpos : Pos} {k1 k2 : Bool} {a b z TI TO i1 i2 : Addr} (S : ZipSep2 z TI TO i1 i2 [i1, a] [i2, b]) (d1 : a ≠ i1) (d2 : b ≠ i2) :
    Turn P w K (.Tuple elts kk tpos) (ItzK K k1 k2 a b) [z, TI, TO, i1, i2] z (fun i h => IsZip h z TI TO .none ∧ IsTupOf2 h TI (.ref i1) (.ref i2) ∧ (∃ x y, IsTupOf2 h TO x y) ∧ ItK k1 h i1 a i ∧ ItK k2 h i2 b i) where
  mem := by simp
  obj := fun i h st c hc => by
    obtain ⟨hz, hTI, ⟨x, y, hTO⟩, h1, h2⟩ := st
    simp only [List.mem_cons, List.not_mem_nil, or_false] at hc
    rcases hc with rfl | rfl | rfl | rfl | rfl
    · exact ⟨_, hz, fun v q => nomatch q⟩
    · exact ⟨_, hTI, fun v q => nomatch q⟩
    · exact ⟨_, hTO, fun v q => nomatch q⟩
    · exact h1.obj
    · exact h2.obj
  keep := fun i h h' st k => by
    obtain ⟨hz, hTI, ⟨x, y, hTO⟩, h1, h2⟩ := st
    exact ⟨k z (by simp) _ hz, k TI (by simp) _ hTI, ⟨x, y, k TO (by simp) _ hTO⟩, h1.at_ fun o q => k i1 (by simp) o q, h2.at_ fun o q => k i2 (by simp) o q⟩
  item := by
    intro X hP hw hK hc i pins s σ H E I hf st hg
    subst hP hw hK
    obtain ⟨hz, hTI, ⟨x0, y0, hTO⟩, h1, h2⟩ := st
    obtain ⟨xs, ys, x, y, qx, qy, hx, hy⟩ := hg
    obtain ⟨its, rv, p, _⟩ := seq_k I qx
    obtain ⟨its2, rv2, p2, _⟩ := seq_k I qy
    obtain ⟨u, hu, ru⟩ := rv.get hx
    obtain ⟨u2, hu2, ru2⟩ := rv2.get hy
    have hlt1 : i < its.toArray.size := by simp; exact (List.getElem?_eq_some_iff.mp hu).1
    have hlt2 : i < its2.toArray.size := by simp; exact (List.getElem?_eq_some_iff.mp hu2).1
    refine wpAny_pyNext_zipD2_item S (draws_k (A := X.A.in1) (I.ok.hd hc) k1 i1 a d1 its.toArray) (draws_k (A := X.A.in1) (I.ok.hd hc) k2 i2 b d2 its2.toArray) hz hTI hTO ⟨h1, p⟩ ⟨h2, p2⟩ hlt1 hlt2 fun v1 v2 h' tk hv1 hv2 hz' hTO' n1 n2 hT hsz hk => ?_
    have nz : s.heap.objs.size ≠ z := Nat.ne_of_gt (Heap.lt_size hz)
    refine ⟨_, rfl, wpAny_letOwnedTupleGo_zip (s := { s with heap := h', toks := tk }) hz' fun h'' z'' sb => ?_⟩
    have hT2 : h''.get? s.heap.objs.size = some { cls := .type "tuple", data := .seq #[v1, v2] } := (sb.2 _ nz).trans hT
    have r1 : RelV x v1 := by
      have e : its[i]? = some v1 := by simpa using hv1
      rw [hu] at e; cases e; exact ru
    have r2 : RelV y v2 := by
      have e : its2[i]? = some v2 := by simpa using hv2
      rw [hu2] at e; cases e; exact ru2
    have new : ObjOk X.prog X.w (upd H s.heap.objs.size (.tup [x, y])) h'' s.heap.objs.size (.tup [x, y]) :=
      ⟨by show 2 ≤ sizeLine; decide, [v1, v2], .cons r1 (.cons r2 .nil), ⟨_, hT2, rfl, _, rfl⟩⟩
    have oth : ∀ c o, c ∉ [z, TI, TO, i1, i2] → s.heap.get? c = some o → h''.get? c = some o := fun c o hb q => by
      simp only [List.mem_cons, List.not_mem_nil, or_false, not_or] at hb
      exact (sb.2 c hb.1).trans (hk c o hb.1 hb.2.2.1 hb.2.2.2.1 hb.2.2.2.2 q)
    have I1 : Inv X pins σ (upd H s.heap.objs.size (.tup [x, y])) { s with heap := h'', toks := tk } :=
      I.turnedNew (t' := tk) (ch := [z, TI, TO, i1, i2]) oth hf (Nat.le_refl _) new
    refine ⟨.ref s.heap.objs.size, _, I1, rfl, ⟨_, x, y, rfl, I.hok.fresh (Nat.le_refl _), rfl, fun l hl => by rw [inj_k I hl qx]; exact hx, fun l hl => by rw [inj_k I hl qy]; exact hy⟩, ⟨z'', ?_, ⟨v1, v2, ?_⟩, ?_, ?_⟩, fun c hcm => ?_⟩
    · exact (sb.2 _ S.TIz).trans (hk _ _ S.TIz S.TITO S.TIi1 S.TIi2 hTI)
    · exact (sb.2 _ S.TOz).trans hTO'
    · exact n1.1.at_ fun o q => (sb.2 _ S.zi1.symm).trans q
    · exact n2.1.at_ fun o q => (sb.2 _ S.zi2.symm).trans q
    · have hlt : c < s.heap.objs.size := by
        simp only [List.mem_cons, List.not_mem_nil, or_false] at hcm
        rcases hcm with rfl | rfl | rfl | rfl | rfl
        · exact Heap.lt_size hz
        · exact Heap.lt_size hTI
        · exact Heap.lt_size hTO
        · obtain ⟨_, e, _⟩ := h1.obj; exact Heap.lt_size e
        · obtain ⟨_, e, _⟩ := h2.obj; exact Heap.lt_size e
      rw [upd_ne (Nat.ne_of_lt hlt)]
      exact (hf c hcm).1
  done := by
    intro X hP hw hK hc i pins s σ H E I hf st hg
    subst hP hw hK
    obtain ⟨hz, hTI, ⟨x0, y0, hTO⟩, h1, h2⟩ := st
    obtain ⟨xs, ys, qx, qy, hi⟩ := hg
    obtain ⟨its, rv, p, _⟩ := seq_k I qx
    obtain ⟨its2, rv2, p2, _⟩ := seq_k I qy
    have l1 : xs.length = its.toArray.size := by rw [rv.length]; simp
    have l2 : ys.length = its2.toArray.size := by rw [rv2.length]; simp
    refine wpAny_pyNext_zipD2_end S (draws_k (A := X.A.in1) (I.ok.hd hc) k1 i1 a d1 its.toArray) (draws_k (A := X.A.in1) (I.ok.hd hc) k2 i2 b d2 its2.toArray) hz hTI hTO ⟨h1, p⟩ ⟨h2, p2⟩ (by omega) (by omega) (by omega) fun h' tk hk => ⟨rfl, I.turnedL (t' := tk) (ch := [z, TI, TO, i1, i2]) (fun c o hb q => ?_) hf⟩
    simp only [List.mem_cons, List.not_mem_nil, or_false, not_or] at hb
    exact hk c o hb.1 hb.2.2.1 hb.2.2.2.1 hb.2.2.2.2 q
  self := fun A i s Q E st h => wpAny_pyIter_zip st.1 h
def iZipK (K : PySem.W.Frag) (ta : TA) : TI := fun σ H R => ta σ H fun vs H1 => ∃ k1 k2 a b xs ys, vs = [.ref a, .ref b] ∧ SqK k1 K H1 a xs ∧ SqK k2 K H1 b ys ∧ R (ItzK K k1 k2 a b) H1
theorem pi_zipK {X : Cx} {e e2 : Expr} {ta : TA} {p pos tpos : Pos} {elts : List Expr} {kk : Nat} (hg : Gl X "zip") (hm : X.mg "zip" = none) (ha : PA X [e, e2] ta)
    (hs : starEach [e, e2] X.env = (false, eval e X.env) :: starEach [e2] X.env := by rfl) (hpl : (backTo pos (starEach [e2] X.env)).any (·.1) = false := by rfl) :
    PI X (.Tuple elts kk tpos) (.Call (.Name "zip" p) [e, e2] [] pos) (iZipK X.K ta) := by
  refine ⟨fun pins s σ H R I h => Call_ (ld_blt I hg hm PyProof.Rows.boot_zip (PyProof.Rows.callWith_type1 (thn (ha.run pos pins s σ H _ I h) fun us s1 ⟨vs, H1, I1, r1, k1, k2, a, b, xs, ys, ex, qx, qy, q⟩ => ?_) hs hpl))⟩
  subst ex
  cases r1 with
  | cons r rr =>
    cases rr with
    | cons r' rr =>
      cases rr
      cases r
      cases r'
      obtain ⟨its, rv, p1, la⟩ := seq_k I1 qx
      obtain ⟨its2, rv2, p2, lb⟩ := seq_k I1 qy
      refine zip_begins2 (begins_k k1 a its.toArray) (begins_k k2 b its2.toArray) p1 p2 fun h' hz hTI hTO e1 e2 hsz hk => wpAny_pyIter_zip hz ?_
      have I2 : Inv X pins σ H1 { s1 with heap := h' } := I1.kept (t' := s1.toks) hk
      have S := zip_sep2 (N := s1.heap.objs.size) (fp1 := [a]) (fp2 := [b]) (fun c hc => by rw [List.mem_singleton.mp hc]; exact la) (fun c hc => by rw [List.mem_singleton.mp hc]; exact lb)
      refine ⟨_, [s1.heap.objs.size + 4, s1.heap.objs.size + 2, s1.heap.objs.size + 3, s1.heap.objs.size, s1.heap.objs.size + 1], _, _, H1, rfl, I2, turn_zipK S (Nat.ne_of_lt la) (Nat.ne_of_lt (Nat.lt_succ_of_lt lb)), ⟨hz, hTI, ⟨_, _, hTO⟩, .new e1, .new e2⟩, fun c hcm => ?_, q⟩
      have hle : s1.heap.objs.size ≤ c := by
        simp only [List.mem_cons, List.not_mem_nil, or_false] at hcm
        rcases hcm with rfl | rfl | rfl | rfl | rfl
        all_goals first | exact Nat.le_refl _ | exact Nat.le_add_right _ _
      exact I1.fpOk hle (I1.hok.fresh hle)
/-! ### enumerate -/
def IteK (K : PySem.W.Frag) (k : Bool) (lo : Int) (a : Addr) : It :=
  ⟨fun i H => ∃ (xs : List V) (x : V), SqK k K H a xs ∧ xs[i]? = some x,
    fun i H v H' => ∃ T x, v = .ref T ∧ H T = none ∧ H' = upd H T (.tup [.int (lo + (i : Nat)), x]) ∧ ∀ xs, SqK k K H a xs → xs[i]? = some x,
    fun i H => ∃ xs : List V, SqK k K H a xs ∧ i = xs.length⟩
theorem turn_enumK {P : Program} {w : PySem.World} {K : PySem.W.Frag} {elts : List Expr} {kk : Nat} {tpos : Pos} {k : Bool} {lo : Int} {a e it : Addr} (hne : e ≠ it) (ha : a ≠ it) (hea : e ≠ a) :
    Turn P w K (.Tuple elts kk tpos) (IteK K k lo a) [e, it] e (fun i h => (∃ old, IsEnum h e it (lo + (i : Nat)) old) ∧ ItK k h it a i) where
  mem := by simp
  obj := fun i h st b hb => by
    obtain ⟨⟨old, he⟩, hi⟩ := st
    simp only [List.mem_cons, List.not_mem_nil, or_false] at hb
    rcases hb with rfl | rfl
    · exact ⟨_, he, fun v q => nomatch q⟩
    · exact hi.obj
  keep := fun i h h' st k => let ⟨⟨old, he⟩, hi⟩ := st; ⟨⟨old, k e (by simp) _ he⟩, hi.at_ fun o q => k it (by simp) o q⟩
  item := by
    intro X hP hw hK hc i pins s σ H E I hf st hg
    subst hP hw hK
    obtain ⟨⟨old, he⟩, hit⟩ := st
    obtain ⟨xs, x, qx, hx⟩ := hg
    obtain ⟨its, rv, p, _⟩ := seq_k I qx
    obtain ⟨u, hu, ru⟩ := rv.get hx
    have hlt : i < its.toArray.size := by simp; exact (List.getElem?_eq_some_iff.mp hu).1
    have hel : e < s.heap.objs.size := Heap.lt_size he
    have hil : it < s.heap.objs.size := by obtain ⟨_, q, _⟩ := hit.obj; exact Heap.lt_size q
    refine wpAny_pyNext_enum_itemC (draws_k (A := X.A.in1) (I.ok.hd hc) k it a ha its.toArray) he ⟨hit, p⟩ hlt hne (by simp [hne, hea]) fun v h' tk hv ho hs' hT hsz hk => ?_
    refine ⟨_, rfl, wpAny_letOwnedTupleGo_enum (s := { s with heap := h', toks := tk + 1 }) ho fun h'' he' sb => ?_⟩
    have hT2 : h''.get? s.heap.objs.size = some { cls := .type "tuple", data := .seq #[.int (lo + (i : Nat)) tk, v] } := (sb.2 _ (Nat.ne_of_gt hel)).trans hT
    have r1 : RelV x v := by
      have e : its[i]? = some v := by simpa using hv
      rw [hu] at e; cases e; exact ru
    have new : ObjOk X.prog X.w (upd H s.heap.objs.size (.tup [.int (lo + (i : Nat)), x])) h'' s.heap.objs.size (.tup [.int (lo + (i : Nat)), x]) :=
      ⟨by show 2 ≤ sizeLine; decide, [.int (lo + (i : Nat)) tk, v], .cons ⟨_, rfl⟩ (.cons r1 .nil), ⟨_, hT2, rfl, _, rfl⟩⟩
    have I1 : Inv X pins σ (upd H s.heap.objs.size (.tup [.int (lo + (i : Nat)), x])) { s with heap := h'', toks := tk + 1 } :=
      I.turnedNew (ch := [e, it]) (fun b ob hb q => by
        simp only [List.mem_cons, List.not_mem_nil, or_false, not_or] at hb
        exact (sb.2 b hb.1).trans (hk b ob hb.1 hb.2 q)) hf (Nat.le_refl _) new
    refine ⟨.ref s.heap.objs.size, _, I1, rfl, ⟨_, x, rfl, I.hok.fresh (Nat.le_refl _), rfl, fun ys hy => by rw [inj_k I hy qx]; exact hx⟩, ⟨⟨v, ?_⟩, hs'.1.at_ fun o q => (sb.2 it (Ne.symm hne)).trans q⟩, fun b hb => ?_⟩
    · have e1 : lo + ((i + 1 : Nat) : Int) = lo + (i : Int) + 1 := by omega
      rw [e1]; exact he'
    · have hb' : b < s.heap.objs.size := by
        simp only [List.mem_cons, List.not_mem_nil, or_false] at hb
        rcases hb with rfl | rfl
        · exact hel
        · exact hil
      rw [upd_ne (Nat.ne_of_lt hb')]
      exact (hf b hb).1
  done := by
    intro X hP hw hK hc i pins s σ H E I hf st hg
    subst hP hw hK
    obtain ⟨⟨old, he⟩, hit⟩ := st
    obtain ⟨xs, qx, hi⟩ := hg
    obtain ⟨its, rv, p, _⟩ := seq_k I qx
    have l1 : i = its.toArray.size := by rw [hi, rv.length]; simp
    obtain ⟨f0, f1, f2, f3, f4, f5⟩ := hf it (by simp)
    subst l1
    exact wpAny_pyNext_enum_endD (draws_k (A := X.A.in1) (I.ok.hd hc) k it a ha its.toArray) he ⟨hit, p⟩ fun h' eb => ⟨rfl, I.turned (t' := s.toks) (fun b o hb q => eb b o hb q) f0 f1 f3 f4 f5⟩
  self := fun A i s Q E st h => let ⟨⟨_, he⟩, _⟩ := st; wpAny_pyIter_enum he h
def iEnumK (K : PySem.W.Frag) (ta : TA) : TI := fun σ H R => ta σ H fun vs H1 => ∃ k a xs, vs = [.ref a] ∧ SqK k K H1 a xs ∧ R (IteK K k 0 a) H1
set_option maxHeartbeats 1000000 in
theorem enum_new1 {v : Value} {o : Obj} {Hs : Heap → Prop} (B : Begins v o Hs) :
    Meets (Builtin.«enumerate.__new__» ⟨[.type "enumerate", v], []⟩) (fun _ R s => Hs s.heap ∧
      R (.ok (.ret (.ref (s.heap.push o).objs.size))) { s with heap := (s.heap.push o).push { cls := .type "enumerate", data := .fields #[.none, .bool false, .ref s.heap.objs.size, rawInt 0, .none, .none] } }) := by
  refine .of_wp fun prog w A R s hs => ?_
  obtain ⟨hp, gs, dr, tk, os⟩ := s
  obtain ⟨hb, goal⟩ := hs
  have su := sub_enumerate
  have it1 : ∀ {A1 : Around} {E1 : Value → Shared → Prop} {Q1 : Value → Shared → Prop}, Q1 (.ref hp.objs.size) ⟨hp.push o, gs, dr, tk, os⟩ → wpAny (model prog w) A1 (pyIter v) Q1 E1 ⟨hp, gs, dr, tk, os⟩ :=
    fun q1 => B.iter prog w _ _ ⟨hp, gs, dr, tk, os⟩ _ hb q1
  wp_walk using it1
  refine wpAny_stack_any fun st => wpAny_pure ?_
  split
  · rename_i c1 _ _ _ _ _
    cases (c1 == Value.type "enumerate") <;> (wp_walk using it1; exact ⟨_, rfl, goal⟩)
  · wp_walk using it1
    exact ⟨_, rfl, goal⟩
theorem enum_k {P : Program} {w : PySem.World} {A : Around} {E : Value → Shared → Prop} {s : Shared} {v : Value} {o : Obj} {Hs : Heap → Prop} {Q : Value → Shared → Prop} (B : Begins v o Hs) (hb : Hs s.heap)
    (h : ∀ h', IsEnum h' (s.heap.objs.size + 1) s.heap.objs.size 0 .none → h'.get? s.heap.objs.size = some o → (∀ b o, s.heap.get? b = some o → h'.get? b = some o) → Q (.ref (s.heap.objs.size + 1)) { s with heap := h' }) :
    wpAny (model P w) A (call (.type "enumerate") [v]) Q E s := by
  refine callType_new F.called_enumerate (by decide) (F.typeCall_enumerate_1 _) (F.newCall_enumerate_1 _) (fun obj => F.args_object_init_2 obj _) F.entry_enumerate_new (enum_new1 B) ⟨hb, ?_⟩
  have sz : (s.heap.push o).objs.size = s.heap.objs.size + 1 := Heap.size_push ..
  show _ ∧ _
  rw [sz]
  refine ⟨⟨{ cls := .type "enumerate", data := .fields #[.none, .bool false, .ref s.heap.objs.size, rawInt 0, .none, .none] }, ?_, rfl⟩, h _ ?_ (Heap.get?_push_of_some _ (Heap.get?_push_size _ B.free)) fun b ob x => Heap.get?_push_of_some _ (Heap.get?_push_of_some _ x)⟩
  all_goals
    have e := Heap.get?_push_size (s.heap.push o) (o := { cls := .type "enumerate", data := .fields #[.none, .bool false, .ref s.heap.objs.size, rawInt 0, .none, .none] }) rfl
    rw [sz] at e
    exact e
theorem pi_enumK {X : Cx} {e : Expr} {ta : TA} {p pos tpos : Pos} {elts : List Expr} {kk : Nat} (hg : Gl X "enumerate") (hm : X.mg "enumerate" = none) (ha : PA X [e] ta) (hs : starEach [e] X.env = [(false, eval e X.env)] := by rfl) :
    PI X (.Tuple elts kk tpos) (.Call (.Name "enumerate" p) [e] [] pos) (iEnumK X.K ta) := by
  refine ⟨fun pins s σ H R I h => Call_ (ld_blt I hg hm boot_enumerate (PyProof.Rows.callWith_type1 (thn (ha.run pos pins s σ H _ I h) fun us s1 ⟨vs, H1, I1, r1, k, a, xs, ex, qx, q⟩ => ?_) hs rfl))⟩
  subst ex
  cases r1 with
  | cons r rr =>
    cases rr
    cases r
    obtain ⟨its, rv, p', la⟩ := seq_k I1 qx
    refine enum_k (begins_k k a its.toArray) p' fun h' he e1 hk => wpAny_pyIter_enum he ?_
    have I2 : Inv X pins σ H1 { s1 with heap := h' } := I1.kept (t' := s1.toks) hk
    refine ⟨_, [s1.heap.objs.size + 1, s1.heap.objs.size], _, _, H1, rfl, I2, turn_enumK (lo := 0) (Nat.succ_ne_self _) (Nat.ne_of_lt la) (fun z => absurd la (by rw [← z]; exact Nat.not_lt.mpr (Nat.le_succ _))), ⟨⟨.none, by simpa using he⟩, .new e1⟩, fun b hb => ?_, q⟩
    have hle : s1.heap.objs.size ≤ b := by
      simp only [List.mem_cons, List.not_mem_nil, or_false] at hb
      rcases hb with rfl | rfl
      · exact Nat.le_add_right _ _
      · exact Nat.le_refl _
    exact I1.fpOk hle (I1.hok.fresh hle)
end Bd

/-! Bd11: zip, enumerate as what a loop walks; range with a step; signs of a text; a dict's items. -/
namespace Bd
open PySem PySem.Spec PyProof.Rows L2
def seqO : D → Option (Bool × List D)
  | .lst _ es => some (false, es)
  | .tup es => some (true, es)
  | _ => none
def seqQ (d : D) (Q : List D → D → Prop) : Prop := match d with
  | .lst m es => Q (frzs es) (.lst m (frzs es))
  | .tup es => Q (frzs es) (.tup (frzs es))
  | _ => False
theorem seqQ_mono {d : D} {P P' : List D → D → Prop} (h : ∀ a b, P a b → P' a b) (q : seqQ d P) : seqQ d P' := by
  cases d <;> first | exact q.elim | exact h _ _ q
theorem seqQ_of {d : D} {P : List D → D → Prop} (q : seqQ d P) : ∃ k es, seqO (frzK d) = some (k, es) ∧ solids es = true ∧ P es (frzK d) := by
  cases d <;> first | exact q.elim | exact ⟨_, _, rfl, frzs_solid _, q⟩
section
variable {K : PySem.W.Frag} {G : Gm} {kp : List Bool} {σ : Sl} {ρ : List D} {vs : List V} {ds es fs : List D} {H : Hp} {F A : AS} {v w : V} {d e : D} {k k2 : Bool}
theorem Rep.seq (r : Rep K H F v d A) (h : seqO d = some (k, es)) (s : solids es = true) : ∃ (a : Addr) (us : List V), v = .ref a ∧ SqK k K H a us ∧ us.length = es.length ∧ Reps K H F us es M0 := by
  cases r with
  | tup t q => cases h; exact ⟨_, _, rfl, t.sq, q.length, q.solid s⟩
  | own e _ q _ => cases h; exact ⟨_, _, rfl, .inl (.inl e), q.length, q.solid s⟩
  | shr e _ q => cases h; exact ⟨_, _, rfl, .inl (.inl e), q.length, q⟩
  | con c q => cases h; exact ⟨_, _, rfl, c.sq, q.length, q⟩
  | _ => cases h
theorem World.seq1 (W : World K G kp σ ρ (v :: vs) (d :: ds) H) (hd : seqO d = some (k, es)) (s : solids es = true) : ∃ (a : Addr) (us : List V), v = .ref a ∧ SqK k K H a us ∧ us.length = es.length ∧
    ∀ (i : Nat) (x : V) (d' : D), us[i]? = some x → es[i]? = some d' → World K G kp σ ρ (x :: v :: vs) (d' :: d :: ds) H := by
  obtain ⟨A, F, f⟩ := W
  have r := f.reps
  cases r with
  | cons p q i j k =>
    obtain ⟨a, us, ev, sq, l, rs⟩ := p.seq hd s
    refine ⟨a, us, ev, sq, l, fun i x d' hx hd' => ⟨A, F, f.rep A ?_ (by have := f.lv; simpa using this) fun _ h => h⟩⟩
    obtain ⟨x', hx', rx⟩ := rs.nth hd'
    rw [hx] at hx'; cases hx'
    exact f.reps.push rx
theorem World.seq2 (W : World K G kp σ ρ (v :: w :: vs) (d :: e :: ds) H) (hd : seqO d = some (k, es)) (he : seqO e = some (k2, fs)) (s : solids es = true) (s2 : solids fs = true) : ∃ (a b : Addr) (us ws : List V), v = .ref a ∧ w = .ref b ∧ SqK k K H a us ∧ SqK k2 K H b ws ∧ us.length = es.length ∧ ws.length = fs.length ∧
    ∀ (i : Nat) (x y : V) (d' e' : D), us[i]? = some x → ws[i]? = some y → es[i]? = some d' → fs[i]? = some e' → World K G kp σ ρ (x :: y :: v :: w :: vs) (d' :: e' :: d :: e :: ds) H := by
  obtain ⟨A, F, f⟩ := W
  have r := f.reps
  cases r with
  | cons p q i j k =>
    cases q with
    | cons p2 q2 i2 j2 k2 =>
      obtain ⟨a, us, ev, sq, l, rs⟩ := p.seq hd s
      obtain ⟨b, ws, ew, sq2, l2, rs2⟩ := p2.seq he s2
      refine ⟨a, b, us, ws, ev, ew, sq, sq2, l, l2, fun i x y d' e' hx hy hd' he' => ⟨A, F, f.rep A ?_ (by have := f.lv; simpa using this) fun _ h => h⟩⟩
      obtain ⟨x', hx', rx⟩ := rs.nth hd'
      rw [hx] at hx'; cases hx'
      obtain ⟨y', hy', ry⟩ := rs2.nth he'
      rw [hy] at hy'; cases hy'
      exact (f.reps.push ry).push rx
end
section
variable {X : Cx} {G : Gm} {kp : List Bool} {e a b c : Expr} {pos p p1 p2 : Pos} {wa : WA} {elts : List Expr} {kk : Nat} {tpos : Pos}
def pairs (xs ys : List D) : List (List D) := (xs.zip ys).map fun z => [z.1, z.2]
theorem yl_zip {k1 k2 : Bool} {a b : Addr} {d e : D} {xs ys : List D} (hd : seqO d = some (k1, xs)) (he : seqO e = some (k2, ys)) (s : solids xs = true) (s2 : solids ys = true) : Yl X.K G kp true (ItzK X.K k1 k2 a b) [.ref a, .ref b] [d, e] (pairs xs ys) := fun i σ ρ vs ds H W => by
  obtain ⟨a', b', us, ws, ea, eb, q1, q2, l1, l2, mk⟩ := World.seq2 (vs := vs) (ds := ds) W hd he s s2
  cases ea; cases eb
  refine ⟨fun hi => ⟨us, ws, q1, q2, by rw [hi, l1, l2]; simp [pairs]⟩, fun its hits => ?_⟩
  unfold pairs at hits
  rw [List.getElem?_map] at hits
  cases hz : (xs.zip ys)[i]? with
  | none => rw [hz] at hits; cases hits
  | some z =>
    rw [hz] at hits
    cases hits
    obtain ⟨h1, h2⟩ := List.getElem?_zip_eq_some.mp hz
    obtain ⟨x, hx⟩ : ∃ x, us[i]? = some x := ⟨us[i]'(by
      have := (List.getElem?_eq_some_iff.mp h1).1
      omega), List.getElem?_eq_getElem _⟩
    obtain ⟨y, hy⟩ : ∃ x, ws[i]? = some x := ⟨ws[i]'(by
      have := (List.getElem?_eq_some_iff.mp h2).1
      omega), List.getElem?_eq_getElem _⟩
    refine ⟨⟨us, ws, x, y, q1, q2, hx, hy⟩, fun v H' ⟨T, x', y', ev, hT, eH, ex, ey⟩ => ?_⟩
    have ex := ex us q1
    rw [hx] at ex; cases ex
    have ey := ey ws q2
    rw [hy] at ey; cases ey
    subst eH ev
    exact ⟨[x, y], rfl, ⟨T, rfl, .inl (.inl upd_same)⟩, (mk i x y _ _ hx hy h1 h2).laid hT⟩
def wiZ (w : WA) : WI := fun ρ Q => w ρ fun es r => match es with
  | [x, y] => seqQ x fun xs x' => seqQ y fun ys y' => Q (pairs xs ys) [x', y'] r
  | _ => False
theorem di_zip (hg : Gl X "zip") (hm : X.mg "zip" = none) (ha : DA X G kp [a, b] wa)
    (hs : starEach [a, b] X.env = (false, eval a X.env) :: starEach [b] X.env := by rfl) (hpl : (backTo pos (starEach [b] X.env)).any (·.1) = false := by rfl) :
    DI X G kp true (.Tuple elts kk tpos) (.Call (.Name "zip" p) [a, b] [] pos) (wiZ wa) := by
  refine ⟨fun ρ P P' hp q => ha.mono _ _ _ (fun es r z => ?_) q, pi_imp (pi_zipK hg hm ha.run hs hpl) fun σ H R ⟨ρ, vs, ds, W, q⟩ => ⟨ρ, vs, ds, W, ha.mono _ _ _ (fun es r z us H' l W' => ?_) q⟩⟩
  · match es, z with
    | [x, y], z => exact seqQ_mono (fun _ _ z => seqQ_mono (fun _ _ z => hp _ _ _ z) z) z
  · match es, us, l, W', z with
    | [x, y], [u, w], _, W', z =>
      obtain ⟨k1, xs, h1, s1, z⟩ := seqQ_of z
      obtain ⟨k2, ys, h2, s2, z⟩ := seqQ_of z
      have W1 : World X.K G kp σ r (u :: w :: vs) (frzK x :: frzK y :: ds) H' := (World.frzKids (World.swap (World.frzKids (vs := w :: vs) (ds := y :: ds) W'))).swap
      obtain ⟨a', b', us, ws, ea, eb, q1, q2, l1, l2, mk⟩ := W1.seq2 h1 h2 s1 s2
      cases ea; cases eb
      exact ⟨k1, k2, a', b', us, ws, rfl, q1, q2, z _ [.ref a', .ref b'] H' rfl W1 fun G' kp' => yl_zip h1 h2 s1 s2⟩
def enums (xs : List D) : List (List D) := xs.zipIdx.map fun z => [.int (z.2 : Nat), z.1]
theorem yl_enum {k1 : Bool} {a : Addr} {d : D} {xs : List D} (hd : seqO d = some (k1, xs)) (s : solids xs = true) : Yl X.K G kp true (IteK X.K k1 0 a) [.ref a] [d] (enums xs) := fun i σ ρ vs ds H W => by
  obtain ⟨a', us, ea, q1, l1, mk⟩ := World.seq1 (vs := vs) (ds := ds) W hd s
  cases ea
  refine ⟨fun hi => ⟨us, q1, by rw [hi, l1]; simp [enums]⟩, fun its hits => ?_⟩
  unfold enums at hits
  rw [List.getElem?_map, List.getElem?_zipIdx] at hits
  cases hz : xs[i]? with
  | none => rw [hz] at hits; cases hits
  | some z =>
    rw [hz] at hits
    cases hits
    obtain ⟨x, hx⟩ : ∃ x, us[i]? = some x := ⟨us[i]'(by
      have := (List.getElem?_eq_some_iff.mp hz).1
      omega), List.getElem?_eq_getElem _⟩
    refine ⟨⟨us, x, q1, hx⟩, fun v H' ⟨T, x', ev, hT, eH, ex⟩ => ?_⟩
    have ex := ex us q1
    rw [hx] at ex; cases ex
    subst eH ev
    refine ⟨[.int ((0 : Int) + (i : Nat)), x], rfl, ⟨T, rfl, .inl (.inl upd_same)⟩, ?_⟩
    have W2 := ((mk i x _ hx hz).int (j := (0 : Int) + (i : Nat))).laid (o := .tup [.int ((0 : Int) + (i : Nat)), x]) hT
    have e0 : (0 : Int) + (i : Nat) = ((0 + i : Nat) : Int) := by simp
    rw [e0] at W2 ⊢
    exact W2
def wiE (w : WA) : WI := fun ρ Q => w ρ fun es r => match es with
  | [x] => seqQ x fun xs x' => Q (enums xs) [x'] r
  | _ => False
theorem di_enum (hg : Gl X "enumerate") (hm : X.mg "enumerate" = none) (ha : DA X G kp [a] wa) (hs : starEach [a] X.env = [(false, eval a X.env)] := by rfl) :
    DI X G kp true (.Tuple elts kk tpos) (.Call (.Name "enumerate" p) [a] [] pos) (wiE wa) := by
  refine ⟨fun ρ P P' hp q => ha.mono _ _ _ (fun es r z => ?_) q, pi_imp (pi_enumK hg hm ha.run hs) fun σ H R ⟨ρ, vs, ds, W, q⟩ => ⟨ρ, vs, ds, W, ha.mono _ _ _ (fun es r z us H' l W' => ?_) q⟩⟩
  · match es, z with
    | [x], z => exact seqQ_mono (fun _ _ z => hp _ _ _ z) z
  · match es, us, l, W', z with
    | [x], [u], _, W', z =>
      obtain ⟨k1, xs, h1, s1, z⟩ := seqQ_of z
      have W1 : World X.K G kp σ r (u :: vs) (frzK x :: ds) H' := World.frzKids (vs := vs) (ds := ds) W'
      obtain ⟨a', us, ea, q1, l1, mk⟩ := W1.seq1 h1 s1
      cases ea
      exact ⟨k1, a', us, rfl, q1, z _ [.ref a'] H' rfl W1 fun G' kp' => yl_enum h1 s1⟩
/-! ### a range with a step -/
def rgC (lo c : Int) (n : Nat) : List (List D) := (List.range n).map fun (i : Nat) => [D.int (lo + (i : Nat) * c)]
theorem yl_rangeC {lo c : Int} {n : Nat} : Yl X.K G kp false (Itc lo c n) [] [] (rgC lo c n) := fun i σ ρ vs ds H W => by
  refine ⟨fun e => ?_, fun its hits => ?_⟩
  · show n ≤ i
    rw [e]; simp [rgC]
  · unfold rgC at hits
    rw [List.getElem?_map] at hits
    cases hd : (List.range n)[i]? with
    | none => rw [hd] at hits; cases hits
    | some j =>
      rw [hd] at hits
      cases hits
      obtain ⟨h1, h2⟩ := List.getElem?_eq_some_iff.mp hd
      rw [List.length_range] at h1
      rw [List.getElem_range] at h2
      subst h2
      refine ⟨h1, fun x H' ⟨e1, e2⟩ => ?_⟩
      subst e1 e2
      exact ⟨[_], rfl, rfl, W.int⟩
def wiR3 (w : WA) : WI := fun ρ Q => w ρ fun es r => match es with
  | [.int i, .int j, .int c] => ∃ n, RgC i j c n ∧ Q (rgC i c n) [] r
  | _ => False
theorem di_range3 {tg : Expr} (hg : Gl X "range") (hm : X.mg "range" = none) (ha : DA X G kp [a, b, c] wa) (hs : starEach [a, b, c] X.env = (false, eval a X.env) :: starEach [b, c] X.env := by rfl) (hpl : (backTo pos (starEach [b, c] X.env)).any (·.1) = false := by rfl) : DI X G kp false tg (.Call (.Name "range" p) [a, b, c] [] pos) (wiR3 wa) := by
  refine ⟨fun ρ P P' hp q => ha.mono _ _ _ (fun es r z => ?_) q, pi_imp (pi_range3 hg hm ha.run hs hpl) fun σ H R ⟨ρ, vs, ds, W, q⟩ => ⟨ρ, vs, ds, W, ha.mono _ _ _ (fun es r z us H' l W' => ?_) q⟩⟩
  · match es, z with
    | [.int i, .int j, .int c], z => obtain ⟨n, h1, h2⟩ := z; exact ⟨n, h1, hp _ _ _ h2⟩
  · match es, us, l, W', z with
    | [.int i, .int j, .int c], [u, w, x], _, W', z =>
      have e := W'.isInt
      have e2 := W'.drop.isInt
      have e3 := W'.drop.drop.isInt
      subst e e2 e3
      obtain ⟨n, h1, h2⟩ := z
      exact ⟨i, j, c, n, rfl, h1, h2 _ [] H' rfl W'.drop.drop.drop fun G' kp' => yl_rangeC⟩
end
end Bd

/-! Bd12: list comprehensions. -/
namespace Bd
open PySem PySem.Spec PyProof.Rows L2
def wipeD (ρ : List D) : List Nat → List D
  | [] => ρ
  | v :: vs => wipeD (ρ.set v .gone) vs
def Gm.at_ (G : Gm) (σ : Sl) : Gm := { G with vs0 := σ }
theorem wipe_in {σ : Sl} {j : Nat} : ∀ {vs : List Nat}, j ∈ vs → j < σ.length → (wipe σ vs)[j]? = some none
  | v :: vs, h, l => by
    unfold wipe
    by_cases e : v = j
    · subst e
      rw [List.getElem?_set_self (by rw [wipe_length]; exact l)]
    · rw [List.getElem?_set_ne e]
      rcases List.mem_cons.mp h with h | h
      · exact absurd h.symm e
      · exact wipe_in h l
theorem wipe_eq {σ σ2 : Sl} {vs : List Nat} (l : σ2.length = σ.length) (h : ∀ j, j ∉ vs → j < σ.length → σ2[j]? = σ[j]?) : wipe σ2 vs = wipe σ vs := by
  refine List.ext_getElem? fun j => ?_
  by_cases hl : j < σ.length
  · by_cases hj : j ∈ vs
    · rw [wipe_in hj hl, wipe_in hj (by omega)]
    · rw [wipe_out hj, wipe_out hj]; exact h j hj hl
  · rw [List.getElem?_eq_none (by rw [wipe_length]; omega), List.getElem?_eq_none (by rw [wipe_length]; omega)]
section
variable {K : PySem.W.Frag} {G : Gm} {kp kp' : List Bool} {σ σ' : Sl} {ρ : List D} {vs us : List V} {ds es : List D} {H : Hp} {v : V} {d : D} {i : Nat}
theorem World.into (W : World K G kp σ ρ vs ds H) : World K (G.at_ σ) kp' σ ρ vs ds H := by
  obtain ⟨A, F, f⟩ := W
  exact ⟨A, F, f.reps, f.lv, f.ls, f.sn, f.non, f.sep, f.own, f.trk, f.src, f.srf, f.fr, f.al, f.tab, fun _ _ => rfl⟩
theorem World.back (W : World K (G.at_ σ') kp' σ ρ vs ds H) (h : ∀ j : Nat, kp.getD j false = true → σ[j]? = G.vs0[j]?) : World K G kp σ ρ vs ds H := by
  obtain ⟨A, F, f⟩ := W
  exact ⟨A, F, f.reps, f.lv, f.ls, f.sn, f.non, f.sep, f.own, f.trk, f.src, f.srf, f.fr, f.al, f.tab, h⟩
theorem World.kps (W : World K G kp σ ρ vs ds H) : ∀ j : Nat, kp.getD j false = true → σ[j]? = G.vs0[j]? := by
  obtain ⟨A, F, f⟩ := W
  exact f.kps
theorem World.sn (W : World K G kp σ ρ vs ds H) : σ.length = G.n := by
  obtain ⟨A, F, f⟩ := W
  exact f.sn
theorem World.reslot {o : Option V} (W : World K G kp σ ρ vs ds H) (hk : kp.getD i false = false) : World K G kp (σ.set i o) (ρ.set i .gone) vs ds H := by
  obtain ⟨A, F, f⟩ := W
  have r : Reps K H F ((vs ++ sv σ).set (vs.length + i) (o.getD .non)) ((ds ++ ρ).set (vs.length + i) .gone) A := (f.reps.push .gone).replace (i := vs.length + i)
  have e2 : (ds ++ ρ).set (vs.length + i) .gone = ds ++ ρ.set i .gone := by rw [f.lv, set_app]
  have e1 : (vs ++ sv σ).set (vs.length + i) (o.getD .non) = vs ++ sv (σ.set i o) := by rw [set_app, sv_set]
  rw [e1, e2] at r
  refine ⟨A, F, r, f.lv, by rw [List.length_set, List.length_set]; exact f.ls, by rw [List.length_set]; exact f.sn, fun j hj => ?_, f.sep, f.own, f.trk, f.src, f.srf, f.fr, f.al, f.tab, fun j hj => ?_⟩
  · by_cases e : i = j
    · subst e
      by_cases hl : i < σ.length
      · rw [List.getElem?_set_self (by rw [← f.ls]; exact hl)]
      · rw [List.getElem?_eq_none (by simpa using hl)] at hj; cases hj
    · rw [List.getElem?_set_ne e] at hj ⊢; exact f.non j hj
  · have ne : i ≠ j := fun e => by
      rw [← e, hk] at hj
      cases hj
    rw [List.getElem?_set_ne ne]
    exact f.kps j hj
theorem wipeD_gone : ∀ {own : List Nat} {ρ : List D} {i : Nat}, (∀ d, ρ[i]? = some d → d = .gone) → ∀ d, (wipeD ρ own)[i]? = some d → d = .gone
  | [], _, _, h => h
  | v :: vs, ρ, i, h => wipeD_gone (own := vs) fun d hd => by
    by_cases e : v = i
    · subst e
      obtain ⟨hl, q⟩ := List.getElem?_eq_some_iff.mp hd
      rw [List.getElem_set_self] at q
      exact q.symm
    · rw [List.getElem?_set_ne e] at hd; exact h d hd
theorem set_gone {ρ : List D} {i : Nat} (h : ∀ d, ρ[i]? = some d → d = .gone) : ρ.set i .gone = ρ := by
  refine List.ext_getElem? fun j => ?_
  by_cases e : i = j
  · subst e
    cases hr : ρ[i]? with
    | none => rw [List.getElem?_eq_none (by rw [List.length_set]; exact List.getElem?_eq_none_iff.mp hr)]
    | some d =>
      rw [List.getElem?_set_self (List.getElem?_eq_some_iff.mp hr).1, h d hr]
  · rw [List.getElem?_set_ne e]
theorem World.wiped : ∀ {own : List Nat} {ρ : List D}, World K G kp σ ρ vs ds H → (∀ v ∈ own, kp.getD v false = false) → World K G kp (wipe σ own) (wipeD ρ own) vs ds H
  | [], _, W, _ => W
  | v :: own, ρ, W, h => by
    have W1 := World.wiped (own := own) (W.forget (i := v)) fun w hw => h w (List.mem_cons_of_mem _ hw)
    have W2 := W1.reslot (i := v) (o := none) (h v List.mem_cons_self)
    have e : (wipeD (ρ.set v .gone) own).set v .gone = wipeD (ρ.set v .gone) own := set_gone (wipeD_gone fun d hd => by
      obtain ⟨hl, q⟩ := List.getElem?_eq_some_iff.mp hd
      rw [List.getElem_set_self] at q
      exact q.symm)
    rw [e] at W2
    exact W2
theorem World.unwiped : ∀ {own : List Nat} {ρ : List D}, World K G kp (wipe σ own) ρ vs ds H → (∀ v ∈ own, kp.getD v false = false) → World K G kp σ (wipeD ρ own) vs ds H
  | [], _, W, _ => W
  | v :: own, ρ, W, h => by
    refine World.unwiped (own := own) (ρ := ρ.set v .gone) ?_ fun w hw => h w (List.mem_cons_of_mem _ hw)
    have W1 : World K G kp ((wipe σ own).set v none) ρ vs ds H := W
    by_cases hl : v < (wipe σ own).length
    · have W2 := W1.reslot (i := v) (o := (wipe σ own)[v]) (h v List.mem_cons_self)
      rw [List.set_set, List.set_getElem_self] at W2
      exact W2
    · rw [List.set_eq_of_length_le (by omega)] at W1
      exact W1.forget
/-- an item appended to the list that stands below -/
theorem World.append_ (W : World K G kp σ ρ (v :: (us ++ w :: vs)) (d :: (es ++ .lst .own acc :: ds)) H) (l : us.length = es.length) : ∃ (a : Addr) (ws : List V), w = .ref a ∧ H a = some (.lst ws) ∧ ws.length = acc.length ∧ World K G kp σ ρ (us ++ w :: vs) (es ++ .lst .own (acc ++ [d]) :: ds) (upd H a (.lst (ws ++ [v]))) := by
  obtain ⟨a, ws, e, h, lw, mk⟩ := World.relist (xs := v :: us) (fs := d :: es) W (by simp [l])
  refine ⟨a, ws, e, h, lw, mk us es (ws ++ [v]) (acc ++ [d]) l (by simp [lw]) fun F B r => ?_⟩
  have q := Reps.tor (us := us ++ ws) (es := es ++ acc) (vs := []) (ds := []) (v := v) (d := d) (by simp [l, lw]) (by simpa using r)
  simpa using q
end
/-! ### the rule -/
structure DTs (X : Cx) (G : Gm) (kp : List Bool) (es : List Expr) (w : WT) : Prop where
  mono : ∀ ρ P P', (∀ d r, P d r → P' d r) → w ρ P → w ρ P'
  run : PTs X es (tDT X.K G kp w)
def wYes : WT := fun ρ Q => Q true ρ
section
variable {X : Cx} {G : Gm} {kp : List Bool} {e elt tg iter : Expr} {ifs : List Expr} {scope : Scope} {own : List (Str × Nat)} {pos : Pos} {sh : Bool} {wi : WI} {g : WGs} {wt : WT} {we : WE}
theorem pts_imp {X : Cx} {e : List Expr} {t t' : TT} (h : PTs X e t) (i : ∀ σ H Q, t' σ H Q → t σ H Q) : PTs X e t' := ⟨fun pins s σ H Q I q => h.run pins s σ H Q I (i σ H Q q)⟩
theorem dts_nil : DTs X G kp [] wYes := ⟨fun ρ P P' hp q => hp _ _ q, pts_imp pts_nil fun σ H Q ⟨ρ, vs, ds, W, q⟩ => q H W⟩
theorem dts_one (h : DT X G kp e wt) : DTs X G kp [e] wt := ⟨h.mono, pts_one h.run⟩
def lcL (g : WGs) (wt : WT) (we : WE) (own : List Nat) (Q : List D → List D → Prop) : List (List D) → List D → List D → Prop
  | [], acc, ρ => Q acc ρ
  | its :: r, acc, ρ => g its ρ fun ρ1 => wt ρ1 fun b ρ2 => if b = true then we ρ2 fun d ρ3 => lcL g wt we own Q r (acc ++ [d]) (wipeD ρ3 own) else lcL g wt we own Q r acc (wipeD ρ2 own)
def wLc (wi : WI) (g : WGs) (wt : WT) (we : WE) (own : List Nat) : WE := fun ρ Q => wi ρ fun items _ r => items.length ≤ sizeLine ∧ lcL g wt we own (fun acc ρ' => Q (.lst .own acc) (wipeD ρ' own)) items [] (wipeD r own)
theorem lcL_mono (mg : ∀ d ρ P P', (∀ r, P r → P' r) → g d ρ P → g d ρ P') (mt : ∀ ρ P P', (∀ d r, P d r → P' d r) → wt ρ P → wt ρ P') (me : ∀ ρ P P', (∀ d r, P d r → P' d r) → we ρ P → we ρ P') {own : List Nat} {Q Q' : List D → List D → Prop} (h : ∀ a r, Q a r → Q' a r) :
    ∀ (l : List (List D)) acc ρ, lcL g wt we own Q l acc ρ → lcL g wt we own Q' l acc ρ
  | [], acc, ρ, q => h _ _ q
  | its :: r, acc, ρ, q => mg _ _ _ _ (fun ρ1 z => mt _ _ _ (fun b ρ2 z => by
    cases b with
    | true => exact me _ _ _ (fun d ρ3 z => lcL_mono mg mt me h r _ _ z) z
    | false => exact lcL_mono mg mt me h r _ _ z) z) q
theorem lc_conv {kp' : List Bool} {X' : Cx} (hK : X'.K = X.K) (hi : DI X G kp sh tg iter wi) (ow : List Nat) (hkp : ∀ v ∈ ow, kp.getD v false = false) (hkp' : ∀ v ∈ ow, kp'.getD v false = false) (hall : ∀ j, j < G.n → j ∉ ow → kp'.getD j false = true)
    (mg : ∀ d ρ P P', (∀ r, P r → P' r) → g d ρ P → g d ρ P') (mt : ∀ ρ P P', (∀ d r, P d r → P' d r) → wt ρ P → wt ρ P') (me : ∀ ρ P P', (∀ d r, P d r → P' d r) → we ρ P → we ρ P') (σ : Sl) (H : Hp) (Q : VK) (q : tDE X.K G kp (wLc wi g wt we ow) σ H Q) :
    tLc (tDI X.K G kp sh wi) (tDGI X.K (G.at_ (wipe σ ow)) kp' sh g) (tDT X.K (G.at_ (wipe σ ow)) kp' wt) (tDE X.K (G.at_ (wipe σ ow)) kp' we) ow σ H Q := by
  obtain ⟨ρ, vs, ds, W, q⟩ := q
  have hn := W.sn
  have kold := W.kps
  refine ⟨ρ, vs, ds, W, hi.mono _ _ _ (fun items ds0 r z J us H1 l W1 hy => ?_) q⟩
  obtain ⟨hz, z⟩ := z
  intro Dn hD
  -- the state at a turn
  let St : Nat → Hp → Prop := fun i H' => ∃ ρ' acc, acc.length ≤ i ∧ World X.K (G.at_ (wipe σ ow)) kp' (wipe σ ow) ρ' (us ++ .ref Dn :: vs) (ds0 ++ .lst .own acc :: ds) H' ∧ lcL g wt we ow (fun acc ρ' => ∀ v H', World X.K G kp σ (wipeD ρ' ow) (v :: vs) (.lst .own acc :: ds) H' → Q v H') (items.drop i) acc ρ'
  refine ⟨fun i m H' => m = items.length - i ∧ i ≤ items.length ∧ St i H', ⟨items.length, by simp, Nat.zero_le _, wipeD r ow, [], Nat.zero_le _, ?_, by simpa using z⟩, ?_⟩
  · have W2 : World X.K G kp σ r (.ref Dn :: (us ++ vs)) (.lst .own [] :: (ds0 ++ ds)) (upd H1 Dn (.lst [])) := World.newLst (us := []) (es := []) W1 rfl hD
    exact ((W2.tor l).wiped hkp).into
  · rintro i m H' ⟨rfl, hi', ρ', acc, ha, W', z'⟩
    obtain ⟨y1, y2⟩ := hy _ _ i _ ρ' _ _ H' W'
    by_cases hlt : i < items.length
    · obtain ⟨its, hits⟩ : ∃ its, items[i]? = some its := ⟨_, List.getElem?_eq_getElem hlt⟩
      obtain ⟨go, y3⟩ := y2 its hits
      rw [List.drop_eq_getElem_cons hlt, (List.getElem?_eq_some_iff.mp hits).2] at z'
      have keep : ∀ {σ2 : Sl} {ρ2 : List D} {vs2 : List V} {ds2 : List D} {H2 : Hp}, World X.K (G.at_ (wipe σ ow)) kp' σ2 ρ2 vs2 ds2 H2 → wipe σ2 ow = wipe σ ow := fun {σ2 ρ2 vs2 ds2 H2} W2 => by
        refine wipe_eq (by rw [hn]; exact W2.sn) fun j hj hl => ?_
        rw [W2.kps j (hall j (by rw [← hn]; exact hl) hj)]
        exact wipe_out hj
      have next : ∀ {σ2 : Sl} {ρ2 : List D} {acc2 : List D} {H2 : Hp}, World X.K (G.at_ (wipe σ ow)) kp' σ2 ρ2 (us ++ .ref Dn :: vs) (ds0 ++ .lst .own acc2 :: ds) H2 → acc2.length ≤ i + 1 → lcL g wt we ow (fun acc ρ' => ∀ v H', World X.K G kp σ (wipeD ρ' ow) (v :: vs) (.lst .own acc :: ds) H' → Q v H') (items.drop (i + 1)) acc2 (wipeD ρ2 ow) → St (i + 1) H2 := fun {σ2 ρ2 acc2 H2} W2 hl z2 => by
        refine ⟨_, acc2, hl, ?_, z2⟩
        have W3 := W2.wiped hkp'
        rw [keep W2] at W3
        exact W3
      refine .inr ⟨go, St (i + 1), fun H2 h2 => ⟨items.length - (i + 1), by omega, rfl, hlt, h2⟩, fun x H2 hy2 => ?_⟩
      obtain ⟨xs, lx, hsh, W2⟩ := y3 x H2 hy2
      refine ⟨ρ', xs, its, _, _, lx, hsh, W2, mg _ _ _ _ (fun ρ1 z1 σ3 H3 W3 => ⟨keep W3, ρ1, _, _, W3, mt _ _ _ (fun b ρ2 z2 H4 W4 => ?_) z1⟩) z'⟩
      cases b with
      | false => exact next W4 (by omega) z2
      | true =>
        refine ⟨ρ2, _, _, W4, me _ _ _ (fun d ρ3 z3 v H5 W5 => ?_) z2⟩
        obtain ⟨a, ws, ea, hw, lw, W6⟩ := W5.append_ l
        cases ea
        exact ⟨ws, hw, by omega, next W6 (by simp; omega) z3⟩
    · have e : i = items.length := by omega
      subst e
      rw [List.drop_length] at z'
      refine .inl ⟨y1 rfl, z' _ H' (World.unwiped (World.back (W'.dropN l) fun j hj => ?_) hkp)⟩
      rw [wipe_out fun hm => by rw [hkp j hm] at hj; cases hj]
      exact kold j hj
theorem wLc_mono (hi : DI X G kp sh tg iter wi) (mg : ∀ d ρ P P', (∀ r, P r → P' r) → g d ρ P → g d ρ P') (mt : ∀ ρ P P', (∀ d r, P d r → P' d r) → wt ρ P → wt ρ P') (me : ∀ ρ P P', (∀ d r, P d r → P' d r) → we ρ P → we ρ P') {ow : List Nat} : ∀ ρ P P', (∀ d r, P d r → P' d r) → wLc wi g wt we ow ρ P → wLc wi g wt we ow ρ P' :=
  fun ρ P P' hp q => hi.mono _ _ _ (fun items ds0 r z => ⟨z.1, lcL_mono mg mt me (fun a r z => hp _ _ z) _ _ _ z.2⟩) q
/-- the mask inside a block: all but the block's own slots stay -/
def mask (n : Nat) (ow : List Nat) : List Bool := (List.range n).map fun j => !(ow.contains j)
theorem mask_own {n : Nat} {ow : List Nat} : ∀ v ∈ ow, (mask n ow).getD v false = false := fun v hv => by
  unfold mask
  rw [List.getD_eq_getElem?_getD, List.getElem?_map]
  by_cases h : v < n
  · rw [List.getElem?_range h]
    simp [hv]
  · rw [List.getElem?_eq_none (by simpa using h)]
    rfl
theorem mask_all {n : Nat} {ow : List Nat} : ∀ j, j < n → j ∉ ow → (mask n ow).getD j false = true := fun v h hv => by
  unfold mask
  rw [List.getD_eq_getElem?_getD, List.getElem?_map, List.getElem?_range h]
  simp [hv]
theorem tLc_imp {wi : TI} {g g' : TG} {tt tt' : TT} {te te' : TE} {vs : List Nat} (hg : g = g') (ht : tt = tt') (he : te = te') (σ : Sl) (H : Hp) (Q : VK) (q : tLc wi g tt te vs σ H Q) : tLc wi g' tt' te' vs σ H Q := by
  subst hg ht he; exact q
theorem de_lc (kp' : List Bool) (hc : X.calm = true) (hN : X.N.Nodup) (hi : DI X G kp sh tg iter wi) (ok : BlkOk X.N X.env.scope scope own) (hm : kp' = mask X.N.length (own.map (·.2))) (hn : G.n = X.N.length) (hkp : ∀ v ∈ own.map (·.2), kp.getD v false = false)
    (hg : ∀ (G' : Gm), G'.T = G.T → G'.n = G.n → ∀ (s : Shared) (H : Hp) (C : Addr) (cl : List (Str × Addr)) (fp : List Addr), DGI (X.blk s H scope (compEnvC scope cl C X.env) fp) G' kp' sh tg g) (ht : ∀ (G' : Gm), G'.T = G.T → G'.n = G.n → ∀ (s : Shared) (H : Hp) (C : Addr) (cl : List (Str × Addr)) (fp : List Addr), DTs (X.blk s H scope (compEnvC scope cl C X.env) fp) G' kp' ifs wt)
    (he : ∀ (G' : Gm), G'.T = G.T → G'.n = G.n → ∀ (s : Shared) (H : Hp) (C : Addr) (cl : List (Str × Addr)) (fp : List Addr), DE (X.blk s H scope (compEnvC scope cl C X.env) fp) G' kp' elt we) (hs : ∀ x, foldedSetIterable iter X.env x = pure x := by intro _; rfl) :
    DE X G kp (.ListComp elt [⟨tg, iter, ifs, 0⟩] scope pos) (wLc wi g wt we (own.map (·.2))) := by
  subst hm
  have mg := (hg G rfl rfl X.s_0 X.H_0 0 [] []).mono
  have mt := (ht G rfl rfl X.s_0 X.H_0 0 [] []).mono
  have me := (he G rfl rfl X.s_0 X.H_0 0 [] []).mono
  exact ⟨wLc_mono hi mg mt me, ⟨fun pins s σ H Q I q => (pe_lc (X := X) hc hN hi.run ok (fun s H C cl fp => (hg (G.at_ (wipe σ (own.map (·.2)))) rfl rfl s H C cl fp).run) (fun s H C cl fp => (ht (G.at_ (wipe σ (own.map (·.2)))) rfl rfl s H C cl fp).run) (fun s H C cl fp => (he (G.at_ (wipe σ (own.map (·.2)))) rfl rfl s H C cl fp).run) hs).run pins s σ H Q I
    (lc_conv (X' := X) rfl hi _ hkp mask_own (fun j hj => mask_all j (by rw [← hn]; exact hj)) mg mt me σ H Q q)⟩⟩
theorem ds_setLc (kp' : List Bool) {i : Nat} {y : Str} {py spos : Pos} (hc : X.calm = true) (hN : X.N.Nodup) (hy : X.N[i]? = some y) (hyl : X.env.scope.names.lookup y = some .local)
    (hsw : swapsWith (.ListComp elt [⟨tg, iter, ifs, 0⟩] scope pos) (some (.Name y py)) spos.line X.env = pure true) (hi : DI X G kp sh tg iter wi) (ok : BlkOk X.N X.env.scope scope own) (hm : kp' = mask X.N.length (own.map (·.2))) (hn : G.n = X.N.length) (hkp : ∀ v ∈ own.map (·.2), kp.getD v false = false)
    (hg : ∀ (G' : Gm), G'.T = G.T → G'.n = G.n → ∀ (s : Shared) (H : Hp) (C : Addr) (cl : List (Str × Addr)) (fp : List Addr), DGI (X.blk s H scope (compEnvC scope cl C X.env) fp) G' kp' sh tg g) (ht : ∀ (G' : Gm), G'.T = G.T → G'.n = G.n → ∀ (s : Shared) (H : Hp) (C : Addr) (cl : List (Str × Addr)) (fp : List Addr), DTs (X.blk s H scope (compEnvC scope cl C X.env) fp) G' kp' ifs wt)
    (he : ∀ (G' : Gm), G'.T = G.T → G'.n = G.n → ∀ (s : Shared) (H : Hp) (C : Addr) (cl : List (Str × Addr)) (fp : List Addr), DE (X.blk s H scope (compEnvC scope cl C X.env) fp) G' kp' elt we) (hk : kp.getD i false = false := by rfl) (hs : ∀ x, foldedSetIterable iter X.env x = pure x := by intro _; rfl) :
    DS X G kp (.Assign [.Name y py] (.ListComp elt [⟨tg, iter, ifs, 0⟩] scope pos) spos) (wsA (wLc wi g wt we (own.map (·.2))) (gN i)) := by
  subst hm
  have mg := (hg G rfl rfl X.s_0 X.H_0 0 [] []).mono
  have mt := (ht G rfl rfl X.s_0 X.H_0 0 [] []).mono
  have me := (he G rfl rfl X.s_0 X.H_0 0 [] []).mono
  refine ⟨fun A B ρ hl q => wLc_mono hi mg mt me _ _ _ (fun d r z => hl.nx _ z) q, ⟨fun pins s σ H E I q => (ps_setLc (X := X) hc hN hy hyl hsw hi.run ok (fun s H C cl fp => (hg (G.at_ (wipe σ (own.map (·.2)))) rfl rfl s H C cl fp).run) (fun s H C cl fp => (ht (G.at_ (wipe σ (own.map (·.2)))) rfl rfl s H C cl fp).run) (fun s H C cl fp => (he (G.at_ (wipe σ (own.map (·.2)))) rfl rfl s H C cl fp).run) hs).run pins s σ H E I
    (lc_conv (X' := X) rfl hi _ hkp mask_own (fun j hj => mask_all j (by rw [← hn]; exact hj)) mg mt me σ H _ ?_)⟩⟩
  obtain ⟨ρ, vs, ds, W, q⟩ := q
  exact ⟨ρ, vs, ds, W, wLc_mono hi mg mt me _ _ _ (fun d r z v H' W' => z _ H' (W'.store hk)) q⟩
end
end Bd

/-! Bd13: calls of the program's own defs. -/
namespace Bd
open PySem PySem.Spec PyProof.Rows L2
/-- an exception: its class's name, its numbers -/
def XIs (K : PySem.W.Frag) (c : Str) (ns : List Int) (cls : Value) (d : Option Addr) (H : Hp) : Prop := cls = .ref (He.ga K c) ∧ (ns = [] → d = none)
abbrev XD := Str → List Int → List D → Prop
abbrev SD := List D → (D → List D → Prop) → XD → Prop
def SMono (S : SD) : Prop := ∀ es P P' E E', (∀ d r, P d r → P' d r) → (∀ c n r, E c n r → E' c n r) → S es P E → S es P' E'
def spD (K : PySem.W.Frag) (T : List (Addr × Str)) (S : SD) : Sp := fun vs H Q E => ∃ A F es, Enter K T vs es H A F ∧
  S es (fun z es' => ∀ v H', World K ⟨H, A, F, T, vs.map some, 0⟩ [] [] [] (v :: vs) (z :: es') H' → Q v H')
    (fun c ns es' => ∀ cls d H', World K ⟨H, A, F, T, vs.map some, 0⟩ [] [] [] vs es' H' → XIs K c ns cls d H' → E cls d H')
structure FnG (P : Program) (w : PySem.World) (K : PySem.W.Frag) (mg : Str → Option Value) (base : Heap) (k : Nat) (f : Addr) (fd : FuncData) (ps : List Str) (sp : Sp) : Prop where
  len : ∀ vs H Q E, sp vs H Q E → vs.length = ps.length
  run : ∀ (A : Around) (outer : List Env) (s : Shared) (H : Hp) (args : Args) (us : List Value) (vs : List V) (Q : VK) (E : XK), Room k A → A.guards = some [] → Env0 P w K mg base A outer s H → BindsTo s fd args (ps.zip us) → Vals vs us → sp vs H Q E →
    codeAny (model P w) A (.call (.ref f) args) (CR (L2.CX P w) outer P w H s Q E) s
theorem FnG.mono {P : Program} {w : PySem.World} {K : PySem.W.Frag} {mg : Str → Option Value} {base : Heap} {j k : Nat} {f : Addr} {fd : FuncData} {ps : List Str} {sp : Sp} (F : FnG P w K mg base j f fd ps sp) (h : j ≤ k) : FnG P w K mg base k f fd ps sp :=
  ⟨F.len, fun A outer s H args us vs Q E hr => F.run A outer s H args us vs Q E (hr.mono h)⟩
/-- what X wants of exceptions is what Ex says -/
def TakesD (X : Cx) (G : Gm) (kp : List Bool) (Ex : XD) : Prop := Takes X fun cls d σ H => ∃ ρ vs ds c ns, World X.K G kp σ ρ vs ds H ∧ XIs X.K c ns cls d H ∧ Ex c ns ρ
def noX : XD := fun _ _ _ => False
theorem takes_no {X : Cx} {G : Gm} {kp : List Bool} : TakesD X G kp noX := fun _ _ x => by
  obtain ⟨_, _, _, _, _, _, _, _, _, _, _, _, _, _, _, _, w⟩ := x
  obtain ⟨_, _, _, _, _, _, _, z⟩ := w
  exact z.elim
section
variable {X : Cx} {G : Gm} {kp : List Bool} {k : Nat} {f : Addr} {fd : FuncData} {ps : List Str} {S : SD} {Ex : XD} {x : Str} {p pos : Pos} {e : Expr} {es : List Expr} {wr : WBs} {wa : WA}
theorem run_G {sp : Sp} {E : XK} {pins : List (Addr × Obj)} {σ : Sl} {H : Hp} {s : Shared} {Q : VK} {us : List Value} {vs : List V} (F : FnG X.prog X.w X.K X.mg X.base k f fd ps sp) (hr : Room k X.A) (hgd : X.A.guards = some []) (hb : Binds X.K fd ps []) (hx : PassesAt (L2.CX X.prog X.w) X σ E)
    (I : Inv X pins σ H s) (r : Vals vs us) (h : sp vs H Q E) : wpAny (model X.prog X.w) X.A (call (.ref f) us) (EP X pins σ Q) X.xe s := by
  have hl : us.length = ps.length := by rw [← r.length]; exact F.len _ _ _ _ h
  have b := hb s us I.kIn (by rw [List.append_nil]; exact hl)
  rw [List.append_nil] at b
  refine wpAny_call (codeAny_mono (F.run X.A X.stack s H ⟨us, []⟩ us vs Q E hr hgd I.env0 b r h) fun r1 s1 hq => ?_)
  match r1, hq with
  | .error e, hq => exact hx pins H s e s1 I hq
  | .ok (.ret u), hq => exact I.after hq
def wCallF (S : SD) (Ex : XD) (wr : WBs) : WE := fun ρ Q => wr ρ fun es os r => S es (fun z es' => Q z (gbs os es' r)) fun c ns es' => Ex c ns (gbs os es' r)
theorem wCallF_mono (hS : SMono S) (mr : ∀ ρ P P', (∀ d o r, P d o r → P' d o r) → wr ρ P → wr ρ P') : ∀ ρ P P', (∀ d r, P d r → P' d r) → wCallF S Ex wr ρ P → wCallF S Ex wr ρ P' :=
  fun ρ P P' hp q => mr ρ _ _ (fun es os r z => hS _ _ _ _ _ (fun d r z => hp _ _ z) (fun _ _ _ z => z) z) q
/-- from the arguments' part to the promise -/
theorem sp_of {T : List (Addr × Str)} {σ : Sl} {ρ r : List D} {vs us : List V} {ds es : List D} {os : List (Option Nat)} {H : Hp} {Q : VK} (hS : SMono S) (hT : G.T = T) (l : us.length = es.length) (W : World X.K G kp σ r (us ++ vs) (es ++ ds) H) (hl : Lent σ us os)
    (q : S es (fun z es' => ∀ v H', World X.K G kp σ (gbs os es' r) (v :: vs) (z :: ds) H' → Q v H') fun c ns es' => Ex c ns (gbs os es' r)) :
    spD X.K T S us H Q fun cls d H' => ∃ ρ vs ds c ns, World X.K G kp σ ρ vs ds H' ∧ XIs X.K c ns cls d H' ∧ Ex c ns ρ := by
  subst hT
  obtain ⟨A, F, en, back⟩ := W.call l
  refine ⟨A, F, es, en, hS _ _ _ _ _ (fun z es' q v H' W' => q v H' ?a) (fun c ns es' q cls d H' W' hx => ⟨gbs os es' r, vs, ds, c, ns, ?b, hx, q⟩) q⟩
  case a =>
    have lz : (v :: us).length = (z :: es').length := W'.lv
    have l' : us.length = es'.length := by simpa using lz
    have W2 : World X.K G kp σ r (v :: us ++ vs) (z :: es' ++ ds) H' := back (v :: us) (z :: es') H' lz W'
    exact World.gbs l' (W2.tor l') hl
  case b =>
    have l' : us.length = es'.length := W'.lv
    exact World.gbs l' (back us es' H' l' W') hl
theorem de_callF {T : List (Addr × Str)} (F : FnG X.prog X.w X.K X.mg X.base k f fd ps (spD X.K T S)) (hS : SMono S) (hr : Room k X.A) (hgd : X.A.guards = some []) (hg : Gl X x) (hm : X.mg x = some (.ref f)) (hk : PySem.W.keepIn X.K (.ref f) = true) (hb : Binds X.K fd ps []) (hx : TakesD X G kp Ex) (hT : G.T = T)
    (ha : DBs X G kp (e :: es) wr) (hdb : (x == ("__debug__" : Str)) = false := by decide) (he : starEach (e :: es) X.env = (false, eval e X.env) :: starEach es X.env := by rfl) (hpl : (backTo pos (starEach es X.env)).any (·.1) = false := by rfl) :
    DE X G kp (.Call (.Name x p) (e :: es) [] pos) (wCallF S Ex wr) := by
  refine ⟨wCallF_mono hS ha.mono, ⟨fun pins s σ H Q I h => ?_⟩⟩
  obtain ⟨ρ, vs, ds, W, q⟩ := h
  refine wpAny_Call_Name_kw (ld_glob I hg hm ?_ hdb)
  refine PySem.W.callWith_K (h₀ := X.base) I.ok.mod.kin hk (thn (ha.run.run pos pins s σ H (fun us H1 => spD X.K T S us H1 Q fun cls d H' => ∃ ρ vs ds c ns, World X.K G kp σ ρ vs ds H' ∧ XIs X.K c ns cls d H' ∧ Ex c ns ρ) I ⟨ρ, vs, ds, W, ha.mono _ _ _ (fun es os r z us H' l W' hl => sp_of (ρ := ρ) hS hT l W' hl z) q⟩) fun us s1 ⟨vs, H1, I1, r, q⟩ => ⟨I1.kIn, ?_⟩) he hpl
  exact run_G F hr hgd hb (passAt (W := fun cls d σ H => ∃ ρ vs ds c ns, World X.K G kp σ ρ vs ds H ∧ XIs X.K c ns cls d H ∧ Ex c ns ρ) hx σ) I1 r q
end
/-! ### a def's own proof -/
theorem guards_deeper {A : Around} {env : Env} (h : A.guards = some []) : (A.deeper env).guards = some [] := h
abbrev FX (P : Program) (w : PySem.World) (K : PySem.W.Frag) (mg : Str → Option Value) (base : Heap) (N : List Str) (qual : Str) (scope : Scope) (f : Addr) (cdv : Value) (A : Around) (outer : List Env) (s : Shared) (H : Hp) (E : XK) : Cx := cxOf (L2.CX P w) P w K mg base N qual scope f cdv A outer s H E
theorem FunD.okG {P : Program} {w : PySem.World} {K : PySem.W.Frag} {mg : Str → Option Value} {base : Heap} {x qual : Str} {params : Arguments} {body : List Stmt} {scope : Scope} {kws : List (Str × V)} {f : Addr} {fd : FuncData} {N ps : List Str} {k : Nat} {S : SD} {T : List (Addr × Str)} {kp : List Bool} {wd : XD → WS}
    (F : FunD K x qual params body scope [] kws f fd) (Sc : FnScope N ps scope) (hkp : kp.length = ps.length) (hS : ∀ ds Q E, S ds Q E → ds.length = ps.length)
    (hw : ∀ ds Q E, S ds Q E → wd (fun c ns ρ => E c ns (outs kp ρ)) { nx := fun ρ => Q .non (outs kp ρ), rt := fun d ρ => Q d (outs kp ρ) } (ds ++ List.replicate (N.length - ps.length) .gone))
    (hbody : ∀ (cdv : Value) (A : Around) (outer : List Env) (s : Shared) (H : Hp) (E : XK) (G : Gm) (Ex : XD), Room k (FX P w K mg base N qual scope f cdv A outer s H E).A → (FX P w K mg base N qual scope f cdv A outer s H E).A.guards = some [] → PySem.W.codeIn K cdv qual = true → G.T = T → G.n = N.length →
      TakesD (FX P w K mg base N qual scope f cdv A outer s H E) G kp Ex → DSs (FX P w K mg base N qual scope f cdv A outer s H E) G kp body (wd Ex)) : FnG P w K mg base (k + 1) f fd ps (spD K T S) := by
  obtain ⟨oc, od, dV, kV, doc, pm, an, cdv, ct, osl, rfl, lk, hcd, _, _⟩ := F.ex
  have hlN : ps.length ≤ N.length := by
    have := congrArg List.length Sc.pre
    rw [List.length_take] at this
    omega
  refine ⟨fun vs H Q E ⟨A, F, es, en, q⟩ => ?_, fun A outer s H args us vs Q E hr hgd he hb hv hsp => ?_⟩
  · rw [en.1.length]
    exact hS _ _ _ q
  · obtain ⟨A1, F1, es, en, q⟩ := hsp
    have lv : vs.length = ps.length := by rw [en.1.length]; exact hS _ _ _ q
    have lv2 : vs.length = es.length := en.1.length
    refine LamX.run_ofS lk hcd Sc hr he hb hv lv fun hr2 => ?_
    let G : Gm := ⟨H, A1, F1, T, vs.map some, N.length⟩
    let Ex : XD := fun c ns ρ => ∀ cls d H', World K ⟨H, A1, F1, T, vs.map some, 0⟩ [] [] [] vs (outs kp ρ) H' → XIs K c ns cls d H' → E cls d H'
    have fin : ∀ {vs2 : List V} {ds2 : List D} {σ : Sl} {ρ : List D} {H' : Hp}, World K G kp σ ρ vs2 ds2 H' → World K ⟨H, A1, F1, T, vs.map some, 0⟩ [] [] [] (vs2 ++ vs) (ds2 ++ outs kp ρ) H' := fun {vs2 ds2 σ ρ H'} W => World.end_ W (by rw [hkp, lv]) (by rw [lv]; exact hlN)
    have tk : TakesD (FX P w K mg base N qual scope f cdv A outer s H E) G kp Ex := by
      refine Takes.imp (takes_of (E := E) rfl rfl rfl rfl) fun c d σ H' h => ?_
      obtain ⟨ρ, vs2, ds2, c, ns, W, hx, hE⟩ := h
      refine hE _ _ _ ?_ hx
      have W1 : World K G kp σ ρ vs2 ds2 H' := W
      have W2 : World K G kp σ ρ [] [] H' := World.dropN (us := vs2) (es := ds2) (vs := []) (ds := []) (by simpa using W1) W1.lv
      exact fin W2
    have B := hbody cdv A outer s H E G Ex hr2 (guards_deeper hgd) hcd rfl rfl tk
    refine ⟨_, B.run, ?_⟩
    have W0 : World K G kp (L2.start N vs) (es ++ List.replicate (N.length - ps.length) .gone) [] [] H := by
      refine World.begin_ en (by rw [lv]) (fun j hj => ?_) (by rw [lv]; exact hlN)
      by_cases hl : j < vs.length
      · exact hl
      · rw [List.getD_eq_getElem?_getD, List.getElem?_eq_none (by rw [hkp, ← lv]; omega)] at hj
        cases hj
    refine ⟨_, [], [], W0, B.mono _ _ _ ?_ (hw es _ _ q)⟩
    refine ⟨fun ρ z σ' H' W => ?_, fun d ρ z v σ' H' W => z v H' (fin W), fun _ z => z.elim, fun _ z => z.elim⟩
    exact z .non H' (fin W.non)
end Bd

set_option maxHeartbeats 2000000
/-! Bd14: a law's end over defs proved by FnG. -/
namespace Bd
open PySem PySem.Spec PyProof.Rows L2
theorem law_callG {P : Program} {w : PySem.World} {K : PySem.W.Frag} {mg mb : Str → Option Value} {k : Nat} {fa a : Addr} {cs : List (Addr × Addr)} {fd : FuncData} {x : Str} {sp : Sp} {z1 : Shared} {us : List Value} {ns : List Int}
    (kin : K.In z1.heap) (gns : z1.heap.Ns mainGlobals mg) (bns : z1.heap.Ns builtinsNs mb) (bnb : ∀ x : Str, x ≠ "__name__" → mb x = bootBuiltins x) (lim : z1.heap.NoLimit) (hgen : z1.gens = #[])
    (tabs : ∀ q ∈ cs, z1.heap.get? q.2 = some { cls := .none, data := .fields #[] }) (tabK : ∀ q ∈ cs, K.lookup q.2 = none) (heads : ∀ q ∈ cs, PySem.W.CodeHd z1.heap q.1 q.2)
    (bmod : ∃ (bm : Addr) (ob : Obj), mg "__builtins__" = some (.ref bm) ∧ bm ≠ builtinsNs ∧ z1.heap.get? bm = some ob ∧ ob.cls = .type "module" ∧ ob.dict = some builtinsNs ∧ ob.data = .plain)
    (scr : z1.heap.get? a = some { cls := .type "list", data := .seq us.toArray }) (isI : IntsAre us ns) (short : ns.length ≤ sizeLine) (room : Room k callerA)
    (F : ∀ base : Heap, K.In base → base.Ns mainGlobals mg → (∀ q ∈ cs, LamX.TabB base mg q.1 q.2) → FnG P w K mg base k fa fd [x] sp) (bind1 : ∀ (s : Shared) (u : Value), BindsTo s fd ⟨[u], []⟩ [(x, u)])
    (ask : ∀ H : Hp, (∀ q ∈ cs, H q.2 = some (.tbl #[])) → CnL K H a (ns.map V.int) → sp [.ref a] H (fun v _ => v = .bl true) fun _ _ _ => False) :
    codeAny (model P w) callerA (.call (.ref fa) ⟨[.ref a], []⟩) (fun r s' => r = .ok (.ret (.bool true)) ∧ OldK z1.heap s'.heap ∧ s'.os = z1.os ∧ AllBare s'.gens) z1 := by
  classical
  have vals := vals_ints isI
  have len1 := isI.length
  let Tb : List Addr := cs.map (·.2)
  have inTb : ∀ q ∈ cs, q.2 ∈ Tb := fun q hq => List.mem_map_of_mem hq
  have ofTb : ∀ b ∈ Tb, ∃ q ∈ cs, q.2 = b := fun b hb => List.mem_map.mp hb
  have aTb : a ∉ Tb := fun hb => by
    obtain ⟨q, hq, e⟩ := ofTb a hb
    have e2 := tabs q hq
    rw [e, scr] at e2
    exact absurd (congrArg Obj.data (Option.some.inj e2)) (fun z => nomatch z)
  let sO : HO := .frz { cls := .type "list", data := .seq us.toArray } (.lst (ns.map V.int))
  let H : Hp := fun b => if b = a ∧ K.lookup a = none then some sO else if b ∈ Tb then some (.tbl #[]) else none
  have atTb : ∀ b ∈ Tb, H b = some (.tbl #[]) := fun b hb => by
    have n : ¬ (b = a ∧ K.lookup a = none) := fun z => aTb (z.1 ▸ hb)
    show (if _ then _ else _) = _
    rw [if_neg n, if_pos hb]
  have cases_ : ∀ b u, H b = some u → (b = a ∧ K.lookup a = none ∧ u = sO) ∨ (b ∈ Tb ∧ u = .tbl #[]) := fun b u hu => by
    by_cases h1 : b = a ∧ K.lookup a = none
    · have e : H b = some sO := if_pos h1
      rw [hu] at e
      exact .inl ⟨h1.1, h1.2, Option.some.inj e⟩
    · have e : H b = if b ∈ Tb then some (.tbl #[]) else none := if_neg h1
      by_cases h2 : b ∈ Tb
      · rw [hu, if_pos h2] at e
        exact .inr ⟨h2, Option.some.inj e⟩
      · rw [hu, if_neg h2] at e
        cases e
  have untracked : ∀ {b : Addr} {o : Obj}, z1.heap.get? b = some o → (∀ vs n, o.data ≠ .seq vs n) → o.data ≠ .fields #[] → H b = none := fun {b o} e n1 n2 => by
    cases hu : H b with
    | none => rfl
    | some u =>
      rcases cases_ b u hu with ⟨rfl, _, _⟩ | ⟨hb, _⟩
      · rw [scr] at e
        cases e
        exact (n1 _ _ rfl).elim
      · obtain ⟨q, hq, rfl⟩ := ofTb b hb
        rw [tabs q hq] at e
        cases e
        exact (n2 rfl).elim
  have ofDict : ∀ {b : Addr} {o : Obj} {es : Array DictEntry} {ep : Nat}, z1.heap.get? b = some o → o.data = .dict es ep → H b = none := fun e d => untracked e (fun _ _ z => by rw [d] at z; cases z) fun z => by rw [d] at z; cases z
  have nsOf : ∀ {b : Addr} {m : Str → Option Value}, z1.heap.Ns b m → (hidT z1.heap H).Ns b m := fun ⟨o, es, ep, e, d, r⟩ => ⟨o, es, ep, hidT_get e (ofDict e d), d, r⟩
  have kin2 : K.In (hidT z1.heap H) := fun b o e => hidT_get (kin b o e) <| by
    cases hu : H b with
    | none => rfl
    | some u =>
      rcases cases_ b u hu with ⟨rfl, hn, _⟩ | ⟨hb, _⟩
      · rw [hn] at e; cases e
      · obtain ⟨q, hq, rfl⟩ := ofTb b hb
        rw [tabK q hq] at e; cases e
  have modl : L2.Mod K mg (hidT z1.heap H) := ⟨kin2, nsOf gns, ⟨mb, nsOf bns, bnb⟩, let ⟨m, h1, h2⟩ := lim; ⟨m, nsOf h1, h2⟩⟩
  have tabB : ∀ q ∈ cs, LamX.TabB (hidT z1.heap H) mg q.1 q.2 := fun q hq => by
    have here := tabs q hq
    refine ⟨?_, ?_, fun z => ?_⟩
    · obtain ⟨o, vs, file, tf, flags, tg, inF, text, tt, e1, r1, r2, r3, more⟩ := heads q hq
      refine ⟨o, vs, file, tf, flags, tg, inF, text, tt, hidT_get e1 (untracked e1 (fun _ _ z => by rw [r2] at z; cases z) fun z => ?_), r1, r2, r3, more⟩
      rw [r2] at z
      cases z
      simp at r3
    · obtain ⟨bm, ob, m1, m2, m3, m4, m5, m6⟩ := bmod
      refine ⟨bm, ob, m1, m2, fun z => ?_, fun z => ?_, hidT_get m3 (untracked m3 (fun _ _ z => by rw [m6] at z; cases z) fun z => by rw [m6] at z; cases z), m4, m5, m6⟩
      · obtain ⟨o, es, ep, e, d, _⟩ := gns
        rw [z, e] at m3
        cases m3
        rw [d] at m6
        cases m6
      · rw [z, here] at m3
        cases m3
        cases m6
    · obtain ⟨o, es, ep, e, d, _⟩ := gns
      rw [z, here] at e
      cases e
      cases d
  have hok : HOk P w H z1.heap := fun b u hu => by
    rcases cases_ b u hu with ⟨rfl, _, rfl⟩ | ⟨hb, rfl⟩
    · exact ⟨scr, by rw [List.length_map]; exact short, us, _, vals, scr⟩
    · obtain ⟨q, hq, rfl⟩ := ofTb b hb
      exact tabs q hq
  have env0 : Env0 P w K mg (hidT z1.heap H) callerA [] z1 H := ⟨rfl, modl, fun b o e => of_hidT e, Nat.le_of_eq (hidT_size _ _), trivial, fun b hb => (List.not_mem_nil hb).elim, hok, .of_eq hgen⟩
  have scrL : CnL K H a (ns.map V.int) := by
    cases hk : K.lookup a with
    | none => exact .inl ⟨{ cls := .type "list", data := .seq us.toArray }, if_pos ⟨rfl, hk⟩⟩
    | some o =>
      have e := kin a o hk
      rw [scr] at e
      cases e
      exact .inr ⟨_, us.toArray, _, hk, rfl, rfl, rfl, by rw [List.size_toArray, len1]; exact short, by simpa using vals⟩
  have run := (F _ kin2 (nsOf gns) tabB).run callerA [] z1 H ⟨[.ref a], []⟩ [.ref a] [.ref a] _ _ room rfl env0 (bind1 z1 (.ref a)) (.cons rfl .nil) (ask H (fun q hq => atTb _ (inTb q hq)) scrL)
  refine codeAny_mono run fun r s2 h => ?_
  match r, h with
  | .error e, h =>
    obtain ⟨_, _, _, _, _, _, _, _, _, _, _, _, z⟩ := h
    exact z.elim
  | .ok (.ret u), h =>
    obtain ⟨v, H2, os, bare, un, hok2, rv, q⟩ := h
    subst q
    obtain rfl : u = Value.bool true := rv
    have stays : ∀ b o, b ∉ Tb → z1.heap.get? b = some o → s2.heap.get? b = some o := fun b o nb e => by
      cases hu : H b with
      | none => exact un.keep b o e hu (fun z => (List.not_mem_nil z).elim) (List.not_mem_nil)
      | some u =>
        rcases cases_ b u hu with ⟨rfl, _, rfl⟩ | ⟨hb, _⟩
        · have z2 := un.frzs _ _ _ hu
          have e2 := (hok2 _ _ z2).1
          rw [scr] at e
          cases e
          exact e2
        · exact absurd hb nb
    have grown : ∀ q ∈ cs, ∃ more : Array Value, s2.heap.get? q.2 = some { cls := .none, data := .fields more } := fun q hq => by
      obtain ⟨more, z⟩ := un.tbls q.2 #[] (atTb _ (inTb q hq))
      exact ⟨_, hok2 q.2 _ z⟩
    refine ⟨rfl, ⟨fun b o e => ?_, fun b o e => ?_⟩, os, bare⟩
    · by_cases hb : b ∈ Tb
      · obtain ⟨q, hq, rfl⟩ := ofTb b hb
        obtain ⟨more, hm⟩ := grown q hq
        rw [tabs q hq] at e
        cases e
        exact .inr (.inl ⟨((heads q hq).tab (tabs q hq)).isCodeTable, rfl, #[], more, rfl, by simpa using hm⟩)
      · exact .inl (stays b o hb e)
    · by_cases hb : b ∈ Tb
      · obtain ⟨q, hq, rfl⟩ := ofTb b hb
        obtain ⟨more, hm⟩ := grown q hq
        exact ⟨_, hm⟩
      · exact ⟨o, stays b o hb e⟩
theorem reps_ints {K : PySem.W.Frag} {H : Hp} {F : AS} : ∀ ns : List Int, Reps K H F (ns.map V.int) (ns.map D.int) M0
  | [] => .nil
  | n :: r => .cons (B := M0) (C := M0) .int (reps_ints r) (fun _ h => h) (fun _ h => h) fun _ h => h.elim
/-- what a law's def is to be asked -/
def LawS (n : Nat) (S : SD) : Prop := ∀ ns : List Int, ns.length ≤ n → (∀ z ∈ ns, Builtin.Int.intBits z ≤ 1048576) → ∀ (Q : D → List D → Prop) (E : XD), (∀ r, Q (.bl true) r) → S [.lst .con (ns.map D.int)] Q E
structure LawG (l : PySem.W.OpenLaw) (w : PySem.World) (k n : Nat) (x : Str) (mg : Str → Option Value) (fa : Addr) (h : Heap) (K : PySem.W.Frag) (fd : FuncData) (cs : List (Addr × Addr)) (T : List (Addr × Str)) (S : SD) : Prop where
  kin : K.In h
  tabs : ∀ q ∈ cs, h.get? q.2 = some { cls := .none, data := .fields #[] }
  tabK : ∀ q ∈ cs, K.lookup q.2 = none
  heads : ∀ q ∈ cs, PySem.W.CodeHd h q.1 q.2
  bind1 : ∀ (s : Shared) (u : Value), BindsTo s fd ⟨[u], []⟩ [(x, u)]
  tab : ∀ p ∈ T, ∃ q ∈ cs, q.2 = p.1
  law : LawS n S
  fn : ∀ base : Heap, K.In base → base.Ns mainGlobals mg → (∀ q ∈ cs, LamX.TabB base mg q.1 q.2) → FnG l.prog w K mg base k fa fd [x] (spD K T S)
theorem walk_ofG {l : PySem.W.OpenLaw} {n k : Nat} {q : Program} {loose : List Str} {XP : (Str → Option Value) → Heap → Prop} {YP : PySem.World → Heap → Prop} {d : DefRec} {x : Str}
    (hn : l.most = some n) (hn2 : n ≤ sizeLine) (hdf : d.params.defaults = []) (hr : Room k callerA)
    (F : ∀ (w : PySem.World) (mg : Str → Option Value) (fa : Addr) (h : Heap), YP w h → h.Ns mainGlobals mg → mg d.name = some (.ref fa) → ∃ K fd cs T S, LawG l w k n x mg fa h K fd cs T S) :
    PySem.W.WalkO q loose XP YP l.row.toRowW d [] (fun f vs => PySem.call f vs) := by
  refine Att.attach_callB hn hdf fun w s₀ s₁ mg mb fa o pm cd doc a vs ns G Y ho hd hcd hmg hobj hints hlen hbits hg => ?_
  obtain ⟨K, fd, cs, T, S, c⟩ := F w mg fa _ Y G.T.g hmg
  refine law_callG c.kin G.T.g G.T.b G.T.builtins G.T.nolimit hg c.tabs c.tabK c.heads G.T.bmain hobj hints (Nat.le_trans hlen hn2) hr c.fn c.bind1 fun H hH hS => ?_
  refine ⟨M0, M0, [.lst .con (ns.map D.int)], ⟨.cons (B := M0) (C := M0) (.con hS (reps_ints ns)) .nil (fun _ h => h) (fun _ h => h) (fun _ h => h.elim), fun _ h => h.elim, fun _ h => h.elim, fun _ h => h.elim, fun p hp => ?_⟩, c.law ns hlen hbits _ _ fun r v H' W => W.isBl⟩
  obtain ⟨q, hq, e⟩ := c.tab p hp
  exact .nil (by rw [← e]; exact hH q hq)
end Bd

/-! Bd15: isinstance; all, any; xs[i] = v. -/
namespace Bd
open PySem PySem.Spec PyProof.Rows L2
section
variable {X : Cx} {G : Gm} {kp : List Bool} {e a b c o i : Expr} {pos p1 p2 : Pos} {we : WE} {wa wb wo wi : WB}
theorem de_bltn {x : Str} {n : String} (hg : Gl X x) (hm : X.mg x = none) (hv : bootBuiltins x = some (.type n)) (hn : x ≠ "__name__" := by decide) (hd : (x == ("__debug__" : Str)) = false := by decide) : DE X G kp (.Name x pos) (wC (.opq (.ty n))) := de_const (pe_bltn (v := .ty n) hg hm hv rfl hn hd) fun _ _ _ => .opq
/-! ### isinstance -/
def tyD : D → Option String
  | .non => some "NoneType"
  | .bl _ => some "bool"
  | .int _ => some "int"
  | .str _ => some "str"
  | .tup _ => some "tuple"
  | .lst _ _ => some "list"
  | .dct _ _ _ => some "dict"
  | _ => none
def isiD (d : D) (t : String) : Bool := match d with
  | .bl _ => t == "bool" || t == "int"
  | .int _ => t == "int"
  | .str _ => t == "str"
  | .tup _ => t == "tuple"
  | .lst _ _ => t == "list"
  | .dct _ _ _ => t == "dict"
  | _ => false
def tyNs : List String := ["bool", "int", "str", "tuple", "list", "dict"]
def tyNs2 : List String := ["NoneType", "bool", "int", "str", "tuple", "list", "dict"]
def tyAns (a t : String) : Bool := a == t || (a == "bool" && t == "int")
theorem kit_all : ∀ a ∈ tyNs2, ∀ t ∈ tyNs, kitB a t = some (tyAns a t) := by decide +kernel
theorem isi_eq : ∀ {d : D} {a t : String}, tyD d = some a → t ∈ tyNs → kitB a t = some (isiD d t) := by
  intro d a t h ht
  have h2 : a ∈ tyNs2 := by cases d <;> cases h <;> decide
  rw [kit_all a h2 t ht]
  cases d <;> cases h
  all_goals
    simp only [tyNs, List.mem_cons, List.not_mem_nil, or_false] at ht
    rcases ht with rfl | rfl | rfl | rfl | rfl | rfl <;> rfl
def isiF (d c : D) (Q : D → D → D → Prop) : Prop := match c with
  | .opq (.ty t) => (tyD d).isSome = true ∧ t ∈ tyNs ∧ Q (.bl (isiD d t)) d c
  | _ => False
theorem tyx_of {K : PySem.W.Frag} {H : Hp} {F A : AS} {v : V} {d : D} {a : String} (r : Rep K H F v d A) (h : tyD d = some a) : TyX K H v (.type a) := by
  cases r with
  | gone => cases h
  | non => cases h; exact .base .non
  | bl => cases h; exact .base (.bl _)
  | int => cases h; exact .base (.int _)
  | str => cases h; exact .base (.str _)
  | opq => cases h
  | tup t q =>
    cases h
    rcases t with ⟨o, e, _⟩ | ⟨o, its, n, e, c, _⟩
    · exact .fTuple e
    · exact .kTuple e c
  | own e _ _ _ => cases h; exact .base (.lst e)
  | shr e _ _ => cases h; exact .base (.lst e)
  | con t q =>
    cases h
    rcases t with ⟨o, e⟩ | ⟨o, its, n, e, c, _⟩
    · exact .base (.frz e)
    · exact .kList e c
  | dOwn e _ _ _ _ => cases h; exact .base (.dK e)
  | dShr e _ _ _ => cases h; exact .base (.dK e)
theorem World.tyx {K : PySem.W.Frag} {σ : Sl} {ρ : List D} {vs : List V} {ds : List D} {H : Hp} {v : V} {d : D} {a : String} (W : World K G kp σ ρ (v :: vs) (d :: ds) H) (h : tyD d = some a) : TyX K H v (.type a) := by
  obtain ⟨A, F, f⟩ := W
  have r := f.reps
  cases r with
  | cons p q i j k => exact tyx_of p h
theorem isiD_ok : CallD X G kp (rIsi X.K) (c2 isiF) := by
  refine c2_ok (fun d e P P' hp q => ?_) fun σ ρ vs ds u w d e H Q W q => ?_
  · cases e <;> first | exact q.elim | skip
    rename_i v
    cases v <;> first | exact q.elim | exact ⟨q.1, q.2.1, hp _ _ _ q.2.2⟩
  · cases e <;> first | exact q.elim | skip
    rename_i v
    cases v <;> first | exact q.elim | skip
    rename_i t
    obtain ⟨h1, h2, q⟩ := q
    obtain ⟨a, ha⟩ := Option.isSome_iff_exists.mp h1
    have e2 := World.isOpq (vs := vs) (ds := ds) W.swap.drop2
    subst e2
    exact ⟨u, .ty t, .type a, .type t, _, rfl, .ty t, W.tyx ha, kit_ty (isi_eq ha h2), q _ H W.bl⟩
/-! ### all, any -/
def allF (d : D) (Q : D → D → Prop) : Prop := match d with
  | .lst _ xs => ∃ bs, bls? xs = some bs ∧ Q (.bl (bs.all id)) d
  | _ => False
def anyF (d : D) (Q : D → D → Prop) : Prop := match d with
  | .lst _ xs => ∃ bs, bls? xs = some bs ∧ Q (.bl (bs.any id)) d
  | _ => False
theorem allD_ok : CallD X G kp (rAll X.K) (c1 allF) := by
  refine c1_ok (fun d P P' hp q => ?_) fun σ ρ vs ds u d H Q W q => ?_
  · cases d <;> first | exact q.elim | exact ⟨q.choose, q.choose_spec.1, hp _ _ q.choose_spec.2⟩
  · cases d <;> first | exact q.elim | skip
    obtain ⟨bs, h1, h2⟩ := q
    obtain ⟨a, us, rfl, t, e⟩ := W.lstR (P := fun us => us = bs.map V.bl) fun F A us r => r.bls h1
    subst e
    exact ⟨a, bs, rfl, t, h2 _ H W.bl⟩
theorem anyD_ok : CallD X G kp (rAny X.K) (c1 anyF) := by
  refine c1_ok (fun d P P' hp q => ?_) fun σ ρ vs ds u d H Q W q => ?_
  · cases d <;> first | exact q.elim | exact ⟨q.choose, q.choose_spec.1, hp _ _ q.choose_spec.2⟩
  · cases d <;> first | exact q.elim | skip
    obtain ⟨bs, h1, h2⟩ := q
    obtain ⟨a, us, rfl, t, e⟩ := W.lstR (P := fun us => us = bs.map V.bl) fun F A us r => r.bls h1
    subst e
    exact ⟨a, bs, rfl, t, h2 _ H W.bl⟩
/-! ### xs[i] = v -/
def setD (x i d : D) (Q : D → Prop) : Prop := match x, i with
  | .lst .own es, .int k => ∃ j, ixN es.length k = some j ∧ Q (.lst .own (es.set j d))
  | _, _ => False
theorem setD_mono {x i d : D} {P P' : D → Prop} (h : ∀ y, P y → P' y) (q : setD x i d P) : setD x i d P' := by
  match x, i, q with
  | .lst .own es, .int k, ⟨j, h1, h2⟩ => exact ⟨j, h1, h _ h2⟩
def gS (wo wi : WB) : WG := fun d ρ Q => wo ρ fun x ox ρ1 => wi ρ1 fun y oy ρ2 => setD x y d fun x' => Q (gb ox x' (gb oy y ρ2))
theorem dg_sub (ho : DB X G kp o wo) (hi : DB X G kp i wi) (ha : ∀ v, assign (.Subscript o i pos) X.env v = (do
      let ov ← holding [v] (eval o X.env)
      let iv ← holding [v, ov] (eval i X.env)
      standAt pos
      holding [v, ov, iv] (setItem ov iv v)
      release [v, ov, iv] []) := by intro _; rfl) : DG X G kp (.Subscript o i pos) (gS wo wi) := by
  refine ⟨fun d ρ P P' hp q => ho.mono _ _ _ (fun x ox r z => hi.mono _ _ _ (fun y oy r z => setD_mono (fun _ z => hp _ z) z) z) q, pg_imp (pg_sub ho.run hi.run set_list ha) fun v σ H Q ⟨ρ, vs, d, ds, W, q⟩ => ?_⟩
  refine ⟨ρ, _, _, W, ho.mono _ _ _ (fun x ox r1 z1 xv H1 W1 h1 => ⟨r1, _, _, W1, hi.mono _ _ _ (fun y oy r2 z2 yv H2 W2 h2 => ?_) z1⟩) q⟩
  match x, y, z2 with
  | .lst .own es, .int k, ⟨j, hj, z2⟩ =>
    have ek := W2.isInt
    subst ek
    have W3 := W2.drop.swap
    obtain ⟨a, us, ea, hH, l, mk⟩ := World.relist (xs := [v]) (fs := [d]) W3 rfl
    subst ea
    refine ⟨a, us, k, j, rfl, rfl, hH, by rw [l]; exact hj, ?_⟩
    have W4 := mk [] [] (us.set j v) (es.set j d) rfl (by simp [l]) fun F B r => Reps.replace r
    have e2 : gb oy (.int k) r2 = gb oy (.int k) r2 := rfl
    refine z2 _ _ ?_
    have W5 : World X.K G kp σ (gb oy (.int k) r2) (.ref a :: vs) (.lst .own (es.set j d) :: ds) _ := (W4.int (j := k)).gb h2
    exact W5.gb h1
end
end Bd

/-! Bd16: the rules by short names, as the printer writes them. -/
namespace Bd
open PySem PySem.Spec PyProof.Rows L2
/-- a name that a def may own -/
def nm (x : Str) : Bool := x != ("__debug__" : Str) && x != ("__classdict__" : Str) && x != ("__name__" : Str)
theorem nm1 {x : Str} (h : nm x = true) : (x == ("__debug__" : Str)) = false := by
  simp only [nm, Bool.and_eq_true, bne, Bool.not_eq_true'] at h
  exact h.1.1
theorem nm2 {x : Str} (h : nm x = true) : (x == ("__classdict__" : Str)) = false := by
  simp only [nm, Bool.and_eq_true, bne, Bool.not_eq_true'] at h
  exact h.1.2
theorem nm3 {x : Str} (h : nm x = true) : x ≠ "__name__" := by
  simp only [nm, Bool.and_eq_true, bne, Bool.not_eq_true'] at h
  intro e
  have := h.2
  rw [e] at this
  simp at this
abbrev subD : W2 := intD0 fun i j => .int (i - j)
abbrev divD : W2 := intD CDivW fun i j => .int (i / j)
abbrev modD : W2 := intD (fun _ j => 0 < j) fun i j => .int (i % j)
abbrev powD : W2 := intD CPow fun i j => .int (i ^ j.toNat)
abbrev ltD : W2 := intD0 fun i j => .bl (decide (i < j))
abbrev lteD : W2 := intD0 fun i j => .bl (decide (i ≤ j))
abbrev gtD : W2 := intD0 fun i j => .bl (decide (j < i))
abbrev gteD : W2 := intD0 fun i j => .bl (decide (j ≤ i))
/-- a callee, found by its global name -/
structure FnC (P : Program) (w : PySem.World) (K : PySem.W.Frag) (mg : Str → Option Value) (base : Heap) (T : List (Addr × Str)) (k : Nat) (x : Str) (ps : List Str) (S : SD) : Prop where
  ex : ∃ (f : Addr) (fd : FuncData), FnG P w K mg base k f fd ps (spD K T S) ∧ mg x = some (.ref f) ∧ PySem.W.keepIn K (.ref f) = true ∧ Binds K fd ps []
section
variable {X : Cx} {G : Gm} {kp : List Bool} {e a b c : Expr} {es : List Expr} {pos p1 p2 : Pos} {we : WE} {wa wb wc : WB} {wr : WBs} {k : Nat} {x : Str} {i : Nat}
theorem hu65 (hr : Room k X.A) : X.A.units + 65 < cLine := by have := hr.un; omega
theorem hu64 (hr : Room k X.A) : X.A.units + 64 < cLine := by have := hr.un; omega
theorem b_v (i : Nat) (hi : X.N[i]? = some x) (hv : Vis X.env.scope x) (h : nm x = true) : DB X G kp (.Name x pos) (wN i) := db_var hi hv (nm1 h) (nm2 h)
theorem e_v (i : Nat) (hi : X.N[i]? = some x) (hv : Vis X.env.scope x) (h : nm x = true) : DE X G kp (.Name x pos) (wV i) := de_var hi hv (nm1 h) (nm2 h)
theorem e_m (i : Nat) (hi : X.N[i]? = some x) (hv : Vis X.env.scope x) (h : nm x = true) : DE X G kp (.Name x pos) (wMv i) := de_mv hi hv (nm1 h) (nm2 h)
theorem e_gi {j : Int} (hg : Gl X x) (h : nm x = true) (hm : ∃ t, X.mg x = some (.int j t)) : DE X G kp (.Name x pos) (wC (.int j)) := de_globI hg hm (nm1 h)
theorem e_gs {j : Str} (hg : Gl X x) (h : nm x = true) (hm : ∃ t, X.mg x = some (.str j t)) : DE X G kp (.Name x pos) (wC (.str j)) := de_globS hg hm (nm1 h)
section
variable (ha : DB X G kp a wa) (hb : DB X G kp b wb)
include ha hb
theorem e_add : DE X G kp (.BinOp a .Add b pos) (wOp addD wa wb) := de_op op_addA addD_ok ha hb
theorem e_sub : DE X G kp (.BinOp a .Sub b pos) (wOp subD wa wb) := de_op op_sub (intD0_ok fun _ _ _ _ _ => .int) ha hb
theorem e_mul : DE X G kp (.BinOp a .Mult b pos) (wOp mulD wa wb) := de_op op_mulA mulD_ok ha hb
theorem e_div : DE X G kp (.BinOp a .FloorDiv b pos) (wOp divD wa wb) := de_op op_fdivW (intD_ok fun _ _ _ _ _ => .int) ha hb
theorem e_mod : DE X G kp (.BinOp a .Mod b pos) (wOp modD wa wb) := de_op op_mod (intD_ok fun _ _ _ _ _ => .int) ha hb
theorem e_pow : DE X G kp (.BinOp a .Pow b pos) (wOp powD wa wb) := de_op op_pow (intD_ok fun _ _ _ _ _ => .int) ha hb
theorem e_lt : DE X G kp (.Compare a [.Lt] [b] pos) (wOp ltD wa wb) := de_cmp op_lt (intD0_ok fun _ _ _ _ _ => .bl) ha hb (nomark _)
theorem e_le : DE X G kp (.Compare a [.LtE] [b] pos) (wOp lteD wa wb) := de_cmp op_le (intD0_ok fun _ _ _ _ _ => .bl) ha hb (nomark _)
theorem e_gt : DE X G kp (.Compare a [.Gt] [b] pos) (wOp gtD wa wb) := de_cmp op_gt (intD0_ok fun _ _ _ _ _ => .bl) ha hb (nomark _)
theorem e_ge : DE X G kp (.Compare a [.GtE] [b] pos) (wOp gteD wa wb) := de_cmp op_ge (intD0_ok fun _ _ _ _ _ => .bl) ha hb (nomark _)
theorem e_eq (hr : Room k X.A) : DE X G kp (.Compare a [.Eq] [b] pos) (wOp eqD wa wb) := de_cmp (op_eqD (hu64 hr)) eqD_ok ha hb (nomark _)
theorem e_ne (hr : Room k X.A) : DE X G kp (.Compare a [.NotEq] [b] pos) (wOp neD wa wb) := de_cmp (op_neD (hu64 hr)) neD_ok ha hb (nomark _)
theorem e_in (hr : Room k X.A) (hm : behindInMarks .In b = false) : DE X G kp (.Compare a [.In] [b] pos) (wOp (memD false) wa wb) := de_cmp (op_memA (hu65 hr)) memD_ok ha hb hm
theorem e_ni (hr : Room k X.A) (hm : behindInMarks .NotIn b = false) : DE X G kp (.Compare a [.NotIn] [b] pos) (wOp (memD true) wa wb) := de_cmp (op_notMemA (hu65 hr)) notMemD_ok ha hb hm
theorem e_is : DE X G kp (.Compare a [.Is] [b] pos) (wOp (isD false) wa wb) := de_cmp op_isN isD_ok ha hb (nomark _)
theorem e_isn : DE X G kp (.Compare a [.IsNot] [b] pos) (wOp (isD true) wa wb) := de_cmp op_notN isNotD_ok ha hb (nomark _)
theorem t_lt : DT X G kp (.Compare a [.Lt] [b] pos) (wT (wOp ltD wa wb)) := dt_cmp op_lt (intD0_ok fun _ _ _ _ _ => .bl) ha hb (nomark _)
theorem t_le : DT X G kp (.Compare a [.LtE] [b] pos) (wT (wOp lteD wa wb)) := dt_cmp op_le (intD0_ok fun _ _ _ _ _ => .bl) ha hb (nomark _)
theorem t_gt : DT X G kp (.Compare a [.Gt] [b] pos) (wT (wOp gtD wa wb)) := dt_cmp op_gt (intD0_ok fun _ _ _ _ _ => .bl) ha hb (nomark _)
theorem t_ge : DT X G kp (.Compare a [.GtE] [b] pos) (wT (wOp gteD wa wb)) := dt_cmp op_ge (intD0_ok fun _ _ _ _ _ => .bl) ha hb (nomark _)
theorem t_eq (hr : Room k X.A) : DT X G kp (.Compare a [.Eq] [b] pos) (wT (wOp eqD wa wb)) := dt_cmp (op_eqD (hu64 hr)) eqD_ok ha hb (nomark _)
theorem t_ne (hr : Room k X.A) : DT X G kp (.Compare a [.NotEq] [b] pos) (wT (wOp neD wa wb)) := dt_cmp (op_neD (hu64 hr)) neD_ok ha hb (nomark _)
theorem t_in (hr : Room k X.A) (hm : behindInMarks .In b = false) : DT X G kp (.Compare a [.In] [b] pos) (wT (wOp (memD false) wa wb)) := dt_cmp (op_memA (hu65 hr)) memD_ok ha hb hm
theorem t_ni (hr : Room k X.A) (hm : behindInMarks .NotIn b = false) : DT X G kp (.Compare a [.NotIn] [b] pos) (wT (wOp (memD true) wa wb)) := dt_cmp (op_notMemA (hu65 hr)) notMemD_ok ha hb hm
theorem t_is : DT X G kp (.Compare a [.Is] [b] pos) (wT (wOp (isD false) wa wb)) := dt_cmp op_isN isD_ok ha hb (nomark _)
theorem t_isn : DT X G kp (.Compare a [.IsNot] [b] pos) (wT (wOp (isD true) wa wb)) := dt_cmp op_notN isNotD_ok ha hb (nomark _)
end
theorem lm (b c : Expr) {o1 o2 : CmpOp} (h1 : o1 ≠ .In := by decide) (h2 : o1 ≠ .NotIn := by decide) (h3 : o2 ≠ .In := by decide) (h4 : o2 ≠ .NotIn := by decide) : lastMarks [o1, o2] [b, c] = false := by
  simp [lastMarks, nomark b h1 h2, nomark c h3 h4]
section
variable (ha : DB X G kp a wa) (hb : DB X G kp b wb) (hc : DB X G kp c wc)
include ha hb hc
theorem e_lele : DE X G kp (.Compare a [.LtE, .LtE] [b, c] pos) (wCh lteD lteD wa wb wc) := de_chain op_le op_le (intD0_ok fun _ _ _ _ _ => .bl) (intD0_ok fun _ _ _ _ _ => .bl) ha hb hc (lm _ _)
theorem e_lelt : DE X G kp (.Compare a [.LtE, .Lt] [b, c] pos) (wCh lteD ltD wa wb wc) := de_chain op_le op_lt (intD0_ok fun _ _ _ _ _ => .bl) (intD0_ok fun _ _ _ _ _ => .bl) ha hb hc (lm _ _)
theorem e_ltle : DE X G kp (.Compare a [.Lt, .LtE] [b, c] pos) (wCh ltD lteD wa wb wc) := de_chain op_lt op_le (intD0_ok fun _ _ _ _ _ => .bl) (intD0_ok fun _ _ _ _ _ => .bl) ha hb hc (lm _ _)
theorem e_ltlt : DE X G kp (.Compare a [.Lt, .Lt] [b, c] pos) (wCh ltD ltD wa wb wc) := de_chain op_lt op_lt (intD0_ok fun _ _ _ _ _ => .bl) (intD0_ok fun _ _ _ _ _ => .bl) ha hb hc (lm _ _)
theorem t_lele : DT X G kp (.Compare a [.LtE, .LtE] [b, c] pos) (wT (wCh lteD lteD wa wb wc)) := dt_chain op_le op_le (intD0_ok fun _ _ _ _ _ => .bl) (intD0_ok fun _ _ _ _ _ => .bl) ha hb hc (lm _ _)
theorem t_lelt : DT X G kp (.Compare a [.LtE, .Lt] [b, c] pos) (wT (wCh lteD ltD wa wb wc)) := dt_chain op_le op_lt (intD0_ok fun _ _ _ _ _ => .bl) (intD0_ok fun _ _ _ _ _ => .bl) ha hb hc (lm _ _)
theorem t_ltle : DT X G kp (.Compare a [.Lt, .LtE] [b, c] pos) (wT (wCh ltD lteD wa wb wc)) := dt_chain op_lt op_le (intD0_ok fun _ _ _ _ _ => .bl) (intD0_ok fun _ _ _ _ _ => .bl) ha hb hc (lm _ _)
theorem t_ltlt : DT X G kp (.Compare a [.Lt, .Lt] [b, c] pos) (wT (wCh ltD ltD wa wb wc)) := dt_chain op_lt op_lt (intD0_ok fun _ _ _ _ _ => .bl) (intD0_ok fun _ _ _ _ _ => .bl) ha hb hc (lm _ _)
end
/-! ### built-ins -/
section
variable (ha : DBs X G kp (e :: es) wr) (he : starEach (e :: es) X.env = (false, eval e X.env) :: starEach es X.env := by rfl) (hpl : (backTo pos (starEach es X.env)).any (·.1) = false := by rfl)
theorem k_len (hg : Gl X "len") (hm : X.mg "len" = none) (ha : DBs X G kp (e :: es) wr) (he : starEach (e :: es) X.env = (false, eval e X.env) :: starEach es X.env := by rfl) (hpl : (backTo pos (starEach es X.env)).any (·.1) = false := by rfl) : DE X G kp (.Call (.Name "len" p1) (e :: es) [] pos) (wCall (c1 lenF) wr) := de_callB call_lenA lenD_ok hg hm boot_len ha (by decide) (by decide) he hpl
theorem k_sum (hc : X.calm = true) (hg : Gl X "sum") (hm : X.mg "sum" = none) (ha : DBs X G kp (e :: es) wr) (he : starEach (e :: es) X.env = (false, eval e X.env) :: starEach es X.env := by rfl) (hpl : (backTo pos (starEach es X.env)).any (·.1) = false := by rfl) : DE X G kp (.Call (.Name "sum" p1) (e :: es) [] pos) (wCall (c1 sumF) wr) := de_callB (call_sumA hc) sumD_ok hg hm boot_sum ha (by decide) (by decide) he hpl
theorem k_max1 (hc : X.calm = true) (hg : Gl X "max") (hm : X.mg "max" = none) (ha : DBs X G kp (e :: es) wr) (he : starEach (e :: es) X.env = (false, eval e X.env) :: starEach es X.env := by rfl) (hpl : (backTo pos (starEach es X.env)).any (·.1) = false := by rfl) : DE X G kp (.Call (.Name "max" p1) (e :: es) [] pos) (wCall (c1 maxF) wr) := de_callB (cr_max hc) maxD_ok hg hm boot_max ha (by decide) (by decide) he hpl
theorem k_min1 (hc : X.calm = true) (hg : Gl X "min") (hm : X.mg "min" = none) (ha : DBs X G kp (e :: es) wr) (he : starEach (e :: es) X.env = (false, eval e X.env) :: starEach es X.env := by rfl) (hpl : (backTo pos (starEach es X.env)).any (·.1) = false := by rfl) : DE X G kp (.Call (.Name "min" p1) (e :: es) [] pos) (wCall (c1 minF) wr) := de_callB (cr_min hc) minD_ok hg hm boot_min ha (by decide) (by decide) he hpl
theorem k_max2 (hc : X.calm = true) (hg : Gl X "max") (hm : X.mg "max" = none) (ha : DBs X G kp (e :: es) wr) (he : starEach (e :: es) X.env = (false, eval e X.env) :: starEach es X.env := by rfl) (hpl : (backTo pos (starEach es X.env)).any (·.1) = false := by rfl) : DE X G kp (.Call (.Name "max" p1) (e :: es) [] pos) (wCall (c2 max2F) wr) := de_callB (call_max2 hc) max2D_ok hg hm boot_max ha (by decide) (by decide) he hpl
theorem k_min2 (hc : X.calm = true) (hg : Gl X "min") (hm : X.mg "min" = none) (ha : DBs X G kp (e :: es) wr) (he : starEach (e :: es) X.env = (false, eval e X.env) :: starEach es X.env := by rfl) (hpl : (backTo pos (starEach es X.env)).any (·.1) = false := by rfl) : DE X G kp (.Call (.Name "min" p1) (e :: es) [] pos) (wCall (c2 min2F) wr) := de_callB (call_min2 hc) min2D_ok hg hm boot_min ha (by decide) (by decide) he hpl
theorem k_abs (hg : Gl X "abs") (hm : X.mg "abs" = none) (ha : DBs X G kp (e :: es) wr) (he : starEach (e :: es) X.env = (false, eval e X.env) :: starEach es X.env := by rfl) (hpl : (backTo pos (starEach es X.env)).any (·.1) = false := by rfl) : DE X G kp (.Call (.Name "abs" p1) (e :: es) [] pos) (wCall (c1 absF) wr) := de_callB call_abs absD_ok hg hm boot_abs ha (by decide) (by decide) he hpl
theorem k_divmod (hg : Gl X "divmod") (hm : X.mg "divmod" = none) (ha : DBs X G kp (e :: es) wr) (he : starEach (e :: es) X.env = (false, eval e X.env) :: starEach es X.env := by rfl) (hpl : (backTo pos (starEach es X.env)).any (·.1) = false := by rfl) : DE X G kp (.Call (.Name "divmod" p1) (e :: es) [] pos) (wCall (c2 divF) wr) := de_callB call_divmodP divD_ok hg hm boot_divmod ha (by decide) (by decide) he hpl
theorem k_all (hc : X.calm = true) (hg : Gl X "all") (hm : X.mg "all" = none) (ha : DBs X G kp (e :: es) wr) (he : starEach (e :: es) X.env = (false, eval e X.env) :: starEach es X.env := by rfl) (hpl : (backTo pos (starEach es X.env)).any (·.1) = false := by rfl) : DE X G kp (.Call (.Name "all" p1) (e :: es) [] pos) (wCall (c1 allF) wr) := de_callB (cr_all hc) allD_ok hg hm boot_all ha (by decide) (by decide) he hpl
theorem k_any (hc : X.calm = true) (hg : Gl X "any") (hm : X.mg "any" = none) (ha : DBs X G kp (e :: es) wr) (he : starEach (e :: es) X.env = (false, eval e X.env) :: starEach es X.env := by rfl) (hpl : (backTo pos (starEach es X.env)).any (·.1) = false := by rfl) : DE X G kp (.Call (.Name "any" p1) (e :: es) [] pos) (wCall (c1 anyF) wr) := de_callB (cr_any hc) anyD_ok hg hm boot_any ha (by decide) (by decide) he hpl
theorem k_isi (hg : Gl X "isinstance") (hm : X.mg "isinstance" = none) (ha : DBs X G kp (e :: es) wr) (he : starEach (e :: es) X.env = (false, eval e X.env) :: starEach es X.env := by rfl) (hpl : (backTo pos (starEach es X.env)).any (·.1) = false := by rfl) : DE X G kp (.Call (.Name "isinstance" p1) (e :: es) [] pos) (wCall (c2 isiF) wr) := de_callB call_isi isiD_ok hg hm boot_isinstance ha (by decide) (by decide) he hpl
theorem k_sorted (hr : Room k X.A) (hg : Gl X "sorted") (hm : X.mg "sorted" = none) (ha : DBs X G kp (e :: es) wr) (he : starEach (e :: es) X.env = (false, eval e X.env) :: starEach es X.env := by rfl) (hpl : (backTo pos (starEach es X.env)).any (·.1) = false := by rfl) : DE X G kp (.Call (.Name "sorted" p1) (e :: es) [] pos) (wCall (c1 sortF) wr) := de_callB (call_sortD (hu64 hr)) sortD_ok hg hm boot_sorted ha (by decide) (by decide) he hpl
theorem k_list (hg : Gl X "list") (hm : X.mg "list" = none) (ha : DBs X G kp (e :: es) wr) (he : starEach (e :: es) X.env = (false, eval e X.env) :: starEach es X.env := by rfl) (hpl : (backTo pos (starEach es X.env)).any (·.1) = false := by rfl) : DE X G kp (.Call (.Name "list" p1) (e :: es) [] pos) (wCall (c1 listF) wr) := de_callTy call_list_of listD_ok hg hm boot_list ha (by decide) (by decide) he hpl
theorem k_tuple (hg : Gl X "tuple") (hm : X.mg "tuple" = none) (ha : DBs X G kp (e :: es) wr) (he : starEach (e :: es) X.env = (false, eval e X.env) :: starEach es X.env := by rfl) (hpl : (backTo pos (starEach es X.env)).any (·.1) = false := by rfl) : DE X G kp (.Call (.Name "tuple" p1) (e :: es) [] pos) (wCall (c1 tupF) wr) := de_callTy call_tupleP tupD_ok hg hm boot_tuple ha (by decide) (by decide) he hpl
end
/-! ### own defs -/
theorem k_fn {T : List (Addr × Str)} {j : Nat} {ps : List Str} {S : SD} {Ex : XD} (F : FnC X.prog X.w X.K X.mg X.base T j x ps S) (hS : SMono S) (hr : Room k X.A) (hgd : X.A.guards = some []) (hx : TakesD X G kp Ex) (hT : G.T = T) (hj : j ≤ k) (hg : Gl X x) (h : nm x = true)
    (ha : DBs X G kp (e :: es) wr) (he : starEach (e :: es) X.env = (false, eval e X.env) :: starEach es X.env := by rfl) (hpl : (backTo pos (starEach es X.env)).any (·.1) = false := by rfl) : DE X G kp (.Call (.Name x p1) (e :: es) [] pos) (wCallF S Ex wr) := by
  obtain ⟨f, fd, F, hm, hk, hb⟩ := F.ex
  exact de_callF F hS (hr.mono hj) hgd hg hm hk hb hx hT ha (nm1 h) he hpl
theorem takes_blk {X : Cx} {s : Shared} {H : Hp} {scope : Scope} {env : Env} {fp : List Addr} : TakesD (X.blk s H scope env fp) G kp noX := takes_no
end
end Bd

/-! Bd17: what a loop walks: a list, a tuple, a text, told by the datum; targets' lengths. -/
namespace Bd
open PySem PySem.Spec PyProof.Rows L2
section
variable {X : Cx} {G : Gm} {kp : List Bool} {e tg : Expr} {we : WE}
theorem gl_of {x : Str} (h : X.env.scope.names.lookup x = some NameKind.globalImplicit) : Gl X x := h
def ItK2 (K : PySem.W.Frag) (k : Bool) (a : Addr) : It := if k = true then Itt K a else Itl K a
def iSeq (K : PySem.W.Frag) (te : TE) : TI := fun σ H R => te σ H fun x H1 => (∃ k a xs, x = .ref a ∧ SqK k K H1 a xs ∧ R (ItK2 K k a) H1) ∨ ∃ z, x = .str z ∧ R (Its z) H1
theorem pi_seq {te : TE} (he : PE X e te) : PI X tg e (iSeq X.K te) := by
  refine ⟨fun pins s σ H R I h => thn (he.run pins s σ H _ I h) fun v s1 ⟨x, H1, I1, r1, q1⟩ => ?_⟩
  rcases q1 with ⟨k, a, xs, rfl, hq, q⟩ | ⟨z, rfl, q⟩
  · cases r1
    cases k with
    | true =>
      obtain ⟨its, rv, p, _⟩ := I1.tuple hq
      exact wpAny_pyIter_tuple (show s1.heap.IsTuple a its.toArray from p) (pi_one (tk := s1.toks) I1 _ (turn_tuple a _) ⟨_, Heap.get?_push_size _ rfl, rfl, rfl⟩ q)
    | false =>
      obtain ⟨its, rv, p, _⟩ := I1.list hq
      exact wpAny_pyIter_list p.isList (pi_one (tk := s1.toks) I1 _ (turn_list a _) ⟨_, Heap.get?_push_size _ rfl, rfl, rfl⟩ q)
  · obtain ⟨t, rfl⟩ := r1
    by_cases asc : z.cps.all (· < 128) = true
    · exact wpAny_pyIter_ascii asc (pi_one (tk := s1.toks) I1 _ (turn_str _ z t "str_ascii_iterator" (.inl rfl)) ⟨_, Heap.get?_push_size _ rfl, rfl, rfl⟩ q)
    · exact wpAny_pyIter_wide (by simpa using asc) (pi_one (tk := s1.toks) I1 _ (turn_str _ z t "str_iterator" (.inr rfl)) ⟨_, Heap.get?_push_size _ rfl, rfl, rfl⟩ q)
def signs (z : Str) : List (List D) := z.cps.toList.map fun c => [.str ⟨#[c]⟩]
def ones (xs : List D) : List (List D) := xs.map fun x => [x]
def wiS (w : WE) : WI := fun ρ Q => w ρ fun d r => match d with
  | .str z => Q (signs z) [] r
  | .lst m es => Q (ones (frzs es)) [.lst m (frzs es)] r
  | .tup es => Q (ones (frzs es)) [.tup (frzs es)] r
  | _ => False
theorem yl_seq {k : Bool} {a : Addr} {d : D} {xs : List D} (hd : seqO d = some (k, xs)) (s : solids xs = true) : Yl X.K G kp false (ItK2 X.K k a) [.ref a] [d] (ones xs) := fun i σ ρ vs ds H W => by
  obtain ⟨a', us, ea, q1, l1, mk⟩ := World.seq1 (vs := vs) (ds := ds) W hd s
  cases ea
  refine ⟨fun hi => ?_, fun its hits => ?_⟩
  · have hl : us.length ≤ i := by rw [hi, l1]; simp [ones]
    cases k with
    | true => exact ⟨us, q1, hl⟩
    | false => exact ⟨us, q1, hl⟩
  · unfold ones at hits
    rw [List.getElem?_map] at hits
    cases hz : xs[i]? with
    | none => rw [hz] at hits; cases hits
    | some z =>
      rw [hz] at hits
      cases hits
      obtain ⟨x, hx⟩ : ∃ x, us[i]? = some x := ⟨us[i]'(by
        have := (List.getElem?_eq_some_iff.mp hz).1
        omega), List.getElem?_eq_getElem _⟩
      have fin : ∀ y H', H' = H → us[i]? = some y → ∃ ys, ys.length = 1 ∧ Shape X.K false H' y ys ∧ World X.K G kp σ ρ (ys ++ ([V.ref a] ++ vs)) ([z] ++ ([d] ++ ds)) H' := fun y H' e hy => by
        subst e
        exact ⟨[y], rfl, rfl, mk i y _ hy hz⟩
      cases k with
      | true => exact ⟨⟨us, x, q1, hx⟩, fun y H' ⟨e1, e2⟩ => fin y H' e1 (e2 us q1)⟩
      | false => exact ⟨⟨us, x, q1, hx⟩, fun y H' ⟨e1, e2⟩ => fin y H' e1 (e2 us q1)⟩
theorem yl_str {z : Str} : Yl X.K G kp false (Its z) [] [] (signs z) := fun i σ ρ vs ds H W => by
  refine ⟨fun e => ?_, fun its hits => ?_⟩
  · show z.cps.size ≤ i
    rw [e]; simp [signs]
  · unfold signs at hits
    rw [List.getElem?_map] at hits
    cases hd : z.cps.toList[i]? with
    | none => rw [hd] at hits; cases hits
    | some c =>
      rw [hd] at hits
      cases hits
      have hc : z.cps[i]? = some c := by simpa using hd
      refine ⟨?_, fun x H' ⟨e1, c', e2, e3⟩ => ?_⟩
      · show i < z.cps.size
        exact (Array.getElem?_eq_some_iff.mp hc).1
      · subst e1 e3
        rw [hc] at e2
        cases e2
        exact ⟨[_], rfl, rfl, W.str⟩
theorem di_seq (h : DE X G kp e we) : DI X G kp false tg e (wiS we) := by
  refine ⟨fun ρ P P' hp q => h.mono _ _ _ (fun d r z => by cases d <;> first | exact z.elim | exact hp _ _ _ z) q, pi_imp (pi_seq h.run) fun σ H R ⟨ρ, vs, ds, W, q⟩ => ⟨ρ, vs, ds, W, h.mono _ _ _ (fun d r z v H' W' => ?_) q⟩⟩
  have go : ∀ k xs, seqO (frzK d) = some (k, xs) → solids xs = true → (∀ J us H', us.length = 1 → World X.K G kp σ r (us ++ vs) ([frzK d] ++ ds) H' → (∀ G' kp', Yl X.K G' kp' false J us [frzK d] (ones xs)) → R J H') → ∃ k a us, v = .ref a ∧ SqK k X.K H' a us ∧ R (ItK2 X.K k a) H' := fun k xs h1 s1 q => by
    have W1 : World X.K G kp σ r (v :: vs) (frzK d :: ds) H' := W'.frzKids
    obtain ⟨a, us, ea, q1, l1, mk⟩ := W1.seq1 h1 s1
    subst ea
    exact ⟨k, a, us, rfl, q1, q _ [.ref a] H' rfl W1 fun G' kp' => yl_seq h1 s1⟩
  cases d <;> first | exact z.elim | skip
  · have e := W'.isStr
    subst e
    exact .inr ⟨_, rfl, z _ [] H' rfl W'.drop fun G' kp' => yl_str⟩
  · exact .inl (go _ _ rfl (frzs_solid _) z)
  · exact .inl (go _ _ rfl (frzs_solid _) z)
/-! ### targets' lengths -/
def LenG (g : WGs) (n : Nat) : Prop := ∀ ds ρ P, g ds ρ P → ds.length = n
def GoG (g : WG) : Prop := (∀ d ρ P P', (∀ r, P r → P' r) → g d ρ P → g d ρ P') ∧ ∀ d ρ (C : Prop), g d ρ (fun _ => C) → C
theorem gg_N {i : Nat} : GoG (gN i) := ⟨fun d ρ P P' hp q => hp _ q, fun d ρ C q => q⟩
def GosG (g : WGs) : Prop := (∀ d ρ P P', (∀ r, P r → P' r) → g d ρ P → g d ρ P') ∧ ∀ d ρ (C : Prop), g d ρ (fun _ => C) → C
theorem gg_n : GosG gsN := ⟨fun d ρ P P' hp q => ⟨q.1, hp _ q.2⟩, fun d ρ C q => q.2⟩
theorem gg_c {g : WG} {r : WGs} (h1 : GoG g) (h2 : GosG r) : GosG (gsC g r) := by
  refine ⟨fun d ρ P P' hp q => ?_, fun d ρ C q => ?_⟩
  · cases d with
    | nil => exact q.elim
    | cons d es => exact h1.1 _ _ _ _ (fun ρ1 z => h2.1 _ _ _ _ hp z) q
  · cases d with
    | nil => exact q.elim
    | cons d es => exact h1.2 d ρ C (h1.1 _ _ _ _ (fun ρ1 z => h2.2 _ _ _ z) q)
theorem gg_T {g : WGs} (h : GosG g) : GoG (gT g) := ⟨fun d ρ P P' hp q => by cases d <;> first | exact q.elim | exact h.1 _ _ _ _ hp q, fun d ρ C q => by cases d <;> first | exact q.elim | exact h.2 _ _ _ q⟩
theorem ln_n : LenG gsN 0 := fun ds ρ P q => by rw [q.1]; rfl
theorem ln_c {g : WG} {r : WGs} {n : Nat} (h1 : GoG g) (h : LenG r n) : LenG (gsC g r) (n + 1) := fun ds ρ P q => by
  cases ds with
  | nil => exact q.elim
  | cons d ds =>
    have q : g d ρ fun ρ1 => r ds ρ1 P := q
    have := h1.2 d ρ (ds.length = n) (h1.1 _ _ _ _ (fun ρ1 z => h _ _ _ z) q)
    simp [this]
theorem g_tup {es : List Expr} {k : Nat} {pos : Pos} {g : WGs} (hc : X.calm = true) (h : DGs X G kp es g) (hl : LenG g es.length) (hn : (assignEach es X.env).length = es.length := by rfl) (hst : (assignEach es X.env).findIdx? (·.1) = none := by rfl) : DG X G kp (.Tuple es k pos) (gT g) := dg_tup hc h hl hn hst
theorem gi_tup {es : List Expr} {k : Nat} {pos : Pos} {g : WGs} (hc : X.calm = true) (h : DGs X G kp es g) (hl : LenG g es.length) (hn : (assignEach es X.env).length = es.length := by rfl) (hst : (assignEach es X.env).findIdx? (·.1) = none := by rfl) : DGI X G kp true (.Tuple es k pos) g := dgi_tup hc h hl hn hst
end
end Bd

/-! Bd18: equations by which a def's reading is worked out over data. -/
namespace Bd
open PySem PySem.Spec PyProof.Rows L2
/-- a name's datum: lent -/
def nB (d : D) (i : Nat) (ρ : List D) (Q : D → Option Nat → List D → Prop) : Prop := match d with
  | .gone => False
  | .lst .own es => Q (.lst .own es) (some i) (ρ.set i .gone)
  | .dct .own ks es => Q (.dct .own ks es) (some i) (ρ.set i .gone)
  | .tup es => if solids es = true then Q (.tup es) none ρ else Q (.tup es) (some i) (ρ.set i .gone)
  | d => Q d none ρ
/-- .. shared -/
def nE (d : D) (i : Nat) (ρ : List D) (Q : D → List D → Prop) : Prop := match d with
  | .gone => False
  | .lst .own es => Q (.lst .shr (frzs es)) (ρ.set i (.lst .shr (frzs es)))
  | .dct .own ks es => Q (.dct .shr ks (frzs es)) (ρ.set i (.dct .shr ks (frzs es)))
  | .tup es => Q (.tup (frzs es)) (ρ.set i (.tup (frzs es)))
  | d => Q d ρ
/-- .. moved -/
def nM (d : D) (i : Nat) (ρ : List D) (Q : D → List D → Prop) : Prop := match d with
  | .gone => False
  | .lst .own es => Q (.lst .own es) (ρ.set i .gone)
  | .dct .own ks es => Q (.dct .own ks es) (ρ.set i .gone)
  | .tup es => if solids es = true then Q (.tup es) ρ else Q (.tup es) (ρ.set i .gone)
  | d => Q d ρ
section
variable {i : Nat} {ρ : List D}
theorem set_same {d : D} (h : ρ[i]? = some d) : ρ.set i d = ρ := by
  obtain ⟨hl, rfl⟩ := List.getElem?_eq_some_iff.mp h
  exact List.set_getElem_self hl
theorem wN_i {Q : D → Option Nat → List D → Prop} (d : D) (h : ρ[i]? = some d) (q : nB d i ρ Q) : wN i ρ Q := by
  refine ⟨d, h, ?_⟩
  cases d with
  | gone => exact q.elim
  | lst m es => cases m <;> exact ⟨trivial, q⟩
  | dct m ks es => cases m <;> exact ⟨trivial, q⟩
  | tup es => exact ⟨trivial, q⟩
  | _ => exact ⟨trivial, q⟩
theorem wV_i {Q : D → List D → Prop} (d : D) (h : ρ[i]? = some d) (q : nE d i ρ Q) : wV i ρ Q := by
  refine ⟨d, h, ?_⟩
  have s := set_same h
  cases d with
  | gone => exact q.elim
  | lst m es =>
    cases m with
    | own => exact ⟨trivial, by rw [D.frz]; exact q⟩
    | shr => exact ⟨trivial, by show Q _ (ρ.set i (.lst .shr es)); rw [s]; exact q⟩
    | con => exact ⟨trivial, by show Q _ (ρ.set i (.lst .con es)); rw [s]; exact q⟩
  | dct m ks es =>
    cases m with
    | own => exact ⟨trivial, by rw [D.frz]; exact q⟩
    | shr => exact ⟨trivial, by show Q _ (ρ.set i (.dct .shr ks es)); rw [s]; exact q⟩
    | con => exact ⟨trivial, by show Q _ (ρ.set i (.dct .con ks es)); rw [s]; exact q⟩
  | tup es => exact ⟨trivial, by rw [D.frz]; exact q⟩
  | non => exact ⟨trivial, by show Q _ (ρ.set i _); rw [show D.frz .non = .non from rfl, s]; exact q⟩
  | bl b => exact ⟨trivial, by show Q _ (ρ.set i _); rw [show D.frz (.bl b) = .bl b from rfl, s]; exact q⟩
  | int b => exact ⟨trivial, by show Q _ (ρ.set i _); rw [show D.frz (.int b) = .int b from rfl, s]; exact q⟩
  | str b => exact ⟨trivial, by show Q _ (ρ.set i _); rw [show D.frz (.str b) = .str b from rfl, s]; exact q⟩
  | opq b => exact ⟨trivial, by show Q _ (ρ.set i _); rw [show D.frz (.opq b) = .opq b from rfl, s]; exact q⟩
theorem wM_i {Q : D → List D → Prop} (d : D) (h : ρ[i]? = some d) (q : nM d i ρ Q) : wMv i ρ Q := by
  refine ⟨d, h, ?_⟩
  cases d with
  | gone => exact q.elim
  | lst m es => cases m <;> exact ⟨trivial, q⟩
  | dct m ks es => cases m <;> exact ⟨trivial, q⟩
  | tup es => exact ⟨trivial, q⟩
  | _ => exact ⟨trivial, q⟩
theorem wN_eq (Q : D → Option Nat → List D → Prop) : wN i ρ Q = nB (ρ.getD i .gone) i ρ Q := by
  cases h : ρ[i]? with
  | none =>
    rw [List.getD_eq_getElem?_getD, h]
    exact propext ⟨fun ⟨d, e, _⟩ => (by rw [h] at e; cases e), fun q => False.elim q⟩
  | some d =>
    rw [List.getD_eq_getElem?_getD, h]
    refine propext ⟨fun ⟨d', e, t, q⟩ => ?_, fun q => wN_i d h q⟩
    rw [h] at e; cases e
    show nB d i ρ Q
    cases d with
    | gone => exact t.elim
    | lst m es => cases m <;> exact q
    | dct m ks es => cases m <;> exact q
    | tup es => exact q
    | _ => exact q
theorem wM_eq (Q : D → List D → Prop) : wMv i ρ Q = nM (ρ.getD i .gone) i ρ Q := by
  cases h : ρ[i]? with
  | none =>
    rw [List.getD_eq_getElem?_getD, h]
    exact propext ⟨fun ⟨d, e, _⟩ => (by rw [h] at e; cases e), fun q => False.elim q⟩
  | some d =>
    rw [List.getD_eq_getElem?_getD, h]
    refine propext ⟨fun ⟨d', e, t, q⟩ => ?_, fun q => wM_i d h q⟩
    rw [h] at e; cases e
    show nM d i ρ Q
    cases d with
    | gone => exact t.elim
    | lst m es => cases m <;> exact q
    | dct m ks es => cases m <;> exact q
    | tup es => exact q
    | _ => exact q
theorem wV_eq (Q : D → List D → Prop) : wV i ρ Q = nE (ρ.getD i .gone) i ρ Q := by
  cases h : ρ[i]? with
  | none =>
    rw [List.getD_eq_getElem?_getD, h]
    exact propext ⟨fun ⟨d, e, _⟩ => (by rw [h] at e; cases e), fun q => False.elim q⟩
  | some d =>
    rw [List.getD_eq_getElem?_getD, h]
    refine propext ⟨fun ⟨d', e, t, q⟩ => ?_, fun q => wV_i d h q⟩
    rw [h] at e; cases e
    have s := set_same h
    show nE d i ρ Q
    have key : ∀ x : D, x.frz = d.frz → Q d.frz (ρ.set i d.frz) := fun _ _ => q
    cases d with
    | gone => exact t.elim
    | lst m es =>
      cases m with
      | own => rw [D.frz] at q; exact q
      | shr => have q : Q _ (ρ.set i (.lst .shr es)) := q; rw [s] at q; exact q
      | con => have q : Q _ (ρ.set i (.lst .con es)) := q; rw [s] at q; exact q
    | dct m ks es =>
      cases m with
      | own => rw [D.frz] at q; exact q
      | shr => have q : Q _ (ρ.set i (.dct .shr ks es)) := q; rw [s] at q; exact q
      | con => have q : Q _ (ρ.set i (.dct .con ks es)) := q; rw [s] at q; exact q
    | tup es => rw [D.frz] at q; exact q
    | non => have q : Q .non (ρ.set i .non) := q; rw [s] at q; exact q
    | bl b => have q : Q (.bl b) (ρ.set i (.bl b)) := q; rw [s] at q; exact q
    | int b => have q : Q (.int b) (ρ.set i (.int b)) := q; rw [s] at q; exact q
    | str b => have q : Q (.str b) (ρ.set i (.str b)) := q; rw [s] at q; exact q
    | opq b => have q : Q (.opq b) (ρ.set i (.opq b)) := q; rw [s] at q; exact q
end
/-! ### by the datum -/
section
variable {i : Nat} {ρ : List D} {Q : D → Option Nat → List D → Prop} {R : D → List D → Prop}
theorem nB_non : nB .non i ρ Q = Q .non none ρ := rfl
theorem nB_bl {b : Bool} : nB (.bl b) i ρ Q = Q (.bl b) none ρ := rfl
theorem nB_int {b : Int} : nB (.int b) i ρ Q = Q (.int b) none ρ := rfl
theorem nB_str {b : Str} : nB (.str b) i ρ Q = Q (.str b) none ρ := rfl
theorem nB_opq {b : V} : nB (.opq b) i ρ Q = Q (.opq b) none ρ := rfl
theorem nB_own {es : List D} : nB (.lst .own es) i ρ Q = Q (.lst .own es) (some i) (ρ.set i .gone) := rfl
theorem nB_shr {es : List D} : nB (.lst .shr es) i ρ Q = Q (.lst .shr es) none ρ := rfl
theorem nB_con {es : List D} : nB (.lst .con es) i ρ Q = Q (.lst .con es) none ρ := rfl
theorem nB_down {ks : List Key} {es : List D} : nB (.dct .own ks es) i ρ Q = Q (.dct .own ks es) (some i) (ρ.set i .gone) := rfl
theorem nB_dshr {ks : List Key} {es : List D} : nB (.dct .shr ks es) i ρ Q = Q (.dct .shr ks es) none ρ := rfl
theorem nB_dcon {ks : List Key} {es : List D} : nB (.dct .con ks es) i ρ Q = Q (.dct .con ks es) none ρ := rfl
theorem nB_tup {es : List D} : nB (.tup es) i ρ Q = if solids es = true then Q (.tup es) none ρ else Q (.tup es) (some i) (ρ.set i .gone) := rfl
theorem nE_non : nE .non i ρ R = R .non ρ := rfl
theorem nE_bl {b : Bool} : nE (.bl b) i ρ R = R (.bl b) ρ := rfl
theorem nE_int {b : Int} : nE (.int b) i ρ R = R (.int b) ρ := rfl
theorem nE_str {b : Str} : nE (.str b) i ρ R = R (.str b) ρ := rfl
theorem nE_opq {b : V} : nE (.opq b) i ρ R = R (.opq b) ρ := rfl
theorem nE_own {es : List D} : nE (.lst .own es) i ρ R = R (.lst .shr (frzs es)) (ρ.set i (.lst .shr (frzs es))) := rfl
theorem nE_shr {es : List D} : nE (.lst .shr es) i ρ R = R (.lst .shr es) ρ := rfl
theorem nE_con {es : List D} : nE (.lst .con es) i ρ R = R (.lst .con es) ρ := rfl
theorem nE_down {ks : List Key} {es : List D} : nE (.dct .own ks es) i ρ R = R (.dct .shr ks (frzs es)) (ρ.set i (.dct .shr ks (frzs es))) := rfl
theorem nE_dshr {ks : List Key} {es : List D} : nE (.dct .shr ks es) i ρ R = R (.dct .shr ks es) ρ := rfl
theorem nE_dcon {ks : List Key} {es : List D} : nE (.dct .con ks es) i ρ R = R (.dct .con ks es) ρ := rfl
theorem nE_tup {es : List D} : nE (.tup es) i ρ R = R (.tup (frzs es)) (ρ.set i (.tup (frzs es))) := rfl
theorem nM_non : nM .non i ρ R = R .non ρ := rfl
theorem nM_bl {b : Bool} : nM (.bl b) i ρ R = R (.bl b) ρ := rfl
theorem nM_int {b : Int} : nM (.int b) i ρ R = R (.int b) ρ := rfl
theorem nM_str {b : Str} : nM (.str b) i ρ R = R (.str b) ρ := rfl
theorem nM_opq {b : V} : nM (.opq b) i ρ R = R (.opq b) ρ := rfl
theorem nM_own {es : List D} : nM (.lst .own es) i ρ R = R (.lst .own es) (ρ.set i .gone) := rfl
theorem nM_shr {es : List D} : nM (.lst .shr es) i ρ R = R (.lst .shr es) ρ := rfl
theorem nM_con {es : List D} : nM (.lst .con es) i ρ R = R (.lst .con es) ρ := rfl
theorem nM_down {ks : List Key} {es : List D} : nM (.dct .own ks es) i ρ R = R (.dct .own ks es) (ρ.set i .gone) := rfl
theorem nM_dshr {ks : List Key} {es : List D} : nM (.dct .shr ks es) i ρ R = R (.dct .shr ks es) ρ := rfl
theorem nM_dcon {ks : List Key} {es : List D} : nM (.dct .con ks es) i ρ R = R (.dct .con ks es) ρ := rfl
theorem nM_tup {es : List D} : nM (.tup es) i ρ R = if solids es = true then R (.tup es) ρ else R (.tup es) (ρ.set i .gone) := rfl
end
/-! ### isinstance, worked out -/
theorem tyN_bool : ("bool" ∈ tyNs) = True := eq_true (by decide)
theorem tyN_int : ("int" ∈ tyNs) = True := eq_true (by decide)
theorem tyN_str : ("str" ∈ tyNs) = True := eq_true (by decide)
theorem tyN_tuple : ("tuple" ∈ tyNs) = True := eq_true (by decide)
theorem tyN_list : ("list" ∈ tyNs) = True := eq_true (by decide)
theorem tyN_dict : ("dict" ∈ tyNs) = True := eq_true (by decide)
theorem tyS_non : (tyD (.non)).isSome = true := rfl
theorem isi_non_bool : isiD (.non) "bool" = false := rfl
theorem isi_non_int : isiD (.non) "int" = false := rfl
theorem isi_non_str : isiD (.non) "str" = false := rfl
theorem isi_non_tuple : isiD (.non) "tuple" = false := rfl
theorem isi_non_list : isiD (.non) "list" = false := rfl
theorem isi_non_dict : isiD (.non) "dict" = false := rfl
theorem tyS_bl {b : Bool} : (tyD (.bl b)).isSome = true := rfl
theorem isi_bl_bool {b : Bool} : isiD (.bl b) "bool" = true := rfl
theorem isi_bl_int {b : Bool} : isiD (.bl b) "int" = true := rfl
theorem isi_bl_str {b : Bool} : isiD (.bl b) "str" = false := rfl
theorem isi_bl_tuple {b : Bool} : isiD (.bl b) "tuple" = false := rfl
theorem isi_bl_list {b : Bool} : isiD (.bl b) "list" = false := rfl
theorem isi_bl_dict {b : Bool} : isiD (.bl b) "dict" = false := rfl
theorem tyS_int {b : Int} : (tyD (.int b)).isSome = true := rfl
theorem isi_int_bool {b : Int} : isiD (.int b) "bool" = false := rfl
theorem isi_int_int {b : Int} : isiD (.int b) "int" = true := rfl
theorem isi_int_str {b : Int} : isiD (.int b) "str" = false := rfl
theorem isi_int_tuple {b : Int} : isiD (.int b) "tuple" = false := rfl
theorem isi_int_list {b : Int} : isiD (.int b) "list" = false := rfl
theorem isi_int_dict {b : Int} : isiD (.int b) "dict" = false := rfl
theorem tyS_str {b : Str} : (tyD (.str b)).isSome = true := rfl
theorem isi_str_bool {b : Str} : isiD (.str b) "bool" = false := rfl
theorem isi_str_int {b : Str} : isiD (.str b) "int" = false := rfl
theorem isi_str_str {b : Str} : isiD (.str b) "str" = true := rfl
theorem isi_str_tuple {b : Str} : isiD (.str b) "tuple" = false := rfl
theorem isi_str_list {b : Str} : isiD (.str b) "list" = false := rfl
theorem isi_str_dict {b : Str} : isiD (.str b) "dict" = false := rfl
theorem tyS_tup {b : List D} : (tyD (.tup b)).isSome = true := rfl
theorem isi_tup_bool {b : List D} : isiD (.tup b) "bool" = false := rfl
theorem isi_tup_int {b : List D} : isiD (.tup b) "int" = false := rfl
theorem isi_tup_str {b : List D} : isiD (.tup b) "str" = false := rfl
theorem isi_tup_tuple {b : List D} : isiD (.tup b) "tuple" = true := rfl
theorem isi_tup_list {b : List D} : isiD (.tup b) "list" = false := rfl
theorem isi_tup_dict {b : List D} : isiD (.tup b) "dict" = false := rfl
theorem tyS_lst {m : M} {b : List D} : (tyD (.lst m b)).isSome = true := rfl
theorem isi_lst_bool {m : M} {b : List D} : isiD (.lst m b) "bool" = false := rfl
theorem isi_lst_int {m : M} {b : List D} : isiD (.lst m b) "int" = false := rfl
theorem isi_lst_str {m : M} {b : List D} : isiD (.lst m b) "str" = false := rfl
theorem isi_lst_tuple {m : M} {b : List D} : isiD (.lst m b) "tuple" = false := rfl
theorem isi_lst_list {m : M} {b : List D} : isiD (.lst m b) "list" = true := rfl
theorem isi_lst_dict {m : M} {b : List D} : isiD (.lst m b) "dict" = false := rfl
theorem tyS_dct {m : M} {ks : List Key} {b : List D} : (tyD (.dct m ks b)).isSome = true := rfl
theorem isi_dct_bool {m : M} {ks : List Key} {b : List D} : isiD (.dct m ks b) "bool" = false := rfl
theorem isi_dct_int {m : M} {ks : List Key} {b : List D} : isiD (.dct m ks b) "int" = false := rfl
theorem isi_dct_str {m : M} {ks : List Key} {b : List D} : isiD (.dct m ks b) "str" = false := rfl
theorem isi_dct_tuple {m : M} {ks : List Key} {b : List D} : isiD (.dct m ks b) "tuple" = false := rfl
theorem isi_dct_list {m : M} {ks : List Key} {b : List D} : isiD (.dct m ks b) "list" = false := rfl
theorem isi_dct_dict {m : M} {ks : List Key} {b : List D} : isiD (.dct m ks b) "dict" = true := rfl
theorem getD0 {d : D} {r : List D} : (d :: r).getD 0 .gone = d := rfl
theorem getDs {d : D} {r : List D} {n : Nat} : (d :: r).getD (n + 1) .gone = r.getD n .gone := by simp [List.getD]
theorem ints_solid (ns : List Int) : solids (ns.map D.int) = true := by
  induction ns with
  | nil => rfl
  | cons n r ih => rw [List.map_cons, solids, ih]; rfl
theorem ints_frz (ns : List Int) : frzs (ns.map D.int) = ns.map D.int := frzs_of_solid _ (ints_solid ns)
/-! ### big products, divisors -/
theorem log2_lt_of {n k : Nat} (h : n < 2 ^ k) : n.log2 ≤ k := by
  by_cases h0 : n = 0
  · subst h0; simp
  · exact Nat.le_of_lt ((Nat.log2_lt h0).mpr h)
theorem natAbs_lt_of {i : Int} {k : Nat} (h1 : -(2 ^ k) < i) (h2 : i < 2 ^ k) : i.natAbs < 2 ^ k := by
  have e : ((2 ^ k : Nat) : Int) = 2 ^ k := by simp
  omega
theorem mulW (a b : Nat) {i j : Int} (h1 : -(2 ^ a) < i) (h2 : i < 2 ^ a) (h3 : -(2 ^ b) < j) (h4 : j < 2 ^ b) (h : a + b < 1000000) : CMulW i j := by
  have x := log2_lt_of (natAbs_lt_of h1 h2)
  have y := log2_lt_of (natAbs_lt_of h3 h4)
  show _ + _ < 1000000
  omega
theorem divW (a : Nat) {i j : Int} (h1 : 0 < j) (h2 : j < 2 ^ a) (h : a < 9000) : CDivW i j := by
  have h3 : -(2 ^ a) < j := by
    have : (0 : Int) < 2 ^ a := Int.pow_pos (by decide)
    omega
  have x := log2_lt_of (natAbs_lt_of h3 h2)
  exact ⟨h1, by omega⟩
/-! ### what == compares -/
def okP (d : D) (n : Nat) : Prop := d.py.canLay0 = true ∧ d.py.depth ≤ n
theorem okP.le {d : D} {m n : Nat} (h : okP d m) (l : m ≤ n) : okP d n := ⟨h.1, Nat.le_trans h.2 l⟩
theorem okP_non {n : Nat} : okP .non n := ⟨by simp [D.py, PyData.canLay0], by simp [D.py, PyData.depth]⟩
theorem okP_bl {b : Bool} {n : Nat} : okP (.bl b) n := ⟨by simp [D.py, PyData.canLay0], by simp [D.py, PyData.depth]⟩
theorem okP_int {b : Int} {n : Nat} : okP (.int b) n := ⟨by simp [D.py, PyData.canLay0], by simp [D.py, PyData.depth]⟩
theorem okP_all {n : Nat} : ∀ {ds : List D}, (∀ d ∈ ds, okP d n) → PyData.canLayAll0 (pys ds) = true ∧ PyData.depthAll (pys ds) ≤ n
  | [], _ => ⟨by simp [pys, PyData.canLayAll0], by simp [pys, PyData.depthAll]⟩
  | d :: r, h => by
    have h1 := h d List.mem_cons_self
    have h2 := okP_all (ds := r) fun x hx => h x (List.mem_cons_of_mem _ hx)
    rw [pys, PyData.canLayAll0, PyData.depthAll, h1.1, h2.1]
    exact ⟨rfl, by have := h1.2; have := h2.2; omega⟩
theorem okP_tup {ds : List D} {n : Nat} (h : ∀ d ∈ ds, okP d n) : okP (.tup ds) (n + 1) := by
  have := okP_all h
  exact ⟨by rw [D.py, PyData.canLay0]; exact this.1, by rw [D.py, PyData.depth]; omega⟩
theorem okP_lst {m : M} {ds : List D} {n : Nat} (h : ∀ d ∈ ds, okP d n) : okP (.lst m ds) (n + 1) := by
  have := okP_all h
  exact ⟨by rw [D.py, PyData.canLay0]; exact this.1, by rw [D.py, PyData.depth]; omega⟩
theorem shp_of {d : D} {n : Nat} (h : okP d n) (l : n ≤ 64) : shp d := by
  unfold shp SeqAt.shaped
  rw [h.1, Bool.true_and, decide_eq_true_eq]
  exact Nat.le_trans h.2 l
theorem okP_ints {ns : List Int} {n : Nat} : ∀ d ∈ ns.map D.int, okP d n := fun d h => by
  obtain ⟨i, _, rfl⟩ := List.mem_map.mp h
  exact okP_int
theorem shp_non : shp .non = True := eq_true (shp_of (n := 0) okP_non (by decide))
theorem shp_bl {b : Bool} : shp (.bl b) = True := eq_true (shp_of (n := 0) okP_bl (by decide))
theorem shp_int {b : Int} : shp (.int b) = True := eq_true (shp_of (n := 0) okP_int (by decide))
theorem shp_tints {ns : List Int} : shp (.tup (ns.map D.int)) = True := eq_true (shp_of (n := 1) (okP_tup okP_ints) (by decide))
theorem shp_lints {m : M} {ns : List Int} : shp (.lst m (ns.map D.int)) = True := eq_true (shp_of (n := 1) (okP_lst okP_ints) (by decide))
theorem shp_tnil : shp (.tup []) = True := eq_true (shp_of (n := 1) (okP_tup (fun _ h => (List.not_mem_nil h).elim)) (by decide))
theorem shp_lnil {m : M} : shp (.lst m []) = True := eq_true (shp_of (n := 1) (okP_lst (fun _ h => (List.not_mem_nil h).elim)) (by decide))
theorem eqd_int {i j : Int} : eqd (.int i) (.int j) = decide (i = j) := by simp only [eqd, D.py, PyData.eqv]; by_cases h : i = j <;> simp [h]
theorem eqd_str {i j : Str} : eqd (.str i) (.str j) = decide (i = j) := by simp only [eqd, D.py, PyData.eqv]; by_cases h : i = j <;> simp [h]
theorem eqd_bl {i j : Bool} : eqd (.bl i) (.bl j) = decide (i = j) := by simp only [eqd, D.py, PyData.eqv]; by_cases h : i = j <;> simp [h]
theorem eqd_non : eqd .non .non = true := by simp only [eqd, D.py, PyData.eqv]
theorem eqv_ints : ∀ xs ys : List Int, PyData.eqvAll (pys (xs.map D.int)) (pys (ys.map D.int)) = decide (xs = ys)
  | [], [] => by simp [pys, PyData.eqvAll]
  | x :: xs, [] => by simp [pys, PyData.eqvAll]
  | [], y :: ys => by simp [pys, PyData.eqvAll]
  | x :: xs, y :: ys => by
    rw [List.map_cons, List.map_cons, pys, pys, PyData.eqvAll, eqv_ints xs ys, show PyData.eqv (D.int x).py (D.int y).py = decide (x = y) from eqd_int]
    by_cases h : x = y <;> by_cases h2 : xs = ys <;> simp [h, h2]
theorem eqd_tints {xs ys : List Int} : eqd (.tup (xs.map D.int)) (.tup (ys.map D.int)) = decide (xs = ys) := by
  simp only [eqd, D.py, PyData.eqv]; exact eqv_ints xs ys
theorem eqd_lints {m n : M} {xs ys : List Int} : eqd (.lst m (xs.map D.int)) (.lst n (ys.map D.int)) = decide (xs = ys) := by
  simp only [eqd, D.py, PyData.eqv]; exact eqv_ints xs ys
theorem dec_if {c : Prop} [Decidable c] {A B : Prop} : (if decide c = true then A else B) = if c then A else B := by simp
theorem dec_ifn {c : Prop} [Decidable c] {A B : Prop} : (if (!decide c) = true then A else B) = if c then B else A := by by_cases h : c <;> simp [h]
theorem two_le {i j : Nat} (h : i ≤ j) : (2 : Int) ^ i ≤ 2 ^ j := by
  have := Nat.pow_le_pow_right (n := 2) (by decide) h
  have e1 : ((2 ^ i : Nat) : Int) = 2 ^ i := by simp
  have e2 : ((2 ^ j : Nat) : Int) = 2 ^ j := by simp
  omega
theorem atI_nat {α : Type} {xs : List α} {k : Int} {x : α} (h0 : 0 ≤ k) (h : xs[k.toNat]? = some x) : atI xs k = some x := by
  have hl := (List.getElem?_eq_some_iff.mp h).1
  unfold atI ixN
  rw [if_pos h0, if_pos (by omega)]
  exact h
theorem atI_ints {ns : List Int} {k : Int} (h0 : 0 ≤ k) (h : k < (ns.length : Int)) : atI (ns.map D.int) k = some (.int (ns.getD k.toNat 0)) := by
  refine atI_nat h0 ?_
  have hl : k.toNat < ns.length := by omega
  rw [List.getElem?_map, List.getD_eq_getElem?_getD, List.getElem?_eq_getElem hl]
  rfl
theorem at0 {α : Type} {x : α} {xs : List α} : atI (x :: xs) 0 = some x := by simp [atI, ixN]
theorem at1 {α : Type} {x y : α} {xs : List α} : atI (x :: y :: xs) 1 = some y := by
  unfold atI ixN
  rw [if_pos (by decide), if_pos (by simp; omega)]
  rfl
theorem at2 {α : Type} {x y z : α} {xs : List α} : atI (x :: y :: z :: xs) 2 = some z := by
  unfold atI ixN
  rw [if_pos (by decide), if_pos (by simp; omega)]
  rfl
theorem ix_nat {n : Nat} {k : Int} (h0 : 0 ≤ k) (h : k < n) : ixN n k = some k.toNat := by
  unfold ixN
  rw [if_pos h0, if_pos h]
theorem ix0 {n : Nat} : ixN (n + 1) 0 = some 0 := by unfold ixN; rw [if_pos (by decide), if_pos (by omega)]; rfl
theorem ix1 {n : Nat} : ixN (n + 1 + 1) 1 = some 1 := by unfold ixN; rw [if_pos (by decide), if_pos (by omega)]; rfl
theorem ix2 {n : Nat} : ixN (n + 1 + 1 + 1) 2 = some 2 := by unfold ixN; rw [if_pos (by decide), if_pos (by omega)]; rfl
theorem ex1 {α : Type} {a : α} {P : α → Prop} (h : P a) : ∃ d, some a = some d ∧ P d := ⟨a, rfl, h⟩
end Bd

/-! Bd19: loops and comprehensions over data, by invariants. -/
namespace Bd
open PySem PySem.Spec PyProof.Rows L2
/-- what is to be shown of a def's reading -/
def Tells (S : SD) (kp : List Bool) (n : Nat) (wd : XD → WS) : Prop := ∀ ds Q E, S ds Q E → wd (fun c ns ρ => E c ns (outs kp ρ)) { nx := fun ρ => Q .non (outs kp ρ), rt := fun d ρ => Q d (outs kp ρ) } (ds ++ List.replicate n .gone)
theorem forL_ok {g : WGs} {wb : WS} {E : DEnds} : ∀ (items : List (List D)) (I : Nat → List D → Prop) (n : Nat) (ρ : List D), I n ρ →
    (∀ i its ρ (K : List D → Prop), items[i]? = some its → I (n + i) ρ → (∀ ρ', I (n + i + 1) ρ' → K ρ') → g its ρ fun ρ1 => wb { E with nx := K, ct := K, bk := E.nx } ρ1) → (∀ ρ, I (n + items.length) ρ → E.nx ρ) → forL g wb E items ρ
  | [], I, n, ρ, h, _, hd => hd ρ h
  | its :: r, I, n, ρ, h, hs, hd => by
    refine hs 0 its ρ _ rfl h fun ρ' h' => forL_ok r I (n + 1) ρ' h' (fun i its ρ K hi h hk => hs (i + 1) its ρ K hi (by rw [← Nat.add_assoc, Nat.add_right_comm]; exact h) (by rw [← Nat.add_assoc, Nat.add_right_comm n i 1]; exact hk)) fun ρ h => hd ρ (by rw [List.length_cons, ← Nat.add_assoc, Nat.add_right_comm]; exact h)
/-- from the start -/
theorem forL_inv {g : WGs} {wb : WS} {E : DEnds} {items : List (List D)} {ρ : List D} (I : Nat → List D → Prop) (h0 : I 0 ρ)
    (hs : ∀ i its ρ (K : List D → Prop), items[i]? = some its → I i ρ → (∀ ρ', I (i + 1) ρ' → K ρ') → g its ρ fun ρ1 => wb { E with nx := K, ct := K, bk := E.nx } ρ1) (hd : ∀ ρ, I items.length ρ → E.nx ρ) : forL g wb E items ρ :=
  forL_ok items I 0 ρ h0 (fun i its ρ K hi h hk => hs i its ρ K hi (by rw [Nat.zero_add] at h; exact h) (by rw [Nat.zero_add] at hk; exact hk)) (by rw [Nat.zero_add]; exact hd)
theorem whileN_ok {wt : WT} {wb : WS} {E : DEnds} (I : Nat → List D → Prop)
    (hs : ∀ m ρ (K : List D → Prop), I m ρ → (∀ m' ρ', m' < m → I m' ρ' → K ρ') → wt ρ fun k r => if k = true then wb { E with nx := K, ct := K, bk := E.nx } r else E.nx r) : ∀ (m n : Nat) (ρ : List D), m < n → I m ρ → whileN wt wb E n ρ
  | m, 0, ρ, h, _ => absurd h (Nat.not_lt_zero _)
  | m, n + 1, ρ, h, hi => hs m ρ _ hi fun m' ρ' hm hi' => whileN_ok I hs m' n ρ' (by omega) hi'
theorem wsW_inv {wt : WT} {wb : WS} {E : DEnds} {ρ : List D} (I : Nat → List D → Prop) (m : Nat) (h0 : I m ρ)
    (hs : ∀ m ρ (K : List D → Prop), I m ρ → (∀ m' ρ', m' < m → I m' ρ' → K ρ') → wt ρ fun k r => if k = true then wb { E with nx := K, ct := K, bk := E.nx } r else E.nx r) : wsW wt wb E ρ :=
  ⟨m + 1, whileN_ok I hs m (m + 1) ρ (Nat.lt_succ_self m) h0⟩
theorem lcL_ok {g : WGs} {wt : WT} {we : WE} {own : List Nat} {Q : List D → List D → Prop} : ∀ (items : List (List D)) (I : Nat → List D → List D → Prop) (n : Nat) (acc ρ : List D), I n acc ρ →
    (∀ i its acc ρ (K : List D → List D → Prop), items[i]? = some its → I (n + i) acc ρ → (∀ acc' ρ', I (n + i + 1) acc' ρ' → K acc' ρ') → g its ρ fun ρ1 => wt ρ1 fun b ρ2 => if b = true then we ρ2 fun d ρ3 => K (acc ++ [d]) (wipeD ρ3 own) else K acc (wipeD ρ2 own)) →
    (∀ acc ρ, I (n + items.length) acc ρ → Q acc ρ) → lcL g wt we own Q items acc ρ
  | [], I, n, acc, ρ, h, _, hd => hd acc ρ h
  | its :: r, I, n, acc, ρ, h, hs, hd => by
    refine hs 0 its acc ρ (lcL g wt we own Q r) rfl h fun acc' ρ' h' => lcL_ok r I (n + 1) acc' ρ' h' (fun i its acc ρ K hi h hk => hs (i + 1) its acc ρ K hi (by rw [← Nat.add_assoc, Nat.add_right_comm]; exact h) (by rw [← Nat.add_assoc, Nat.add_right_comm n i 1]; exact hk)) fun acc ρ h => hd acc ρ (by rw [List.length_cons, ← Nat.add_assoc, Nat.add_right_comm]; exact h)
theorem lcL_inv {g : WGs} {wt : WT} {we : WE} {own : List Nat} {Q : List D → List D → Prop} {items : List (List D)} {ρ : List D} (I : Nat → List D → List D → Prop) (h0 : I 0 [] ρ)
    (hs : ∀ i its acc ρ (K : List D → List D → Prop), items[i]? = some its → I i acc ρ → (∀ acc' ρ', I (i + 1) acc' ρ' → K acc' ρ') → g its ρ fun ρ1 => wt ρ1 fun b ρ2 => if b = true then we ρ2 fun d ρ3 => K (acc ++ [d]) (wipeD ρ3 own) else K acc (wipeD ρ2 own))
    (hd : ∀ acc ρ, I items.length acc ρ → Q acc ρ) : lcL g wt we own Q items [] ρ :=
  lcL_ok items I 0 [] ρ h0 (fun i its acc ρ K hi h hk => hs i its acc ρ K hi (by rw [Nat.zero_add] at h; exact h) (by rw [Nat.zero_add] at hk; exact hk)) (by rw [Nat.zero_add]; exact hd)
/-- filtered and mapped, the slots as they were -/
theorem lcL_fm {g : WGs} {wt : WT} {we : WE} {own : List Nat} {Q : List D → List D → Prop} {ρ : List D} (p : List D → Bool) (f : List D → D) : ∀ {items : List (List D)} {acc : List D},
    (∀ its ∈ items, ∀ (K : D → List D → Prop) (K2 : List D → Prop), (p its = true → K (f its) ρ) → (p its = false → K2 ρ) → g its ρ fun ρ1 => wt ρ1 fun b ρ2 => if b = true then we ρ2 fun d ρ3 => K d (wipeD ρ3 own) else K2 (wipeD ρ2 own)) →
    Q (acc ++ (items.filter p).map f) ρ → lcL g wt we own Q items acc ρ
  | [], acc, _, q => by simpa [lcL] using q
  | its :: r, acc, hs, q => by
    refine hs its List.mem_cons_self (fun d ρ' => lcL g wt we own Q r (acc ++ [d]) ρ') (fun ρ' => lcL g wt we own Q r acc ρ') (fun hp => ?_) fun hp => ?_
    · refine lcL_fm p f (fun its' hm => hs its' (List.mem_cons_of_mem _ hm)) ?_
      rw [List.filter_cons_of_pos hp, List.map_cons] at q
      simpa using q
    · refine lcL_fm p f (fun its' hm => hs its' (List.mem_cons_of_mem _ hm)) ?_
      rw [List.filter_cons_of_neg (by simp [hp])] at q
      exact q
/-- mapped, the slots as they were -/
theorem lcL_map {g : WGs} {we : WE} {own : List Nat} {Q : List D → List D → Prop} {ρ : List D} (f : List D → D) : ∀ {items : List (List D)} {acc : List D},
    (∀ its ∈ items, ∀ (K : D → List D → Prop), K (f its) ρ → g its ρ fun ρ1 => we ρ1 fun d ρ3 => K d (wipeD ρ3 own)) →
    Q (acc ++ items.map f) ρ → lcL g wYes we own Q items acc ρ
  | [], acc, _, q => by simpa [lcL] using q
  | its :: r, acc, hs, q => by
    refine hs its List.mem_cons_self (fun d ρ' => lcL g wYes we own Q r (acc ++ [d]) ρ') ?_
    refine lcL_map f (fun its' hm => hs its' (List.mem_cons_of_mem _ hm)) ?_
    simpa using q
theorem ones_map {α : Type} (f : α → D) (l : List α) : ones (l.map f) = l.map fun a => [f a] := by simp [ones, List.map_map, Function.comp_def]
end Bd

/-! Bd20: names lent late: behind the other arguments, behind an index. -/
namespace Bd
open PySem PySem.Spec PyProof.Rows L2
/-- an argument: worked out at its turn, or a name lent at the end -/
abbrev LA := WE ⊕ Nat
def evL : List LA → List D → (List (D ⊕ Nat) → List D → Prop) → Prop
  | [], ρ, Q => Q [] ρ
  | .inl w :: r, ρ, Q => w ρ fun d ρ1 => evL r ρ1 fun as => Q (.inl d :: as)
  | .inr i :: r, ρ, Q => there (ρ.getD i .gone) ∧ evL r ρ fun as => Q (.inr i :: as)
theorem getD_there {ρ : List D} {j : Nat} (h : there (ρ.getD j .gone)) : ρ[j]? = some (ρ.getD j .gone) := by
  rw [List.getD_eq_getElem?_getD] at h ⊢
  cases e : ρ[j]? with
  | none => rw [e] at h; exact h.elim
  | some x => rfl
def takeL : List (D ⊕ Nat) → List D → (List D → List (Option Nat) → List D → Prop) → Prop
  | [], ρ, Q => Q [] [] ρ
  | .inl d :: as, ρ, Q => takeL as ρ fun es os r => Q (d :: es) (none :: os) r
  | .inr i :: as, ρ, Q => wN i ρ fun d o r => takeL as r fun es os r2 => Q (d :: es) (o :: os) r2
def wBL (l : List LA) : WBs := fun ρ Q => evL l ρ fun as r => takeL as r Q
section
variable {K : PySem.W.Frag} {G : Gm} {kp : List Bool} {σ : Sl} {ρ : List D} {vs us : List V} {ds es : List D} {H : Hp} {v : V} {d : D}
theorem takeL_mono : ∀ (as : List (D ⊕ Nat)) (ρ : List D) (P P' : List D → List (Option Nat) → List D → Prop), (∀ a b c, P a b c → P' a b c) → takeL as ρ P → takeL as ρ P'
  | [], ρ, P, P', h, q => h _ _ _ q
  | .inl d :: as, ρ, P, P', h, q => takeL_mono as ρ _ _ (fun a b c z => h _ _ _ z) q
  | .inr i :: as, ρ, P, P', h, ⟨d, h1, h2, q⟩ => ⟨d, h1, h2, by
    split at q
    · rename_i z; rw [if_pos z]; exact takeL_mono as _ _ _ (fun a b c z => h _ _ _ z) q
    · rename_i z; rw [if_neg z]; exact takeL_mono as _ _ _ (fun a b c z => h _ _ _ z) q⟩
/-- the values that stand for late arguments: of a worked-out one the temporary, of a name the slot's -/
def LateV (σ : Sl) : List (D ⊕ Nat) → List V → Prop
  | [], us => us = []
  | .inl _ :: as, u :: us => LateV σ as us
  | .inr i :: as, u :: us => σ[i]? = some (some u) ∧ LateV σ as us
  | _ :: _, [] => False
def nnV : List (D ⊕ Nat) → List V → List V
  | .inl _ :: as, u :: us => u :: nnV as us
  | .inr _ :: as, _ :: us => nnV as us
  | _, _ => []
def nnD : List (D ⊕ Nat) → List D
  | .inl d :: as => d :: nnD as
  | .inr _ :: as => nnD as
  | [] => []
theorem World.takeL : ∀ {as : List (D ⊕ Nat)} {us : List V} {ρ : List D} {du : List V} {de : List D} {P : List D → List (Option Nat) → List D → Prop}, du.length = de.length → LateV σ as us → World K G kp σ ρ (du ++ (nnV as us ++ vs)) (de ++ (nnD as ++ ds)) H → Bd.takeL as ρ P →
    ∃ es os r, us.length = es.length ∧ World K G kp σ r (du ++ us ++ vs) (de ++ es ++ ds) H ∧ Lent σ us os ∧ P es os r
  | [], us, ρ, du, de, P, l, lv, W, q => by
    have e : us = [] := lv
    subst e
    exact ⟨[], [], ρ, rfl, by simpa [nnV, nnD] using W, trivial, q⟩
  | .inl d :: as, u :: us, ρ, du, de, P, l, lv, W, q => by
    obtain ⟨es, os, r, l2, W2, hl, z⟩ := World.takeL (as := as) (us := us) (du := du ++ [u]) (de := de ++ [d]) (by simp [l]) lv (by simpa [nnV, nnD] using W) q
    exact ⟨d :: es, none :: os, r, by simp [l2], by simpa using W2, ⟨fun _ e => (by cases e), hl⟩, z⟩
  | .inr i :: as, u :: us, ρ, du, de, P, l, ⟨hu, lv⟩, W, ⟨d, h1, h2, q⟩ => by
    by_cases s : d.solid = true
    · rw [if_pos s] at q
      obtain ⟨v, e, W'⟩ := W.copy h1 h2.ne s
      rw [hu] at e; cases e
      have W1 : World K G kp σ ρ (du ++ u :: (nnV as us ++ vs)) (de ++ d :: (nnD as ++ ds)) H := World.tor W' l
      obtain ⟨es, os, r, l2, W2, hl, z⟩ := World.takeL (as := as) (us := us) (du := du ++ [u]) (de := de ++ [d]) (by simp [l]) lv (by simpa using W1) q
      exact ⟨d :: es, none :: os, r, by simp [l2], by simpa using W2, ⟨fun _ e => (by cases e), hl⟩, z⟩
    · rw [if_neg s] at q
      obtain ⟨v, e, W'⟩ := W.take h1 h2.ne
      rw [hu] at e; cases e
      have W1 : World K G kp σ (ρ.set i .gone) (du ++ u :: (nnV as us ++ vs)) (de ++ d :: (nnD as ++ ds)) H := World.tor W' l
      obtain ⟨es, os, r, l2, W2, hl, z⟩ := World.takeL (as := as) (us := us) (du := du ++ [u]) (de := de ++ [d]) (by simp [l]) lv (by simpa using W1) q
      exact ⟨d :: es, some i :: os, r, by simp [l2], by simpa using W2, ⟨fun j e => by cases e; exact hu, hl⟩, z⟩
  | .inl _ :: _, [], _, _, _, _, _, lv, _, _ => lv.elim
  | .inr _ :: _, [], _, _, _, _, _, lv, _, _ => lv.elim
end
/-- arguments, some lent late -/
def tDL (K : PySem.W.Frag) (G : Gm) (kp : List Bool) (l : List LA) : TA := fun σ H Q => ∃ ρ vs ds, World K G kp σ ρ vs ds H ∧ evL l ρ fun as r => ∀ us H', LateV σ as us → World K G kp σ r (nnV as us ++ vs) (nnD as ++ ds) H' → Q us H'
structure DL (X : Cx) (G : Gm) (kp : List Bool) (es : List Expr) (l : List LA) : Prop where
  mono : ∀ ρ P P', (∀ a r, P a r → P' a r) → evL l ρ P → evL l ρ P'
  run : PA X es (tDL X.K G kp l)
section
variable {X : Cx} {G : Gm} {kp : List Bool} {e o i : Expr} {es : List Expr} {pos : Pos} {we : WE} {wi : WB} {l : List LA} {x : Str} {j : Nat}
theorem dl_nil : DL X G kp [] [] := ⟨fun ρ P P' h q => h _ _ q, pa_imp pa_nil fun σ H Q ⟨ρ, vs, ds, W, q⟩ => q [] H rfl W⟩
theorem dl_val (he : DE X G kp e we) (hr : DL X G kp es l) (hs : starEach (e :: es) X.env = (false, eval e X.env) :: starEach es X.env := by rfl) : DL X G kp (e :: es) (.inl we :: l) :=
  ⟨fun ρ P P' h q => he.mono _ _ _ (fun d r z => hr.mono _ _ _ (fun a r z => h _ _ z) z) q, pa_imp (pa_cons he.run hr.run hs) fun σ H Q ⟨ρ, vs, ds, W, q⟩ => ⟨ρ, vs, ds, W, he.mono _ _ _ (fun d r z v H' W' => ⟨r, v :: vs, d :: ds, W', hr.mono _ _ _ (fun as r2 z us H2 lv W2 => z (v :: us) H2 lv ?_) z⟩) q⟩⟩
where finally
  have lw := W2.lv
  have ll : (nnV as us).length = (nnD as).length := by
    have : (nnV as us ++ v :: vs).length = (nnD as ++ d :: ds).length := lw
    have l0 := W.lv
    simp at this
    omega
  exact World.rot W2 ll
theorem dl_name (hi : X.N[j]? = some x) (hv : Vis X.env.scope x) (h : nm x = true) (hr : DL X G kp es l) (hs : starEach (.Name x pos :: es) X.env = (false, eval (.Name x pos) X.env) :: starEach es X.env := by rfl) : DL X G kp (.Name x pos :: es) (.inr j :: l) :=
  ⟨fun ρ P P' h q => ⟨q.1, hr.mono _ _ _ (fun a r z => h _ _ z) q.2⟩, pa_imp (pa_cons (pe_var hi hv (nm1 h) (nm2 h)) hr.run hs) fun σ H Q ⟨ρ, vs, ds, W, h2, q⟩ => by
    obtain ⟨v, e, _⟩ := W.take (getD_there h2) h2.ne
    exact ⟨v, e, ρ, vs, ds, W, hr.mono _ _ _ (fun as r2 z us H2 lv W2 => z (v :: us) H2 ⟨e, lv⟩ W2) q⟩⟩
theorem dbs_late (h : DL X G kp es l) : DBs X G kp es (wBL l) :=
  ⟨fun ρ P P' hp q => h.mono _ _ _ (fun as r z => takeL_mono _ _ _ _ hp z) q, pa_imp h.run fun σ H Q ⟨ρ, vs, ds, W, q⟩ => ⟨ρ, vs, ds, W, h.mono _ _ _ (fun as r z us H' lv W' => by
    obtain ⟨es, os, r2, l2, W2, hl, z⟩ := World.takeL (du := []) (de := []) rfl lv (by simpa using W') z
    exact z us H' l2 (by simpa using W2) hl) q⟩⟩
/-- x[i] = v, the index worked out while x keeps its slot -/
def gSn (j : Nat) (wi : WE) : WG := fun d ρ Q => there (ρ.getD j .gone) ∧ wi ρ fun y ρ2 => setD (ρ2.getD j .gone) y d fun x' => Q (ρ2.set j x')
theorem dg_subN {p : Pos} {wi : WE} (hj : X.N[j]? = some x) (hv : Vis X.env.scope x) (h : nm x = true) (hi : DE X G kp i wi) (ha : ∀ v, assign (.Subscript (.Name x p) i pos) X.env v = (do
      let ov ← holding [v] (eval (.Name x p) X.env)
      let iv ← holding [v, ov] (eval i X.env)
      standAt pos
      holding [v, ov, iv] (setItem ov iv v)
      release [v, ov, iv] []) := by intro _; rfl) : DG X G kp (.Subscript (.Name x p) i pos) (gSn j wi) := by
  refine ⟨fun d ρ P P' hp q => ⟨q.1, hi.mono _ _ _ (fun y r z => setD_mono (fun _ z => hp _ z) z) q.2⟩, pg_imp (pg_sub (pe_var hj hv (nm1 h) (nm2 h)) hi.run set_list ha) fun v σ H Q ⟨ρ, vs, d, ds, W, h2, q⟩ => ?_⟩
  obtain ⟨xv, e, _⟩ := W.take (getD_there h2) h2.ne
  refine ⟨xv, e, ρ, _, _, W, hi.mono _ _ _ (fun y r z yv H2 W2 => ?_) q⟩
  have h4 : there (r.getD j .gone) := by
    cases e : r.getD j .gone <;> rw [e] at z <;> first | trivial | exact False.elim (by cases y <;> exact z)
  have h3 := getD_there h4
  obtain ⟨xv', e', W3⟩ := W2.take h3 h4.ne
  rw [e] at e'; cases e'
  generalize r.getD j .gone = x at z h4 h3 W3
  match x, y, z with
  | .lst .own es, .int k, ⟨n, hn, z⟩ =>
    have ek := W2.isInt
    subst ek
    have W4 := W3.swap.drop.swap
    obtain ⟨a, us, ea, hH, l, mk⟩ := World.relist (xs := [v]) (fs := [d]) W4 rfl
    subst ea
    refine ⟨a, us, k, n, rfl, rfl, hH, by rw [l]; exact hn, ?_⟩
    have W5 : World X.K G kp σ (r.set j .gone) (.ref a :: vs) (.lst .own (es.set n d) :: ds) _ := mk [] [] (us.set n v) (es.set n d) rfl (by simp [l]) fun F B q => Reps.replace q
    have W6 := W5.give e
    rw [List.set_set] at W6
    exact z _ _ W6
end
theorem th_lst {m : M} {es : List D} : there (.lst m es) = True := rfl
theorem th_dct {m : M} {ks : List Key} {es : List D} : there (.dct m ks es) = True := rfl
theorem th_tup {es : List D} : there (.tup es) = True := rfl
theorem th_int {i : Int} : there (.int i) = True := rfl
theorem th_bl {i : Bool} : there (.bl i) = True := rfl
theorem th_str {i : Str} : there (.str i) = True := rfl
theorem th_non : there .non = True := rfl
theorem th_opq {v : V} : there (.opq v) = True := rfl
end Bd

/-! Bd21: sorting pairs of ints; slices; enumerate. -/
namespace Bd
open PySem PySem.Spec PyProof.Rows L2
theorem leD_int {a b : Int} : leD (.int a) (.int b) = decide (a ≤ b) := by
  simp only [leD, PySem.W.dataLe, PySem.W.sortLe, D.py, PySem.W.keyToks, listOrd, cond_false]
  have h := PySem.W.dataLt_int b a
  unfold PySem.W.dataLt at h
  simp only [PySem.W.keyToks] at h
  rw [h]
  by_cases x : a ≤ b <;> simp [x] <;> omega
/-- pairs of ints -/
def enc2 (p : Int × Int) : D := .tup [.int p.1, .int p.2]
def le2 (p q : Int × Int) : Bool := decide (p.1 < q.1 ∨ (p.1 = q.1 ∧ p.2 ≤ q.2))
theorem leD_enc2 (p q : Int × Int) : leD (enc2 p) (enc2 q) = le2 p q := by
  simp only [enc2, leD, PySem.W.dataLe, PySem.W.sortLe, D.py, pys, PySem.W.keyToks, PySem.W.keyToksAll, listOrd, cond_false, PyProof.Rows.lexLt, itemOrd, itemLt, List.cons_append, List.nil_append, le2]
  by_cases h1 : p.1 < q.1 <;> by_cases h2 : q.1 < p.1 <;> by_cases h3 : q.2 < p.2 <;> simp [h1, h2, h3] <;> omega
theorem sort_enc2 (l : List (Int × Int)) : (l.map enc2).mergeSort leD = (l.mergeSort le2).map enc2 := (List.map_mergeSort fun a _ b _ => (leD_enc2 a b).symm).symm
theorem sort_ints (l : List Int) : (l.map D.int).mergeSort leD = (l.mergeSort fun a b => decide (a ≤ b)).map D.int := (List.map_mergeSort (f := D.int) (s := leD) (r := fun a b => decide (a ≤ b)) fun a _ b _ => (leD_int (a := a) (b := b)).symm).symm
theorem alike_enc2 (l : List (Int × Int)) : alikeD (l.map enc2) := by
  intro d hd e he
  simp only [List.map_map] at hd he
  obtain ⟨p, _, rfl⟩ := List.mem_map.mp hd
  obtain ⟨q, _, rfl⟩ := List.mem_map.mp he
  simp [enc2, D.py, pys, PySem.W.alike, PySem.W.alikeAll]
theorem sortable_enc2 (l : List (Int × Int)) : sortableD (l.map enc2) := .inl fun d hd => by
  simp only [List.map_map] at hd
  obtain ⟨p, _, rfl⟩ := List.mem_map.mp hd
  exact ⟨.int p.1, [.int p.2], by simp [enc2, D.py, pys]⟩
theorem okd_enc2 (l : List (Int × Int)) : Okd (l.map enc2) := fun d hd => by
  obtain ⟨p, _, rfl⟩ := List.mem_map.mp hd
  have h : okP (enc2 p) 1 := okP_tup fun d hd => by
    simp only [List.mem_cons, List.not_mem_nil, or_false] at hd
    rcases hd with rfl | rfl <;> exact okP_int
  exact ⟨h.1, Nat.le_trans h.2 (by decide)⟩
theorem solid_enc2 (p : Int × Int) : (enc2 p).solid = true := rfl
theorem solids_map {α : Type} {f : α → D} (h : ∀ a, (f a).solid = true) : ∀ l : List α, solids (l.map f) = true
  | [] => rfl
  | a :: r => by rw [List.map_cons, solids, h a, solids_map h r]; rfl
theorem frzs_map {α : Type} {f : α → D} (h : ∀ a, (f a).solid = true) (l : List α) : frzs (l.map f) = l.map f := frzs_of_solid _ (solids_map h l)
theorem frzs_enc2 (l : List (Int × Int)) : frzs (l.map enc2) = l.map enc2 := frzs_map solid_enc2 l
theorem alike_ints (l : List Int) : alikeD (l.map D.int) := by
  intro d hd e he
  simp only [List.map_map] at hd he
  obtain ⟨p, _, rfl⟩ := List.mem_map.mp hd
  obtain ⟨q, _, rfl⟩ := List.mem_map.mp he
  simp [D.py, PySem.W.alike]
theorem sortable_ints (l : List Int) : sortableD (l.map D.int) := .inr fun d hd => by
  simp only [List.map_map] at hd
  obtain ⟨p, _, rfl⟩ := List.mem_map.mp hd
  exact ⟨by simp [D.py], fun xs => by simp [D.py]⟩
theorem okd_ints (l : List Int) : Okd (l.map D.int) := fun d hd => by
  have := okP_ints (n := 60) d hd
  exact ⟨this.1, this.2⟩
/-! ### slices -/
theorem cut_to {xs : List D} {k : Int} (h : 0 ≤ k) : cutD xs none (some k) = xs.take k.toNat := by
  have e : HT.sIx xs.length xs.length (some k) = min k.toNat xs.length := if_neg (by omega)
  unfold cutD
  rw [e, HT.sIx_none, List.drop_zero, Nat.sub_zero]
  by_cases hl : k.toNat ≤ xs.length
  · rw [Nat.min_eq_left hl]
  · rw [Nat.min_eq_right (by omega), List.take_length, List.take_of_length_le (by omega)]
theorem cut_from {xs : List D} {k : Int} (h : 0 ≤ k) : cutD xs (some k) none = xs.drop k.toNat := by
  have e : HT.sIx xs.length 0 (some k) = min k.toNat xs.length := if_neg (by omega)
  unfold cutD
  rw [e, HT.sIx_none]
  by_cases hl : k.toNat ≤ xs.length
  · rw [Nat.min_eq_left hl, List.take_of_length_le (by simp)]
  · rw [Nat.min_eq_right (by omega), List.drop_length, List.drop_of_length_le (by omega), List.take_nil]
theorem cut_all {xs : List D} : cutD xs none none = xs := by
  unfold cutD
  rw [HT.sIx_none, HT.sIx_none, List.drop_zero, Nat.sub_zero, List.take_length]
theorem cut_mid {xs : List D} {k n : Int} (h : 0 ≤ k) (hn : 0 ≤ n) : cutD xs (some k) (some n) = (xs.take n.toNat).drop k.toNat := by
  have e : HT.sIx xs.length 0 (some k) = min k.toNat xs.length := if_neg (by omega)
  have e2 : HT.sIx xs.length xs.length (some n) = min n.toNat xs.length := if_neg (by omega)
  unfold cutD
  rw [e, e2, List.drop_take]
  by_cases hl : k.toNat ≤ xs.length
  · rw [Nat.min_eq_left hl]
    by_cases hm : n.toNat ≤ xs.length
    · rw [Nat.min_eq_left hm]
    · rw [Nat.min_eq_right (by omega), List.take_of_length_le (by simp), List.take_of_length_le (by simp; omega)]
  · have e3 : min k.toNat xs.length = xs.length := Nat.min_eq_right (by omega)
    rw [e3, List.drop_length, List.drop_of_length_le (by omega), List.take_nil, List.take_nil]
theorem enums_ints (ps : List Int) : enums (ps.map D.int) = ps.zipIdx.map fun z => [D.int (z.2 : Nat), D.int z.1] := by
  unfold enums
  rw [List.zipIdx_map, List.map_map]
  rfl
/-! ### in -/
section
variable {neg : Bool} {x : D} {m : M} {xs : List D} {Q : D → D → D → Prop}
theorem memD_lst : memD neg x (.lst m xs) Q = (shp x ∧ shp (.lst m xs) ∧ Q (.bl (if neg then !isIn x xs else isIn x xs)) x (.lst m xs)) := rfl
theorem memD_tup : memD neg x (.tup xs) Q = (x.scal.isSome = true ∧ scals xs = true ∧ Q (.bl (if neg then !isIn x xs else isIn x xs)) x (.tup xs)) := rfl
theorem memD_str {i j : Str} : memD neg (.str i) (.str j) Q = Q (.bl (if neg then !(!(Builtin.Str.occurrences j i 0 j.length 1).isEmpty) else !(Builtin.Str.occurrences j i 0 j.length 1).isEmpty)) (.str i) (.str j) := rfl
theorem isIn_nil : isIn x [] = false := rfl
theorem isIn_cons {z : D} : isIn x (z :: xs) = (eqd z x || isIn x xs) := rfl
theorem isIn_ints {i : Int} : ∀ ns : List Int, isIn (.int i) (ns.map D.int) = decide (i ∈ ns)
  | [] => by simp [isIn]
  | n :: r => by
    rw [List.map_cons, isIn_cons, isIn_ints r, eqd_int]
    by_cases h : n = i <;> by_cases h2 : i ∈ r <;> simp [h, h2, Ne.symm] <;> exact fun e => h e.symm
theorem scal_int {i : Int} : (D.int i).scal.isSome = true := rfl
theorem scal_str {i : Str} : (D.str i).scal.isSome = true := rfl
theorem scal_bl {i : Bool} : (D.bl i).scal.isSome = true := rfl
theorem scal_non : D.non.scal.isSome = true := rfl
theorem scals_nil : scals [] = true := rfl
theorem scals_cons {d : D} : scals (d :: xs) = (d.scal.isSome && scals xs) := rfl
theorem scals_ints (ns : List Int) : scals (ns.map D.int) = true := by
  induction ns with
  | nil => rfl
  | cons n r ih => rw [List.map_cons, scals_cons, ih]; rfl
theorem shp_l1i {a : Int} : shp (.lst m [.int a]) = True := shp_lints (ns := [a])
theorem shp_l2i {a b : Int} : shp (.lst m [.int a, .int b]) = True := shp_lints (ns := [a, b])
theorem shp_l3i {a b c : Int} : shp (.lst m [.int a, .int b, .int c]) = True := shp_lints (ns := [a, b, c])
theorem shp_t1i {a : Int} : shp (.tup [.int a]) = True := shp_tints (ns := [a])
theorem shp_t2i {a b : Int} : shp (.tup [.int a, .int b]) = True := shp_tints (ns := [a, b])
theorem shp_t3i {a b c : Int} : shp (.tup [.int a, .int b, .int c]) = True := shp_tints (ns := [a, b, c])
end
theorem pairs_ints (xs ys : List Int) : pairs (xs.map D.int) (ys.map D.int) = (xs.zip ys).map fun z => [D.int z.1, D.int z.2] := by
  unfold pairs
  rw [List.zip_map, List.map_map]
  rfl
theorem dec_or {c d : Prop} [Decidable c] [Decidable d] : (decide c || decide d) = decide (c ∨ d) := by by_cases h : c <;> by_cases h2 : d <;> simp [h, h2]
theorem dec_and {c d : Prop} [Decidable c] [Decidable d] : (decide c && decide d) = decide (c ∧ d) := by by_cases h : c <;> by_cases h2 : d <;> simp [h, h2]
theorem dec_orf {c : Prop} [Decidable c] : (decide c || false) = decide c := by simp
end Bd

/-! Bd22: methods of lists and texts. -/
namespace Bd
open PySem PySem.Spec PyProof.Rows L2
/-- a method's type, by the datum -/
def mtD : D → Option String
  | .lst _ _ => some "list"
  | .str _ => some "str"
  | .dct .own _ _ => some "dict"
  | .dct .shr _ _ => some "dict"
  | _ => none
/-- a method over data: the object, the arguments -/
abbrev WM := D → List D → (D → D → Prop) → Prop
section
variable {X : Cx} {G : Gm} {kp : List Bool}
theorem rep_tyV {K : PySem.W.Frag} {H : Hp} {F A : AS} {v : V} {d : D} {T : String} (r : Rep K H F v d A) (h : mtD d = some T) : tyV K T v H := by
  cases r with
  | str => cases h; rfl
  | own e _ _ _ => cases h; exact .inl ⟨rfl, _, .inl (.inl e)⟩
  | shr e _ _ => cases h; exact .inl ⟨rfl, _, .inl (.inl e)⟩
  | con c _ => cases h; exact .inl ⟨rfl, _, c.sq⟩
  | dOwn e _ _ _ _ => cases h; exact .inr (.inr (.inl ⟨rfl, .inl ⟨_, e⟩⟩))
  | dShr e _ _ _ => cases h; exact .inr (.inr (.inl ⟨rfl, .inl ⟨_, e⟩⟩))
  | _ => cases h
theorem World.tyV {K : PySem.W.Frag} {σ : Sl} {ρ : List D} {vs : List V} {ds : List D} {H : Hp} {v : V} {d : D} {T : String} (W : World K G kp σ ρ (v :: vs) (d :: ds) H) (h : mtD d = some T) : L2.tyV K T v H := by
  obtain ⟨A, F, f⟩ := W
  have r := f.reps
  cases r with
  | cons p q i j k => exact rep_tyV p h
def MethD (X : Cx) (G : Gm) (kp : List Bool) (r : V → List V → Hp → VK → Prop) (m : WM) : Prop :=
  (∀ x es P P', (∀ a b, P a b → P' a b) → m x es P → m x es P') ∧
  ∀ σ ρ vs ds xv us x es H Q, us.length = es.length → World X.K G kp σ ρ (us ++ xv :: vs) (es ++ x :: ds) H → m x es (fun z x' => ∀ v H', World X.K G kp σ ρ (v :: xv :: vs) (z :: x' :: ds) H' → Q v H') → r xv us H Q
/-- o lent, then the arguments -/
def wMe (T : String) (m : WM) (wo : WB) (wa : WA) : WE := fun ρ Q => wo ρ fun x ox ρ1 => mtD x = some T ∧ wa ρ1 fun es ρ2 => m x es fun z x' => Q z (gb ox x' ρ2)
def wMe0 (T : String) (m : WM) (wo : WB) : WE := fun ρ Q => wo ρ fun x ox ρ1 => mtD x = some T ∧ m x [] fun z x' => Q z (gb ox x' ρ1)
/-- a name, lent behind the arguments -/
def wMn (T : String) (m : WM) (j : Nat) (wa : WA) : WE := fun ρ Q => mtD (ρ.getD j .gone) = some T ∧ wa ρ fun es ρ2 => m (ρ2.getD j .gone) es fun z x' => Q z (ρ2.set j x')
variable {o e : Expr} {es : List Expr} {apos cpos p : Pos} {name x : Str} {T id : String} {r : V → List V → Hp → VK → Prop} {m : WM} {wo : WB} {wa : WA} {j : Nat}
theorem de_me (pa : PlainAttrs T) (slot : Slot T name id) (hty : typeOf (.builtin id) = pure (.type "method_descriptor")) (hm : MtR X id r) (hM : MethD X G kp r m) (ho : DB X G kp o wo) (ha : DA X G kp (e :: es) wa)
    (hbase : attributeBase o name X.env (eval o X.env) = eval o X.env := by rfl)
    (hfew : ((backTo cpos (starEach (e :: es) X.env)).all (fun x => !x.1) && (backToKw cpos (keywordEach [] X.env)).all (fun x => x.1.isSome)
      && decide ((e :: es).length + ([] : List Keyword).length + (if ([] : List Keyword).isEmpty then 0 else 1) < 30)) = true := by rfl)
    (hline : (apos.endLine == cpos.line) = true := by rfl) (hs : starEach (e :: es) X.env = (false, eval e X.env) :: starEach es X.env := by rfl) (hplain : (backTo cpos (starEach es X.env)).any (·.1) = false := by rfl) :
    DE X G kp (.Call (.Attribute o name apos) (e :: es) [] cpos) (wMe T m wo wa) := by
  refine ⟨fun ρ P P' hp q => ho.mono _ _ _ (fun d ox r z => ⟨z.1, ha.mono _ _ _ (fun es r2 z => hM.1 _ _ _ _ (fun a b z => hp _ _ z) z) z.2⟩) q, pe_imp (pe_bm pa slot hty hm ho.run ha.run hbase hfew hline hs hplain) fun σ H Q ⟨ρ, vs, ds, W, q⟩ => ⟨ρ, vs, ds, W, ho.mono _ _ _ (fun d ox r1 z v H1 W1 hx => ⟨W1.tyV z.1, r1, _, _, W1, ha.mono _ _ _ (fun es r2 z us H2 l W2 => ?_) z.2⟩) q⟩⟩
  exact hM.2 _ _ _ _ _ _ _ _ _ _ l W2 (hM.1 _ _ _ _ (fun y x' z u H3 W3 => z u H3 (W3.swap.gb hx)) z)
theorem de_me0 (pa : PlainAttrs T) (slot : Slot T name id) (hty : typeOf (.builtin id) = pure (.type "method_descriptor")) (hm : MtR X id r) (hM : MethD X G kp r m) (ho : DB X G kp o wo)
    (hbase : attributeBase o name X.env (eval o X.env) = eval o X.env := by rfl) (hline : (apos.endLine == cpos.line) = true := by rfl) : DE X G kp (.Call (.Attribute o name apos) [] [] cpos) (wMe0 T m wo) := by
  refine ⟨fun ρ P P' hp q => ho.mono _ _ _ (fun d ox r z => ⟨z.1, hM.1 _ _ _ _ (fun a b z => hp _ _ z) z.2⟩) q, pe_imp (pe_bm0 pa slot hty hm ho.run hbase hline) fun σ H Q ⟨ρ, vs, ds, W, q⟩ => ⟨ρ, vs, ds, W, ho.mono _ _ _ (fun d ox r1 z v H1 W1 hx => ⟨W1.tyV z.1, ?_⟩) q⟩⟩
  exact hM.2 _ _ _ _ _ [] _ [] _ _ rfl W1 (hM.1 _ _ _ _ (fun y x' z u H3 W3 => z u H3 (W3.swap.gb hx)) z.2)
theorem mtD_there {d : D} {T : String} (h : mtD d = some T) : there d := by cases d <;> first | exact True.intro | cases h
theorem de_mn (pa : PlainAttrs T) (slot : Slot T name id) (hty : typeOf (.builtin id) = pure (.type "method_descriptor")) (hm : MtR X id r) (hM : MethD X G kp r m) (hg : ∀ es P, m .gone es P → False) (hj : X.N[j]? = some x) (hv : Vis X.env.scope x) (h : nm x = true) (ha : DA X G kp (e :: es) wa)
    (hbase : attributeBase (.Name x p) name X.env (eval (.Name x p) X.env) = eval (.Name x p) X.env := by rfl)
    (hfew : ((backTo cpos (starEach (e :: es) X.env)).all (fun x => !x.1) && (backToKw cpos (keywordEach [] X.env)).all (fun x => x.1.isSome)
      && decide ((e :: es).length + ([] : List Keyword).length + (if ([] : List Keyword).isEmpty then 0 else 1) < 30)) = true := by rfl)
    (hline : (apos.endLine == cpos.line) = true := by rfl) (hs : starEach (e :: es) X.env = (false, eval e X.env) :: starEach es X.env := by rfl) (hplain : (backTo cpos (starEach es X.env)).any (·.1) = false := by rfl) :
    DE X G kp (.Call (.Attribute (.Name x p) name apos) (e :: es) [] cpos) (wMn T m j wa) := by
  refine ⟨fun ρ P P' hp q => ⟨q.1, ha.mono _ _ _ (fun es r2 z => hM.1 _ _ _ _ (fun a b z => hp _ _ z) z) q.2⟩, pe_imp (pe_bm pa slot hty hm (pe_var hj hv (nm1 h) (nm2 h)) ha.run hbase hfew hline hs hplain) fun σ H Q ⟨ρ, vs, ds, W, h1, q⟩ => ?_⟩
  obtain ⟨xv, e1, W1⟩ := W.take (getD_there (mtD_there h1)) (mtD_there h1).ne
  refine ⟨xv, e1, W1.tyV h1, ρ, vs, ds, W, ha.mono _ _ _ (fun es r2 z us H2 l W2 => ?_) q⟩
  have ht : there (r2.getD j .gone) := by
    cases e : r2.getD j .gone <;> rw [e] at z <;> first | trivial | exact (hg _ _ z).elim
  obtain ⟨xv', e2, W3⟩ := W2.take (getD_there ht) ht.ne
  rw [e1] at e2; cases e2
  have W4 : World X.K G kp σ (r2.set j .gone) (us ++ xv :: vs) (es ++ r2.getD j .gone :: ds) H2 := World.tor W3 l
  refine hM.2 _ _ _ _ _ _ _ _ _ _ l W4 (hM.1 _ _ _ _ (fun y x' z u H3 W5 => z u H3 ?_) z)
  have W6 := W5.swap.give e1
  rw [List.set_set] at W6
  exact W6
/-! ### append, pop -/
def apF : WM := fun x es Q => match x, es with
  | .lst .own xs, [d] => xs.length < sizeLine ∧ Q .non (.lst .own (xs ++ [d]))
  | _, _ => False
theorem apD_ok : MethD X G kp rAppend apF := by
  refine ⟨fun x es P P' hp q => ?_, fun σ ρ vs ds xv us x es H Q l W q => ?_⟩
  · match x, es, q with
    | .lst .own xs, [d], q => exact ⟨q.1, hp _ _ q.2⟩
  · match x, es, us, l, W, q with
    | .lst .own xs, [d], [u], _, W, q =>
      obtain ⟨a, ws, ea, hw, lw, W2⟩ := World.append_ (us := []) (es := []) W rfl
      subst ea
      exact ⟨a, ws, u, rfl, rfl, hw, by rw [lw]; exact q.1, q.2 _ _ W2.non⟩
def popF : WM := fun x es Q => match x, es with
  | .lst .own xs, [] => ∃ d, xs[xs.length - 1]? = some d ∧ Q d (.lst .own xs.dropLast)
  | _, _ => False
theorem Reps.popLast {K : PySem.W.Frag} {H : Hp} {F : AS} {us : List V} {es : List D} {d : D} {A : AS} (r : Reps K H F us es A) (h : es[es.length - 1]? = some d) : ∃ u, us[us.length - 1]? = some u ∧ Reps K H F (u :: us.dropLast) (d :: es.dropLast) A := by
  have l := r.length
  obtain ⟨hl, he⟩ := List.getElem?_eq_some_iff.mp h
  have hne : es ≠ [] := by intro e; rw [e] at hl; simp at hl
  have hne2 : us ≠ [] := by intro e; rw [e] at l; rw [← l] at hl; simp at hl
  have e1 := List.dropLast_concat_getLast hne
  have e2 := List.dropLast_concat_getLast hne2
  have ed : es.getLast hne = d := by rw [List.getLast_eq_getElem]; exact he
  refine ⟨us.getLast hne2, by rw [List.getLast_eq_getElem, List.getElem?_eq_getElem], ?_⟩
  rw [← e1, ← e2, ed] at r
  have q := Reps.rot (us := us.dropLast) (es := es.dropLast) (vs := []) (ds := []) (by simp [l]) r
  simpa using q
theorem popD_ok : MethD X G kp rPop popF := by
  refine ⟨fun x es P P' hp q => ?_, fun σ ρ vs ds xv us x es H Q l W q => ?_⟩
  · match x, es, q with
    | .lst .own xs, [], ⟨d, h1, h2⟩ => exact ⟨d, h1, hp _ _ h2⟩
  · match x, es, us, l, W, q with
    | .lst .own xs, [], [], _, W, ⟨d, h1, q⟩ =>
      obtain ⟨a, ws, ea, hw, lw, mk⟩ := World.relist (xs := []) (fs := []) W rfl
      subst ea
      have hy : ∃ y, ws[ws.length - 1]? = some y := by
        have := (List.getElem?_eq_some_iff.mp h1).1
        exact ⟨_, List.getElem?_eq_getElem (show ws.length - 1 < ws.length by omega)⟩
      obtain ⟨y, hy⟩ := hy
      refine ⟨a, ws, y, rfl, rfl, hw, hy, q _ _ (mk [y] [d] ws.dropLast xs.dropLast rfl (by simp [lw]) fun F B r => ?_)⟩
      obtain ⟨u, hu, r2⟩ := Reps.popLast r h1
      rw [List.nil_append, hy] at hu
      cases hu
      exact r2
theorem m_append {apos cpos p : Pos} (hj : X.N[j]? = some x) (hv : Vis X.env.scope x) (h : nm x = true) (ha : DA X G kp [e] wa) (hbase : attributeBase (.Name x p) "append" X.env (eval (.Name x p) X.env) = eval (.Name x p) X.env := by rfl)
    (hfew : ((backTo cpos (starEach [e] X.env)).all (fun x => !x.1) && (backToKw cpos (keywordEach [] X.env)).all (fun x => x.1.isSome)
      && decide (([e] : List Expr).length + ([] : List Keyword).length + (if ([] : List Keyword).isEmpty then 0 else 1) < 30)) = true := by rfl)
    (hline : (apos.endLine == cpos.line) = true := by rfl) (hs : starEach [e] X.env = (false, eval e X.env) :: starEach [] X.env := by rfl) :
    DE X G kp (.Call (.Attribute (.Name x p) "append" apos) [e] [] cpos) (wMn "list" apF j wa) :=
  de_mn F.plainAttrs_list F.slot_list_append F.type_list_append mt_append apD_ok (fun es P q => q) hj hv h ha hbase hfew hline hs
end
end Bd

/-! Bd23: repr. -/
namespace Bd
open PySem PySem.Spec PyProof.Rows L2
def rReprD (K : PySem.W.Frag) : List V → Hp → VK → Prop := fun xs H Q => ∃ x d, xs = [x] ∧ Dp K H x d ∧ SeqAt.shaped d = true ∧ d.showable = true ∧ d.shown.length ≤ sizeLine ∧ Q (.str d.shown) H
theorem lay_noDict {d : PyData} (h : d.canLay0 = true) : d.hasDict = false := PyData.hasDict_of_canLay d h
section
variable {X : Cx} {G : Gm} {kp : List Bool} {e : Expr} {es : List Expr} {pos p1 : Pos} {wr : WBs} {k : Nat}
theorem call_reprD (hg : X.A.guards = some []) (hu : X.A.units + 66 < cLine) : CallR X (.builtin "repr") (rReprD X.K) := by
  intro pins s σ H xs us Q I r h
  obtain ⟨x, d, rfl, hd, hs, hw, hz, q⟩ := h
  have hlay := SeqAt.canLay_of_shaped hs
  have hdep := SeqAt.depth_of_shaped hs
  have heap : ∀ a, us = [Value.ref a] → wpAny (model X.prog X.w) X.A (call (.builtin "repr") us) (EP X pins σ Q) X.xe s := fun a e => by
    subst e
    cases r with
    | cons r1 r2 =>
      obtain ⟨as, rd⟩ := Dp.reads I d x _ hd r1
      exact repr_of_reads' rd hw (PyData.noDict_hsm (lay_noDict hlay)) hg (by omega) (fun _ _ e => e) (fun h' u tk hk => ⟨.str d.shown, H, I.kept (t' := tk) hk, ⟨u, rfl⟩, q⟩) hz
  cases hd with
  | non =>
    cases r with
    | cons r1 r2 => cases r2; cases r1; exact PySem.P.repr_of_none ⟨.str _, H, I.tok _, ⟨_, rfl⟩, q⟩
  | bl b =>
    cases r with
    | cons r1 r2 => cases r2; cases r1; exact PySem.P.repr_of_bool ⟨.str _, H, I.tok _, ⟨_, rfl⟩, q⟩
  | int i =>
    cases r with
    | cons r1 r2 =>
      cases r2
      obtain ⟨t, rfl⟩ := r1
      exact PySem.P.repr_of_int (by simpa [PyData.showable] using hw) ⟨.str _, H, I.tok _, ⟨_, rfl⟩, q⟩
  | str x =>
    cases r with
    | cons r1 r2 =>
      cases r2
      obtain ⟨t, rfl⟩ := r1
      exact PySem.P.repr_of_str ⟨.str _, H, I.tok _, ⟨_, rfl⟩, q⟩ hz
  | lst h1 h2 =>
    cases r with
    | cons r1 r2 => cases r2; cases r1; exact heap _ rfl
  | tup h1 h2 =>
    cases r with
    | cons r1 r2 => cases r2; cases r1; exact heap _ rfl
def reprD (d : D) : Str := d.py.shown
/-- of that many signs at most -/
def rOk (d : D) (n : Nat) : Prop := d.py.showable = true ∧ d.py.shown.length ≤ n
def reprF (d : D) (Q : D → D → Prop) : Prop := shp d ∧ rOk d sizeLine ∧ Q (.str (reprD d)) d
theorem reprD_ok : CallD X G kp (rReprD X.K) (c1 reprF) := by
  refine c1_ok (fun d P P' hp q => ⟨q.1, q.2.1, hp _ _ q.2.2⟩) fun σ ρ vs ds u d H Q W q => ?_
  exact ⟨u, d.py, rfl, W.dp q.1, q.1, q.2.1.1, q.2.1.2, q.2.2 _ H W.str⟩
theorem k_repr (hr : Room k X.A) (hgd : X.A.guards = some []) (hg : Gl X "repr") (hm : X.mg "repr" = none) (ha : DBs X G kp (e :: es) wr) (he : starEach (e :: es) X.env = (false, eval e X.env) :: starEach es X.env := by rfl) (hpl : (backTo pos (starEach es X.env)).any (·.1) = false := by rfl) : DE X G kp (.Call (.Name "repr" p1) (e :: es) [] pos) (wCall (c1 reprF) wr) :=
  de_callB (call_reprD hgd (by have := hr.un; omega)) reprD_ok hg hm boot_repr ha (by decide) (by decide) he hpl
end
/-! ### how long a text -/
theorem rOk.le {d : D} {m n : Nat} (h : rOk d m) (l : m ≤ n) : rOk d n := ⟨h.1, Nat.le_trans h.2 l⟩
theorem rOk_non : rOk .non 4 := ⟨rfl, by decide⟩
theorem rOk_bl {b : Bool} : rOk (.bl b) 5 := by cases b <;> exact ⟨rfl, by decide⟩
theorem rOk_int {i : Int} (k : Nat) (hk : 0 < k) (h : -(2 ^ k) < i) (h2 : i < 2 ^ k) (h3 : k < 1920) : rOk (.int i) (k + 1) := by
  have hl : i.natAbs < 2 ^ k := natAbs_lt_of h h2
  have e : (Str.ofString (toString i)).length ≤ k + 1 := by
    rw [PySem.ofString_length]
    exact int_text_length_le10 hk (Nat.lt_of_lt_of_le hl (Nat.pow_le_pow_left (by decide) k))
  exact ⟨by simp only [D.py, PyData.showable, decide_eq_true_eq]; exact Nat.lt_of_le_of_lt (log2_lt_of hl) h3, e⟩
theorem rOk_all {n : Nat} : ∀ {ds : List D}, (∀ d ∈ ds, rOk d n) → PyData.showableAll (pys ds) = true ∧ ((PyData.shownAll (pys ds)).map (·.length)).sum ≤ n * ds.length ∧ (PyData.shownAll (pys ds)).length = ds.length
  | [], _ => ⟨rfl, by simp [pys, PyData.shownAll], rfl⟩
  | d :: r, h => by
    have h1 := h d List.mem_cons_self
    obtain ⟨h2, h3, h4⟩ := rOk_all (ds := r) fun x hx => h x (List.mem_cons_of_mem _ hx)
    rw [pys, PyData.showableAll, PyData.shownAll, h1.1, h2, List.map_cons, List.sum_cons, List.length_cons, List.length_cons, h4]
    refine ⟨rfl, ?_, rfl⟩
    have := h1.2
    rw [Nat.mul_add]
    omega
theorem rOk_tup {ds : List D} {n : Nat} (h : ∀ d ∈ ds, rOk d n) : rOk (.tup ds) ((n + 2) * ds.length + 3) := by
  obtain ⟨h1, h2, h3⟩ := rOk_all h
  refine ⟨by rw [D.py, PyData.showable]; exact h1, ?_⟩
  rw [D.py, PyData.shown]
  have := tupleText_len_le (PyData.shownAll (pys ds))
  rw [h3] at this
  rw [Nat.add_mul]
  omega
theorem rOk_lst {m : M} {ds : List D} {n : Nat} (h : ∀ d ∈ ds, rOk d n) : rOk (.lst m ds) ((n + 2) * ds.length + 3) := by
  obtain ⟨h1, h2, h3⟩ := rOk_all h
  refine ⟨by rw [D.py, PyData.showable]; exact h1, ?_⟩
  rw [D.py, PyData.shown]
  have := listText_len_le (PyData.shownAll (pys ds))
  rw [h3] at this
  rw [Nat.add_mul]
  omega
/-- the same data, the same text -/
theorem reprD_frz (d : D) : reprD d.frz = reprD d := by unfold reprD; rw [py_frz]
end Bd

/-! Bd24: sorted(set(xs)), len(set(xs)) of a list of ints. -/
namespace Bd
open PySem PySem.Spec PyProof.Rows L2
/-- a set just made -/
def set0 (w : PySem.World) : Obj := { cls := .type "set", dict := none, data := .set #[] 0 (.fresh 0 0 (!w.params.followText "set-order")) }
section
variable {P : Program} {w : PySem.World} {A : Around} {E : Value → Shared → Prop} {s : Shared}
set_option maxHeartbeats 3200000 in
theorem set_of_ints {l : Addr} {items : Array Value} (ns : List Int) {Q : Value → Shared → Prop} (hd : A.handled = none) (hl : s.heap.IsList l items) (ints_ : IntsAre items.toList ns) (few : ns.length + 1 < scanBound)
    (fin : ∀ (h' : Heap) (tk c : Nat), SetR w h' s.heap.objs.size (fun j => decide (j ∈ ns)) c → c ≤ ns.length → (∀ b o, s.heap.get? b = some o → h'.get? b = some o) → Q (.ref s.heap.objs.size) { s with heap := h', toks := tk }) :
    wpAny (model P w) A (call (.type "set") [.ref l]) Q E s := by
  have sz : items.size = ns.length := by have q := IntsAre.length ints_; rwa [Array.length_toList] at q
  obtain ⟨cc, tl, mro⟩ := F.called_set.mro
  have f1 := F.called_set.made
  have f2 := F.called_set.sub
  refine wpAny_call (codeAny_of_tree ?_)
  show wpAny _ _ (callAny (.type "set") _) _ _ _
  refine wpAny_pure ⟨Code.quiet_builtin _ (by decide +kernel), codeAny_builtin F.entry_type_call ?_⟩
  rw [Around.under_plain (weight_type_call_type "set" [.ref l] []) rfl]
  have f3 := F.called_set.notType
  have f4 := F.called_set.canCreate
  have f5 := F.typeCall_set_1 (.ref l)
  repeat (any_goals (first | assumption | wp_step))
  refine codeAny_mono (code_set_led1 (.ref l) (E := E) (Q₁ := fun ob s1 => ob = .ref s.heap.objs.size ∧ s1 = { s with heap := s.heap.push (set0 w) }) ⟨rfl, rfl⟩) fun r s1 hr => ?_
  match r, hr with
  | .error e, hr => exact hr
  | .ok (.ret ob), hr =>
    obtain ⟨rfl, rfl⟩ := hr
    have here : (s.heap.push (set0 w)).get? s.heap.objs.size = some (set0 w) := Heap.get?_push_size _ rfl
    have ty : Shared.TypeIs { s with heap := s.heap.push (set0 w) } (.ref s.heap.objs.size) "set" := ⟨_, here, rfl⟩
    have f6 := F.called_set.init.lookup
    have f7 := F.called_set.init.bind (.ref s.heap.objs.size)
    repeat (any_goals (first | assumption | wp_step))
    refine codeAny_mono (codeAny_call_builtin (R := wants (fun r s2 => r = .none ∧ ∃ h' tk c, s2 = { s with heap := h', toks := tk } ∧ SetR w h' s.heap.objs.size (fun j => decide (j ∈ ns)) c ∧ c ≤ ns.length ∧
      (∀ b o, s.heap.get? b = some o → h'.get? b = some o)) E) F.called_set.init.plain F.entry_set_init (check_set_init_1 ty ?_)) fun r2 s2 hr2 => ?_
    · obtain ⟨⟨c1, d1, t1, sl1⟩, ho, e1, n1, e2⟩ := hl
      simp only at e1 e2
      subst e1 e2
      have ho' : (s.heap.push (set0 w)).get? l = some { cls := .type "list", dict := d1, data := .seq items n1, slots := sl1 } := Heap.get?_push_of_some _ ho
      have g1 := F.sub_list_set
      have g2 := F.sub_list_frozenset
      have g3 : (Value.type "list" == Value.type "dict") = false := by decide
      have isl : (s.heap.push (set0 w)).IsList l items := ⟨_, ho', rfl, n1, rfl⟩
      unfold Builtin.«set.__init__» noKeywords Builtin.Frozenset.updateFrom
      generalize pi : pyIter = PI
      wp_walk
      subst pi
      refine wpAny_pyIter_list isl ?_
      refine wpAny_bind (wpAny_runValue ?_)
      have lt : l < s.heap.objs.size := Heap.lt_size ho
      have hd3 : A.in1.in1.in1.handled = none := by simp [hd]
      have psz : (s.heap.push (set0 w)).objs.size = s.heap.objs.size + 1 := Heap.size_push ..
      have ne1 : l ≠ (s.heap.push (set0 w)).objs.size := by rw [psz]; exact Nat.ne_of_lt (Nat.lt_succ_of_lt lt)
      have nin : s.heap.objs.size ∉ [(s.heap.push (set0 w)).objs.size, l] := by
        rw [psz]
        intro z
        rcases List.mem_cons.mp z with z | z
        · exact Nat.ne_of_lt (Nat.lt_succ_self _) z
        · exact Nat.ne_of_gt lt (List.mem_singleton.mp z)
      have val : ∀ (i : Nat) (v : Value), items[i]? = some v → ∃ k t, ns[i]? = some k ∧ v = .int k t := fun i v hv => by
        have hi : i < ns.length := by rw [← sz]; exact (Array.getElem?_eq_some_iff.mp hv).1
        obtain ⟨t, e⟩ := PyProof.Rows.IntsAre.int_at ints_ i v (by rw [Array.getElem?_toList]; exact hv)
        exact ⟨ns[i], t, List.getElem?_eq_getElem hi, by rw [e, List.getD_eq_getElem?_getD, List.getElem?_eq_getElem hi]; rfl⟩
      have start : SetR w ((s.heap.push (set0 w)).push { cls := .type "list_iterator", data := .fields #[.ref l, .int 0 0] }) s.heap.objs.size (fun j => decide (j ∈ ns.take 0)) 0 := setR_new_at (Heap.get?_push_of_some _ here)
      refine set_update_ints ((Walks.list hd3 _ l ne1 items).toS) s.heap.objs.size nin ns sz few val (items.size - 0) 0 _ (by omega) (Nat.zero_le _) ⟨⟨_, Heap.get?_push_size _ rfl, rfl, rfl⟩, isl.push _⟩ ⟨0, Nat.le_refl 0, start⟩ ?_
      rintro ⟨h', g', d', tk', os'⟩ c2 mv hc2 hS2
      have eg : g' = s.gens := mv.gens
      have ed : d' = s.drawn := mv.drawn
      have eo : os' = s.os := mv.os
      subst eg ed eo
      show wpAny _ _ _ _ _ _
      refine wpAny_pure ?_
      show wpAny _ _ (ret Value.none) _ _ _
      refine wpAny_pure ⟨rfl, h', tk', c2, rfl, hS2, by rw [← sz]; exact hc2, fun b o e => mv.heap b o (fun z => ?_) (Heap.get?_push_of_some _ (Heap.get?_push_of_some _ e))⟩
      have lb : b < s.heap.objs.size := Heap.lt_size e
      rcases List.mem_cons.mp z with z | z
      · exact Nat.ne_of_lt lb z
      · have z2 := List.mem_singleton.mp z
        rw [psz] at z2
        exact Nat.ne_of_lt (Nat.lt_succ_of_lt lb) z2
    · match r2, hr2 with
      | .error e, hr2 => exact hr2
      | .ok (.ret r), hr2 =>
        obtain ⟨rfl, h', tk, c, rfl, hS, hc, hk⟩ := hr2
        repeat (any_goals (first | assumption | wp_step))
        exact fin _ _ _ hS hc hk
end
end Bd

/-! Bd25: sorted(set(xs)), len(set(xs)) over data; t.count(x). -/
namespace Bd
open PySem PySem.Spec PyProof.Rows L2
section
variable {X : Cx} {G : Gm} {kp : List Bool}
/-- set(xs), xs a list of ints -/
def rSetI (K : PySem.W.Frag) (w : PySem.World) : List V → Hp → VK → Prop := fun xs H Q => ∃ (l : Addr) (ns : List Int), xs = [.ref l] ∧ SqL K H l (ns.map V.int) ∧ ns.length < 4000 ∧
  ∀ a c, H a = none → c ≤ ns.length → Q (.ref a) (upd H a (SetO w a (fun j => decide (j ∈ ns)) c))
theorem call_setI (hc : X.calm = true) : CallR X (.type "set") (rSetI X.K X.w) := by
  intro pins s σ H xs us Q I r h
  obtain ⟨l, ns, rfl, hl, hf, q⟩ := h
  rw [Vals.ref1 r]
  obtain ⟨its, rv, pl, hz⟩ := I.list hl
  refine set_of_ints (P := X.prog) (w := X.w) ns (I.ok.hd hc) pl.isList (by simpa using rv.ints) (by unfold scanBound; omega) fun h' tk c R hle k => ?_
  exact ⟨.ref s.heap.objs.size, upd H s.heap.objs.size (SetO X.w s.heap.objs.size (fun j => decide (j ∈ ns)) c), I.laid (t' := tk) k (Nat.le_refl _) (setO_new R), rfl, q _ c (I.hok.fresh (Nat.le_refl _)) hle⟩
/-- len(s) -/
def rLenS (w : PySem.World) : List V → Hp → VK → Prop := fun xs H Q => ∃ (a : Addr) (S : Int → Bool) (n : Nat), xs = [V.ref a] ∧ H a = some (SetO w a S n) ∧ n < 4000 ∧
  ∀ ns : List Int, ns.Nodup → (∀ k, k ∈ ns ↔ S k = true) → ns.length = n → Q (.int (n : Nat)) H
theorem call_lenS : CallR X (.builtin "len") (rLenS X.w) := by
  intro pins s σ H xs us Q I r h
  obtain ⟨a, S, n, rfl, ha, hn, q⟩ := h
  have R := setO_get I ha
  rw [Vals.ref1 r]
  obtain ⟨o, es, ep, t, ho, hex, hd, g, nd, hm, hb, hf, hsz, hr, hl⟩ := R
  refine call_len_set ho hex hd hf (by rw [hsz]; omega) ⟨.int n, H, I.tok _, ⟨_, by rw [hsz]⟩, q (es.toList.map keyOf) nd (fun k => ?_) (by rw [List.length_map, Array.length_toList]; exact hsz)⟩
  exact (hm k).symm
/-- the ints of a list's values -/
theorem reps_int_eq {K : PySem.W.Frag} {H : Hp} {F : AS} : ∀ {ns : List Int} {us : List V} {A : AS}, Reps K H F us (ns.map D.int) A → us = ns.map V.int
  | [], _, _, .nil => rfl
  | n :: ns, _, _, .cons a b _ _ _ => by cases a; rw [List.map_cons, reps_int_eq b]
theorem World.lsInts {m : M} {σ : Sl} {ρ : List D} {v : V} {vs : List V} {ds : List D} {H : Hp} {ns : List Int} (W : World X.K G kp σ ρ (v :: vs) (.lst m (ns.map D.int) :: ds) H) : ∃ a, v = .ref a ∧ SqL X.K H a (ns.map V.int) := by
  obtain ⟨a, us, rfl, t, _, ln, ⟨F, r⟩, _⟩ := W.lstX (solids_map (fun _ => rfl) ns)
  exact ⟨a, rfl, reps_int_eq r ▸ t⟩
theorem World.ints_ {σ : Sl} {ρ : List D} {vs : List V} {ds : List D} {H : Hp} (W : World X.K G kp σ ρ vs ds H) : ∀ ns : List Int, World X.K G kp σ ρ (ns.map V.int ++ vs) (ns.map D.int ++ ds) H
  | [] => W
  | n :: ns => by rw [List.map_cons, List.map_cons, List.cons_append, List.cons_append]; exact (World.ints_ W ns).int
/-- sorted(set(xs)) -/
def ssF (d : D) (Q : D → D → Prop) : Prop := match d with
  | .lst m xs => ∃ ns : List Int, xs = ns.map D.int ∧ ns.length < 64 ∧ ∀ ms : List Int, ms.Pairwise (· < ·) → (∀ k, k ∈ ms ↔ k ∈ ns) → Q (.lst .own (ms.map D.int)) d
  | _ => False
/-- len(set(xs)) -/
def lsF (d : D) (Q : D → D → Prop) : Prop := match d with
  | .lst m xs => ∃ ns : List Int, xs = ns.map D.int ∧ ns.length < 4000 ∧ ∀ ms : List Int, ms.Nodup → (∀ k, k ∈ ms ↔ k ∈ ns) → Q (.int (ms.length : Nat)) d
  | _ => False
abbrev rSS (K : PySem.W.Frag) (w : PySem.World) : List V → Hp → VK → Prop := fun xs H Q => rSetI K w xs H fun v H1 => rSortedSet w [v] H1 Q
abbrev rLS (K : PySem.W.Frag) (w : PySem.World) : List V → Hp → VK → Prop := fun xs H Q => rSetI K w xs H fun v H1 => rLenS w [v] H1 Q
theorem ssD_ok : CallD X G kp (rSS X.K X.w) (c1 ssF) := by
  refine c1_ok (fun d P P' hp q => ?_) fun σ ρ vs ds u d H Q W q => ?_
  · cases d <;> first | exact q.elim | exact ⟨q.choose, q.choose_spec.1, q.choose_spec.2.1, fun ms h1 h2 => hp _ _ (q.choose_spec.2.2 ms h1 h2)⟩
  · cases d <;> first | exact q.elim | skip
    rename_i m xs
    obtain ⟨ns, rfl, hn, q⟩ := q
    obtain ⟨a, rfl, t⟩ := W.lsInts
    refine ⟨a, ns, rfl, t, by omega, fun p c hp hc => ⟨p, _, c, rfl, upd_same, by omega, fun ms p2 h1 h2 h3 hp2 => ?_⟩⟩
    refine q ms h1 (fun k => (h2 k).trans (decide_eq_true_iff)) _ _ ?_
    exact World.newLst (us := ms.map V.int) (es := ms.map D.int) (World.ints_ (W.laid hp) ms) (by simp) hp2
theorem lsD_ok : CallD X G kp (rLS X.K X.w) (c1 lsF) := by
  refine c1_ok (fun d P P' hp q => ?_) fun σ ρ vs ds u d H Q W q => ?_
  · cases d <;> first | exact q.elim | exact ⟨q.choose, q.choose_spec.1, q.choose_spec.2.1, fun ms h1 h2 => hp _ _ (q.choose_spec.2.2 ms h1 h2)⟩
  · cases d <;> first | exact q.elim | skip
    rename_i m xs
    obtain ⟨ns, rfl, hn, q⟩ := q
    obtain ⟨a, rfl, t⟩ := W.lsInts
    refine ⟨a, ns, rfl, t, hn, fun p c hp hc => ⟨p, _, c, rfl, upd_same, by omega, fun ms h1 h2 h3 => ?_⟩⟩
    have := q ms h1 (fun k => (h2 k).trans (decide_eq_true_iff)) (.int (c : Nat)) (upd H p (SetO X.w p (fun j => decide (j ∈ ns)) c)) 
    rw [h3] at this
    exact this (W.laid hp).int
section
variable {k : Nat} {e : Expr} {wr : WBs} {p1 p2 q1 q2 : Pos}
theorem k_sset (hc : X.calm = true) (hg : Gl X "sorted") (hm : X.mg "sorted" = none) (hg2 : Gl X "set") (hm2 : X.mg "set" = none) (ha : DBs X G kp [e] wr) (he : starEach [e] X.env = (false, eval e X.env) :: starEach [] X.env := by rfl) : DE X G kp (.Call (.Name "sorted" p1) [.Call (.Name "set" p2) [e] [] q2] [] q1) (wCall (c1 ssF) wr) :=
  ⟨wCall_mono (ssD_ok (X := X) (G := G) (kp := kp)).1 ha.mono, pe_imp (pe_callB (cr_sortedSet hc) hg hm boot_sorted (pa_cons (pe_callTy (call_setI hc) hg2 hm2 boot_set ha.run (by decide) (by decide) he rfl) pa_nil rfl) (by decide) (by decide) rfl rfl) fun σ H Q q => ssD_ok.conv ha.mono σ H Q q⟩
theorem k_lset (hc : X.calm = true) (hg : Gl X "len") (hm : X.mg "len" = none) (hg2 : Gl X "set") (hm2 : X.mg "set" = none) (ha : DBs X G kp [e] wr) (he : starEach [e] X.env = (false, eval e X.env) :: starEach [] X.env := by rfl) : DE X G kp (.Call (.Name "len" p1) [.Call (.Name "set" p2) [e] [] q2] [] q1) (wCall (c1 lsF) wr) :=
  ⟨wCall_mono (lsD_ok (X := X) (G := G) (kp := kp)).1 ha.mono, pe_imp (pe_callB call_lenS hg hm boot_len (pa_cons (pe_callTy (call_setI hc) hg2 hm2 boot_set ha.run (by decide) (by decide) he rfl) pa_nil rfl) (by decide) (by decide) rfl rfl) fun σ H Q q => lsD_ok.conv ha.mono σ H Q q⟩
end
end
end Bd

/-! Bd26: methods of tuples; t.count(x). -/
namespace Bd
open PySem PySem.Spec PyProof.Rows L2
section
variable {X : Cx} {G : Gm} {kp : List Bool}
variable {o e : Expr} {es : List Expr} {apos cpos p : Pos} {name x : Str} {T id : String} {r : V → List V → Hp → VK → Prop} {m : WM} {wo : WB} {wa : WA} {to : TE} {t : TA} {j : Nat}
def tPM (K : PySem.W.Frag) (r : V → List V → Hp → VK → Prop) (to : TE) (t : TA) : TE := fun σ H Q => to σ H fun x H1 => (∃ a xs, x = V.ref a ∧ TupD K H1 a xs) ∧ t σ H1 fun xs H2 => r x xs H2 Q
theorem pe_pm (slot : Slot "tuple" name id) (hty : typeOf (.builtin id) = pure (.type "method_descriptor")) (hm : MtR X id r) (ho : PE X o to) (ha : PA X (e :: es) t)
    (hbase : attributeBase o name X.env (eval o X.env) = eval o X.env := by rfl)
    (hfew : ((backTo cpos (starEach (e :: es) X.env)).all (fun x => !x.1) && (backToKw cpos (keywordEach [] X.env)).all (fun x => x.1.isSome)
      && decide ((e :: es).length + ([] : List Keyword).length + (if ([] : List Keyword).isEmpty then 0 else 1) < 30)) = true := by rfl)
    (hline : (apos.endLine == cpos.line) = true := by rfl) (hs : starEach (e :: es) X.env = (false, eval e X.env) :: starEach es X.env := by rfl) (hplain : (backTo cpos (starEach es X.env)).any (·.1) = false := by rfl) :
    PE X (.Call (.Attribute o name apos) (e :: es) [] cpos) (tPM X.K r to t) := by
  refine ⟨fun pins s σ H Q I h => ?_⟩
  refine wpAny_Call_method_late hbase hfew hline rfl (thn (ho.run pins s σ H _ I h) fun v s1 ⟨x, H1, I1, r1, ty, q1⟩ => ?_)
  obtain ⟨a, xs, rfl, tp⟩ := ty
  have er : v = Value.ref a := r1
  obtain ⟨its, rv, ⟨ob, ho1, hc1, _⟩, _⟩ := I1.tuple tp.sq
  have dn := dictNone (h := s1.heap) tp (fun o e => (I1.hok _ _ e).1) I1.kIn
  refine ⟨"tuple", id, F.plainAttrs_tuple, slot, hty, er ▸ ⟨ob, ho1, hc1⟩, fun b eb => ?_, ?_⟩
  · rw [er] at eb
    cases eb
    exact dn
  have hA := ha.run cpos pins s1 σ H1 _ I1 q1
  rw [hs] at hA ⊢
  exact Calls.callWith_builtin (by show (false || (backTo cpos (starEach es X.env)).any (·.1)) = false; rw [hplain] <;> rfl) (Calls.evalArgs_plain (thn hA fun us s2 ⟨vs, H2, I2, r2, q2⟩ => hm pins s2 σ H2 _ vs v us Q I2 r1 r2 q2))
def isTupD : D → Prop
  | .tup _ => True
  | _ => False
def wPm (m : WM) (wo : WB) (wa : WA) : WE := fun ρ Q => wo ρ fun x ox ρ1 => isTupD x ∧ wa ρ1 fun es ρ2 => m x es fun z x' => Q z (gb ox x' ρ2)
theorem de_pm (slot : Slot "tuple" name id) (hty : typeOf (.builtin id) = pure (.type "method_descriptor")) (hm : MtR X id r) (hM : MethD X G kp r m) (ho : DB X G kp o wo) (ha : DA X G kp (e :: es) wa)
    (hbase : attributeBase o name X.env (eval o X.env) = eval o X.env := by rfl)
    (hfew : ((backTo cpos (starEach (e :: es) X.env)).all (fun x => !x.1) && (backToKw cpos (keywordEach [] X.env)).all (fun x => x.1.isSome)
      && decide ((e :: es).length + ([] : List Keyword).length + (if ([] : List Keyword).isEmpty then 0 else 1) < 30)) = true := by rfl)
    (hline : (apos.endLine == cpos.line) = true := by rfl) (hs : starEach (e :: es) X.env = (false, eval e X.env) :: starEach es X.env := by rfl) (hplain : (backTo cpos (starEach es X.env)).any (·.1) = false := by rfl) :
    DE X G kp (.Call (.Attribute o name apos) (e :: es) [] cpos) (wPm m wo wa) := by
  refine ⟨fun ρ P P' hp q => ho.mono _ _ _ (fun d ox r z => ⟨z.1, ha.mono _ _ _ (fun es r2 z => hM.1 _ _ _ _ (fun a b z => hp _ _ z) z) z.2⟩) q, pe_imp (pe_pm slot hty hm ho.run ha.run hbase hfew hline hs hplain) fun σ H Q ⟨ρ, vs, ds, W, q⟩ => ⟨ρ, vs, ds, W, ho.mono _ _ _ (fun d ox r1 z v H1 W1 hx => ⟨?_, r1, _, _, W1, ha.mono _ _ _ (fun es r2 z us H2 l W2 => ?_) z.2⟩) q⟩⟩
  · have zt := z.1
    cases d <;> first | exact zt.elim | skip
    obtain ⟨a, us, e1, e2, _⟩ := W1.isTup
    exact ⟨a, us, e1, e2⟩
  · exact hM.2 _ _ _ _ _ _ _ _ _ _ l W2 (hM.1 _ _ _ _ (fun y x' z u H3 W3 => z u H3 (W3.swap.gb hx)) z)
/-! ### count -/
def rCountT (K : PySem.W.Frag) : V → List V → Hp → VK → Prop := fun x xs H Q => ∃ y ds d, xs = [y] ∧ Dp K H x (.tuple ds) ∧ Dp K H y d ∧ SeqAt.shaped (.tuple ds) = true ∧ SeqAt.shaped d = true ∧ Q (.int ((ds.countP fun z => PyData.eqv z d : Nat) : Int)) H
theorem mt_countT (hu : X.A.units + 66 < cLine) : MtR X "tuple.count" (rCountT X.K) := by
  intro pins s σ H x xs v us Q I rx rxs h
  obtain ⟨y, ds, d, rfl, hx, hy, s1, s2, q⟩ := h
  cases hx with
  | tup hq ha =>
    cases rx
    cases rxs with
    | cons ry rt =>
      cases rt
      obtain ⟨its, r, pl, hz⟩ := I.tuple hq
      obtain ⟨as, rd⟩ := Dp.readsAll I _ _ _ ha r
      obtain ⟨bs, rb⟩ := Dp.reads I _ _ _ hy ry
      have l1 := SeqAt.canLay_of_shaped s1
      have l2 := SeqAt.canLay_of_shaped s2
      have d2 := SeqAt.depth_of_shaped s2
      refine PySem.SeqAt.count_tuple_data (xs := ds) (d := d) pl (by simpa using rd) rb (PyData.plainAll_of_canLay0 _ (by simpa [PyData.canLay0] using l1)) (PyData.plain_of_canLay0 _ l2) (by omega) ?_
      exact ⟨.int _, H, I.tok _, ⟨_, rfl⟩, q⟩
def cntF : WM := fun x es Q => match x, es with
  | .tup xs, [d] => shp (.tup xs) ∧ shp d ∧ Q (.int ((xs.countP fun z => eqd z d : Nat) : Int)) (.tup xs)
  | _, _ => False
theorem cntD_ok : MethD X G kp (rCountT X.K) cntF := by
  refine ⟨fun x es P P' hp q => ?_, fun σ ρ vs ds xv us x es H Q l W q => ?_⟩
  · match x, es, q with
    | .tup xs, [d], q => exact ⟨q.1, q.2.1, hp _ _ q.2.2⟩
  · match x, es, us, l, W, q with
    | .tup xs, [d], [u], _, W, ⟨h1, h2, q⟩ =>
      have hx := W.swap.dp h1
      have hy := W.dp h2
      have e : (D.tup xs).py = .tuple (pys xs) := by rw [D.py]
      have e2 : ((pys xs).countP fun z => PyData.eqv z d.py) = xs.countP fun z => eqd z d := by
        rw [pys_map, List.countP_map]; rfl
      unfold shp at h1
      rw [e] at hx h1
      exact ⟨u, pys xs, d.py, rfl, hx, hy, h1, h2, by rw [e2]; exact q _ _ W.drop.int⟩
theorem m_countT {k : Nat} (hr : Room k X.A) (ho : DB X G kp o wo) (ha : DA X G kp [e] wa)
    (hbase : attributeBase o "count" X.env (eval o X.env) = eval o X.env := by rfl)
    (hfew : ((backTo cpos (starEach [e] X.env)).all (fun x => !x.1) && (backToKw cpos (keywordEach [] X.env)).all (fun x => x.1.isSome)
      && decide (([e] : List Expr).length + ([] : List Keyword).length + (if ([] : List Keyword).isEmpty then 0 else 1) < 30)) = true := by rfl)
    (hline : (apos.endLine == cpos.line) = true := by rfl) (hs : starEach [e] X.env = (false, eval e X.env) :: starEach [] X.env := by rfl) :
    DE X G kp (.Call (.Attribute o "count" apos) [e] [] cpos) (wPm cntF wo wa) :=
  de_pm F.slot_tuple_count F.type_tuple_count (mt_countT (by have := hr.un; omega)) cntD_ok ho ha hbase hfew hline hs
end
end Bd

/-! Bd27: methods of a part of what a name stands for: x[0].append(1), x[1].clear(). -/
namespace Bd
open PySem PySem.Spec PyProof.Rows L2
/-- one step into a part -/
def Stp (K : PySem.W.Frag) (H : Hp) (i : Nat) (v w : V) : Prop := ∃ a xs, v = .ref a ∧ (SqL K H a xs ∨ SqT K H a xs) ∧ xs[i]? = some w
def VPath (K : PySem.W.Frag) (H : Hp) : List Nat → V → V → Prop
  | [], v, u => v = u
  | i :: p, v, u => ∃ w, Stp K H i v w ∧ VPath K H p w u
theorem VPath.snoc {K : PySem.W.Frag} {H : Hp} {i : Nat} {u : V} : ∀ {p : List Nat} {v : V}, VPath K H (p ++ [i]) v u → ∃ w, VPath K H p v w ∧ Stp K H i w u
  | [], v, ⟨w, h1, h2⟩ => ⟨v, rfl, by cases h2; exact h1⟩
  | _ :: p, v, ⟨w, h1, h2⟩ => by
    obtain ⟨w', h3, h4⟩ := VPath.snoc (p := p) h2
    exact ⟨w', ⟨w, h1, h3⟩, h4⟩
def pthD : List Nat → D → Option D
  | [], d => some d
  | i :: p, .tup es => (es[i]?).bind (pthD p)
  | i :: p, .lst .own es => (es[i]?).bind (pthD p)
  | _ :: _, _ => none
def putD : List Nat → D → D → D
  | [], _, z => z
  | i :: p, .tup es, z => .tup (es.set i (putD p (es.getD i .gone) z))
  | i :: p, .lst .own es, z => .lst .own (es.set i (putD p (es.getD i .gone) z))
  | _ :: _, d, _ => d
theorem set_self {α : Type} {xs : List α} {i : Nat} {x : α} (h : xs[i]? = some x) : xs.set i x = xs := by
  apply List.ext_getElem?
  intro j
  rw [List.getElem?_set]
  split
  · rename_i e; subst e
    split
    · exact h.symm
    · rename_i n; rw [List.getElem?_eq_none (by omega)]
  · rfl
section
variable {K : PySem.W.Frag} {F : AS} {H : Hp} {es : List D}
/-- the part found, and what is behind a change of it -/
def Fnd (K : PySem.W.Frag) (F : AS) (H : Hp) (p : List Nat) (v : V) (d : D) (es : List D) (A : AS) : Prop :=
  ∃ a us, VPath K H p v (.ref a) ∧ H a = some (.lst us) ∧ A a ∧ us.length = es.length ∧ ∀ us' es', (∀ B, Reps K H F us es B → Reps K H F us' es' B) → Rep K (upd H a (.lst us')) F v (putD p d (.lst .own es')) A
theorem Rep.path : ∀ {p : List Nat} {v : V} {d : D} {A : AS}, Rep K H F v d A → pthD p d = some (.lst .own es) → (∀ x, A x → ¬ F x ∧ ∃ o, H x = some o ∧ isOwn o) → Fnd K F H p v d es A
  | [], v, d, A, r, h, hA => by
    cases h
    cases r with
    | own e a q s =>
      rename_i a' us B
      refine ⟨_, us, rfl, e, a, q.length, fun us' es' tr => ?_⟩
      refine .own upd_same a ((tr _ q).agr (agr_upd (fun z => (s _ z).2 rfl) (hA _ a).1 (hA _ a).2) fun _ h => h) s
  | i :: p, v, d, A, r, h, hA => by
    have key : ∀ {us : List V} {ds : List D} {B : AS}, Reps K H F us ds B → (ds[i]?).bind (pthD p) = some (.lst .own es) → (∀ x, B x → A x) → ∃ w a us0, us[i]? = some w ∧ VPath K H p w (.ref a) ∧ H a = some (.lst us0) ∧ B a ∧ us0.length = es.length ∧
        ∀ us' es', (∀ B, Reps K H F us0 es B → Reps K H F us' es' B) → Reps K (upd H a (.lst us')) F us (ds.set i (putD p (ds.getD i .gone) (.lst .own es'))) B := fun {us ds B} q hb hs => by
      cases hd : ds[i]? with
      | none => rw [hd] at hb; cases hb
      | some d0 =>
        rw [hd] at hb
        obtain ⟨w, hw, rq⟩ := q.pick hd
        cases rq with
        | cons x y b1 b2 b3 =>
          rename_i B1 B2
          obtain ⟨a, us0, h1, h2, h3, h4, h5⟩ := Rep.path (p := p) x hb fun z hz => hA z (hs z (b1 z hz))
          refine ⟨w, a, us0, hw, h1, h2, b1 a h3, h4, fun us' es' tr => ?_⟩
          have y' := y.agr (agr_upd (o := .lst us') (fun z => b3 a h3 z) (hA a (hs a (b1 a h3))).1 (hA a (hs a (b1 a h3))).2) (fun _ h => h)
          have z := Reps.replace (i := i) (.cons (h5 us' es' tr) y' b1 b2 b3)
          rw [set_self hw, List.set_set] at z
          have e : ds.getD i .gone = d0 := by rw [List.getD_eq_getElem?_getD, hd]; rfl
          rw [e]
          exact z
    cases d with
    | tup ds =>
      cases r with
      | tup s q =>
        obtain ⟨w, a, us0, h0, h1, h2, h3, h4, h5⟩ := key q h fun _ h => h
        refine ⟨a, us0, ⟨w, ⟨_, _, rfl, .inr s.sq, h0⟩, h1⟩, h2, h3, h4, fun us' es' tr => ?_⟩
        rw [putD]
        exact .tup (s.agr (agr_upd (A := M0) (F := M0) (fun z => z) (fun z => z) (hA a h3).2)) (h5 us' es' tr)
    | lst m ds =>
      cases m with
      | own =>
        cases r with
        | own e ha q s =>
          obtain ⟨w, a, us0, h0, h1, h2, h3, h4, h5⟩ := key q h fun x hx => (s x hx).1
          refine ⟨a, us0, ⟨w, ⟨_, _, rfl, .inl (.inl (.inl e)), h0⟩, h1⟩, h2, (s a h3).1, h4, fun us' es' tr => ?_⟩
          rw [putD]
          exact .own (by rw [upd_ne (fun z => (s a h3).2 z.symm)]; exact e) ha (h5 us' es' tr) s
      | shr => cases h
      | con => cases h
    | _ => cases h
end
section
variable {K : PySem.W.Frag} {G : Gm} {kp : List Bool} {σ : Sl} {ρ : List D} {vs : List V} {ds es : List D} {H : Hp} {v : V} {d : D} {p : List Nat}
theorem World.path (W : World K G kp σ ρ (v :: vs) (d :: ds) H) (h : pthD p d = some (.lst .own es)) : ∃ a us, VPath K H p v (.ref a) ∧ H a = some (.lst us) ∧ us.length = es.length ∧
    ∀ us' es', (∀ F B, Reps K H F us es B → Reps K H F us' es' B) → World K G kp σ ρ (v :: vs) (putD p d (.lst .own es') :: ds) (upd H a (.lst us')) := by
  obtain ⟨A, F, f⟩ := W
  have r := f.reps
  have lv := f.lv
  cases r with
  | cons x y i j k =>
    rename_i B C
    obtain ⟨a, us, h1, h2, h3, h4, h5⟩ := x.path h fun z hz => ⟨f.sep z (i z hz), f.own z (i z hz)⟩
    refine ⟨a, us, h1, h2, h4, fun us' es' tr => ⟨A, F, f.written (i a h3) (o := .lst us') trivial _ ?_ (by simpa using lv) fun _ h => h⟩⟩
    exact .cons (h5 us' es' (tr F)) (y.agr (agr_upd (fun z => k a h3 z) (f.sep a (i a h3)) (f.own a (i a h3))) fun _ h => h) i j k
end
section
variable {X : Cx} {G : Gm} {kp : List Bool}
variable {o e : Expr} {es : List Expr} {apos cpos pos p1 : Pos} {name x : Str} {T id : String} {j : Nat} {p : List Nat}
def tP (K : PySem.W.Frag) (j : Nat) (p : List Nat) : TE := fun σ H Q => ∃ v u, σ[j]? = some (some v) ∧ VPath K H p v u ∧ Q u H
structure DP (X : Cx) (e : Expr) (j : Nat) (p : List Nat) : Prop where
  run : PE X e (tP X.K j p)
theorem dp_v (i : Nat) (hi : X.N[i]? = some x) (hv : Vis X.env.scope x) (h : nm x = true) : DP X (.Name x pos) i [] :=
  ⟨pe_imp (pe_var hi hv (nm1 h) (nm2 h)) fun σ H Q ⟨v, u, e, hp, q⟩ => by cases hp; exact ⟨v, e, q⟩⟩
theorem dp_i {i : Nat} {j1} (h : DP X o j p) (hs : PlainIx (.Constant (.int (i : Int)) j1 p1) := by intro _ _; rfl) : DP X (.Subscript o (.Constant (.int (i : Int)) j1 p1) pos) j (p ++ [i]) :=
  ⟨pe_imp (pe_ix ix_seq h.run pe_int hs) fun σ H Q ⟨v, u, e, hp, q⟩ => by
    obtain ⟨w, h1, a, xs, rfl, hx, hu⟩ := hp.snoc
    refine ⟨v, _, e, h1, ?_⟩
    have ha : atI xs (i : Int) = some u := by
      have hl := (List.getElem?_eq_some_iff.mp hu).1
      unfold atI
      have : ixN xs.length (i : Int) = some i := by
        unfold ixN
        simp [hl]
        try omega
      rw [this]; exact hu
    rcases hx with hx | hx
    · exact .inl ⟨a, xs, _, u, rfl, rfl, hx, ha, q⟩
    · exact .inr (.inl ⟨a, xs, _, u, rfl, rfl, hx, ha, q⟩)⟩
end
end Bd

/-! Bd28: x[0].append(1), x[1].clear(). -/
namespace Bd
open PySem PySem.Spec PyProof.Rows L2
section
variable {X : Cx} {G : Gm} {kp : List Bool}
variable {o e : Expr} {es : List Expr} {apos cpos pos p1 : Pos} {name x : Str} {T id : String} {j : Nat} {p : List Nat} {d : D}
structure DCs (X : Cx) (e : Expr) (d : D) : Prop where
  ex : ∃ v, PE X e (tC v) ∧ ∀ K H F, Rep K H F v d M0
theorem dcs_int {i j1} : DCs X (.Constant (.int i) j1 pos) (.int i) := ⟨_, pe_int, fun _ _ _ => .int⟩
theorem dcs_bl {i j1} : DCs X (.Constant (.bool i) j1 pos) (.bl i) := ⟨_, pe_bl, fun _ _ _ => .bl⟩
theorem dcs_non {j1} : DCs X (.Constant .none j1 pos) .non := ⟨_, pe_non, fun _ _ _ => .non⟩
def wPA (j : Nat) (p : List Nat) (d : D) : WE := fun ρ Q => ∃ es, pthD p (ρ.getD j .gone) = some (.lst .own es) ∧ es.length < sizeLine ∧ Q .non (ρ.set j (putD p (ρ.getD j .gone) (.lst .own (es ++ [d]))))
def wPC (j : Nat) (p : List Nat) : WE := fun ρ Q => ∃ es, pthD p (ρ.getD j .gone) = some (.lst .own es) ∧ Q .non (ρ.set j (putD p (ρ.getD j .gone) (.lst .own [])))
theorem there_path {d : D} {es : List D} (h : pthD p d = some (.lst .own es)) : there d := by
  cases p with
  | nil => cases h; trivial
  | cons i p => cases d <;> first | exact True.intro | cases h
theorem World.goPath {σ : Sl} {ρ : List D} {vs : List V} {ds es : List D} {H : Hp} (W : World X.K G kp σ ρ vs ds H) (h : pthD p (ρ.getD j .gone) = some (.lst .own es)) : ∃ v a us, σ[j]? = some (some v) ∧ VPath X.K H p v (.ref a) ∧ H a = some (.lst us) ∧ us.length = es.length ∧
    ∀ us' es', (∀ F B, Reps X.K H F us es B → Reps X.K H F us' es' B) → World X.K G kp σ (ρ.set j (putD p (ρ.getD j .gone) (.lst .own es'))) (.non :: vs) (.non :: ds) (upd H a (.lst us')) := by
  have ht := there_path h
  obtain ⟨v, e1, W1⟩ := W.take (getD_there ht) ht.ne
  obtain ⟨a, us, h1, h2, h3, mk⟩ := W1.path h
  refine ⟨v, a, us, e1, h1, h2, h3, fun us' es' tr => ?_⟩
  have W6 := ((mk us' es' tr).give e1).non
  rw [List.set_set] at W6
  exact W6
theorem de_pa (ho : DP X o j p) (hc : DCs X e d)
    (hbase : attributeBase o "append" X.env (eval o X.env) = eval o X.env := by rfl)
    (hfew : ((backTo cpos (starEach [e] X.env)).all (fun x => !x.1) && (backToKw cpos (keywordEach [] X.env)).all (fun x => x.1.isSome)
      && decide (([e] : List Expr).length + ([] : List Keyword).length + (if ([] : List Keyword).isEmpty then 0 else 1) < 30)) = true := by rfl)
    (hline : (apos.endLine == cpos.line) = true := by rfl) (hs : starEach [e] X.env = (false, eval e X.env) :: starEach [] X.env := by rfl) :
    DE X G kp (.Call (.Attribute o "append" apos) [e] [] cpos) (wPA j p d) := by
  obtain ⟨v0, hc, hr⟩ := hc
  refine ⟨fun ρ P P' hp ⟨es, h1, h2, q⟩ => ⟨es, h1, h2, hp _ _ q⟩, pe_imp (pe_bm F.plainAttrs_list F.slot_list_append F.type_list_append mt_append ho.run (pa_cons hc pa_nil hs) hbase hfew hline hs rfl) fun σ H Q ⟨ρ, vs, ds, W, es, h1, h2, q⟩ => ?_⟩
  obtain ⟨v, a, us, e1, hp, ha, hl, mk⟩ := W.goPath h1
  exact ⟨v, _, e1, hp, .inl ⟨rfl, us, .inl (.inl ha)⟩, a, us, v0, rfl, rfl, ha, by rw [hl]; exact h2, q _ _ (mk (us ++ [v0]) (es ++ [d]) fun F B r => (r.join (.cons (B := M0) (C := M0) (hr _ _ F) .nil (fun _ h => h) (fun _ h => h) (fun _ h _ => h)) fun _ _ h => h).mono fun x h => h.elim (fun z => z) fun z => z.elim)⟩
theorem de_pcl (ho : DP X o j p)
    (hbase : attributeBase o "clear" X.env (eval o X.env) = eval o X.env := by rfl) (hline : (apos.endLine == cpos.line) = true := by rfl) :
    DE X G kp (.Call (.Attribute o "clear" apos) [] [] cpos) (wPC j p) := by
  refine ⟨fun ρ P P' hp ⟨es, h1, q⟩ => ⟨es, h1, hp _ _ q⟩, pe_imp (pe_bm0 F.plainAttrs_list F.slot_list_clear F.type_list_clear mt_clear ho.run hbase hline) fun σ H Q ⟨ρ, vs, ds, W, es, h1, q⟩ => ?_⟩
  obtain ⟨v, a, us, e1, hp, ha, hl, mk⟩ := W.goPath h1
  exact ⟨v, _, e1, hp, .inl ⟨rfl, us, .inl (.inl ha)⟩, a, us, rfl, rfl, ha, q _ _ (mk [] [] fun F B r => .nil)⟩
end
end Bd

/-! Bd29: x[i], x looked at behind i. -/
namespace Bd
open PySem PySem.Spec PyProof.Rows L2
section
variable {X : Cx} {G : Gm} {kp : List Bool} {b : Expr} {p pos : Pos} {x : Str} {wb : WB} {j : Nat}
def wIxN (j : Nat) (wb : WB) : WE := fun ρ Q => there (ρ.getD j .gone) ∧ wb ρ fun y oy ρ2 => ixD (ρ2.getD j .gone) y fun z x' y' => Q z (gb oy y' (ρ2.set j x'))
theorem de_ixN (hj : X.N[j]? = some x) (hv : Vis X.env.scope x) (h : nm x = true) (hb : DB X G kp b wb) (hs : PlainIx b := by intro _ _; rfl) : DE X G kp (.Subscript (.Name x p) b pos) (wIxN j wb) := by
  refine ⟨fun ρ P P' hp q => ⟨q.1, hb.mono _ _ _ (fun y oy r z => ixD_mono _ _ _ _ (fun _ _ _ z => hp _ _ z) z) q.2⟩, pe_imp (pe_ix ix_seq (pe_var hj hv (nm1 h) (nm2 h)) hb.run hs) fun σ H Q ⟨ρ, vs, ds, W, h1, q⟩ => ?_⟩
  obtain ⟨xv, e1, W1⟩ := W.take (getD_there h1) h1.ne
  refine ⟨xv, e1, ρ, vs, ds, W, hb.mono _ _ _ (fun y oy r2 z yv H2 W2 hy => ?_) q⟩
  have ht : there (r2.getD j .gone) := by
    cases e : r2.getD j .gone <;> rw [e] at z <;> first | trivial | (cases y <;> exact z.elim)
  obtain ⟨xv', e2, W3⟩ := W2.take (getD_there ht) ht.ne
  rw [e1] at e2; cases e2
  refine ixD_ok.2 _ _ _ _ _ _ _ _ _ _ W3.swap (ixD_mono _ _ _ _ (fun a x' y' z v H3 W4 => ?_) z)
  have W5 : World X.K G kp σ (r2.set j .gone) (xv :: ([v, yv] ++ vs)) (x' :: ([a, y'] ++ ds)) H3 := World.rot (us := [v, yv]) (es := [a, y']) W4 rfl
  have W6 := W5.give e1
  rw [List.set_set] at W6
  exact z v H3 (W6.swap.gb hy)
end
end Bd

/-! Bd30: == and != of two texts, whatever signs they have. -/
namespace Bd
open PySem PySem.Spec PyProof.Rows L2
def eqTx : W2 := fun x y Q => match x, y with
  | .str a, .str b => Q (.bl (decide (a = b))) x y
  | _, _ => eqD x y Q
def neTx : W2 := fun x y Q => match x, y with
  | .str a, .str b => Q (.bl (!decide (a = b))) x y
  | _, _ => neD x y Q
section
variable {X : Cx} {G : Gm} {kp : List Bool}
theorem eqT_ok : OpD X G kp (fun x y H Q => rEq x y H Q ∨ rEqD X.K x y H Q) eqTx := by
  refine ⟨fun x y P P' hp q => ?_, fun σ ρ vs ds x y dx dy H Q W q => ?_⟩
  · unfold eqTx at q ⊢
    split at q
    · exact hp _ _ _ q
    · rename_i n
      exact (eqD_ok (X := X) (G := G) (kp := kp)).1 _ _ _ _ hp q
  · unfold eqTx at q
    split at q
    · have e1 := W.isStr
      have e2 := W.swap.isStr
      subst e1 e2
      refine .inl ⟨rfl, ?_⟩
      have := q _ H W.bl
      simpa using this
    · exact .inr (eqD_ok.2 _ _ _ _ _ _ _ _ _ _ W q)
theorem neT_ok : OpD X G kp (fun x y H Q => rNe x y H Q ∨ rNeD X.K x y H Q) neTx := by
  refine ⟨fun x y P P' hp q => ?_, fun σ ρ vs ds x y dx dy H Q W q => ?_⟩
  · unfold neTx at q ⊢
    split at q
    · exact hp _ _ _ q
    · exact (neD_ok (X := X) (G := G) (kp := kp)).1 _ _ _ _ hp q
  · unfold neTx at q
    split at q
    · have e1 := W.isStr
      have e2 := W.swap.isStr
      subst e1 e2
      refine .inl ⟨rfl, ?_⟩
      have := q _ H W.bl
      simpa using this
    · exact .inr (neD_ok.2 _ _ _ _ _ _ _ _ _ _ W q)
variable {a b : Expr} {wa wb : WB} {k : Nat} {pos : Pos}
theorem e_eqT (ha : DB X G kp a wa) (hb : DB X G kp b wb) (hr : Room k X.A) : DE X G kp (.Compare a [.Eq] [b] pos) (wOp eqTx wa wb) := de_cmp (op_eq.or (op_eqD (hu64 hr))) eqT_ok ha hb (nomark _)
theorem e_neT (ha : DB X G kp a wa) (hb : DB X G kp b wb) (hr : Room k X.A) : DE X G kp (.Compare a [.NotEq] [b] pos) (wOp neTx wa wb) := de_cmp (op_ne.or (op_neD (hu64 hr))) neT_ok ha hb (nomark _)
theorem t_eqT (ha : DB X G kp a wa) (hb : DB X G kp b wb) (hr : Room k X.A) : DT X G kp (.Compare a [.Eq] [b] pos) (Bd.wT (wOp eqTx wa wb)) := dt_cmp (op_eq.or (op_eqD (hu64 hr))) eqT_ok ha hb (nomark _)
theorem t_neT (ha : DB X G kp a wa) (hb : DB X G kp b wb) (hr : Room k X.A) : DT X G kp (.Compare a [.NotEq] [b] pos) (Bd.wT (wOp neTx wa wb)) := dt_cmp (op_ne.or (op_neD (hu64 hr))) neT_ok ha hb (nomark _)
end
end Bd

/-! Bd31: min of a list of pairs of ints. -/
namespace Bd
open PySem PySem.Spec PyProof.Rows L2
theorem best_least {bt : Nat → Nat → Bool} {n : Nat} (tr : ∀ i j m, i < n → j < n → m < n → bt i j = false → bt j m = false → bt i m = false) (ir : ∀ i, i < n → bt i i = false) (as : ∀ i j, i < n → j < n → bt i j = true → bt j i = false) :
    ∀ k, k < n → PySem.argBest bt k ≤ k ∧ ∀ j, j ≤ k → bt j (PySem.argBest bt k) = false
  | 0, h => ⟨Nat.le_refl _, fun j hj => by
      have : j = 0 := by omega
      subst this
      exact ir 0 h⟩
  | k + 1, h => by
    obtain ⟨h1, h2⟩ := best_least tr ir as k (by omega)
    simp only [PySem.argBest]
    cases hb : bt (k + 1) (PySem.argBest bt k) with
    | true =>
      simp only [if_true]
      refine ⟨Nat.le_refl _, fun j hj => ?_⟩
      by_cases e : j = k + 1
      · subst e; exact ir _ h
      · exact tr j _ _ (by omega) (by omega) h (h2 j (by omega)) (as _ _ h (by omega) hb)
    | false =>
      simp only [Bool.false_eq_true, if_false]
      refine ⟨by omega, fun j hj => ?_⟩
      by_cases e : j = k + 1
      · subst e; exact hb
      · exact h2 j (by omega)
def lt2 (p q : Int × Int) : Bool := decide (p.1 < q.1 ∨ (p.1 = q.1 ∧ p.2 < q.2))
theorem lt2_le2 {p q : Int × Int} (h : lt2 p q = false) : le2 q p = true := by
  have h1 := of_decide_eq_false h
  refine decide_eq_true ?_
  by_cases a : q.1 < p.1
  · exact .inl a
  · exact .inr ⟨by omega, by omega⟩
theorem dataLt_enc2 (p q : Int × Int) : PySem.W.dataLt (enc2 p).py (enc2 q).py = lt2 p q := by
  simp only [enc2, PySem.W.dataLt, D.py, pys, PySem.W.keyToks, PySem.W.keyToksAll, PyProof.Rows.lexLt, itemOrd, itemLt, List.cons_append, List.nil_append, lt2]
  by_cases h1 : p.1 < q.1 <;> by_cases h2 : q.1 < p.1 <;> by_cases h3 : p.2 < q.2 <;> simp [h1, h2, h3] <;> omega
theorem depth_enc2 : ∀ ps : List (Int × Int), PyData.depthAll (ps.map fun p => (enc2 p).py) ≤ 60
  | [] => by decide
  | p :: r => by
    rw [List.map_cons, PyData.depthAll]
    have h1 := depth_enc2 r
    have h2 := (okd_enc2 [p] (enc2 p) (List.mem_singleton.mpr rfl)).2
    omega
section
variable {X : Cx} {G : Gm} {kp : List Bool} {e : Expr} {es : List Expr} {pos p1 : Pos} {wr : WBs} {k : Nat}
def rMinP (K : PySem.W.Frag) : List V → Hp → VK → Prop := fun vs H Q => ∃ (a : Addr) (l : List (V × D)) (ps : List (Int × Int)), vs = [V.ref a] ∧ SqL K H a (l.map (·.1)) ∧ (∀ p, p ∈ l → Dp K H p.1 p.2.py) ∧ l.map (·.2) = ps.map enc2 ∧ 0 < ps.length ∧
  ∀ p q, p ∈ l → q ∈ ps → p.2 = enc2 q → (∀ r, r ∈ ps → le2 q r = true) → Q p.1 H
theorem call_minP (hc : X.calm = true) (hu : X.A.units + 64 < cLine) : CallR X (.builtin "min") (rMinP X.K) := by
  intro pins s σ H vs us Q I r h
  obtain ⟨a, l, ps, rfl, hs, hd, hps, h0, q⟩ := h
  obtain ⟨its, rv, hl, hz⟩ := I.list hs
  rw [Vals.ref1 r]
  have e1 := vals_eachIs rv
  have er : PySem.W.EachIs (fun (v : Value) (b : V × D) => ∃ as, Reads s.heap v b.2.py as) its l := by
    refine PySem.W.EachIs.of_zip e1.length fun p hp => ?_
    have h1 := e1.zip p hp
    exact Dp.reads I p.2.2.py p.2.1 p.1 (hd p.2 (List.of_mem_zip hp).2) h1
  obtain ⟨as, ra⟩ := PySem.W.each_readsAll (fun b : V × D => b.2.py) er
  have el : l.map (fun b : V × D => b.2.py) = ps.map fun p => (enc2 p).py := by
    have := congrArg (List.map D.py) hps
    rw [List.map_map, List.map_map] at this
    exact this
  rw [el] at ra
  have ln : ps.length = its.length := by
    have := congrArg List.length hps
    rw [List.length_map, List.length_map] at this
    rw [e1.length]; exact this.symm
  have ln2 : l.length = its.length := e1.length.symm
  have hal : PySem.W.AlikeAll (ps.map fun p => (enc2 p).py) := by
    refine ⟨fun x hx y hy => ?_, fun x hx => ?_⟩
    · obtain ⟨p, _, rfl⟩ := List.mem_map.mp hx
      obtain ⟨q, _, rfl⟩ := List.mem_map.mp hy
      simp [enc2, D.py, pys, PySem.W.alike, PySem.W.alikeAll]
    · obtain ⟨p, _, rfl⟩ := List.mem_map.mp hx
      simp [enc2, D.py, pys]
  refine PySem.call_min_walkH (PySem.W.iter_listW (A := X.A.in1) (I.ok.hd hc) hl.isList fun s₂ e W st hfp hw hk => ?_)
  refine ⟨_, _, _, _, _, _, _, s.heap, _, rfl, W, st, hfp, by simp; omega, hw, hk, PySem.W.cmpIn_lt (A := X.A.in1) (xs := ps.map fun p => (enc2 p).py) ra hal (by have := depth_enc2 ps; show X.A.units + 1 + _ < _; omega), fun v s' hP m => ?_⟩
  obtain ⟨h', tk, rfl, hk'⟩ := PySem.W.moved_old e rfl m
  have ev : ∀ i j, i < ps.length → j < ps.length → PySem.W.dataLt ((ps.map fun p => (enc2 p).py).getD i .none) ((ps.map fun p => (enc2 p).py).getD j .none) = lt2 (ps.getD i (0, 0)) (ps.getD j (0, 0)) := fun i j hi hj => by
    rw [← dataLt_enc2]
    simp [List.getD, hi, hj]
  have B := best_least (bt := fun i j => PySem.W.dataLt ((ps.map fun p => (enc2 p).py).getD i .none) ((ps.map fun p => (enc2 p).py).getD j .none)) (n := ps.length)
    (fun i j m hi hj hm => by
      simp only [ev i j hi hj, ev j m hj hm, ev i m hi hm, lt2, decide_eq_false_iff_not]
      omega)
    (fun i hi => by simp only [ev i i hi hi, lt2, decide_eq_false_iff_not]; omega)
    (fun i j hi hj => by
      simp only [ev i j hi hj, ev j i hj hi, lt2, decide_eq_false_iff_not, decide_eq_true_eq]
      omega) (its.toArray.size - 1) (by simp; omega)
  obtain ⟨b1, b2⟩ := B
  generalize PySem.argBest _ _ = i at hP b1 b2
  have hi : i < ps.length := by simp at b1; omega
  have hv : its[i]? = some v := by simpa using hP
  have hli : i < l.length := by omega
  have hz2 : (v, l[i]) ∈ its.zip l := by
    refine List.mem_of_getElem? (i := i) ?_
    rw [List.getElem?_zip_eq_some]
    exact ⟨hv, List.getElem?_eq_getElem hli⟩
  have e2 : l[i].2 = enc2 ps[i] := by
    have := congrArg (fun z => z[i]?) hps
    simp only [List.getElem?_map, List.getElem?_eq_getElem hli, List.getElem?_eq_getElem hi, Option.map_some] at this
    exact Option.some.inj this
  refine ⟨_, H, I.kept hk', e1.zip _ hz2, q _ ps[i] (List.getElem_mem hli) (List.getElem_mem hi) e2 fun r hr => ?_⟩
  obtain ⟨j, hj, rfl⟩ := List.getElem_of_mem hr
  have := b2 j (by simp; omega)
  simp only [ev j i hj hi] at this
  have g := lt2_le2 this
  simpa [List.getD, hi, hj] using g
def minPF (d : D) (Q : D → D → Prop) : Prop := match d with
  | .lst m xs => ∃ ps : List (Int × Int), xs = ps.map enc2 ∧ 0 < ps.length ∧ ∀ p, p ∈ ps → (∀ q, q ∈ ps → le2 p q = true) → Q (enc2 p) (.lst m xs)
  | _ => False
theorem minP_ok : CallD X G kp (rMinP X.K) (c1 minPF) := by
  refine c1_ok (fun d P P' hp q => ?_) fun σ ρ vs ds u d H Q W q => ?_
  · cases d <;> first | exact q.elim | (obtain ⟨ns, e, l, q⟩ := q; exact ⟨ns, e, l, fun m h1 h2 => hp _ _ (q m h1 h2)⟩)
  · cases d <;> first | exact q.elim | skip
    rename_i m es
    obtain ⟨ps, rfl, l0, q⟩ := q
    obtain ⟨a, us, rfl, t, _, ln, ⟨F0, r0⟩, mk⟩ := W.lstX (solids_map solid_enc2 ps)
    obtain ⟨l, h1, h2⟩ : ∃ l : List (V × D), l.map (·.1) = us ∧ l.map (·.2) = ps.map enc2 := ⟨us.zip (ps.map enc2), by rw [List.map_fst_zip]; omega, by rw [List.map_snd_zip]; omega⟩
    have key : ∀ F, Reps X.K H F us (ps.map enc2) M0 → ∀ p, p ∈ l → Rep X.K H F p.1 p.2 M0 := fun F rk => by
      obtain ⟨l', g1, g2, g3⟩ := rk.mems
      have zz : ∀ z : List (V × D), (z.map (·.1)).zip (z.map (·.2)) = z := fun z => by
        induction z with
        | nil => rfl
        | cons p z ih => simp [ih]
      have e : l = l' := by rw [← zz l, ← zz l', h1, h2, g1, g2]
      rw [e]; exact g3
    have hmem : ∀ p, p ∈ l → p.2.py.canLay0 = true := fun p hp => by
      have : p.2 ∈ ps.map enc2 := by rw [← h2]; exact List.mem_map.mpr ⟨p, hp, rfl⟩
      exact (okd_enc2 ps _ this).1
    refine ⟨a, l, ps, rfl, by rw [h1]; exact t, fun p hp => (key F0 r0 p hp).dp (hmem p hp), h2, l0, fun p q' hp hq' e hall => ?_⟩
    refine q q' hq' hall p.1 H (mk _ _ (fun F A rk r => ?_) (by have := W.lv; simp at this ⊢; omega))
    rw [← e]
    exact r.push (key F rk p hp)
theorem k_minP (hc : X.calm = true) (hr : Room k X.A) (hg : Gl X "min") (hm : X.mg "min" = none) (ha : DBs X G kp (e :: es) wr) (he : starEach (e :: es) X.env = (false, eval e X.env) :: starEach es X.env := by rfl) (hpl : (backTo pos (starEach es X.env)).any (·.1) = false := by rfl) : DE X G kp (.Call (.Name "min" p1) (e :: es) [] pos) (wCall (c1 minPF) wr) := de_callB (call_minP hc (hu64 hr)) minP_ok hg hm boot_min ha (by decide) (by decide) he hpl
end
end Bd

/-! Bd32: int(x); xs[::-1] of lists and tuples. -/
namespace Bd
open PySem PySem.Spec PyProof.Rows L2
section
variable {X : Cx} {G : Gm} {kp : List Bool} {e a : Expr} {es : List Expr} {pos p1 p2 p3 p4 : Pos} {wr : WBs} {wa : WB} {k : Nat}
def intF (d : D) (Q : D → D → Prop) : Prop := match d with
  | .int i => Q (.int i) (.int i)
  | .bl b => Q (.int (if b = true then 1 else 0)) (.bl b)
  | _ => False
theorem intF_ok : CallD X G kp (fun xs H Q => (∃ i, xs = [.int i] ∧ Q (.int i) H) ∨ ∃ k, xs = [.bl k] ∧ Q (.int (if k then 1 else 0)) H) (c1 intF) := by
  refine c1_ok (fun d P P' hp q => ?_) fun σ ρ vs ds u d H Q W q => ?_
  · cases d <;> first | exact q.elim | exact hp _ _ q
  · cases d <;> first | exact q.elim | skip
    · have e := W.isBl
      subst e
      exact .inr ⟨_, rfl, q _ H W.int⟩
    · have e := W.isInt
      subst e
      exact .inl ⟨_, rfl, q _ H W.int⟩
theorem k_int (hg : Gl X "int") (hm : X.mg "int" = none) (ha : DBs X G kp (e :: es) wr) (he : starEach (e :: es) X.env = (false, eval e X.env) :: starEach es X.env := by rfl) (hpl : (backTo pos (starEach es X.env)).any (·.1) = false := by rfl) : DE X G kp (.Call (.Name "int" p1) (e :: es) [] pos) (wCall (c1 intF) wr) := de_callTy call_int1 intF_ok hg hm boot_int ha (by decide) (by decide) he hpl
end
section
variable {prog : Program} {w : PySem.World} {A : Around} {E : Value → Shared → Prop} {s : Shared}
theorem places_back (n : Nat) : Builtin.Slice.slicePlaces ((n : Int) - 1) (-1) (-1) = n := by
  unfold Builtin.Slice.slicePlaces
  rw [if_neg (by decide)]
  by_cases h : n = 0
  · subst h; decide
  · rw [if_pos (by omega)]
    have : ((n : Int) - 1 - (-1) - 1) / (- -1) = (n : Int) - 1 := by
      rw [show (n : Int) - 1 - (-1) - 1 = (n : Int) - 1 by omega, show (- -1 : Int) = 1 by decide, Int.ediv_one]
    rw [this]; omega
theorem applied_back {sl : Addr} {vl vu vs : Value} {n : Nat} {Q : Int × Int × Nat → Shared → Prop} (hs : s.heap.IsSliceOf sl vl vu vs) (pl : IsPart vl none) (pu : IsPart vu none) (ps : IsPart vs (some (-1)))
    (h : Q ((n : Int) - 1, -1, n) s) : wpAny (model prog w) A (Builtin.Slice.sliceApplied (.ref sl) (pure (n : Int))) Q E s := by
  obtain ⟨os, hos, hcs, hds⟩ := id hs
  unfold Builtin.Slice.sliceApplied Builtin.Slice.sliceFields
  refine wpAny_bind (wpAny_bind (wpAny_field hos hds (x := vl) rfl (wpAny_bind (wpAny_field hos hds (x := vu) rfl (wpAny_bind (wpAny_field hos hds (x := vs) rfl (wpAny_pure ?_)))))))
  refine wpAny_bind (HT.slicePart_ ps ?_)
  show wpAny _ _ (if ((-1 : Int) == 0) = true then _ else _) _ _ s
  rw [if_neg (by decide)]
  refine wpAny_bind (HT.slicePart_ pl (wpAny_bind (HT.slicePart_ pu (wpAny_bind (wpAny_pure ?_)))))
  show wpAny _ _ (pure (((n : Int) - 1), (-1 : Int), Builtin.Slice.slicePlaces ((n : Int) - 1) (-1) (-1))) _ _ s
  rw [places_back]
  exact wpAny_pure h
theorem fm_congr {α β : Type} {f g : α → Option β} : ∀ {l : List α}, (∀ m, m ∈ l → f m = g m) → l.filterMap f = l.filterMap g
  | [], _ => rfl
  | x :: r, h => by
    rw [List.filterMap_cons, List.filterMap_cons, h x List.mem_cons_self, fm_congr fun m hm => h m (List.mem_cons_of_mem _ hm)]
theorem pick_back (xs : Array Value) : ((List.range xs.size).filterMap fun (m : Nat) => xs[(((xs.size : Nat) : Int) - 1 + (m : Int) * (-1)).toNat]?).toArray = xs.toList.reverse.toArray := by
  have e : ((List.range xs.size).filterMap fun (m : Nat) => xs[(((xs.size : Nat) : Int) - 1 + (m : Int) * (-1)).toNat]?) = (List.range xs.size).filterMap fun m => xs.toList.reverse[m]? := by
    apply fm_congr
    intro m hm
    have := List.mem_range.mp hm
    rw [List.getElem?_reverse (by simpa using this)]
    rw [Array.length_toList, Array.getElem?_toList]
    congr 1
    omega
  rw [e]
  have g : ∀ ys : List Value, ((List.range ys.length).filterMap fun m => ys[m]?) = ys := fun ys => by
    apply List.ext_getElem?
    intro i
    have : ((List.range ys.length).filterMap fun m => ys[m]?) = ys := by
      induction ys with
      | nil => rfl
      | cons y r ih =>
        rw [List.length_cons, List.range_succ_eq_map, List.filterMap_cons, List.filterMap_map]
        simp only [List.getElem?_cons_zero]
        congr 1
    rw [this]
  have := g xs.toList.reverse
  rw [List.length_reverse, Array.length_toList] at this
  rw [this]
theorem getItem_tuple_back {t sl : Addr} {items : Array Value} {vl vu vs : Value} {Q : Value → Shared → Prop} (ht : IsTup s.heap t items) (hs : s.heap.IsSliceOf sl vl vu vs) (pl : IsPart vl none) (pu : IsPart vu none) (ps : IsPart vs (some (-1)))
    (h : Q (.ref s.heap.objs.size) { s with heap := s.heap.push { cls := .type "tuple", data := .seq items.toList.reverse.toArray } })
    (hsz : items.size ≤ sizeLine) : wpAny (model prog w) A (getItem (.ref t) (.ref sl)) Q E s := by
  have htake : sizeOk (.seq items.toList.reverse.toArray) := by
    show items.toList.reverse.toArray.size ≤ sizeLine
    rw [List.size_toArray, List.length_reverse, Array.length_toList]
    exact hsz
  obtain ⟨os, hos, hcs, hds⟩ := id hs
  have hTs : s.TypeIs (.ref sl) "slice" := ⟨os, hos, hcs⟩
  unfold getItem
  try with_reducible refine wpAny_holding ?_
  first | refine wpAny_bind (wpAny_pure ?_) | skip
  refine wpAny_bind (wpAny_sequenceKey ht.typeIs (by decide) ?_)
  refine wpAny_bind (wpAny_callSpecial?_slot (name := Str.ofString "__getitem__") ht.typeIs PyProof.Rows.slot_tuple_getitem (wpAny_call_entry PyProof.Rows.slot_tuple_getitem ht.typeIs PyProof.Rows.entry_tuple_getitem ?_ (PyProof.Rows.args_tuple_getitem _ _)))
  show wpAny _ _ (Builtin.Tuple.tupleItemsOf (.ref t) >>= _) _ _ s
  refine wpAny_bind (tupleItemsOf_ ht ?_)
  refine wpAny_bind (wpAny_typeOf hTs ?_)
  rw [if_pos (by decide)]
  refine wpAny_bind (applied_back hs pl pu ps ?_)
  have hno : ¬ ((((items.size : Nat) : Int) - 1 == 0 && (-1 : Int) == 1 && items.size == items.size) = true) := by simp
  show wpAny _ _ (if ((((items.size : Nat) : Int) - 1 == 0 && (-1 : Int) == 1 && items.size == items.size) = true) then _ else _) _ _ s
  rw [if_neg hno, pick_back]
  first
    | exact wpAny_bind (m := Builtin.Tuple.tupleExact _) (wpAny_newObj_type (wpAny_pure ⟨_, rfl, wpAny_pure h⟩) htake)
    | exact wpAny_bind (m := Builtin.Tuple.tupleExact _) (wpAny_newObj_type (wpAny_bind (wpAny_pure (wpAny_pure ⟨_, rfl, wpAny_pure h⟩))) htake)
    | exact wpAny_bind (wpAny_bind (m := Builtin.Tuple.tupleExact _) (wpAny_newObj_type (wpAny_pure (wpAny_pure ⟨_, rfl, wpAny_pure h⟩)) htake))
    | exact wpAny_bind (wpAny_bind (m := Builtin.Tuple.tupleExact _) (wpAny_newObj_type (wpAny_pure ⟨_, rfl, wpAny_pure h⟩) htake))
end
section
variable {X : Cx} {G : Gm} {kp : List Bool} {e a : Expr} {pos p1 p2 p3 p4 : Pos} {wa : WB} {k : Nat}
/-- a, b, c = x, y, z with plain local names -/
def wsP3 (i j l : Nat) (w : WA) : WS := fun E ρ => w ρ fun es r => match es with
  | [d, f, g] => E.nx (((r.set i d).set j f).set l g)
  | _ => False
theorem ds_par3 {i j l : Nat} {x y z : Str} {a b c : Expr} {px py pz pt pos : Pos} {kt k2 pt2} {w : WA} (hc : X.calm = true) (hN : X.N.Nodup) (hi : X.N[i]? = some x) (hj : X.N[j]? = some y) (hl : X.N[l]? = some z) (hij : i ≠ j) (hil : i ≠ l) (hjl : j ≠ l)
    (hx : X.env.scope.names.lookup x = some .local) (hy : X.env.scope.names.lookup y = some .local) (hz : X.env.scope.names.lookup z = some .local) (ha : DA X G kp [a, b, c] w)
    (hw : swappedStores [.Tuple [.Name x px, .Name y py, .Name z pz] kt pt] (.Tuple [a, b, c] k2 pt2) X.env = pure (some [x, y, z])) (hk : kp.getD i false = false := by rfl) (hk2 : kp.getD j false = false := by rfl) (hk3 : kp.getD l false = false := by rfl)
    (hs : swapsWithSole [.Tuple [.Name x px, .Name y py, .Name z pz] kt pt] (.Tuple [a, b, c] k2 pt2) pos.line X.env = pure false := by rfl) :
    DS X G kp (.Assign [.Tuple [.Name x px, .Name y py, .Name z pz] kt pt] (.Tuple [a, b, c] k2 pt2) pos) (wsP3 i j l w) := by
  refine ⟨fun A B ρ hl q => ha.mono _ _ _ (fun es r z => ?_) q, ps_imp (ps_par3 hc hN hi hj hl hij hil hjl hx hy hz ha.run hw hs) fun E σ H ⟨ρ, vs, ds, W, q⟩ => ⟨ρ, vs, ds, W, ha.mono _ _ _ (fun es r z us H' l W' => ?_) q⟩⟩
  · match es, z with
    | [d, f, g], z => exact hl.nx _ z
  · match es, us, l, W', z with
    | [d, f, g], [u, w, v], _, W', z => exact ⟨u, w, v, rfl, z _ H' (((W'.store hk).store hk2).store hk3)⟩
def tBack (K : PySem.W.Frag) (te : TE) : TE := fun σ H Q => te σ H fun x H1 => ∃ a xs, x = .ref a ∧ ((SqL K H1 a xs ∧ ∀ p, H1 p = none → Q (.ref p) (upd H1 p (.lst xs.reverse))) ∨ (SqT K H1 a xs ∧ ∀ p o, H1 p = none → o.dict = none → Q (.ref p) (upd H1 p (.frz o (.tup xs.reverse)))))
theorem pe_back {te : TE} (he : PE X e te) : PE X (.Subscript e (.Slice none none (some (.UnaryOp .USub (.Constant (.int 1) k p1) p2)) p3) pos) (tBack X.K te) := by
  refine ⟨fun pins s σ H Q I h => ?_⟩
  refine Subscript_ (thn (he.run pins s σ H _ I h) fun v s1 ⟨x, H1, I1, r1, q1⟩ => ?_)
  obtain ⟨a, xs, ex, hq⟩ := q1
  subst ex
  cases r1
  have hst : PO X (some (.UnaryOp .USub (.Constant (.int 1) k p1) p2)) (tPart (tUn (rU fun i => .int (-i)) (tC (.int 1)))) := po_some (pe_un un_neg pe_int)
  refine wpAny_Slice (thn (po_none.run pins s1 σ H1 (fun o H2 => o = none ∧ H2 = H1) I1 ⟨rfl, rfl⟩) fun vl s2 ⟨l, H2, I2, pl, el, e2⟩ => ?_)
  subst el e2
  refine thn (po_none.run pins s2 σ H2 (fun o H3 => o = none ∧ H3 = H2) I2 ⟨rfl, rfl⟩) fun vu s3 ⟨u, H3, I3, pu, eu, e3⟩ => ?_
  subst eu e3
  refine thn (hst.run pins s3 σ H3 (fun o H4 => o = some (-1) ∧ H4 = H3) I3 ⟨1, rfl, -1, rfl, rfl, rfl⟩) fun vs s4 ⟨o, H4, I4, ps, eo, e4⟩ => ?_
  subst eo e4
  have I5 : Inv X pins σ H4 { s4 with heap := s4.heap.push { cls := .type "slice", data := .fields #[vl, vu, vs] } } := I4.kept (t' := s4.toks) fun b ob q => Heap.get?_push_of_some _ q
  show wpAny (model X.prog X.w) X.A (subscriptTail e (.Slice none none (some (.UnaryOp .USub (.Constant (.int 1) k p1) p2)) p3) (.ref a) (.ref s4.heap.objs.size)) (EP X pins σ Q) X.xe { s4 with heap := s4.heap.push { cls := .type "slice", data := .fields #[vl, vu, vs] } }
  rcases hq with ⟨hx, q⟩ | ⟨hx, q⟩
  · obtain ⟨its, r, ht, hz⟩ := I5.list hx
    have hlen := r.length
    refine tail_any (ops := [.ref a, .ref s4.heap.objs.size]) ht.isList.typeIs (PySem.slot_list_getitem.lookup) ?_ (by with_unfolding_all rfl)
    refine wpAny_getItem_list_slice ht.isList (Heap.IsSliceOf.new _ vl vu vs) pl pu ps (by decide) ?_ (by rw [List.size_toArray]; omega)
    rw [PySem.W.krv_pick]
    refine ⟨.ref _, _, I5.laid (t' := s4.toks) (o := .lst xs.reverse) (fun b ob q => Heap.get?_push_of_some _ q) (Nat.le_refl _) ?_, rfl, q _ (I5.hok.fresh (Nat.le_refl _))⟩
    exact ⟨by rw [List.length_reverse]; exact hz, _, 0, r.reverse, Heap.get?_push_size _ rfl⟩
  · obtain ⟨its, r, ht, hz⟩ := I5.tuple hx
    have hlen := r.length
    refine tail_any (ops := [.ref a, .ref s4.heap.objs.size]) ht.typeIs (PyProof.Rows.slot_tuple_getitem.lookup) ?_ (by with_unfolding_all rfl)
    refine getItem_tuple_back ht (Heap.IsSliceOf.new _ vl vu vs) pl pu ps ?_ (by rw [List.size_toArray]; omega)
    exact ⟨.ref _, _, laidTup (tk := s4.toks) (n := 0) I5 r.reverse (by rw [List.length_reverse]; exact hz), rfl, q _ _ (I5.hok.fresh (Nat.le_refl _)) rfl⟩
def backD (x : D) (Q : D → D → Prop) : Prop := match x with
  | .lst m xs => Q (.lst .own (frzs xs).reverse) (.lst m (frzs xs))
  | .tup xs => Q (.tup (frzs xs).reverse) (.tup (frzs xs))
  | _ => False
def wBack (wa : WB) : WE := fun ρ Q => wa ρ fun x o r => backD x fun z x' => Q z (gb o x' r)
theorem Reps.rev {K : PySem.W.Frag} {H : Hp} {F : AS} {us : List V} {es : List D} (r : Reps K H F us es M0) : Reps K H F us.reverse es.reverse M0 := by
  obtain ⟨l, h1, h2, h3⟩ := r.mems
  have := Reps.of_mems l.reverse fun p hp => h3 p (List.mem_reverse.mp hp)
  rw [List.map_reverse, List.map_reverse, h1, h2] at this
  exact this
theorem backD_mono : ∀ x P P', (∀ a b, P a b → P' a b) → backD x P → backD x P' := fun x P P' hp q => by
  cases x <;> first | exact q.elim | exact hp _ _ q
theorem backD_ok {σ : Sl} {ρ : List D} {vs : List V} {ds : List D} {H : Hp} {x : V} {d : D} {Q : VK} (W : World X.K G kp σ ρ (x :: vs) (d :: ds) H) (q : backD d fun z x' => ∀ u H', World X.K G kp σ ρ (u :: x :: vs) (z :: x' :: ds) H' → Q u H') :
    ∃ a xs, x = .ref a ∧ ((SqL X.K H a xs ∧ ∀ p, H p = none → Q (.ref p) (upd H p (.lst xs.reverse))) ∨ (SqT X.K H a xs ∧ ∀ p o, H p = none → o.dict = none → Q (.ref p) (upd H p (.frz o (.tup xs.reverse))))) := by
  cases d <;> first | exact q.elim | skip
  · rename_i es
    have W1 : World X.K G kp σ ρ (x :: vs) (.tup (frzs es) :: ds) H := W.frzKids
    obtain ⟨a, xs, rfl, t, l, mk⟩ := W1.tupW (frzs_solid es)
    refine ⟨a, xs, rfl, .inr ⟨t.sq, fun p o hp ho => q _ _ ?_⟩⟩
    refine World.newTup (us := xs.reverse) (es := (frzs es).reverse) (mk _ _ (fun F A rk r => ?_) ?_) (by rw [List.length_reverse, List.length_reverse, l]) hp ho
    · rw [List.append_assoc, List.append_assoc]
      exact (rk.rev.join r fun _ h => h.elim).mono fun x h => h.elim (fun z => z.elim) id
    · have := W.lv
      rw [List.length_append, List.length_append, List.length_reverse, List.length_reverse, l]
      simp at this ⊢; omega
  · rename_i m es
    have W1 : World X.K G kp σ ρ (x :: vs) (.lst m (frzs es) :: ds) H := W.frzKids
    obtain ⟨a, xs, rfl, t, _, l, mk⟩ := W1.lstW (frzs_solid es)
    refine ⟨a, xs, rfl, .inl ⟨t, fun p hp => q _ _ ?_⟩⟩
    refine World.newLst (us := xs.reverse) (es := (frzs es).reverse) (mk _ _ (fun F A rk r => ?_) ?_) (by rw [List.length_reverse, List.length_reverse, l]) hp
    · rw [List.append_assoc, List.append_assoc]
      exact (rk.rev.join r fun _ h => h.elim).mono fun x h => h.elim (fun z => z.elim) id
    · have := W.lv
      rw [List.length_append, List.length_append, List.length_reverse, List.length_reverse, l]
      simp at this ⊢; omega
theorem de_back (ha : DB X G kp a wa) : DE X G kp (.Subscript a (.Slice none none (some (.UnaryOp .USub (.Constant (.int 1) k p1) p2)) p3) pos) (wBack wa) :=
  ⟨fun ρ P P' hp q => ha.mono ρ _ _ (fun d o r z => backD_mono _ _ _ (fun a b z => hp _ _ z) z) q,
    pe_imp (pe_back ha.run) fun σ H Q ⟨ρ, vs, ds, W, q⟩ => ⟨ρ, vs, ds, W, ha.mono ρ _ _ (fun d o r z v H' W' ho => backD_ok W' (backD_mono _ _ _ (fun y x' z u H4 W4 => z u H4 (W4.swap.gb ho)) z)) q⟩⟩
end
theorem solids_enc2 (xs : List (Int × Int)) : solids (xs.map enc2) = true := solids_map solid_enc2 xs
theorem eqd_lnil {m n : M} {ds : List D} : eqd (.lst m ds) (.lst n []) = decide (ds = []) := by
  simp only [eqd, D.py, PyData.eqv, pys]
  cases ds <;> simp [pys, PyData.eqvAll]
theorem eqd_tnil {ds : List D} : eqd (.tup ds) (.tup []) = decide (ds = []) := by
  simp only [eqd, D.py, PyData.eqv, pys]
  cases ds <;> simp [pys, PyData.eqvAll]
theorem okP_enc2 (p : Int × Int) : okP (enc2 p) 1 := okP_tup fun d hd => by
  simp only [List.mem_cons, List.not_mem_nil, or_false] at hd
  rcases hd with rfl | rfl <;> exact okP_int
theorem okP_encs {ps : List (Int × Int)} : ∀ d, d ∈ ps.map enc2 → okP d 1 := fun d hd => by
  obtain ⟨p, _, rfl⟩ := List.mem_map.mp hd
  exact okP_enc2 p
theorem shp_lenc {m : M} {ps : List (Int × Int)} : shp (.lst m (ps.map enc2)) = True := eq_true (shp_of (n := 2) (okP_lst okP_encs) (by decide))
theorem shp_tenc {ps : List (Int × Int)} : shp (.tup (ps.map enc2)) = True := eq_true (shp_of (n := 2) (okP_tup okP_encs) (by decide))
end Bd

/-! Bd33: the temporaries set aside; raise; a refusal of an own class. -/
namespace Bd
open PySem PySem.Spec PyProof.Rows L2
section
variable {K : PySem.W.Frag} {G : Gm} {kp kp1 : List Bool} {σ : Sl} {ρ ρ' : List D} {vs us ws : List V} {ds es fs : List D} {H H' : Hp} {v : V} {d : D} {i : Nat}
/-- the slots alone: the temporaries stand aside, and come back -/
theorem World.aside (W : World K G kp σ ρ vs ds H) : ∃ A F, World K ⟨H, A, F, G.T, σ, G.n⟩ kp1 σ ρ [] [] H ∧
    ∀ ρ' ws fs H', ws.length = fs.length → World K ⟨H, A, F, G.T, σ, G.n⟩ kp1 σ ρ' ws fs H' → World K G kp σ ρ' (ws ++ vs) (fs ++ ds) H' := by
  obtain ⟨A, F, f⟩ := W
  have lv := f.lv
  obtain ⟨B, C, r1, r2, h1, h2, h3⟩ := f.reps.split lv
  refine ⟨C, F, ⟨C, F, r2, rfl, f.ls, f.sn, f.non, fun a h => f.sep a (h2 a h), fun a h => f.own a (h2 a h), f.trk, fun a h => .inl h, fun a h => .inr (.inl h), fun a o e _ _ => e, fun a e => e, f.tab, fun _ _ => rfl⟩, fun ρ' ws fs H' lw W' => ?_⟩
  obtain ⟨A', F', g⟩ := W'
  have noF : ∀ a, Nw H a → ¬ F a := fun a e z => by
    obtain ⟨o, q, w⟩ := f.trk a z
    exact e.not q (not_tbl w)
  have noB : ∀ a, Nw H a → ¬ B a := fun a e z => by
    obtain ⟨o, q, w⟩ := f.own a (h1 a z)
    exact e.not q (not_tbl w)
  have stB : ∀ a o, H a = some o → B a → H' a = some o := fun a o e c => by
    obtain ⟨o', e', q⟩ := f.own a (h1 a c)
    rw [e] at e'; cases e'
    exact g.fr a o e (fun z => h3 a c z) (not_tbl q)
  have stF : ∀ a o, H a = some o → F a → H' a = some o := fun a o e c => by
    obtain ⟨o', e', q⟩ := f.trk a c
    rw [e] at e'; cases e'
    exact g.fr a o e (fun z => f.sep a (h2 a z) c) (not_tbl q)
  have agr : Agr B F H H' := fun a o e q => by
    rcases q with q | q | q
    · exact stB a o e q
    · exact stF a o e q
    · refine g.fr a o e (fun z => ?_) fun ps z => by rw [z] at q; exact q
      obtain ⟨o', e', q'⟩ := f.own a (h2 a z)
      rw [e] at e'; cases e'
      cases o <;> first | exact q.elim | exact q'.elim
  obtain ⟨A1, A2, s1, s2, k1, k2, k3⟩ := g.reps.split lw
  have farB : ∀ x, A' x → ¬ B x := fun x h q => (g.src x h).elim (fun z => h3 x q z) fun z => noB x z q
  refine ⟨fun x => A' x ∨ B x, fun x => F x ∨ F' x, ?_, by simp [lv, lw], g.ls, f.sn, g.non, fun a h q => ?_, fun a h => ?_, fun a h => ?_, fun a h => ?_, fun a h => ?_, fun a o e n nt => ?_, fun a e => f.al a (g.al a e), g.tab, f.kps⟩
  · rw [List.append_assoc, List.append_assoc]
    have m := (r1.agr agr fun x h => .inl h).join (s2.agr (fun _ _ e _ => e) fun x h => (.inr h : F x ∨ F' x)) fun x h q => farB x (k2 x q) h
    refine ((s1.agr (fun _ _ e _ => e) fun x h => .inr h).join m fun x h q => ?_).mono fun x h => ?_
    · exact q.elim (farB x (k1 x h)) (k3 x h)
    · exact h.elim (fun z => .inl (k1 x z)) fun z => z.elim .inr fun z => .inl (k2 x z)
  · rcases h with h | h
    · rcases q with q | q
      · exact (g.src a h).elim (fun z => f.sep a (h2 a z) q) fun z => noF a z q
      · exact g.sep a h q
    · rcases q with q | q
      · exact f.sep a (h1 a h) q
      · rcases g.srf a q with z | z | z
        · exact h3 a h z
        · exact f.sep a (h1 a h) z
        · exact noB a z h
  · rcases h with h | h
    · exact g.own a h
    · obtain ⟨o, e, q⟩ := f.own a (h1 a h)
      exact ⟨o, stB a o e h, q⟩
  · rcases h with h | h
    · obtain ⟨o, e, q⟩ := f.trk a h
      exact ⟨o, stF a o e h, q⟩
    · exact g.trk a h
  · rcases h with h | h
    · exact (g.src a h).elim (fun z => f.src a (h2 a z)) fun z => .inr (f.al a z)
    · exact f.src a (h1 a h)
  · rcases h with h | h
    · exact f.srf a h
    · rcases g.srf a h with z | z | z
      · exact (f.src a (h2 a z)).elim .inl fun z => .inr (.inr z)
      · exact f.srf a z
      · exact .inr (.inr (f.al a z))
  · refine g.fr a o (f.fr a o e n nt) (fun z => ?_) nt
    exact (f.src a (h2 a z)).elim n fun q => (q.not e nt).elim
/-- another heap, that keeps all but tables -/
theorem World.onto (W : World K G kp σ ρ vs ds H) (e : LamX.ExtN H H') (t : LamX.Tabs G.T H') : World K G kp σ ρ vs ds H' := by
  obtain ⟨A, F, f⟩ := W
  have keepA : ∀ a o, H a = some o → isOwn o → H' a = some o := fun a o h w => e a o h (not_tbl w)
  refine ⟨A, F, f.reps.agr (fun a o h q => ?_) (fun _ h => h), f.lv, f.ls, f.sn, f.non, f.sep, fun a h => ?_, fun a h => ?_, f.src, f.srf, fun a o h n nt => e a o (f.fr a o h n nt) nt, fun a h => f.al a fun o z => ?_, t, f.kps⟩
  · rcases q with q | q | q
    · obtain ⟨o', z, w⟩ := f.own a q
      rw [h] at z; cases z
      exact keepA a o h w
    · obtain ⟨o', z, w⟩ := f.trk a q
      rw [h] at z; cases z
      exact keepA a o h w
    · exact e a o h fun ps z => by rw [z] at q; exact q
  · obtain ⟨o, z, w⟩ := f.own a h
    exact ⟨o, keepA a o z w, w⟩
  · obtain ⟨o, z, w⟩ := f.trk a h
    exact ⟨o, keepA a o z w, w⟩
  · by_cases q : ∃ ps, o = .tbl ps
    · exact q
    · exact (h.not (e a o z fun ps w => q ⟨ps, w⟩) fun ps w => q ⟨ps, w⟩).elim
end
/-! ### raise -/
/-- a class of refusals, without an own __init__ -/
structure RCls (mg : Str → Option Value) (K : PySem.W.Frag) (x : Str) : Prop where
  g : mg x = some (.ref (He.ga K x))
  f : (He.Fa.exc x).ok K = true
section
variable {X : Cx} {G : Gm} {kp : List Bool} {Ex : XD} {x m : Str} {j : Nat} {p p2 p3 pos : Pos}
theorem ds_raise (hc : X.calm = true) (C : RCls X.mg X.K x) (hx : TakesD X G kp Ex) (hg : Gl X x) (hdb : (x == ("__debug__" : Str)) = false) : DS X G kp (.Raise (some (.Call (.Name x p) [.Constant (.str m) j p2] [] p3)) none pos) (fun _ ρ => Ex x [] ρ) := by
  obtain ⟨c1, c2, c3, c4⟩ := He.exc_ok C.f
  have mk := pmk_own (X := X) (j := j) (m := m) (p := p) (p2 := p2) (pos := p3) PySem.F.excBase_ValueError c1 C.g c2 (raises_own c3 c4) hg hdb
  exact ⟨fun A B ρ _ q => q, ps_imp (ps_raise (pos := pos) hc hx mk) fun E σ H ⟨ρ, vs, ds, W, q⟩ => ⟨ρ, vs, ds, x, [], W, ⟨rfl, fun _ => rfl⟩, q⟩⟩
end
end Bd

/-! Bd34: a lambda handed to a def that catches. -/
namespace Bd
open PySem PySem.Spec PyProof.Rows L2
section
variable {X : Cx} {pins : List (Addr × Obj)} {σ : L2.St} {H HZ : Hp} {s s1 : Shared}
/-- the call of the name that holds the lambda, where no watcher stands around -/
theorem act_quiet {CXg : CXT} {Eg : XK} {Ng : List Str} {qg a : Str} {sg scope : Scope} {g f c' : Addr} {cdg pm ctv : Value} {params : Arguments} {body : Expr} {k i : Nat} {pn : List (Addr × Obj)} {xe : Value → Shared → Prop} {W : WX} {E : XK} {tb : TE} {p1 p2 : Pos}
    (I : Inv X pins σ H s) (lam : LamX.LamS X.env.scope scope)
    (there : s.heap.get? f = some (PySem.W.kla_obj "<lambda>" (X.env.qual ++ "<lambda>") params body scope (cloFrom X.env.cells scope.names []) pm c' ctv)) (fresh : H f = none) (noFrame : f ∉ frs X.stack)
    (none_ : bindArgs (PySem.W.kla_fn "<lambda>" (X.env.qual ++ "<lambda>") params body scope (cloFrom X.env.cells scope.names []) pm (.ref c') ctv) ⟨[], []⟩ = pure [])
    (takes : Takes ((cxOf CXg X.prog X.w X.K X.mg X.base Ng qg sg g cdg X.A X.stack s H Eg).tr pn xe) W) (lets : ∀ cls d σ' H', E cls d H' → W cls d σ' H')
    (room : Room (k + 1) (X.A.deeper (envOfC qg sg s.heap.objs.size g cdg))) (quiet : X.A.guards = some [])
    (run : ∀ (A : Around) (outer : List Env) (s : Shared) (H : Hp), A.guards = some [] → Room k (A.deeper (LamX.lamEnv X scope s.heap.objs.size f c')) → PE (LamX.lamCx X A outer s H E scope f c') body tb)
    (slot : Ng[i]? = some a) (seen : Vis sg a) (n1 : (a == ("__debug__" : Str)) = false) (n2 : (a == ("__classdict__" : Str)) = false) :
    PE ((cxOf CXg X.prog X.w X.K X.mg X.base Ng qg sg g cdg X.A X.stack s H Eg).tr pn xe) (.Call (.Name a p1) [] [] p2)
      (fun σZ HZ Q => σZ[i]? = some (some (.ref f)) ∧ HZ c' = some (LamX.CodeO c' (X.env.qual ++ "<lambda>")) ∧ tb σ HZ Q) := by
  refine ⟨fun pz sz σz hz Q IZ ⟨held, code, want⟩ => ?_⟩
  have look := (pe_var (pos := p1) (i := i) slot seen n1 n2).run pz sz σz hz (fun v h1 => v = .ref f ∧ h1 = hz) IZ ⟨.ref f, held, rfl, rfl⟩
  refine wpAny_Call_Name_kw (thn look fun u s1 ⟨v, h1, I1, rv, ⟨ev, eh⟩⟩ => ?_)
  subst ev
  rw [eh] at I1
  obtain rfl : u = Value.ref f := rv
  have still := I1.base.keep f _ there fresh noFrame fun z => nomatch (show f ∈ ([] : List Addr) from z)
  refine PySem.W.callWith_F0 ⟨_, _, _, _, still⟩ ?_
  obtain ⟨⟨oc, vs, t, hoc, hdc, hvc⟩, _, _⟩ := I1.hok c' _ code
  have inner : codeAny (model X.prog X.w) (X.A.deeper (envOfC qg sg s.heap.objs.size g cdg)) (.call (.ref f) ⟨[], []⟩) (CR (L2.CX X.prog X.w) (envOfC qg sg s.heap.objs.size g cdg :: X.stack) X.prog X.w hz s1 Q E) s1 := by
    refine PySem.W.kla_callFunE room.depth still rfl lam.co lam.gen rfl ⟨c', oc, vs, t, rfl, hoc, hdc, hvc⟩ ?_
    rw [none_]
    refine wpAny_pure (wpAny_newFunctionEnv (fun y hy => (lam.own y hy).2) (fun y hy => absurd hy (by simp)) (fun h₁ ns sb => ⟨I1.nolimit.fresh _ sb, ?_⟩) lam.kind)
    show codeAny _ _ (.expr body (LamX.lamEnv X scope s1.heap.objs.size f c')) _ _
    have kept : ∀ b o, s1.heap.get? b = some o → h₁.get? b = some o := fun b o e =>
      sb.extBut b o (Nat.ne_of_lt (Heap.lt_size e)) (Heap.get?_push_of_some _ e)
    have J := LamX.lam_start2 (E := E) (f := f) (c' := c') (tk := s1.toks + ([] : List (Str × Value)).length) I lam I1.env0 room.hd I1.base ns kept
    have body_ := (run (X.A.deeper (envOfC qg sg s.heap.objs.size g cdg)) _ s1 hz quiet (room.deeper _)).run [] _ _ hz Q J want
    refine PySem.W.kla_codeExpr (wpAny_mono body_ (fun v s' hq => ?_) fun _ _ hq => hq)
    obtain ⟨w', H', J', rv, q⟩ := hq
    exact ⟨w', H', J'.os, J'.bare, J'.base, J'.hok, rv, q⟩
  have out : Passes (L2.CX X.prog X.w) ((cxOf CXg X.prog X.w X.K X.mg X.base Ng qg sg g cdg X.A X.stack s H Eg).tr pn xe) E := passes_call takes lets
  refine wpAny_call (codeAny_mono inner fun r s' hq => ?_)
  match r, hq with
  | .error e, hq => exact out pz σz hz s1 e s' I1 hq
  | .ok (.ret u), hq => exact I1.after hq
end
section
variable {X : Cx}
/-- x(lambda: body), x a def that calls it -/
theorem pe_lamquiet {T : List (Addr × Str)} {TT : (XK → Hp → VK → Prop) → Hp → VK → Prop} {x a : Str} {g c P : Addr} {k : Nat} {pg params : Arguments} {bg : List Stmt} {sg scope : Scope} {kws : List (Str × V)} {fd : FuncData} {Ng : List Str}
    {body : Expr} {t : XK → TE} {p lpos pos : Pos} (hg : Gl X x) (hm : X.mg x = some (.ref g)) (F : FunD X.K x x pg bg sg [] kws g fd) (hb : L2.Binds X.K fd [a] []) (Sg : FnScope Ng [a] sg) (first : Ng[0]? = some a) (seen : Vis sg a)
    (gives : ∀ cdg, LamX.GivesTo X Ng x sg g cdg bg a (X.env.qual ++ "<lambda>") TT)
    (TB : LamX.TabB X.base X.mg c P) (code : X.env.code = .ref c) (tIn : (P, X.env.qual ++ "<lambda>") ∈ T) (tOne : ∀ p ∈ T, p.1 = P → p.2 = X.env.qual ++ "<lambda>") (room : Room (k + 2) X.A) (quiet : X.A.guards = some []) (lam : LamX.LamS X.env.scope scope) (noDef : defaultsOf params X.env = ([], []))
    (none_ : ∀ (q : Str) (cl : List (Str × Addr)) (pm cv ctv : Value), bindArgs (PySem.W.kla_fn "<lambda>" q params body scope cl pm cv ctv) ⟨[], []⟩ = pure [])
    (run : ∀ (A : Around) (outer : List Env) (s : Shared) (H : Hp) (E : XK) (f c' : Addr), A.guards = some [] → Room k (A.deeper (LamX.lamEnv X scope s.heap.objs.size f c')) → PE (LamX.lamCx X A outer s H E scope f c') body (t E))
    (n0 : (x == ("__debug__" : Str)) = false) (n1 : (a == ("__debug__" : Str)) = false) (n2 : (a == ("__classdict__" : Str)) = false) :
    PE X (.Call (.Name x p) [.Lambda params body scope lpos] [] pos) (LamX.tLam T TT t) := by
  obtain ⟨oc, od, dV, kV, doc, pm, an, cdv, ct, osl, rfl, lk, hcd, _, _⟩ := F.ex
  refine ⟨fun pins s σ H Q I ⟨tabs, want⟩ => ?_⟩
  refine wpAny_Call_Name_kw (ld_glob I hg hm ?_ n0)
  refine PySem.W.callWith_K (h₀ := X.base) I.ok.mod.kin F.kp ?_ (by rfl) (by rfl)
  show wpAny _ _ (spliced ((false, eval (.Lambda params body scope lpos) X.env) :: backTo pos (starEach [] X.env))) _ _ s
  refine Calls.spliced_cons (LamX.lam_make2 I TB code tIn tOne tabs noDef (lam.has I.ok) fun f c' pm' ctv h1 s' I1 grown tabs1 there fresh noFrame coded => ?_)
  refine Calls.spliced_nil ⟨I1.kIn, ?_⟩
  have ran : codeAny (model X.prog X.w) X.A (.call (.ref g) ⟨[.ref f], []⟩) (CR C8.CX0 X.stack X.prog X.w h1 s' Q C8.E0) s' := by
    refine LamX.run_ofS (N := Ng) (ps := [a]) (us := [.ref f]) (vs := [.ref f]) lk hcd Sg room I1.env0 (hb s' [.ref f] I1.kIn rfl) (.cons rfl .nil) rfl fun room' => ?_
    obtain ⟨t', ht', hq'⟩ := gives cdv f c' s' h1 Q (fun E H' Q' => t E σ H' Q') (fun W pn xe E p1 p2 tk hW => act_quiet (i := 0) I1 lam there fresh noFrame (none_ _ _ _ _ _) tk hW room' quiet (fun A outer s H gd r => run A outer s H E f c' gd r) first seen n1 n2) coded (want h1 grown tabs1)
    exact ⟨t', ht'.nox, hq'⟩
  refine wpAny_call (codeAny_mono ran fun r s2 hq => ?_)
  match r, hq with
  | .ok (.ret u), hq => exact I1.after hq
end
/-! ### over data -/
/-- what a def makes of a lambda's end, whose words for refusals are those of ok -/
def TKind (K : PySem.W.Frag) (T : List (Addr × Str)) (ok : Str → Option Str) : (XK → Hp → VK → Prop) → Hp → VK → Prop := fun tl H Q =>
  tl (fun cls d H' => ∃ c z A F, ok c = some z ∧ cls = .ref (He.ga K c) ∧ d = none ∧ Enter K T [] [] H' A F ∧ ∀ H'', World K ⟨H', A, F, T, [], 0⟩ [] [] [] [V.str z] [D.str z] H'' → Q (V.str z) H'') H fun _ H' => Q (V.str "told") H'
/-- the reading of a lambda's body -/
def tBody (K : PySem.W.Frag) (T : List (Addr × Str)) (n : Nat) (kp1 : List Bool) (wl : XD → WE) (E : XK) : TE := fun σ H Q => ∃ A F ρ Ex, World K ⟨H, A, F, T, σ, n⟩ kp1 σ ρ [] [] H ∧
  (∀ σ' cls d H' ρ' vs ds c ns, World K ⟨H, A, F, T, σ, n⟩ kp1 σ' ρ' vs ds H' → XIs K c ns cls d H' → Ex c ns ρ' → E cls d H') ∧ wl Ex ρ fun z ρ' => ∀ v H', World K ⟨H, A, F, T, σ, n⟩ kp1 σ ρ' [v] [z] H' → Q v H'
def wKind (ok : Str → Option Str) (wl : XD → WE) : WE := fun ρ Q => wl (fun c ns ρ' => ns = [] ∧ ∃ z, ok c = some z ∧ Q (.str z) ρ') ρ fun _ ρ' => Q (.str "told") ρ'
section
variable {X : Cx} {G : Gm} {kp kp1 : List Bool}
theorem body_run {T : List (Addr × Str)} {A : Around} {outer : List Env} {s : Shared} {H : Hp} {E : XK} {scope : Scope} {f c' : Addr} {body : Expr} {wl : XD → WE} {n : Nat}
    (hb : ∀ (G1 : Gm) (Ex : XD), G1.T = T → G1.n = n → TakesD (LamX.lamCx X A outer s H E scope f c') G1 kp1 Ex → DE (LamX.lamCx X A outer s H E scope f c') G1 kp1 body (wl Ex)) :
    PE (LamX.lamCx X A outer s H E scope f c') body (tBody X.K T n kp1 wl E) := by
  refine ⟨fun pins s1 σ H1 Q I ⟨A1, F1, ρ, Ex, W, hE, q⟩ => ?_⟩
  have tk : TakesD (LamX.lamCx X A outer s H E scope f c') ⟨H1, A1, F1, T, σ, n⟩ kp1 Ex := by
    refine Takes.imp (takes_of (E := E) rfl rfl rfl rfl) fun cls d σ' H' ⟨ρ', vs, ds, c, ns, W', x, e⟩ => hE σ' cls d H' ρ' vs ds c ns W' x e
  exact (hb _ Ex rfl rfl tk).run.run pins s1 σ H1 Q I ⟨ρ, [], [], W, q⟩
theorem all_true {n : Nat} {j : Nat} (h : j < n) : (List.replicate n true).getD j false = true := by
  rw [List.getD_eq_getElem?_getD, List.getElem?_replicate, if_pos h]
  rfl
theorem de_kind {T : List (Addr × Str)} {ok : Str → Option Str} {x a : Str} {g c P : Addr} {k : Nat} {pg params : Arguments} {bg : List Stmt} {sg scope : Scope} {kws : List (Str × V)} {fd : FuncData} {Ng : List Str}
    {body : Expr} {wl : XD → WE} {p lpos pos : Pos} (hg : Gl X x) (hm : X.mg x = some (.ref g)) (F : FunD X.K x x pg bg sg [] kws g fd) (hb : L2.Binds X.K fd [a] []) (Sg : FnScope Ng [a] sg) (first : Ng[0]? = some a) (seen : Vis sg a)
    (gives : ∀ cdg, LamX.GivesTo X Ng x sg g cdg bg a (X.env.qual ++ "<lambda>") (TKind X.K T ok)) (hT : G.T = T) (hn : G.n = X.N.length)
    (TB : LamX.TabB X.base X.mg c P) (code : X.env.code = .ref c) (tIn : (P, X.env.qual ++ "<lambda>") ∈ T) (tOne : ∀ p ∈ T, p.1 = P → p.2 = X.env.qual ++ "<lambda>") (room : Room (k + 2) X.A) (quiet : X.A.guards = some []) (lam : LamX.LamS X.env.scope scope) (noDef : defaultsOf params X.env = ([], []))
    (none_ : ∀ (q : Str) (cl : List (Str × Addr)) (pm cv ctv : Value), bindArgs (PySem.W.kla_fn "<lambda>" q params body scope cl pm cv ctv) ⟨[], []⟩ = pure [])
    (mono : ∀ Ex Ex' ρ P P', (∀ c ns r, Ex c ns r → Ex' c ns r) → (∀ d r, P d r → P' d r) → wl Ex ρ P → wl Ex' ρ P')
    (run : ∀ (A : Around) (outer : List Env) (s : Shared) (H : Hp) (E : XK) (f c' : Addr) (G1 : Gm) (Ex : XD), A.guards = some [] → Room k (A.deeper (LamX.lamEnv X scope s.heap.objs.size f c')) → G1.T = T → G1.n = G.n → TakesD (LamX.lamCx X A outer s H E scope f c') G1 (List.replicate G.n true) Ex →
      DE (LamX.lamCx X A outer s H E scope f c') G1 (List.replicate G.n true) body (wl Ex))
    (n0 : (x == ("__debug__" : Str)) = false) (n1 : (a == ("__debug__" : Str)) = false) (n2 : (a == ("__classdict__" : Str)) = false) :
    DE X G kp (.Call (.Name x p) [.Lambda params body scope lpos] [] pos) (wKind ok wl) := by
  subst hT
  refine ⟨fun ρ P P' hp q => mono _ _ _ _ _ (fun c ns r ⟨e, z, h1, h2⟩ => ⟨e, z, h1, hp _ _ h2⟩) (fun d r z => hp _ _ z) q, ?_⟩
  have pe := pe_lamquiet (X := X) (T := G.T) (TT := TKind X.K G.T ok) (p := p) (lpos := lpos) (pos := pos) hg hm F hb Sg first seen gives TB code tIn tOne room quiet lam noDef none_ (t := tBody X.K G.T G.n (List.replicate G.n true) wl)
    (fun A outer s H E f c' gd r => body_run fun G1 Ex e1 e2 tk => run A outer s H E f c' G1 Ex gd r e1 e2 tk) n0 n1 n2
  refine pe_imp pe fun σ H Q ⟨ρ, vs, ds, W, q⟩ => ⟨?_, fun H1 grown tabs => ?_⟩
  · obtain ⟨A, F, f⟩ := W
    exact f.tab
  have W1 := W.onto grown tabs
  obtain ⟨A, F, W2, back⟩ := W1.aside (kp1 := List.replicate G.n true)
  have same : ∀ {σ' : Sl} {ρ' : List D} {ws : List V} {fs : List D} {H' : Hp}, World X.K ⟨H1, A, F, G.T, σ, G.n⟩ (List.replicate G.n true) σ' ρ' ws fs H' → σ' = σ := fun {σ' ρ' ws fs H'} W' => by
    refine List.ext_getElem? fun j => ?_
    by_cases hj : j < G.n
    · exact W'.kps j (all_true hj)
    · rw [List.getElem?_eq_none (by rw [W'.sn]; show G.n ≤ j; omega), List.getElem?_eq_none (by rw [W2.sn]; show G.n ≤ j; omega)]
  refine ⟨A, F, ρ, _, W2, ?hE, mono _ _ _ _ _ (fun _ _ _ z => z) (fun z ρ' hq v H' W' => ?_) q⟩
  case hE =>
    rintro σ' cls d H' ρ' us es c ns W' ⟨e1, e2⟩ ⟨rfl, z, hz, hq⟩
    have es' := same W'
    subst es'
    have W3 : World X.K ⟨H1, A, F, G.T, σ', G.n⟩ (List.replicate G.n true) σ' ρ' [] [] H' := World.dropN (us := us) (es := es) (vs := []) (ds := []) (by simpa using W') W'.lv
    have W4 : World X.K G kp σ' ρ' ([] ++ vs) ([] ++ ds) H' := back ρ' [] [] H' rfl W3
    obtain ⟨A2, F2, en, ret⟩ := W4.call (us := []) (es := []) rfl
    refine ⟨c, z, A2, F2, hz, e1, e2 rfl, en, fun H'' W5 => ?_⟩
    exact hq (.str z) H'' (ret [V.str z] [D.str z] H'' rfl W5)
  · have W4 : World X.K G kp σ ρ' vs ds H' := (back ρ' [v] [z] H' rfl W').drop
    exact hq (.str "told") H' W4.str
end
end Bd

/-! Bd35: xs.count(x), xs.index(x) of lists; isinstance of a refusal in hand; what needs no calm. -/
namespace Bd
open PySem PySem.Spec PyProof.Rows L2
section
variable {X : Cx} {G : Gm} {kp : List Bool}
def rCountL (K : PySem.W.Frag) : V → List V → Hp → VK → Prop := fun x xs H Q => ∃ y ds d, xs = [y] ∧ Dp K H x (.list ds) ∧ Dp K H y d ∧ SeqAt.shaped (.list ds) = true ∧ SeqAt.shaped d = true ∧ Q (.int ((ds.countP fun z => PyData.eqv z d : Nat) : Int)) H
theorem mt_countL (hu : X.A.units + 66 < cLine) : MtR X "list.count" (rCountL X.K) := by
  intro pins s σ H x xs v us Q I rx rxs h
  obtain ⟨y, ds, d, rfl, hx, hy, s1, s2, q⟩ := h
  cases hx with
  | lst hq ha =>
    cases rx
    cases rxs with
    | cons ry rt =>
      cases rt
      obtain ⟨its, r, pl, hz⟩ := I.list hq
      obtain ⟨as, rd⟩ := Dp.readsAll I _ _ _ ha r
      obtain ⟨bs, rb⟩ := Dp.reads I _ _ _ hy ry
      have l1 := SeqAt.canLay_of_shaped s1
      have l2 := SeqAt.canLay_of_shaped s2
      have d2 := SeqAt.depth_of_shaped s2
      have goal := PySem.SeqAt.count_list_data (prog := X.prog) (w := X.w) (A := X.A) (E := X.xe) (xs := ds) (d := d) (Q := EP X pins σ Q) pl.isList (by simpa using rd) rb (PyData.plainAll_of_canLay0 _ (by simpa [PyData.canLay0] using l1)) (PyData.plain_of_canLay0 _ l2) (by omega)
      exact goal ⟨.int _, H, I.tok _, ⟨_, rfl⟩, q⟩
def cntLF : WM := fun x es Q => match x, es with
  | .lst m xs, [d] => shp (.lst m xs) ∧ shp d ∧ Q (.int ((xs.countP fun z => eqd z d : Nat) : Int)) (.lst m xs)
  | _, _ => False
theorem cntL_ok : MethD X G kp (rCountL X.K) cntLF := by
  refine ⟨fun x es P P' hp q => ?_, fun σ ρ vs ds xv us x es H Q l W q => ?_⟩
  · match x, es, q with
    | .lst m xs, [d], q => exact ⟨q.1, q.2.1, hp _ _ q.2.2⟩
  · match x, es, us, l, W, q with
    | .lst m xs, [d], [u], _, W, ⟨h1, h2, q⟩ =>
      have hx := W.swap.dp h1
      have hy := W.dp h2
      have e : (D.lst m xs).py = .list (pys xs) := by rw [D.py]
      have e2 : ((pys xs).countP fun z => PyData.eqv z d.py) = xs.countP fun z => eqd z d := by
        rw [pys_map, List.countP_map]; rfl
      unfold shp at h1
      rw [e] at hx h1
      exact ⟨u, pys xs, d.py, rfl, hx, hy, h1, h2, by rw [e2]; exact q _ _ W.drop.int⟩
/-- where the first alike stands -/
def ixLF : WM := fun x es Q => match x, es with
  | .lst m xs, [d] => shp (.lst m xs) ∧ shp d ∧ ∃ j z, xs[j]? = some z ∧ eqd z d = true ∧ (∀ i z', i < j → xs[i]? = some z' → eqd z' d = false) ∧ Q (.int (j : Nat)) (.lst m xs)
  | _, _ => False
theorem ixL_ok : MethD X G kp (rIndexD X.K) ixLF := by
  refine ⟨fun x es P P' hp q => ?_, fun σ ρ vs ds xv us x es H Q l W q => ?_⟩
  · match x, es, q with
    | .lst m xs, [d], ⟨a, b, j, z, h1, h2, h3, q⟩ => exact ⟨a, b, j, z, h1, h2, h3, hp _ _ q⟩
  · match x, es, us, l, W, q with
    | .lst m xs, [d], [u], _, W, ⟨h1, h2, j, z, h3, h4, h5, q⟩ =>
      have hx := W.swap.dp h1
      have hy := W.dp h2
      obtain ⟨a, us, e1, _⟩ := W.swap.isLst
      subst e1
      have e : (D.lst m xs).py = .list (pys xs) := by rw [D.py]
      unfold shp at h1
      rw [e] at hx h1
      refine ⟨a, u, d.py, pys xs, j, z.py, rfl, rfl, hx, hy, h1, h2, by rw [pys_map, List.getElem?_map, h3]; rfl, h4, fun i z' hi hz => ?_, q _ _ W.drop.int⟩
      rw [pys_map, List.getElem?_map] at hz
      obtain ⟨z2, hz2, rfl⟩ := Option.map_eq_some_iff.mp hz
      exact h5 i z2 hi hz2
variable {a b e : Expr} {x y : Str} {wa wb : WB} {we : WA} {j k : Nat} {apos cpos p p1 p2 p3 pos : Pos}
theorem m_countL (hu : X.A.units + 66 < cLine) (hj : X.N[j]? = some x) (hv : Vis X.env.scope x) (h : nm x = true) (ha : DA X G kp [e] we) (hbase : attributeBase (.Name x p) "count" X.env (eval (.Name x p) X.env) = eval (.Name x p) X.env := by rfl)
    (hfew : ((backTo cpos (starEach [e] X.env)).all (fun x => !x.1) && (backToKw cpos (keywordEach [] X.env)).all (fun x => x.1.isSome)
      && decide (([e] : List Expr).length + ([] : List Keyword).length + (if ([] : List Keyword).isEmpty then 0 else 1) < 30)) = true := by rfl)
    (hline : (apos.endLine == cpos.line) = true := by rfl) (hs : starEach [e] X.env = (false, eval e X.env) :: starEach [] X.env := by rfl) :
    DE X G kp (.Call (.Attribute (.Name x p) "count" apos) [e] [] cpos) (wMn "list" cntLF j we) :=
  de_mn F.plainAttrs_list F.slot_list_count F.type_list_count (mt_countL hu) cntL_ok (fun es P q => q) hj hv h ha hbase hfew hline hs
theorem m_indexL (hu : X.A.units + 66 < cLine) (hj : X.N[j]? = some x) (hv : Vis X.env.scope x) (h : nm x = true) (ha : DA X G kp [e] we) (hbase : attributeBase (.Name x p) "index" X.env (eval (.Name x p) X.env) = eval (.Name x p) X.env := by rfl)
    (hfew : ((backTo cpos (starEach [e] X.env)).all (fun x => !x.1) && (backToKw cpos (keywordEach [] X.env)).all (fun x => x.1.isSome)
      && decide (([e] : List Expr).length + ([] : List Keyword).length + (if ([] : List Keyword).isEmpty then 0 else 1) < 30)) = true := by rfl)
    (hline : (apos.endLine == cpos.line) = true := by rfl) (hs : starEach [e] X.env = (false, eval e X.env) :: starEach [] X.env := by rfl) :
    DE X G kp (.Call (.Attribute (.Name x p) "index" apos) [e] [] cpos) (wMn "list" ixLF j we) :=
  de_mn F.plainAttrs_list F.slot_list_index F.type_list_index (mt_indexD (by omega)) ixL_ok (fun es P q => q) hj hv h ha hbase hfew hline hs
/-! ### comparisons where a refusal is in hand -/
theorem t_neU (hu : X.A.units + 66 < cLine) (ha : DB X G kp a wa) (hb : DB X G kp b wb) : DT X G kp (.Compare a [.NotEq] [b] pos) (wT (wOp neD wa wb)) := dt_cmp (op_neD (by omega)) neD_ok ha hb (nomark _)
theorem t_eqU (hu : X.A.units + 66 < cLine) (ha : DB X G kp a wa) (hb : DB X G kp b wb) : DT X G kp (.Compare a [.Eq] [b] pos) (wT (wOp eqD wa wb)) := dt_cmp (op_eqD (by omega)) eqD_ok ha hb (nomark _)
theorem DE.of_le {e : Expr} {w w' : WE} (h : DE X G kp e w) (m : ∀ ρ P P', (∀ d r, P d r → P' d r) → w' ρ P → w' ρ P') (l : ∀ ρ Q, w' ρ Q → w ρ Q) : DE X G kp e w' :=
  ⟨m, pe_imp h.run fun σ H Q ⟨ρ, vs, ds, W, q⟩ => ⟨ρ, vs, ds, W, l _ _ q⟩⟩
end
/-! ### isinstance of the refusal in hand -/
def isEF (a : Addr) (t : V) (b : Bool) (d e : D) (Q : D → D → D → Prop) : Prop := match d, e with
  | .opq v, .opq u => v = .ref a ∧ u = t ∧ Q (.bl b) (.opq v) (.opq u)
  | _, _ => False
/-- name i holds the refusal a -/
def wIsE (i : Nat) (a : Addr) (b : Bool) : WE := fun ρ Q => ρ[i]? = some (.opq (.ref a)) ∧ Q (.bl b) ρ
section
variable {X0 : Cx} {G : Gm} {kp : List Bool} {a C : Addr} {oe : Obj} {pn : List (Addr × Obj)} {x y : Str} {i : Nat} {p1 p2 p3 pos : Pos}
theorem isE_ok {t : V} {cv : Value} {b : Bool} (ht : ∀ u, RelV t u → u = cv) (hk : PySem.W.kitOne X0.K (.ref C) cv = some b) : CallD (X0.suite a ((a, oe) :: pn)) G kp (rIsE X0.K C a) (c2 (isEF a t b)) := by
  refine c2_ok (fun d e P P' hp q => ?_) fun σ ρ vs ds u w d e H Q W q => ?_
  · cases d <;> cases e <;> first | exact q.elim | exact ⟨q.1, q.2.1, hp _ _ _ q.2.2⟩
  · cases d <;> cases e <;> first | exact q.elim | skip
    obtain ⟨rfl, rfl, q⟩ := q
    have e1 := W.swap.isOpq
    have e2 := W.isOpq
    refine ⟨_, cv, b, by rw [e1, e2], ht, hk, q _ H ?_⟩
    first
      | exact W.bl
      | exact W.bool
theorem de_isE {t : V} {cv : Value} {b : Bool} (E : ExcC X0.K C) (hz : Zc (.ref C) none oe) (hf : ∃ vs, oe.data = .fields vs) (hg : Gl X0 "isinstance") (hm : X0.mg "isinstance" = none) (ht : ∀ u, RelV t u → u = cv) (hk : PySem.W.kitOne X0.K (.ref C) cv = some b)
    (hi : X0.N[i]? = some x) (hv : Vis X0.env.scope x) (hx : nm x = true) (hy : DE (X0.suite a ((a, oe) :: pn)) G kp (.Name y p3) (wC (.opq t))) :
    DE (X0.suite a ((a, oe) :: pn)) G kp (.Call (.Name "isinstance" p1) [.Name x p2, .Name y p3] [] pos) (wIsE i a b) := by
  have h := de_callB (p1 := p1) (pos := pos) (X := X0.suite a ((a, oe) :: pn)) (call_isE E hz hf) (isE_ok (G := G) (kp := kp) ht hk) hg hm boot_isinstance (dbs_cons (b_v (pos := p2) i hi hv hx) (dbs_cons (db_of hy) dbs_nil)) (by decide) (by decide) (by rfl) (by rfl)
  refine h.of_le (fun ρ P P' hp q => ⟨q.1, hp _ _ q.2⟩) fun ρ Q ⟨q1, q2⟩ => ?_
  have e : ρ.getD i .gone = .opq (.ref a) := by rw [List.getD_eq_getElem?_getD, q1]; rfl
  simp only [wCall, wBc, wBn, wB, wC, wN_eq, e, nB_opq, c2, isEF, gbs, gb]
  exact ⟨trivial, trivial, trivial, q2⟩
/-- the class of refusals y, a module's name -/
theorem de_globR {X : Cx} {A : Addr} (hg : Gl X y) (hm : X.mg y = some (.ref A)) (hd : (y == ("__debug__" : Str)) = false) : DE X G kp (.Name y p3) (wC (.opq (.ref A))) := de_glob hg hm (v := .ref A) rfl (fun _ _ _ => .opq) hd
theorem relR {A : Addr} : ∀ u, RelV (.ref A) u → u = .ref A := fun _ h => h
theorem relT {t : String} : ∀ u, RelV (.ty t) u → u = .type t := fun _ h => h
end
end Bd

/-! Bd36: try: f() / except x as e: .. / return 'told'; a lambda that calls an own def. -/
namespace Bd
open PySem PySem.Spec PyProof.Rows L2
theorem boot_ValueError : bootBuiltins "ValueError" = some (.type "ValueError") := by decide +kernel
/-- the suite behind 'except' -/
def catchOf : List Stmt → List Stmt
  | .Try _ [.ExceptHandler _ _ b _] _ _ _ :: _ => b
  | _ => []
/-- what is known of a class of refusals that is caught: by the class z, asked of the classes ys -/
structure XCls (K : PySem.W.Frag) (z : Str) (ys : List Str) (c : Str) : Prop where
  e : ExcC K (He.ga K c)
  m : PySem.W.exmOne K (.ref (He.ga K c)) (.ref (He.ga K z)) = some true
  v : PySem.W.kitOne K (.ref (He.ga K c)) (.type "ValueError") = some true
  k : ∀ y, y ∈ ys → PySem.W.kitOne K (.ref (He.ga K c)) (.ref (He.ga K y)) = some (decide (c = y))
def xclsB (K : PySem.W.Frag) (z : Str) (ys : List Str) (c : Str) : Bool :=
  decide (PySem.W.findIn K (.ref (He.ga K c)) "__getattribute__" = some (some (.builtin "BaseException.__getattribute__"))) &&
  (decide (PySem.W.findIn K (.ref (He.ga K c)) "__getattr__" = some none) && (decide (PySem.W.subIn K (.ref (He.ga K c)) (.type "BaseException") = some true) && (PySem.W.hasDictIn K (He.ga K c) &&
  (decide (PySem.W.findIn K (.ref (He.ga K c)) "__class__" = some (some (.builtin "object.__class__"))) && (decide (PySem.W.specialIn K (.builtin "object.__class__") "__get__" = some (some (.builtin "getset_descriptor.__get__"))) &&
  (decide (PySem.W.takesIn K (.builtin "object.__class__") = some true) && (decide (PySem.W.mroIn K (He.ga K c) (.type "object") = some true) &&
  (decide (PySem.W.exmOne K (.ref (He.ga K c)) (.ref (He.ga K z)) = some true) && (decide (PySem.W.kitOne K (.ref (He.ga K c)) (.type "ValueError") = some true) &&
  ys.all fun y => decide (PySem.W.kitOne K (.ref (He.ga K c)) (.ref (He.ga K y)) = some (decide (c = y))))))))))))
theorem xcls_of {K : PySem.W.Frag} {z : Str} {ys : List Str} {c : Str} (h : xclsB K z ys c = true) : XCls K z ys c := by
  unfold xclsB at h
  simp only [Bool.and_eq_true, decide_eq_true_eq, List.all_eq_true] at h
  obtain ⟨h1, h2, h3, h4, h5, h6, h7, h8, h9, h10, h11⟩ := h
  exact ⟨⟨h1, h2, h3, h4, h5, h6, h7, h8⟩, h9, h10, h11⟩
section
variable {K : PySem.W.Frag}
theorem reps_gone {H : Hp} {F : AS} : ∀ us : List V, Reps K H F us (List.replicate us.length .gone) M0
  | [] => .nil
  | u :: us => .cons (B := M0) (C := M0) .gone (reps_gone us) (fun _ h => h) (fun _ h => h) fun _ h => h.elim
/-- slots of which nothing is known -/
theorem World.blank {T : List (Addr × Str)} {H : Hp} {A F : AS} {vs0 : Sl} (σ : Sl) (en : Enter K T [] [] H A F) : World K ⟨H, A, F, T, vs0, σ.length⟩ [] σ (List.replicate σ.length .gone) [] [] H := by
  obtain ⟨r, sep, ow, tr, tb⟩ := en
  have e : (sv σ).length = σ.length := by simp [sv]
  have rg : Reps K H F (sv σ) (List.replicate σ.length .gone) M0 := by rw [← e]; exact reps_gone (sv σ)
  refine ⟨A, F, rg.mono fun _ h => h.elim, rfl, by simp, rfl, fun i hi => ?_, sep, ow, tr, fun a h => .inl h, fun a h => .inr (.inl h), fun _ _ e _ _ => e, fun _ e => e, tb, fun j hj => by simp at hj⟩
  have hl : i < σ.length := (List.getElem?_eq_some_iff.mp hi).1
  rw [List.getElem?_replicate, if_pos hl]
end
section
variable {X : Cx} {T : List (Addr × Str)} {ok : Str → Option Str}
theorem kind_gives {Ng : List Str} {x a e z q : Str} {sg : Scope} {g : Addr} {cdg : Value} {i j : Nat} {b₀ : Stmt} {suite : List Stmt} {ys : List Str} {ws : Str → Addr → WS} {p1 p2 p3 p4 p5 p6 p7 p8 : Pos}
    (hz : sg.names.lookup z = some .globalImplicit) (hzm : X.mg z = some (.ref (He.ga X.K z))) (hzd : (z == ("__debug__" : Str)) = false) (h0 : ∀ f : Addr, (L2.start Ng [V.ref f])[0]? = some (some (V.ref f)))
    (hN : Ng.Nodup) (hi : Ng[i]? = some e) (hl : sg.names.lookup e = some .local)
    (xs : ∀ c t, ok c = some t → XCls X.K z ys c)
    (hs : ∀ (s : Shared) (H : Hp) (a' : Addr) (oe : Obj) (pn : List (Addr × Obj)) (c t : Str) (G : Gm), ok c = some t → Zc (.ref (He.ga X.K c)) none oe → (∃ vs, oe.data = .fields vs) → G.n = Ng.length →
      DSs ((cxOf C8.CX0 X.prog X.w X.K X.mg X.base Ng x sg g cdg X.A X.stack s H C8.E0).nox.suite a' ((a', oe) :: pn)) G [] (b₀ :: suite) (ws c a'))
    (tells : ∀ c t, ok c = some t → ∀ (a' : Addr) (R : D → List D → Prop), (∀ r, R (.str t) r) → ws c a' { nx := fun _ => False, rt := R } ((List.replicate Ng.length .gone).set i (.opq (.ref a')))) :
    LamX.GivesTo X Ng x sg g cdg [.Try [.Expr (.Call (.Name a p1) [] [] p2) p3] [.ExceptHandler (some (.Name z p4)) (some e) (b₀ :: suite) p5] [] [] p6, .Return (some (.Constant (.str "told") j p7)) p8] a q (TKind X.K T ok) := by
  intro f c' s H Q tl act hc h
  have hgl : Gl (cxOf C8.CX0 X.prog X.w X.K X.mg X.base Ng x sg g cdg X.A X.stack s H C8.E0).nox z := hz
  have tr := ps_try_as (X := (cxOf C8.CX0 X.prog X.w X.K X.mg X.base Ng x sg g cdg X.A X.stack s H C8.E0).nox) (c := .ref (He.ga X.K z)) (i := i) (n := e) (np := p4) (pos := p6) (pos' := p5) (x := z) (body := [.Expr (.Call (.Name a p1) [] [] p2) p3]) (b₀ := b₀) (suite := suite)
    (Wout := fun _ _ _ _ => False)
    (tb := fun W En σ H => ∃ Ech : XK, (∀ cls d σ' H', Ech cls d H' → W cls d σ' H') ∧ σ[0]? = some (some (.ref f)) ∧ H c' = some (LamX.CodeO c' q) ∧ tl Ech H fun _ H' => En.nx σ H')
    (ts := fun a' cls d En σ H => ∃ c t A F, ok c = some t ∧ cls = .ref (He.ga X.K c) ∧ d = none ∧ Enter X.K T [] [] H A F ∧ (i < σ.length → σ[i]? = some (some (.ref a'))) ∧ ∀ H'', World X.K ⟨H, A, F, T, [], 0⟩ [] [] [] [V.str t] [D.str t] H'' → En.rt (V.str t) H'')
    rfl rfl hN hi hl ⟨hgl, hzd, .inl hzm⟩ LamX.takes0 (fun W pn xe tk _ => ?b) (fun a' oe cls d pn hzc hf => ?s)
  case b =>
    refine ⟨fun pins s' σ H' En I ⟨Ech, hW, h1, h2, h3⟩ => ?_⟩
    exact (pss_one (ps_expr (pos := p3) (act W pn xe Ech p1 p2 tk hW))).run pins s' σ H' En I ⟨h1, h2, h3⟩
  case s =>
    refine ⟨fun pins s' σ H' En I ⟨c, t, A, F, hok, ec, ed, en, hσ, hD⟩ => ?_⟩
    subst ec ed
    have len : σ.length = Ng.length := I.len
    have hin : i < σ.length := by
      rw [len]
      exact (List.getElem?_eq_some_iff.mp hi).1
    have W0 : World X.K ⟨H', A, F, T, ([] : List V).map some, σ.length⟩ [] σ (List.replicate σ.length .gone) [] [] H' := World.blank σ en
    have W1 : World X.K ⟨H', A, F, T, ([] : List V).map some, σ.length⟩ [] (σ.set i (some (.ref a'))) ((List.replicate σ.length .gone).set i (.opq (.ref a'))) [] [] H' := (W0.push fun _ => .opq).store rfl
    have eσ : σ.set i (some (.ref a')) = σ := by
      refine List.ext_getElem? fun m => ?_
      by_cases hm : i = m
      · subst hm
        rw [List.getElem?_set_self hin, hσ hin]
      · rw [List.getElem?_set_ne hm]
    rw [eσ, len] at W1
    have S := hs s H a' oe pn c t ⟨H', A, F, T, ([] : List V).map some, Ng.length⟩ hok hzc hf rfl
    refine S.run.run pins s' σ H' En I ⟨_, [], [], W1, S.mono _ _ _ ?_ (tells c t hok a' (fun d _ => d = .str t) fun _ => rfl)⟩
    refine ⟨fun _ z => z.elim, fun d ρ' z v σ' H'' W' => ?_, fun _ z => z.elim, fun _ z => z.elim⟩
    subst z
    have ev := W'.isStr
    subst ev
    have W2 := World.end_ W' rfl (Nat.zero_le _)
    exact hD H'' W2
  refine ⟨_, pss_cons tr (pss_one (ps_ret (pos := p8) (pe_str (x := "told")))), ?_⟩
  refine ⟨fun cls d H' => ∃ c t A F, ok c = some t ∧ cls = .ref (He.ga X.K c) ∧ d = none ∧ Enter X.K T [] [] H' A F ∧ ∀ H'', World X.K ⟨H', A, F, T, [], 0⟩ [] [] [] [V.str t] [D.str t] H'' → Q (V.str t) H'', fun cls d σ' H' ⟨c, t, A, F, hok, ec, ed, en, hq⟩ => ?_, h0 f, hc, h⟩
  subst ec ed
  exact ⟨true, (xs c t hok).m, fun _ a' _ => ⟨c, t, A, F, hok, rfl, rfl, en, fun hlt => List.getElem?_set_self (by simpa using hlt), hq⟩, fun z => Bool.noConfusion z⟩
end
/-! ### a def that catches, and is handed a lambda -/
structure KindC (P : Program) (w : PySem.World) (K : PySem.W.Frag) (mg : Str → Option Value) (base : Heap) (T : List (Addr × Str)) (x : Str) (ok : Str → Option Str) : Prop where
  ex : ∃ (g : Addr) (fd : FuncData) (pg : Arguments) (bg : List Stmt) (sg : Scope) (kws : List (Str × V)) (Ng : List Str) (a : Str), FunD K x x pg bg sg [] kws g fd ∧ mg x = some (.ref g) ∧ L2.Binds K fd [a] [] ∧ FnScope Ng [a] sg ∧ Ng[0]? = some a ∧ Vis sg a ∧ (a == ("__debug__" : Str)) = false ∧ (a == ("__classdict__" : Str)) = false ∧
    ∀ (X : Cx), X.prog = P → X.w = w → X.K = K → X.mg = mg → X.base = base → X.A.units + 200 < cLine → ∀ (cdg : Value) (q : Str), LamX.GivesTo X Ng x sg g cdg bg a q (TKind K T ok)
/-- what the code of a def that makes lambdas must say -/
structure LamM (base : Heap) (mg : Str → Option Value) (T : List (Addr × Str)) (cdv : Value) (q : Str) : Prop where
  ex : ∃ c P, cdv = .ref c ∧ LamX.TabB base mg c P ∧ (P, q ++ "<lambda>") ∈ T ∧ ∀ p ∈ T, p.1 = P → p.2 = q ++ "<lambda>"
section
variable {X : Cx} {G : Gm} {kp : List Bool} {T : List (Addr × Str)} {ok : Str → Option Str} {x y : Str} {params : Arguments} {e : Expr} {es : List Expr} {scope : Scope} {S : SD} {wr : WBs} {ps : List Str} {j k : Nat} {p p1 p2 lpos pos : Pos}
theorem wCallF_monoX {Ex Ex' : XD} {ρ : List D} {P P' : D → List D → Prop} (hS : SMono S) (mr : ∀ ρ P P', (∀ d o r, P d o r → P' d o r) → wr ρ P → wr ρ P') (h1 : ∀ c ns r, Ex c ns r → Ex' c ns r) (h2 : ∀ d r, P d r → P' d r) (q : wCallF S Ex wr ρ P) : wCallF S Ex' wr ρ P' :=
  mr ρ _ _ (fun es os r z => hS _ _ _ _ _ (fun d r z => h2 _ _ z) (fun _ _ _ z => h1 _ _ _ z) z) q
/-- kind(lambda: y(..)) -/
theorem de_kindF (C : KindC X.prog X.w X.K X.mg X.base T x ok) (M : LamM X.base X.mg T X.env.code X.env.qual) (F : FnC X.prog X.w X.K X.mg X.base T j y ps S) (hS : SMono S) (room : Room (k + 2) X.A) (hj : j ≤ k) (quiet : X.A.guards = some []) (hT : G.T = T) (hn : G.n = X.N.length)
    (hg : Gl X x) (hx : nm x = true) (lam : LamX.LamS X.env.scope scope) (noDef : defaultsOf params X.env = ([], []))
    (none_ : ∀ (q : Str) (cl : List (Str × Addr)) (pm cv ctv : Value), bindArgs (PySem.W.kla_fn "<lambda>" q params (.Call (.Name y p1) (e :: es) [] p2) scope cl pm cv ctv) ⟨[], []⟩ = pure [])
    (hgy : ∀ (A : Around) (outer : List Env) (s : Shared) (H : Hp) (E : XK) (f c' : Addr), Gl (LamX.lamCx X A outer s H E scope f c') y) (hy : nm y = true)
    (args : ∀ (A : Around) (outer : List Env) (s : Shared) (H : Hp) (E : XK) (f c' : Addr) (G1 : Gm), G1.n = X.N.length → DBs (LamX.lamCx X A outer s H E scope f c') G1 (List.replicate G.n true) (e :: es) wr)
    (he : ∀ (A : Around) (outer : List Env) (s : Shared) (H : Hp) (E : XK) (f c' : Addr), starEach (e :: es) (LamX.lamCx X A outer s H E scope f c').env = (false, eval e (LamX.lamCx X A outer s H E scope f c').env) :: starEach es (LamX.lamCx X A outer s H E scope f c').env := by intros; rfl)
    (hpl : ∀ (A : Around) (outer : List Env) (s : Shared) (H : Hp) (E : XK) (f c' : Addr), (backTo p2 (starEach es (LamX.lamCx X A outer s H E scope f c').env)).any (·.1) = false := by intros; rfl) :
    DE X G kp (.Call (.Name x p) [.Lambda params (.Call (.Name y p1) (e :: es) [] p2) scope lpos] [] pos) (wKind ok fun Ex => wCallF S Ex wr) := by
  obtain ⟨g, fd, pg, bg, sg, kws, Ng, a, Fk, hm, hb, Sg, first, seen, n1, n2, gives⟩ := C.ex
  obtain ⟨c, P, code, TB, tIn, tOne⟩ := M.ex
  refine de_kind (T := T) (p := p) (lpos := lpos) (pos := pos) hg hm Fk hb Sg first seen (fun cdg => gives X rfl rfl rfl rfl rfl (by have := room.un; omega) cdg _) hT hn TB code tIn tOne room quiet lam noDef none_ (fun Ex Ex' ρ P P' h1 h2 q => ?_) (fun A outer s H E f c' G1 Ex gd rm e1 e2 tk => ?_) (nm1 hx) n1 n2
  · exact wCallF_monoX hS (args X.A X.outer X.s_0 X.H_0 C8.E0 0 0 G hn).mono h1 h2 q
  · obtain ⟨f2, fd2, F2, hm2, hk2, hb2⟩ := F.ex
    have rm' : Room j (LamX.lamCx X A outer s H E scope f c').A := rm.mono hj
    exact de_callF F2 hS rm' gd (hgy A outer s H E f c') hm2 hk2 hb2 tk e1 (args A outer s H E f c' G1 (e2.trans hn)) (nm1 hy) (he A outer s H E f c') (hpl A outer s H E f c')
end
end Bd

/-! Bd37: a def that makes lambdas: its end. -/
namespace Bd
open PySem PySem.Spec PyProof.Rows L2
theorem FunD.okL {P : Program} {w : PySem.World} {K : PySem.W.Frag} {mg : Str → Option Value} {base : Heap} {x qual : Str} {params : Arguments} {body : List Stmt} {scope : Scope} {kws : List (Str × V)} {f : Addr} {fd : FuncData} {N ps : List Str} {k : Nat} {S : SD} {T : List (Addr × Str)} {kp : List Bool} {wd : XD → WS}
    (F : FunD K x qual params body scope [] kws f fd) (Sc : FnScope N ps scope) (hkp : kp.length = ps.length) (hS : ∀ ds Q E, S ds Q E → ds.length = ps.length)
    (hw : ∀ ds Q E, S ds Q E → wd (fun c ns ρ => E c ns (outs kp ρ)) { nx := fun ρ => Q .non (outs kp ρ), rt := fun d ρ => Q d (outs kp ρ) } (ds ++ List.replicate (N.length - ps.length) .gone))
    (hbody : ∀ (A : Around) (outer : List Env) (s : Shared) (H : Hp) (E : XK) (G : Gm) (Ex : XD), Room k (FX P w K mg base N qual scope f fd.code A outer s H E).A → (FX P w K mg base N qual scope f fd.code A outer s H E).A.guards = some [] → PySem.W.codeIn K fd.code qual = true → G.T = T → G.n = N.length →
      TakesD (FX P w K mg base N qual scope f fd.code A outer s H E) G kp Ex → DSs (FX P w K mg base N qual scope f fd.code A outer s H E) G kp body (wd Ex)) : FnG P w K mg base (k + 1) f fd ps (spD K T S) := by
  obtain ⟨oc, od, dV, kV, doc, pm, an, cdv, ct, osl, rfl, lk, hcd, hv1, hv2⟩ := F.ex
  have hlN : ps.length ≤ N.length := by
    have := congrArg List.length Sc.pre
    rw [List.length_take] at this
    omega
  refine ⟨fun vs H Q E ⟨A, F, es, en, q⟩ => ?_, fun A outer s H args us vs Q E hr hgd he hb hv hsp => ?_⟩
  · rw [en.1.length]
    exact hS _ _ _ q
  · obtain ⟨A1, F1, es, en, q⟩ := hsp
    have lv : vs.length = ps.length := by rw [en.1.length]; exact hS _ _ _ q
    refine LamX.run_ofS lk hcd Sc hr he hb hv lv fun hr2 => ?_
    let G : Gm := ⟨H, A1, F1, T, vs.map some, N.length⟩
    let Ex : XD := fun c ns ρ => ∀ cls d H', World K ⟨H, A1, F1, T, vs.map some, 0⟩ [] [] [] vs (outs kp ρ) H' → XIs K c ns cls d H' → E cls d H'
    have fin : ∀ {vs2 : List V} {ds2 : List D} {σ : Sl} {ρ : List D} {H' : Hp}, World K G kp σ ρ vs2 ds2 H' → World K ⟨H, A1, F1, T, vs.map some, 0⟩ [] [] [] (vs2 ++ vs) (ds2 ++ outs kp ρ) H' := fun {vs2 ds2 σ ρ H'} W => World.end_ W (by rw [hkp, lv]) (by rw [lv]; exact hlN)
    have tk : TakesD (FX P w K mg base N qual scope f cdv A outer s H E) G kp Ex := by
      refine Takes.imp (takes_of (E := E) rfl rfl rfl rfl) fun c d σ H' h => ?_
      obtain ⟨ρ, vs2, ds2, c, ns, W, hx, hE⟩ := h
      refine hE _ _ _ ?_ hx
      have W1 : World K G kp σ ρ vs2 ds2 H' := W
      have W2 : World K G kp σ ρ [] [] H' := World.dropN (us := vs2) (es := ds2) (vs := []) (ds := []) (by simpa using W1) W1.lv
      exact fin W2
    have B := hbody A outer s H E G Ex hr2 (guards_deeper hgd) hcd rfl rfl tk
    refine ⟨_, B.run, ?_⟩
    have W0 : World K G kp (L2.start N vs) (es ++ List.replicate (N.length - ps.length) .gone) [] [] H := by
      refine World.begin_ en (by rw [lv]) (fun j hj => ?_) (by rw [lv]; exact hlN)
      by_cases hl : j < vs.length
      · exact hl
      · rw [List.getD_eq_getElem?_getD, List.getElem?_eq_none (by rw [hkp, ← lv]; omega)] at hj
        cases hj
    refine ⟨_, [], [], W0, B.mono _ _ _ ?_ (hw es _ _ q)⟩
    refine ⟨fun ρ z σ' H' W => ?_, fun d ρ z v σ' H' W => z v H' (fin W), fun _ z => z.elim, fun _ z => z.elim⟩
    exact z .non H' (fin W.non)
theorem lamM_of {K : PySem.W.Frag} {mg : Str → Option Value} {base : Heap} {x qual q : Str} {params : Arguments} {body : List Stmt} {scope : Scope} {kws : List (Str × V)} {fd : FuncData} {T : List (Addr × Str)} {p : He.Defn}
    (F : FunD K x qual params body scope [] kws (He.fAd K p) fd) (TB : LamX.TabB base mg (He.cT K p).1 (He.cT K p).2) (hm : ((He.cT K p).2, q ++ "<lambda>") ∈ T) (ho : ∀ z ∈ T, z.1 = (He.cT K p).2 → z.2 = q ++ "<lambda>") : LamM base mg T fd.code q := by
  obtain ⟨oc, od, dV, kV, doc, pm, an, cdv, ct, osl, e, lk, hcd, _, _⟩ := F.ex
  have ec : fd.code = cdv := by rw [e]
  obtain ⟨c, hc⟩ := He.codeIn_ref hcd
  have e2 : He.codeOf K p = c := He.codeOf_eq lk (ec.trans hc)
  have e3 : (He.cT K p).1 = c := e2
  refine ⟨c, (He.cT K p).2, ec.trans hc, e3 ▸ TB, hm, ho⟩
theorem mem_lookup2 {c t : Str} : ∀ {l : List (Str × Str)}, l.lookup c = some t → (c, t) ∈ l
  | [], h => by cases h
  | (a, b) :: r, h => by
    rw [List.lookup_cons] at h
    split at h
    · rename_i e
      cases h
      rw [beq_iff_eq.mp e]
      exact List.mem_cons_self
    · exact List.mem_cons_of_mem _ (mem_lookup2 h)
end Bd

/-! Bd38: the empty dict; slices to the last but one. -/
namespace Bd
open PySem PySem.Spec PyProof.Rows L2
section
variable {K : PySem.W.Frag} {G : Gm} {kp : List Bool} {σ : Sl} {ρ : List D} {vs : List V} {ds : List D} {H : Hp} {p : Addr}
theorem World.newDct0 (W : World K G kp σ ρ vs ds H) (hp : H p = none) : World K G kp σ ρ (.ref p :: vs) (.dct .own [] [] :: ds) (upd H p (.dK [])) := by
  obtain ⟨A, F, f⟩ := W
  have r := f.reps
  have na : ¬ A p := fun z => by
    obtain ⟨u, e, _⟩ := f.own _ z
    rw [hp] at e; cases e
  refine ⟨fun x => x = p ∨ A x, F, f.laid hp _ ?_ (by have := f.lv; simp at this ⊢; exact this) fun x h => ?_⟩
  · exact .cons (B := fun x => x = p) (C := A) (.dOwn (B := M0) upd_same rfl rfl .nil fun x h => h.elim) (r.agr (agr_laid hp) fun _ h => h) (fun x h => .inl h) (fun x h => .inr h) fun x h q => na (h ▸ q)
  · exact h.elim (fun h => .inr ⟨h, trivial⟩) .inl
end
section
variable {X : Cx} {G : Gm} {kp : List Bool} {pos : Pos}
def wDct0 : WE := fun ρ Q => Q (.dct .own [] []) ρ
theorem de_dnew : DE X G kp (.Dict [] [] pos) wDct0 := ⟨fun ρ P P' hp q => hp _ _ q, pe_imp pe_dnewK fun σ H Q ⟨ρ, vs, ds, W, q⟩ => fun p hp => q _ _ (W.newDct0 hp)⟩
end
theorem cut_but1 {xs : List D} : cutD xs none (some (-1)) = xs.dropLast := by
  have e : HT.sIx xs.length xs.length (some (-1)) = xs.length - 1 := by
    show (if (-1 : Int) < 0 then (-1 + (xs.length : Int)).toNat else min (-1 : Int).toNat xs.length) = _
    rw [if_pos (by decide)]
    omega
  unfold cutD
  rw [e, HT.sIx_none, List.drop_zero, Nat.sub_zero, List.dropLast_eq_take]
end Bd

/-! Bd39: comprehensions over lists that are lent: given back at the end. -/
namespace Bd
open PySem PySem.Spec PyProof.Rows L2
/-- items, what is held meanwhile, where it goes back to -/
abbrev WIL := List D → (List (List D) → List D → List (Option Nat) → List D → Prop) → Prop
def tDIL (K : PySem.W.Frag) (G : Gm) (kp : List Bool) (sh : Bool) (w : WIL) : TI := fun σ H R => ∃ ρ vs ds, World K G kp σ ρ vs ds H ∧ w ρ fun items ds0 os ρ' => ∀ J us H', us.length = ds0.length → World K G kp σ ρ' (us ++ vs) (ds0 ++ ds) H' → Lent σ us os → (∀ G' kp', Yl K G' kp' sh J us ds0 items) → R J H'
structure DIL (X : Cx) (G : Gm) (kp : List Bool) (sh : Bool) (tg iter : Expr) (w : WIL) : Prop where
  mono : ∀ ρ P P', (∀ a b o c, P a b o c → P' a b o c) → w ρ P → w ρ P'
  run : PI X tg iter (tDIL X.K G kp sh w)
section
variable {X : Cx} {G : Gm} {kp : List Bool} {e elt tg iter a b : Expr} {ifs : List Expr} {scope : Scope} {own : List (Str × Nat)} {pos p tpos : Pos} {sh : Bool} {wi : WIL} {g : WGs} {wt : WT} {we : WE} {wbs : WBs} {elts : List Expr} {kk : Nat}
def wiZN (w : WBs) : WIL := fun ρ Q => w ρ fun es os r => match es with
  | [x, y] => seqQ x fun xs x' => seqQ y fun ys y' => Q (pairs xs ys) [x', y'] os r
  | _ => False
theorem dil_zip (hg : Gl X "zip") (hm : X.mg "zip" = none) (ha : DBs X G kp [a, b] wbs)
    (hs : starEach [a, b] X.env = (false, eval a X.env) :: starEach [b] X.env := by rfl) (hpl : (backTo pos (starEach [b] X.env)).any (·.1) = false := by rfl) :
    DIL X G kp true (.Tuple elts kk tpos) (.Call (.Name "zip" p) [a, b] [] pos) (wiZN wbs) := by
  refine ⟨fun ρ P P' hp q => ha.mono _ _ _ (fun es os r z => ?_) q, pi_imp (pi_zipK hg hm ha.run hs hpl) fun σ H R ⟨ρ, vs, ds, W, q⟩ => ⟨ρ, vs, ds, W, ha.mono _ _ _ (fun es os r z us H' l W' hl => ?_) q⟩⟩
  · match es, z with
    | [x, y], z => exact seqQ_mono (fun _ _ z => seqQ_mono (fun _ _ z => hp _ _ _ _ z) z) z
  · match es, us, l, W', hl, z with
    | [x, y], [u, w], _, W', hl, z =>
      obtain ⟨k1, xs, h1, s1, z⟩ := seqQ_of z
      obtain ⟨k2, ys, h2, s2, z⟩ := seqQ_of z
      have W1 : World X.K G kp σ r (u :: w :: vs) (frzK x :: frzK y :: ds) H' := (World.frzKids (World.swap (World.frzKids (vs := w :: vs) (ds := y :: ds) W'))).swap
      obtain ⟨a', b', us, ws, ea, eb, q1, q2, l1, l2, mk⟩ := W1.seq2 h1 h2 s1 s2
      cases ea; cases eb
      exact ⟨k1, k2, a', b', us, ws, rfl, q1, q2, z _ [.ref a', .ref b'] H' rfl W1 hl fun G' kp' => yl_zip h1 h2 s1 s2⟩
def wLcN (wi : WIL) (g : WGs) (wt : WT) (we : WE) (own : List Nat) : WE := fun ρ Q => wi ρ fun items ds0 os r => items.length ≤ sizeLine ∧ lcL g wt we own (fun acc ρ' => Q (.lst .own acc) (gbs os ds0 (wipeD ρ' own))) items [] (wipeD r own)
theorem lc_convN {kp' : List Bool} {X' : Cx} (hK : X'.K = X.K) (hi : DIL X G kp sh tg iter wi) (ow : List Nat) (hkp : ∀ v ∈ ow, kp.getD v false = false) (hkp' : ∀ v ∈ ow, kp'.getD v false = false) (hall : ∀ j, j < G.n → j ∉ ow → kp'.getD j false = true)
    (mg : ∀ d ρ P P', (∀ r, P r → P' r) → g d ρ P → g d ρ P') (mt : ∀ ρ P P', (∀ d r, P d r → P' d r) → wt ρ P → wt ρ P') (me : ∀ ρ P P', (∀ d r, P d r → P' d r) → we ρ P → we ρ P') (σ : Sl) (H : Hp) (Q : VK) (q : tDE X.K G kp (wLcN wi g wt we ow) σ H Q) :
    tLc (tDIL X.K G kp sh wi) (tDGI X.K (G.at_ (wipe σ ow)) kp' sh g) (tDT X.K (G.at_ (wipe σ ow)) kp' wt) (tDE X.K (G.at_ (wipe σ ow)) kp' we) ow σ H Q := by
  obtain ⟨ρ, vs, ds, W, q⟩ := q
  have hn := W.sn
  have kold := W.kps
  refine ⟨ρ, vs, ds, W, hi.mono _ _ _ (fun items ds0 os r z J us H1 l W1 hl hy => ?_) q⟩
  obtain ⟨hz, z⟩ := z
  intro Dn hD
  let St : Nat → Hp → Prop := fun i H' => ∃ ρ' acc, acc.length ≤ i ∧ World X.K (G.at_ (wipe σ ow)) kp' (wipe σ ow) ρ' (us ++ .ref Dn :: vs) (ds0 ++ .lst .own acc :: ds) H' ∧ lcL g wt we ow (fun acc ρ' => ∀ v H', World X.K G kp σ (gbs os ds0 (wipeD ρ' ow)) (v :: vs) (.lst .own acc :: ds) H' → Q v H') (items.drop i) acc ρ'
  refine ⟨fun i m H' => m = items.length - i ∧ i ≤ items.length ∧ St i H', ⟨items.length, by simp, Nat.zero_le _, wipeD r ow, [], Nat.zero_le _, ?_, by simpa using z⟩, ?_⟩
  · have W2 : World X.K G kp σ r (.ref Dn :: (us ++ vs)) (.lst .own [] :: (ds0 ++ ds)) (upd H1 Dn (.lst [])) := World.newLst (us := []) (es := []) W1 rfl hD
    exact ((W2.tor l).wiped hkp).into
  · rintro i m H' ⟨rfl, hi', ρ', acc, ha, W', z'⟩
    obtain ⟨y1, y2⟩ := hy _ _ i _ ρ' _ _ H' W'
    by_cases hlt : i < items.length
    · obtain ⟨its, hits⟩ : ∃ its, items[i]? = some its := ⟨_, List.getElem?_eq_getElem hlt⟩
      obtain ⟨go, y3⟩ := y2 its hits
      rw [List.drop_eq_getElem_cons hlt, (List.getElem?_eq_some_iff.mp hits).2] at z'
      have keep : ∀ {σ2 : Sl} {ρ2 : List D} {vs2 : List V} {ds2 : List D} {H2 : Hp}, World X.K (G.at_ (wipe σ ow)) kp' σ2 ρ2 vs2 ds2 H2 → wipe σ2 ow = wipe σ ow := fun {σ2 ρ2 vs2 ds2 H2} W2 => by
        refine wipe_eq (by rw [hn]; exact W2.sn) fun j hj hl => ?_
        rw [W2.kps j (hall j (by rw [← hn]; exact hl) hj)]
        exact wipe_out hj
      have next : ∀ {σ2 : Sl} {ρ2 : List D} {acc2 : List D} {H2 : Hp}, World X.K (G.at_ (wipe σ ow)) kp' σ2 ρ2 (us ++ .ref Dn :: vs) (ds0 ++ .lst .own acc2 :: ds) H2 → acc2.length ≤ i + 1 → lcL g wt we ow (fun acc ρ' => ∀ v H', World X.K G kp σ (gbs os ds0 (wipeD ρ' ow)) (v :: vs) (.lst .own acc :: ds) H' → Q v H') (items.drop (i + 1)) acc2 (wipeD ρ2 ow) → St (i + 1) H2 := fun {σ2 ρ2 acc2 H2} W2 hl z2 => by
        refine ⟨_, acc2, hl, ?_, z2⟩
        have W3 := W2.wiped hkp'
        rw [keep W2] at W3
        exact W3
      refine .inr ⟨go, St (i + 1), fun H2 h2 => ⟨items.length - (i + 1), by omega, rfl, hlt, h2⟩, fun x H2 hy2 => ?_⟩
      obtain ⟨xs, lx, hsh, W2⟩ := y3 x H2 hy2
      refine ⟨ρ', xs, its, _, _, lx, hsh, W2, mg _ _ _ _ (fun ρ1 z1 σ3 H3 W3 => ⟨keep W3, ρ1, _, _, W3, mt _ _ _ (fun b ρ2 z2 H4 W4 => ?_) z1⟩) z'⟩
      cases b with
      | false => exact next W4 (by omega) z2
      | true =>
        refine ⟨ρ2, _, _, W4, me _ _ _ (fun d ρ3 z3 v H5 W5 => ?_) z2⟩
        obtain ⟨a, ws, ea, hw, lw, W6⟩ := W5.append_ l
        cases ea
        exact ⟨ws, hw, by omega, next W6 (by simp; omega) z3⟩
    · have e : i = items.length := by omega
      subst e
      rw [List.drop_length] at z'
      have Wb : World X.K G kp σ (wipeD ρ' ow) (us ++ .ref Dn :: vs) (ds0 ++ .lst .own acc :: ds) H' := World.unwiped (World.back W' fun j hj => by
        rw [wipe_out fun hm => by rw [hkp j hm] at hj; cases hj]
        exact kold j hj) hkp
      exact .inl ⟨y1 rfl, z' _ H' (World.gbs l Wb hl)⟩
theorem wLcN_mono (hi : DIL X G kp sh tg iter wi) (mg : ∀ d ρ P P', (∀ r, P r → P' r) → g d ρ P → g d ρ P') (mt : ∀ ρ P P', (∀ d r, P d r → P' d r) → wt ρ P → wt ρ P') (me : ∀ ρ P P', (∀ d r, P d r → P' d r) → we ρ P → we ρ P') {ow : List Nat} : ∀ ρ P P', (∀ d r, P d r → P' d r) → wLcN wi g wt we ow ρ P → wLcN wi g wt we ow ρ P' :=
  fun ρ P P' hp q => hi.mono _ _ _ (fun items ds0 os r z => ⟨z.1, lcL_mono mg mt me (fun a r z => hp _ _ z) _ _ _ z.2⟩) q
theorem de_lcN (kp' : List Bool) (hc : X.calm = true) (hN : X.N.Nodup) (hi : DIL X G kp sh tg iter wi) (ok : BlkOk X.N X.env.scope scope own) (hm : kp' = mask X.N.length (own.map (·.2))) (hn : G.n = X.N.length) (hkp : ∀ v ∈ own.map (·.2), kp.getD v false = false)
    (hg : ∀ (G' : Gm), G'.T = G.T → G'.n = G.n → ∀ (s : Shared) (H : Hp) (C : Addr) (cl : List (Str × Addr)) (fp : List Addr), DGI (X.blk s H scope (compEnvC scope cl C X.env) fp) G' kp' sh tg g) (ht : ∀ (G' : Gm), G'.T = G.T → G'.n = G.n → ∀ (s : Shared) (H : Hp) (C : Addr) (cl : List (Str × Addr)) (fp : List Addr), DTs (X.blk s H scope (compEnvC scope cl C X.env) fp) G' kp' ifs wt)
    (he : ∀ (G' : Gm), G'.T = G.T → G'.n = G.n → ∀ (s : Shared) (H : Hp) (C : Addr) (cl : List (Str × Addr)) (fp : List Addr), DE (X.blk s H scope (compEnvC scope cl C X.env) fp) G' kp' elt we) (hs : ∀ x, foldedSetIterable iter X.env x = pure x := by intro _; rfl) :
    DE X G kp (.ListComp elt [⟨tg, iter, ifs, 0⟩] scope pos) (wLcN wi g wt we (own.map (·.2))) := by
  subst hm
  have mg := (hg G rfl rfl X.s_0 X.H_0 0 [] []).mono
  have mt := (ht G rfl rfl X.s_0 X.H_0 0 [] []).mono
  have me := (he G rfl rfl X.s_0 X.H_0 0 [] []).mono
  exact ⟨wLcN_mono hi mg mt me, ⟨fun pins s σ H Q I q => (pe_lc (X := X) hc hN hi.run ok (fun s H C cl fp => (hg (G.at_ (wipe σ (own.map (·.2)))) rfl rfl s H C cl fp).run) (fun s H C cl fp => (ht (G.at_ (wipe σ (own.map (·.2)))) rfl rfl s H C cl fp).run) (fun s H C cl fp => (he (G.at_ (wipe σ (own.map (·.2)))) rfl rfl s H C cl fp).run) hs).run pins s σ H Q I
    (lc_convN (X' := X) rfl hi _ hkp mask_own (fun j hj => mask_all j (by rw [← hn]; exact hj)) mg mt me σ H Q q)⟩⟩
theorem ds_setLcN (kp' : List Bool) {i : Nat} {y : Str} {py spos : Pos} (hc : X.calm = true) (hN : X.N.Nodup) (hy : X.N[i]? = some y) (hyl : X.env.scope.names.lookup y = some .local)
    (hsw : swapsWith (.ListComp elt [⟨tg, iter, ifs, 0⟩] scope pos) (some (.Name y py)) spos.line X.env = pure true) (hi : DIL X G kp sh tg iter wi) (ok : BlkOk X.N X.env.scope scope own) (hm : kp' = mask X.N.length (own.map (·.2))) (hn : G.n = X.N.length) (hkp : ∀ v ∈ own.map (·.2), kp.getD v false = false)
    (hg : ∀ (G' : Gm), G'.T = G.T → G'.n = G.n → ∀ (s : Shared) (H : Hp) (C : Addr) (cl : List (Str × Addr)) (fp : List Addr), DGI (X.blk s H scope (compEnvC scope cl C X.env) fp) G' kp' sh tg g) (ht : ∀ (G' : Gm), G'.T = G.T → G'.n = G.n → ∀ (s : Shared) (H : Hp) (C : Addr) (cl : List (Str × Addr)) (fp : List Addr), DTs (X.blk s H scope (compEnvC scope cl C X.env) fp) G' kp' ifs wt)
    (he : ∀ (G' : Gm), G'.T = G.T → G'.n = G.n → ∀ (s : Shared) (H : Hp) (C : Addr) (cl : List (Str × Addr)) (fp : List Addr), DE (X.blk s H scope (compEnvC scope cl C X.env) fp) G' kp' elt we) (hk : kp.getD i false = false := by rfl) (hs : ∀ x, foldedSetIterable iter X.env x = pure x := by intro _; rfl) :
    DS X G kp (.Assign [.Name y py] (.ListComp elt [⟨tg, iter, ifs, 0⟩] scope pos) spos) (wsA (wLcN wi g wt we (own.map (·.2))) (gN i)) := by
  subst hm
  have mg := (hg G rfl rfl X.s_0 X.H_0 0 [] []).mono
  have mt := (ht G rfl rfl X.s_0 X.H_0 0 [] []).mono
  have me := (he G rfl rfl X.s_0 X.H_0 0 [] []).mono
  refine ⟨fun A B ρ hl q => wLcN_mono hi mg mt me _ _ _ (fun d r z => hl.nx _ z) q, ⟨fun pins s σ H E I q => (ps_setLc (X := X) hc hN hy hyl hsw hi.run ok (fun s H C cl fp => (hg (G.at_ (wipe σ (own.map (·.2)))) rfl rfl s H C cl fp).run) (fun s H C cl fp => (ht (G.at_ (wipe σ (own.map (·.2)))) rfl rfl s H C cl fp).run) (fun s H C cl fp => (he (G.at_ (wipe σ (own.map (·.2)))) rfl rfl s H C cl fp).run) hs).run pins s σ H E I
    (lc_convN (X' := X) rfl hi _ hkp mask_own (fun j hj => mask_all j (by rw [← hn]; exact hj)) mg mt me σ H _ ?_)⟩⟩
  obtain ⟨ρ, vs, ds, W, q⟩ := q
  exact ⟨ρ, vs, ds, W, wLcN_mono hi mg mt me _ _ _ (fun d r z v H' W' => z _ H' (W'.store hk)) q⟩
end
/-! places by a name as targets in a row -/
def GoE (w : WE) : Prop := (∀ ρ P P', (∀ d r, P d r → P' d r) → w ρ P → w ρ P') ∧ ∀ ρ (C : Prop), w ρ (fun _ _ => C) → C
theorem ge_V {i : Nat} : GoE (wV i) := ⟨fun ρ P P' hp ⟨d, h1, h2, q⟩ => ⟨d, h1, h2, hp _ _ q⟩, fun ρ C ⟨d, h1, h2, q⟩ => q⟩
theorem ge_C {d : D} : GoE (wC d) := ⟨fun ρ P P' hp q => hp _ _ q, fun ρ C q => q⟩
theorem gg_S {j : Nat} {w : WE} (h : GoE w) : GoG (gSn j w) := by
  refine ⟨fun d ρ P P' hp q => ⟨q.1, h.1 _ _ _ (fun y r z => setD_mono (fun _ z => hp _ z) z) q.2⟩, fun d ρ C q => h.2 ρ C (h.1 _ _ _ (fun y r z => ?_) q.2)⟩
  unfold setD at z
  split at z
  · obtain ⟨_, _, z⟩ := z; exact z
  · exact z.elim
end Bd

/-! K07: the text. -/
namespace K07
open PySem PySem.Spec PyProof.Rows L2 Bd
def top (i : Nat) : Stmt := PySem.Challenge.pw_bedlands_k07_things_shared.main.body.getD i (.Pass ⟨0, 0, 0, 0⟩)
abbrev s_is_whole : Stmt := top 23
abbrev N_is_whole : List Str := ["thing", "low", "high"]
theorem sc_is_whole : FnScope N_is_whole ["thing", "low", "high"] (defScope s_is_whole) := ⟨rfl, rfl, rfl, by decide +kernel, rfl, by decide +kernel, by decide +kernel⟩
theorem l_is_whole_0 : (defScope s_is_whole).names.lookup ("thing" : Str) = some NameKind.local := by decide +kernel
theorem l_is_whole_1 : (defScope s_is_whole).names.lookup ("low" : Str) = some NameKind.local := by decide +kernel
theorem l_is_whole_2 : (defScope s_is_whole).names.lookup ("high" : Str) = some NameKind.local := by decide +kernel
abbrev s_shares_by : Stmt := top 28
abbrev N_shares_by : List Str := ["parts", "many", "total", "found", "rests", "rest", "place", "part"]
theorem sc_shares_by : FnScope N_shares_by ["parts", "many"] (defScope s_shares_by) := ⟨rfl, rfl, rfl, by decide +kernel, rfl, by decide +kernel, by decide +kernel⟩
theorem l_shares_by_0 : (defScope s_shares_by).names.lookup ("parts" : Str) = some NameKind.local := by decide +kernel
theorem l_shares_by_1 : (defScope s_shares_by).names.lookup ("many" : Str) = some NameKind.cell := by decide +kernel
theorem l_shares_by_2 : (defScope s_shares_by).names.lookup ("total" : Str) = some NameKind.cell := by decide +kernel
theorem l_shares_by_3 : (defScope s_shares_by).names.lookup ("found" : Str) = some NameKind.local := by decide +kernel
theorem l_shares_by_4 : (defScope s_shares_by).names.lookup ("rests" : Str) = some NameKind.local := by decide +kernel
theorem l_shares_by_5 : (defScope s_shares_by).names.lookup ("rest" : Str) = some NameKind.local := by decide +kernel
theorem l_shares_by_6 : (defScope s_shares_by).names.lookup ("place" : Str) = some NameKind.local := by decide +kernel
abbrev s_shared : Stmt := top 29
abbrev N_shared : List Str := ["parts", "many", "part"]
theorem sc_shared : FnScope N_shared ["parts", "many"] (defScope s_shared) := ⟨rfl, rfl, rfl, by decide +kernel, rfl, by decide +kernel, by decide +kernel⟩
theorem l_shared_0 : (defScope s_shared).names.lookup ("parts" : Str) = some NameKind.local := by decide +kernel
theorem l_shared_1 : (defScope s_shared).names.lookup ("many" : Str) = some NameKind.local := by decide +kernel
abbrev s_law_box : Stmt := top 31
abbrev N_law_box : List Str := ["_law_script", "_law_k", "_law_here", "_law_number", "_law_j", "_law_piece"]
theorem sc_law_box : FnScope N_law_box ["_law_script", "_law_k"] (defScope s_law_box) := ⟨rfl, rfl, rfl, by decide +kernel, rfl, by decide +kernel, by decide +kernel⟩
theorem l_law_box_0 : (defScope s_law_box).names.lookup ("_law_script" : Str) = some NameKind.local := by decide +kernel
theorem l_law_box_1 : (defScope s_law_box).names.lookup ("_law_k" : Str) = some NameKind.local := by decide +kernel
theorem l_law_box_2 : (defScope s_law_box).names.lookup ("_law_here" : Str) = some NameKind.local := by decide +kernel
theorem l_law_box_3 : (defScope s_law_box).names.lookup ("_law_number" : Str) = some NameKind.local := by decide +kernel
theorem l_law_box_4 : (defScope s_law_box).names.lookup ("_law_j" : Str) = some NameKind.local := by decide +kernel
theorem l_law_box_5 : (defScope s_law_box).names.lookup ("_law_piece" : Str) = some NameKind.local := by decide +kernel
abbrev s_law_more : Stmt := top 32
abbrev N_law_more : List Str := ["_law_box_here", "_law_number", "_law_j"]
theorem sc_law_more : FnScope N_law_more ["_law_box_here"] (defScope s_law_more) := ⟨rfl, rfl, rfl, by decide +kernel, rfl, by decide +kernel, by decide +kernel⟩
theorem l_law_more_0 : (defScope s_law_more).names.lookup ("_law_box_here" : Str) = some NameKind.local := by decide +kernel
theorem l_law_more_1 : (defScope s_law_more).names.lookup ("_law_number" : Str) = some NameKind.local := by decide +kernel
theorem l_law_more_2 : (defScope s_law_more).names.lookup ("_law_j" : Str) = some NameKind.local := by decide +kernel
abbrev s_law_take : Stmt := top 33
abbrev N_law_take : List Str := ["_law_box_here", "_law_count", "_law_rest_of", "_law_digit"]
theorem sc_law_take : FnScope N_law_take ["_law_box_here", "_law_count"] (defScope s_law_take) := ⟨rfl, rfl, rfl, by decide +kernel, rfl, by decide +kernel, by decide +kernel⟩
theorem l_law_take_0 : (defScope s_law_take).names.lookup ("_law_box_here" : Str) = some NameKind.local := by decide +kernel
theorem l_law_take_1 : (defScope s_law_take).names.lookup ("_law_count" : Str) = some NameKind.local := by decide +kernel
theorem l_law_take_2 : (defScope s_law_take).names.lookup ("_law_rest_of" : Str) = some NameKind.local := by decide +kernel
theorem l_law_take_3 : (defScope s_law_take).names.lookup ("_law_digit" : Str) = some NameKind.local := by decide +kernel
abbrev s_law_kind : Stmt := top 34
abbrev N_law_kind : List Str := ["_law_call", "e", "_law_some", "_law_words"]
theorem sc_law_kind : FnScope N_law_kind ["_law_call"] (defScope s_law_kind) := ⟨rfl, rfl, rfl, by decide +kernel, rfl, by decide +kernel, by decide +kernel⟩
theorem l_law_kind_0 : (defScope s_law_kind).names.lookup ("_law_call" : Str) = some NameKind.local := by decide +kernel
theorem l_law_kind_1 : (defScope s_law_kind).names.lookup ("e" : Str) = some NameKind.local := by decide +kernel
theorem l_law_kind_2 : (defScope s_law_kind).names.lookup ("_law_some" : Str) = some NameKind.local := by decide +kernel
theorem l_law_kind_3 : (defScope s_law_kind).names.lookup ("_law_words" : Str) = some NameKind.local := by decide +kernel
abbrev s_law_shares : Stmt := top 35
abbrev N_law_shares : List Str := ["_law_parts_here", "_law_many", "_law_total", "_law_found", "_law_rests", "_law_turn", "_law_best", "_law_part", "_law_one"]
theorem sc_law_shares : FnScope N_law_shares ["_law_parts_here", "_law_many"] (defScope s_law_shares) := ⟨rfl, rfl, rfl, by decide +kernel, rfl, by decide +kernel, by decide +kernel⟩
theorem l_law_shares_0 : (defScope s_law_shares).names.lookup ("_law_parts_here" : Str) = some NameKind.local := by decide +kernel
theorem l_law_shares_1 : (defScope s_law_shares).names.lookup ("_law_many" : Str) = some NameKind.cell := by decide +kernel
theorem l_law_shares_2 : (defScope s_law_shares).names.lookup ("_law_total" : Str) = some NameKind.cell := by decide +kernel
theorem l_law_shares_3 : (defScope s_law_shares).names.lookup ("_law_found" : Str) = some NameKind.local := by decide +kernel
theorem l_law_shares_4 : (defScope s_law_shares).names.lookup ("_law_rests" : Str) = some NameKind.local := by decide +kernel
theorem l_law_shares_5 : (defScope s_law_shares).names.lookup ("_law_turn" : Str) = some NameKind.local := by decide +kernel
theorem l_law_shares_6 : (defScope s_law_shares).names.lookup ("_law_best" : Str) = some NameKind.local := by decide +kernel
abbrev s_law_parts : Stmt := top 36
abbrev N_law_parts : List Str := ["_law_box_here", "_law_most", "_law_found", "_law_place"]
theorem sc_law_parts : FnScope N_law_parts ["_law_box_here"] (defScope s_law_parts) := ⟨rfl, rfl, rfl, by decide +kernel, rfl, by decide +kernel, by decide +kernel⟩
theorem l_law_parts_0 : (defScope s_law_parts).names.lookup ("_law_box_here" : Str) = some NameKind.cell := by decide +kernel
theorem l_law_parts_1 : (defScope s_law_parts).names.lookup ("_law_most" : Str) = some NameKind.cell := by decide +kernel
theorem l_law_parts_2 : (defScope s_law_parts).names.lookup ("_law_found" : Str) = some NameKind.local := by decide +kernel
abbrev s_law : Stmt := top 37
abbrev N_law : List Str := ["_law_script", "_law_k", "_law_box_here", "_law_parts_here", "_law_total", "_law_some", "_law_many", "_law_bad", "_law_thing"]
theorem sc_law : FnScope N_law ["_law_script"] (defScope s_law) := ⟨rfl, rfl, rfl, by decide +kernel, rfl, by decide +kernel, by decide +kernel⟩
theorem l_law_0 : (defScope s_law).names.lookup ("_law_script" : Str) = some NameKind.local := by decide +kernel
theorem l_law_1 : (defScope s_law).names.lookup ("_law_k" : Str) = some NameKind.local := by decide +kernel
theorem l_law_2 : (defScope s_law).names.lookup ("_law_box_here" : Str) = some NameKind.local := by decide +kernel
theorem l_law_3 : (defScope s_law).names.lookup ("_law_parts_here" : Str) = some NameKind.cell := by decide +kernel
theorem l_law_4 : (defScope s_law).names.lookup ("_law_total" : Str) = some NameKind.local := by decide +kernel
theorem l_law_5 : (defScope s_law).names.lookup ("_law_some" : Str) = some NameKind.local := by decide +kernel
theorem l_law_6 : (defScope s_law).names.lookup ("_law_many" : Str) = some NameKind.cell := by decide +kernel
theorem l_law_7 : (defScope s_law).names.lookup ("_law_bad" : Str) = some NameKind.local := by decide +kernel
theorem l_law_8 : (defScope s_law).names.lookup ("_law_thing" : Str) = some NameKind.cell := by decide +kernel
theorem m_BedError : nm "BedError" = true := by decide +kernel
theorem m_Gone : nm "Gone" = true := by decide +kernel
theorem m_MOST_FRONT : nm "MOST_FRONT" = true := by decide +kernel
theorem m_MOST_FRONTS : nm "MOST_FRONTS" = true := by decide +kernel
theorem m_MOST_THINGS : nm "MOST_THINGS" = true := by decide +kernel
theorem m_NoCase : nm "NoCase" = true := by decide +kernel
theorem m_NoCell : nm "NoCell" = true := by decide +kernel
theorem m_NoCells : nm "NoCells" = true := by decide +kernel
theorem m_NoChange : nm "NoChange" = true := by decide +kernel
theorem m_NoChanges : nm "NoChanges" = true := by decide +kernel
theorem m_NoDay : nm "NoDay" = true := by decide +kernel
theorem m_NoField : nm "NoField" = true := by decide +kernel
theorem m_NoFronts : nm "NoFronts" = true := by decide +kernel
theorem m_NoLine : nm "NoLine" = true := by decide +kernel
theorem m_NoMark : nm "NoMark" = true := by decide +kernel
theorem m_NoNumber : nm "NoNumber" = true := by decide +kernel
theorem m_NoPace : nm "NoPace" = true := by decide +kernel
theorem m_NoSpans : nm "NoSpans" = true := by decide +kernel
theorem m_NoStanding : nm "NoStanding" = true := by decide +kernel
theorem m_NoTelling : nm "NoTelling" = true := by decide +kernel
theorem m_NoText : nm "NoText" = true := by decide +kernel
theorem m_Nothing : nm "Nothing" = true := by decide +kernel
theorem m_There : nm "There" = true := by decide +kernel
theorem m_TooMany : nm "TooMany" = true := by decide +kernel
theorem m_law_bad : nm "_law_bad" = true := by decide +kernel
theorem m_law_best : nm "_law_best" = true := by decide +kernel
theorem m_law_box : nm "_law_box" = true := by decide +kernel
theorem m_law_box_here : nm "_law_box_here" = true := by decide +kernel
theorem m_law_call : nm "_law_call" = true := by decide +kernel
theorem m_law_count : nm "_law_count" = true := by decide +kernel
theorem m_law_digit : nm "_law_digit" = true := by decide +kernel
theorem m_law_found : nm "_law_found" = true := by decide +kernel
theorem m_law_here : nm "_law_here" = true := by decide +kernel
theorem m_law_j : nm "_law_j" = true := by decide +kernel
theorem m_law_k : nm "_law_k" = true := by decide +kernel
theorem m_law_kind : nm "_law_kind" = true := by decide +kernel
theorem m_law_many : nm "_law_many" = true := by decide +kernel
theorem m_law_more : nm "_law_more" = true := by decide +kernel
theorem m_law_most : nm "_law_most" = true := by decide +kernel
theorem m_law_number : nm "_law_number" = true := by decide +kernel
theorem m_law_one : nm "_law_one" = true := by decide +kernel
theorem m_law_part : nm "_law_part" = true := by decide +kernel
theorem m_law_parts : nm "_law_parts" = true := by decide +kernel
theorem m_law_parts_here : nm "_law_parts_here" = true := by decide +kernel
theorem m_law_piece : nm "_law_piece" = true := by decide +kernel
theorem m_law_place : nm "_law_place" = true := by decide +kernel
theorem m_law_rest_of : nm "_law_rest_of" = true := by decide +kernel
theorem m_law_rests : nm "_law_rests" = true := by decide +kernel
theorem m_law_script : nm "_law_script" = true := by decide +kernel
theorem m_law_shares : nm "_law_shares" = true := by decide +kernel
theorem m_law_some : nm "_law_some" = true := by decide +kernel
theorem m_law_take : nm "_law_take" = true := by decide +kernel
theorem m_law_thing : nm "_law_thing" = true := by decide +kernel
theorem m_law_total : nm "_law_total" = true := by decide +kernel
theorem m_law_turn : nm "_law_turn" = true := by decide +kernel
theorem m_law_words : nm "_law_words" = true := by decide +kernel
theorem m_abs : nm "abs" = true := by decide +kernel
theorem m_all : nm "all" = true := by decide +kernel
theorem m_any : nm "any" = true := by decide +kernel
theorem m_bool : nm "bool" = true := by decide +kernel
theorem m_dict : nm "dict" = true := by decide +kernel
theorem m_divmod : nm "divmod" = true := by decide +kernel
theorem m_e : nm "e" = true := by decide +kernel
theorem m_enumerate : nm "enumerate" = true := by decide +kernel
theorem m_found : nm "found" = true := by decide +kernel
theorem m_high : nm "high" = true := by decide +kernel
theorem m_int : nm "int" = true := by decide +kernel
theorem m_is_whole : nm "is_whole" = true := by decide +kernel
theorem m_isinstance : nm "isinstance" = true := by decide +kernel
theorem m_law : nm "law" = true := by decide +kernel
theorem m_len : nm "len" = true := by decide +kernel
theorem m_list : nm "list" = true := by decide +kernel
theorem m_low : nm "low" = true := by decide +kernel
theorem m_many : nm "many" = true := by decide +kernel
theorem m_max : nm "max" = true := by decide +kernel
theorem m_min : nm "min" = true := by decide +kernel
theorem m_part : nm "part" = true := by decide +kernel
theorem m_parts : nm "parts" = true := by decide +kernel
theorem m_place : nm "place" = true := by decide +kernel
theorem m_range : nm "range" = true := by decide +kernel
theorem m_repr : nm "repr" = true := by decide +kernel
theorem m_rest : nm "rest" = true := by decide +kernel
theorem m_rests : nm "rests" = true := by decide +kernel
theorem m_set : nm "set" = true := by decide +kernel
theorem m_shared : nm "shared" = true := by decide +kernel
theorem m_shares_by : nm "shares_by" = true := by decide +kernel
theorem m_sorted : nm "sorted" = true := by decide +kernel
theorem m_str : nm "str" = true := by decide +kernel
theorem m_sum : nm "sum" = true := by decide +kernel
theorem m_thing : nm "thing" = true := by decide +kernel
theorem m_total : nm "total" = true := by decide +kernel
theorem m_tuple : nm "tuple" = true := by decide +kernel
theorem m_zip : nm "zip" = true := by decide +kernel
structure Hd (mg : Str → Option Value) : Prop where
  n_ValueError : mg "ValueError" = none
  n_abs : mg "abs" = none
  n_all : mg "all" = none
  n_bool : mg "bool" = none
  n_divmod : mg "divmod" = none
  n_enumerate : mg "enumerate" = none
  n_int : mg "int" = none
  n_isinstance : mg "isinstance" = none
  n_len : mg "len" = none
  n_list : mg "list" = none
  n_max : mg "max" = none
  n_min : mg "min" = none
  n_range : mg "range" = none
  n_repr : mg "repr" = none
  n_sorted : mg "sorted" = none
  n_sum : mg "sum" = none
  n_tuple : mg "tuple" = none
  n_zip : mg "zip" = none
  c_MOST_FRONT : ∃ t, mg "MOST_FRONT" = some (.int 1000 t)
  c_MOST_FRONTS : ∃ t, mg "MOST_FRONTS" = some (.int 10 t)
  c_MOST_THINGS : ∃ t, mg "MOST_THINGS" = some (.int 100000 t)
def ys_law_kind : List Str := ["NoField", "NoCell", "NoCells", "NoNumber", "NoFronts", "NoStanding", "NoChange", "NoChanges", "NoDay", "NoPace", "NoSpans", "NoCase", "NoTelling", "NoMark", "NoText", "NoLine", "There", "Gone", "Nothing", "TooMany"]
def ol_law_kind : List (Str × Str) := [("NoFronts", "fronts"), ("NoNumber", "number")]
def ok_law_kind (c : Str) : Option Str := ol_law_kind.lookup c
structure Hx (mg : Str → Option Value) (K : PySem.W.Frag) : Prop where
  r_NoFronts : RCls mg K "NoFronts"
  r_NoNumber : RCls mg K "NoNumber"
  g_BedError : mg "BedError" = some (.ref (He.ga K "BedError"))
  g_Gone : mg "Gone" = some (.ref (He.ga K "Gone"))
  g_NoCase : mg "NoCase" = some (.ref (He.ga K "NoCase"))
  g_NoCell : mg "NoCell" = some (.ref (He.ga K "NoCell"))
  g_NoCells : mg "NoCells" = some (.ref (He.ga K "NoCells"))
  g_NoChange : mg "NoChange" = some (.ref (He.ga K "NoChange"))
  g_NoChanges : mg "NoChanges" = some (.ref (He.ga K "NoChanges"))
  g_NoDay : mg "NoDay" = some (.ref (He.ga K "NoDay"))
  g_NoField : mg "NoField" = some (.ref (He.ga K "NoField"))
  g_NoFronts : mg "NoFronts" = some (.ref (He.ga K "NoFronts"))
  g_NoLine : mg "NoLine" = some (.ref (He.ga K "NoLine"))
  g_NoMark : mg "NoMark" = some (.ref (He.ga K "NoMark"))
  g_NoNumber : mg "NoNumber" = some (.ref (He.ga K "NoNumber"))
  g_NoPace : mg "NoPace" = some (.ref (He.ga K "NoPace"))
  g_NoSpans : mg "NoSpans" = some (.ref (He.ga K "NoSpans"))
  g_NoStanding : mg "NoStanding" = some (.ref (He.ga K "NoStanding"))
  g_NoTelling : mg "NoTelling" = some (.ref (He.ga K "NoTelling"))
  g_NoText : mg "NoText" = some (.ref (He.ga K "NoText"))
  g_Nothing : mg "Nothing" = some (.ref (He.ga K "Nothing"))
  g_There : mg "There" = some (.ref (He.ga K "There"))
  g_TooMany : mg "TooMany" = some (.ref (He.ga K "TooMany"))
  x_law_kind : ∀ c t, ok_law_kind c = some t → XCls K "BedError" ys_law_kind c
end K07

/-! K07S: what each def does, over data. -/
namespace K07
open PySem PySem.Spec PyProof.Rows L2 Bd
/-- a box of the law's draws -/
def box (a b : Int) : D := .lst .own [.int a, .int b]
def bOk (b : Int) : Prop := 0 ≤ b ∧ b < 2147483647
def isWhole (d : D) (lo hi : Int) : Bool := match d with
  | .int t => decide (lo ≤ t) && decide (t ≤ hi)
  | _ => false
def S_is_whole : SD := fun es Q _ => ∃ (d : D) (lo hi : Int), es = [d, .int lo, .int hi] ∧ (tyD d).isSome = true ∧ Q (.bl (isWhole d lo hi)) es
def rests (ps : List Int) (m : Int) : List (Int × Int) := (ps.zipIdx.map fun z => (0 - m * z.1 % ps.sum, ((z.2 : Nat) : Int))).mergeSort le2
def bump (fs : List Int) (p : Int × Int) : List Int := fs.set p.2.toNat (fs.getD p.2.toNat 0 + 1)
def floors (ps : List Int) (m : Int) : List Int := ps.map fun p => m * p / ps.sum
def left (ps : List Int) (m : Int) : List (Int × Int) := (rests ps m).take (m - (floors ps m).sum).toNat
def sharesOf (ps : List Int) (m : Int) : List Int := (left ps m).foldl bump (floors ps m)
def frontsOk (ps : List Int) : Prop := 1 ≤ ps.length ∧ ps.length ≤ 10 ∧ (∀ p ∈ ps, 0 ≤ p ∧ p ≤ 1000) ∧ ps.sum ≠ 0
def S_shares_by : SD := fun es Q _ => ∃ (ps : List Int) (m : Int), es = [.tup (ps.map D.int), .int m] ∧ frontsOk ps ∧ 0 ≤ m ∧ m ≤ 100000 ∧ Q (.tup ((sharesOf ps m).map D.int)) es
def bad (d : D) : Prop := d.solid = true ∧ (tyD d).isSome = true
theorem nB_bad {d : D} (h : bad d) {i : Nat} {ρ : List D} {Q : D → Option Nat → List D → Prop} : nB d i ρ Q = Q d none ρ := by
  obtain ⟨h1, h2⟩ := h
  cases d with
  | gone => cases h2
  | tup es =>
    have e : solids es = true := h1
    simp only [nB, e, if_true]
  | lst m es => cases m <;> first | rfl | cases h1
  | dct m ks es => cases m <;> first | rfl | cases h1
  | _ => rfl
def S_shared : SD := fun es Q E => ∃ d e, es = [d, e] ∧ bad d ∧ bad e ∧ (∀ xs, d = .tup xs → ∀ x ∈ xs, bad x) ∧
  (∀ (ps : List Int) (m : Int), d = .tup (ps.map D.int) → frontsOk ps → e = .int m → 0 ≤ m → m ≤ 100000 → Q (.tup ((sharesOf ps m).map D.int)) es) ∧
  ((∀ ps : List Int, d = .tup (ps.map D.int) → ¬ frontsOk ps) → E "NoFronts" [] es) ∧
  (∀ ps : List Int, d = .tup (ps.map D.int) → frontsOk ps → isWhole e 0 100000 = false → E "NoNumber" [] es)
def S_law_shares : SD := S_shares_by
def S_law_box : SD := fun es Q _ => ∃ (ns : List Int) (k : Int), es = [.lst .con (ns.map D.int), .int k] ∧ ns.length ≤ 63 ∧ 0 ≤ k ∧ k ≤ 100 ∧ ∀ a b, bOk b → Q (box a b) es
def S_law_more : SD := fun es Q _ => ∃ a b : Int, es = [box a b] ∧ bOk b ∧ ∀ n b' : Int, bOk b' → 0 ≤ n → n < 2 ^ 200 → Q (.int n) [box a b']
def S_law_take : SD := fun es Q _ => ∃ a b c : Int, es = [box a b, .int c] ∧ bOk b ∧ 1 ≤ c ∧ c ≤ 2 ^ 40 ∧ ∀ a' b' d : Int, bOk b' → 0 ≤ d → d < c → Q (.int d) [box a' b', .int c]
def S_law_parts : SD := fun es Q _ => ∃ a b : Int, es = [box a b] ∧ bOk b ∧ ∀ (a' b' : Int) (ps : List Int), bOk b' → frontsOk ps → Q (.tup (ps.map D.int)) [box a' b']
def S_law : SD := fun es Q _ => ∃ ns : List Int, es = [.lst .con (ns.map D.int)] ∧ ns.length ≤ 63 ∧ ∀ r, Q (.bl true) r
theorem SM_is_whole : SMono S_is_whole := fun es P P' E E' hp he ⟨d, lo, hi, h1, h2, h3⟩ => ⟨d, lo, hi, h1, h2, hp _ _ h3⟩
theorem SM_shares_by : SMono S_shares_by := fun es P P' E E' hp he ⟨ps, m, h1, h2, h3, h4, h5⟩ => ⟨ps, m, h1, h2, h3, h4, hp _ _ h5⟩
theorem SM_shared : SMono S_shared := fun es P P' E E' hp he ⟨d, e, h1, h2, h3, h4, h5, h6, h7⟩ => ⟨d, e, h1, h2, h3, h4, fun ps m a b c x y => hp _ _ (h5 ps m a b c x y), fun z => he _ _ _ (h6 z), fun ps a b c => he _ _ _ (h7 ps a b c)⟩
theorem SM_law_shares : SMono S_law_shares := SM_shares_by
theorem SM_law_box : SMono S_law_box := fun es P P' E E' hp he ⟨ns, k, h1, h2, h3, h4, h5⟩ => ⟨ns, k, h1, h2, h3, h4, fun a b h => hp _ _ (h5 a b h)⟩
theorem SM_law_more : SMono S_law_more := fun es P P' E E' hp he ⟨a, b, h1, h2, h3⟩ => ⟨a, b, h1, h2, fun n b' x y z => hp _ _ (h3 n b' x y z)⟩
theorem SM_law_take : SMono S_law_take := fun es P P' E E' hp he ⟨a, b, c, h1, h2, h3, h4, h5⟩ => ⟨a, b, c, h1, h2, h3, h4, fun a' b' d x y z => hp _ _ (h5 a' b' d x y z)⟩
theorem SM_law_parts : SMono S_law_parts := fun es P P' E E' hp he ⟨a, b, h1, h2, h3⟩ => ⟨a, b, h1, h2, fun a' b' ps x y => hp _ _ (h3 a' b' ps x y)⟩
theorem SM_law : SMono S_law := fun es P P' E E' hp he ⟨ns, h1, h2, h3⟩ => ⟨ns, h1, h2, fun r => hp _ _ (h3 r)⟩
theorem SL_is_whole (ds Q E) (h : S_is_whole ds Q E) : ds.length = ["thing", "low", "high"].length := by obtain ⟨d, lo, hi, rfl, _⟩ := h; rfl
theorem SL_shares_by (ds Q E) (h : S_shares_by ds Q E) : ds.length = ["parts", "many"].length := by obtain ⟨d, lo, rfl, _⟩ := h; rfl
theorem SL_shared (ds Q E) (h : S_shared ds Q E) : ds.length = ["parts", "many"].length := by obtain ⟨d, lo, rfl, _⟩ := h; rfl
theorem SL_law_shares (ds Q E) (h : S_law_shares ds Q E) : ds.length = ["parts", "many"].length := SL_shares_by ds Q E h
theorem SL_law_box (ds Q E) (h : S_law_box ds Q E) : ds.length = ["parts", "many"].length := by obtain ⟨d, lo, rfl, _⟩ := h; rfl
theorem SL_law_more (ds Q E) (h : S_law_more ds Q E) : ds.length = ["parts"].length := by obtain ⟨d, lo, rfl, _⟩ := h; rfl
theorem SL_law_take (ds Q E) (h : S_law_take ds Q E) : ds.length = ["parts", "many"].length := by obtain ⟨d, lo, c, rfl, _⟩ := h; rfl
theorem SL_law_parts (ds Q E) (h : S_law_parts ds Q E) : ds.length = ["parts"].length := by obtain ⟨d, lo, rfl, _⟩ := h; rfl
theorem SL_law (ds Q E) (h : S_law ds Q E) : ds.length = ["parts"].length := by obtain ⟨d, rfl, _⟩ := h; rfl
end K07

namespace K07
open PySem PySem.Spec PyProof.Rows L2 Bd
def w_is_whole_0 (Ex : XD) : WS := wsR (wAndV (wCall (c2 isiF) (wBc (wN 0) (wBc (wB (wC (.opq (.ty "int")))) (wBn)))) (wAndV (wNotV (wB (wCall (c2 isiF) (wBc (wN 0) (wBc (wB (wC (.opq (.ty "bool")))) (wBn)))))) (wCh lteD lteD (wN 1) (wN 0) (wN 2))))
def w_is_whole (Ex : XD) : WS := w_is_whole_0 Ex
theorem b_is_whole {P : Program} {w : PySem.World} {K : PySem.W.Frag} {mg : Str → Option Value} {base : Heap} {T : List (Addr × Str)} {f : Addr} (h : Hd mg)  (cdv : Value) (A : Around) (outer : List Env) (s : Shared) (H : Hp) (E : XK) (G : Gm) (Ex : XD) (hr : Room 0 (FX P w K mg base N_is_whole "is_whole" (defScope s_is_whole) f cdv A outer s H E).A) (hgd : (FX P w K mg base N_is_whole "is_whole" (defScope s_is_whole) f cdv A outer s H E).A.guards = some []) (hcd : PySem.W.codeIn K cdv "is_whole" = true) (hT : G.T = T) (hn : G.n = N_is_whole.length) (hx : TakesD (FX P w K mg base N_is_whole "is_whole" (defScope s_is_whole) f cdv A outer s H E) G [true, true, true] Ex) : DSs (FX P w K mg base N_is_whole "is_whole" (defScope s_is_whole) f cdv A outer s H E) G [true, true, true] (defBody s_is_whole) (w_is_whole Ex) :=
  dss_one (show DS _ _ _ _ (w_is_whole_0 Ex) from ds_ret (de_and (k_isi (gl_of (by kernel_rfl)) h.n_isinstance (dbs_cons (b_v 0 rfl (.inl l_is_whole_0) m_thing) (dbs_cons (db_of (de_bltn (gl_of (by kernel_rfl)) h.n_int boot_int)) (dbs_nil)))) (de_and (de_not (db_of (k_isi (gl_of (by kernel_rfl)) h.n_isinstance (dbs_cons (b_v 0 rfl (.inl l_is_whole_0) m_thing) (dbs_cons (db_of (de_bltn (gl_of (by kernel_rfl)) h.n_bool boot_bool)) (dbs_nil)))))) (de_one (e_lele (b_v 1 rfl (.inl l_is_whole_1) m_low) (b_v 0 rfl (.inl l_is_whole_0) m_thing) (b_v 2 rfl (.inl l_is_whole_2) m_high))))))
def w_shares_by_0 (Ex : XD) : WS := wsA (wCall (c1 sumF) (wBc (wN 0) (wBn))) (gN 2)
def w_shares_by_1 (Ex : XD) : WS := wsA (wLc (wiS (wV 0)) (gi1 (gN 7)) (wYes) (wOp divD (wB (wOp mulD (wN 1) (wN 7))) (wN 2)) [7]) (gN 3)
def w_shares_by_2 (Ex : XD) : WS := wsA (wCall (c1 sortF) (wBc (wB (wLc (wiE (wCons (wV 0) (wNil))) (gsC (gN 6) (gsC (gN 7) (gsN))) (wYes) (wTup (wCons (wOp subD (wB (wC (.int 0))) (wB (wOp modD (wB (wOp mulD (wN 1) (wN 7))) (wN 2)))) (wCons (wV 6) (wNil)))) [6, 7])) (wBn))) (gN 4)
def w_shares_by_4 (Ex : XD) : WS := wsA (wOp addD (wB (wOp ixD (wN 3) (wN 6))) (wB (wC (.int 1)))) (gSn 3 (wV 6))
def w_shares_by_3 (Ex : XD) : WS := wsF (wiS (wSl (wN 4) (wNo) (wSo (wOp subD (wN 1) (wB (wCall (c1 sumF) (wBc (wN 3) (wBn)))))))) (gi1 (gT (gsC (gN 5) (gsC (gN 6) (gsN))))) (w_shares_by_4 Ex)
def w_shares_by_5 (Ex : XD) : WS := wsR (wCall (c1 tupF) (wBc (wN 3) (wBn)))
def w_shares_by (Ex : XD) : WS := wsS (w_shares_by_0 Ex) (wsS (w_shares_by_1 Ex) (wsS (w_shares_by_2 Ex) (wsS (w_shares_by_3 Ex) (w_shares_by_5 Ex))))
theorem b_shares_by {P : Program} {w : PySem.World} {K : PySem.W.Frag} {mg : Str → Option Value} {base : Heap} {T : List (Addr × Str)} {f : Addr} (h : Hd mg)  (cdv : Value) (A : Around) (outer : List Env) (s : Shared) (H : Hp) (E : XK) (G : Gm) (Ex : XD) (hr : Room 0 (FX P w K mg base N_shares_by "shares_by" (defScope s_shares_by) f cdv A outer s H E).A) (hgd : (FX P w K mg base N_shares_by "shares_by" (defScope s_shares_by) f cdv A outer s H E).A.guards = some []) (hcd : PySem.W.codeIn K cdv "shares_by" = true) (hT : G.T = T) (hn : G.n = N_shares_by.length) (hx : TakesD (FX P w K mg base N_shares_by "shares_by" (defScope s_shares_by) f cdv A outer s H E) G [true, true] Ex) : DSs (FX P w K mg base N_shares_by "shares_by" (defScope s_shares_by) f cdv A outer s H E) G [true, true] (defBody s_shares_by) (w_shares_by Ex) :=
  dss_cons (show DS _ _ _ _ (w_shares_by_0 Ex) from ds_set sc_shares_by.nd rfl (.inr l_shares_by_2) (k_sum rfl (gl_of (by kernel_rfl)) h.n_sum (dbs_cons (b_v 0 rfl (.inl l_shares_by_0) m_parts) (dbs_nil))) (by rfl) (by rfl) (.inl rfl))
  (dss_cons (show DS _ _ _ _ (w_shares_by_1 Ex) from ds_setLc (own := [("part", 7)]) [true, true, true, true, true, true, true, false] rfl sc_shares_by.nd rfl l_shares_by_3 (sw_true rfl l_shares_by_3 rfl rfl) (di_seq (e_v 0 rfl (.inl l_shares_by_0) m_parts)) (blkOk_by (by kernel_rfl)) (by rfl) hn (by decide) (fun _ eT1 en1 _ _ _ _ _ => dgi_one (dg_name sc_shares_by.nd rfl (.inl (by kernel_rfl)) (by rfl) (.inr (by kernel_rfl)))) (fun _ eT1 en1 _ _ _ _ _ => dts_nil) (fun _ eT1 en1 _ _ _ _ _ => e_div (db_of (e_mul (b_v 1 rfl (.inr (.inl (by kernel_rfl))) m_many) (b_v 7 rfl (.inl (by kernel_rfl)) m_part))) (b_v 2 rfl (.inr (.inl (by kernel_rfl))) m_total)))
  (dss_cons (show DS _ _ _ _ (w_shares_by_2 Ex) from ds_set sc_shares_by.nd rfl (.inl l_shares_by_4) (k_sorted hr (gl_of (by kernel_rfl)) h.n_sorted (dbs_cons (db_of (de_lc (own := [("place", 6), ("part", 7)]) [true, true, true, true, true, true, false, false] rfl sc_shares_by.nd (di_enum (gl_of (by kernel_rfl)) h.n_enumerate (da_cons (e_v 0 rfl (.inl l_shares_by_0) m_parts) (da_nil))) (blkOk_by (by kernel_rfl)) (by rfl) hn (by decide) (fun _ eT2 en2 _ _ _ _ _ => gi_tup rfl (dgs_cons (dg_name sc_shares_by.nd rfl (.inl (by kernel_rfl)) (by rfl) (.inr (by kernel_rfl))) (dgs_cons (dg_name sc_shares_by.nd rfl (.inl (by kernel_rfl)) (by rfl) (.inr (by kernel_rfl))) (dgs_nil))) (ln_c (gg_N) (ln_c (gg_N) (ln_n)))) (fun _ eT2 en2 _ _ _ _ _ => dts_nil) (fun _ eT2 en2 _ _ _ _ _ => de_tup (da_cons (e_sub (db_of (de_int)) (db_of (e_mod (db_of (e_mul (b_v 1 rfl (.inr (.inl (by kernel_rfl))) m_many) (b_v 7 rfl (.inl (by kernel_rfl)) m_part))) (b_v 2 rfl (.inr (.inl (by kernel_rfl))) m_total)))) (da_cons (e_v 6 rfl (.inl (by kernel_rfl)) m_place) (da_nil)))))) (dbs_nil))) (by rfl) (by rfl) (.inl rfl))
  (dss_cons (show DS _ _ _ _ (w_shares_by_3 Ex) from ds_for (passes_of rfl) rfl (di_seq (de_sl (b_v 4 rfl (.inl l_shares_by_4) m_rests) (do_none) (do_some (e_sub (b_v 1 rfl (.inr (.inl l_shares_by_1)) m_many) (db_of (k_sum rfl (gl_of (by kernel_rfl)) h.n_sum (dbs_cons (b_v 3 rfl (.inl l_shares_by_3) m_found) (dbs_nil)))))))) (dgi_one (g_tup rfl (dgs_cons (dg_name sc_shares_by.nd rfl (.inl l_shares_by_5) (by rfl) (.inl rfl)) (dgs_cons (dg_name sc_shares_by.nd rfl (.inl l_shares_by_6) (by rfl) (.inl rfl)) (dgs_nil))) (ln_c (gg_N) (ln_c (gg_N) (ln_n))))) (dss_one (show DS _ _ _ _ (w_shares_by_4 Ex) from ds_asg (e_add (db_of (de_ix (b_v 3 rfl (.inl l_shares_by_3) m_found) (b_v 6 rfl (.inl l_shares_by_6) m_place))) (db_of (de_int))) (dg_subN rfl (.inl l_shares_by_3) m_found (e_v 6 rfl (.inl l_shares_by_6) m_place)))))
  (dss_one (show DS _ _ _ _ (w_shares_by_5 Ex) from ds_ret (k_tuple (gl_of (by kernel_rfl)) h.n_tuple (dbs_cons (b_v 3 rfl (.inl l_shares_by_3) m_found) (dbs_nil))))))))
def w_shared_1 (Ex : XD) : WS := (fun _ ρ => Ex "NoFronts" [] ρ)
def w_shared_0 (Ex : XD) : WS := wsI (wOr (wNot (wTr (wB (wCall (c2 isiF) (wBc (wN 0) (wBc (wB (wC (.opq (.ty "tuple")))) (wBn))))))) (wNot (wT (wCh lteD lteD (wB (wC (.int 1))) (wB (wCall (c1 lenF) (wBc (wN 0) (wBn)))) (wB (wC (.int 10))))))) (w_shared_1 Ex) (wsN)
def w_shared_3 (Ex : XD) : WS := (fun _ ρ => Ex "NoFronts" [] ρ)
def w_shared_2 (Ex : XD) : WS := wsI (wOr (wNot (wTr (wB (wCall (c1 allF) (wBc (wB (wLc (wiS (wV 0)) (gi1 (gN 2)) (wYes) (wCallF S_is_whole noX (wBc (wN 2) (wBc (wB (wC (.int 0))) (wBc (wB (wC (.int 1000))) (wBn))))) [2])) (wBn)))))) (wT (wOp eqD (wB (wCall (c1 sumF) (wBc (wN 0) (wBn)))) (wB (wC (.int 0)))))) (w_shared_3 Ex) (wsN)
def w_shared_5 (Ex : XD) : WS := (fun _ ρ => Ex "NoNumber" [] ρ)
def w_shared_4 (Ex : XD) : WS := wsI (wNot (wTr (wB (wCallF S_is_whole Ex (wBc (wN 1) (wBc (wB (wC (.int 0))) (wBc (wB (wC (.int 100000))) (wBn)))))))) (w_shared_5 Ex) (wsN)
def w_shared_6 (Ex : XD) : WS := wsR (wCallF S_shares_by Ex (wBc (wN 0) (wBc (wN 1) (wBn))))
def w_shared (Ex : XD) : WS := wsS (w_shared_0 Ex) (wsS (w_shared_2 Ex) (wsS (w_shared_4 Ex) (w_shared_6 Ex)))
theorem b_shared {P : Program} {w : PySem.World} {K : PySem.W.Frag} {mg : Str → Option Value} {base : Heap} {T : List (Addr × Str)} {f : Addr} (h : Hd mg) (xh : Hx mg K) (c_is_whole : FnC P w K mg base T 1 "is_whole" ["thing", "low", "high"] S_is_whole) (c_shares_by : FnC P w K mg base T 1 "shares_by" ["parts", "many"] S_shares_by) (cdv : Value) (A : Around) (outer : List Env) (s : Shared) (H : Hp) (E : XK) (G : Gm) (Ex : XD) (hr : Room 1 (FX P w K mg base N_shared "shared" (defScope s_shared) f cdv A outer s H E).A) (hgd : (FX P w K mg base N_shared "shared" (defScope s_shared) f cdv A outer s H E).A.guards = some []) (hcd : PySem.W.codeIn K cdv "shared" = true) (hT : G.T = T) (hn : G.n = N_shared.length) (hx : TakesD (FX P w K mg base N_shared "shared" (defScope s_shared) f cdv A outer s H E) G [true, true] Ex) : DSs (FX P w K mg base N_shared "shared" (defScope s_shared) f cdv A outer s H E) G [true, true] (defBody s_shared) (w_shared Ex) :=
  dss_cons (show DS _ _ _ _ (w_shared_0 Ex) from ds_if (dt_w (dw_or (dt_not (dt_truth (db_of (k_isi (gl_of (by kernel_rfl)) h.n_isinstance (dbs_cons (b_v 0 rfl (.inl l_shared_0) m_parts) (dbs_cons (db_of (de_bltn (gl_of (by kernel_rfl)) h.n_tuple boot_tuple)) (dbs_nil))))))) (dw_or1 (dt_not (t_lele (db_of (de_int)) (db_of (k_len (gl_of (by kernel_rfl)) h.n_len (dbs_cons (b_v 0 rfl (.inl l_shared_0) m_parts) (dbs_nil)))) (db_of (e_gi (gl_of (by kernel_rfl)) m_MOST_FRONTS h.c_MOST_FRONTS))))))) (dss_one (show DS _ _ _ _ (w_shared_1 Ex) from ds_raise rfl xh.r_NoFronts hx (gl_of (by kernel_rfl)) (by decide))) (dss_nil))
  (dss_cons (show DS _ _ _ _ (w_shared_2 Ex) from ds_if (dt_w (dw_or (dt_not (dt_truth (db_of (k_all rfl (gl_of (by kernel_rfl)) h.n_all (dbs_cons (db_of (de_lc (own := [("part", 2)]) [true, true, false] rfl sc_shared.nd (di_seq (e_v 0 rfl (.inl l_shared_0) m_parts)) (blkOk_by (by kernel_rfl)) (by rfl) hn (by decide) (fun _ eT1 en1 _ _ _ _ _ => dgi_one (dg_name sc_shared.nd rfl (.inl (by kernel_rfl)) (by rfl) (.inr (by kernel_rfl)))) (fun _ eT1 en1 _ _ _ _ _ => dts_nil) (fun _ eT1 en1 _ _ _ _ _ => k_fn c_is_whole SM_is_whole hr hgd takes_blk (eT1.trans hT) (by decide) (gl_of (by kernel_rfl)) m_is_whole (dbs_cons (b_v 2 rfl (.inl (by kernel_rfl)) m_part) (dbs_cons (db_of (de_int)) (dbs_cons (db_of (e_gi (gl_of (by kernel_rfl)) m_MOST_FRONT h.c_MOST_FRONT)) (dbs_nil))))))) (dbs_nil)))))) (dw_or1 (t_eq (db_of (k_sum rfl (gl_of (by kernel_rfl)) h.n_sum (dbs_cons (b_v 0 rfl (.inl l_shared_0) m_parts) (dbs_nil)))) (db_of (de_int)) hr)))) (dss_one (show DS _ _ _ _ (w_shared_3 Ex) from ds_raise rfl xh.r_NoFronts hx (gl_of (by kernel_rfl)) (by decide))) (dss_nil))
  (dss_cons (show DS _ _ _ _ (w_shared_4 Ex) from ds_if (dt_not (dt_truth (db_of (k_fn c_is_whole SM_is_whole hr hgd hx hT (by decide) (gl_of (by kernel_rfl)) m_is_whole (dbs_cons (b_v 1 rfl (.inl l_shared_1) m_many) (dbs_cons (db_of (de_int)) (dbs_cons (db_of (e_gi (gl_of (by kernel_rfl)) m_MOST_THINGS h.c_MOST_THINGS)) (dbs_nil)))))))) (dss_one (show DS _ _ _ _ (w_shared_5 Ex) from ds_raise rfl xh.r_NoNumber hx (gl_of (by kernel_rfl)) (by decide))) (dss_nil))
  (dss_one (show DS _ _ _ _ (w_shared_6 Ex) from ds_ret (k_fn c_shares_by SM_shares_by hr hgd hx hT (by decide) (gl_of (by kernel_rfl)) m_shares_by (dbs_cons (b_v 0 rfl (.inl l_shared_0) m_parts) (dbs_cons (b_v 1 rfl (.inl l_shared_1) m_many) (dbs_nil))))))))
def w_law_box_0 (Ex : XD) : WS := wsA (wOp addD (wB (wOp mulD (wB (wC (.int 7919))) (wN 1))) (wB (wC (.int 13)))) (gN 2)
def w_law_box_2 (Ex : XD) : WS := wsA (wOp ixD (wN 0) (wN 1)) (gN 2)
def w_law_box_1 (Ex : XD) : WS := wsI (wT (wOp ltD (wN 1) (wB (wCall (c1 lenF) (wBc (wN 0) (wBn)))))) (w_law_box_2 Ex) (wsN)
def w_law_box_4 (Ex : XD) : WS := wsR (wLst (wCons (wOp divD (wN 2) (wB (wC (.int 2)))) (wCons (wOp modD (wB (wCall (c1 absF) (wBc (wN 2) (wBn)))) (wB (wC (.int 2147483647)))) (wNil))))
def w_law_box_3 (Ex : XD) : WS := wsI (wT (wOp eqD (wB (wOp modD (wN 2) (wB (wC (.int 2))))) (wB (wC (.int 0))))) (w_law_box_4 Ex) (wsN)
def w_law_box_5 (Ex : XD) : WS := wsA (wC (.int 0)) (gN 3)
def w_law_box_7 (Ex : XD) : WS := wsA (wOp modD (wB (wOp addD (wB (wOp addD (wB (wOp mulD (wB (wOp modD (wN 2) (wB (wC (.int 2147483647))))) (wB (wC (.int 48271))))) (wB (wOp mulD (wB (wC (.int 7919))) (wN 4))))) (wB (wC (.int 1))))) (wB (wC (.int 2147483647)))) (gN 5)
def w_law_box_8 (Ex : XD) : WS := wsA (wOp modD (wB (wOp mulD (wN 5) (wN 5))) (wB (wC (.int 2147483629)))) (gN 5)
def w_law_box_9 (Ex : XD) : WS := wsA (wOp addD (wB (wOp mulD (wN 3) (wB (wC (.int 2147483647))))) (wB (wOp modD (wB (wOp mulD (wN 5) (wB (wOp addD (wN 5) (wB (wC (.int 13))))))) (wB (wC (.int 2147483647)))))) (gN 3)
def w_law_box_6 (Ex : XD) : WS := wsF (wiR1 (wCons (wC (.int 16)) (wNil))) (gi1 (gN 4)) (wsS (w_law_box_7 Ex) (wsS (w_law_box_8 Ex) (w_law_box_9 Ex)))
def w_law_box_10 (Ex : XD) : WS := wsR (wLst (wCons (wV 3) (wCons (wOp modD (wB (wCall (c1 absF) (wBc (wN 2) (wBn)))) (wB (wC (.int 2147483647)))) (wNil))))
def w_law_box (Ex : XD) : WS := wsS (w_law_box_0 Ex) (wsS (w_law_box_1 Ex) (wsS (w_law_box_3 Ex) (wsS (w_law_box_5 Ex) (wsS (w_law_box_6 Ex) (w_law_box_10 Ex)))))
theorem b_law_box {P : Program} {w : PySem.World} {K : PySem.W.Frag} {mg : Str → Option Value} {base : Heap} {T : List (Addr × Str)} {f : Addr} (h : Hd mg)  (cdv : Value) (A : Around) (outer : List Env) (s : Shared) (H : Hp) (E : XK) (G : Gm) (Ex : XD) (hr : Room 0 (FX P w K mg base N_law_box "_law_box" (defScope s_law_box) f cdv A outer s H E).A) (hgd : (FX P w K mg base N_law_box "_law_box" (defScope s_law_box) f cdv A outer s H E).A.guards = some []) (hcd : PySem.W.codeIn K cdv "_law_box" = true) (hT : G.T = T) (hn : G.n = N_law_box.length) (hx : TakesD (FX P w K mg base N_law_box "_law_box" (defScope s_law_box) f cdv A outer s H E) G [true, true] Ex) : DSs (FX P w K mg base N_law_box "_law_box" (defScope s_law_box) f cdv A outer s H E) G [true, true] (defBody s_law_box) (w_law_box Ex) :=
  dss_cons (show DS _ _ _ _ (w_law_box_0 Ex) from ds_set sc_law_box.nd rfl (.inl l_law_box_2) (e_add (db_of (e_mul (db_of (de_int)) (b_v 1 rfl (.inl l_law_box_1) m_law_k))) (db_of (de_int))) (by rfl) (by rfl) (.inl rfl))
  (dss_cons (show DS _ _ _ _ (w_law_box_1 Ex) from ds_if (t_lt (b_v 1 rfl (.inl l_law_box_1) m_law_k) (db_of (k_len (gl_of (by kernel_rfl)) h.n_len (dbs_cons (b_v 0 rfl (.inl l_law_box_0) m_law_script) (dbs_nil))))) (dss_one (show DS _ _ _ _ (w_law_box_2 Ex) from ds_set sc_law_box.nd rfl (.inl l_law_box_2) (de_ix (b_v 0 rfl (.inl l_law_box_0) m_law_script) (b_v 1 rfl (.inl l_law_box_1) m_law_k)) (by rfl) (by rfl) (.inl rfl))) (dss_nil))
  (dss_cons (show DS _ _ _ _ (w_law_box_3 Ex) from ds_if (t_eq (db_of (e_mod (b_v 2 rfl (.inl l_law_box_2) m_law_here) (db_of (de_int)))) (db_of (de_int)) hr) (dss_one (show DS _ _ _ _ (w_law_box_4 Ex) from ds_ret (de_lst (da_cons (e_div (b_v 2 rfl (.inl l_law_box_2) m_law_here) (db_of (de_int))) (da_cons (e_mod (db_of (k_abs (gl_of (by kernel_rfl)) h.n_abs (dbs_cons (b_v 2 rfl (.inl l_law_box_2) m_law_here) (dbs_nil)))) (db_of (de_int))) (da_nil)))))) (dss_nil))
  (dss_cons (show DS _ _ _ _ (w_law_box_5 Ex) from ds_set sc_law_box.nd rfl (.inl l_law_box_3) (de_int) (by rfl) (by rfl) (.inl rfl))
  (dss_cons (show DS _ _ _ _ (w_law_box_6 Ex) from ds_for (passes_of rfl) rfl (di_range1 (gl_of (by kernel_rfl)) h.n_range (da_cons (de_int) (da_nil))) (dgi_one (dg_name sc_law_box.nd rfl (.inl l_law_box_4) (by rfl) (.inl rfl))) (dss_cons (show DS _ _ _ _ (w_law_box_7 Ex) from ds_set sc_law_box.nd rfl (.inl l_law_box_5) (e_mod (db_of (e_add (db_of (e_add (db_of (e_mul (db_of (e_mod (b_v 2 rfl (.inl l_law_box_2) m_law_here) (db_of (de_int)))) (db_of (de_int)))) (db_of (e_mul (db_of (de_int)) (b_v 4 rfl (.inl l_law_box_4) m_law_j))))) (db_of (de_int)))) (db_of (de_int))) (by rfl) (by rfl) (.inl rfl))
  (dss_cons (show DS _ _ _ _ (w_law_box_8 Ex) from ds_set sc_law_box.nd rfl (.inl l_law_box_5) (e_mod (db_of (e_mul (b_v 5 rfl (.inl l_law_box_5) m_law_piece) (b_v 5 rfl (.inl l_law_box_5) m_law_piece))) (db_of (de_int))) (by rfl) (by rfl) (.inl rfl))
  (dss_one (show DS _ _ _ _ (w_law_box_9 Ex) from ds_set sc_law_box.nd rfl (.inl l_law_box_3) (e_add (db_of (e_mul (b_v 3 rfl (.inl l_law_box_3) m_law_number) (db_of (de_int)))) (db_of (e_mod (db_of (e_mul (b_v 5 rfl (.inl l_law_box_5) m_law_piece) (db_of (e_add (b_v 5 rfl (.inl l_law_box_5) m_law_piece) (db_of (de_int)))))) (db_of (de_int))))) (by rfl) (by rfl) (.inl rfl))))))
  (dss_one (show DS _ _ _ _ (w_law_box_10 Ex) from ds_ret (de_lst (da_cons (e_v 3 rfl (.inl l_law_box_3) m_law_number) (da_cons (e_mod (db_of (k_abs (gl_of (by kernel_rfl)) h.n_abs (dbs_cons (b_v 2 rfl (.inl l_law_box_2) m_law_here) (dbs_nil)))) (db_of (de_int))) (da_nil))))))))))
def w_law_more_0 (Ex : XD) : WS := wsA (wC (.int 0)) (gN 1)
def w_law_more_2 (Ex : XD) : WS := wsA (wOp modD (wB (wOp addD (wB (wOp mulD (wB (wOp ixD (wN 0) (wB (wC (.int 1))))) (wB (wC (.int 48271))))) (wB (wC (.int 30269))))) (wB (wC (.int 2147483647)))) (gSn 0 (wC (.int 1)))
def w_law_more_3 (Ex : XD) : WS := wsA (wOp addD (wB (wOp mulD (wN 1) (wB (wC (.int 65521))))) (wB (wOp modD (wB (wOp divD (wB (wOp ixD (wN 0) (wB (wC (.int 1))))) (wB (wC (.int 7))))) (wB (wC (.int 65521)))))) (gN 1)
def w_law_more_1 (Ex : XD) : WS := wsF (wiR1 (wCons (wC (.int 12)) (wNil))) (gi1 (gN 2)) (wsS (w_law_more_2 Ex) (w_law_more_3 Ex))
def w_law_more_4 (Ex : XD) : WS := wsR (wMv 1)
def w_law_more (Ex : XD) : WS := wsS (w_law_more_0 Ex) (wsS (w_law_more_1 Ex) (w_law_more_4 Ex))
theorem b_law_more {P : Program} {w : PySem.World} {K : PySem.W.Frag} {mg : Str → Option Value} {base : Heap} {T : List (Addr × Str)} {f : Addr} (h : Hd mg)  (cdv : Value) (A : Around) (outer : List Env) (s : Shared) (H : Hp) (E : XK) (G : Gm) (Ex : XD) (hr : Room 0 (FX P w K mg base N_law_more "_law_more" (defScope s_law_more) f cdv A outer s H E).A) (hgd : (FX P w K mg base N_law_more "_law_more" (defScope s_law_more) f cdv A outer s H E).A.guards = some []) (hcd : PySem.W.codeIn K cdv "_law_more" = true) (hT : G.T = T) (hn : G.n = N_law_more.length) (hx : TakesD (FX P w K mg base N_law_more "_law_more" (defScope s_law_more) f cdv A outer s H E) G [true] Ex) : DSs (FX P w K mg base N_law_more "_law_more" (defScope s_law_more) f cdv A outer s H E) G [true] (defBody s_law_more) (w_law_more Ex) :=
  dss_cons (show DS _ _ _ _ (w_law_more_0 Ex) from ds_set sc_law_more.nd rfl (.inl l_law_more_1) (de_int) (by rfl) (by rfl) (.inl rfl))
  (dss_cons (show DS _ _ _ _ (w_law_more_1 Ex) from ds_for (passes_of rfl) rfl (di_range1 (gl_of (by kernel_rfl)) h.n_range (da_cons (de_int) (da_nil))) (dgi_one (dg_name sc_law_more.nd rfl (.inl l_law_more_2) (by rfl) (.inl rfl))) (dss_cons (show DS _ _ _ _ (w_law_more_2 Ex) from ds_asg (e_mod (db_of (e_add (db_of (e_mul (db_of (de_ix (b_v 0 rfl (.inl l_law_more_0) m_law_box_here) (db_of (de_int)))) (db_of (de_int)))) (db_of (de_int)))) (db_of (de_int))) (dg_subN rfl (.inl l_law_more_0) m_law_box_here (de_int)))
  (dss_one (show DS _ _ _ _ (w_law_more_3 Ex) from ds_set sc_law_more.nd rfl (.inl l_law_more_1) (e_add (db_of (e_mul (b_v 1 rfl (.inl l_law_more_1) m_law_number) (db_of (de_int)))) (db_of (e_mod (db_of (e_div (db_of (de_ix (b_v 0 rfl (.inl l_law_more_0) m_law_box_here) (db_of (de_int)))) (db_of (de_int)))) (db_of (de_int))))) (by rfl) (by rfl) (.inl rfl)))))
  (dss_one (show DS _ _ _ _ (w_law_more_4 Ex) from ds_ret (e_m 1 rfl (.inl l_law_more_1) m_law_number))))
def w_law_take_1 (Ex : XD) : WS := wsA (wOp addD (wB (wOp ixD (wN 0) (wB (wC (.int 0))))) (wB (wOp mulD (wN 1) (wB (wCallF S_law_more Ex (wBc (wN 0) (wBn))))))) (gSn 0 (wC (.int 0)))
def w_law_take_0 (Ex : XD) : WS := wsI (wT (wCh lteD ltD (wB (wC (.int 0))) (wB (wOp ixD (wN 0) (wB (wC (.int 0))))) (wN 1))) (w_law_take_1 Ex) (wsN)
def w_law_take_2 (Ex : XD) : WS := wsA (wCall (c2 divF) (wBc (wB (wOp ixD (wN 0) (wB (wC (.int 0))))) (wBc (wN 1) (wBn)))) (gT (gsC (gN 2) (gsC (gN 3) (gsN))))
def w_law_take_3 (Ex : XD) : WS := wsA (wV 2) (gSn 0 (wC (.int 0)))
def w_law_take_4 (Ex : XD) : WS := wsR (wMv 3)
def w_law_take (Ex : XD) : WS := wsS (w_law_take_0 Ex) (wsS (w_law_take_2 Ex) (wsS (w_law_take_3 Ex) (w_law_take_4 Ex)))
theorem b_law_take {P : Program} {w : PySem.World} {K : PySem.W.Frag} {mg : Str → Option Value} {base : Heap} {T : List (Addr × Str)} {f : Addr} (h : Hd mg) (c_law_more : FnC P w K mg base T 1 "_law_more" ["_law_box_here"] S_law_more) (cdv : Value) (A : Around) (outer : List Env) (s : Shared) (H : Hp) (E : XK) (G : Gm) (Ex : XD) (hr : Room 1 (FX P w K mg base N_law_take "_law_take" (defScope s_law_take) f cdv A outer s H E).A) (hgd : (FX P w K mg base N_law_take "_law_take" (defScope s_law_take) f cdv A outer s H E).A.guards = some []) (hcd : PySem.W.codeIn K cdv "_law_take" = true) (hT : G.T = T) (hn : G.n = N_law_take.length) (hx : TakesD (FX P w K mg base N_law_take "_law_take" (defScope s_law_take) f cdv A outer s H E) G [true, true] Ex) : DSs (FX P w K mg base N_law_take "_law_take" (defScope s_law_take) f cdv A outer s H E) G [true, true] (defBody s_law_take) (w_law_take Ex) :=
  dss_cons (show DS _ _ _ _ (w_law_take_0 Ex) from ds_if (t_lelt (db_of (de_int)) (db_of (de_ix (b_v 0 rfl (.inl l_law_take_0) m_law_box_here) (db_of (de_int)))) (b_v 1 rfl (.inl l_law_take_1) m_law_count)) (dss_one (show DS _ _ _ _ (w_law_take_1 Ex) from ds_asg (e_add (db_of (de_ix (b_v 0 rfl (.inl l_law_take_0) m_law_box_here) (db_of (de_int)))) (db_of (e_mul (b_v 1 rfl (.inl l_law_take_1) m_law_count) (db_of (k_fn c_law_more SM_law_more hr hgd hx hT (by decide) (gl_of (by kernel_rfl)) m_law_more (dbs_cons (b_v 0 rfl (.inl l_law_take_0) m_law_box_here) (dbs_nil))))))) (dg_subN rfl (.inl l_law_take_0) m_law_box_here (de_int)))) (dss_nil))
  (dss_cons (show DS _ _ _ _ (w_law_take_2 Ex) from ds_asg (k_divmod (gl_of (by kernel_rfl)) h.n_divmod (dbs_cons (db_of (de_ix (b_v 0 rfl (.inl l_law_take_0) m_law_box_here) (db_of (de_int)))) (dbs_cons (b_v 1 rfl (.inl l_law_take_1) m_law_count) (dbs_nil)))) (g_tup rfl (dgs_cons (dg_name sc_law_take.nd rfl (.inl l_law_take_2) (by rfl) (.inl rfl)) (dgs_cons (dg_name sc_law_take.nd rfl (.inl l_law_take_3) (by rfl) (.inl rfl)) (dgs_nil))) (ln_c (gg_N) (ln_c (gg_N) (ln_n)))))
  (dss_cons (show DS _ _ _ _ (w_law_take_3 Ex) from ds_asg (e_v 2 rfl (.inl l_law_take_2) m_law_rest_of) (dg_subN rfl (.inl l_law_take_0) m_law_box_here (de_int)))
  (dss_one (show DS _ _ _ _ (w_law_take_4 Ex) from ds_ret (e_m 3 rfl (.inl l_law_take_3) m_law_digit)))))
def w_law_kind_0 (c : Str) (a : Addr) : WS := wsA (wLst (wCons (wIsE 1 a (decide (c = "NoField"))) (wCons (wIsE 1 a (decide (c = "NoCell"))) (wCons (wIsE 1 a (decide (c = "NoCells"))) (wCons (wIsE 1 a (decide (c = "NoNumber"))) (wNil)))))) (gN 2)
def w_law_kind_1 (c : Str) (a : Addr) : WS := wsA (wOp addD (wN 2) (wB (wLst (wCons (wIsE 1 a (decide (c = "NoFronts"))) (wCons (wIsE 1 a (decide (c = "NoStanding"))) (wCons (wIsE 1 a (decide (c = "NoChange"))) (wNil))))))) (gN 2)
def w_law_kind_2 (c : Str) (a : Addr) : WS := wsA (wOp addD (wN 2) (wB (wLst (wCons (wIsE 1 a (decide (c = "NoChanges"))) (wCons (wIsE 1 a (decide (c = "NoDay"))) (wCons (wIsE 1 a (decide (c = "NoPace"))) (wCons (wIsE 1 a (decide (c = "NoSpans"))) (wNil)))))))) (gN 2)
def w_law_kind_3 (c : Str) (a : Addr) : WS := wsA (wOp addD (wN 2) (wB (wLst (wCons (wIsE 1 a (decide (c = "NoCase"))) (wCons (wIsE 1 a (decide (c = "NoTelling"))) (wCons (wIsE 1 a (decide (c = "NoMark"))) (wCons (wIsE 1 a (decide (c = "NoText"))) (wNil)))))))) (gN 2)
def w_law_kind_4 (c : Str) (a : Addr) : WS := wsA (wOp addD (wN 2) (wB (wLst (wCons (wIsE 1 a (decide (c = "NoLine"))) (wCons (wIsE 1 a (decide (c = "There"))) (wCons (wIsE 1 a (decide (c = "Gone"))) (wCons (wIsE 1 a (decide (c = "Nothing"))) (wNil)))))))) (gN 2)
def w_law_kind_5 (c : Str) (a : Addr) : WS := wsA (wOp addD (wN 2) (wB (wLst (wCons (wIsE 1 a (decide (c = "TooMany"))) (wNil))))) (gN 2)
def w_law_kind_7 (c : Str) (a : Addr) : WS := wsR (wC (.str "other"))
def w_law_kind_6 (c : Str) (a : Addr) : WS := wsI (wOr (wNot (wTr (wB (wIsE 1 a true)))) (wT (wOp neD (wB (wMn "list" cntLF 2 (wCons (wC (.bl true)) (wNil)))) (wB (wC (.int 1)))))) (w_law_kind_7 c a) (wsN)
def w_law_kind_8 (c : Str) (a : Addr) : WS := wsA (wLst (wCons (wC (.str "field")) (wCons (wC (.str "cell")) (wCons (wC (.str "cells")) (wCons (wC (.str "number")) (wCons (wC (.str "fronts")) (wCons (wC (.str "standing")) (wCons (wC (.str "change")) (wCons (wC (.str "changes")) (wCons (wC (.str "day")) (wCons (wC (.str "pace")) (wCons (wC (.str "spans")) (wNil))))))))))))) (gN 3)
def w_law_kind_9 (c : Str) (a : Addr) : WS := wsA (wOp addD (wN 3) (wB (wLst (wCons (wC (.str "case")) (wCons (wC (.str "telling")) (wCons (wC (.str "mark")) (wCons (wC (.str "text")) (wCons (wC (.str "line")) (wCons (wC (.str "there")) (wCons (wC (.str "gone")) (wCons (wC (.str "nothing")) (wCons (wC (.str "many")) (wNil))))))))))))) (gN 3)
def w_law_kind_10 (c : Str) (a : Addr) : WS := wsR (wOp ixD (wN 3) (wB (wMn "list" ixLF 2 (wCons (wC (.bl true)) (wNil)))))
def w_law_kind (c : Str) (a : Addr) : WS := wsS (w_law_kind_0 c a) (wsS (w_law_kind_1 c a) (wsS (w_law_kind_2 c a) (wsS (w_law_kind_3 c a) (wsS (w_law_kind_4 c a) (wsS (w_law_kind_5 c a) (wsS (w_law_kind_6 c a) (wsS (w_law_kind_8 c a) (wsS (w_law_kind_9 c a) (w_law_kind_10 c a)))))))))
theorem b_law_kind {P : Program} {w : PySem.World} {K : PySem.W.Frag} {mg : Str → Option Value} {base : Heap} (h : Hd mg) (xh : Hx mg K) {c t : Str} (hc : ok_law_kind c = some t) (g : Addr) (cdg : Value) (A : Around) (outer : List Env) (s : Shared) (H : Hp) (a : Addr) (oe : Obj) (pn : List (Addr × Obj)) (hz : Zc (.ref (He.ga K c)) none oe) (hf : ∃ vs, oe.data = .fields vs) (hu : A.units + 200 < cLine) (G : Gm) : DSs ((cxOf C8.CX0 P w K mg base N_law_kind "_law_kind" (defScope s_law_kind) g cdg A outer s H C8.E0).nox.suite a ((a, oe) :: pn)) G [] (catchOf (defBody s_law_kind)) (w_law_kind c a) := by
  have xe := xh.x_law_kind c t hc
  have hu : ((cxOf C8.CX0 P w K mg base N_law_kind "_law_kind" (defScope s_law_kind) g cdg A outer s H C8.E0).nox.suite a ((a, oe) :: pn)).A.units + 66 < cLine := by show A.units + 3 + 66 < cLine; omega
  exact dss_cons (show DS _ _ _ _ (w_law_kind_0 c a) from ds_set sc_law_kind.nd rfl (.inl l_law_kind_2) (de_lst (da_cons (de_isE xe.e hz hf (gl_of (by kernel_rfl)) h.n_isinstance relR (xe.k "NoField" (by decide +kernel)) rfl (.inl l_law_kind_1) m_e (de_globR (gl_of (by kernel_rfl)) xh.g_NoField (by decide))) (da_cons (de_isE xe.e hz hf (gl_of (by kernel_rfl)) h.n_isinstance relR (xe.k "NoCell" (by decide +kernel)) rfl (.inl l_law_kind_1) m_e (de_globR (gl_of (by kernel_rfl)) xh.g_NoCell (by decide))) (da_cons (de_isE xe.e hz hf (gl_of (by kernel_rfl)) h.n_isinstance relR (xe.k "NoCells" (by decide +kernel)) rfl (.inl l_law_kind_1) m_e (de_globR (gl_of (by kernel_rfl)) xh.g_NoCells (by decide))) (da_cons (de_isE xe.e hz hf (gl_of (by kernel_rfl)) h.n_isinstance relR (xe.k "NoNumber" (by decide +kernel)) rfl (.inl l_law_kind_1) m_e (de_globR (gl_of (by kernel_rfl)) xh.g_NoNumber (by decide))) (da_nil)))))) (by rfl) (by rfl) (.inl rfl))
    (dss_cons (show DS _ _ _ _ (w_law_kind_1 c a) from ds_set sc_law_kind.nd rfl (.inl l_law_kind_2) (e_add (b_v 2 rfl (.inl l_law_kind_2) m_law_some) (db_of (de_lst (da_cons (de_isE xe.e hz hf (gl_of (by kernel_rfl)) h.n_isinstance relR (xe.k "NoFronts" (by decide +kernel)) rfl (.inl l_law_kind_1) m_e (de_globR (gl_of (by kernel_rfl)) xh.g_NoFronts (by decide))) (da_cons (de_isE xe.e hz hf (gl_of (by kernel_rfl)) h.n_isinstance relR (xe.k "NoStanding" (by decide +kernel)) rfl (.inl l_law_kind_1) m_e (de_globR (gl_of (by kernel_rfl)) xh.g_NoStanding (by decide))) (da_cons (de_isE xe.e hz hf (gl_of (by kernel_rfl)) h.n_isinstance relR (xe.k "NoChange" (by decide +kernel)) rfl (.inl l_law_kind_1) m_e (de_globR (gl_of (by kernel_rfl)) xh.g_NoChange (by decide))) (da_nil))))))) (by rfl) (by rfl) (.inl rfl))
    (dss_cons (show DS _ _ _ _ (w_law_kind_2 c a) from ds_set sc_law_kind.nd rfl (.inl l_law_kind_2) (e_add (b_v 2 rfl (.inl l_law_kind_2) m_law_some) (db_of (de_lst (da_cons (de_isE xe.e hz hf (gl_of (by kernel_rfl)) h.n_isinstance relR (xe.k "NoChanges" (by decide +kernel)) rfl (.inl l_law_kind_1) m_e (de_globR (gl_of (by kernel_rfl)) xh.g_NoChanges (by decide))) (da_cons (de_isE xe.e hz hf (gl_of (by kernel_rfl)) h.n_isinstance relR (xe.k "NoDay" (by decide +kernel)) rfl (.inl l_law_kind_1) m_e (de_globR (gl_of (by kernel_rfl)) xh.g_NoDay (by decide))) (da_cons (de_isE xe.e hz hf (gl_of (by kernel_rfl)) h.n_isinstance relR (xe.k "NoPace" (by decide +kernel)) rfl (.inl l_law_kind_1) m_e (de_globR (gl_of (by kernel_rfl)) xh.g_NoPace (by decide))) (da_cons (de_isE xe.e hz hf (gl_of (by kernel_rfl)) h.n_isinstance relR (xe.k "NoSpans" (by decide +kernel)) rfl (.inl l_law_kind_1) m_e (de_globR (gl_of (by kernel_rfl)) xh.g_NoSpans (by decide))) (da_nil)))))))) (by rfl) (by rfl) (.inl rfl))
    (dss_cons (show DS _ _ _ _ (w_law_kind_3 c a) from ds_set sc_law_kind.nd rfl (.inl l_law_kind_2) (e_add (b_v 2 rfl (.inl l_law_kind_2) m_law_some) (db_of (de_lst (da_cons (de_isE xe.e hz hf (gl_of (by kernel_rfl)) h.n_isinstance relR (xe.k "NoCase" (by decide +kernel)) rfl (.inl l_law_kind_1) m_e (de_globR (gl_of (by kernel_rfl)) xh.g_NoCase (by decide))) (da_cons (de_isE xe.e hz hf (gl_of (by kernel_rfl)) h.n_isinstance relR (xe.k "NoTelling" (by decide +kernel)) rfl (.inl l_law_kind_1) m_e (de_globR (gl_of (by kernel_rfl)) xh.g_NoTelling (by decide))) (da_cons (de_isE xe.e hz hf (gl_of (by kernel_rfl)) h.n_isinstance relR (xe.k "NoMark" (by decide +kernel)) rfl (.inl l_law_kind_1) m_e (de_globR (gl_of (by kernel_rfl)) xh.g_NoMark (by decide))) (da_cons (de_isE xe.e hz hf (gl_of (by kernel_rfl)) h.n_isinstance relR (xe.k "NoText" (by decide +kernel)) rfl (.inl l_law_kind_1) m_e (de_globR (gl_of (by kernel_rfl)) xh.g_NoText (by decide))) (da_nil)))))))) (by rfl) (by rfl) (.inl rfl))
    (dss_cons (show DS _ _ _ _ (w_law_kind_4 c a) from ds_set sc_law_kind.nd rfl (.inl l_law_kind_2) (e_add (b_v 2 rfl (.inl l_law_kind_2) m_law_some) (db_of (de_lst (da_cons (de_isE xe.e hz hf (gl_of (by kernel_rfl)) h.n_isinstance relR (xe.k "NoLine" (by decide +kernel)) rfl (.inl l_law_kind_1) m_e (de_globR (gl_of (by kernel_rfl)) xh.g_NoLine (by decide))) (da_cons (de_isE xe.e hz hf (gl_of (by kernel_rfl)) h.n_isinstance relR (xe.k "There" (by decide +kernel)) rfl (.inl l_law_kind_1) m_e (de_globR (gl_of (by kernel_rfl)) xh.g_There (by decide))) (da_cons (de_isE xe.e hz hf (gl_of (by kernel_rfl)) h.n_isinstance relR (xe.k "Gone" (by decide +kernel)) rfl (.inl l_law_kind_1) m_e (de_globR (gl_of (by kernel_rfl)) xh.g_Gone (by decide))) (da_cons (de_isE xe.e hz hf (gl_of (by kernel_rfl)) h.n_isinstance relR (xe.k "Nothing" (by decide +kernel)) rfl (.inl l_law_kind_1) m_e (de_globR (gl_of (by kernel_rfl)) xh.g_Nothing (by decide))) (da_nil)))))))) (by rfl) (by rfl) (.inl rfl))
    (dss_cons (show DS _ _ _ _ (w_law_kind_5 c a) from ds_set sc_law_kind.nd rfl (.inl l_law_kind_2) (e_add (b_v 2 rfl (.inl l_law_kind_2) m_law_some) (db_of (de_lst (da_cons (de_isE xe.e hz hf (gl_of (by kernel_rfl)) h.n_isinstance relR (xe.k "TooMany" (by decide +kernel)) rfl (.inl l_law_kind_1) m_e (de_globR (gl_of (by kernel_rfl)) xh.g_TooMany (by decide))) (da_nil))))) (by rfl) (by rfl) (.inl rfl))
    (dss_cons (show DS _ _ _ _ (w_law_kind_6 c a) from ds_if (dt_w (dw_or (dt_not (dt_truth (db_of (de_isE xe.e hz hf (gl_of (by kernel_rfl)) h.n_isinstance relT xe.v rfl (.inl l_law_kind_1) m_e (de_bltn (gl_of (by kernel_rfl)) h.n_ValueError boot_ValueError))))) (dw_or1 (t_neU hu (db_of (m_countL hu rfl (.inl l_law_kind_2) m_law_some (da_cons (de_bl) (da_nil)))) (db_of (de_int)))))) (dss_one (show DS _ _ _ _ (w_law_kind_7 c a) from ds_ret (de_str))) (dss_nil))
    (dss_cons (show DS _ _ _ _ (w_law_kind_8 c a) from ds_set sc_law_kind.nd rfl (.inl l_law_kind_3) (de_lst (da_cons (de_str) (da_cons (de_str) (da_cons (de_str) (da_cons (de_str) (da_cons (de_str) (da_cons (de_str) (da_cons (de_str) (da_cons (de_str) (da_cons (de_str) (da_cons (de_str) (da_cons (de_str) (da_nil))))))))))))) (by rfl) (by rfl) (.inl rfl))
    (dss_cons (show DS _ _ _ _ (w_law_kind_9 c a) from ds_set sc_law_kind.nd rfl (.inl l_law_kind_3) (e_add (b_v 3 rfl (.inl l_law_kind_3) m_law_words) (db_of (de_lst (da_cons (de_str) (da_cons (de_str) (da_cons (de_str) (da_cons (de_str) (da_cons (de_str) (da_cons (de_str) (da_cons (de_str) (da_cons (de_str) (da_cons (de_str) (da_nil))))))))))))) (by rfl) (by rfl) (.inl rfl))
    (dss_one (show DS _ _ _ _ (w_law_kind_10 c a) from ds_ret (de_ix (b_v 3 rfl (.inl l_law_kind_3) m_law_words) (db_of (m_indexL hu rfl (.inl l_law_kind_2) m_law_some (da_cons (de_bl) (da_nil)))))))))))))))
def w_law_shares_0 (Ex : XD) : WS := wsA (wCall (c1 sumF) (wBc (wN 0) (wBn))) (gN 2)
def w_law_shares_1 (Ex : XD) : WS := wsA (wLc (wiS (wV 0)) (gi1 (gN 7)) (wYes) (wOp divD (wB (wOp mulD (wN 1) (wN 7))) (wN 2)) [7]) (gN 3)
def w_law_shares_2 (Ex : XD) : WS := wsA (wLcN (wiZN (wBc (wN 0) (wBc (wN 3) (wBn)))) (gsC (gN 7) (gsC (gN 8) (gsN))) (wYes) (wOp subD (wB (wOp mulD (wN 1) (wN 7))) (wB (wOp mulD (wN 8) (wN 2)))) [7, 8]) (gN 4)
def w_law_shares_4 (Ex : XD) : WS := wsA (wMn "list" ixLF 4 (wCons (wCall (c1 maxF) (wBc (wN 4) (wBn))) (wNil))) (gN 6)
def w_law_shares_5 (Ex : XD) : WS := wsA (wTup (wCons (wOp addD (wB (wOp ixD (wN 3) (wN 6))) (wB (wC (.int 1)))) (wCons (wNeg (wC (.int 1))) (wNil)))) (gT (gsC (gSn 3 (wV 6)) (gsC (gSn 4 (wV 6)) (gsN))))
def w_law_shares_3 (Ex : XD) : WS := wsF (wiR1 (wCons (wOp subD (wN 1) (wB (wCall (c1 sumF) (wBc (wN 3) (wBn))))) (wNil))) (gi1 (gN 5)) (wsS (w_law_shares_4 Ex) (w_law_shares_5 Ex))
def w_law_shares_6 (Ex : XD) : WS := wsR (wCall (c1 tupF) (wBc (wN 3) (wBn)))
def w_law_shares (Ex : XD) : WS := wsS (w_law_shares_0 Ex) (wsS (w_law_shares_1 Ex) (wsS (w_law_shares_2 Ex) (wsS (w_law_shares_3 Ex) (w_law_shares_6 Ex))))
theorem b_law_shares {P : Program} {w : PySem.World} {K : PySem.W.Frag} {mg : Str → Option Value} {base : Heap} {T : List (Addr × Str)} {f : Addr} (h : Hd mg)  (cdv : Value) (A : Around) (outer : List Env) (s : Shared) (H : Hp) (E : XK) (G : Gm) (Ex : XD) (hr : Room 0 (FX P w K mg base N_law_shares "_law_shares" (defScope s_law_shares) f cdv A outer s H E).A) (hgd : (FX P w K mg base N_law_shares "_law_shares" (defScope s_law_shares) f cdv A outer s H E).A.guards = some []) (hcd : PySem.W.codeIn K cdv "_law_shares" = true) (hT : G.T = T) (hn : G.n = N_law_shares.length) (hx : TakesD (FX P w K mg base N_law_shares "_law_shares" (defScope s_law_shares) f cdv A outer s H E) G [true, true] Ex) : DSs (FX P w K mg base N_law_shares "_law_shares" (defScope s_law_shares) f cdv A outer s H E) G [true, true] (defBody s_law_shares) (w_law_shares Ex) :=
  dss_cons (show DS _ _ _ _ (w_law_shares_0 Ex) from ds_set sc_law_shares.nd rfl (.inr l_law_shares_2) (k_sum rfl (gl_of (by kernel_rfl)) h.n_sum (dbs_cons (b_v 0 rfl (.inl l_law_shares_0) m_law_parts_here) (dbs_nil))) (by rfl) (by rfl) (.inl rfl))
  (dss_cons (show DS _ _ _ _ (w_law_shares_1 Ex) from ds_setLc (own := [("_law_part", 7)]) [true, true, true, true, true, true, true, false, true] rfl sc_law_shares.nd rfl l_law_shares_3 (sw_true rfl l_law_shares_3 rfl rfl) (di_seq (e_v 0 rfl (.inl l_law_shares_0) m_law_parts_here)) (blkOk_by (by kernel_rfl)) (by rfl) hn (by decide) (fun _ eT1 en1 _ _ _ _ _ => dgi_one (dg_name sc_law_shares.nd rfl (.inl (by kernel_rfl)) (by rfl) (.inr (by kernel_rfl)))) (fun _ eT1 en1 _ _ _ _ _ => dts_nil) (fun _ eT1 en1 _ _ _ _ _ => e_div (db_of (e_mul (b_v 1 rfl (.inr (.inl (by kernel_rfl))) m_law_many) (b_v 7 rfl (.inl (by kernel_rfl)) m_law_part))) (b_v 2 rfl (.inr (.inl (by kernel_rfl))) m_law_total)))
  (dss_cons (show DS _ _ _ _ (w_law_shares_2 Ex) from ds_setLcN (own := [("_law_part", 7), ("_law_one", 8)]) [true, true, true, true, true, true, true, false, false] rfl sc_law_shares.nd rfl l_law_shares_4 (sw_true rfl l_law_shares_4 rfl rfl) (dil_zip (gl_of (by kernel_rfl)) h.n_zip (dbs_cons (b_v 0 rfl (.inl l_law_shares_0) m_law_parts_here) (dbs_cons (b_v 3 rfl (.inl l_law_shares_3) m_law_found) (dbs_nil)))) (blkOk_by (by kernel_rfl)) (by rfl) hn (by decide) (fun _ eT2 en2 _ _ _ _ _ => gi_tup rfl (dgs_cons (dg_name sc_law_shares.nd rfl (.inl (by kernel_rfl)) (by rfl) (.inr (by kernel_rfl))) (dgs_cons (dg_name sc_law_shares.nd rfl (.inl (by kernel_rfl)) (by rfl) (.inr (by kernel_rfl))) (dgs_nil))) (ln_c (gg_N) (ln_c (gg_N) (ln_n)))) (fun _ eT2 en2 _ _ _ _ _ => dts_nil) (fun _ eT2 en2 _ _ _ _ _ => e_sub (db_of (e_mul (b_v 1 rfl (.inr (.inl (by kernel_rfl))) m_law_many) (b_v 7 rfl (.inl (by kernel_rfl)) m_law_part))) (db_of (e_mul (b_v 8 rfl (.inl (by kernel_rfl)) m_law_one) (b_v 2 rfl (.inr (.inl (by kernel_rfl))) m_law_total)))))
  (dss_cons (show DS _ _ _ _ (w_law_shares_3 Ex) from ds_for (passes_of rfl) rfl (di_range1 (gl_of (by kernel_rfl)) h.n_range (da_cons (e_sub (b_v 1 rfl (.inr (.inl l_law_shares_1)) m_law_many) (db_of (k_sum rfl (gl_of (by kernel_rfl)) h.n_sum (dbs_cons (b_v 3 rfl (.inl l_law_shares_3) m_law_found) (dbs_nil))))) (da_nil))) (dgi_one (dg_name sc_law_shares.nd rfl (.inl l_law_shares_5) (by rfl) (.inl rfl))) (dss_cons (show DS _ _ _ _ (w_law_shares_4 Ex) from ds_set sc_law_shares.nd rfl (.inl l_law_shares_6) (m_indexL (by have := hr.un; omega) rfl (.inl l_law_shares_4) m_law_rests (da_cons (k_max1 rfl (gl_of (by kernel_rfl)) h.n_max (dbs_cons (b_v 4 rfl (.inl l_law_shares_4) m_law_rests) (dbs_nil))) (da_nil))) (by rfl) (by rfl) (.inl rfl))
  (dss_one (show DS _ _ _ _ (w_law_shares_5 Ex) from ds_asg (de_tup (da_cons (e_add (db_of (de_ix (b_v 3 rfl (.inl l_law_shares_3) m_law_found) (b_v 6 rfl (.inl l_law_shares_6) m_law_best))) (db_of (de_int))) (da_cons (de_neg (de_int)) (da_nil)))) (g_tup rfl (dgs_cons (dg_subN rfl (.inl l_law_shares_3) m_law_found (e_v 6 rfl (.inl l_law_shares_6) m_law_best)) (dgs_cons (dg_subN rfl (.inl l_law_shares_4) m_law_rests (e_v 6 rfl (.inl l_law_shares_6) m_law_best)) (dgs_nil))) (ln_c (gg_S ge_V) (ln_c (gg_S ge_V) (ln_n))))))))
  (dss_one (show DS _ _ _ _ (w_law_shares_6 Ex) from ds_ret (k_tuple (gl_of (by kernel_rfl)) h.n_tuple (dbs_cons (b_v 3 rfl (.inl l_law_shares_3) m_law_found) (dbs_nil))))))))
def w_law_parts_0 (Ex : XD) : WS := wsA (wOp ixD (wB (wLst (wCons (wC (.int 2)) (wCons (wC (.int 5)) (wCons (wC (.int 1001)) (wNil)))))) (wB (wCallF S_law_take Ex (wBc (wN 0) (wBc (wB (wC (.int 3))) (wBn)))))) (gN 1)
def w_law_parts_1 (Ex : XD) : WS := wsA (wLc (wiR1 (wCons (wOp addD (wB (wC (.int 1))) (wB (wCallF S_law_take Ex (wBc (wN 0) (wBc (wB (wC (.int 10))) (wBn)))))) (wNil))) (gi1 (gN 3)) (wYes) (wCallF S_law_take noX (wBc (wN 0) (wBc (wN 1) (wBn)))) [3]) (gN 2)
def w_law_parts_3 (Ex : XD) : WS := wsA (wOp mulD (wB (wLst (wCons (wOp ixD (wN 2) (wB (wC (.int 0)))) (wNil)))) (wB (wCall (c1 lenF) (wBc (wN 2) (wBn))))) (gN 2)
def w_law_parts_2 (Ex : XD) : WS := wsI (wT (wOp eqD (wB (wCallF S_law_take Ex (wBc (wN 0) (wBc (wB (wC (.int 3))) (wBn))))) (wB (wC (.int 0))))) (w_law_parts_3 Ex) (wsN)
def w_law_parts_5 (Ex : XD) : WS := wsA (wOp addD (wB (wC (.int 1))) (wB (wCallF S_law_take Ex (wBc (wN 0) (wBc (wB (wC (.int 1000))) (wBn)))))) (gSn 2 (wCallF S_law_take Ex (wBc (wN 0) (wBc (wB (wCall (c1 lenF) (wBc (wN 2) (wBn)))) (wBn)))))
def w_law_parts_4 (Ex : XD) : WS := wsI (wT (wOp eqD (wB (wCall (c1 sumF) (wBc (wN 2) (wBn)))) (wB (wC (.int 0))))) (w_law_parts_5 Ex) (wsN)
def w_law_parts_6 (Ex : XD) : WS := wsR (wCall (c1 tupF) (wBc (wN 2) (wBn)))
def w_law_parts (Ex : XD) : WS := wsS (w_law_parts_0 Ex) (wsS (w_law_parts_1 Ex) (wsS (w_law_parts_2 Ex) (wsS (w_law_parts_4 Ex) (w_law_parts_6 Ex))))
theorem b_law_parts {P : Program} {w : PySem.World} {K : PySem.W.Frag} {mg : Str → Option Value} {base : Heap} {T : List (Addr × Str)} {f : Addr} (h : Hd mg) (c_law_take : FnC P w K mg base T 2 "_law_take" ["_law_box_here", "_law_count"] S_law_take) (cdv : Value) (A : Around) (outer : List Env) (s : Shared) (H : Hp) (E : XK) (G : Gm) (Ex : XD) (hr : Room 2 (FX P w K mg base N_law_parts "_law_parts" (defScope s_law_parts) f cdv A outer s H E).A) (hgd : (FX P w K mg base N_law_parts "_law_parts" (defScope s_law_parts) f cdv A outer s H E).A.guards = some []) (hcd : PySem.W.codeIn K cdv "_law_parts" = true) (hT : G.T = T) (hn : G.n = N_law_parts.length) (hx : TakesD (FX P w K mg base N_law_parts "_law_parts" (defScope s_law_parts) f cdv A outer s H E) G [true] Ex) : DSs (FX P w K mg base N_law_parts "_law_parts" (defScope s_law_parts) f cdv A outer s H E) G [true] (defBody s_law_parts) (w_law_parts Ex) :=
  dss_cons (show DS _ _ _ _ (w_law_parts_0 Ex) from ds_set sc_law_parts.nd rfl (.inr l_law_parts_1) (de_ix (db_of (de_lst (da_cons (de_int) (da_cons (de_int) (da_cons (de_int) (da_nil)))))) (db_of (k_fn c_law_take SM_law_take hr hgd hx hT (by decide) (gl_of (by kernel_rfl)) m_law_take (dbs_cons (b_v 0 rfl (.inr (.inl l_law_parts_0)) m_law_box_here) (dbs_cons (db_of (de_int)) (dbs_nil)))))) (by rfl) (by rfl) (.inl rfl))
  (dss_cons (show DS _ _ _ _ (w_law_parts_1 Ex) from ds_setLc (own := [("_law_place", 3)]) [true, true, true, false] rfl sc_law_parts.nd rfl l_law_parts_2 (sw_true rfl l_law_parts_2 rfl rfl) (di_range1 (gl_of (by kernel_rfl)) h.n_range (da_cons (e_add (db_of (de_int)) (db_of (k_fn c_law_take SM_law_take hr hgd hx hT (by decide) (gl_of (by kernel_rfl)) m_law_take (dbs_cons (b_v 0 rfl (.inr (.inl l_law_parts_0)) m_law_box_here) (dbs_cons (db_of (de_int)) (dbs_nil)))))) (da_nil))) (blkOk_by (by kernel_rfl)) (by rfl) hn (by decide) (fun _ eT1 en1 _ _ _ _ _ => dgi_one (dg_name sc_law_parts.nd rfl (.inl (by kernel_rfl)) (by rfl) (.inr (by kernel_rfl)))) (fun _ eT1 en1 _ _ _ _ _ => dts_nil) (fun _ eT1 en1 _ _ _ _ _ => k_fn c_law_take SM_law_take hr hgd takes_blk (eT1.trans hT) (by decide) (gl_of (by kernel_rfl)) m_law_take (dbs_cons (b_v 0 rfl (.inr (.inl (by kernel_rfl))) m_law_box_here) (dbs_cons (b_v 1 rfl (.inr (.inl (by kernel_rfl))) m_law_most) (dbs_nil)))))
  (dss_cons (show DS _ _ _ _ (w_law_parts_2 Ex) from ds_if (t_eq (db_of (k_fn c_law_take SM_law_take hr hgd hx hT (by decide) (gl_of (by kernel_rfl)) m_law_take (dbs_cons (b_v 0 rfl (.inr (.inl l_law_parts_0)) m_law_box_here) (dbs_cons (db_of (de_int)) (dbs_nil))))) (db_of (de_int)) hr) (dss_one (show DS _ _ _ _ (w_law_parts_3 Ex) from ds_set sc_law_parts.nd rfl (.inl l_law_parts_2) (e_mul (db_of (de_lst (da_cons (de_ix (b_v 2 rfl (.inl l_law_parts_2) m_law_found) (db_of (de_int))) (da_nil)))) (db_of (k_len (gl_of (by kernel_rfl)) h.n_len (dbs_cons (b_v 2 rfl (.inl l_law_parts_2) m_law_found) (dbs_nil))))) (by rfl) (by rfl) (.inl rfl))) (dss_nil))
  (dss_cons (show DS _ _ _ _ (w_law_parts_4 Ex) from ds_if (t_eq (db_of (k_sum rfl (gl_of (by kernel_rfl)) h.n_sum (dbs_cons (b_v 2 rfl (.inl l_law_parts_2) m_law_found) (dbs_nil)))) (db_of (de_int)) hr) (dss_one (show DS _ _ _ _ (w_law_parts_5 Ex) from ds_asg (e_add (db_of (de_int)) (db_of (k_fn c_law_take SM_law_take hr hgd hx hT (by decide) (gl_of (by kernel_rfl)) m_law_take (dbs_cons (b_v 0 rfl (.inr (.inl l_law_parts_0)) m_law_box_here) (dbs_cons (db_of (de_int)) (dbs_nil)))))) (dg_subN rfl (.inl l_law_parts_2) m_law_found (k_fn c_law_take SM_law_take hr hgd hx hT (by decide) (gl_of (by kernel_rfl)) m_law_take (dbs_cons (b_v 0 rfl (.inr (.inl l_law_parts_0)) m_law_box_here) (dbs_cons (db_of (k_len (gl_of (by kernel_rfl)) h.n_len (dbs_cons (b_v 2 rfl (.inl l_law_parts_2) m_law_found) (dbs_nil)))) (dbs_nil))))))) (dss_nil))
  (dss_one (show DS _ _ _ _ (w_law_parts_6 Ex) from ds_ret (k_tuple (gl_of (by kernel_rfl)) h.n_tuple (dbs_cons (b_v 2 rfl (.inl l_law_parts_2) m_law_found) (dbs_nil))))))))
def w_law_1 (Ex : XD) : WS := wsA (wCallF S_law_box Ex (wBc (wN 0) (wBc (wN 1) (wBn)))) (gN 2)
def w_law_2 (Ex : XD) : WS := wsA (wCallF S_law_parts Ex (wBc (wN 2) (wBn))) (gN 3)
def w_law_3 (Ex : XD) : WS := wsA (wCall (c1 sumF) (wBc (wN 3) (wBn))) (gN 4)
def w_law_4 (Ex : XD) : WS := wsA (wLst (wCons (wC (.int 0)) (wCons (wC (.int 1)) (wCons (wV 4) (wCons (wOp addD (wN 4) (wB (wC (.int 1)))) (wCons (wOp subD (wN 4) (wB (wC (.int 1)))) (wCons (wC (.int 100000)) (wCons (wCallF S_law_take Ex (wBc (wN 2) (wBc (wB (wC (.int 20))) (wBn)))) (wCons (wCallF S_law_take Ex (wBc (wN 2) (wBc (wB (wC (.int 100001))) (wBn)))) (wNil)))))))))) (gN 5)
def w_law_7 (Ex : XD) : WS := wsR (wC (.bl false))
def w_law_6 (Ex : XD) : WS := wsI (wT (wOp neTx (wB (wCall (c1 reprF) (wBc (wB (wCallF S_shared Ex (wBc (wN 3) (wBc (wN 6) (wBn))))) (wBn)))) (wB (wCall (c1 reprF) (wBc (wB (wCallF S_law_shares Ex (wBc (wN 3) (wBc (wN 6) (wBn))))) (wBn)))))) (w_law_7 Ex) (wsN)
def w_law_5 (Ex : XD) : WS := wsF (wiS (wOp addD (wB (wV 5)) (wB (wBack (wN 5))))) (gi1 (gN 6)) (w_law_6 Ex)
def w_law_8 (Ex : XD) : WS := wsA (wLst (wCons (wTup (wNil)) (wCons (wTup (wCons (wC (.int 0)) (wNil))) (wCons (wOp mulD (wB (wTup (wCons (wC (.int 0)) (wNil)))) (wB (wC (.int 10)))) (wCons (wOp mulD (wB (wTup (wCons (wC (.int 1)) (wNil)))) (wB (wC (.int 11)))) (wCons (wCall (c1 listF) (wBc (wN 3) (wBn))) (wCons (wOp addD (wB (wSl (wN 3) (wNo) (wSo (wNeg (wC (.int 1)))))) (wB (wTup (wCons (wC (.int 1001)) (wNil))))) (wCons (wOp addD (wB (wTup (wCons (wNeg (wC (.int 1))) (wNil)))) (wB (wSl (wN 3) (wSo (wC (.int 1))) (wNo)))) (wNil))))))))) (gN 7)
def w_law_12 (Ex : XD) : WS := wsR (wC (.bl false))
def w_law_11 (Ex : XD) : WS := wsI (wT (wOp neD (wB (wKind ok_law_kind (fun Ex => wCallF S_shared Ex (wBc (wN 8) (wBc (wN 6) (wBn)))))) (wB (wC (.str "fronts"))))) (w_law_12 Ex) (wsN)
def w_law_10 (Ex : XD) : WS := wsF (wiS (wLst (wCons (wC (.int 5)) (wCons (wNeg (wC (.int 1))) (wCons (wC .non) (wNil)))))) (gi1 (gN 6)) (w_law_11 Ex)
def w_law_9 (Ex : XD) : WS := wsF (wiS (wOp addD (wN 7) (wB (wLst (wCons (wOp addD (wB (wTup (wCons (wC (.bl true)) (wNil)))) (wB (wSl (wN 3) (wSo (wC (.int 1))) (wNo)))) (wCons (wC .non) (wCons (wC (.str "")) (wCons (wC (.int 1)) (wCons (wDct0) (wCons (wTup (wCons (wC .non) (wNil))) (wCons (wOp addD (wB (wSl (wN 3) (wNo) (wSo (wNeg (wC (.int 1)))))) (wB (wTup (wCons (wC (.str "1")) (wNil))))) (wNil)))))))))))) (gi1 (gN 8)) (w_law_10 Ex)
def w_law_15 (Ex : XD) : WS := wsR (wC (.bl false))
def w_law_14 (Ex : XD) : WS := wsI (wT (wOp neD (wB (wKind ok_law_kind (fun Ex => wCallF S_shared Ex (wBc (wN 3) (wBc (wN 6) (wBn)))))) (wB (wC (.str "number"))))) (w_law_15 Ex) (wsN)
def w_law_13 (Ex : XD) : WS := wsF (wiS (wLst (wCons (wNeg (wC (.int 1))) (wCons (wC (.int 100001)) (wCons (wOp powD (wB (wC (.int 10))) (wB (wC (.int 19)))) (wCons (wC (.bl true)) (wCons (wC .non) (wCons (wC (.str "1")) (wCons (wTup (wCons (wC (.int 1)) (wNil))) (wNil)))))))))) (gi1 (gN 6)) (w_law_14 Ex)
def w_law_0 (Ex : XD) : WS := wsF (wiR1 (wCons (wCall (c2 max2F) (wBc (wB (wC (.int 1))) (wBc (wB (wCall (c2 min2F) (wBc (wB (wCall (c1 lenF) (wBc (wN 0) (wBn)))) (wBc (wB (wC (.int 5))) (wBn))))) (wBn)))) (wNil))) (gi1 (gN 1)) (wsS (w_law_1 Ex) (wsS (w_law_2 Ex) (wsS (w_law_3 Ex) (wsS (w_law_4 Ex) (wsS (w_law_5 Ex) (wsS (w_law_8 Ex) (wsS (w_law_9 Ex) (w_law_13 Ex))))))))
def w_law_16 (Ex : XD) : WS := wsR (wC (.bl true))
def w_law (Ex : XD) : WS := wsS (w_law_0 Ex) (w_law_16 Ex)
theorem b_law {P : Program} {w : PySem.World} {K : PySem.W.Frag} {mg : Str → Option Value} {base : Heap} {T : List (Addr × Str)} {f : Addr} (h : Hd mg) (c_law_box : FnC P w K mg base T 1 "_law_box" ["_law_script", "_law_k"] S_law_box) (c_law_parts : FnC P w K mg base T 3 "_law_parts" ["_law_box_here"] S_law_parts) (c_law_shares : FnC P w K mg base T 1 "_law_shares" ["_law_parts_here", "_law_many"] S_law_shares) (c_law_take : FnC P w K mg base T 2 "_law_take" ["_law_box_here", "_law_count"] S_law_take) (c_shared : FnC P w K mg base T 2 "shared" ["parts", "many"] S_shared) (cK : KindC P w K mg base T "_law_kind" ok_law_kind) (cdv : Value) (cM : ∀ A outer s H E, LamM base mg T cdv (FX P w K mg base N_law "law" (defScope s_law) f cdv A outer s H E).env.qual) (A : Around) (outer : List Env) (s : Shared) (H : Hp) (E : XK) (G : Gm) (Ex : XD) (hr : Room 5 (FX P w K mg base N_law "law" (defScope s_law) f cdv A outer s H E).A) (hgd : (FX P w K mg base N_law "law" (defScope s_law) f cdv A outer s H E).A.guards = some []) (hcd : PySem.W.codeIn K cdv "law" = true) (hT : G.T = T) (hn : G.n = N_law.length) (hx : TakesD (FX P w K mg base N_law "law" (defScope s_law) f cdv A outer s H E) G [true] Ex) : DSs (FX P w K mg base N_law "law" (defScope s_law) f cdv A outer s H E) G [true] (defBody s_law) (w_law Ex) :=
  dss_cons (show DS _ _ _ _ (w_law_0 Ex) from ds_for (passes_of rfl) rfl (di_range1 (gl_of (by kernel_rfl)) h.n_range (da_cons (k_max2 rfl (gl_of (by kernel_rfl)) h.n_max (dbs_cons (db_of (de_int)) (dbs_cons (db_of (k_min2 rfl (gl_of (by kernel_rfl)) h.n_min (dbs_cons (db_of (k_len (gl_of (by kernel_rfl)) h.n_len (dbs_cons (b_v 0 rfl (.inl l_law_0) m_law_script) (dbs_nil)))) (dbs_cons (db_of (de_int)) (dbs_nil))))) (dbs_nil)))) (da_nil))) (dgi_one (dg_name sc_law.nd rfl (.inl l_law_1) (by rfl) (.inl rfl))) (dss_cons (show DS _ _ _ _ (w_law_1 Ex) from ds_set sc_law.nd rfl (.inl l_law_2) (k_fn c_law_box SM_law_box hr hgd hx hT (by decide) (gl_of (by kernel_rfl)) m_law_box (dbs_cons (b_v 0 rfl (.inl l_law_0) m_law_script) (dbs_cons (b_v 1 rfl (.inl l_law_1) m_law_k) (dbs_nil)))) (by rfl) (by rfl) (.inl rfl))
  (dss_cons (show DS _ _ _ _ (w_law_2 Ex) from ds_set sc_law.nd rfl (.inr l_law_3) (k_fn c_law_parts SM_law_parts hr hgd hx hT (by decide) (gl_of (by kernel_rfl)) m_law_parts (dbs_cons (b_v 2 rfl (.inl l_law_2) m_law_box_here) (dbs_nil))) (by rfl) (by rfl) (.inl rfl))
  (dss_cons (show DS _ _ _ _ (w_law_3 Ex) from ds_set sc_law.nd rfl (.inl l_law_4) (k_sum rfl (gl_of (by kernel_rfl)) h.n_sum (dbs_cons (b_v 3 rfl (.inr (.inl l_law_3)) m_law_parts_here) (dbs_nil))) (by rfl) (by rfl) (.inl rfl))
  (dss_cons (show DS _ _ _ _ (w_law_4 Ex) from ds_set sc_law.nd rfl (.inl l_law_5) (de_lst (da_cons (de_int) (da_cons (de_int) (da_cons (e_v 4 rfl (.inl l_law_4) m_law_total) (da_cons (e_add (b_v 4 rfl (.inl l_law_4) m_law_total) (db_of (de_int))) (da_cons (e_sub (b_v 4 rfl (.inl l_law_4) m_law_total) (db_of (de_int))) (da_cons (de_int) (da_cons (k_fn c_law_take SM_law_take hr hgd hx hT (by decide) (gl_of (by kernel_rfl)) m_law_take (dbs_cons (b_v 2 rfl (.inl l_law_2) m_law_box_here) (dbs_cons (db_of (de_int)) (dbs_nil)))) (da_cons (k_fn c_law_take SM_law_take hr hgd hx hT (by decide) (gl_of (by kernel_rfl)) m_law_take (dbs_cons (b_v 2 rfl (.inl l_law_2) m_law_box_here) (dbs_cons (db_of (de_int)) (dbs_nil)))) (da_nil)))))))))) (by rfl) (by rfl) (.inl rfl))
  (dss_cons (show DS _ _ _ _ (w_law_5 Ex) from ds_for (passes_of rfl) rfl (di_seq (e_add (db_of (e_v 5 rfl (.inl l_law_5) m_law_some)) (db_of (de_back (b_v 5 rfl (.inl l_law_5) m_law_some))))) (dgi_one (dg_name sc_law.nd rfl (.inr l_law_6) (by rfl) (.inl rfl))) (dss_one (show DS _ _ _ _ (w_law_6 Ex) from ds_if (t_neT (db_of (k_repr hr hgd (gl_of (by kernel_rfl)) h.n_repr (dbs_cons (db_of (k_fn c_shared SM_shared hr hgd hx hT (by decide) (gl_of (by kernel_rfl)) m_shared (dbs_cons (b_v 3 rfl (.inr (.inl l_law_3)) m_law_parts_here) (dbs_cons (b_v 6 rfl (.inr (.inl l_law_6)) m_law_many) (dbs_nil))))) (dbs_nil)))) (db_of (k_repr hr hgd (gl_of (by kernel_rfl)) h.n_repr (dbs_cons (db_of (k_fn c_law_shares SM_law_shares hr hgd hx hT (by decide) (gl_of (by kernel_rfl)) m_law_shares (dbs_cons (b_v 3 rfl (.inr (.inl l_law_3)) m_law_parts_here) (dbs_cons (b_v 6 rfl (.inr (.inl l_law_6)) m_law_many) (dbs_nil))))) (dbs_nil)))) hr) (dss_one (show DS _ _ _ _ (w_law_7 Ex) from ds_ret (de_bl))) (dss_nil))))
  (dss_cons (show DS _ _ _ _ (w_law_8 Ex) from ds_set sc_law.nd rfl (.inl l_law_7) (de_lst (da_cons (de_tup (da_nil)) (da_cons (de_tup (da_cons (de_int) (da_nil))) (da_cons (e_mul (db_of (de_tup (da_cons (de_int) (da_nil)))) (db_of (de_int))) (da_cons (e_mul (db_of (de_tup (da_cons (de_int) (da_nil)))) (db_of (de_int))) (da_cons (k_list (gl_of (by kernel_rfl)) h.n_list (dbs_cons (b_v 3 rfl (.inr (.inl l_law_3)) m_law_parts_here) (dbs_nil))) (da_cons (e_add (db_of (de_sl (b_v 3 rfl (.inr (.inl l_law_3)) m_law_parts_here) (do_none) (do_some (de_neg (de_int))))) (db_of (de_tup (da_cons (de_int) (da_nil))))) (da_cons (e_add (db_of (de_tup (da_cons (de_neg (de_int)) (da_nil)))) (db_of (de_sl (b_v 3 rfl (.inr (.inl l_law_3)) m_law_parts_here) (do_some (de_int)) (do_none)))) (da_nil))))))))) (by rfl) (by rfl) (.inl rfl))
  (dss_cons (show DS _ _ _ _ (w_law_9 Ex) from ds_for (passes_of rfl) rfl (di_seq (e_add (b_v 7 rfl (.inl l_law_7) m_law_bad) (db_of (de_lst (da_cons (e_add (db_of (de_tup (da_cons (de_bl) (da_nil)))) (db_of (de_sl (b_v 3 rfl (.inr (.inl l_law_3)) m_law_parts_here) (do_some (de_int)) (do_none)))) (da_cons (de_non) (da_cons (de_str) (da_cons (de_int) (da_cons (de_dnew) (da_cons (de_tup (da_cons (de_non) (da_nil))) (da_cons (e_add (db_of (de_sl (b_v 3 rfl (.inr (.inl l_law_3)) m_law_parts_here) (do_none) (do_some (de_neg (de_int))))) (db_of (de_tup (da_cons (de_str) (da_nil))))) (da_nil)))))))))))) (dgi_one (dg_name sc_law.nd rfl (.inr l_law_8) (by rfl) (.inl rfl))) (dss_one (show DS _ _ _ _ (w_law_10 Ex) from ds_for (passes_of rfl) rfl (di_seq (de_lst (da_cons (de_int) (da_cons (de_neg (de_int)) (da_cons (de_non) (da_nil)))))) (dgi_one (dg_name sc_law.nd rfl (.inr l_law_6) (by rfl) (.inl rfl))) (dss_one (show DS _ _ _ _ (w_law_11 Ex) from ds_if (t_ne (db_of (de_kindF cK (cM A outer s H E) c_shared SM_shared hr (by decide) hgd hT hn (gl_of (by kernel_rfl)) m_law_kind (LamX.lamS_by (by kernel_rfl)) (by rfl) (fun _ _ _ _ _ => by first | rfl | kernel_rfl) (fun _ _ _ _ _ _ _ => gl_of (by kernel_rfl)) m_shared (fun _ _ _ _ _ _ _ _ _ => dbs_cons (b_v 8 rfl (.inr (.inr (by kernel_rfl))) m_law_thing) (dbs_cons (b_v 6 rfl (.inr (.inr (by kernel_rfl))) m_law_many) (dbs_nil))))) (db_of (de_str)) hr) (dss_one (show DS _ _ _ _ (w_law_12 Ex) from ds_ret (de_bl))) (dss_nil))))))
  (dss_one (show DS _ _ _ _ (w_law_13 Ex) from ds_for (passes_of rfl) rfl (di_seq (de_lst (da_cons (de_neg (de_int)) (da_cons (de_int) (da_cons (e_pow (db_of (de_int)) (db_of (de_int))) (da_cons (de_bl) (da_cons (de_non) (da_cons (de_str) (da_cons (de_tup (da_cons (de_int) (da_nil))) (da_nil)))))))))) (dgi_one (dg_name sc_law.nd rfl (.inr l_law_6) (by rfl) (.inl rfl))) (dss_one (show DS _ _ _ _ (w_law_14 Ex) from ds_if (t_ne (db_of (de_kindF cK (cM A outer s H E) c_shared SM_shared hr (by decide) hgd hT hn (gl_of (by kernel_rfl)) m_law_kind (LamX.lamS_by (by kernel_rfl)) (by rfl) (fun _ _ _ _ _ => by first | rfl | kernel_rfl) (fun _ _ _ _ _ _ _ => gl_of (by kernel_rfl)) m_shared (fun _ _ _ _ _ _ _ _ _ => dbs_cons (b_v 3 rfl (.inr (.inr (by kernel_rfl))) m_law_parts_here) (dbs_cons (b_v 6 rfl (.inr (.inr (by kernel_rfl))) m_law_many) (dbs_nil))))) (db_of (de_str)) hr) (dss_one (show DS _ _ _ _ (w_law_15 Ex) from ds_ret (de_bl))) (dss_nil)))))))))))))
  (dss_one (show DS _ _ _ _ (w_law_16 Ex) from ds_ret (de_bl)))
end K07

namespace K07
open PySem PySem.Spec PyProof.Rows L2 Bd
theorem r_is_whole : Tells S_is_whole [true, true, true] 0 w_is_whole := by
  rintro ds Q E ⟨d, lo, hi, rfl, h1, h2⟩
  show w_is_whole _ _ [d, .int lo, .int hi]
  unfold w_is_whole w_is_whole_0
  cases d
  case gone => cases h1
  case opq => cases h1
  case int i =>
    simp only [wsR, wsX, wsA, wsI, wsN, wsRN, wsBk, wsCt, wsP, wsS, wsF, wsW, wAndV, wOrV, wNotV, wIf, wNeg, wCall, wBc, wBn, wCons, wNil, wTup, wLst, wOp, wCh, Bd.wT, wTr, wMn, wMe, wMe0, apF, popF, mtD, wPm, isTupD, cntF, ssF, lsF, wPA, wPC, reprF, wIxN, wLcN, wiZN, wsP3, wDct0, frzs_enc2, solids_enc2, solid_enc2, wBack, backD, intF, minPF, wAnd, wOr, Bd.wNot, wYes, wSl, wSo, wNo, wN_eq, wV_eq, wM_eq, getD0, getDs, nB_non, nB_bl, nB_int, nB_str, nB_opq, nB_own, nB_shr, nB_con, nB_down, nB_dshr, nB_dcon, nB_tup, nE_non, nE_bl, nE_int, nE_str, nE_opq, nE_own, nE_shr, nE_con, nE_down, nE_dshr, nE_dcon, nE_tup, nM_non, nM_bl, nM_int, nM_str, nM_opq, nM_own, nM_shr, nM_con, nM_down, nM_dshr, nM_dcon, nM_tup, wB, wC, c1, c2, isiF, lenF, sumF, maxF, minF, max2F, min2F, absF, divF, listF, tupF, sortF, allF, anyF, addD, mulD, Bd.intD, intD0, isB, truW, gb, gbs, outs, gN, gi1, gsC, gsN, gT, gS, gSn, evL, takeL, wBL, th_lst, th_dct, th_tup, th_int, th_bl, th_str, th_non, th_opq, setD, ixD, slD, isD, wCallF, wLc, wiS, wiZ, wiE, wiR1, wiR2, wiR3, seqQ, solids, D.solid, ints_solid, ints_frz, frzs, D.frz, List.set_cons_zero, List.set_cons_succ, if_true, if_false, Bool.false_eq_true, true_and, and_true, ite_true, ite_false, List.cons_append, List.nil_append, wipeD, reduceIte, List.length_cons, List.length_nil, reduceCtorEq, tyN_bool, tyN_int, tyN_str, tyN_tuple, tyN_list, tyN_dict, tyS_non, tyS_bl, tyS_int, tyS_str, tyS_tup, tyS_lst, tyS_dct, isi_non_bool, isi_non_int, isi_non_str, isi_non_tuple, isi_non_list, isi_non_dict, isi_bl_bool, isi_bl_int, isi_bl_str, isi_bl_tuple, isi_bl_list, isi_bl_dict, isi_int_bool, isi_int_int, isi_int_str, isi_int_tuple, isi_int_list, isi_int_dict, isi_str_bool, isi_str_int, isi_str_str, isi_str_tuple, isi_str_list, isi_str_dict, isi_tup_bool, isi_tup_int, isi_tup_str, isi_tup_tuple, isi_tup_list, isi_tup_dict, isi_lst_bool, isi_lst_int, isi_lst_str, isi_lst_tuple, isi_lst_list, isi_lst_dict, isi_dct_bool, isi_dct_int, isi_dct_str, isi_dct_tuple, isi_dct_list, isi_dct_dict, List.length_map, Bool.not_true, Bool.not_false, eqD, neD, eqTx, neTx, dec_if, dec_ifn, Bool.not_not, at0, at1, at2, ix0, ix1, ix2, Bd.ints_map, Bd.bls_map, Option.some.injEq, exists_eq_left', memD_lst, memD_tup, memD_str, isIn_nil, isIn_cons, isIn_ints, scal_int, scal_str, scal_bl, scal_non, scals_nil, scals_cons, scals_ints, shp_l1i, shp_l2i, shp_l3i, shp_t1i, shp_t2i, shp_t3i, dec_or, dec_orf, Bool.and_self, shp_non, shp_bl, shp_int, shp_tints, shp_lints, shp_tnil, shp_lnil, eqd_int, eqd_str, eqd_bl, eqd_non, eqd_tints, eqd_lints, eqd_lnil, eqd_tnil, shp_lenc, shp_tenc, List.map_eq_nil_iff]
    simp only [isWhole] at h2
    by_cases h : lo ≤ i
    · simp only [h, decide_true, if_true, Bool.true_and] at h2 ⊢; exact h2
    · simp only [h, decide_false, Bool.false_eq_true, if_false, Bool.false_and] at h2 ⊢; exact h2
  case lst m es =>
    cases m <;> (simp only [wsR, wsX, wsA, wsI, wsN, wsRN, wsBk, wsCt, wsP, wsS, wsF, wsW, wAndV, wOrV, wNotV, wIf, wNeg, wCall, wBc, wBn, wCons, wNil, wTup, wLst, wOp, wCh, Bd.wT, wTr, wMn, wMe, wMe0, apF, popF, mtD, wPm, isTupD, cntF, ssF, lsF, wPA, wPC, reprF, wIxN, wLcN, wiZN, wsP3, wDct0, frzs_enc2, solids_enc2, solid_enc2, wBack, backD, intF, minPF, wAnd, wOr, Bd.wNot, wYes, wSl, wSo, wNo, wN_eq, wV_eq, wM_eq, getD0, getDs, nB_non, nB_bl, nB_int, nB_str, nB_opq, nB_own, nB_shr, nB_con, nB_down, nB_dshr, nB_dcon, nB_tup, nE_non, nE_bl, nE_int, nE_str, nE_opq, nE_own, nE_shr, nE_con, nE_down, nE_dshr, nE_dcon, nE_tup, nM_non, nM_bl, nM_int, nM_str, nM_opq, nM_own, nM_shr, nM_con, nM_down, nM_dshr, nM_dcon, nM_tup, wB, wC, c1, c2, isiF, lenF, sumF, maxF, minF, max2F, min2F, absF, divF, listF, tupF, sortF, allF, anyF, addD, mulD, Bd.intD, intD0, isB, truW, gb, gbs, outs, gN, gi1, gsC, gsN, gT, gS, gSn, evL, takeL, wBL, th_lst, th_dct, th_tup, th_int, th_bl, th_str, th_non, th_opq, setD, ixD, slD, isD, wCallF, wLc, wiS, wiZ, wiE, wiR1, wiR2, wiR3, seqQ, solids, D.solid, ints_solid, ints_frz, frzs, D.frz, List.set_cons_zero, List.set_cons_succ, if_true, if_false, Bool.false_eq_true, true_and, and_true, ite_true, ite_false, List.cons_append, List.nil_append, wipeD, reduceIte, List.length_cons, List.length_nil, reduceCtorEq, tyN_bool, tyN_int, tyN_str, tyN_tuple, tyN_list, tyN_dict, tyS_non, tyS_bl, tyS_int, tyS_str, tyS_tup, tyS_lst, tyS_dct, isi_non_bool, isi_non_int, isi_non_str, isi_non_tuple, isi_non_list, isi_non_dict, isi_bl_bool, isi_bl_int, isi_bl_str, isi_bl_tuple, isi_bl_list, isi_bl_dict, isi_int_bool, isi_int_int, isi_int_str, isi_int_tuple, isi_int_list, isi_int_dict, isi_str_bool, isi_str_int, isi_str_str, isi_str_tuple, isi_str_list, isi_str_dict, isi_tup_bool, isi_tup_int, isi_tup_str, isi_tup_tuple, isi_tup_list, isi_tup_dict, isi_lst_bool, isi_lst_int, isi_lst_str, isi_lst_tuple, isi_lst_list, isi_lst_dict, isi_dct_bool, isi_dct_int, isi_dct_str, isi_dct_tuple, isi_dct_list, isi_dct_dict, List.length_map, Bool.not_true, Bool.not_false, eqD, neD, eqTx, neTx, dec_if, dec_ifn, Bool.not_not, at0, at1, at2, ix0, ix1, ix2, Bd.ints_map, Bd.bls_map, Option.some.injEq, exists_eq_left', memD_lst, memD_tup, memD_str, isIn_nil, isIn_cons, isIn_ints, scal_int, scal_str, scal_bl, scal_non, scals_nil, scals_cons, scals_ints, shp_l1i, shp_l2i, shp_l3i, shp_t1i, shp_t2i, shp_t3i, dec_or, dec_orf, Bool.and_self, shp_non, shp_bl, shp_int, shp_tints, shp_lints, shp_tnil, shp_lnil, eqd_int, eqd_str, eqd_bl, eqd_non, eqd_tints, eqd_lints, eqd_lnil, eqd_tnil, shp_lenc, shp_tenc, List.map_eq_nil_iff]; exact h2)
  case dct m ks es =>
    cases m <;> (simp only [wsR, wsX, wsA, wsI, wsN, wsRN, wsBk, wsCt, wsP, wsS, wsF, wsW, wAndV, wOrV, wNotV, wIf, wNeg, wCall, wBc, wBn, wCons, wNil, wTup, wLst, wOp, wCh, Bd.wT, wTr, wMn, wMe, wMe0, apF, popF, mtD, wPm, isTupD, cntF, ssF, lsF, wPA, wPC, reprF, wIxN, wLcN, wiZN, wsP3, wDct0, frzs_enc2, solids_enc2, solid_enc2, wBack, backD, intF, minPF, wAnd, wOr, Bd.wNot, wYes, wSl, wSo, wNo, wN_eq, wV_eq, wM_eq, getD0, getDs, nB_non, nB_bl, nB_int, nB_str, nB_opq, nB_own, nB_shr, nB_con, nB_down, nB_dshr, nB_dcon, nB_tup, nE_non, nE_bl, nE_int, nE_str, nE_opq, nE_own, nE_shr, nE_con, nE_down, nE_dshr, nE_dcon, nE_tup, nM_non, nM_bl, nM_int, nM_str, nM_opq, nM_own, nM_shr, nM_con, nM_down, nM_dshr, nM_dcon, nM_tup, wB, wC, c1, c2, isiF, lenF, sumF, maxF, minF, max2F, min2F, absF, divF, listF, tupF, sortF, allF, anyF, addD, mulD, Bd.intD, intD0, isB, truW, gb, gbs, outs, gN, gi1, gsC, gsN, gT, gS, gSn, evL, takeL, wBL, th_lst, th_dct, th_tup, th_int, th_bl, th_str, th_non, th_opq, setD, ixD, slD, isD, wCallF, wLc, wiS, wiZ, wiE, wiR1, wiR2, wiR3, seqQ, solids, D.solid, ints_solid, ints_frz, frzs, D.frz, List.set_cons_zero, List.set_cons_succ, if_true, if_false, Bool.false_eq_true, true_and, and_true, ite_true, ite_false, List.cons_append, List.nil_append, wipeD, reduceIte, List.length_cons, List.length_nil, reduceCtorEq, tyN_bool, tyN_int, tyN_str, tyN_tuple, tyN_list, tyN_dict, tyS_non, tyS_bl, tyS_int, tyS_str, tyS_tup, tyS_lst, tyS_dct, isi_non_bool, isi_non_int, isi_non_str, isi_non_tuple, isi_non_list, isi_non_dict, isi_bl_bool, isi_bl_int, isi_bl_str, isi_bl_tuple, isi_bl_list, isi_bl_dict, isi_int_bool, isi_int_int, isi_int_str, isi_int_tuple, isi_int_list, isi_int_dict, isi_str_bool, isi_str_int, isi_str_str, isi_str_tuple, isi_str_list, isi_str_dict, isi_tup_bool, isi_tup_int, isi_tup_str, isi_tup_tuple, isi_tup_list, isi_tup_dict, isi_lst_bool, isi_lst_int, isi_lst_str, isi_lst_tuple, isi_lst_list, isi_lst_dict, isi_dct_bool, isi_dct_int, isi_dct_str, isi_dct_tuple, isi_dct_list, isi_dct_dict, List.length_map, Bool.not_true, Bool.not_false, eqD, neD, eqTx, neTx, dec_if, dec_ifn, Bool.not_not, at0, at1, at2, ix0, ix1, ix2, Bd.ints_map, Bd.bls_map, Option.some.injEq, exists_eq_left', memD_lst, memD_tup, memD_str, isIn_nil, isIn_cons, isIn_ints, scal_int, scal_str, scal_bl, scal_non, scals_nil, scals_cons, scals_ints, shp_l1i, shp_l2i, shp_l3i, shp_t1i, shp_t2i, shp_t3i, dec_or, dec_orf, Bool.and_self, shp_non, shp_bl, shp_int, shp_tints, shp_lints, shp_tnil, shp_lnil, eqd_int, eqd_str, eqd_bl, eqd_non, eqd_tints, eqd_lints, eqd_lnil, eqd_tnil, shp_lenc, shp_tenc, List.map_eq_nil_iff]; exact h2)
  case tup es =>
    simp only [wsR, wAndV, wCall, wBc, wN_eq, getD0, nB_tup]
    cases hs : solids es <;> (simp only [wsR, wsX, wsA, wsI, wsN, wsRN, wsBk, wsCt, wsP, wsS, wsF, wsW, wAndV, wOrV, wNotV, wIf, wNeg, wCall, wBc, wBn, wCons, wNil, wTup, wLst, wOp, wCh, Bd.wT, wTr, wMn, wMe, wMe0, apF, popF, mtD, wPm, isTupD, cntF, ssF, lsF, wPA, wPC, reprF, wIxN, wLcN, wiZN, wsP3, wDct0, frzs_enc2, solids_enc2, solid_enc2, wBack, backD, intF, minPF, wAnd, wOr, Bd.wNot, wYes, wSl, wSo, wNo, wN_eq, wV_eq, wM_eq, getD0, getDs, nB_non, nB_bl, nB_int, nB_str, nB_opq, nB_own, nB_shr, nB_con, nB_down, nB_dshr, nB_dcon, nB_tup, nE_non, nE_bl, nE_int, nE_str, nE_opq, nE_own, nE_shr, nE_con, nE_down, nE_dshr, nE_dcon, nE_tup, nM_non, nM_bl, nM_int, nM_str, nM_opq, nM_own, nM_shr, nM_con, nM_down, nM_dshr, nM_dcon, nM_tup, wB, wC, c1, c2, isiF, lenF, sumF, maxF, minF, max2F, min2F, absF, divF, listF, tupF, sortF, allF, anyF, addD, mulD, Bd.intD, intD0, isB, truW, gb, gbs, outs, gN, gi1, gsC, gsN, gT, gS, gSn, evL, takeL, wBL, th_lst, th_dct, th_tup, th_int, th_bl, th_str, th_non, th_opq, setD, ixD, slD, isD, wCallF, wLc, wiS, wiZ, wiE, wiR1, wiR2, wiR3, seqQ, solids, D.solid, ints_solid, ints_frz, frzs, D.frz, List.set_cons_zero, List.set_cons_succ, if_true, if_false, Bool.false_eq_true, true_and, and_true, ite_true, ite_false, List.cons_append, List.nil_append, wipeD, reduceIte, List.length_cons, List.length_nil, reduceCtorEq, tyN_bool, tyN_int, tyN_str, tyN_tuple, tyN_list, tyN_dict, tyS_non, tyS_bl, tyS_int, tyS_str, tyS_tup, tyS_lst, tyS_dct, isi_non_bool, isi_non_int, isi_non_str, isi_non_tuple, isi_non_list, isi_non_dict, isi_bl_bool, isi_bl_int, isi_bl_str, isi_bl_tuple, isi_bl_list, isi_bl_dict, isi_int_bool, isi_int_int, isi_int_str, isi_int_tuple, isi_int_list, isi_int_dict, isi_str_bool, isi_str_int, isi_str_str, isi_str_tuple, isi_str_list, isi_str_dict, isi_tup_bool, isi_tup_int, isi_tup_str, isi_tup_tuple, isi_tup_list, isi_tup_dict, isi_lst_bool, isi_lst_int, isi_lst_str, isi_lst_tuple, isi_lst_list, isi_lst_dict, isi_dct_bool, isi_dct_int, isi_dct_str, isi_dct_tuple, isi_dct_list, isi_dct_dict, List.length_map, Bool.not_true, Bool.not_false, eqD, neD, eqTx, neTx, dec_if, dec_ifn, Bool.not_not, at0, at1, at2, ix0, ix1, ix2, Bd.ints_map, Bd.bls_map, Option.some.injEq, exists_eq_left', memD_lst, memD_tup, memD_str, isIn_nil, isIn_cons, isIn_ints, scal_int, scal_str, scal_bl, scal_non, scals_nil, scals_cons, scals_ints, shp_l1i, shp_l2i, shp_l3i, shp_t1i, shp_t2i, shp_t3i, dec_or, dec_orf, Bool.and_self, shp_non, shp_bl, shp_int, shp_tints, shp_lints, shp_tnil, shp_lnil, eqd_int, eqd_str, eqd_bl, eqd_non, eqd_tints, eqd_lints, eqd_lnil, eqd_tnil, shp_lenc, shp_tenc, List.map_eq_nil_iff]; exact h2)
  all_goals (simp only [wsR, wsX, wsA, wsI, wsN, wsRN, wsBk, wsCt, wsP, wsS, wsF, wsW, wAndV, wOrV, wNotV, wIf, wNeg, wCall, wBc, wBn, wCons, wNil, wTup, wLst, wOp, wCh, Bd.wT, wTr, wMn, wMe, wMe0, apF, popF, mtD, wPm, isTupD, cntF, ssF, lsF, wPA, wPC, reprF, wIxN, wLcN, wiZN, wsP3, wDct0, frzs_enc2, solids_enc2, solid_enc2, wBack, backD, intF, minPF, wAnd, wOr, Bd.wNot, wYes, wSl, wSo, wNo, wN_eq, wV_eq, wM_eq, getD0, getDs, nB_non, nB_bl, nB_int, nB_str, nB_opq, nB_own, nB_shr, nB_con, nB_down, nB_dshr, nB_dcon, nB_tup, nE_non, nE_bl, nE_int, nE_str, nE_opq, nE_own, nE_shr, nE_con, nE_down, nE_dshr, nE_dcon, nE_tup, nM_non, nM_bl, nM_int, nM_str, nM_opq, nM_own, nM_shr, nM_con, nM_down, nM_dshr, nM_dcon, nM_tup, wB, wC, c1, c2, isiF, lenF, sumF, maxF, minF, max2F, min2F, absF, divF, listF, tupF, sortF, allF, anyF, addD, mulD, Bd.intD, intD0, isB, truW, gb, gbs, outs, gN, gi1, gsC, gsN, gT, gS, gSn, evL, takeL, wBL, th_lst, th_dct, th_tup, th_int, th_bl, th_str, th_non, th_opq, setD, ixD, slD, isD, wCallF, wLc, wiS, wiZ, wiE, wiR1, wiR2, wiR3, seqQ, solids, D.solid, ints_solid, ints_frz, frzs, D.frz, List.set_cons_zero, List.set_cons_succ, if_true, if_false, Bool.false_eq_true, true_and, and_true, ite_true, ite_false, List.cons_append, List.nil_append, wipeD, reduceIte, List.length_cons, List.length_nil, reduceCtorEq, tyN_bool, tyN_int, tyN_str, tyN_tuple, tyN_list, tyN_dict, tyS_non, tyS_bl, tyS_int, tyS_str, tyS_tup, tyS_lst, tyS_dct, isi_non_bool, isi_non_int, isi_non_str, isi_non_tuple, isi_non_list, isi_non_dict, isi_bl_bool, isi_bl_int, isi_bl_str, isi_bl_tuple, isi_bl_list, isi_bl_dict, isi_int_bool, isi_int_int, isi_int_str, isi_int_tuple, isi_int_list, isi_int_dict, isi_str_bool, isi_str_int, isi_str_str, isi_str_tuple, isi_str_list, isi_str_dict, isi_tup_bool, isi_tup_int, isi_tup_str, isi_tup_tuple, isi_tup_list, isi_tup_dict, isi_lst_bool, isi_lst_int, isi_lst_str, isi_lst_tuple, isi_lst_list, isi_lst_dict, isi_dct_bool, isi_dct_int, isi_dct_str, isi_dct_tuple, isi_dct_list, isi_dct_dict, List.length_map, Bool.not_true, Bool.not_false, eqD, neD, eqTx, neTx, dec_if, dec_ifn, Bool.not_not, at0, at1, at2, ix0, ix1, ix2, Bd.ints_map, Bd.bls_map, Option.some.injEq, exists_eq_left', memD_lst, memD_tup, memD_str, isIn_nil, isIn_cons, isIn_ints, scal_int, scal_str, scal_bl, scal_non, scals_nil, scals_cons, scals_ints, shp_l1i, shp_l2i, shp_l3i, shp_t1i, shp_t2i, shp_t3i, dec_or, dec_orf, Bool.and_self, shp_non, shp_bl, shp_int, shp_tints, shp_lints, shp_tnil, shp_lnil, eqd_int, eqd_str, eqd_bl, eqd_non, eqd_tints, eqd_lints, eqd_lnil, eqd_tnil, shp_lenc, shp_tenc, List.map_eq_nil_iff]; exact h2)
theorem big_step {n x : Int} {i : Nat} (h0 : 0 ≤ n) (h1 : n < 2 ^ (31 * i)) (hx : 0 ≤ x) (hx2 : x < 2147483647) : 0 ≤ n * 2147483647 + x ∧ n * 2147483647 + x < 2 ^ (31 * (i + 1)) := by
  have e : (2 : Int) ^ (31 * (i + 1)) = 2 ^ (31 * i) * 2147483648 := by rw [Nat.mul_add, Int.pow_add]; rfl
  rw [e]
  omega
theorem r_law_box : Tells S_law_box [true, true] 4 w_law_box := by
  rintro ds Q E ⟨ns, k, rfl, h1, h2, h3, h4⟩
  show w_law_box _ _ [.lst .con (ns.map D.int), .int k, .gone, .gone, .gone, .gone]
  generalize (fun (c : Str) (ns : List Int) ρ => E c ns (outs [true, true] ρ)) = Ex
  have rest : ∀ here : Int, wsS (w_law_box_3 Ex) (wsS (w_law_box_5 Ex) (wsS (w_law_box_6 Ex) (w_law_box_10 Ex))) { nx := fun ρ => Q D.non (outs [true, true] ρ), rt := fun d ρ => Q d (outs [true, true] ρ) } [D.lst M.con (List.map D.int ns), D.int k, D.int here, D.gone, D.gone, D.gone] := by
    intro here
    have ab : ∀ x : Int, 0 ≤ (if x < 0 then -x else x) % 2147483647 ∧ (if x < 0 then -x else x) % 2147483647 < 2147483647 := fun x => by split <;> omega
    unfold w_law_box_3
    simp only [wsR, wsX, wsA, wsI, wsN, wsRN, wsBk, wsCt, wsP, wsS, wsF, wsW, wAndV, wOrV, wNotV, wIf, wNeg, wCall, wBc, wBn, wCons, wNil, wTup, wLst, wOp, wCh, Bd.wT, wTr, wMn, wMe, wMe0, apF, popF, mtD, wPm, isTupD, cntF, ssF, lsF, wPA, wPC, reprF, wIxN, wLcN, wiZN, wsP3, wDct0, frzs_enc2, solids_enc2, solid_enc2, wBack, backD, intF, minPF, wAnd, wOr, Bd.wNot, wYes, wSl, wSo, wNo, wN_eq, wV_eq, wM_eq, getD0, getDs, nB_non, nB_bl, nB_int, nB_str, nB_opq, nB_own, nB_shr, nB_con, nB_down, nB_dshr, nB_dcon, nB_tup, nE_non, nE_bl, nE_int, nE_str, nE_opq, nE_own, nE_shr, nE_con, nE_down, nE_dshr, nE_dcon, nE_tup, nM_non, nM_bl, nM_int, nM_str, nM_opq, nM_own, nM_shr, nM_con, nM_down, nM_dshr, nM_dcon, nM_tup, wB, wC, c1, c2, isiF, lenF, sumF, maxF, minF, max2F, min2F, absF, divF, listF, tupF, sortF, allF, anyF, addD, mulD, Bd.intD, intD0, isB, truW, gb, gbs, outs, gN, gi1, gsC, gsN, gT, gS, gSn, evL, takeL, wBL, th_lst, th_dct, th_tup, th_int, th_bl, th_str, th_non, th_opq, setD, ixD, slD, isD, wCallF, wLc, wiS, wiZ, wiE, wiR1, wiR2, wiR3, seqQ, solids, D.solid, ints_solid, ints_frz, frzs, D.frz, List.set_cons_zero, List.set_cons_succ, if_true, if_false, Bool.false_eq_true, true_and, and_true, ite_true, ite_false, List.cons_append, List.nil_append, wipeD, reduceIte, List.length_cons, List.length_nil, reduceCtorEq, tyN_bool, tyN_int, tyN_str, tyN_tuple, tyN_list, tyN_dict, tyS_non, tyS_bl, tyS_int, tyS_str, tyS_tup, tyS_lst, tyS_dct, isi_non_bool, isi_non_int, isi_non_str, isi_non_tuple, isi_non_list, isi_non_dict, isi_bl_bool, isi_bl_int, isi_bl_str, isi_bl_tuple, isi_bl_list, isi_bl_dict, isi_int_bool, isi_int_int, isi_int_str, isi_int_tuple, isi_int_list, isi_int_dict, isi_str_bool, isi_str_int, isi_str_str, isi_str_tuple, isi_str_list, isi_str_dict, isi_tup_bool, isi_tup_int, isi_tup_str, isi_tup_tuple, isi_tup_list, isi_tup_dict, isi_lst_bool, isi_lst_int, isi_lst_str, isi_lst_tuple, isi_lst_list, isi_lst_dict, isi_dct_bool, isi_dct_int, isi_dct_str, isi_dct_tuple, isi_dct_list, isi_dct_dict, List.length_map, Bool.not_true, Bool.not_false, eqD, neD, eqTx, neTx, dec_if, dec_ifn, Bool.not_not, at0, at1, at2, ix0, ix1, ix2, Bd.ints_map, Bd.bls_map, Option.some.injEq, exists_eq_left', memD_lst, memD_tup, memD_str, isIn_nil, isIn_cons, isIn_ints, scal_int, scal_str, scal_bl, scal_non, scals_nil, scals_cons, scals_ints, shp_l1i, shp_l2i, shp_l3i, shp_t1i, shp_t2i, shp_t3i, dec_or, dec_orf, Bool.and_self, shp_non, shp_bl, shp_int, shp_tints, shp_lints, shp_tnil, shp_lnil, eqd_int, eqd_str, eqd_bl, eqd_non, eqd_tints, eqd_lints, eqd_lnil, eqd_tnil, shp_lenc, shp_tenc, List.map_eq_nil_iff]
    refine ⟨by decide, ?_⟩
    by_cases e : here % 2 = 0
    · rw [if_pos e]
      unfold w_law_box_4
      simp only [wsR, wsX, wsA, wsI, wsN, wsRN, wsBk, wsCt, wsP, wsS, wsF, wsW, wAndV, wOrV, wNotV, wIf, wNeg, wCall, wBc, wBn, wCons, wNil, wTup, wLst, wOp, wCh, Bd.wT, wTr, wMn, wMe, wMe0, apF, popF, mtD, wPm, isTupD, cntF, ssF, lsF, wPA, wPC, reprF, wIxN, wLcN, wiZN, wsP3, wDct0, frzs_enc2, solids_enc2, solid_enc2, wBack, backD, intF, minPF, wAnd, wOr, Bd.wNot, wYes, wSl, wSo, wNo, wN_eq, wV_eq, wM_eq, getD0, getDs, nB_non, nB_bl, nB_int, nB_str, nB_opq, nB_own, nB_shr, nB_con, nB_down, nB_dshr, nB_dcon, nB_tup, nE_non, nE_bl, nE_int, nE_str, nE_opq, nE_own, nE_shr, nE_con, nE_down, nE_dshr, nE_dcon, nE_tup, nM_non, nM_bl, nM_int, nM_str, nM_opq, nM_own, nM_shr, nM_con, nM_down, nM_dshr, nM_dcon, nM_tup, wB, wC, c1, c2, isiF, lenF, sumF, maxF, minF, max2F, min2F, absF, divF, listF, tupF, sortF, allF, anyF, addD, mulD, Bd.intD, intD0, isB, truW, gb, gbs, outs, gN, gi1, gsC, gsN, gT, gS, gSn, evL, takeL, wBL, th_lst, th_dct, th_tup, th_int, th_bl, th_str, th_non, th_opq, setD, ixD, slD, isD, wCallF, wLc, wiS, wiZ, wiE, wiR1, wiR2, wiR3, seqQ, solids, D.solid, ints_solid, ints_frz, frzs, D.frz, List.set_cons_zero, List.set_cons_succ, if_true, if_false, Bool.false_eq_true, true_and, and_true, ite_true, ite_false, List.cons_append, List.nil_append, wipeD, reduceIte, List.length_cons, List.length_nil, reduceCtorEq, tyN_bool, tyN_int, tyN_str, tyN_tuple, tyN_list, tyN_dict, tyS_non, tyS_bl, tyS_int, tyS_str, tyS_tup, tyS_lst, tyS_dct, isi_non_bool, isi_non_int, isi_non_str, isi_non_tuple, isi_non_list, isi_non_dict, isi_bl_bool, isi_bl_int, isi_bl_str, isi_bl_tuple, isi_bl_list, isi_bl_dict, isi_int_bool, isi_int_int, isi_int_str, isi_int_tuple, isi_int_list, isi_int_dict, isi_str_bool, isi_str_int, isi_str_str, isi_str_tuple, isi_str_list, isi_str_dict, isi_tup_bool, isi_tup_int, isi_tup_str, isi_tup_tuple, isi_tup_list, isi_tup_dict, isi_lst_bool, isi_lst_int, isi_lst_str, isi_lst_tuple, isi_lst_list, isi_lst_dict, isi_dct_bool, isi_dct_int, isi_dct_str, isi_dct_tuple, isi_dct_list, isi_dct_dict, List.length_map, Bool.not_true, Bool.not_false, eqD, neD, eqTx, neTx, dec_if, dec_ifn, Bool.not_not, at0, at1, at2, ix0, ix1, ix2, Bd.ints_map, Bd.bls_map, Option.some.injEq, exists_eq_left', memD_lst, memD_tup, memD_str, isIn_nil, isIn_cons, isIn_ints, scal_int, scal_str, scal_bl, scal_non, scals_nil, scals_cons, scals_ints, shp_l1i, shp_l2i, shp_l3i, shp_t1i, shp_t2i, shp_t3i, dec_or, dec_orf, Bool.and_self, shp_non, shp_bl, shp_int, shp_tints, shp_lints, shp_tnil, shp_lnil, eqd_int, eqd_str, eqd_bl, eqd_non, eqd_tints, eqd_lints, eqd_lnil, eqd_tnil, shp_lenc, shp_tenc, List.map_eq_nil_iff]
      refine ⟨divW 10 (by decide) (by decide) (by decide), by decide, by decide, ?_⟩
      exact h4 _ _ (ab here)
    · rw [if_neg e]
      unfold w_law_box_5
      simp only [wsR, wsX, wsA, wsI, wsN, wsRN, wsBk, wsCt, wsP, wsS, wsF, wsW, wAndV, wOrV, wNotV, wIf, wNeg, wCall, wBc, wBn, wCons, wNil, wTup, wLst, wOp, wCh, Bd.wT, wTr, wMn, wMe, wMe0, apF, popF, mtD, wPm, isTupD, cntF, ssF, lsF, wPA, wPC, reprF, wIxN, wLcN, wiZN, wsP3, wDct0, frzs_enc2, solids_enc2, solid_enc2, wBack, backD, intF, minPF, wAnd, wOr, Bd.wNot, wYes, wSl, wSo, wNo, wN_eq, wV_eq, wM_eq, getD0, getDs, nB_non, nB_bl, nB_int, nB_str, nB_opq, nB_own, nB_shr, nB_con, nB_down, nB_dshr, nB_dcon, nB_tup, nE_non, nE_bl, nE_int, nE_str, nE_opq, nE_own, nE_shr, nE_con, nE_down, nE_dshr, nE_dcon, nE_tup, nM_non, nM_bl, nM_int, nM_str, nM_opq, nM_own, nM_shr, nM_con, nM_down, nM_dshr, nM_dcon, nM_tup, wB, wC, c1, c2, isiF, lenF, sumF, maxF, minF, max2F, min2F, absF, divF, listF, tupF, sortF, allF, anyF, addD, mulD, Bd.intD, intD0, isB, truW, gb, gbs, outs, gN, gi1, gsC, gsN, gT, gS, gSn, evL, takeL, wBL, th_lst, th_dct, th_tup, th_int, th_bl, th_str, th_non, th_opq, setD, ixD, slD, isD, wCallF, wLc, wiS, wiZ, wiE, wiR1, wiR2, wiR3, seqQ, solids, D.solid, ints_solid, ints_frz, frzs, D.frz, List.set_cons_zero, List.set_cons_succ, if_true, if_false, Bool.false_eq_true, true_and, and_true, ite_true, ite_false, List.cons_append, List.nil_append, wipeD, reduceIte, List.length_cons, List.length_nil, reduceCtorEq, tyN_bool, tyN_int, tyN_str, tyN_tuple, tyN_list, tyN_dict, tyS_non, tyS_bl, tyS_int, tyS_str, tyS_tup, tyS_lst, tyS_dct, isi_non_bool, isi_non_int, isi_non_str, isi_non_tuple, isi_non_list, isi_non_dict, isi_bl_bool, isi_bl_int, isi_bl_str, isi_bl_tuple, isi_bl_list, isi_bl_dict, isi_int_bool, isi_int_int, isi_int_str, isi_int_tuple, isi_int_list, isi_int_dict, isi_str_bool, isi_str_int, isi_str_str, isi_str_tuple, isi_str_list, isi_str_dict, isi_tup_bool, isi_tup_int, isi_tup_str, isi_tup_tuple, isi_tup_list, isi_tup_dict, isi_lst_bool, isi_lst_int, isi_lst_str, isi_lst_tuple, isi_lst_list, isi_lst_dict, isi_dct_bool, isi_dct_int, isi_dct_str, isi_dct_tuple, isi_dct_list, isi_dct_dict, List.length_map, Bool.not_true, Bool.not_false, eqD, neD, eqTx, neTx, dec_if, dec_ifn, Bool.not_not, at0, at1, at2, ix0, ix1, ix2, Bd.ints_map, Bd.bls_map, Option.some.injEq, exists_eq_left', memD_lst, memD_tup, memD_str, isIn_nil, isIn_cons, isIn_ints, scal_int, scal_str, scal_bl, scal_non, scals_nil, scals_cons, scals_ints, shp_l1i, shp_l2i, shp_l3i, shp_t1i, shp_t2i, shp_t3i, dec_or, dec_orf, Bool.and_self, shp_non, shp_bl, shp_int, shp_tints, shp_lints, shp_tnil, shp_lnil, eqd_int, eqd_str, eqd_bl, eqd_non, eqd_tints, eqd_lints, eqd_lnil, eqd_tnil, shp_lenc, shp_tenc, List.map_eq_nil_iff]
      unfold w_law_box_6
      simp only [wsR, wsX, wsA, wsI, wsN, wsRN, wsBk, wsCt, wsP, wsS, wsF, wsW, wAndV, wOrV, wNotV, wIf, wNeg, wCall, wBc, wBn, wCons, wNil, wTup, wLst, wOp, wCh, Bd.wT, wTr, wMn, wMe, wMe0, apF, popF, mtD, wPm, isTupD, cntF, ssF, lsF, wPA, wPC, reprF, wIxN, wLcN, wiZN, wsP3, wDct0, frzs_enc2, solids_enc2, solid_enc2, wBack, backD, intF, minPF, wAnd, wOr, Bd.wNot, wYes, wSl, wSo, wNo, wN_eq, wV_eq, wM_eq, getD0, getDs, nB_non, nB_bl, nB_int, nB_str, nB_opq, nB_own, nB_shr, nB_con, nB_down, nB_dshr, nB_dcon, nB_tup, nE_non, nE_bl, nE_int, nE_str, nE_opq, nE_own, nE_shr, nE_con, nE_down, nE_dshr, nE_dcon, nE_tup, nM_non, nM_bl, nM_int, nM_str, nM_opq, nM_own, nM_shr, nM_con, nM_down, nM_dshr, nM_dcon, nM_tup, wB, wC, c1, c2, isiF, lenF, sumF, maxF, minF, max2F, min2F, absF, divF, listF, tupF, sortF, allF, anyF, addD, mulD, Bd.intD, intD0, isB, truW, gb, gbs, outs, gN, gi1, gsC, gsN, gT, gS, gSn, evL, takeL, wBL, th_lst, th_dct, th_tup, th_int, th_bl, th_str, th_non, th_opq, setD, ixD, slD, isD, wCallF, wLc, wiS, wiZ, wiE, wiR1, wiR2, wiR3, seqQ, solids, D.solid, ints_solid, ints_frz, frzs, D.frz, List.set_cons_zero, List.set_cons_succ, if_true, if_false, Bool.false_eq_true, true_and, and_true, ite_true, ite_false, List.cons_append, List.nil_append, wipeD, reduceIte, List.length_cons, List.length_nil, reduceCtorEq, tyN_bool, tyN_int, tyN_str, tyN_tuple, tyN_list, tyN_dict, tyS_non, tyS_bl, tyS_int, tyS_str, tyS_tup, tyS_lst, tyS_dct, isi_non_bool, isi_non_int, isi_non_str, isi_non_tuple, isi_non_list, isi_non_dict, isi_bl_bool, isi_bl_int, isi_bl_str, isi_bl_tuple, isi_bl_list, isi_bl_dict, isi_int_bool, isi_int_int, isi_int_str, isi_int_tuple, isi_int_list, isi_int_dict, isi_str_bool, isi_str_int, isi_str_str, isi_str_tuple, isi_str_list, isi_str_dict, isi_tup_bool, isi_tup_int, isi_tup_str, isi_tup_tuple, isi_tup_list, isi_tup_dict, isi_lst_bool, isi_lst_int, isi_lst_str, isi_lst_tuple, isi_lst_list, isi_lst_dict, isi_dct_bool, isi_dct_int, isi_dct_str, isi_dct_tuple, isi_dct_list, isi_dct_dict, List.length_map, Bool.not_true, Bool.not_false, eqD, neD, eqTx, neTx, dec_if, dec_ifn, Bool.not_not, at0, at1, at2, ix0, ix1, ix2, Bd.ints_map, Bd.bls_map, Option.some.injEq, exists_eq_left', memD_lst, memD_tup, memD_str, isIn_nil, isIn_cons, isIn_ints, scal_int, scal_str, scal_bl, scal_non, scals_nil, scals_cons, scals_ints, shp_l1i, shp_l2i, shp_l3i, shp_t1i, shp_t2i, shp_t3i, dec_or, dec_orf, Bool.and_self, shp_non, shp_bl, shp_int, shp_tints, shp_lints, shp_tnil, shp_lnil, eqd_int, eqd_str, eqd_bl, eqd_non, eqd_tints, eqd_lints, eqd_lnil, eqd_tnil, shp_lenc, shp_tenc, List.map_eq_nil_iff]
      refine ⟨by decide, by decide, ?_⟩
      refine forL_inv (fun i ρ => ∃ (n : Int) (d1 d2 : D), ρ = [D.lst M.con (List.map D.int ns), D.int k, D.int here, .int n, d1, d2] ∧ 0 ≤ n ∧ n < 2 ^ (31 * i)) ⟨0, .gone, .gone, rfl, by decide, by decide⟩ ?_ ?_
      · rintro i its ρ K hi ⟨n, d1, d2, rfl, hn0, hn1⟩ hk
        unfold rgL at hi
        rw [List.getElem?_map] at hi
        obtain ⟨j, hj, rfl⟩ := Option.map_eq_some_iff.mp hi
        have hj2 : j < 16 := by
          have := List.mem_range.mp (List.mem_of_getElem? hj)
          simpa using this
        have hi2 : i < 16 := by
          have := (List.getElem?_eq_some_iff.mp hj).1
          simpa using this
        simp only [wsR, wsX, wsA, wsI, wsN, wsRN, wsBk, wsCt, wsP, wsS, wsF, wsW, wAndV, wOrV, wNotV, wIf, wNeg, wCall, wBc, wBn, wCons, wNil, wTup, wLst, wOp, wCh, Bd.wT, wTr, wMn, wMe, wMe0, apF, popF, mtD, wPm, isTupD, cntF, ssF, lsF, wPA, wPC, reprF, wIxN, wLcN, wiZN, wsP3, wDct0, frzs_enc2, solids_enc2, solid_enc2, wBack, backD, intF, minPF, wAnd, wOr, Bd.wNot, wYes, wSl, wSo, wNo, wN_eq, wV_eq, wM_eq, getD0, getDs, nB_non, nB_bl, nB_int, nB_str, nB_opq, nB_own, nB_shr, nB_con, nB_down, nB_dshr, nB_dcon, nB_tup, nE_non, nE_bl, nE_int, nE_str, nE_opq, nE_own, nE_shr, nE_con, nE_down, nE_dshr, nE_dcon, nE_tup, nM_non, nM_bl, nM_int, nM_str, nM_opq, nM_own, nM_shr, nM_con, nM_down, nM_dshr, nM_dcon, nM_tup, wB, wC, c1, c2, isiF, lenF, sumF, maxF, minF, max2F, min2F, absF, divF, listF, tupF, sortF, allF, anyF, addD, mulD, Bd.intD, intD0, isB, truW, gb, gbs, outs, gN, gi1, gsC, gsN, gT, gS, gSn, evL, takeL, wBL, th_lst, th_dct, th_tup, th_int, th_bl, th_str, th_non, th_opq, setD, ixD, slD, isD, wCallF, wLc, wiS, wiZ, wiE, wiR1, wiR2, wiR3, seqQ, solids, D.solid, ints_solid, ints_frz, frzs, D.frz, List.set_cons_zero, List.set_cons_succ, if_true, if_false, Bool.false_eq_true, true_and, and_true, ite_true, ite_false, List.cons_append, List.nil_append, wipeD, reduceIte, List.length_cons, List.length_nil, reduceCtorEq, tyN_bool, tyN_int, tyN_str, tyN_tuple, tyN_list, tyN_dict, tyS_non, tyS_bl, tyS_int, tyS_str, tyS_tup, tyS_lst, tyS_dct, isi_non_bool, isi_non_int, isi_non_str, isi_non_tuple, isi_non_list, isi_non_dict, isi_bl_bool, isi_bl_int, isi_bl_str, isi_bl_tuple, isi_bl_list, isi_bl_dict, isi_int_bool, isi_int_int, isi_int_str, isi_int_tuple, isi_int_list, isi_int_dict, isi_str_bool, isi_str_int, isi_str_str, isi_str_tuple, isi_str_list, isi_str_dict, isi_tup_bool, isi_tup_int, isi_tup_str, isi_tup_tuple, isi_tup_list, isi_tup_dict, isi_lst_bool, isi_lst_int, isi_lst_str, isi_lst_tuple, isi_lst_list, isi_lst_dict, isi_dct_bool, isi_dct_int, isi_dct_str, isi_dct_tuple, isi_dct_list, isi_dct_dict, List.length_map, Bool.not_true, Bool.not_false, eqD, neD, eqTx, neTx, dec_if, dec_ifn, Bool.not_not, at0, at1, at2, ix0, ix1, ix2, Bd.ints_map, Bd.bls_map, Option.some.injEq, exists_eq_left', memD_lst, memD_tup, memD_str, isIn_nil, isIn_cons, isIn_ints, scal_int, scal_str, scal_bl, scal_non, scals_nil, scals_cons, scals_ints, shp_l1i, shp_l2i, shp_l3i, shp_t1i, shp_t2i, shp_t3i, dec_or, dec_orf, Bool.and_self, shp_non, shp_bl, shp_int, shp_tints, shp_lints, shp_tnil, shp_lnil, eqd_int, eqd_str, eqd_bl, eqd_non, eqd_tints, eqd_lints, eqd_lnil, eqd_tnil, shp_lenc, shp_tenc, List.map_eq_nil_iff]
        unfold w_law_box_7
        simp only [wsR, wsX, wsA, wsI, wsN, wsRN, wsBk, wsCt, wsP, wsS, wsF, wsW, wAndV, wOrV, wNotV, wIf, wNeg, wCall, wBc, wBn, wCons, wNil, wTup, wLst, wOp, wCh, Bd.wT, wTr, wMn, wMe, wMe0, apF, popF, mtD, wPm, isTupD, cntF, ssF, lsF, wPA, wPC, reprF, wIxN, wLcN, wiZN, wsP3, wDct0, frzs_enc2, solids_enc2, solid_enc2, wBack, backD, intF, minPF, wAnd, wOr, Bd.wNot, wYes, wSl, wSo, wNo, wN_eq, wV_eq, wM_eq, getD0, getDs, nB_non, nB_bl, nB_int, nB_str, nB_opq, nB_own, nB_shr, nB_con, nB_down, nB_dshr, nB_dcon, nB_tup, nE_non, nE_bl, nE_int, nE_str, nE_opq, nE_own, nE_shr, nE_con, nE_down, nE_dshr, nE_dcon, nE_tup, nM_non, nM_bl, nM_int, nM_str, nM_opq, nM_own, nM_shr, nM_con, nM_down, nM_dshr, nM_dcon, nM_tup, wB, wC, c1, c2, isiF, lenF, sumF, maxF, minF, max2F, min2F, absF, divF, listF, tupF, sortF, allF, anyF, addD, mulD, Bd.intD, intD0, isB, truW, gb, gbs, outs, gN, gi1, gsC, gsN, gT, gS, gSn, evL, takeL, wBL, th_lst, th_dct, th_tup, th_int, th_bl, th_str, th_non, th_opq, setD, ixD, slD, isD, wCallF, wLc, wiS, wiZ, wiE, wiR1, wiR2, wiR3, seqQ, solids, D.solid, ints_solid, ints_frz, frzs, D.frz, List.set_cons_zero, List.set_cons_succ, if_true, if_false, Bool.false_eq_true, true_and, and_true, ite_true, ite_false, List.cons_append, List.nil_append, wipeD, reduceIte, List.length_cons, List.length_nil, reduceCtorEq, tyN_bool, tyN_int, tyN_str, tyN_tuple, tyN_list, tyN_dict, tyS_non, tyS_bl, tyS_int, tyS_str, tyS_tup, tyS_lst, tyS_dct, isi_non_bool, isi_non_int, isi_non_str, isi_non_tuple, isi_non_list, isi_non_dict, isi_bl_bool, isi_bl_int, isi_bl_str, isi_bl_tuple, isi_bl_list, isi_bl_dict, isi_int_bool, isi_int_int, isi_int_str, isi_int_tuple, isi_int_list, isi_int_dict, isi_str_bool, isi_str_int, isi_str_str, isi_str_tuple, isi_str_list, isi_str_dict, isi_tup_bool, isi_tup_int, isi_tup_str, isi_tup_tuple, isi_tup_list, isi_tup_dict, isi_lst_bool, isi_lst_int, isi_lst_str, isi_lst_tuple, isi_lst_list, isi_lst_dict, isi_dct_bool, isi_dct_int, isi_dct_str, isi_dct_tuple, isi_dct_list, isi_dct_dict, List.length_map, Bool.not_true, Bool.not_false, eqD, neD, eqTx, neTx, dec_if, dec_ifn, Bool.not_not, at0, at1, at2, ix0, ix1, ix2, Bd.ints_map, Bd.bls_map, Option.some.injEq, exists_eq_left', memD_lst, memD_tup, memD_str, isIn_nil, isIn_cons, isIn_ints, scal_int, scal_str, scal_bl, scal_non, scals_nil, scals_cons, scals_ints, shp_l1i, shp_l2i, shp_l3i, shp_t1i, shp_t2i, shp_t3i, dec_or, dec_orf, Bool.and_self, shp_non, shp_bl, shp_int, shp_tints, shp_lints, shp_tnil, shp_lnil, eqd_int, eqd_str, eqd_bl, eqd_non, eqd_tints, eqd_lints, eqd_lnil, eqd_tnil, shp_lenc, shp_tenc, List.map_eq_nil_iff]
        refine ⟨by decide, mulW 40 40 (by omega) (by omega) (by decide) (by decide) (by decide), mulW 40 40 (by omega) (by omega) (by omega) (by omega) (by decide), by decide, ?_⟩
        generalize hp : (here % 2147483647 * 48271 + 7919 * (0 + ↑j) + 1) % 2147483647 = p
        have hp0 : 0 ≤ p := by omega
        have hp1 : p < 2147483647 := by omega
        unfold w_law_box_8
        simp only [wsR, wsX, wsA, wsI, wsN, wsRN, wsBk, wsCt, wsP, wsS, wsF, wsW, wAndV, wOrV, wNotV, wIf, wNeg, wCall, wBc, wBn, wCons, wNil, wTup, wLst, wOp, wCh, Bd.wT, wTr, wMn, wMe, wMe0, apF, popF, mtD, wPm, isTupD, cntF, ssF, lsF, wPA, wPC, reprF, wIxN, wLcN, wiZN, wsP3, wDct0, frzs_enc2, solids_enc2, solid_enc2, wBack, backD, intF, minPF, wAnd, wOr, Bd.wNot, wYes, wSl, wSo, wNo, wN_eq, wV_eq, wM_eq, getD0, getDs, nB_non, nB_bl, nB_int, nB_str, nB_opq, nB_own, nB_shr, nB_con, nB_down, nB_dshr, nB_dcon, nB_tup, nE_non, nE_bl, nE_int, nE_str, nE_opq, nE_own, nE_shr, nE_con, nE_down, nE_dshr, nE_dcon, nE_tup, nM_non, nM_bl, nM_int, nM_str, nM_opq, nM_own, nM_shr, nM_con, nM_down, nM_dshr, nM_dcon, nM_tup, wB, wC, c1, c2, isiF, lenF, sumF, maxF, minF, max2F, min2F, absF, divF, listF, tupF, sortF, allF, anyF, addD, mulD, Bd.intD, intD0, isB, truW, gb, gbs, outs, gN, gi1, gsC, gsN, gT, gS, gSn, evL, takeL, wBL, th_lst, th_dct, th_tup, th_int, th_bl, th_str, th_non, th_opq, setD, ixD, slD, isD, wCallF, wLc, wiS, wiZ, wiE, wiR1, wiR2, wiR3, seqQ, solids, D.solid, ints_solid, ints_frz, frzs, D.frz, List.set_cons_zero, List.set_cons_succ, if_true, if_false, Bool.false_eq_true, true_and, and_true, ite_true, ite_false, List.cons_append, List.nil_append, wipeD, reduceIte, List.length_cons, List.length_nil, reduceCtorEq, tyN_bool, tyN_int, tyN_str, tyN_tuple, tyN_list, tyN_dict, tyS_non, tyS_bl, tyS_int, tyS_str, tyS_tup, tyS_lst, tyS_dct, isi_non_bool, isi_non_int, isi_non_str, isi_non_tuple, isi_non_list, isi_non_dict, isi_bl_bool, isi_bl_int, isi_bl_str, isi_bl_tuple, isi_bl_list, isi_bl_dict, isi_int_bool, isi_int_int, isi_int_str, isi_int_tuple, isi_int_list, isi_int_dict, isi_str_bool, isi_str_int, isi_str_str, isi_str_tuple, isi_str_list, isi_str_dict, isi_tup_bool, isi_tup_int, isi_tup_str, isi_tup_tuple, isi_tup_list, isi_tup_dict, isi_lst_bool, isi_lst_int, isi_lst_str, isi_lst_tuple, isi_lst_list, isi_lst_dict, isi_dct_bool, isi_dct_int, isi_dct_str, isi_dct_tuple, isi_dct_list, isi_dct_dict, List.length_map, Bool.not_true, Bool.not_false, eqD, neD, eqTx, neTx, dec_if, dec_ifn, Bool.not_not, at0, at1, at2, ix0, ix1, ix2, Bd.ints_map, Bd.bls_map, Option.some.injEq, exists_eq_left', memD_lst, memD_tup, memD_str, isIn_nil, isIn_cons, isIn_ints, scal_int, scal_str, scal_bl, scal_non, scals_nil, scals_cons, scals_ints, shp_l1i, shp_l2i, shp_l3i, shp_t1i, shp_t2i, shp_t3i, dec_or, dec_orf, Bool.and_self, shp_non, shp_bl, shp_int, shp_tints, shp_lints, shp_tnil, shp_lnil, eqd_int, eqd_str, eqd_bl, eqd_non, eqd_tints, eqd_lints, eqd_lnil, eqd_tnil, shp_lenc, shp_tenc, List.map_eq_nil_iff]
        refine ⟨mulW 40 40 (by omega) (by omega) (by omega) (by omega) (by decide), by decide, ?_⟩
        generalize hq : p * p % 2147483629 = q
        have hq0 : 0 ≤ q := by omega
        have hq1 : q < 2147483647 := by omega
        unfold w_law_box_9
        simp only [wsR, wsX, wsA, wsI, wsN, wsRN, wsBk, wsCt, wsP, wsS, wsF, wsW, wAndV, wOrV, wNotV, wIf, wNeg, wCall, wBc, wBn, wCons, wNil, wTup, wLst, wOp, wCh, Bd.wT, wTr, wMn, wMe, wMe0, apF, popF, mtD, wPm, isTupD, cntF, ssF, lsF, wPA, wPC, reprF, wIxN, wLcN, wiZN, wsP3, wDct0, frzs_enc2, solids_enc2, solid_enc2, wBack, backD, intF, minPF, wAnd, wOr, Bd.wNot, wYes, wSl, wSo, wNo, wN_eq, wV_eq, wM_eq, getD0, getDs, nB_non, nB_bl, nB_int, nB_str, nB_opq, nB_own, nB_shr, nB_con, nB_down, nB_dshr, nB_dcon, nB_tup, nE_non, nE_bl, nE_int, nE_str, nE_opq, nE_own, nE_shr, nE_con, nE_down, nE_dshr, nE_dcon, nE_tup, nM_non, nM_bl, nM_int, nM_str, nM_opq, nM_own, nM_shr, nM_con, nM_down, nM_dshr, nM_dcon, nM_tup, wB, wC, c1, c2, isiF, lenF, sumF, maxF, minF, max2F, min2F, absF, divF, listF, tupF, sortF, allF, anyF, addD, mulD, Bd.intD, intD0, isB, truW, gb, gbs, outs, gN, gi1, gsC, gsN, gT, gS, gSn, evL, takeL, wBL, th_lst, th_dct, th_tup, th_int, th_bl, th_str, th_non, th_opq, setD, ixD, slD, isD, wCallF, wLc, wiS, wiZ, wiE, wiR1, wiR2, wiR3, seqQ, solids, D.solid, ints_solid, ints_frz, frzs, D.frz, List.set_cons_zero, List.set_cons_succ, if_true, if_false, Bool.false_eq_true, true_and, and_true, ite_true, ite_false, List.cons_append, List.nil_append, wipeD, reduceIte, List.length_cons, List.length_nil, reduceCtorEq, tyN_bool, tyN_int, tyN_str, tyN_tuple, tyN_list, tyN_dict, tyS_non, tyS_bl, tyS_int, tyS_str, tyS_tup, tyS_lst, tyS_dct, isi_non_bool, isi_non_int, isi_non_str, isi_non_tuple, isi_non_list, isi_non_dict, isi_bl_bool, isi_bl_int, isi_bl_str, isi_bl_tuple, isi_bl_list, isi_bl_dict, isi_int_bool, isi_int_int, isi_int_str, isi_int_tuple, isi_int_list, isi_int_dict, isi_str_bool, isi_str_int, isi_str_str, isi_str_tuple, isi_str_list, isi_str_dict, isi_tup_bool, isi_tup_int, isi_tup_str, isi_tup_tuple, isi_tup_list, isi_tup_dict, isi_lst_bool, isi_lst_int, isi_lst_str, isi_lst_tuple, isi_lst_list, isi_lst_dict, isi_dct_bool, isi_dct_int, isi_dct_str, isi_dct_tuple, isi_dct_list, isi_dct_dict, List.length_map, Bool.not_true, Bool.not_false, eqD, neD, eqTx, neTx, dec_if, dec_ifn, Bool.not_not, at0, at1, at2, ix0, ix1, ix2, Bd.ints_map, Bd.bls_map, Option.some.injEq, exists_eq_left', memD_lst, memD_tup, memD_str, isIn_nil, isIn_cons, isIn_ints, scal_int, scal_str, scal_bl, scal_non, scals_nil, scals_cons, scals_ints, shp_l1i, shp_l2i, shp_l3i, shp_t1i, shp_t2i, shp_t3i, dec_or, dec_orf, Bool.and_self, shp_non, shp_bl, shp_int, shp_tints, shp_lints, shp_tnil, shp_lnil, eqd_int, eqd_str, eqd_bl, eqd_non, eqd_tints, eqd_lints, eqd_lnil, eqd_tnil, shp_lenc, shp_tenc, List.map_eq_nil_iff]
        have b1 := two_le (i := 31 * i) (j := 500) (by omega)
        refine ⟨mulW 500 40 (by omega) (by omega) (by decide) (by decide) (by decide), mulW 40 40 (by omega) (by omega) (by omega) (by omega) (by decide), by decide, ?_⟩
        obtain ⟨g1, g2⟩ := big_step hn0 hn1 (x := q * (q + 13) % 2147483647) (by omega) (by omega)
        exact hk _ ⟨_, _, _, rfl, g1, g2⟩
      · rintro ρ ⟨n, d1, d2, rfl, hn0, hn1⟩
        unfold w_law_box_10
        simp only [wsR, wsX, wsA, wsI, wsN, wsRN, wsBk, wsCt, wsP, wsS, wsF, wsW, wAndV, wOrV, wNotV, wIf, wNeg, wCall, wBc, wBn, wCons, wNil, wTup, wLst, wOp, wCh, Bd.wT, wTr, wMn, wMe, wMe0, apF, popF, mtD, wPm, isTupD, cntF, ssF, lsF, wPA, wPC, reprF, wIxN, wLcN, wiZN, wsP3, wDct0, frzs_enc2, solids_enc2, solid_enc2, wBack, backD, intF, minPF, wAnd, wOr, Bd.wNot, wYes, wSl, wSo, wNo, wN_eq, wV_eq, wM_eq, getD0, getDs, nB_non, nB_bl, nB_int, nB_str, nB_opq, nB_own, nB_shr, nB_con, nB_down, nB_dshr, nB_dcon, nB_tup, nE_non, nE_bl, nE_int, nE_str, nE_opq, nE_own, nE_shr, nE_con, nE_down, nE_dshr, nE_dcon, nE_tup, nM_non, nM_bl, nM_int, nM_str, nM_opq, nM_own, nM_shr, nM_con, nM_down, nM_dshr, nM_dcon, nM_tup, wB, wC, c1, c2, isiF, lenF, sumF, maxF, minF, max2F, min2F, absF, divF, listF, tupF, sortF, allF, anyF, addD, mulD, Bd.intD, intD0, isB, truW, gb, gbs, outs, gN, gi1, gsC, gsN, gT, gS, gSn, evL, takeL, wBL, th_lst, th_dct, th_tup, th_int, th_bl, th_str, th_non, th_opq, setD, ixD, slD, isD, wCallF, wLc, wiS, wiZ, wiE, wiR1, wiR2, wiR3, seqQ, solids, D.solid, ints_solid, ints_frz, frzs, D.frz, List.set_cons_zero, List.set_cons_succ, if_true, if_false, Bool.false_eq_true, true_and, and_true, ite_true, ite_false, List.cons_append, List.nil_append, wipeD, reduceIte, List.length_cons, List.length_nil, reduceCtorEq, tyN_bool, tyN_int, tyN_str, tyN_tuple, tyN_list, tyN_dict, tyS_non, tyS_bl, tyS_int, tyS_str, tyS_tup, tyS_lst, tyS_dct, isi_non_bool, isi_non_int, isi_non_str, isi_non_tuple, isi_non_list, isi_non_dict, isi_bl_bool, isi_bl_int, isi_bl_str, isi_bl_tuple, isi_bl_list, isi_bl_dict, isi_int_bool, isi_int_int, isi_int_str, isi_int_tuple, isi_int_list, isi_int_dict, isi_str_bool, isi_str_int, isi_str_str, isi_str_tuple, isi_str_list, isi_str_dict, isi_tup_bool, isi_tup_int, isi_tup_str, isi_tup_tuple, isi_tup_list, isi_tup_dict, isi_lst_bool, isi_lst_int, isi_lst_str, isi_lst_tuple, isi_lst_list, isi_lst_dict, isi_dct_bool, isi_dct_int, isi_dct_str, isi_dct_tuple, isi_dct_list, isi_dct_dict, List.length_map, Bool.not_true, Bool.not_false, eqD, neD, eqTx, neTx, dec_if, dec_ifn, Bool.not_not, at0, at1, at2, ix0, ix1, ix2, Bd.ints_map, Bd.bls_map, Option.some.injEq, exists_eq_left', memD_lst, memD_tup, memD_str, isIn_nil, isIn_cons, isIn_ints, scal_int, scal_str, scal_bl, scal_non, scals_nil, scals_cons, scals_ints, shp_l1i, shp_l2i, shp_l3i, shp_t1i, shp_t2i, shp_t3i, dec_or, dec_orf, Bool.and_self, shp_non, shp_bl, shp_int, shp_tints, shp_lints, shp_tnil, shp_lnil, eqd_int, eqd_str, eqd_bl, eqd_non, eqd_tints, eqd_lints, eqd_lnil, eqd_tnil, shp_lenc, shp_tenc, List.map_eq_nil_iff]
        refine ⟨by decide, by decide, ?_⟩
        exact h4 _ _ (ab here)
  unfold w_law_box w_law_box_0
  simp only [wsR, wsX, wsA, wsI, wsN, wsRN, wsBk, wsCt, wsP, wsS, wsF, wsW, wAndV, wOrV, wNotV, wIf, wNeg, wCall, wBc, wBn, wCons, wNil, wTup, wLst, wOp, wCh, Bd.wT, wTr, wMn, wMe, wMe0, apF, popF, mtD, wPm, isTupD, cntF, ssF, lsF, wPA, wPC, reprF, wIxN, wLcN, wiZN, wsP3, wDct0, frzs_enc2, solids_enc2, solid_enc2, wBack, backD, intF, minPF, wAnd, wOr, Bd.wNot, wYes, wSl, wSo, wNo, wN_eq, wV_eq, wM_eq, getD0, getDs, nB_non, nB_bl, nB_int, nB_str, nB_opq, nB_own, nB_shr, nB_con, nB_down, nB_dshr, nB_dcon, nB_tup, nE_non, nE_bl, nE_int, nE_str, nE_opq, nE_own, nE_shr, nE_con, nE_down, nE_dshr, nE_dcon, nE_tup, nM_non, nM_bl, nM_int, nM_str, nM_opq, nM_own, nM_shr, nM_con, nM_down, nM_dshr, nM_dcon, nM_tup, wB, wC, c1, c2, isiF, lenF, sumF, maxF, minF, max2F, min2F, absF, divF, listF, tupF, sortF, allF, anyF, addD, mulD, Bd.intD, intD0, isB, truW, gb, gbs, outs, gN, gi1, gsC, gsN, gT, gS, gSn, evL, takeL, wBL, th_lst, th_dct, th_tup, th_int, th_bl, th_str, th_non, th_opq, setD, ixD, slD, isD, wCallF, wLc, wiS, wiZ, wiE, wiR1, wiR2, wiR3, seqQ, solids, D.solid, ints_solid, ints_frz, frzs, D.frz, List.set_cons_zero, List.set_cons_succ, if_true, if_false, Bool.false_eq_true, true_and, and_true, ite_true, ite_false, List.cons_append, List.nil_append, wipeD, reduceIte, List.length_cons, List.length_nil, reduceCtorEq, tyN_bool, tyN_int, tyN_str, tyN_tuple, tyN_list, tyN_dict, tyS_non, tyS_bl, tyS_int, tyS_str, tyS_tup, tyS_lst, tyS_dct, isi_non_bool, isi_non_int, isi_non_str, isi_non_tuple, isi_non_list, isi_non_dict, isi_bl_bool, isi_bl_int, isi_bl_str, isi_bl_tuple, isi_bl_list, isi_bl_dict, isi_int_bool, isi_int_int, isi_int_str, isi_int_tuple, isi_int_list, isi_int_dict, isi_str_bool, isi_str_int, isi_str_str, isi_str_tuple, isi_str_list, isi_str_dict, isi_tup_bool, isi_tup_int, isi_tup_str, isi_tup_tuple, isi_tup_list, isi_tup_dict, isi_lst_bool, isi_lst_int, isi_lst_str, isi_lst_tuple, isi_lst_list, isi_lst_dict, isi_dct_bool, isi_dct_int, isi_dct_str, isi_dct_tuple, isi_dct_list, isi_dct_dict, List.length_map, Bool.not_true, Bool.not_false, eqD, neD, eqTx, neTx, dec_if, dec_ifn, Bool.not_not, at0, at1, at2, ix0, ix1, ix2, Bd.ints_map, Bd.bls_map, Option.some.injEq, exists_eq_left', memD_lst, memD_tup, memD_str, isIn_nil, isIn_cons, isIn_ints, scal_int, scal_str, scal_bl, scal_non, scals_nil, scals_cons, scals_ints, shp_l1i, shp_l2i, shp_l3i, shp_t1i, shp_t2i, shp_t3i, dec_or, dec_orf, Bool.and_self, shp_non, shp_bl, shp_int, shp_tints, shp_lints, shp_tnil, shp_lnil, eqd_int, eqd_str, eqd_bl, eqd_non, eqd_tints, eqd_lints, eqd_lnil, eqd_tnil, shp_lenc, shp_tenc, List.map_eq_nil_iff]
  refine ⟨mulW 20 20 (by decide) (by decide) (by omega) (by omega) (by decide), ?_⟩
  unfold w_law_box_1
  simp only [wsR, wsX, wsA, wsI, wsN, wsRN, wsBk, wsCt, wsP, wsS, wsF, wsW, wAndV, wOrV, wNotV, wIf, wNeg, wCall, wBc, wBn, wCons, wNil, wTup, wLst, wOp, wCh, Bd.wT, wTr, wMn, wMe, wMe0, apF, popF, mtD, wPm, isTupD, cntF, ssF, lsF, wPA, wPC, reprF, wIxN, wLcN, wiZN, wsP3, wDct0, frzs_enc2, solids_enc2, solid_enc2, wBack, backD, intF, minPF, wAnd, wOr, Bd.wNot, wYes, wSl, wSo, wNo, wN_eq, wV_eq, wM_eq, getD0, getDs, nB_non, nB_bl, nB_int, nB_str, nB_opq, nB_own, nB_shr, nB_con, nB_down, nB_dshr, nB_dcon, nB_tup, nE_non, nE_bl, nE_int, nE_str, nE_opq, nE_own, nE_shr, nE_con, nE_down, nE_dshr, nE_dcon, nE_tup, nM_non, nM_bl, nM_int, nM_str, nM_opq, nM_own, nM_shr, nM_con, nM_down, nM_dshr, nM_dcon, nM_tup, wB, wC, c1, c2, isiF, lenF, sumF, maxF, minF, max2F, min2F, absF, divF, listF, tupF, sortF, allF, anyF, addD, mulD, Bd.intD, intD0, isB, truW, gb, gbs, outs, gN, gi1, gsC, gsN, gT, gS, gSn, evL, takeL, wBL, th_lst, th_dct, th_tup, th_int, th_bl, th_str, th_non, th_opq, setD, ixD, slD, isD, wCallF, wLc, wiS, wiZ, wiE, wiR1, wiR2, wiR3, seqQ, solids, D.solid, ints_solid, ints_frz, frzs, D.frz, List.set_cons_zero, List.set_cons_succ, if_true, if_false, Bool.false_eq_true, true_and, and_true, ite_true, ite_false, List.cons_append, List.nil_append, wipeD, reduceIte, List.length_cons, List.length_nil, reduceCtorEq, tyN_bool, tyN_int, tyN_str, tyN_tuple, tyN_list, tyN_dict, tyS_non, tyS_bl, tyS_int, tyS_str, tyS_tup, tyS_lst, tyS_dct, isi_non_bool, isi_non_int, isi_non_str, isi_non_tuple, isi_non_list, isi_non_dict, isi_bl_bool, isi_bl_int, isi_bl_str, isi_bl_tuple, isi_bl_list, isi_bl_dict, isi_int_bool, isi_int_int, isi_int_str, isi_int_tuple, isi_int_list, isi_int_dict, isi_str_bool, isi_str_int, isi_str_str, isi_str_tuple, isi_str_list, isi_str_dict, isi_tup_bool, isi_tup_int, isi_tup_str, isi_tup_tuple, isi_tup_list, isi_tup_dict, isi_lst_bool, isi_lst_int, isi_lst_str, isi_lst_tuple, isi_lst_list, isi_lst_dict, isi_dct_bool, isi_dct_int, isi_dct_str, isi_dct_tuple, isi_dct_list, isi_dct_dict, List.length_map, Bool.not_true, Bool.not_false, eqD, neD, eqTx, neTx, dec_if, dec_ifn, Bool.not_not, at0, at1, at2, ix0, ix1, ix2, Bd.ints_map, Bd.bls_map, Option.some.injEq, exists_eq_left', memD_lst, memD_tup, memD_str, isIn_nil, isIn_cons, isIn_ints, scal_int, scal_str, scal_bl, scal_non, scals_nil, scals_cons, scals_ints, shp_l1i, shp_l2i, shp_l3i, shp_t1i, shp_t2i, shp_t3i, dec_or, dec_orf, Bool.and_self, shp_non, shp_bl, shp_int, shp_tints, shp_lints, shp_tnil, shp_lnil, eqd_int, eqd_str, eqd_bl, eqd_non, eqd_tints, eqd_lints, eqd_lnil, eqd_tnil, shp_lenc, shp_tenc, List.map_eq_nil_iff]
  by_cases hk : k < (ns.length : Int)
  · simp only [hk, if_true]
    unfold w_law_box_2
    have hl : k < (ns.length : Int) := hk
    simp only [wsR, wsX, wsA, wsI, wsN, wsRN, wsBk, wsCt, wsP, wsS, wsF, wsW, wAndV, wOrV, wNotV, wIf, wNeg, wCall, wBc, wBn, wCons, wNil, wTup, wLst, wOp, wCh, Bd.wT, wTr, wMn, wMe, wMe0, apF, popF, mtD, wPm, isTupD, cntF, ssF, lsF, wPA, wPC, reprF, wIxN, wLcN, wiZN, wsP3, wDct0, frzs_enc2, solids_enc2, solid_enc2, wBack, backD, intF, minPF, wAnd, wOr, Bd.wNot, wYes, wSl, wSo, wNo, wN_eq, wV_eq, wM_eq, getD0, getDs, nB_non, nB_bl, nB_int, nB_str, nB_opq, nB_own, nB_shr, nB_con, nB_down, nB_dshr, nB_dcon, nB_tup, nE_non, nE_bl, nE_int, nE_str, nE_opq, nE_own, nE_shr, nE_con, nE_down, nE_dshr, nE_dcon, nE_tup, nM_non, nM_bl, nM_int, nM_str, nM_opq, nM_own, nM_shr, nM_con, nM_down, nM_dshr, nM_dcon, nM_tup, wB, wC, c1, c2, isiF, lenF, sumF, maxF, minF, max2F, min2F, absF, divF, listF, tupF, sortF, allF, anyF, addD, mulD, Bd.intD, intD0, isB, truW, gb, gbs, outs, gN, gi1, gsC, gsN, gT, gS, gSn, evL, takeL, wBL, th_lst, th_dct, th_tup, th_int, th_bl, th_str, th_non, th_opq, setD, ixD, slD, isD, wCallF, wLc, wiS, wiZ, wiE, wiR1, wiR2, wiR3, seqQ, solids, D.solid, ints_solid, ints_frz, frzs, D.frz, List.set_cons_zero, List.set_cons_succ, if_true, if_false, Bool.false_eq_true, true_and, and_true, ite_true, ite_false, List.cons_append, List.nil_append, wipeD, reduceIte, List.length_cons, List.length_nil, reduceCtorEq, tyN_bool, tyN_int, tyN_str, tyN_tuple, tyN_list, tyN_dict, tyS_non, tyS_bl, tyS_int, tyS_str, tyS_tup, tyS_lst, tyS_dct, isi_non_bool, isi_non_int, isi_non_str, isi_non_tuple, isi_non_list, isi_non_dict, isi_bl_bool, isi_bl_int, isi_bl_str, isi_bl_tuple, isi_bl_list, isi_bl_dict, isi_int_bool, isi_int_int, isi_int_str, isi_int_tuple, isi_int_list, isi_int_dict, isi_str_bool, isi_str_int, isi_str_str, isi_str_tuple, isi_str_list, isi_str_dict, isi_tup_bool, isi_tup_int, isi_tup_str, isi_tup_tuple, isi_tup_list, isi_tup_dict, isi_lst_bool, isi_lst_int, isi_lst_str, isi_lst_tuple, isi_lst_list, isi_lst_dict, isi_dct_bool, isi_dct_int, isi_dct_str, isi_dct_tuple, isi_dct_list, isi_dct_dict, List.length_map, Bool.not_true, Bool.not_false, eqD, neD, eqTx, neTx, dec_if, dec_ifn, Bool.not_not, at0, at1, at2, ix0, ix1, ix2, Bd.ints_map, Bd.bls_map, Option.some.injEq, exists_eq_left', memD_lst, memD_tup, memD_str, isIn_nil, isIn_cons, isIn_ints, scal_int, scal_str, scal_bl, scal_non, scals_nil, scals_cons, scals_ints, shp_l1i, shp_l2i, shp_l3i, shp_t1i, shp_t2i, shp_t3i, dec_or, dec_orf, Bool.and_self, shp_non, shp_bl, shp_int, shp_tints, shp_lints, shp_tnil, shp_lnil, eqd_int, eqd_str, eqd_bl, eqd_non, eqd_tints, eqd_lints, eqd_lnil, eqd_tnil, shp_lenc, shp_tenc, List.map_eq_nil_iff]
    rw [atI_ints h2 hl]
    exact ⟨_, rfl, rest _⟩
  · simp only [hk, if_false]
    exact rest _
theorem r_law_more : Tells S_law_more [true] 2 w_law_more := by
  rintro ds Q E ⟨a, b, rfl, h1, h2⟩
  show w_law_more _ _ [box a b, .gone, .gone]
  generalize (fun (c : Str) (ns : List Int) ρ => E c ns (outs [true] ρ)) = Ex
  unfold w_law_more w_law_more_0 box
  simp only [wsR, wsX, wsA, wsI, wsN, wsRN, wsBk, wsCt, wsP, wsS, wsF, wsW, wAndV, wOrV, wNotV, wIf, wNeg, wCall, wBc, wBn, wCons, wNil, wTup, wLst, wOp, wCh, Bd.wT, wTr, wMn, wMe, wMe0, apF, popF, mtD, wPm, isTupD, cntF, ssF, lsF, wPA, wPC, reprF, wIxN, wLcN, wiZN, wsP3, wDct0, frzs_enc2, solids_enc2, solid_enc2, wBack, backD, intF, minPF, wAnd, wOr, Bd.wNot, wYes, wSl, wSo, wNo, wN_eq, wV_eq, wM_eq, getD0, getDs, nB_non, nB_bl, nB_int, nB_str, nB_opq, nB_own, nB_shr, nB_con, nB_down, nB_dshr, nB_dcon, nB_tup, nE_non, nE_bl, nE_int, nE_str, nE_opq, nE_own, nE_shr, nE_con, nE_down, nE_dshr, nE_dcon, nE_tup, nM_non, nM_bl, nM_int, nM_str, nM_opq, nM_own, nM_shr, nM_con, nM_down, nM_dshr, nM_dcon, nM_tup, wB, wC, c1, c2, isiF, lenF, sumF, maxF, minF, max2F, min2F, absF, divF, listF, tupF, sortF, allF, anyF, addD, mulD, Bd.intD, intD0, isB, truW, gb, gbs, outs, gN, gi1, gsC, gsN, gT, gS, gSn, evL, takeL, wBL, th_lst, th_dct, th_tup, th_int, th_bl, th_str, th_non, th_opq, setD, ixD, slD, isD, wCallF, wLc, wiS, wiZ, wiE, wiR1, wiR2, wiR3, seqQ, solids, D.solid, ints_solid, ints_frz, frzs, D.frz, List.set_cons_zero, List.set_cons_succ, if_true, if_false, Bool.false_eq_true, true_and, and_true, ite_true, ite_false, List.cons_append, List.nil_append, wipeD, reduceIte, List.length_cons, List.length_nil, reduceCtorEq, tyN_bool, tyN_int, tyN_str, tyN_tuple, tyN_list, tyN_dict, tyS_non, tyS_bl, tyS_int, tyS_str, tyS_tup, tyS_lst, tyS_dct, isi_non_bool, isi_non_int, isi_non_str, isi_non_tuple, isi_non_list, isi_non_dict, isi_bl_bool, isi_bl_int, isi_bl_str, isi_bl_tuple, isi_bl_list, isi_bl_dict, isi_int_bool, isi_int_int, isi_int_str, isi_int_tuple, isi_int_list, isi_int_dict, isi_str_bool, isi_str_int, isi_str_str, isi_str_tuple, isi_str_list, isi_str_dict, isi_tup_bool, isi_tup_int, isi_tup_str, isi_tup_tuple, isi_tup_list, isi_tup_dict, isi_lst_bool, isi_lst_int, isi_lst_str, isi_lst_tuple, isi_lst_list, isi_lst_dict, isi_dct_bool, isi_dct_int, isi_dct_str, isi_dct_tuple, isi_dct_list, isi_dct_dict, List.length_map, Bool.not_true, Bool.not_false, eqD, neD, eqTx, neTx, dec_if, dec_ifn, Bool.not_not, at0, at1, at2, ix0, ix1, ix2, Bd.ints_map, Bd.bls_map, Option.some.injEq, exists_eq_left', memD_lst, memD_tup, memD_str, isIn_nil, isIn_cons, isIn_ints, scal_int, scal_str, scal_bl, scal_non, scals_nil, scals_cons, scals_ints, shp_l1i, shp_l2i, shp_l3i, shp_t1i, shp_t2i, shp_t3i, dec_or, dec_orf, Bool.and_self, shp_non, shp_bl, shp_int, shp_tints, shp_lints, shp_tnil, shp_lnil, eqd_int, eqd_str, eqd_bl, eqd_non, eqd_tints, eqd_lints, eqd_lnil, eqd_tnil, shp_lenc, shp_tenc, List.map_eq_nil_iff]
  unfold w_law_more_1
  simp only [wsR, wsX, wsA, wsI, wsN, wsRN, wsBk, wsCt, wsP, wsS, wsF, wsW, wAndV, wOrV, wNotV, wIf, wNeg, wCall, wBc, wBn, wCons, wNil, wTup, wLst, wOp, wCh, Bd.wT, wTr, wMn, wMe, wMe0, apF, popF, mtD, wPm, isTupD, cntF, ssF, lsF, wPA, wPC, reprF, wIxN, wLcN, wiZN, wsP3, wDct0, frzs_enc2, solids_enc2, solid_enc2, wBack, backD, intF, minPF, wAnd, wOr, Bd.wNot, wYes, wSl, wSo, wNo, wN_eq, wV_eq, wM_eq, getD0, getDs, nB_non, nB_bl, nB_int, nB_str, nB_opq, nB_own, nB_shr, nB_con, nB_down, nB_dshr, nB_dcon, nB_tup, nE_non, nE_bl, nE_int, nE_str, nE_opq, nE_own, nE_shr, nE_con, nE_down, nE_dshr, nE_dcon, nE_tup, nM_non, nM_bl, nM_int, nM_str, nM_opq, nM_own, nM_shr, nM_con, nM_down, nM_dshr, nM_dcon, nM_tup, wB, wC, c1, c2, isiF, lenF, sumF, maxF, minF, max2F, min2F, absF, divF, listF, tupF, sortF, allF, anyF, addD, mulD, Bd.intD, intD0, isB, truW, gb, gbs, outs, gN, gi1, gsC, gsN, gT, gS, gSn, evL, takeL, wBL, th_lst, th_dct, th_tup, th_int, th_bl, th_str, th_non, th_opq, setD, ixD, slD, isD, wCallF, wLc, wiS, wiZ, wiE, wiR1, wiR2, wiR3, seqQ, solids, D.solid, ints_solid, ints_frz, frzs, D.frz, List.set_cons_zero, List.set_cons_succ, if_true, if_false, Bool.false_eq_true, true_and, and_true, ite_true, ite_false, List.cons_append, List.nil_append, wipeD, reduceIte, List.length_cons, List.length_nil, reduceCtorEq, tyN_bool, tyN_int, tyN_str, tyN_tuple, tyN_list, tyN_dict, tyS_non, tyS_bl, tyS_int, tyS_str, tyS_tup, tyS_lst, tyS_dct, isi_non_bool, isi_non_int, isi_non_str, isi_non_tuple, isi_non_list, isi_non_dict, isi_bl_bool, isi_bl_int, isi_bl_str, isi_bl_tuple, isi_bl_list, isi_bl_dict, isi_int_bool, isi_int_int, isi_int_str, isi_int_tuple, isi_int_list, isi_int_dict, isi_str_bool, isi_str_int, isi_str_str, isi_str_tuple, isi_str_list, isi_str_dict, isi_tup_bool, isi_tup_int, isi_tup_str, isi_tup_tuple, isi_tup_list, isi_tup_dict, isi_lst_bool, isi_lst_int, isi_lst_str, isi_lst_tuple, isi_lst_list, isi_lst_dict, isi_dct_bool, isi_dct_int, isi_dct_str, isi_dct_tuple, isi_dct_list, isi_dct_dict, List.length_map, Bool.not_true, Bool.not_false, eqD, neD, eqTx, neTx, dec_if, dec_ifn, Bool.not_not, at0, at1, at2, ix0, ix1, ix2, Bd.ints_map, Bd.bls_map, Option.some.injEq, exists_eq_left', memD_lst, memD_tup, memD_str, isIn_nil, isIn_cons, isIn_ints, scal_int, scal_str, scal_bl, scal_non, scals_nil, scals_cons, scals_ints, shp_l1i, shp_l2i, shp_l3i, shp_t1i, shp_t2i, shp_t3i, dec_or, dec_orf, Bool.and_self, shp_non, shp_bl, shp_int, shp_tints, shp_lints, shp_tnil, shp_lnil, eqd_int, eqd_str, eqd_bl, eqd_non, eqd_tints, eqd_lints, eqd_lnil, eqd_tnil, shp_lenc, shp_tenc, List.map_eq_nil_iff]
  refine ⟨by decide, by decide, ?_⟩
  refine forL_inv (fun i ρ => ∃ (n b' : Int) (d1 : D), ρ = [box a b', .int n, d1] ∧ bOk b' ∧ 0 ≤ n ∧ n < 2 ^ (16 * i)) ⟨0, b, .gone, rfl, h1, by decide, by decide⟩ ?_ ?_
  · rintro i its ρ K hi ⟨n, b', d1, rfl, hb, hn0, hn1⟩ hk
    unfold rgL at hi
    rw [List.getElem?_map] at hi
    obtain ⟨j, hj, rfl⟩ := Option.map_eq_some_iff.mp hi
    have hi2 : i < 12 := by
      have := (List.getElem?_eq_some_iff.mp hj).1
      simpa using this
    unfold w_law_more_2 box
    obtain ⟨hb0, hb1⟩ := hb
    simp only [wsR, wsX, wsA, wsI, wsN, wsRN, wsBk, wsCt, wsP, wsS, wsF, wsW, wAndV, wOrV, wNotV, wIf, wNeg, wCall, wBc, wBn, wCons, wNil, wTup, wLst, wOp, wCh, Bd.wT, wTr, wMn, wMe, wMe0, apF, popF, mtD, wPm, isTupD, cntF, ssF, lsF, wPA, wPC, reprF, wIxN, wLcN, wiZN, wsP3, wDct0, frzs_enc2, solids_enc2, solid_enc2, wBack, backD, intF, minPF, wAnd, wOr, Bd.wNot, wYes, wSl, wSo, wNo, wN_eq, wV_eq, wM_eq, getD0, getDs, nB_non, nB_bl, nB_int, nB_str, nB_opq, nB_own, nB_shr, nB_con, nB_down, nB_dshr, nB_dcon, nB_tup, nE_non, nE_bl, nE_int, nE_str, nE_opq, nE_own, nE_shr, nE_con, nE_down, nE_dshr, nE_dcon, nE_tup, nM_non, nM_bl, nM_int, nM_str, nM_opq, nM_own, nM_shr, nM_con, nM_down, nM_dshr, nM_dcon, nM_tup, wB, wC, c1, c2, isiF, lenF, sumF, maxF, minF, max2F, min2F, absF, divF, listF, tupF, sortF, allF, anyF, addD, mulD, Bd.intD, intD0, isB, truW, gb, gbs, outs, gN, gi1, gsC, gsN, gT, gS, gSn, evL, takeL, wBL, th_lst, th_dct, th_tup, th_int, th_bl, th_str, th_non, th_opq, setD, ixD, slD, isD, wCallF, wLc, wiS, wiZ, wiE, wiR1, wiR2, wiR3, seqQ, solids, D.solid, ints_solid, ints_frz, frzs, D.frz, List.set_cons_zero, List.set_cons_succ, if_true, if_false, Bool.false_eq_true, true_and, and_true, ite_true, ite_false, List.cons_append, List.nil_append, wipeD, reduceIte, List.length_cons, List.length_nil, reduceCtorEq, tyN_bool, tyN_int, tyN_str, tyN_tuple, tyN_list, tyN_dict, tyS_non, tyS_bl, tyS_int, tyS_str, tyS_tup, tyS_lst, tyS_dct, isi_non_bool, isi_non_int, isi_non_str, isi_non_tuple, isi_non_list, isi_non_dict, isi_bl_bool, isi_bl_int, isi_bl_str, isi_bl_tuple, isi_bl_list, isi_bl_dict, isi_int_bool, isi_int_int, isi_int_str, isi_int_tuple, isi_int_list, isi_int_dict, isi_str_bool, isi_str_int, isi_str_str, isi_str_tuple, isi_str_list, isi_str_dict, isi_tup_bool, isi_tup_int, isi_tup_str, isi_tup_tuple, isi_tup_list, isi_tup_dict, isi_lst_bool, isi_lst_int, isi_lst_str, isi_lst_tuple, isi_lst_list, isi_lst_dict, isi_dct_bool, isi_dct_int, isi_dct_str, isi_dct_tuple, isi_dct_list, isi_dct_dict, List.length_map, Bool.not_true, Bool.not_false, eqD, neD, eqTx, neTx, dec_if, dec_ifn, Bool.not_not, at0, at1, at2, ix0, ix1, ix2, Bd.ints_map, Bd.bls_map, Option.some.injEq, exists_eq_left', memD_lst, memD_tup, memD_str, isIn_nil, isIn_cons, isIn_ints, scal_int, scal_str, scal_bl, scal_non, scals_nil, scals_cons, scals_ints, shp_l1i, shp_l2i, shp_l3i, shp_t1i, shp_t2i, shp_t3i, dec_or, dec_orf, Bool.and_self, shp_non, shp_bl, shp_int, shp_tints, shp_lints, shp_tnil, shp_lnil, eqd_int, eqd_str, eqd_bl, eqd_non, eqd_tints, eqd_lints, eqd_lnil, eqd_tnil, shp_lenc, shp_tenc, List.map_eq_nil_iff]
    refine ⟨mulW 40 40 (by omega) (by omega) (by decide) (by decide) (by decide), by decide, ?_⟩
    unfold w_law_more_3
    simp only [wsR, wsX, wsA, wsI, wsN, wsRN, wsBk, wsCt, wsP, wsS, wsF, wsW, wAndV, wOrV, wNotV, wIf, wNeg, wCall, wBc, wBn, wCons, wNil, wTup, wLst, wOp, wCh, Bd.wT, wTr, wMn, wMe, wMe0, apF, popF, mtD, wPm, isTupD, cntF, ssF, lsF, wPA, wPC, reprF, wIxN, wLcN, wiZN, wsP3, wDct0, frzs_enc2, solids_enc2, solid_enc2, wBack, backD, intF, minPF, wAnd, wOr, Bd.wNot, wYes, wSl, wSo, wNo, wN_eq, wV_eq, wM_eq, getD0, getDs, nB_non, nB_bl, nB_int, nB_str, nB_opq, nB_own, nB_shr, nB_con, nB_down, nB_dshr, nB_dcon, nB_tup, nE_non, nE_bl, nE_int, nE_str, nE_opq, nE_own, nE_shr, nE_con, nE_down, nE_dshr, nE_dcon, nE_tup, nM_non, nM_bl, nM_int, nM_str, nM_opq, nM_own, nM_shr, nM_con, nM_down, nM_dshr, nM_dcon, nM_tup, wB, wC, c1, c2, isiF, lenF, sumF, maxF, minF, max2F, min2F, absF, divF, listF, tupF, sortF, allF, anyF, addD, mulD, Bd.intD, intD0, isB, truW, gb, gbs, outs, gN, gi1, gsC, gsN, gT, gS, gSn, evL, takeL, wBL, th_lst, th_dct, th_tup, th_int, th_bl, th_str, th_non, th_opq, setD, ixD, slD, isD, wCallF, wLc, wiS, wiZ, wiE, wiR1, wiR2, wiR3, seqQ, solids, D.solid, ints_solid, ints_frz, frzs, D.frz, List.set_cons_zero, List.set_cons_succ, if_true, if_false, Bool.false_eq_true, true_and, and_true, ite_true, ite_false, List.cons_append, List.nil_append, wipeD, reduceIte, List.length_cons, List.length_nil, reduceCtorEq, tyN_bool, tyN_int, tyN_str, tyN_tuple, tyN_list, tyN_dict, tyS_non, tyS_bl, tyS_int, tyS_str, tyS_tup, tyS_lst, tyS_dct, isi_non_bool, isi_non_int, isi_non_str, isi_non_tuple, isi_non_list, isi_non_dict, isi_bl_bool, isi_bl_int, isi_bl_str, isi_bl_tuple, isi_bl_list, isi_bl_dict, isi_int_bool, isi_int_int, isi_int_str, isi_int_tuple, isi_int_list, isi_int_dict, isi_str_bool, isi_str_int, isi_str_str, isi_str_tuple, isi_str_list, isi_str_dict, isi_tup_bool, isi_tup_int, isi_tup_str, isi_tup_tuple, isi_tup_list, isi_tup_dict, isi_lst_bool, isi_lst_int, isi_lst_str, isi_lst_tuple, isi_lst_list, isi_lst_dict, isi_dct_bool, isi_dct_int, isi_dct_str, isi_dct_tuple, isi_dct_list, isi_dct_dict, List.length_map, Bool.not_true, Bool.not_false, eqD, neD, eqTx, neTx, dec_if, dec_ifn, Bool.not_not, at0, at1, at2, ix0, ix1, ix2, Bd.ints_map, Bd.bls_map, Option.some.injEq, exists_eq_left', memD_lst, memD_tup, memD_str, isIn_nil, isIn_cons, isIn_ints, scal_int, scal_str, scal_bl, scal_non, scals_nil, scals_cons, scals_ints, shp_l1i, shp_l2i, shp_l3i, shp_t1i, shp_t2i, shp_t3i, dec_or, dec_orf, Bool.and_self, shp_non, shp_bl, shp_int, shp_tints, shp_lints, shp_tnil, shp_lnil, eqd_int, eqd_str, eqd_bl, eqd_non, eqd_tints, eqd_lints, eqd_lnil, eqd_tnil, shp_lenc, shp_tenc, List.map_eq_nil_iff]
    have b1 := two_le (i := 16 * i) (j := 500) (by omega)
    refine ⟨mulW 500 40 (by omega) (by omega) (by decide) (by decide) (by decide), divW 10 (by decide) (by decide) (by decide), by decide, ?_⟩
    generalize hq : (b' * 48271 + 30269) % 2147483647 = q
    have e : (2 : Int) ^ (16 * (i + 1)) = 2 ^ (16 * i) * 65536 := by rw [Nat.mul_add, Int.pow_add]; rfl
    refine hk _ ⟨_, q, _, rfl, ⟨by omega, by omega⟩, by omega, ?_⟩
    rw [e]
    omega
  · rintro ρ ⟨n, b', d1, rfl, hb, hn0, hn1⟩
    have b1 := two_le (i := 16 * (rgL 0 (Int.toNat 12)).length) (j := 200) (by simp [rgL])
    unfold w_law_more_4 box
    simp only [wsR, wsX, wsA, wsI, wsN, wsRN, wsBk, wsCt, wsP, wsS, wsF, wsW, wAndV, wOrV, wNotV, wIf, wNeg, wCall, wBc, wBn, wCons, wNil, wTup, wLst, wOp, wCh, Bd.wT, wTr, wMn, wMe, wMe0, apF, popF, mtD, wPm, isTupD, cntF, ssF, lsF, wPA, wPC, reprF, wIxN, wLcN, wiZN, wsP3, wDct0, frzs_enc2, solids_enc2, solid_enc2, wBack, backD, intF, minPF, wAnd, wOr, Bd.wNot, wYes, wSl, wSo, wNo, wN_eq, wV_eq, wM_eq, getD0, getDs, nB_non, nB_bl, nB_int, nB_str, nB_opq, nB_own, nB_shr, nB_con, nB_down, nB_dshr, nB_dcon, nB_tup, nE_non, nE_bl, nE_int, nE_str, nE_opq, nE_own, nE_shr, nE_con, nE_down, nE_dshr, nE_dcon, nE_tup, nM_non, nM_bl, nM_int, nM_str, nM_opq, nM_own, nM_shr, nM_con, nM_down, nM_dshr, nM_dcon, nM_tup, wB, wC, c1, c2, isiF, lenF, sumF, maxF, minF, max2F, min2F, absF, divF, listF, tupF, sortF, allF, anyF, addD, mulD, Bd.intD, intD0, isB, truW, gb, gbs, outs, gN, gi1, gsC, gsN, gT, gS, gSn, evL, takeL, wBL, th_lst, th_dct, th_tup, th_int, th_bl, th_str, th_non, th_opq, setD, ixD, slD, isD, wCallF, wLc, wiS, wiZ, wiE, wiR1, wiR2, wiR3, seqQ, solids, D.solid, ints_solid, ints_frz, frzs, D.frz, List.set_cons_zero, List.set_cons_succ, if_true, if_false, Bool.false_eq_true, true_and, and_true, ite_true, ite_false, List.cons_append, List.nil_append, wipeD, reduceIte, List.length_cons, List.length_nil, reduceCtorEq, tyN_bool, tyN_int, tyN_str, tyN_tuple, tyN_list, tyN_dict, tyS_non, tyS_bl, tyS_int, tyS_str, tyS_tup, tyS_lst, tyS_dct, isi_non_bool, isi_non_int, isi_non_str, isi_non_tuple, isi_non_list, isi_non_dict, isi_bl_bool, isi_bl_int, isi_bl_str, isi_bl_tuple, isi_bl_list, isi_bl_dict, isi_int_bool, isi_int_int, isi_int_str, isi_int_tuple, isi_int_list, isi_int_dict, isi_str_bool, isi_str_int, isi_str_str, isi_str_tuple, isi_str_list, isi_str_dict, isi_tup_bool, isi_tup_int, isi_tup_str, isi_tup_tuple, isi_tup_list, isi_tup_dict, isi_lst_bool, isi_lst_int, isi_lst_str, isi_lst_tuple, isi_lst_list, isi_lst_dict, isi_dct_bool, isi_dct_int, isi_dct_str, isi_dct_tuple, isi_dct_list, isi_dct_dict, List.length_map, Bool.not_true, Bool.not_false, eqD, neD, eqTx, neTx, dec_if, dec_ifn, Bool.not_not, at0, at1, at2, ix0, ix1, ix2, Bd.ints_map, Bd.bls_map, Option.some.injEq, exists_eq_left', memD_lst, memD_tup, memD_str, isIn_nil, isIn_cons, isIn_ints, scal_int, scal_str, scal_bl, scal_non, scals_nil, scals_cons, scals_ints, shp_l1i, shp_l2i, shp_l3i, shp_t1i, shp_t2i, shp_t3i, dec_or, dec_orf, Bool.and_self, shp_non, shp_bl, shp_int, shp_tints, shp_lints, shp_tnil, shp_lnil, eqd_int, eqd_str, eqd_bl, eqd_non, eqd_tints, eqd_lints, eqd_lnil, eqd_tnil, shp_lenc, shp_tenc, List.map_eq_nil_iff]
    exact h2 n b' hb hn0 (by omega)
theorem r_law_take : Tells S_law_take [true, true] 2 w_law_take := by
  rintro ds Q E ⟨a, b, c, rfl, h1, h2, h3, h4⟩
  show w_law_take _ _ [box a b, .int c, .gone, .gone]
  generalize (fun (c : Str) (ns : List Int) ρ => E c ns (outs [true, true] ρ)) = Ex
  have rest : ∀ a b : Int, bOk b → wsS (w_law_take_2 Ex) (wsS (w_law_take_3 Ex) (w_law_take_4 Ex)) { nx := fun ρ => Q D.non (outs [true, true] ρ), rt := fun d ρ => Q d (outs [true, true] ρ) } [box a b, .int c, .gone, .gone] := by
    intro a b hb
    unfold w_law_take_2 box
    simp only [wsR, wsX, wsA, wsI, wsN, wsRN, wsBk, wsCt, wsP, wsS, wsF, wsW, wAndV, wOrV, wNotV, wIf, wNeg, wCall, wBc, wBn, wCons, wNil, wTup, wLst, wOp, wCh, Bd.wT, wTr, wMn, wMe, wMe0, apF, popF, mtD, wPm, isTupD, cntF, ssF, lsF, wPA, wPC, reprF, wIxN, wLcN, wiZN, wsP3, wDct0, frzs_enc2, solids_enc2, solid_enc2, wBack, backD, intF, minPF, wAnd, wOr, Bd.wNot, wYes, wSl, wSo, wNo, wN_eq, wV_eq, wM_eq, getD0, getDs, nB_non, nB_bl, nB_int, nB_str, nB_opq, nB_own, nB_shr, nB_con, nB_down, nB_dshr, nB_dcon, nB_tup, nE_non, nE_bl, nE_int, nE_str, nE_opq, nE_own, nE_shr, nE_con, nE_down, nE_dshr, nE_dcon, nE_tup, nM_non, nM_bl, nM_int, nM_str, nM_opq, nM_own, nM_shr, nM_con, nM_down, nM_dshr, nM_dcon, nM_tup, wB, wC, c1, c2, isiF, lenF, sumF, maxF, minF, max2F, min2F, absF, divF, listF, tupF, sortF, allF, anyF, addD, mulD, Bd.intD, intD0, isB, truW, gb, gbs, outs, gN, gi1, gsC, gsN, gT, gS, gSn, evL, takeL, wBL, th_lst, th_dct, th_tup, th_int, th_bl, th_str, th_non, th_opq, setD, ixD, slD, isD, wCallF, wLc, wiS, wiZ, wiE, wiR1, wiR2, wiR3, seqQ, solids, D.solid, ints_solid, ints_frz, frzs, D.frz, List.set_cons_zero, List.set_cons_succ, if_true, if_false, Bool.false_eq_true, true_and, and_true, ite_true, ite_false, List.cons_append, List.nil_append, wipeD, reduceIte, List.length_cons, List.length_nil, reduceCtorEq, tyN_bool, tyN_int, tyN_str, tyN_tuple, tyN_list, tyN_dict, tyS_non, tyS_bl, tyS_int, tyS_str, tyS_tup, tyS_lst, tyS_dct, isi_non_bool, isi_non_int, isi_non_str, isi_non_tuple, isi_non_list, isi_non_dict, isi_bl_bool, isi_bl_int, isi_bl_str, isi_bl_tuple, isi_bl_list, isi_bl_dict, isi_int_bool, isi_int_int, isi_int_str, isi_int_tuple, isi_int_list, isi_int_dict, isi_str_bool, isi_str_int, isi_str_str, isi_str_tuple, isi_str_list, isi_str_dict, isi_tup_bool, isi_tup_int, isi_tup_str, isi_tup_tuple, isi_tup_list, isi_tup_dict, isi_lst_bool, isi_lst_int, isi_lst_str, isi_lst_tuple, isi_lst_list, isi_lst_dict, isi_dct_bool, isi_dct_int, isi_dct_str, isi_dct_tuple, isi_dct_list, isi_dct_dict, List.length_map, Bool.not_true, Bool.not_false, eqD, neD, eqTx, neTx, dec_if, dec_ifn, Bool.not_not, at0, at1, at2, ix0, ix1, ix2, Bd.ints_map, Bd.bls_map, Option.some.injEq, exists_eq_left', memD_lst, memD_tup, memD_str, isIn_nil, isIn_cons, isIn_ints, scal_int, scal_str, scal_bl, scal_non, scals_nil, scals_cons, scals_ints, shp_l1i, shp_l2i, shp_l3i, shp_t1i, shp_t2i, shp_t3i, dec_or, dec_orf, Bool.and_self, shp_non, shp_bl, shp_int, shp_tints, shp_lints, shp_tnil, shp_lnil, eqd_int, eqd_str, eqd_bl, eqd_non, eqd_tints, eqd_lints, eqd_lnil, eqd_tnil, shp_lenc, shp_tenc, List.map_eq_nil_iff]
    refine ⟨⟨by omega, (divW (i := 0) 50 (by omega) (by omega) (by decide)).2⟩, ?_⟩
    unfold w_law_take_3
    simp only [wsR, wsX, wsA, wsI, wsN, wsRN, wsBk, wsCt, wsP, wsS, wsF, wsW, wAndV, wOrV, wNotV, wIf, wNeg, wCall, wBc, wBn, wCons, wNil, wTup, wLst, wOp, wCh, Bd.wT, wTr, wMn, wMe, wMe0, apF, popF, mtD, wPm, isTupD, cntF, ssF, lsF, wPA, wPC, reprF, wIxN, wLcN, wiZN, wsP3, wDct0, frzs_enc2, solids_enc2, solid_enc2, wBack, backD, intF, minPF, wAnd, wOr, Bd.wNot, wYes, wSl, wSo, wNo, wN_eq, wV_eq, wM_eq, getD0, getDs, nB_non, nB_bl, nB_int, nB_str, nB_opq, nB_own, nB_shr, nB_con, nB_down, nB_dshr, nB_dcon, nB_tup, nE_non, nE_bl, nE_int, nE_str, nE_opq, nE_own, nE_shr, nE_con, nE_down, nE_dshr, nE_dcon, nE_tup, nM_non, nM_bl, nM_int, nM_str, nM_opq, nM_own, nM_shr, nM_con, nM_down, nM_dshr, nM_dcon, nM_tup, wB, wC, c1, c2, isiF, lenF, sumF, maxF, minF, max2F, min2F, absF, divF, listF, tupF, sortF, allF, anyF, addD, mulD, Bd.intD, intD0, isB, truW, gb, gbs, outs, gN, gi1, gsC, gsN, gT, gS, gSn, evL, takeL, wBL, th_lst, th_dct, th_tup, th_int, th_bl, th_str, th_non, th_opq, setD, ixD, slD, isD, wCallF, wLc, wiS, wiZ, wiE, wiR1, wiR2, wiR3, seqQ, solids, D.solid, ints_solid, ints_frz, frzs, D.frz, List.set_cons_zero, List.set_cons_succ, if_true, if_false, Bool.false_eq_true, true_and, and_true, ite_true, ite_false, List.cons_append, List.nil_append, wipeD, reduceIte, List.length_cons, List.length_nil, reduceCtorEq, tyN_bool, tyN_int, tyN_str, tyN_tuple, tyN_list, tyN_dict, tyS_non, tyS_bl, tyS_int, tyS_str, tyS_tup, tyS_lst, tyS_dct, isi_non_bool, isi_non_int, isi_non_str, isi_non_tuple, isi_non_list, isi_non_dict, isi_bl_bool, isi_bl_int, isi_bl_str, isi_bl_tuple, isi_bl_list, isi_bl_dict, isi_int_bool, isi_int_int, isi_int_str, isi_int_tuple, isi_int_list, isi_int_dict, isi_str_bool, isi_str_int, isi_str_str, isi_str_tuple, isi_str_list, isi_str_dict, isi_tup_bool, isi_tup_int, isi_tup_str, isi_tup_tuple, isi_tup_list, isi_tup_dict, isi_lst_bool, isi_lst_int, isi_lst_str, isi_lst_tuple, isi_lst_list, isi_lst_dict, isi_dct_bool, isi_dct_int, isi_dct_str, isi_dct_tuple, isi_dct_list, isi_dct_dict, List.length_map, Bool.not_true, Bool.not_false, eqD, neD, eqTx, neTx, dec_if, dec_ifn, Bool.not_not, at0, at1, at2, ix0, ix1, ix2, Bd.ints_map, Bd.bls_map, Option.some.injEq, exists_eq_left', memD_lst, memD_tup, memD_str, isIn_nil, isIn_cons, isIn_ints, scal_int, scal_str, scal_bl, scal_non, scals_nil, scals_cons, scals_ints, shp_l1i, shp_l2i, shp_l3i, shp_t1i, shp_t2i, shp_t3i, dec_or, dec_orf, Bool.and_self, shp_non, shp_bl, shp_int, shp_tints, shp_lints, shp_tnil, shp_lnil, eqd_int, eqd_str, eqd_bl, eqd_non, eqd_tints, eqd_lints, eqd_lnil, eqd_tnil, shp_lenc, shp_tenc, List.map_eq_nil_iff]
    unfold w_law_take_4
    simp only [wsR, wsX, wsA, wsI, wsN, wsRN, wsBk, wsCt, wsP, wsS, wsF, wsW, wAndV, wOrV, wNotV, wIf, wNeg, wCall, wBc, wBn, wCons, wNil, wTup, wLst, wOp, wCh, Bd.wT, wTr, wMn, wMe, wMe0, apF, popF, mtD, wPm, isTupD, cntF, ssF, lsF, wPA, wPC, reprF, wIxN, wLcN, wiZN, wsP3, wDct0, frzs_enc2, solids_enc2, solid_enc2, wBack, backD, intF, minPF, wAnd, wOr, Bd.wNot, wYes, wSl, wSo, wNo, wN_eq, wV_eq, wM_eq, getD0, getDs, nB_non, nB_bl, nB_int, nB_str, nB_opq, nB_own, nB_shr, nB_con, nB_down, nB_dshr, nB_dcon, nB_tup, nE_non, nE_bl, nE_int, nE_str, nE_opq, nE_own, nE_shr, nE_con, nE_down, nE_dshr, nE_dcon, nE_tup, nM_non, nM_bl, nM_int, nM_str, nM_opq, nM_own, nM_shr, nM_con, nM_down, nM_dshr, nM_dcon, nM_tup, wB, wC, c1, c2, isiF, lenF, sumF, maxF, minF, max2F, min2F, absF, divF, listF, tupF, sortF, allF, anyF, addD, mulD, Bd.intD, intD0, isB, truW, gb, gbs, outs, gN, gi1, gsC, gsN, gT, gS, gSn, evL, takeL, wBL, th_lst, th_dct, th_tup, th_int, th_bl, th_str, th_non, th_opq, setD, ixD, slD, isD, wCallF, wLc, wiS, wiZ, wiE, wiR1, wiR2, wiR3, seqQ, solids, D.solid, ints_solid, ints_frz, frzs, D.frz, List.set_cons_zero, List.set_cons_succ, if_true, if_false, Bool.false_eq_true, true_and, and_true, ite_true, ite_false, List.cons_append, List.nil_append, wipeD, reduceIte, List.length_cons, List.length_nil, reduceCtorEq, tyN_bool, tyN_int, tyN_str, tyN_tuple, tyN_list, tyN_dict, tyS_non, tyS_bl, tyS_int, tyS_str, tyS_tup, tyS_lst, tyS_dct, isi_non_bool, isi_non_int, isi_non_str, isi_non_tuple, isi_non_list, isi_non_dict, isi_bl_bool, isi_bl_int, isi_bl_str, isi_bl_tuple, isi_bl_list, isi_bl_dict, isi_int_bool, isi_int_int, isi_int_str, isi_int_tuple, isi_int_list, isi_int_dict, isi_str_bool, isi_str_int, isi_str_str, isi_str_tuple, isi_str_list, isi_str_dict, isi_tup_bool, isi_tup_int, isi_tup_str, isi_tup_tuple, isi_tup_list, isi_tup_dict, isi_lst_bool, isi_lst_int, isi_lst_str, isi_lst_tuple, isi_lst_list, isi_lst_dict, isi_dct_bool, isi_dct_int, isi_dct_str, isi_dct_tuple, isi_dct_list, isi_dct_dict, List.length_map, Bool.not_true, Bool.not_false, eqD, neD, eqTx, neTx, dec_if, dec_ifn, Bool.not_not, at0, at1, at2, ix0, ix1, ix2, Bd.ints_map, Bd.bls_map, Option.some.injEq, exists_eq_left', memD_lst, memD_tup, memD_str, isIn_nil, isIn_cons, isIn_ints, scal_int, scal_str, scal_bl, scal_non, scals_nil, scals_cons, scals_ints, shp_l1i, shp_l2i, shp_l3i, shp_t1i, shp_t2i, shp_t3i, dec_or, dec_orf, Bool.and_self, shp_non, shp_bl, shp_int, shp_tints, shp_lints, shp_tnil, shp_lnil, eqd_int, eqd_str, eqd_bl, eqd_non, eqd_tints, eqd_lints, eqd_lnil, eqd_tnil, shp_lenc, shp_tenc, List.map_eq_nil_iff]
    exact h4 _ b _ hb (Int.emod_nonneg _ (by omega)) (Int.emod_lt_of_pos _ (by omega))
  unfold w_law_take w_law_take_0 box
  simp only [wsR, wsX, wsA, wsI, wsN, wsRN, wsBk, wsCt, wsP, wsS, wsF, wsW, wAndV, wOrV, wNotV, wIf, wNeg, wCall, wBc, wBn, wCons, wNil, wTup, wLst, wOp, wCh, Bd.wT, wTr, wMn, wMe, wMe0, apF, popF, mtD, wPm, isTupD, cntF, ssF, lsF, wPA, wPC, reprF, wIxN, wLcN, wiZN, wsP3, wDct0, frzs_enc2, solids_enc2, solid_enc2, wBack, backD, intF, minPF, wAnd, wOr, Bd.wNot, wYes, wSl, wSo, wNo, wN_eq, wV_eq, wM_eq, getD0, getDs, nB_non, nB_bl, nB_int, nB_str, nB_opq, nB_own, nB_shr, nB_con, nB_down, nB_dshr, nB_dcon, nB_tup, nE_non, nE_bl, nE_int, nE_str, nE_opq, nE_own, nE_shr, nE_con, nE_down, nE_dshr, nE_dcon, nE_tup, nM_non, nM_bl, nM_int, nM_str, nM_opq, nM_own, nM_shr, nM_con, nM_down, nM_dshr, nM_dcon, nM_tup, wB, wC, c1, c2, isiF, lenF, sumF, maxF, minF, max2F, min2F, absF, divF, listF, tupF, sortF, allF, anyF, addD, mulD, Bd.intD, intD0, isB, truW, gb, gbs, outs, gN, gi1, gsC, gsN, gT, gS, gSn, evL, takeL, wBL, th_lst, th_dct, th_tup, th_int, th_bl, th_str, th_non, th_opq, setD, ixD, slD, isD, wCallF, wLc, wiS, wiZ, wiE, wiR1, wiR2, wiR3, seqQ, solids, D.solid, ints_solid, ints_frz, frzs, D.frz, List.set_cons_zero, List.set_cons_succ, if_true, if_false, Bool.false_eq_true, true_and, and_true, ite_true, ite_false, List.cons_append, List.nil_append, wipeD, reduceIte, List.length_cons, List.length_nil, reduceCtorEq, tyN_bool, tyN_int, tyN_str, tyN_tuple, tyN_list, tyN_dict, tyS_non, tyS_bl, tyS_int, tyS_str, tyS_tup, tyS_lst, tyS_dct, isi_non_bool, isi_non_int, isi_non_str, isi_non_tuple, isi_non_list, isi_non_dict, isi_bl_bool, isi_bl_int, isi_bl_str, isi_bl_tuple, isi_bl_list, isi_bl_dict, isi_int_bool, isi_int_int, isi_int_str, isi_int_tuple, isi_int_list, isi_int_dict, isi_str_bool, isi_str_int, isi_str_str, isi_str_tuple, isi_str_list, isi_str_dict, isi_tup_bool, isi_tup_int, isi_tup_str, isi_tup_tuple, isi_tup_list, isi_tup_dict, isi_lst_bool, isi_lst_int, isi_lst_str, isi_lst_tuple, isi_lst_list, isi_lst_dict, isi_dct_bool, isi_dct_int, isi_dct_str, isi_dct_tuple, isi_dct_list, isi_dct_dict, List.length_map, Bool.not_true, Bool.not_false, eqD, neD, eqTx, neTx, dec_if, dec_ifn, Bool.not_not, at0, at1, at2, ix0, ix1, ix2, Bd.ints_map, Bd.bls_map, Option.some.injEq, exists_eq_left', memD_lst, memD_tup, memD_str, isIn_nil, isIn_cons, isIn_ints, scal_int, scal_str, scal_bl, scal_non, scals_nil, scals_cons, scals_ints, shp_l1i, shp_l2i, shp_l3i, shp_t1i, shp_t2i, shp_t3i, dec_or, dec_orf, Bool.and_self, shp_non, shp_bl, shp_int, shp_tints, shp_lints, shp_tnil, shp_lnil, eqd_int, eqd_str, eqd_bl, eqd_non, eqd_tints, eqd_lints, eqd_lnil, eqd_tnil, shp_lenc, shp_tenc, List.map_eq_nil_iff]
  by_cases ha : 0 ≤ a
  · rw [if_pos ha]
    by_cases hc : a < c
    · simp only [hc, decide_true, if_true]
      unfold w_law_take_1
      simp only [wsR, wsX, wsA, wsI, wsN, wsRN, wsBk, wsCt, wsP, wsS, wsF, wsW, wAndV, wOrV, wNotV, wIf, wNeg, wCall, wBc, wBn, wCons, wNil, wTup, wLst, wOp, wCh, Bd.wT, wTr, wMn, wMe, wMe0, apF, popF, mtD, wPm, isTupD, cntF, ssF, lsF, wPA, wPC, reprF, wIxN, wLcN, wiZN, wsP3, wDct0, frzs_enc2, solids_enc2, solid_enc2, wBack, backD, intF, minPF, wAnd, wOr, Bd.wNot, wYes, wSl, wSo, wNo, wN_eq, wV_eq, wM_eq, getD0, getDs, nB_non, nB_bl, nB_int, nB_str, nB_opq, nB_own, nB_shr, nB_con, nB_down, nB_dshr, nB_dcon, nB_tup, nE_non, nE_bl, nE_int, nE_str, nE_opq, nE_own, nE_shr, nE_con, nE_down, nE_dshr, nE_dcon, nE_tup, nM_non, nM_bl, nM_int, nM_str, nM_opq, nM_own, nM_shr, nM_con, nM_down, nM_dshr, nM_dcon, nM_tup, wB, wC, c1, c2, isiF, lenF, sumF, maxF, minF, max2F, min2F, absF, divF, listF, tupF, sortF, allF, anyF, addD, mulD, Bd.intD, intD0, isB, truW, gb, gbs, outs, gN, gi1, gsC, gsN, gT, gS, gSn, evL, takeL, wBL, th_lst, th_dct, th_tup, th_int, th_bl, th_str, th_non, th_opq, setD, ixD, slD, isD, wCallF, wLc, wiS, wiZ, wiE, wiR1, wiR2, wiR3, seqQ, solids, D.solid, ints_solid, ints_frz, frzs, D.frz, List.set_cons_zero, List.set_cons_succ, if_true, if_false, Bool.false_eq_true, true_and, and_true, ite_true, ite_false, List.cons_append, List.nil_append, wipeD, reduceIte, List.length_cons, List.length_nil, reduceCtorEq, tyN_bool, tyN_int, tyN_str, tyN_tuple, tyN_list, tyN_dict, tyS_non, tyS_bl, tyS_int, tyS_str, tyS_tup, tyS_lst, tyS_dct, isi_non_bool, isi_non_int, isi_non_str, isi_non_tuple, isi_non_list, isi_non_dict, isi_bl_bool, isi_bl_int, isi_bl_str, isi_bl_tuple, isi_bl_list, isi_bl_dict, isi_int_bool, isi_int_int, isi_int_str, isi_int_tuple, isi_int_list, isi_int_dict, isi_str_bool, isi_str_int, isi_str_str, isi_str_tuple, isi_str_list, isi_str_dict, isi_tup_bool, isi_tup_int, isi_tup_str, isi_tup_tuple, isi_tup_list, isi_tup_dict, isi_lst_bool, isi_lst_int, isi_lst_str, isi_lst_tuple, isi_lst_list, isi_lst_dict, isi_dct_bool, isi_dct_int, isi_dct_str, isi_dct_tuple, isi_dct_list, isi_dct_dict, List.length_map, Bool.not_true, Bool.not_false, eqD, neD, eqTx, neTx, dec_if, dec_ifn, Bool.not_not, at0, at1, at2, ix0, ix1, ix2, Bd.ints_map, Bd.bls_map, Option.some.injEq, exists_eq_left', memD_lst, memD_tup, memD_str, isIn_nil, isIn_cons, isIn_ints, scal_int, scal_str, scal_bl, scal_non, scals_nil, scals_cons, scals_ints, shp_l1i, shp_l2i, shp_l3i, shp_t1i, shp_t2i, shp_t3i, dec_or, dec_orf, Bool.and_self, shp_non, shp_bl, shp_int, shp_tints, shp_lints, shp_tnil, shp_lnil, eqd_int, eqd_str, eqd_bl, eqd_non, eqd_tints, eqd_lints, eqd_lnil, eqd_tnil, shp_lenc, shp_tenc, List.map_eq_nil_iff]
      refine ⟨a, b, rfl, h1, fun n b' hb hn0 hn1 => ?_⟩
      simp only [wsR, wsX, wsA, wsI, wsN, wsRN, wsBk, wsCt, wsP, wsS, wsF, wsW, wAndV, wOrV, wNotV, wIf, wNeg, wCall, wBc, wBn, wCons, wNil, wTup, wLst, wOp, wCh, Bd.wT, wTr, wMn, wMe, wMe0, apF, popF, mtD, wPm, isTupD, cntF, ssF, lsF, wPA, wPC, reprF, wIxN, wLcN, wiZN, wsP3, wDct0, frzs_enc2, solids_enc2, solid_enc2, wBack, backD, intF, minPF, wAnd, wOr, Bd.wNot, wYes, wSl, wSo, wNo, wN_eq, wV_eq, wM_eq, getD0, getDs, nB_non, nB_bl, nB_int, nB_str, nB_opq, nB_own, nB_shr, nB_con, nB_down, nB_dshr, nB_dcon, nB_tup, nE_non, nE_bl, nE_int, nE_str, nE_opq, nE_own, nE_shr, nE_con, nE_down, nE_dshr, nE_dcon, nE_tup, nM_non, nM_bl, nM_int, nM_str, nM_opq, nM_own, nM_shr, nM_con, nM_down, nM_dshr, nM_dcon, nM_tup, wB, wC, c1, c2, isiF, lenF, sumF, maxF, minF, max2F, min2F, absF, divF, listF, tupF, sortF, allF, anyF, addD, mulD, Bd.intD, intD0, isB, truW, gb, gbs, outs, gN, gi1, gsC, gsN, gT, gS, gSn, evL, takeL, wBL, th_lst, th_dct, th_tup, th_int, th_bl, th_str, th_non, th_opq, setD, ixD, slD, isD, wCallF, wLc, wiS, wiZ, wiE, wiR1, wiR2, wiR3, seqQ, solids, D.solid, ints_solid, ints_frz, frzs, D.frz, List.set_cons_zero, List.set_cons_succ, if_true, if_false, Bool.false_eq_true, true_and, and_true, ite_true, ite_false, List.cons_append, List.nil_append, wipeD, reduceIte, List.length_cons, List.length_nil, reduceCtorEq, tyN_bool, tyN_int, tyN_str, tyN_tuple, tyN_list, tyN_dict, tyS_non, tyS_bl, tyS_int, tyS_str, tyS_tup, tyS_lst, tyS_dct, isi_non_bool, isi_non_int, isi_non_str, isi_non_tuple, isi_non_list, isi_non_dict, isi_bl_bool, isi_bl_int, isi_bl_str, isi_bl_tuple, isi_bl_list, isi_bl_dict, isi_int_bool, isi_int_int, isi_int_str, isi_int_tuple, isi_int_list, isi_int_dict, isi_str_bool, isi_str_int, isi_str_str, isi_str_tuple, isi_str_list, isi_str_dict, isi_tup_bool, isi_tup_int, isi_tup_str, isi_tup_tuple, isi_tup_list, isi_tup_dict, isi_lst_bool, isi_lst_int, isi_lst_str, isi_lst_tuple, isi_lst_list, isi_lst_dict, isi_dct_bool, isi_dct_int, isi_dct_str, isi_dct_tuple, isi_dct_list, isi_dct_dict, List.length_map, Bool.not_true, Bool.not_false, eqD, neD, eqTx, neTx, dec_if, dec_ifn, Bool.not_not, at0, at1, at2, ix0, ix1, ix2, Bd.ints_map, Bd.bls_map, Option.some.injEq, exists_eq_left', memD_lst, memD_tup, memD_str, isIn_nil, isIn_cons, isIn_ints, scal_int, scal_str, scal_bl, scal_non, scals_nil, scals_cons, scals_ints, shp_l1i, shp_l2i, shp_l3i, shp_t1i, shp_t2i, shp_t3i, dec_or, dec_orf, Bool.and_self, shp_non, shp_bl, shp_int, shp_tints, shp_lints, shp_tnil, shp_lnil, eqd_int, eqd_str, eqd_bl, eqd_non, eqd_tints, eqd_lints, eqd_lnil, eqd_tnil, shp_lenc, shp_tenc, List.map_eq_nil_iff, box]
      refine ⟨mulW 50 300 (by omega) (by omega) (by omega) (by omega) (by decide), ?_⟩
      exact rest _ _ hb
    · simp only [hc, decide_false, Bool.false_eq_true, if_false]
      exact rest _ _ h1
  · rw [if_neg ha]
    exact rest _ _ h1
theorem le_sum {x : Int} : ∀ {l : List Int}, (∀ p ∈ l, 0 ≤ p) → x ∈ l → x ≤ l.sum
  | y :: r, h, hx => by
    have h0 := h y List.mem_cons_self
    have hr : 0 ≤ r.sum := by
      clear hx
      have hr : ∀ p ∈ r, 0 ≤ p := fun p hp => h p (List.mem_cons_of_mem _ hp)
      clear h
      induction r with
      | nil => simp
      | cons z r ih =>
        have h1 := hr z List.mem_cons_self
        have h2 := ih fun p hp => hr p (List.mem_cons_of_mem _ hp)
        rw [List.sum_cons]; omega
    rw [List.sum_cons]
    rcases List.mem_cons.mp hx with rfl | hx
    · omega
    · have := le_sum (fun p hp => h p (List.mem_cons_of_mem _ hp)) hx
      omega
end K07

namespace K07
open PySem PySem.Spec PyProof.Rows L2 Bd
theorem r_law_parts : Tells S_law_parts [true] 3 w_law_parts := by
  rintro ds Q E ⟨a, b, rfl, h1, h2⟩
  show w_law_parts _ _ [box a b, .gone, .gone, .gone]
  generalize (fun (c : Str) (ns : List Int) ρ => E c ns (outs [true] ρ)) = Ex
  have fin : ∀ (a b most : Int) (ps : List Int), bOk b → frontsOk ps → w_law_parts_6 Ex { nx := fun ρ => Q D.non (outs [true] ρ), rt := fun d ρ => Q d (outs [true] ρ) } [D.lst M.own [D.int a, D.int b], D.int most, D.lst M.own (List.map D.int ps), D.gone] := by
    intro a b most ps hb hf
    unfold w_law_parts_6
    simp only [wsR, wsX, wsA, wsI, wsN, wsRN, wsBk, wsCt, wsP, wsS, wsF, wsW, wAndV, wOrV, wNotV, wIf, wNeg, wCall, wBc, wBn, wCons, wNil, wTup, wLst, wOp, wCh, Bd.wT, wTr, wMn, wMe, wMe0, apF, popF, mtD, wPm, isTupD, cntF, ssF, lsF, wPA, wPC, reprF, wIxN, wLcN, wiZN, wsP3, wDct0, frzs_enc2, solids_enc2, solid_enc2, wBack, backD, intF, minPF, wAnd, wOr, Bd.wNot, wYes, wSl, wSo, wNo, wN_eq, wV_eq, wM_eq, getD0, getDs, nB_non, nB_bl, nB_int, nB_str, nB_opq, nB_own, nB_shr, nB_con, nB_down, nB_dshr, nB_dcon, nB_tup, nE_non, nE_bl, nE_int, nE_str, nE_opq, nE_own, nE_shr, nE_con, nE_down, nE_dshr, nE_dcon, nE_tup, nM_non, nM_bl, nM_int, nM_str, nM_opq, nM_own, nM_shr, nM_con, nM_down, nM_dshr, nM_dcon, nM_tup, wB, wC, c1, c2, isiF, lenF, sumF, maxF, minF, max2F, min2F, absF, divF, listF, tupF, sortF, allF, anyF, addD, mulD, Bd.intD, intD0, isB, truW, gb, gbs, outs, gN, gi1, gsC, gsN, gT, gS, gSn, evL, takeL, wBL, th_lst, th_dct, th_tup, th_int, th_bl, th_str, th_non, th_opq, setD, ixD, slD, isD, wCallF, wLc, wiS, wiZ, wiE, wiR1, wiR2, wiR3, seqQ, solids, D.solid, ints_solid, ints_frz, frzs, D.frz, List.set_cons_zero, List.set_cons_succ, if_true, if_false, Bool.false_eq_true, true_and, and_true, ite_true, ite_false, List.cons_append, List.nil_append, wipeD, reduceIte, List.length_cons, List.length_nil, reduceCtorEq, tyN_bool, tyN_int, tyN_str, tyN_tuple, tyN_list, tyN_dict, tyS_non, tyS_bl, tyS_int, tyS_str, tyS_tup, tyS_lst, tyS_dct, isi_non_bool, isi_non_int, isi_non_str, isi_non_tuple, isi_non_list, isi_non_dict, isi_bl_bool, isi_bl_int, isi_bl_str, isi_bl_tuple, isi_bl_list, isi_bl_dict, isi_int_bool, isi_int_int, isi_int_str, isi_int_tuple, isi_int_list, isi_int_dict, isi_str_bool, isi_str_int, isi_str_str, isi_str_tuple, isi_str_list, isi_str_dict, isi_tup_bool, isi_tup_int, isi_tup_str, isi_tup_tuple, isi_tup_list, isi_tup_dict, isi_lst_bool, isi_lst_int, isi_lst_str, isi_lst_tuple, isi_lst_list, isi_lst_dict, isi_dct_bool, isi_dct_int, isi_dct_str, isi_dct_tuple, isi_dct_list, isi_dct_dict, List.length_map, Bool.not_true, Bool.not_false, eqD, neD, eqTx, neTx, dec_if, dec_ifn, Bool.not_not, at0, at1, at2, ix0, ix1, ix2, Bd.ints_map, Bd.bls_map, Option.some.injEq, exists_eq_left', memD_lst, memD_tup, memD_str, isIn_nil, isIn_cons, isIn_ints, scal_int, scal_str, scal_bl, scal_non, scals_nil, scals_cons, scals_ints, shp_l1i, shp_l2i, shp_l3i, shp_t1i, shp_t2i, shp_t3i, dec_or, dec_orf, Bool.and_self, shp_non, shp_bl, shp_int, shp_tints, shp_lints, shp_tnil, shp_lnil, eqd_int, eqd_str, eqd_bl, eqd_non, eqd_tints, eqd_lints, eqd_lnil, eqd_tnil, shp_lenc, shp_tenc, List.map_eq_nil_iff]
    exact h2 a b ps hb hf
  have rest3 : ∀ (a b most : Int) (ps : List Int), bOk b → 1 ≤ ps.length → ps.length ≤ 10 → (∀ p ∈ ps, 0 ≤ p ∧ p ≤ 1000) → wsS (w_law_parts_4 Ex) (w_law_parts_6 Ex) { nx := fun ρ => Q D.non (outs [true] ρ), rt := fun d ρ => Q d (outs [true] ρ) } [D.lst M.own [D.int a, D.int b], D.int most, D.lst M.own (List.map D.int ps), D.gone] := by
    intro a b most ps hb hl0 hl1 hps
    unfold w_law_parts_4
    simp only [wsR, wsX, wsA, wsI, wsN, wsRN, wsBk, wsCt, wsP, wsS, wsF, wsW, wAndV, wOrV, wNotV, wIf, wNeg, wCall, wBc, wBn, wCons, wNil, wTup, wLst, wOp, wCh, Bd.wT, wTr, wMn, wMe, wMe0, apF, popF, mtD, wPm, isTupD, cntF, ssF, lsF, wPA, wPC, reprF, wIxN, wLcN, wiZN, wsP3, wDct0, frzs_enc2, solids_enc2, solid_enc2, wBack, backD, intF, minPF, wAnd, wOr, Bd.wNot, wYes, wSl, wSo, wNo, wN_eq, wV_eq, wM_eq, getD0, getDs, nB_non, nB_bl, nB_int, nB_str, nB_opq, nB_own, nB_shr, nB_con, nB_down, nB_dshr, nB_dcon, nB_tup, nE_non, nE_bl, nE_int, nE_str, nE_opq, nE_own, nE_shr, nE_con, nE_down, nE_dshr, nE_dcon, nE_tup, nM_non, nM_bl, nM_int, nM_str, nM_opq, nM_own, nM_shr, nM_con, nM_down, nM_dshr, nM_dcon, nM_tup, wB, wC, c1, c2, isiF, lenF, sumF, maxF, minF, max2F, min2F, absF, divF, listF, tupF, sortF, allF, anyF, addD, mulD, Bd.intD, intD0, isB, truW, gb, gbs, outs, gN, gi1, gsC, gsN, gT, gS, gSn, evL, takeL, wBL, th_lst, th_dct, th_tup, th_int, th_bl, th_str, th_non, th_opq, setD, ixD, slD, isD, wCallF, wLc, wiS, wiZ, wiE, wiR1, wiR2, wiR3, seqQ, solids, D.solid, ints_solid, ints_frz, frzs, D.frz, List.set_cons_zero, List.set_cons_succ, if_true, if_false, Bool.false_eq_true, true_and, and_true, ite_true, ite_false, List.cons_append, List.nil_append, wipeD, reduceIte, List.length_cons, List.length_nil, reduceCtorEq, tyN_bool, tyN_int, tyN_str, tyN_tuple, tyN_list, tyN_dict, tyS_non, tyS_bl, tyS_int, tyS_str, tyS_tup, tyS_lst, tyS_dct, isi_non_bool, isi_non_int, isi_non_str, isi_non_tuple, isi_non_list, isi_non_dict, isi_bl_bool, isi_bl_int, isi_bl_str, isi_bl_tuple, isi_bl_list, isi_bl_dict, isi_int_bool, isi_int_int, isi_int_str, isi_int_tuple, isi_int_list, isi_int_dict, isi_str_bool, isi_str_int, isi_str_str, isi_str_tuple, isi_str_list, isi_str_dict, isi_tup_bool, isi_tup_int, isi_tup_str, isi_tup_tuple, isi_tup_list, isi_tup_dict, isi_lst_bool, isi_lst_int, isi_lst_str, isi_lst_tuple, isi_lst_list, isi_lst_dict, isi_dct_bool, isi_dct_int, isi_dct_str, isi_dct_tuple, isi_dct_list, isi_dct_dict, List.length_map, Bool.not_true, Bool.not_false, eqD, neD, eqTx, neTx, dec_if, dec_ifn, Bool.not_not, at0, at1, at2, ix0, ix1, ix2, Bd.ints_map, Bd.bls_map, Option.some.injEq, exists_eq_left', memD_lst, memD_tup, memD_str, isIn_nil, isIn_cons, isIn_ints, scal_int, scal_str, scal_bl, scal_non, scals_nil, scals_cons, scals_ints, shp_l1i, shp_l2i, shp_l3i, shp_t1i, shp_t2i, shp_t3i, dec_or, dec_orf, Bool.and_self, shp_non, shp_bl, shp_int, shp_tints, shp_lints, shp_tnil, shp_lnil, eqd_int, eqd_str, eqd_bl, eqd_non, eqd_tints, eqd_lints, eqd_lnil, eqd_tnil, shp_lenc, shp_tenc, List.map_eq_nil_iff]
    by_cases hs : ps.sum = 0
    · simp only [hs, if_true]
      unfold w_law_parts_5
      simp only [wsR, wsX, wsA, wsI, wsN, wsRN, wsBk, wsCt, wsP, wsS, wsF, wsW, wAndV, wOrV, wNotV, wIf, wNeg, wCall, wBc, wBn, wCons, wNil, wTup, wLst, wOp, wCh, Bd.wT, wTr, wMn, wMe, wMe0, apF, popF, mtD, wPm, isTupD, cntF, ssF, lsF, wPA, wPC, reprF, wIxN, wLcN, wiZN, wsP3, wDct0, frzs_enc2, solids_enc2, solid_enc2, wBack, backD, intF, minPF, wAnd, wOr, Bd.wNot, wYes, wSl, wSo, wNo, wN_eq, wV_eq, wM_eq, getD0, getDs, nB_non, nB_bl, nB_int, nB_str, nB_opq, nB_own, nB_shr, nB_con, nB_down, nB_dshr, nB_dcon, nB_tup, nE_non, nE_bl, nE_int, nE_str, nE_opq, nE_own, nE_shr, nE_con, nE_down, nE_dshr, nE_dcon, nE_tup, nM_non, nM_bl, nM_int, nM_str, nM_opq, nM_own, nM_shr, nM_con, nM_down, nM_dshr, nM_dcon, nM_tup, wB, wC, c1, c2, isiF, lenF, sumF, maxF, minF, max2F, min2F, absF, divF, listF, tupF, sortF, allF, anyF, addD, mulD, Bd.intD, intD0, isB, truW, gb, gbs, outs, gN, gi1, gsC, gsN, gT, gS, gSn, evL, takeL, wBL, th_lst, th_dct, th_tup, th_int, th_bl, th_str, th_non, th_opq, setD, ixD, slD, isD, wCallF, wLc, wiS, wiZ, wiE, wiR1, wiR2, wiR3, seqQ, solids, D.solid, ints_solid, ints_frz, frzs, D.frz, List.set_cons_zero, List.set_cons_succ, if_true, if_false, Bool.false_eq_true, true_and, and_true, ite_true, ite_false, List.cons_append, List.nil_append, wipeD, reduceIte, List.length_cons, List.length_nil, reduceCtorEq, tyN_bool, tyN_int, tyN_str, tyN_tuple, tyN_list, tyN_dict, tyS_non, tyS_bl, tyS_int, tyS_str, tyS_tup, tyS_lst, tyS_dct, isi_non_bool, isi_non_int, isi_non_str, isi_non_tuple, isi_non_list, isi_non_dict, isi_bl_bool, isi_bl_int, isi_bl_str, isi_bl_tuple, isi_bl_list, isi_bl_dict, isi_int_bool, isi_int_int, isi_int_str, isi_int_tuple, isi_int_list, isi_int_dict, isi_str_bool, isi_str_int, isi_str_str, isi_str_tuple, isi_str_list, isi_str_dict, isi_tup_bool, isi_tup_int, isi_tup_str, isi_tup_tuple, isi_tup_list, isi_tup_dict, isi_lst_bool, isi_lst_int, isi_lst_str, isi_lst_tuple, isi_lst_list, isi_lst_dict, isi_dct_bool, isi_dct_int, isi_dct_str, isi_dct_tuple, isi_dct_list, isi_dct_dict, List.length_map, Bool.not_true, Bool.not_false, eqD, neD, eqTx, neTx, dec_if, dec_ifn, Bool.not_not, at0, at1, at2, ix0, ix1, ix2, Bd.ints_map, Bd.bls_map, Option.some.injEq, exists_eq_left', memD_lst, memD_tup, memD_str, isIn_nil, isIn_cons, isIn_ints, scal_int, scal_str, scal_bl, scal_non, scals_nil, scals_cons, scals_ints, shp_l1i, shp_l2i, shp_l3i, shp_t1i, shp_t2i, shp_t3i, dec_or, dec_orf, Bool.and_self, shp_non, shp_bl, shp_int, shp_tints, shp_lints, shp_tnil, shp_lnil, eqd_int, eqd_str, eqd_bl, eqd_non, eqd_tints, eqd_lints, eqd_lnil, eqd_tnil, shp_lenc, shp_tenc, List.map_eq_nil_iff]
      refine ⟨a, b, 1000, rfl, hb, by decide, by decide, fun a2 b2 v hb2 hv0 hv1 => ?_⟩
      simp only [wsR, wsX, wsA, wsI, wsN, wsRN, wsBk, wsCt, wsP, wsS, wsF, wsW, wAndV, wOrV, wNotV, wIf, wNeg, wCall, wBc, wBn, wCons, wNil, wTup, wLst, wOp, wCh, Bd.wT, wTr, wMn, wMe, wMe0, apF, popF, mtD, wPm, isTupD, cntF, ssF, lsF, wPA, wPC, reprF, wIxN, wLcN, wiZN, wsP3, wDct0, frzs_enc2, solids_enc2, solid_enc2, wBack, backD, intF, minPF, wAnd, wOr, Bd.wNot, wYes, wSl, wSo, wNo, wN_eq, wV_eq, wM_eq, getD0, getDs, nB_non, nB_bl, nB_int, nB_str, nB_opq, nB_own, nB_shr, nB_con, nB_down, nB_dshr, nB_dcon, nB_tup, nE_non, nE_bl, nE_int, nE_str, nE_opq, nE_own, nE_shr, nE_con, nE_down, nE_dshr, nE_dcon, nE_tup, nM_non, nM_bl, nM_int, nM_str, nM_opq, nM_own, nM_shr, nM_con, nM_down, nM_dshr, nM_dcon, nM_tup, wB, wC, c1, c2, isiF, lenF, sumF, maxF, minF, max2F, min2F, absF, divF, listF, tupF, sortF, allF, anyF, addD, mulD, Bd.intD, intD0, isB, truW, gb, gbs, outs, gN, gi1, gsC, gsN, gT, gS, gSn, evL, takeL, wBL, th_lst, th_dct, th_tup, th_int, th_bl, th_str, th_non, th_opq, setD, ixD, slD, isD, wCallF, wLc, wiS, wiZ, wiE, wiR1, wiR2, wiR3, seqQ, solids, D.solid, ints_solid, ints_frz, frzs, D.frz, List.set_cons_zero, List.set_cons_succ, if_true, if_false, Bool.false_eq_true, true_and, and_true, ite_true, ite_false, List.cons_append, List.nil_append, wipeD, reduceIte, List.length_cons, List.length_nil, reduceCtorEq, tyN_bool, tyN_int, tyN_str, tyN_tuple, tyN_list, tyN_dict, tyS_non, tyS_bl, tyS_int, tyS_str, tyS_tup, tyS_lst, tyS_dct, isi_non_bool, isi_non_int, isi_non_str, isi_non_tuple, isi_non_list, isi_non_dict, isi_bl_bool, isi_bl_int, isi_bl_str, isi_bl_tuple, isi_bl_list, isi_bl_dict, isi_int_bool, isi_int_int, isi_int_str, isi_int_tuple, isi_int_list, isi_int_dict, isi_str_bool, isi_str_int, isi_str_str, isi_str_tuple, isi_str_list, isi_str_dict, isi_tup_bool, isi_tup_int, isi_tup_str, isi_tup_tuple, isi_tup_list, isi_tup_dict, isi_lst_bool, isi_lst_int, isi_lst_str, isi_lst_tuple, isi_lst_list, isi_lst_dict, isi_dct_bool, isi_dct_int, isi_dct_str, isi_dct_tuple, isi_dct_list, isi_dct_dict, List.length_map, Bool.not_true, Bool.not_false, eqD, neD, eqTx, neTx, dec_if, dec_ifn, Bool.not_not, at0, at1, at2, ix0, ix1, ix2, Bd.ints_map, Bd.bls_map, Option.some.injEq, exists_eq_left', memD_lst, memD_tup, memD_str, isIn_nil, isIn_cons, isIn_ints, scal_int, scal_str, scal_bl, scal_non, scals_nil, scals_cons, scals_ints, shp_l1i, shp_l2i, shp_l3i, shp_t1i, shp_t2i, shp_t3i, dec_or, dec_orf, Bool.and_self, shp_non, shp_bl, shp_int, shp_tints, shp_lints, shp_tnil, shp_lnil, eqd_int, eqd_str, eqd_bl, eqd_non, eqd_tints, eqd_lints, eqd_lnil, eqd_tnil, shp_lenc, shp_tenc, List.map_eq_nil_iff, box]
      refine ⟨a2, b2, _, rfl, hb2, by omega, by omega, fun a3 b3 j hb3 hj0 hj1 => ?_⟩
      simp only [wsR, wsX, wsA, wsI, wsN, wsRN, wsBk, wsCt, wsP, wsS, wsF, wsW, wAndV, wOrV, wNotV, wIf, wNeg, wCall, wBc, wBn, wCons, wNil, wTup, wLst, wOp, wCh, Bd.wT, wTr, wMn, wMe, wMe0, apF, popF, mtD, wPm, isTupD, cntF, ssF, lsF, wPA, wPC, reprF, wIxN, wLcN, wiZN, wsP3, wDct0, frzs_enc2, solids_enc2, solid_enc2, wBack, backD, intF, minPF, wAnd, wOr, Bd.wNot, wYes, wSl, wSo, wNo, wN_eq, wV_eq, wM_eq, getD0, getDs, nB_non, nB_bl, nB_int, nB_str, nB_opq, nB_own, nB_shr, nB_con, nB_down, nB_dshr, nB_dcon, nB_tup, nE_non, nE_bl, nE_int, nE_str, nE_opq, nE_own, nE_shr, nE_con, nE_down, nE_dshr, nE_dcon, nE_tup, nM_non, nM_bl, nM_int, nM_str, nM_opq, nM_own, nM_shr, nM_con, nM_down, nM_dshr, nM_dcon, nM_tup, wB, wC, c1, c2, isiF, lenF, sumF, maxF, minF, max2F, min2F, absF, divF, listF, tupF, sortF, allF, anyF, addD, mulD, Bd.intD, intD0, isB, truW, gb, gbs, outs, gN, gi1, gsC, gsN, gT, gS, gSn, evL, takeL, wBL, th_lst, th_dct, th_tup, th_int, th_bl, th_str, th_non, th_opq, setD, ixD, slD, isD, wCallF, wLc, wiS, wiZ, wiE, wiR1, wiR2, wiR3, seqQ, solids, D.solid, ints_solid, ints_frz, frzs, D.frz, List.set_cons_zero, List.set_cons_succ, if_true, if_false, Bool.false_eq_true, true_and, and_true, ite_true, ite_false, List.cons_append, List.nil_append, wipeD, reduceIte, List.length_cons, List.length_nil, reduceCtorEq, tyN_bool, tyN_int, tyN_str, tyN_tuple, tyN_list, tyN_dict, tyS_non, tyS_bl, tyS_int, tyS_str, tyS_tup, tyS_lst, tyS_dct, isi_non_bool, isi_non_int, isi_non_str, isi_non_tuple, isi_non_list, isi_non_dict, isi_bl_bool, isi_bl_int, isi_bl_str, isi_bl_tuple, isi_bl_list, isi_bl_dict, isi_int_bool, isi_int_int, isi_int_str, isi_int_tuple, isi_int_list, isi_int_dict, isi_str_bool, isi_str_int, isi_str_str, isi_str_tuple, isi_str_list, isi_str_dict, isi_tup_bool, isi_tup_int, isi_tup_str, isi_tup_tuple, isi_tup_list, isi_tup_dict, isi_lst_bool, isi_lst_int, isi_lst_str, isi_lst_tuple, isi_lst_list, isi_lst_dict, isi_dct_bool, isi_dct_int, isi_dct_str, isi_dct_tuple, isi_dct_list, isi_dct_dict, List.length_map, Bool.not_true, Bool.not_false, eqD, neD, eqTx, neTx, dec_if, dec_ifn, Bool.not_not, at0, at1, at2, ix0, ix1, ix2, Bd.ints_map, Bd.bls_map, Option.some.injEq, exists_eq_left', memD_lst, memD_tup, memD_str, isIn_nil, isIn_cons, isIn_ints, scal_int, scal_str, scal_bl, scal_non, scals_nil, scals_cons, scals_ints, shp_l1i, shp_l2i, shp_l3i, shp_t1i, shp_t2i, shp_t3i, dec_or, dec_orf, Bool.and_self, shp_non, shp_bl, shp_int, shp_tints, shp_lints, shp_tnil, shp_lnil, eqd_int, eqd_str, eqd_bl, eqd_non, eqd_tints, eqd_lints, eqd_lnil, eqd_tnil, shp_lenc, shp_tenc, List.map_eq_nil_iff, box]
      have hj2 : j < (ps.length : Int) := hj1
      rw [ix_nat hj0 hj1]
      refine ⟨_, rfl, ?_⟩
      rw [show (List.map D.int ps).set j.toNat (D.int (1 + v)) = (ps.set j.toNat (1 + v)).map D.int by rw [List.map_set]]
      have hm : ∀ p ∈ ps.set j.toNat (1 + v), 0 ≤ p ∧ p ≤ 1000 := fun p hp => by
        rcases List.mem_or_eq_of_mem_set hp with hp | rfl
        · exact hps p hp
        · omega
      refine fin _ _ _ _ hb3 ⟨by simp; omega, by simp; omega, hm, ?_⟩
      have := le_sum (fun p hp => (hm p hp).1) (List.mem_set (show j.toNat < ps.length by omega) (1 + v))
      omega
    · simp only [hs, if_false]
      exact fin _ _ _ _ hb ⟨by omega, by omega, hps, hs⟩
  have rest2 : ∀ (a b most : Int) (ps : List Int), bOk b → 1 ≤ ps.length → ps.length ≤ 10 → (∀ p ∈ ps, 0 ≤ p ∧ p ≤ 1000) → wsS (w_law_parts_2 Ex) (wsS (w_law_parts_4 Ex) (w_law_parts_6 Ex)) { nx := fun ρ => Q D.non (outs [true] ρ), rt := fun d ρ => Q d (outs [true] ρ) } [D.lst M.own [D.int a, D.int b], D.int most, D.lst M.own (List.map D.int ps), D.gone] := by
    intro a b most ps hb hl0 hl1 hps
    unfold w_law_parts_2
    simp only [wsR, wsX, wsA, wsI, wsN, wsRN, wsBk, wsCt, wsP, wsS, wsF, wsW, wAndV, wOrV, wNotV, wIf, wNeg, wCall, wBc, wBn, wCons, wNil, wTup, wLst, wOp, wCh, Bd.wT, wTr, wMn, wMe, wMe0, apF, popF, mtD, wPm, isTupD, cntF, ssF, lsF, wPA, wPC, reprF, wIxN, wLcN, wiZN, wsP3, wDct0, frzs_enc2, solids_enc2, solid_enc2, wBack, backD, intF, minPF, wAnd, wOr, Bd.wNot, wYes, wSl, wSo, wNo, wN_eq, wV_eq, wM_eq, getD0, getDs, nB_non, nB_bl, nB_int, nB_str, nB_opq, nB_own, nB_shr, nB_con, nB_down, nB_dshr, nB_dcon, nB_tup, nE_non, nE_bl, nE_int, nE_str, nE_opq, nE_own, nE_shr, nE_con, nE_down, nE_dshr, nE_dcon, nE_tup, nM_non, nM_bl, nM_int, nM_str, nM_opq, nM_own, nM_shr, nM_con, nM_down, nM_dshr, nM_dcon, nM_tup, wB, wC, c1, c2, isiF, lenF, sumF, maxF, minF, max2F, min2F, absF, divF, listF, tupF, sortF, allF, anyF, addD, mulD, Bd.intD, intD0, isB, truW, gb, gbs, outs, gN, gi1, gsC, gsN, gT, gS, gSn, evL, takeL, wBL, th_lst, th_dct, th_tup, th_int, th_bl, th_str, th_non, th_opq, setD, ixD, slD, isD, wCallF, wLc, wiS, wiZ, wiE, wiR1, wiR2, wiR3, seqQ, solids, D.solid, ints_solid, ints_frz, frzs, D.frz, List.set_cons_zero, List.set_cons_succ, if_true, if_false, Bool.false_eq_true, true_and, and_true, ite_true, ite_false, List.cons_append, List.nil_append, wipeD, reduceIte, List.length_cons, List.length_nil, reduceCtorEq, tyN_bool, tyN_int, tyN_str, tyN_tuple, tyN_list, tyN_dict, tyS_non, tyS_bl, tyS_int, tyS_str, tyS_tup, tyS_lst, tyS_dct, isi_non_bool, isi_non_int, isi_non_str, isi_non_tuple, isi_non_list, isi_non_dict, isi_bl_bool, isi_bl_int, isi_bl_str, isi_bl_tuple, isi_bl_list, isi_bl_dict, isi_int_bool, isi_int_int, isi_int_str, isi_int_tuple, isi_int_list, isi_int_dict, isi_str_bool, isi_str_int, isi_str_str, isi_str_tuple, isi_str_list, isi_str_dict, isi_tup_bool, isi_tup_int, isi_tup_str, isi_tup_tuple, isi_tup_list, isi_tup_dict, isi_lst_bool, isi_lst_int, isi_lst_str, isi_lst_tuple, isi_lst_list, isi_lst_dict, isi_dct_bool, isi_dct_int, isi_dct_str, isi_dct_tuple, isi_dct_list, isi_dct_dict, List.length_map, Bool.not_true, Bool.not_false, eqD, neD, eqTx, neTx, dec_if, dec_ifn, Bool.not_not, at0, at1, at2, ix0, ix1, ix2, Bd.ints_map, Bd.bls_map, Option.some.injEq, exists_eq_left', memD_lst, memD_tup, memD_str, isIn_nil, isIn_cons, isIn_ints, scal_int, scal_str, scal_bl, scal_non, scals_nil, scals_cons, scals_ints, shp_l1i, shp_l2i, shp_l3i, shp_t1i, shp_t2i, shp_t3i, dec_or, dec_orf, Bool.and_self, shp_non, shp_bl, shp_int, shp_tints, shp_lints, shp_tnil, shp_lnil, eqd_int, eqd_str, eqd_bl, eqd_non, eqd_tints, eqd_lints, eqd_lnil, eqd_tnil, shp_lenc, shp_tenc, List.map_eq_nil_iff]
    refine ⟨a, b, 3, rfl, hb, by decide, by decide, fun a2 b2 v hb2 hv0 hv1 => ?_⟩
    simp only [wsR, wsX, wsA, wsI, wsN, wsRN, wsBk, wsCt, wsP, wsS, wsF, wsW, wAndV, wOrV, wNotV, wIf, wNeg, wCall, wBc, wBn, wCons, wNil, wTup, wLst, wOp, wCh, Bd.wT, wTr, wMn, wMe, wMe0, apF, popF, mtD, wPm, isTupD, cntF, ssF, lsF, wPA, wPC, reprF, wIxN, wLcN, wiZN, wsP3, wDct0, frzs_enc2, solids_enc2, solid_enc2, wBack, backD, intF, minPF, wAnd, wOr, Bd.wNot, wYes, wSl, wSo, wNo, wN_eq, wV_eq, wM_eq, getD0, getDs, nB_non, nB_bl, nB_int, nB_str, nB_opq, nB_own, nB_shr, nB_con, nB_down, nB_dshr, nB_dcon, nB_tup, nE_non, nE_bl, nE_int, nE_str, nE_opq, nE_own, nE_shr, nE_con, nE_down, nE_dshr, nE_dcon, nE_tup, nM_non, nM_bl, nM_int, nM_str, nM_opq, nM_own, nM_shr, nM_con, nM_down, nM_dshr, nM_dcon, nM_tup, wB, wC, c1, c2, isiF, lenF, sumF, maxF, minF, max2F, min2F, absF, divF, listF, tupF, sortF, allF, anyF, addD, mulD, Bd.intD, intD0, isB, truW, gb, gbs, outs, gN, gi1, gsC, gsN, gT, gS, gSn, evL, takeL, wBL, th_lst, th_dct, th_tup, th_int, th_bl, th_str, th_non, th_opq, setD, ixD, slD, isD, wCallF, wLc, wiS, wiZ, wiE, wiR1, wiR2, wiR3, seqQ, solids, D.solid, ints_solid, ints_frz, frzs, D.frz, List.set_cons_zero, List.set_cons_succ, if_true, if_false, Bool.false_eq_true, true_and, and_true, ite_true, ite_false, List.cons_append, List.nil_append, wipeD, reduceIte, List.length_cons, List.length_nil, reduceCtorEq, tyN_bool, tyN_int, tyN_str, tyN_tuple, tyN_list, tyN_dict, tyS_non, tyS_bl, tyS_int, tyS_str, tyS_tup, tyS_lst, tyS_dct, isi_non_bool, isi_non_int, isi_non_str, isi_non_tuple, isi_non_list, isi_non_dict, isi_bl_bool, isi_bl_int, isi_bl_str, isi_bl_tuple, isi_bl_list, isi_bl_dict, isi_int_bool, isi_int_int, isi_int_str, isi_int_tuple, isi_int_list, isi_int_dict, isi_str_bool, isi_str_int, isi_str_str, isi_str_tuple, isi_str_list, isi_str_dict, isi_tup_bool, isi_tup_int, isi_tup_str, isi_tup_tuple, isi_tup_list, isi_tup_dict, isi_lst_bool, isi_lst_int, isi_lst_str, isi_lst_tuple, isi_lst_list, isi_lst_dict, isi_dct_bool, isi_dct_int, isi_dct_str, isi_dct_tuple, isi_dct_list, isi_dct_dict, List.length_map, Bool.not_true, Bool.not_false, eqD, neD, eqTx, neTx, dec_if, dec_ifn, Bool.not_not, at0, at1, at2, ix0, ix1, ix2, Bd.ints_map, Bd.bls_map, Option.some.injEq, exists_eq_left', memD_lst, memD_tup, memD_str, isIn_nil, isIn_cons, isIn_ints, scal_int, scal_str, scal_bl, scal_non, scals_nil, scals_cons, scals_ints, shp_l1i, shp_l2i, shp_l3i, shp_t1i, shp_t2i, shp_t3i, dec_or, dec_orf, Bool.and_self, shp_non, shp_bl, shp_int, shp_tints, shp_lints, shp_tnil, shp_lnil, eqd_int, eqd_str, eqd_bl, eqd_non, eqd_tints, eqd_lints, eqd_lnil, eqd_tnil, shp_lenc, shp_tenc, List.map_eq_nil_iff, box]
    by_cases hv : v = 0
    · simp only [hv, if_true]
      unfold w_law_parts_3
      cases ps with
      | nil => exact absurd hl0 (by decide)
      | cons p r =>
        have hp := hps p List.mem_cons_self
        have e : (List.replicate (r.length + 1) (D.int p)) = (List.replicate (r.length + 1) p).map D.int := by rw [List.map_replicate]
        simp only [wsR, wsX, wsA, wsI, wsN, wsRN, wsBk, wsCt, wsP, wsS, wsF, wsW, wAndV, wOrV, wNotV, wIf, wNeg, wCall, wBc, wBn, wCons, wNil, wTup, wLst, wOp, wCh, Bd.wT, wTr, wMn, wMe, wMe0, apF, popF, mtD, wPm, isTupD, cntF, ssF, lsF, wPA, wPC, reprF, wIxN, wLcN, wiZN, wsP3, wDct0, frzs_enc2, solids_enc2, solid_enc2, wBack, backD, intF, minPF, wAnd, wOr, Bd.wNot, wYes, wSl, wSo, wNo, wN_eq, wV_eq, wM_eq, getD0, getDs, nB_non, nB_bl, nB_int, nB_str, nB_opq, nB_own, nB_shr, nB_con, nB_down, nB_dshr, nB_dcon, nB_tup, nE_non, nE_bl, nE_int, nE_str, nE_opq, nE_own, nE_shr, nE_con, nE_down, nE_dshr, nE_dcon, nE_tup, nM_non, nM_bl, nM_int, nM_str, nM_opq, nM_own, nM_shr, nM_con, nM_down, nM_dshr, nM_dcon, nM_tup, wB, wC, c1, c2, isiF, lenF, sumF, maxF, minF, max2F, min2F, absF, divF, listF, tupF, sortF, allF, anyF, addD, mulD, Bd.intD, intD0, isB, truW, gb, gbs, outs, gN, gi1, gsC, gsN, gT, gS, gSn, evL, takeL, wBL, th_lst, th_dct, th_tup, th_int, th_bl, th_str, th_non, th_opq, setD, ixD, slD, isD, wCallF, wLc, wiS, wiZ, wiE, wiR1, wiR2, wiR3, seqQ, solids, D.solid, ints_solid, ints_frz, frzs, D.frz, List.set_cons_zero, List.set_cons_succ, if_true, if_false, Bool.false_eq_true, true_and, and_true, ite_true, ite_false, List.cons_append, List.nil_append, wipeD, reduceIte, List.length_cons, List.length_nil, reduceCtorEq, tyN_bool, tyN_int, tyN_str, tyN_tuple, tyN_list, tyN_dict, tyS_non, tyS_bl, tyS_int, tyS_str, tyS_tup, tyS_lst, tyS_dct, isi_non_bool, isi_non_int, isi_non_str, isi_non_tuple, isi_non_list, isi_non_dict, isi_bl_bool, isi_bl_int, isi_bl_str, isi_bl_tuple, isi_bl_list, isi_bl_dict, isi_int_bool, isi_int_int, isi_int_str, isi_int_tuple, isi_int_list, isi_int_dict, isi_str_bool, isi_str_int, isi_str_str, isi_str_tuple, isi_str_list, isi_str_dict, isi_tup_bool, isi_tup_int, isi_tup_str, isi_tup_tuple, isi_tup_list, isi_tup_dict, isi_lst_bool, isi_lst_int, isi_lst_str, isi_lst_tuple, isi_lst_list, isi_lst_dict, isi_dct_bool, isi_dct_int, isi_dct_str, isi_dct_tuple, isi_dct_list, isi_dct_dict, List.length_map, Bool.not_true, Bool.not_false, eqD, neD, eqTx, neTx, dec_if, dec_ifn, Bool.not_not, at0, at1, at2, ix0, ix1, ix2, Bd.ints_map, Bd.bls_map, Option.some.injEq, exists_eq_left', memD_lst, memD_tup, memD_str, isIn_nil, isIn_cons, isIn_ints, scal_int, scal_str, scal_bl, scal_non, scals_nil, scals_cons, scals_ints, shp_l1i, shp_l2i, shp_l3i, shp_t1i, shp_t2i, shp_t3i, dec_or, dec_orf, Bool.and_self, shp_non, shp_bl, shp_int, shp_tints, shp_lints, shp_tnil, shp_lnil, eqd_int, eqd_str, eqd_bl, eqd_non, eqd_tints, eqd_lints, eqd_lnil, eqd_tnil, shp_lenc, shp_tenc, List.map_eq_nil_iff, List.map_cons]
        have big : (64 : Nat) ≤ sizeLine := by decide
        rw [List.length_cons] at hl0 hl1
        have e2 : repD ((r.length + 1 : Nat) : Int) [D.int p] = (List.replicate (r.length + 1) p).map D.int := by
          unfold repD
          simp [frzs, D.frz]
        rw [e2]
        refine ⟨by omega, by decide, by omega, by omega, by rw [Int.toNat_natCast]; omega, ?_⟩
        exact rest3 a2 b2 most (List.replicate (r.length + 1) p) hb2 (by simp) (by simpa using hl1) (fun q hq => by rw [List.eq_of_mem_replicate hq]; exact hp)
    · simp only [hv, if_false]
      exact rest3 _ _ _ _ hb2 hl0 hl1 hps
  have rest : ∀ (a b most : Int), bOk b → 1 ≤ most → most ≤ 1001 → wsS (w_law_parts_1 Ex) (wsS (w_law_parts_2 Ex) (wsS (w_law_parts_4 Ex) (w_law_parts_6 Ex))) { nx := fun ρ => Q D.non (outs [true] ρ), rt := fun d ρ => Q d (outs [true] ρ) } [box a b, .int most, .gone, .gone] := by
    intro a b most hb hm0 hm1
    unfold w_law_parts_1
    simp only [wsR, wsX, wsA, wsI, wsN, wsRN, wsBk, wsCt, wsP, wsS, wsF, wsW, wAndV, wOrV, wNotV, wIf, wNeg, wCall, wBc, wBn, wCons, wNil, wTup, wLst, wOp, wCh, Bd.wT, wTr, wMn, wMe, wMe0, apF, popF, mtD, wPm, isTupD, cntF, ssF, lsF, wPA, wPC, reprF, wIxN, wLcN, wiZN, wsP3, wDct0, frzs_enc2, solids_enc2, solid_enc2, wBack, backD, intF, minPF, wAnd, wOr, Bd.wNot, wYes, wSl, wSo, wNo, wN_eq, wV_eq, wM_eq, getD0, getDs, nB_non, nB_bl, nB_int, nB_str, nB_opq, nB_own, nB_shr, nB_con, nB_down, nB_dshr, nB_dcon, nB_tup, nE_non, nE_bl, nE_int, nE_str, nE_opq, nE_own, nE_shr, nE_con, nE_down, nE_dshr, nE_dcon, nE_tup, nM_non, nM_bl, nM_int, nM_str, nM_opq, nM_own, nM_shr, nM_con, nM_down, nM_dshr, nM_dcon, nM_tup, wB, wC, c1, c2, isiF, lenF, sumF, maxF, minF, max2F, min2F, absF, divF, listF, tupF, sortF, allF, anyF, addD, mulD, Bd.intD, intD0, isB, truW, gb, gbs, outs, gN, gi1, gsC, gsN, gT, gS, gSn, evL, takeL, wBL, th_lst, th_dct, th_tup, th_int, th_bl, th_str, th_non, th_opq, setD, ixD, slD, isD, wCallF, wLc, wiS, wiZ, wiE, wiR1, wiR2, wiR3, seqQ, solids, D.solid, ints_solid, ints_frz, frzs, D.frz, List.set_cons_zero, List.set_cons_succ, if_true, if_false, Bool.false_eq_true, true_and, and_true, ite_true, ite_false, List.cons_append, List.nil_append, wipeD, reduceIte, List.length_cons, List.length_nil, reduceCtorEq, tyN_bool, tyN_int, tyN_str, tyN_tuple, tyN_list, tyN_dict, tyS_non, tyS_bl, tyS_int, tyS_str, tyS_tup, tyS_lst, tyS_dct, isi_non_bool, isi_non_int, isi_non_str, isi_non_tuple, isi_non_list, isi_non_dict, isi_bl_bool, isi_bl_int, isi_bl_str, isi_bl_tuple, isi_bl_list, isi_bl_dict, isi_int_bool, isi_int_int, isi_int_str, isi_int_tuple, isi_int_list, isi_int_dict, isi_str_bool, isi_str_int, isi_str_str, isi_str_tuple, isi_str_list, isi_str_dict, isi_tup_bool, isi_tup_int, isi_tup_str, isi_tup_tuple, isi_tup_list, isi_tup_dict, isi_lst_bool, isi_lst_int, isi_lst_str, isi_lst_tuple, isi_lst_list, isi_lst_dict, isi_dct_bool, isi_dct_int, isi_dct_str, isi_dct_tuple, isi_dct_list, isi_dct_dict, List.length_map, Bool.not_true, Bool.not_false, eqD, neD, eqTx, neTx, dec_if, dec_ifn, Bool.not_not, at0, at1, at2, ix0, ix1, ix2, Bd.ints_map, Bd.bls_map, Option.some.injEq, exists_eq_left', memD_lst, memD_tup, memD_str, isIn_nil, isIn_cons, isIn_ints, scal_int, scal_str, scal_bl, scal_non, scals_nil, scals_cons, scals_ints, shp_l1i, shp_l2i, shp_l3i, shp_t1i, shp_t2i, shp_t3i, dec_or, dec_orf, Bool.and_self, shp_non, shp_bl, shp_int, shp_tints, shp_lints, shp_tnil, shp_lnil, eqd_int, eqd_str, eqd_bl, eqd_non, eqd_tints, eqd_lints, eqd_lnil, eqd_tnil, shp_lenc, shp_tenc, List.map_eq_nil_iff, box]
    refine ⟨a, b, 10, rfl, hb, by decide, by decide, fun a1 b1 cnt hb1 hc0 hc1 => ?_⟩
    simp only [wsR, wsX, wsA, wsI, wsN, wsRN, wsBk, wsCt, wsP, wsS, wsF, wsW, wAndV, wOrV, wNotV, wIf, wNeg, wCall, wBc, wBn, wCons, wNil, wTup, wLst, wOp, wCh, Bd.wT, wTr, wMn, wMe, wMe0, apF, popF, mtD, wPm, isTupD, cntF, ssF, lsF, wPA, wPC, reprF, wIxN, wLcN, wiZN, wsP3, wDct0, frzs_enc2, solids_enc2, solid_enc2, wBack, backD, intF, minPF, wAnd, wOr, Bd.wNot, wYes, wSl, wSo, wNo, wN_eq, wV_eq, wM_eq, getD0, getDs, nB_non, nB_bl, nB_int, nB_str, nB_opq, nB_own, nB_shr, nB_con, nB_down, nB_dshr, nB_dcon, nB_tup, nE_non, nE_bl, nE_int, nE_str, nE_opq, nE_own, nE_shr, nE_con, nE_down, nE_dshr, nE_dcon, nE_tup, nM_non, nM_bl, nM_int, nM_str, nM_opq, nM_own, nM_shr, nM_con, nM_down, nM_dshr, nM_dcon, nM_tup, wB, wC, c1, c2, isiF, lenF, sumF, maxF, minF, max2F, min2F, absF, divF, listF, tupF, sortF, allF, anyF, addD, mulD, Bd.intD, intD0, isB, truW, gb, gbs, outs, gN, gi1, gsC, gsN, gT, gS, gSn, evL, takeL, wBL, th_lst, th_dct, th_tup, th_int, th_bl, th_str, th_non, th_opq, setD, ixD, slD, isD, wCallF, wLc, wiS, wiZ, wiE, wiR1, wiR2, wiR3, seqQ, solids, D.solid, ints_solid, ints_frz, frzs, D.frz, List.set_cons_zero, List.set_cons_succ, if_true, if_false, Bool.false_eq_true, true_and, and_true, ite_true, ite_false, List.cons_append, List.nil_append, wipeD, reduceIte, List.length_cons, List.length_nil, reduceCtorEq, tyN_bool, tyN_int, tyN_str, tyN_tuple, tyN_list, tyN_dict, tyS_non, tyS_bl, tyS_int, tyS_str, tyS_tup, tyS_lst, tyS_dct, isi_non_bool, isi_non_int, isi_non_str, isi_non_tuple, isi_non_list, isi_non_dict, isi_bl_bool, isi_bl_int, isi_bl_str, isi_bl_tuple, isi_bl_list, isi_bl_dict, isi_int_bool, isi_int_int, isi_int_str, isi_int_tuple, isi_int_list, isi_int_dict, isi_str_bool, isi_str_int, isi_str_str, isi_str_tuple, isi_str_list, isi_str_dict, isi_tup_bool, isi_tup_int, isi_tup_str, isi_tup_tuple, isi_tup_list, isi_tup_dict, isi_lst_bool, isi_lst_int, isi_lst_str, isi_lst_tuple, isi_lst_list, isi_lst_dict, isi_dct_bool, isi_dct_int, isi_dct_str, isi_dct_tuple, isi_dct_list, isi_dct_dict, List.length_map, Bool.not_true, Bool.not_false, eqD, neD, eqTx, neTx, dec_if, dec_ifn, Bool.not_not, at0, at1, at2, ix0, ix1, ix2, Bd.ints_map, Bd.bls_map, Option.some.injEq, exists_eq_left', memD_lst, memD_tup, memD_str, isIn_nil, isIn_cons, isIn_ints, scal_int, scal_str, scal_bl, scal_non, scals_nil, scals_cons, scals_ints, shp_l1i, shp_l2i, shp_l3i, shp_t1i, shp_t2i, shp_t3i, dec_or, dec_orf, Bool.and_self, shp_non, shp_bl, shp_int, shp_tints, shp_lints, shp_tnil, shp_lnil, eqd_int, eqd_str, eqd_bl, eqd_non, eqd_tints, eqd_lints, eqd_lnil, eqd_tnil, shp_lenc, shp_tenc, List.map_eq_nil_iff, box]
    refine ⟨by omega, by omega, by simp only [rgL, List.length_map, List.length_range]; have : sizeLine ≥ 64 := by decide
                                   omega, ?_⟩
    refine lcL_inv (fun i acc ρ => ∃ (a b : Int) (ps : List Int), acc = ps.map D.int ∧ ps.length = i ∧ bOk b ∧ (∀ p ∈ ps, 0 ≤ p ∧ p ≤ 1000) ∧ ρ = [box a b, .int most, .gone, .gone]) ⟨a1, b1, [], rfl, rfl, hb1, fun _ h => (List.not_mem_nil h).elim, rfl⟩ ?_ ?_
    · rintro i its acc ρ K hi ⟨a, b, ps, rfl, rfl, hb, hps, rfl⟩ hk
      unfold rgL at hi
      rw [List.getElem?_map] at hi
      obtain ⟨j, hj, rfl⟩ := Option.map_eq_some_iff.mp hi
      simp only [wsR, wsX, wsA, wsI, wsN, wsRN, wsBk, wsCt, wsP, wsS, wsF, wsW, wAndV, wOrV, wNotV, wIf, wNeg, wCall, wBc, wBn, wCons, wNil, wTup, wLst, wOp, wCh, Bd.wT, wTr, wMn, wMe, wMe0, apF, popF, mtD, wPm, isTupD, cntF, ssF, lsF, wPA, wPC, reprF, wIxN, wLcN, wiZN, wsP3, wDct0, frzs_enc2, solids_enc2, solid_enc2, wBack, backD, intF, minPF, wAnd, wOr, Bd.wNot, wYes, wSl, wSo, wNo, wN_eq, wV_eq, wM_eq, getD0, getDs, nB_non, nB_bl, nB_int, nB_str, nB_opq, nB_own, nB_shr, nB_con, nB_down, nB_dshr, nB_dcon, nB_tup, nE_non, nE_bl, nE_int, nE_str, nE_opq, nE_own, nE_shr, nE_con, nE_down, nE_dshr, nE_dcon, nE_tup, nM_non, nM_bl, nM_int, nM_str, nM_opq, nM_own, nM_shr, nM_con, nM_down, nM_dshr, nM_dcon, nM_tup, wB, wC, c1, c2, isiF, lenF, sumF, maxF, minF, max2F, min2F, absF, divF, listF, tupF, sortF, allF, anyF, addD, mulD, Bd.intD, intD0, isB, truW, gb, gbs, outs, gN, gi1, gsC, gsN, gT, gS, gSn, evL, takeL, wBL, th_lst, th_dct, th_tup, th_int, th_bl, th_str, th_non, th_opq, setD, ixD, slD, isD, wCallF, wLc, wiS, wiZ, wiE, wiR1, wiR2, wiR3, seqQ, solids, D.solid, ints_solid, ints_frz, frzs, D.frz, List.set_cons_zero, List.set_cons_succ, if_true, if_false, Bool.false_eq_true, true_and, and_true, ite_true, ite_false, List.cons_append, List.nil_append, wipeD, reduceIte, List.length_cons, List.length_nil, reduceCtorEq, tyN_bool, tyN_int, tyN_str, tyN_tuple, tyN_list, tyN_dict, tyS_non, tyS_bl, tyS_int, tyS_str, tyS_tup, tyS_lst, tyS_dct, isi_non_bool, isi_non_int, isi_non_str, isi_non_tuple, isi_non_list, isi_non_dict, isi_bl_bool, isi_bl_int, isi_bl_str, isi_bl_tuple, isi_bl_list, isi_bl_dict, isi_int_bool, isi_int_int, isi_int_str, isi_int_tuple, isi_int_list, isi_int_dict, isi_str_bool, isi_str_int, isi_str_str, isi_str_tuple, isi_str_list, isi_str_dict, isi_tup_bool, isi_tup_int, isi_tup_str, isi_tup_tuple, isi_tup_list, isi_tup_dict, isi_lst_bool, isi_lst_int, isi_lst_str, isi_lst_tuple, isi_lst_list, isi_lst_dict, isi_dct_bool, isi_dct_int, isi_dct_str, isi_dct_tuple, isi_dct_list, isi_dct_dict, List.length_map, Bool.not_true, Bool.not_false, eqD, neD, eqTx, neTx, dec_if, dec_ifn, Bool.not_not, at0, at1, at2, ix0, ix1, ix2, Bd.ints_map, Bd.bls_map, Option.some.injEq, exists_eq_left', memD_lst, memD_tup, memD_str, isIn_nil, isIn_cons, isIn_ints, scal_int, scal_str, scal_bl, scal_non, scals_nil, scals_cons, scals_ints, shp_l1i, shp_l2i, shp_l3i, shp_t1i, shp_t2i, shp_t3i, dec_or, dec_orf, Bool.and_self, shp_non, shp_bl, shp_int, shp_tints, shp_lints, shp_tnil, shp_lnil, eqd_int, eqd_str, eqd_bl, eqd_non, eqd_tints, eqd_lints, eqd_lnil, eqd_tnil, shp_lenc, shp_tenc, List.map_eq_nil_iff, box]
      refine ⟨a, b, most, rfl, hb, by omega, by omega, fun a' b' d hb' hd0 hd1 => ?_⟩
      simp only [wsR, wsX, wsA, wsI, wsN, wsRN, wsBk, wsCt, wsP, wsS, wsF, wsW, wAndV, wOrV, wNotV, wIf, wNeg, wCall, wBc, wBn, wCons, wNil, wTup, wLst, wOp, wCh, Bd.wT, wTr, wMn, wMe, wMe0, apF, popF, mtD, wPm, isTupD, cntF, ssF, lsF, wPA, wPC, reprF, wIxN, wLcN, wiZN, wsP3, wDct0, frzs_enc2, solids_enc2, solid_enc2, wBack, backD, intF, minPF, wAnd, wOr, Bd.wNot, wYes, wSl, wSo, wNo, wN_eq, wV_eq, wM_eq, getD0, getDs, nB_non, nB_bl, nB_int, nB_str, nB_opq, nB_own, nB_shr, nB_con, nB_down, nB_dshr, nB_dcon, nB_tup, nE_non, nE_bl, nE_int, nE_str, nE_opq, nE_own, nE_shr, nE_con, nE_down, nE_dshr, nE_dcon, nE_tup, nM_non, nM_bl, nM_int, nM_str, nM_opq, nM_own, nM_shr, nM_con, nM_down, nM_dshr, nM_dcon, nM_tup, wB, wC, c1, c2, isiF, lenF, sumF, maxF, minF, max2F, min2F, absF, divF, listF, tupF, sortF, allF, anyF, addD, mulD, Bd.intD, intD0, isB, truW, gb, gbs, outs, gN, gi1, gsC, gsN, gT, gS, gSn, evL, takeL, wBL, th_lst, th_dct, th_tup, th_int, th_bl, th_str, th_non, th_opq, setD, ixD, slD, isD, wCallF, wLc, wiS, wiZ, wiE, wiR1, wiR2, wiR3, seqQ, solids, D.solid, ints_solid, ints_frz, frzs, D.frz, List.set_cons_zero, List.set_cons_succ, if_true, if_false, Bool.false_eq_true, true_and, and_true, ite_true, ite_false, List.cons_append, List.nil_append, wipeD, reduceIte, List.length_cons, List.length_nil, reduceCtorEq, tyN_bool, tyN_int, tyN_str, tyN_tuple, tyN_list, tyN_dict, tyS_non, tyS_bl, tyS_int, tyS_str, tyS_tup, tyS_lst, tyS_dct, isi_non_bool, isi_non_int, isi_non_str, isi_non_tuple, isi_non_list, isi_non_dict, isi_bl_bool, isi_bl_int, isi_bl_str, isi_bl_tuple, isi_bl_list, isi_bl_dict, isi_int_bool, isi_int_int, isi_int_str, isi_int_tuple, isi_int_list, isi_int_dict, isi_str_bool, isi_str_int, isi_str_str, isi_str_tuple, isi_str_list, isi_str_dict, isi_tup_bool, isi_tup_int, isi_tup_str, isi_tup_tuple, isi_tup_list, isi_tup_dict, isi_lst_bool, isi_lst_int, isi_lst_str, isi_lst_tuple, isi_lst_list, isi_lst_dict, isi_dct_bool, isi_dct_int, isi_dct_str, isi_dct_tuple, isi_dct_list, isi_dct_dict, List.length_map, Bool.not_true, Bool.not_false, eqD, neD, eqTx, neTx, dec_if, dec_ifn, Bool.not_not, at0, at1, at2, ix0, ix1, ix2, Bd.ints_map, Bd.bls_map, Option.some.injEq, exists_eq_left', memD_lst, memD_tup, memD_str, isIn_nil, isIn_cons, isIn_ints, scal_int, scal_str, scal_bl, scal_non, scals_nil, scals_cons, scals_ints, shp_l1i, shp_l2i, shp_l3i, shp_t1i, shp_t2i, shp_t3i, dec_or, dec_orf, Bool.and_self, shp_non, shp_bl, shp_int, shp_tints, shp_lints, shp_tnil, shp_lnil, eqd_int, eqd_str, eqd_bl, eqd_non, eqd_tints, eqd_lints, eqd_lnil, eqd_tnil, shp_lenc, shp_tenc, List.map_eq_nil_iff, box]
      refine hk _ _ ⟨a', b', ps ++ [d], by simp, by simp, hb', fun p hp => ?_, rfl⟩
      rcases List.mem_append.mp hp with hp | hp
      · exact hps p hp
      · rw [List.mem_singleton.mp hp]; omega
    · rintro acc ρ ⟨a, b, ps, rfl, hl, hb, hps, rfl⟩
      have hl2 : (ps.length : Int) = 1 + cnt := by rw [hl]; simp [rgL]; omega
      simp only [wsR, wsX, wsA, wsI, wsN, wsRN, wsBk, wsCt, wsP, wsS, wsF, wsW, wAndV, wOrV, wNotV, wIf, wNeg, wCall, wBc, wBn, wCons, wNil, wTup, wLst, wOp, wCh, Bd.wT, wTr, wMn, wMe, wMe0, apF, popF, mtD, wPm, isTupD, cntF, ssF, lsF, wPA, wPC, reprF, wIxN, wLcN, wiZN, wsP3, wDct0, frzs_enc2, solids_enc2, solid_enc2, wBack, backD, intF, minPF, wAnd, wOr, Bd.wNot, wYes, wSl, wSo, wNo, wN_eq, wV_eq, wM_eq, getD0, getDs, nB_non, nB_bl, nB_int, nB_str, nB_opq, nB_own, nB_shr, nB_con, nB_down, nB_dshr, nB_dcon, nB_tup, nE_non, nE_bl, nE_int, nE_str, nE_opq, nE_own, nE_shr, nE_con, nE_down, nE_dshr, nE_dcon, nE_tup, nM_non, nM_bl, nM_int, nM_str, nM_opq, nM_own, nM_shr, nM_con, nM_down, nM_dshr, nM_dcon, nM_tup, wB, wC, c1, c2, isiF, lenF, sumF, maxF, minF, max2F, min2F, absF, divF, listF, tupF, sortF, allF, anyF, addD, mulD, Bd.intD, intD0, isB, truW, gb, gbs, outs, gN, gi1, gsC, gsN, gT, gS, gSn, evL, takeL, wBL, th_lst, th_dct, th_tup, th_int, th_bl, th_str, th_non, th_opq, setD, ixD, slD, isD, wCallF, wLc, wiS, wiZ, wiE, wiR1, wiR2, wiR3, seqQ, solids, D.solid, ints_solid, ints_frz, frzs, D.frz, List.set_cons_zero, List.set_cons_succ, if_true, if_false, Bool.false_eq_true, true_and, and_true, ite_true, ite_false, List.cons_append, List.nil_append, wipeD, reduceIte, List.length_cons, List.length_nil, reduceCtorEq, tyN_bool, tyN_int, tyN_str, tyN_tuple, tyN_list, tyN_dict, tyS_non, tyS_bl, tyS_int, tyS_str, tyS_tup, tyS_lst, tyS_dct, isi_non_bool, isi_non_int, isi_non_str, isi_non_tuple, isi_non_list, isi_non_dict, isi_bl_bool, isi_bl_int, isi_bl_str, isi_bl_tuple, isi_bl_list, isi_bl_dict, isi_int_bool, isi_int_int, isi_int_str, isi_int_tuple, isi_int_list, isi_int_dict, isi_str_bool, isi_str_int, isi_str_str, isi_str_tuple, isi_str_list, isi_str_dict, isi_tup_bool, isi_tup_int, isi_tup_str, isi_tup_tuple, isi_tup_list, isi_tup_dict, isi_lst_bool, isi_lst_int, isi_lst_str, isi_lst_tuple, isi_lst_list, isi_lst_dict, isi_dct_bool, isi_dct_int, isi_dct_str, isi_dct_tuple, isi_dct_list, isi_dct_dict, List.length_map, Bool.not_true, Bool.not_false, eqD, neD, eqTx, neTx, dec_if, dec_ifn, Bool.not_not, at0, at1, at2, ix0, ix1, ix2, Bd.ints_map, Bd.bls_map, Option.some.injEq, exists_eq_left', memD_lst, memD_tup, memD_str, isIn_nil, isIn_cons, isIn_ints, scal_int, scal_str, scal_bl, scal_non, scals_nil, scals_cons, scals_ints, shp_l1i, shp_l2i, shp_l3i, shp_t1i, shp_t2i, shp_t3i, dec_or, dec_orf, Bool.and_self, shp_non, shp_bl, shp_int, shp_tints, shp_lints, shp_tnil, shp_lnil, eqd_int, eqd_str, eqd_bl, eqd_non, eqd_tints, eqd_lints, eqd_lnil, eqd_tnil, shp_lenc, shp_tenc, List.map_eq_nil_iff, box]
      exact rest2 a b most ps hb (by omega) (by omega) hps
  unfold w_law_parts w_law_parts_0 box
  simp only [wsR, wsX, wsA, wsI, wsN, wsRN, wsBk, wsCt, wsP, wsS, wsF, wsW, wAndV, wOrV, wNotV, wIf, wNeg, wCall, wBc, wBn, wCons, wNil, wTup, wLst, wOp, wCh, Bd.wT, wTr, wMn, wMe, wMe0, apF, popF, mtD, wPm, isTupD, cntF, ssF, lsF, wPA, wPC, reprF, wIxN, wLcN, wiZN, wsP3, wDct0, frzs_enc2, solids_enc2, solid_enc2, wBack, backD, intF, minPF, wAnd, wOr, Bd.wNot, wYes, wSl, wSo, wNo, wN_eq, wV_eq, wM_eq, getD0, getDs, nB_non, nB_bl, nB_int, nB_str, nB_opq, nB_own, nB_shr, nB_con, nB_down, nB_dshr, nB_dcon, nB_tup, nE_non, nE_bl, nE_int, nE_str, nE_opq, nE_own, nE_shr, nE_con, nE_down, nE_dshr, nE_dcon, nE_tup, nM_non, nM_bl, nM_int, nM_str, nM_opq, nM_own, nM_shr, nM_con, nM_down, nM_dshr, nM_dcon, nM_tup, wB, wC, c1, c2, isiF, lenF, sumF, maxF, minF, max2F, min2F, absF, divF, listF, tupF, sortF, allF, anyF, addD, mulD, Bd.intD, intD0, isB, truW, gb, gbs, outs, gN, gi1, gsC, gsN, gT, gS, gSn, evL, takeL, wBL, th_lst, th_dct, th_tup, th_int, th_bl, th_str, th_non, th_opq, setD, ixD, slD, isD, wCallF, wLc, wiS, wiZ, wiE, wiR1, wiR2, wiR3, seqQ, solids, D.solid, ints_solid, ints_frz, frzs, D.frz, List.set_cons_zero, List.set_cons_succ, if_true, if_false, Bool.false_eq_true, true_and, and_true, ite_true, ite_false, List.cons_append, List.nil_append, wipeD, reduceIte, List.length_cons, List.length_nil, reduceCtorEq, tyN_bool, tyN_int, tyN_str, tyN_tuple, tyN_list, tyN_dict, tyS_non, tyS_bl, tyS_int, tyS_str, tyS_tup, tyS_lst, tyS_dct, isi_non_bool, isi_non_int, isi_non_str, isi_non_tuple, isi_non_list, isi_non_dict, isi_bl_bool, isi_bl_int, isi_bl_str, isi_bl_tuple, isi_bl_list, isi_bl_dict, isi_int_bool, isi_int_int, isi_int_str, isi_int_tuple, isi_int_list, isi_int_dict, isi_str_bool, isi_str_int, isi_str_str, isi_str_tuple, isi_str_list, isi_str_dict, isi_tup_bool, isi_tup_int, isi_tup_str, isi_tup_tuple, isi_tup_list, isi_tup_dict, isi_lst_bool, isi_lst_int, isi_lst_str, isi_lst_tuple, isi_lst_list, isi_lst_dict, isi_dct_bool, isi_dct_int, isi_dct_str, isi_dct_tuple, isi_dct_list, isi_dct_dict, List.length_map, Bool.not_true, Bool.not_false, eqD, neD, eqTx, neTx, dec_if, dec_ifn, Bool.not_not, at0, at1, at2, ix0, ix1, ix2, Bd.ints_map, Bd.bls_map, Option.some.injEq, exists_eq_left', memD_lst, memD_tup, memD_str, isIn_nil, isIn_cons, isIn_ints, scal_int, scal_str, scal_bl, scal_non, scals_nil, scals_cons, scals_ints, shp_l1i, shp_l2i, shp_l3i, shp_t1i, shp_t2i, shp_t3i, dec_or, dec_orf, Bool.and_self, shp_non, shp_bl, shp_int, shp_tints, shp_lints, shp_tnil, shp_lnil, eqd_int, eqd_str, eqd_bl, eqd_non, eqd_tints, eqd_lints, eqd_lnil, eqd_tnil, shp_lenc, shp_tenc, List.map_eq_nil_iff]
  refine ⟨by decide, a, b, 3, rfl, h1, by decide, by decide, fun a1 b1 d hb hd0 hd1 => ?_⟩
  have hd : d = 0 ∨ d = 1 ∨ d = 2 := by omega
  rcases hd with rfl | rfl | rfl
  all_goals
    simp only [wsR, wsX, wsA, wsI, wsN, wsRN, wsBk, wsCt, wsP, wsS, wsF, wsW, wAndV, wOrV, wNotV, wIf, wNeg, wCall, wBc, wBn, wCons, wNil, wTup, wLst, wOp, wCh, Bd.wT, wTr, wMn, wMe, wMe0, apF, popF, mtD, wPm, isTupD, cntF, ssF, lsF, wPA, wPC, reprF, wIxN, wLcN, wiZN, wsP3, wDct0, frzs_enc2, solids_enc2, solid_enc2, wBack, backD, intF, minPF, wAnd, wOr, Bd.wNot, wYes, wSl, wSo, wNo, wN_eq, wV_eq, wM_eq, getD0, getDs, nB_non, nB_bl, nB_int, nB_str, nB_opq, nB_own, nB_shr, nB_con, nB_down, nB_dshr, nB_dcon, nB_tup, nE_non, nE_bl, nE_int, nE_str, nE_opq, nE_own, nE_shr, nE_con, nE_down, nE_dshr, nE_dcon, nE_tup, nM_non, nM_bl, nM_int, nM_str, nM_opq, nM_own, nM_shr, nM_con, nM_down, nM_dshr, nM_dcon, nM_tup, wB, wC, c1, c2, isiF, lenF, sumF, maxF, minF, max2F, min2F, absF, divF, listF, tupF, sortF, allF, anyF, addD, mulD, Bd.intD, intD0, isB, truW, gb, gbs, outs, gN, gi1, gsC, gsN, gT, gS, gSn, evL, takeL, wBL, th_lst, th_dct, th_tup, th_int, th_bl, th_str, th_non, th_opq, setD, ixD, slD, isD, wCallF, wLc, wiS, wiZ, wiE, wiR1, wiR2, wiR3, seqQ, solids, D.solid, ints_solid, ints_frz, frzs, D.frz, List.set_cons_zero, List.set_cons_succ, if_true, if_false, Bool.false_eq_true, true_and, and_true, ite_true, ite_false, List.cons_append, List.nil_append, wipeD, reduceIte, List.length_cons, List.length_nil, reduceCtorEq, tyN_bool, tyN_int, tyN_str, tyN_tuple, tyN_list, tyN_dict, tyS_non, tyS_bl, tyS_int, tyS_str, tyS_tup, tyS_lst, tyS_dct, isi_non_bool, isi_non_int, isi_non_str, isi_non_tuple, isi_non_list, isi_non_dict, isi_bl_bool, isi_bl_int, isi_bl_str, isi_bl_tuple, isi_bl_list, isi_bl_dict, isi_int_bool, isi_int_int, isi_int_str, isi_int_tuple, isi_int_list, isi_int_dict, isi_str_bool, isi_str_int, isi_str_str, isi_str_tuple, isi_str_list, isi_str_dict, isi_tup_bool, isi_tup_int, isi_tup_str, isi_tup_tuple, isi_tup_list, isi_tup_dict, isi_lst_bool, isi_lst_int, isi_lst_str, isi_lst_tuple, isi_lst_list, isi_lst_dict, isi_dct_bool, isi_dct_int, isi_dct_str, isi_dct_tuple, isi_dct_list, isi_dct_dict, List.length_map, Bool.not_true, Bool.not_false, eqD, neD, eqTx, neTx, dec_if, dec_ifn, Bool.not_not, at0, at1, at2, ix0, ix1, ix2, Bd.ints_map, Bd.bls_map, Option.some.injEq, exists_eq_left', memD_lst, memD_tup, memD_str, isIn_nil, isIn_cons, isIn_ints, scal_int, scal_str, scal_bl, scal_non, scals_nil, scals_cons, scals_ints, shp_l1i, shp_l2i, shp_l3i, shp_t1i, shp_t2i, shp_t3i, dec_or, dec_orf, Bool.and_self, shp_non, shp_bl, shp_int, shp_tints, shp_lints, shp_tnil, shp_lnil, eqd_int, eqd_str, eqd_bl, eqd_non, eqd_tints, eqd_lints, eqd_lnil, eqd_tnil, shp_lenc, shp_tenc, List.map_eq_nil_iff, box]
    exact rest _ _ _ hb (by decide) (by decide)
end K07

namespace K07
open PySem PySem.Spec PyProof.Rows L2 Bd
theorem sum_nn {l : List Int} (h : ∀ p ∈ l, 0 ≤ p) : 0 ≤ l.sum := by
  induction l with
  | nil => simp
  | cons x r ih =>
    have := h x List.mem_cons_self
    have := ih fun p hp => h p (List.mem_cons_of_mem _ hp)
    rw [List.sum_cons]; omega
theorem sum_ub {c : Int} {l : List Int} (h : ∀ p ∈ l, p ≤ c) : l.sum ≤ c * l.length := by
  induction l with
  | nil => simp
  | cons x r ih =>
    have := h x List.mem_cons_self
    have := ih fun p hp => h p (List.mem_cons_of_mem _ hp)
    rw [List.sum_cons, List.length_cons]
    have e : c * ((r.length + 1 : Nat) : Int) = c * r.length + c := by rw [Int.natCast_add, Int.mul_add]; simp
    omega
theorem sum_le {l : List Int} (h : ∀ p ∈ l, 0 ≤ p) {p : Int} (hp : p ∈ l) : p ≤ l.sum := le_sum h hp
/-- the whole parts come to no more than all -/
theorem floors_le {m t : Int} (ht : 0 < t) (hm : 0 ≤ m) : ∀ ps : List Int, t * (ps.map fun p => m * p / t).sum ≤ m * ps.sum
  | [] => by simp
  | p :: r => by
    rw [List.map_cons, List.sum_cons, List.sum_cons, Int.mul_add, Int.mul_add]
    have h1 : t * (m * p / t) ≤ m * p := Int.mul_ediv_self_le (by omega)
    have h2 := floors_le ht hm r
    omega
theorem floors_ok {ps : List Int} {m : Int} (hf : frontsOk ps) (hm : 0 ≤ m) : (floors ps m).sum ≤ m := by
  have hn := sum_nn fun p hp => (hf.2.2.1 p hp).1
  have ht : 0 < ps.sum := by have := hf.2.2.2; omega
  have h := floors_le ht hm ps
  rw [Int.mul_comm m] at h
  exact Int.le_of_mul_le_mul_left h ht
theorem bump_len (fs : List Int) (p : Int × Int) : (bump fs p).length = fs.length := by simp [bump]
theorem bumps_len : ∀ (l : List (Int × Int)) (fs : List Int), (l.foldl bump fs).length = fs.length
  | [], _ => rfl
  | p :: r, fs => by rw [List.foldl_cons, bumps_len r, bump_len]
theorem left_ok {ps : List Int} {m : Int} {p : Int × Int} (h : p ∈ left ps m) : 0 ≤ p.2 ∧ p.2 < ps.length := by
  have h1 : p ∈ rests ps m := List.mem_of_mem_take h
  unfold rests at h1
  rw [List.mem_mergeSort] at h1
  obtain ⟨z, hz, rfl⟩ := List.mem_map.mp h1
  have := List.mem_zipIdx hz
  simp at this ⊢
  omega
theorem r_shares_by : Tells S_shares_by [true, true] 6 w_shares_by := by
  rintro ds Q E ⟨ps, m, rfl, hf, hm0, hm1, h2⟩
  have hfl := floors_ok hf hm0
  obtain ⟨hl0, hl1, hps, hs⟩ := hf
  show w_shares_by _ _ [.tup (ps.map D.int), .int m, .gone, .gone, .gone, .gone, .gone, .gone]
  generalize (fun (c : Str) (ns : List Int) ρ => E c ns (outs [true, true] ρ)) = Ex
  have hn := sum_nn fun p hp => (hps p hp).1
  have ht : 0 < ps.sum := by omega
  have hu := sum_ub fun p hp => (hps p hp).2
  have big : (64 : Nat) ≤ sizeLine := by decide
  have hmul : ∀ p ∈ ps, CMulW m p := fun p hp => mulW 40 40 (by omega) (by omega) (by have := hps p hp; omega) (by have := hps p hp; omega) (by decide)
  unfold w_shares_by w_shares_by_0
  simp only [wsR, wsX, wsA, wsI, wsN, wsRN, wsBk, wsCt, wsP, wsS, wsF, wsW, wAndV, wOrV, wNotV, wIf, wNeg, wCall, wBc, wBn, wCons, wNil, wTup, wLst, wOp, wCh, Bd.wT, wTr, wMn, wMe, wMe0, apF, popF, mtD, wPm, isTupD, cntF, ssF, lsF, wPA, wPC, reprF, wIxN, wLcN, wiZN, wsP3, wDct0, frzs_enc2, solids_enc2, solid_enc2, wBack, backD, intF, minPF, wAnd, wOr, Bd.wNot, wYes, wSl, wSo, wNo, wN_eq, wV_eq, wM_eq, getD0, getDs, nB_non, nB_bl, nB_int, nB_str, nB_opq, nB_own, nB_shr, nB_con, nB_down, nB_dshr, nB_dcon, nB_tup, nE_non, nE_bl, nE_int, nE_str, nE_opq, nE_own, nE_shr, nE_con, nE_down, nE_dshr, nE_dcon, nE_tup, nM_non, nM_bl, nM_int, nM_str, nM_opq, nM_own, nM_shr, nM_con, nM_down, nM_dshr, nM_dcon, nM_tup, wB, wC, c1, c2, isiF, lenF, sumF, maxF, minF, max2F, min2F, absF, divF, listF, tupF, sortF, allF, anyF, addD, mulD, Bd.intD, intD0, isB, truW, gb, gbs, outs, gN, gi1, gsC, gsN, gT, gS, gSn, evL, takeL, wBL, th_lst, th_dct, th_tup, th_int, th_bl, th_str, th_non, th_opq, setD, ixD, slD, isD, wCallF, wLc, wiS, wiZ, wiE, wiR1, wiR2, wiR3, seqQ, solids, D.solid, ints_solid, ints_frz, frzs, D.frz, List.set_cons_zero, List.set_cons_succ, if_true, if_false, Bool.false_eq_true, true_and, and_true, ite_true, ite_false, List.cons_append, List.nil_append, wipeD, reduceIte, List.length_cons, List.length_nil, reduceCtorEq, tyN_bool, tyN_int, tyN_str, tyN_tuple, tyN_list, tyN_dict, tyS_non, tyS_bl, tyS_int, tyS_str, tyS_tup, tyS_lst, tyS_dct, isi_non_bool, isi_non_int, isi_non_str, isi_non_tuple, isi_non_list, isi_non_dict, isi_bl_bool, isi_bl_int, isi_bl_str, isi_bl_tuple, isi_bl_list, isi_bl_dict, isi_int_bool, isi_int_int, isi_int_str, isi_int_tuple, isi_int_list, isi_int_dict, isi_str_bool, isi_str_int, isi_str_str, isi_str_tuple, isi_str_list, isi_str_dict, isi_tup_bool, isi_tup_int, isi_tup_str, isi_tup_tuple, isi_tup_list, isi_tup_dict, isi_lst_bool, isi_lst_int, isi_lst_str, isi_lst_tuple, isi_lst_list, isi_lst_dict, isi_dct_bool, isi_dct_int, isi_dct_str, isi_dct_tuple, isi_dct_list, isi_dct_dict, List.length_map, Bool.not_true, Bool.not_false, eqD, neD, eqTx, neTx, dec_if, dec_ifn, Bool.not_not, at0, at1, at2, ix0, ix1, ix2, Bd.ints_map, Bd.bls_map, Option.some.injEq, exists_eq_left', memD_lst, memD_tup, memD_str, isIn_nil, isIn_cons, isIn_ints, scal_int, scal_str, scal_bl, scal_non, scals_nil, scals_cons, scals_ints, shp_l1i, shp_l2i, shp_l3i, shp_t1i, shp_t2i, shp_t3i, dec_or, dec_orf, Bool.and_self, shp_non, shp_bl, shp_int, shp_tints, shp_lints, shp_tnil, shp_lnil, eqd_int, eqd_str, eqd_bl, eqd_non, eqd_tints, eqd_lints, eqd_lnil, eqd_tnil, shp_lenc, shp_tenc, List.map_eq_nil_iff]
  unfold w_shares_by_1
  simp only [wsR, wsX, wsA, wsI, wsN, wsRN, wsBk, wsCt, wsP, wsS, wsF, wsW, wAndV, wOrV, wNotV, wIf, wNeg, wCall, wBc, wBn, wCons, wNil, wTup, wLst, wOp, wCh, Bd.wT, wTr, wMn, wMe, wMe0, apF, popF, mtD, wPm, isTupD, cntF, ssF, lsF, wPA, wPC, reprF, wIxN, wLcN, wiZN, wsP3, wDct0, frzs_enc2, solids_enc2, solid_enc2, wBack, backD, intF, minPF, wAnd, wOr, Bd.wNot, wYes, wSl, wSo, wNo, wN_eq, wV_eq, wM_eq, getD0, getDs, nB_non, nB_bl, nB_int, nB_str, nB_opq, nB_own, nB_shr, nB_con, nB_down, nB_dshr, nB_dcon, nB_tup, nE_non, nE_bl, nE_int, nE_str, nE_opq, nE_own, nE_shr, nE_con, nE_down, nE_dshr, nE_dcon, nE_tup, nM_non, nM_bl, nM_int, nM_str, nM_opq, nM_own, nM_shr, nM_con, nM_down, nM_dshr, nM_dcon, nM_tup, wB, wC, c1, c2, isiF, lenF, sumF, maxF, minF, max2F, min2F, absF, divF, listF, tupF, sortF, allF, anyF, addD, mulD, Bd.intD, intD0, isB, truW, gb, gbs, outs, gN, gi1, gsC, gsN, gT, gS, gSn, evL, takeL, wBL, th_lst, th_dct, th_tup, th_int, th_bl, th_str, th_non, th_opq, setD, ixD, slD, isD, wCallF, wLc, wiS, wiZ, wiE, wiR1, wiR2, wiR3, seqQ, solids, D.solid, ints_solid, ints_frz, frzs, D.frz, List.set_cons_zero, List.set_cons_succ, if_true, if_false, Bool.false_eq_true, true_and, and_true, ite_true, ite_false, List.cons_append, List.nil_append, wipeD, reduceIte, List.length_cons, List.length_nil, reduceCtorEq, tyN_bool, tyN_int, tyN_str, tyN_tuple, tyN_list, tyN_dict, tyS_non, tyS_bl, tyS_int, tyS_str, tyS_tup, tyS_lst, tyS_dct, isi_non_bool, isi_non_int, isi_non_str, isi_non_tuple, isi_non_list, isi_non_dict, isi_bl_bool, isi_bl_int, isi_bl_str, isi_bl_tuple, isi_bl_list, isi_bl_dict, isi_int_bool, isi_int_int, isi_int_str, isi_int_tuple, isi_int_list, isi_int_dict, isi_str_bool, isi_str_int, isi_str_str, isi_str_tuple, isi_str_list, isi_str_dict, isi_tup_bool, isi_tup_int, isi_tup_str, isi_tup_tuple, isi_tup_list, isi_tup_dict, isi_lst_bool, isi_lst_int, isi_lst_str, isi_lst_tuple, isi_lst_list, isi_lst_dict, isi_dct_bool, isi_dct_int, isi_dct_str, isi_dct_tuple, isi_dct_list, isi_dct_dict, List.length_map, Bool.not_true, Bool.not_false, eqD, neD, eqTx, neTx, dec_if, dec_ifn, Bool.not_not, at0, at1, at2, ix0, ix1, ix2, Bd.ints_map, Bd.bls_map, Option.some.injEq, exists_eq_left', memD_lst, memD_tup, memD_str, isIn_nil, isIn_cons, isIn_ints, scal_int, scal_str, scal_bl, scal_non, scals_nil, scals_cons, scals_ints, shp_l1i, shp_l2i, shp_l3i, shp_t1i, shp_t2i, shp_t3i, dec_or, dec_orf, Bool.and_self, shp_non, shp_bl, shp_int, shp_tints, shp_lints, shp_tnil, shp_lnil, eqd_int, eqd_str, eqd_bl, eqd_non, eqd_tints, eqd_lints, eqd_lnil, eqd_tnil, shp_lenc, shp_tenc, List.map_eq_nil_iff]
  refine ⟨by simp [ones]; omega, ?_⟩
  rw [ones_map]
  refine lcL_map (fun its => match its with | [.int p] => .int (m * p / ps.sum) | _ => .gone) ?_ ?_
  · intro its hi K hK
    obtain ⟨p, hp, rfl⟩ := List.mem_map.mp hi
    simp only [wsR, wsX, wsA, wsI, wsN, wsRN, wsBk, wsCt, wsP, wsS, wsF, wsW, wAndV, wOrV, wNotV, wIf, wNeg, wCall, wBc, wBn, wCons, wNil, wTup, wLst, wOp, wCh, Bd.wT, wTr, wMn, wMe, wMe0, apF, popF, mtD, wPm, isTupD, cntF, ssF, lsF, wPA, wPC, reprF, wIxN, wLcN, wiZN, wsP3, wDct0, frzs_enc2, solids_enc2, solid_enc2, wBack, backD, intF, minPF, wAnd, wOr, Bd.wNot, wYes, wSl, wSo, wNo, wN_eq, wV_eq, wM_eq, getD0, getDs, nB_non, nB_bl, nB_int, nB_str, nB_opq, nB_own, nB_shr, nB_con, nB_down, nB_dshr, nB_dcon, nB_tup, nE_non, nE_bl, nE_int, nE_str, nE_opq, nE_own, nE_shr, nE_con, nE_down, nE_dshr, nE_dcon, nE_tup, nM_non, nM_bl, nM_int, nM_str, nM_opq, nM_own, nM_shr, nM_con, nM_down, nM_dshr, nM_dcon, nM_tup, wB, wC, c1, c2, isiF, lenF, sumF, maxF, minF, max2F, min2F, absF, divF, listF, tupF, sortF, allF, anyF, addD, mulD, Bd.intD, intD0, isB, truW, gb, gbs, outs, gN, gi1, gsC, gsN, gT, gS, gSn, evL, takeL, wBL, th_lst, th_dct, th_tup, th_int, th_bl, th_str, th_non, th_opq, setD, ixD, slD, isD, wCallF, wLc, wiS, wiZ, wiE, wiR1, wiR2, wiR3, seqQ, solids, D.solid, ints_solid, ints_frz, frzs, D.frz, List.set_cons_zero, List.set_cons_succ, if_true, if_false, Bool.false_eq_true, true_and, and_true, ite_true, ite_false, List.cons_append, List.nil_append, wipeD, reduceIte, List.length_cons, List.length_nil, reduceCtorEq, tyN_bool, tyN_int, tyN_str, tyN_tuple, tyN_list, tyN_dict, tyS_non, tyS_bl, tyS_int, tyS_str, tyS_tup, tyS_lst, tyS_dct, isi_non_bool, isi_non_int, isi_non_str, isi_non_tuple, isi_non_list, isi_non_dict, isi_bl_bool, isi_bl_int, isi_bl_str, isi_bl_tuple, isi_bl_list, isi_bl_dict, isi_int_bool, isi_int_int, isi_int_str, isi_int_tuple, isi_int_list, isi_int_dict, isi_str_bool, isi_str_int, isi_str_str, isi_str_tuple, isi_str_list, isi_str_dict, isi_tup_bool, isi_tup_int, isi_tup_str, isi_tup_tuple, isi_tup_list, isi_tup_dict, isi_lst_bool, isi_lst_int, isi_lst_str, isi_lst_tuple, isi_lst_list, isi_lst_dict, isi_dct_bool, isi_dct_int, isi_dct_str, isi_dct_tuple, isi_dct_list, isi_dct_dict, List.length_map, Bool.not_true, Bool.not_false, eqD, neD, eqTx, neTx, dec_if, dec_ifn, Bool.not_not, at0, at1, at2, ix0, ix1, ix2, Bd.ints_map, Bd.bls_map, Option.some.injEq, exists_eq_left', memD_lst, memD_tup, memD_str, isIn_nil, isIn_cons, isIn_ints, scal_int, scal_str, scal_bl, scal_non, scals_nil, scals_cons, scals_ints, shp_l1i, shp_l2i, shp_l3i, shp_t1i, shp_t2i, shp_t3i, dec_or, dec_orf, Bool.and_self, shp_non, shp_bl, shp_int, shp_tints, shp_lints, shp_tnil, shp_lnil, eqd_int, eqd_str, eqd_bl, eqd_non, eqd_tints, eqd_lints, eqd_lnil, eqd_tnil, shp_lenc, shp_tenc, List.map_eq_nil_iff]
    refine ⟨hmul p hp, divW 40 ht (by omega) (by decide), ?_⟩
    exact hK
  have ef : List.map (fun its => match its with | [D.int p] => D.int (m * p / ps.sum) | x => D.gone) (List.map (fun a => [D.int a]) ps) = (floors ps m).map D.int := by
    rw [List.map_map, floors, List.map_map]; rfl
  rw [ef]
  simp only [wsR, wsX, wsA, wsI, wsN, wsRN, wsBk, wsCt, wsP, wsS, wsF, wsW, wAndV, wOrV, wNotV, wIf, wNeg, wCall, wBc, wBn, wCons, wNil, wTup, wLst, wOp, wCh, Bd.wT, wTr, wMn, wMe, wMe0, apF, popF, mtD, wPm, isTupD, cntF, ssF, lsF, wPA, wPC, reprF, wIxN, wLcN, wiZN, wsP3, wDct0, frzs_enc2, solids_enc2, solid_enc2, wBack, backD, intF, minPF, wAnd, wOr, Bd.wNot, wYes, wSl, wSo, wNo, wN_eq, wV_eq, wM_eq, getD0, getDs, nB_non, nB_bl, nB_int, nB_str, nB_opq, nB_own, nB_shr, nB_con, nB_down, nB_dshr, nB_dcon, nB_tup, nE_non, nE_bl, nE_int, nE_str, nE_opq, nE_own, nE_shr, nE_con, nE_down, nE_dshr, nE_dcon, nE_tup, nM_non, nM_bl, nM_int, nM_str, nM_opq, nM_own, nM_shr, nM_con, nM_down, nM_dshr, nM_dcon, nM_tup, wB, wC, c1, c2, isiF, lenF, sumF, maxF, minF, max2F, min2F, absF, divF, listF, tupF, sortF, allF, anyF, addD, mulD, Bd.intD, intD0, isB, truW, gb, gbs, outs, gN, gi1, gsC, gsN, gT, gS, gSn, evL, takeL, wBL, th_lst, th_dct, th_tup, th_int, th_bl, th_str, th_non, th_opq, setD, ixD, slD, isD, wCallF, wLc, wiS, wiZ, wiE, wiR1, wiR2, wiR3, seqQ, solids, D.solid, ints_solid, ints_frz, frzs, D.frz, List.set_cons_zero, List.set_cons_succ, if_true, if_false, Bool.false_eq_true, true_and, and_true, ite_true, ite_false, List.cons_append, List.nil_append, wipeD, reduceIte, List.length_cons, List.length_nil, reduceCtorEq, tyN_bool, tyN_int, tyN_str, tyN_tuple, tyN_list, tyN_dict, tyS_non, tyS_bl, tyS_int, tyS_str, tyS_tup, tyS_lst, tyS_dct, isi_non_bool, isi_non_int, isi_non_str, isi_non_tuple, isi_non_list, isi_non_dict, isi_bl_bool, isi_bl_int, isi_bl_str, isi_bl_tuple, isi_bl_list, isi_bl_dict, isi_int_bool, isi_int_int, isi_int_str, isi_int_tuple, isi_int_list, isi_int_dict, isi_str_bool, isi_str_int, isi_str_str, isi_str_tuple, isi_str_list, isi_str_dict, isi_tup_bool, isi_tup_int, isi_tup_str, isi_tup_tuple, isi_tup_list, isi_tup_dict, isi_lst_bool, isi_lst_int, isi_lst_str, isi_lst_tuple, isi_lst_list, isi_lst_dict, isi_dct_bool, isi_dct_int, isi_dct_str, isi_dct_tuple, isi_dct_list, isi_dct_dict, List.length_map, Bool.not_true, Bool.not_false, eqD, neD, eqTx, neTx, dec_if, dec_ifn, Bool.not_not, at0, at1, at2, ix0, ix1, ix2, Bd.ints_map, Bd.bls_map, Option.some.injEq, exists_eq_left', memD_lst, memD_tup, memD_str, isIn_nil, isIn_cons, isIn_ints, scal_int, scal_str, scal_bl, scal_non, scals_nil, scals_cons, scals_ints, shp_l1i, shp_l2i, shp_l3i, shp_t1i, shp_t2i, shp_t3i, dec_or, dec_orf, Bool.and_self, shp_non, shp_bl, shp_int, shp_tints, shp_lints, shp_tnil, shp_lnil, eqd_int, eqd_str, eqd_bl, eqd_non, eqd_tints, eqd_lints, eqd_lnil, eqd_tnil, shp_lenc, shp_tenc, List.map_eq_nil_iff]
  unfold w_shares_by_2
  simp only [wsR, wsX, wsA, wsI, wsN, wsRN, wsBk, wsCt, wsP, wsS, wsF, wsW, wAndV, wOrV, wNotV, wIf, wNeg, wCall, wBc, wBn, wCons, wNil, wTup, wLst, wOp, wCh, Bd.wT, wTr, wMn, wMe, wMe0, apF, popF, mtD, wPm, isTupD, cntF, ssF, lsF, wPA, wPC, reprF, wIxN, wLcN, wiZN, wsP3, wDct0, frzs_enc2, solids_enc2, solid_enc2, wBack, backD, intF, minPF, wAnd, wOr, Bd.wNot, wYes, wSl, wSo, wNo, wN_eq, wV_eq, wM_eq, getD0, getDs, nB_non, nB_bl, nB_int, nB_str, nB_opq, nB_own, nB_shr, nB_con, nB_down, nB_dshr, nB_dcon, nB_tup, nE_non, nE_bl, nE_int, nE_str, nE_opq, nE_own, nE_shr, nE_con, nE_down, nE_dshr, nE_dcon, nE_tup, nM_non, nM_bl, nM_int, nM_str, nM_opq, nM_own, nM_shr, nM_con, nM_down, nM_dshr, nM_dcon, nM_tup, wB, wC, c1, c2, isiF, lenF, sumF, maxF, minF, max2F, min2F, absF, divF, listF, tupF, sortF, allF, anyF, addD, mulD, Bd.intD, intD0, isB, truW, gb, gbs, outs, gN, gi1, gsC, gsN, gT, gS, gSn, evL, takeL, wBL, th_lst, th_dct, th_tup, th_int, th_bl, th_str, th_non, th_opq, setD, ixD, slD, isD, wCallF, wLc, wiS, wiZ, wiE, wiR1, wiR2, wiR3, seqQ, solids, D.solid, ints_solid, ints_frz, frzs, D.frz, List.set_cons_zero, List.set_cons_succ, if_true, if_false, Bool.false_eq_true, true_and, and_true, ite_true, ite_false, List.cons_append, List.nil_append, wipeD, reduceIte, List.length_cons, List.length_nil, reduceCtorEq, tyN_bool, tyN_int, tyN_str, tyN_tuple, tyN_list, tyN_dict, tyS_non, tyS_bl, tyS_int, tyS_str, tyS_tup, tyS_lst, tyS_dct, isi_non_bool, isi_non_int, isi_non_str, isi_non_tuple, isi_non_list, isi_non_dict, isi_bl_bool, isi_bl_int, isi_bl_str, isi_bl_tuple, isi_bl_list, isi_bl_dict, isi_int_bool, isi_int_int, isi_int_str, isi_int_tuple, isi_int_list, isi_int_dict, isi_str_bool, isi_str_int, isi_str_str, isi_str_tuple, isi_str_list, isi_str_dict, isi_tup_bool, isi_tup_int, isi_tup_str, isi_tup_tuple, isi_tup_list, isi_tup_dict, isi_lst_bool, isi_lst_int, isi_lst_str, isi_lst_tuple, isi_lst_list, isi_lst_dict, isi_dct_bool, isi_dct_int, isi_dct_str, isi_dct_tuple, isi_dct_list, isi_dct_dict, List.length_map, Bool.not_true, Bool.not_false, eqD, neD, eqTx, neTx, dec_if, dec_ifn, Bool.not_not, at0, at1, at2, ix0, ix1, ix2, Bd.ints_map, Bd.bls_map, Option.some.injEq, exists_eq_left', memD_lst, memD_tup, memD_str, isIn_nil, isIn_cons, isIn_ints, scal_int, scal_str, scal_bl, scal_non, scals_nil, scals_cons, scals_ints, shp_l1i, shp_l2i, shp_l3i, shp_t1i, shp_t2i, shp_t3i, dec_or, dec_orf, Bool.and_self, shp_non, shp_bl, shp_int, shp_tints, shp_lints, shp_tnil, shp_lnil, eqd_int, eqd_str, eqd_bl, eqd_non, eqd_tints, eqd_lints, eqd_lnil, eqd_tnil, shp_lenc, shp_tenc, List.map_eq_nil_iff]
  refine ⟨by simp [enums]; omega, ?_⟩
  rw [enums_ints]
  refine lcL_map (fun its => match its with | [.int j, .int p] => enc2 (0 - m * p % ps.sum, j) | _ => .gone) ?_ ?_
  · intro its hi K hK
    obtain ⟨z, hz, rfl⟩ := List.mem_map.mp hi
    have hp : z.1 ∈ ps := by
      have := List.mem_zipIdx hz
      rw [this.2.2]
      exact List.getElem_mem _
    simp only [wsR, wsX, wsA, wsI, wsN, wsRN, wsBk, wsCt, wsP, wsS, wsF, wsW, wAndV, wOrV, wNotV, wIf, wNeg, wCall, wBc, wBn, wCons, wNil, wTup, wLst, wOp, wCh, Bd.wT, wTr, wMn, wMe, wMe0, apF, popF, mtD, wPm, isTupD, cntF, ssF, lsF, wPA, wPC, reprF, wIxN, wLcN, wiZN, wsP3, wDct0, frzs_enc2, solids_enc2, solid_enc2, wBack, backD, intF, minPF, wAnd, wOr, Bd.wNot, wYes, wSl, wSo, wNo, wN_eq, wV_eq, wM_eq, getD0, getDs, nB_non, nB_bl, nB_int, nB_str, nB_opq, nB_own, nB_shr, nB_con, nB_down, nB_dshr, nB_dcon, nB_tup, nE_non, nE_bl, nE_int, nE_str, nE_opq, nE_own, nE_shr, nE_con, nE_down, nE_dshr, nE_dcon, nE_tup, nM_non, nM_bl, nM_int, nM_str, nM_opq, nM_own, nM_shr, nM_con, nM_down, nM_dshr, nM_dcon, nM_tup, wB, wC, c1, c2, isiF, lenF, sumF, maxF, minF, max2F, min2F, absF, divF, listF, tupF, sortF, allF, anyF, addD, mulD, Bd.intD, intD0, isB, truW, gb, gbs, outs, gN, gi1, gsC, gsN, gT, gS, gSn, evL, takeL, wBL, th_lst, th_dct, th_tup, th_int, th_bl, th_str, th_non, th_opq, setD, ixD, slD, isD, wCallF, wLc, wiS, wiZ, wiE, wiR1, wiR2, wiR3, seqQ, solids, D.solid, ints_solid, ints_frz, frzs, D.frz, List.set_cons_zero, List.set_cons_succ, if_true, if_false, Bool.false_eq_true, true_and, and_true, ite_true, ite_false, List.cons_append, List.nil_append, wipeD, reduceIte, List.length_cons, List.length_nil, reduceCtorEq, tyN_bool, tyN_int, tyN_str, tyN_tuple, tyN_list, tyN_dict, tyS_non, tyS_bl, tyS_int, tyS_str, tyS_tup, tyS_lst, tyS_dct, isi_non_bool, isi_non_int, isi_non_str, isi_non_tuple, isi_non_list, isi_non_dict, isi_bl_bool, isi_bl_int, isi_bl_str, isi_bl_tuple, isi_bl_list, isi_bl_dict, isi_int_bool, isi_int_int, isi_int_str, isi_int_tuple, isi_int_list, isi_int_dict, isi_str_bool, isi_str_int, isi_str_str, isi_str_tuple, isi_str_list, isi_str_dict, isi_tup_bool, isi_tup_int, isi_tup_str, isi_tup_tuple, isi_tup_list, isi_tup_dict, isi_lst_bool, isi_lst_int, isi_lst_str, isi_lst_tuple, isi_lst_list, isi_lst_dict, isi_dct_bool, isi_dct_int, isi_dct_str, isi_dct_tuple, isi_dct_list, isi_dct_dict, List.length_map, Bool.not_true, Bool.not_false, eqD, neD, eqTx, neTx, dec_if, dec_ifn, Bool.not_not, at0, at1, at2, ix0, ix1, ix2, Bd.ints_map, Bd.bls_map, Option.some.injEq, exists_eq_left', memD_lst, memD_tup, memD_str, isIn_nil, isIn_cons, isIn_ints, scal_int, scal_str, scal_bl, scal_non, scals_nil, scals_cons, scals_ints, shp_l1i, shp_l2i, shp_l3i, shp_t1i, shp_t2i, shp_t3i, dec_or, dec_orf, Bool.and_self, shp_non, shp_bl, shp_int, shp_tints, shp_lints, shp_tnil, shp_lnil, eqd_int, eqd_str, eqd_bl, eqd_non, eqd_tints, eqd_lints, eqd_lnil, eqd_tnil, shp_lenc, shp_tenc, List.map_eq_nil_iff]
    refine ⟨hmul _ hp, ht, by omega, ?_⟩
    exact hK
  have er : List.map (fun its => match its with | [D.int j, D.int p] => enc2 (0 - m * p % ps.sum, j) | x => D.gone) (List.map (fun z => [D.int (z.2 : Nat), D.int z.1]) ps.zipIdx) = (ps.zipIdx.map fun z => (0 - m * z.1 % ps.sum, ((z.2 : Nat) : Int))).map enc2 := by
    rw [List.map_map, List.map_map]; rfl
  rw [er]
  simp only [wsR, wsX, wsA, wsI, wsN, wsRN, wsBk, wsCt, wsP, wsS, wsF, wsW, wAndV, wOrV, wNotV, wIf, wNeg, wCall, wBc, wBn, wCons, wNil, wTup, wLst, wOp, wCh, Bd.wT, wTr, wMn, wMe, wMe0, apF, popF, mtD, wPm, isTupD, cntF, ssF, lsF, wPA, wPC, reprF, wIxN, wLcN, wiZN, wsP3, wDct0, frzs_enc2, solids_enc2, solid_enc2, wBack, backD, intF, minPF, wAnd, wOr, Bd.wNot, wYes, wSl, wSo, wNo, wN_eq, wV_eq, wM_eq, getD0, getDs, nB_non, nB_bl, nB_int, nB_str, nB_opq, nB_own, nB_shr, nB_con, nB_down, nB_dshr, nB_dcon, nB_tup, nE_non, nE_bl, nE_int, nE_str, nE_opq, nE_own, nE_shr, nE_con, nE_down, nE_dshr, nE_dcon, nE_tup, nM_non, nM_bl, nM_int, nM_str, nM_opq, nM_own, nM_shr, nM_con, nM_down, nM_dshr, nM_dcon, nM_tup, wB, wC, c1, c2, isiF, lenF, sumF, maxF, minF, max2F, min2F, absF, divF, listF, tupF, sortF, allF, anyF, addD, mulD, Bd.intD, intD0, isB, truW, gb, gbs, outs, gN, gi1, gsC, gsN, gT, gS, gSn, evL, takeL, wBL, th_lst, th_dct, th_tup, th_int, th_bl, th_str, th_non, th_opq, setD, ixD, slD, isD, wCallF, wLc, wiS, wiZ, wiE, wiR1, wiR2, wiR3, seqQ, solids, D.solid, ints_solid, ints_frz, frzs, D.frz, List.set_cons_zero, List.set_cons_succ, if_true, if_false, Bool.false_eq_true, true_and, and_true, ite_true, ite_false, List.cons_append, List.nil_append, wipeD, reduceIte, List.length_cons, List.length_nil, reduceCtorEq, tyN_bool, tyN_int, tyN_str, tyN_tuple, tyN_list, tyN_dict, tyS_non, tyS_bl, tyS_int, tyS_str, tyS_tup, tyS_lst, tyS_dct, isi_non_bool, isi_non_int, isi_non_str, isi_non_tuple, isi_non_list, isi_non_dict, isi_bl_bool, isi_bl_int, isi_bl_str, isi_bl_tuple, isi_bl_list, isi_bl_dict, isi_int_bool, isi_int_int, isi_int_str, isi_int_tuple, isi_int_list, isi_int_dict, isi_str_bool, isi_str_int, isi_str_str, isi_str_tuple, isi_str_list, isi_str_dict, isi_tup_bool, isi_tup_int, isi_tup_str, isi_tup_tuple, isi_tup_list, isi_tup_dict, isi_lst_bool, isi_lst_int, isi_lst_str, isi_lst_tuple, isi_lst_list, isi_lst_dict, isi_dct_bool, isi_dct_int, isi_dct_str, isi_dct_tuple, isi_dct_list, isi_dct_dict, List.length_map, Bool.not_true, Bool.not_false, eqD, neD, eqTx, neTx, dec_if, dec_ifn, Bool.not_not, at0, at1, at2, ix0, ix1, ix2, Bd.ints_map, Bd.bls_map, Option.some.injEq, exists_eq_left', memD_lst, memD_tup, memD_str, isIn_nil, isIn_cons, isIn_ints, scal_int, scal_str, scal_bl, scal_non, scals_nil, scals_cons, scals_ints, shp_l1i, shp_l2i, shp_l3i, shp_t1i, shp_t2i, shp_t3i, dec_or, dec_orf, Bool.and_self, shp_non, shp_bl, shp_int, shp_tints, shp_lints, shp_tnil, shp_lnil, eqd_int, eqd_str, eqd_bl, eqd_non, eqd_tints, eqd_lints, eqd_lnil, eqd_tnil, shp_lenc, shp_tenc, List.map_eq_nil_iff]
  refine ⟨alike_enc2 _, sortable_enc2 _, okd_enc2 _, ?_⟩
  rw [sort_enc2]
  show w_shares_by_3 Ex _ [_, _, _, _, .lst .own ((rests ps m).map enc2), _, _, _]
  unfold w_shares_by_3
  simp only [wsR, wsX, wsA, wsI, wsN, wsRN, wsBk, wsCt, wsP, wsS, wsF, wsW, wAndV, wOrV, wNotV, wIf, wNeg, wCall, wBc, wBn, wCons, wNil, wTup, wLst, wOp, wCh, Bd.wT, wTr, wMn, wMe, wMe0, apF, popF, mtD, wPm, isTupD, cntF, ssF, lsF, wPA, wPC, reprF, wIxN, wLcN, wiZN, wsP3, wDct0, frzs_enc2, solids_enc2, solid_enc2, wBack, backD, intF, minPF, wAnd, wOr, Bd.wNot, wYes, wSl, wSo, wNo, wN_eq, wV_eq, wM_eq, getD0, getDs, nB_non, nB_bl, nB_int, nB_str, nB_opq, nB_own, nB_shr, nB_con, nB_down, nB_dshr, nB_dcon, nB_tup, nE_non, nE_bl, nE_int, nE_str, nE_opq, nE_own, nE_shr, nE_con, nE_down, nE_dshr, nE_dcon, nE_tup, nM_non, nM_bl, nM_int, nM_str, nM_opq, nM_own, nM_shr, nM_con, nM_down, nM_dshr, nM_dcon, nM_tup, wB, wC, c1, c2, isiF, lenF, sumF, maxF, minF, max2F, min2F, absF, divF, listF, tupF, sortF, allF, anyF, addD, mulD, Bd.intD, intD0, isB, truW, gb, gbs, outs, gN, gi1, gsC, gsN, gT, gS, gSn, evL, takeL, wBL, th_lst, th_dct, th_tup, th_int, th_bl, th_str, th_non, th_opq, setD, ixD, slD, isD, wCallF, wLc, wiS, wiZ, wiE, wiR1, wiR2, wiR3, seqQ, solids, D.solid, ints_solid, ints_frz, frzs, D.frz, List.set_cons_zero, List.set_cons_succ, if_true, if_false, Bool.false_eq_true, true_and, and_true, ite_true, ite_false, List.cons_append, List.nil_append, wipeD, reduceIte, List.length_cons, List.length_nil, reduceCtorEq, tyN_bool, tyN_int, tyN_str, tyN_tuple, tyN_list, tyN_dict, tyS_non, tyS_bl, tyS_int, tyS_str, tyS_tup, tyS_lst, tyS_dct, isi_non_bool, isi_non_int, isi_non_str, isi_non_tuple, isi_non_list, isi_non_dict, isi_bl_bool, isi_bl_int, isi_bl_str, isi_bl_tuple, isi_bl_list, isi_bl_dict, isi_int_bool, isi_int_int, isi_int_str, isi_int_tuple, isi_int_list, isi_int_dict, isi_str_bool, isi_str_int, isi_str_str, isi_str_tuple, isi_str_list, isi_str_dict, isi_tup_bool, isi_tup_int, isi_tup_str, isi_tup_tuple, isi_tup_list, isi_tup_dict, isi_lst_bool, isi_lst_int, isi_lst_str, isi_lst_tuple, isi_lst_list, isi_lst_dict, isi_dct_bool, isi_dct_int, isi_dct_str, isi_dct_tuple, isi_dct_list, isi_dct_dict, List.length_map, Bool.not_true, Bool.not_false, eqD, neD, eqTx, neTx, dec_if, dec_ifn, Bool.not_not, at0, at1, at2, ix0, ix1, ix2, Bd.ints_map, Bd.bls_map, Option.some.injEq, exists_eq_left', memD_lst, memD_tup, memD_str, isIn_nil, isIn_cons, isIn_ints, scal_int, scal_str, scal_bl, scal_non, scals_nil, scals_cons, scals_ints, shp_l1i, shp_l2i, shp_l3i, shp_t1i, shp_t2i, shp_t3i, dec_or, dec_orf, Bool.and_self, shp_non, shp_bl, shp_int, shp_tints, shp_lints, shp_tnil, shp_lnil, eqd_int, eqd_str, eqd_bl, eqd_non, eqd_tints, eqd_lints, eqd_lnil, eqd_tnil, shp_lenc, shp_tenc, List.map_eq_nil_iff]
  rw [cut_to (by omega), ← List.map_take, frzs_enc2, ones_map]
  show forL _ _ _ ((left ps m).map fun a => [enc2 a]) _
  refine forL_inv (fun i ρ => ∃ d5 d6, ρ = [D.tup (List.map D.int ps), D.int m, D.int ps.sum, D.lst M.own ((((left ps m).take i).foldl bump (floors ps m)).map D.int), D.lst M.own (List.map enc2 (rests ps m)), d5, d6, D.gone]) ⟨.gone, .gone, rfl⟩ ?_ ?_
  · rintro i its ρ K hi ⟨d5, d6, rfl⟩ hk
    rw [List.getElem?_map] at hi
    obtain ⟨p, hp, rfl⟩ := Option.map_eq_some_iff.mp hi
    obtain ⟨h0, h1⟩ := left_ok (List.mem_of_getElem? hp)
    generalize hfs : ((left ps m).take i).foldl bump (floors ps m) = fs
    have hlen : fs.length = ps.length := by rw [← hfs, bumps_len, floors, List.length_map]
    have hnext : ((left ps m).take (i + 1)).foldl bump (floors ps m) = bump fs p := by
      rw [List.take_succ, hp, List.foldl_append, hfs]; rfl
    simp only [wsR, wsX, wsA, wsI, wsN, wsRN, wsBk, wsCt, wsP, wsS, wsF, wsW, wAndV, wOrV, wNotV, wIf, wNeg, wCall, wBc, wBn, wCons, wNil, wTup, wLst, wOp, wCh, Bd.wT, wTr, wMn, wMe, wMe0, apF, popF, mtD, wPm, isTupD, cntF, ssF, lsF, wPA, wPC, reprF, wIxN, wLcN, wiZN, wsP3, wDct0, frzs_enc2, solids_enc2, solid_enc2, wBack, backD, intF, minPF, wAnd, wOr, Bd.wNot, wYes, wSl, wSo, wNo, wN_eq, wV_eq, wM_eq, getD0, getDs, nB_non, nB_bl, nB_int, nB_str, nB_opq, nB_own, nB_shr, nB_con, nB_down, nB_dshr, nB_dcon, nB_tup, nE_non, nE_bl, nE_int, nE_str, nE_opq, nE_own, nE_shr, nE_con, nE_down, nE_dshr, nE_dcon, nE_tup, nM_non, nM_bl, nM_int, nM_str, nM_opq, nM_own, nM_shr, nM_con, nM_down, nM_dshr, nM_dcon, nM_tup, wB, wC, c1, c2, isiF, lenF, sumF, maxF, minF, max2F, min2F, absF, divF, listF, tupF, sortF, allF, anyF, addD, mulD, Bd.intD, intD0, isB, truW, gb, gbs, outs, gN, gi1, gsC, gsN, gT, gS, gSn, evL, takeL, wBL, th_lst, th_dct, th_tup, th_int, th_bl, th_str, th_non, th_opq, setD, ixD, slD, isD, wCallF, wLc, wiS, wiZ, wiE, wiR1, wiR2, wiR3, seqQ, solids, D.solid, ints_solid, ints_frz, frzs, D.frz, List.set_cons_zero, List.set_cons_succ, if_true, if_false, Bool.false_eq_true, true_and, and_true, ite_true, ite_false, List.cons_append, List.nil_append, wipeD, reduceIte, List.length_cons, List.length_nil, reduceCtorEq, tyN_bool, tyN_int, tyN_str, tyN_tuple, tyN_list, tyN_dict, tyS_non, tyS_bl, tyS_int, tyS_str, tyS_tup, tyS_lst, tyS_dct, isi_non_bool, isi_non_int, isi_non_str, isi_non_tuple, isi_non_list, isi_non_dict, isi_bl_bool, isi_bl_int, isi_bl_str, isi_bl_tuple, isi_bl_list, isi_bl_dict, isi_int_bool, isi_int_int, isi_int_str, isi_int_tuple, isi_int_list, isi_int_dict, isi_str_bool, isi_str_int, isi_str_str, isi_str_tuple, isi_str_list, isi_str_dict, isi_tup_bool, isi_tup_int, isi_tup_str, isi_tup_tuple, isi_tup_list, isi_tup_dict, isi_lst_bool, isi_lst_int, isi_lst_str, isi_lst_tuple, isi_lst_list, isi_lst_dict, isi_dct_bool, isi_dct_int, isi_dct_str, isi_dct_tuple, isi_dct_list, isi_dct_dict, List.length_map, Bool.not_true, Bool.not_false, eqD, neD, eqTx, neTx, dec_if, dec_ifn, Bool.not_not, at0, at1, at2, ix0, ix1, ix2, Bd.ints_map, Bd.bls_map, Option.some.injEq, exists_eq_left', memD_lst, memD_tup, memD_str, isIn_nil, isIn_cons, isIn_ints, scal_int, scal_str, scal_bl, scal_non, scals_nil, scals_cons, scals_ints, shp_l1i, shp_l2i, shp_l3i, shp_t1i, shp_t2i, shp_t3i, dec_or, dec_orf, Bool.and_self, shp_non, shp_bl, shp_int, shp_tints, shp_lints, shp_tnil, shp_lnil, eqd_int, eqd_str, eqd_bl, eqd_non, eqd_tints, eqd_lints, eqd_lnil, eqd_tnil, shp_lenc, shp_tenc, List.map_eq_nil_iff, enc2]
    unfold w_shares_by_4
    simp only [wsR, wsX, wsA, wsI, wsN, wsRN, wsBk, wsCt, wsP, wsS, wsF, wsW, wAndV, wOrV, wNotV, wIf, wNeg, wCall, wBc, wBn, wCons, wNil, wTup, wLst, wOp, wCh, Bd.wT, wTr, wMn, wMe, wMe0, apF, popF, mtD, wPm, isTupD, cntF, ssF, lsF, wPA, wPC, reprF, wIxN, wLcN, wiZN, wsP3, wDct0, frzs_enc2, solids_enc2, solid_enc2, wBack, backD, intF, minPF, wAnd, wOr, Bd.wNot, wYes, wSl, wSo, wNo, wN_eq, wV_eq, wM_eq, getD0, getDs, nB_non, nB_bl, nB_int, nB_str, nB_opq, nB_own, nB_shr, nB_con, nB_down, nB_dshr, nB_dcon, nB_tup, nE_non, nE_bl, nE_int, nE_str, nE_opq, nE_own, nE_shr, nE_con, nE_down, nE_dshr, nE_dcon, nE_tup, nM_non, nM_bl, nM_int, nM_str, nM_opq, nM_own, nM_shr, nM_con, nM_down, nM_dshr, nM_dcon, nM_tup, wB, wC, c1, c2, isiF, lenF, sumF, maxF, minF, max2F, min2F, absF, divF, listF, tupF, sortF, allF, anyF, addD, mulD, Bd.intD, intD0, isB, truW, gb, gbs, outs, gN, gi1, gsC, gsN, gT, gS, gSn, evL, takeL, wBL, th_lst, th_dct, th_tup, th_int, th_bl, th_str, th_non, th_opq, setD, ixD, slD, isD, wCallF, wLc, wiS, wiZ, wiE, wiR1, wiR2, wiR3, seqQ, solids, D.solid, ints_solid, ints_frz, frzs, D.frz, List.set_cons_zero, List.set_cons_succ, if_true, if_false, Bool.false_eq_true, true_and, and_true, ite_true, ite_false, List.cons_append, List.nil_append, wipeD, reduceIte, List.length_cons, List.length_nil, reduceCtorEq, tyN_bool, tyN_int, tyN_str, tyN_tuple, tyN_list, tyN_dict, tyS_non, tyS_bl, tyS_int, tyS_str, tyS_tup, tyS_lst, tyS_dct, isi_non_bool, isi_non_int, isi_non_str, isi_non_tuple, isi_non_list, isi_non_dict, isi_bl_bool, isi_bl_int, isi_bl_str, isi_bl_tuple, isi_bl_list, isi_bl_dict, isi_int_bool, isi_int_int, isi_int_str, isi_int_tuple, isi_int_list, isi_int_dict, isi_str_bool, isi_str_int, isi_str_str, isi_str_tuple, isi_str_list, isi_str_dict, isi_tup_bool, isi_tup_int, isi_tup_str, isi_tup_tuple, isi_tup_list, isi_tup_dict, isi_lst_bool, isi_lst_int, isi_lst_str, isi_lst_tuple, isi_lst_list, isi_lst_dict, isi_dct_bool, isi_dct_int, isi_dct_str, isi_dct_tuple, isi_dct_list, isi_dct_dict, List.length_map, Bool.not_true, Bool.not_false, eqD, neD, eqTx, neTx, dec_if, dec_ifn, Bool.not_not, at0, at1, at2, ix0, ix1, ix2, Bd.ints_map, Bd.bls_map, Option.some.injEq, exists_eq_left', memD_lst, memD_tup, memD_str, isIn_nil, isIn_cons, isIn_ints, scal_int, scal_str, scal_bl, scal_non, scals_nil, scals_cons, scals_ints, shp_l1i, shp_l2i, shp_l3i, shp_t1i, shp_t2i, shp_t3i, dec_or, dec_orf, Bool.and_self, shp_non, shp_bl, shp_int, shp_tints, shp_lints, shp_tnil, shp_lnil, eqd_int, eqd_str, eqd_bl, eqd_non, eqd_tints, eqd_lints, eqd_lnil, eqd_tnil, shp_lenc, shp_tenc, List.map_eq_nil_iff]
    rw [atI_ints h0 (by omega)]
    refine ⟨_, rfl, ?_⟩
    simp only [wsR, wsX, wsA, wsI, wsN, wsRN, wsBk, wsCt, wsP, wsS, wsF, wsW, wAndV, wOrV, wNotV, wIf, wNeg, wCall, wBc, wBn, wCons, wNil, wTup, wLst, wOp, wCh, Bd.wT, wTr, wMn, wMe, wMe0, apF, popF, mtD, wPm, isTupD, cntF, ssF, lsF, wPA, wPC, reprF, wIxN, wLcN, wiZN, wsP3, wDct0, frzs_enc2, solids_enc2, solid_enc2, wBack, backD, intF, minPF, wAnd, wOr, Bd.wNot, wYes, wSl, wSo, wNo, wN_eq, wV_eq, wM_eq, getD0, getDs, nB_non, nB_bl, nB_int, nB_str, nB_opq, nB_own, nB_shr, nB_con, nB_down, nB_dshr, nB_dcon, nB_tup, nE_non, nE_bl, nE_int, nE_str, nE_opq, nE_own, nE_shr, nE_con, nE_down, nE_dshr, nE_dcon, nE_tup, nM_non, nM_bl, nM_int, nM_str, nM_opq, nM_own, nM_shr, nM_con, nM_down, nM_dshr, nM_dcon, nM_tup, wB, wC, c1, c2, isiF, lenF, sumF, maxF, minF, max2F, min2F, absF, divF, listF, tupF, sortF, allF, anyF, addD, mulD, Bd.intD, intD0, isB, truW, gb, gbs, outs, gN, gi1, gsC, gsN, gT, gS, gSn, evL, takeL, wBL, th_lst, th_dct, th_tup, th_int, th_bl, th_str, th_non, th_opq, setD, ixD, slD, isD, wCallF, wLc, wiS, wiZ, wiE, wiR1, wiR2, wiR3, seqQ, solids, D.solid, ints_solid, ints_frz, frzs, D.frz, List.set_cons_zero, List.set_cons_succ, if_true, if_false, Bool.false_eq_true, true_and, and_true, ite_true, ite_false, List.cons_append, List.nil_append, wipeD, reduceIte, List.length_cons, List.length_nil, reduceCtorEq, tyN_bool, tyN_int, tyN_str, tyN_tuple, tyN_list, tyN_dict, tyS_non, tyS_bl, tyS_int, tyS_str, tyS_tup, tyS_lst, tyS_dct, isi_non_bool, isi_non_int, isi_non_str, isi_non_tuple, isi_non_list, isi_non_dict, isi_bl_bool, isi_bl_int, isi_bl_str, isi_bl_tuple, isi_bl_list, isi_bl_dict, isi_int_bool, isi_int_int, isi_int_str, isi_int_tuple, isi_int_list, isi_int_dict, isi_str_bool, isi_str_int, isi_str_str, isi_str_tuple, isi_str_list, isi_str_dict, isi_tup_bool, isi_tup_int, isi_tup_str, isi_tup_tuple, isi_tup_list, isi_tup_dict, isi_lst_bool, isi_lst_int, isi_lst_str, isi_lst_tuple, isi_lst_list, isi_lst_dict, isi_dct_bool, isi_dct_int, isi_dct_str, isi_dct_tuple, isi_dct_list, isi_dct_dict, List.length_map, Bool.not_true, Bool.not_false, eqD, neD, eqTx, neTx, dec_if, dec_ifn, Bool.not_not, at0, at1, at2, ix0, ix1, ix2, Bd.ints_map, Bd.bls_map, Option.some.injEq, exists_eq_left', memD_lst, memD_tup, memD_str, isIn_nil, isIn_cons, isIn_ints, scal_int, scal_str, scal_bl, scal_non, scals_nil, scals_cons, scals_ints, shp_l1i, shp_l2i, shp_l3i, shp_t1i, shp_t2i, shp_t3i, dec_or, dec_orf, Bool.and_self, shp_non, shp_bl, shp_int, shp_tints, shp_lints, shp_tnil, shp_lnil, eqd_int, eqd_str, eqd_bl, eqd_non, eqd_tints, eqd_lints, eqd_lnil, eqd_tnil, shp_lenc, shp_tenc, List.map_eq_nil_iff]
    refine ⟨p.2.toNat, ix_nat h0 (by omega), ?_⟩
    refine hk _ ⟨.int p.1, .int p.2, ?_⟩
    rw [hnext, bump, List.map_set]
  · rintro ρ ⟨d5, d6, rfl⟩
    unfold w_shares_by_5
    simp only [wsR, wsX, wsA, wsI, wsN, wsRN, wsBk, wsCt, wsP, wsS, wsF, wsW, wAndV, wOrV, wNotV, wIf, wNeg, wCall, wBc, wBn, wCons, wNil, wTup, wLst, wOp, wCh, Bd.wT, wTr, wMn, wMe, wMe0, apF, popF, mtD, wPm, isTupD, cntF, ssF, lsF, wPA, wPC, reprF, wIxN, wLcN, wiZN, wsP3, wDct0, frzs_enc2, solids_enc2, solid_enc2, wBack, backD, intF, minPF, wAnd, wOr, Bd.wNot, wYes, wSl, wSo, wNo, wN_eq, wV_eq, wM_eq, getD0, getDs, nB_non, nB_bl, nB_int, nB_str, nB_opq, nB_own, nB_shr, nB_con, nB_down, nB_dshr, nB_dcon, nB_tup, nE_non, nE_bl, nE_int, nE_str, nE_opq, nE_own, nE_shr, nE_con, nE_down, nE_dshr, nE_dcon, nE_tup, nM_non, nM_bl, nM_int, nM_str, nM_opq, nM_own, nM_shr, nM_con, nM_down, nM_dshr, nM_dcon, nM_tup, wB, wC, c1, c2, isiF, lenF, sumF, maxF, minF, max2F, min2F, absF, divF, listF, tupF, sortF, allF, anyF, addD, mulD, Bd.intD, intD0, isB, truW, gb, gbs, outs, gN, gi1, gsC, gsN, gT, gS, gSn, evL, takeL, wBL, th_lst, th_dct, th_tup, th_int, th_bl, th_str, th_non, th_opq, setD, ixD, slD, isD, wCallF, wLc, wiS, wiZ, wiE, wiR1, wiR2, wiR3, seqQ, solids, D.solid, ints_solid, ints_frz, frzs, D.frz, List.set_cons_zero, List.set_cons_succ, if_true, if_false, Bool.false_eq_true, true_and, and_true, ite_true, ite_false, List.cons_append, List.nil_append, wipeD, reduceIte, List.length_cons, List.length_nil, reduceCtorEq, tyN_bool, tyN_int, tyN_str, tyN_tuple, tyN_list, tyN_dict, tyS_non, tyS_bl, tyS_int, tyS_str, tyS_tup, tyS_lst, tyS_dct, isi_non_bool, isi_non_int, isi_non_str, isi_non_tuple, isi_non_list, isi_non_dict, isi_bl_bool, isi_bl_int, isi_bl_str, isi_bl_tuple, isi_bl_list, isi_bl_dict, isi_int_bool, isi_int_int, isi_int_str, isi_int_tuple, isi_int_list, isi_int_dict, isi_str_bool, isi_str_int, isi_str_str, isi_str_tuple, isi_str_list, isi_str_dict, isi_tup_bool, isi_tup_int, isi_tup_str, isi_tup_tuple, isi_tup_list, isi_tup_dict, isi_lst_bool, isi_lst_int, isi_lst_str, isi_lst_tuple, isi_lst_list, isi_lst_dict, isi_dct_bool, isi_dct_int, isi_dct_str, isi_dct_tuple, isi_dct_list, isi_dct_dict, List.length_map, Bool.not_true, Bool.not_false, eqD, neD, eqTx, neTx, dec_if, dec_ifn, Bool.not_not, at0, at1, at2, ix0, ix1, ix2, Bd.ints_map, Bd.bls_map, Option.some.injEq, exists_eq_left', memD_lst, memD_tup, memD_str, isIn_nil, isIn_cons, isIn_ints, scal_int, scal_str, scal_bl, scal_non, scals_nil, scals_cons, scals_ints, shp_l1i, shp_l2i, shp_l3i, shp_t1i, shp_t2i, shp_t3i, dec_or, dec_orf, Bool.and_self, shp_non, shp_bl, shp_int, shp_tints, shp_lints, shp_tnil, shp_lnil, eqd_int, eqd_str, eqd_bl, eqd_non, eqd_tints, eqd_lints, eqd_lnil, eqd_tnil, shp_lenc, shp_tenc, List.map_eq_nil_iff]
    rw [List.take_length]
    exact h2
end K07

/-! K07M: the shares, plain. -/
namespace K07
open Bd
theorem bump_get {fs : List Int} {p : Int × Int} {i : Nat} (h0 : 0 ≤ p.2) : (bump fs p)[i]? = (fs[i]?).map fun f => f + if p.2 = (i : Int) then 1 else 0 := by
  unfold bump
  by_cases e : p.2.toNat = i
  · have e2 : p.2 = (i : Int) := by omega
    subst e
    cases h : fs[p.2.toNat]? with
    | none =>
      have := List.getElem?_eq_none_iff.mp h
      rw [List.getElem?_eq_none (by rw [List.length_set]; exact this)]; rfl
    | some f =>
      have hl := (List.getElem?_eq_some_iff.mp h).1
      rw [List.getElem?_set_self hl, List.getD_eq_getElem?_getD, h, Option.map_some, if_pos e2]; rfl
  · have e2 : ¬ p.2 = (i : Int) := by omega
    rw [List.getElem?_set_ne e]
    cases fs[i]? <;> simp [e2]
def cnt (l : List (Int × Int)) (i : Nat) : Int := ((l.filter fun p => decide (p.2 = (i : Int))).length : Nat)
theorem bumps_get : ∀ (l : List (Int × Int)) (fs : List Int) (i : Nat), (∀ p ∈ l, 0 ≤ p.2) → (l.foldl bump fs)[i]? = (fs[i]?).map fun f => f + cnt l i
  | [], fs, i, _ => by cases h : fs[i]? <;> simp [cnt, h]
  | p :: r, fs, i, h => by
    rw [List.foldl_cons, bumps_get r _ i fun q hq => h q (List.mem_cons_of_mem _ hq), bump_get (h p List.mem_cons_self), Option.map_map]
    have e : cnt (p :: r) i = (if p.2 = (i : Int) then 1 else 0) + cnt r i := by
      unfold cnt
      by_cases c : p.2 = (i : Int)
      · rw [List.filter_cons_of_pos (by simp [c]), if_pos c, List.length_cons]; omega
      · rw [List.filter_cons_of_neg (by simp [c]), if_neg c]; omega
    cases fs[i]? with
    | none => rfl
    | some f => simp only [Option.map_some, Function.comp_apply, e, Int.add_assoc]
theorem bumps_sum : ∀ (l : List (Int × Int)) (fs : List Int), (∀ p ∈ l, 0 ≤ p.2 ∧ p.2 < fs.length) → (l.foldl bump fs).sum = fs.sum + l.length
  | [], fs, _ => by simp
  | p :: r, fs, h => by
    obtain ⟨h0, h1⟩ := h p List.mem_cons_self
    rw [List.foldl_cons, bumps_sum r _ fun q hq => by rw [bump_len]; exact h q (List.mem_cons_of_mem _ hq)]
    have key : ∀ (fs : List Int) (n : Nat) (x : Int), n < fs.length → (fs.set n x).sum = fs.sum - fs.getD n 0 + x := by
      intro fs
      induction fs with
      | nil => intro n x hn; simp at hn
      | cons y r ih =>
        intro n x hn
        cases n with
        | zero => simp [List.sum_cons]; omega
        | succ n =>
          have := ih n x (by simpa using hn)
          rw [List.set_cons_succ, List.sum_cons, List.sum_cons, this]
          simp
          omega
    unfold bump
    rw [key fs p.2.toNat _ (by omega), List.length_cons]
    omega
/-! ### the order -/
theorem le2_trans (a b c : Int × Int) (h1 : le2 a b = true) (h2 : le2 b c = true) : le2 a c = true := by
  simp only [le2, decide_eq_true_eq] at *
  omega
theorem le2_total (a b : Int × Int) : (le2 a b || le2 b a) = true := by
  simp only [le2, Bool.or_eq_true, decide_eq_true_eq]
  omega
theorem le2_anti {a b : Int × Int} (h1 : le2 a b = true) (h2 : le2 b a = true) : a = b := by
  simp only [le2, decide_eq_true_eq] at *
  refine Prod.ext ?_ ?_ <;> omega
def base (ps : List Int) (m : Int) : List (Int × Int) := ps.zipIdx.map fun z => (0 - m * z.1 % ps.sum, ((z.2 : Nat) : Int))
theorem rests_eq (ps : List Int) (m : Int) : rests ps m = (base ps m).mergeSort le2 := rfl
theorem rests_perm (ps : List Int) (m : Int) : (rests ps m).Perm (base ps m) := List.mergeSort_perm _ _
theorem rests_sorted (ps : List Int) (m : Int) : (rests ps m).Pairwise fun a b => le2 a b = true := List.pairwise_mergeSort le2_trans le2_total _
theorem base_lt (ps : List Int) (m : Int) : (base ps m).Pairwise fun a b => a.2 < b.2 := by
  unfold base
  rw [List.pairwise_map]
  have h : (ps.zipIdx.map Prod.snd).Pairwise (· < ·) := by
    rw [List.zipIdx_map_snd]
    exact List.pairwise_lt_range'
  rw [List.pairwise_map] at h
  exact h.imp fun h => by simpa using h
theorem rests_nodup (ps : List Int) (m : Int) : (rests ps m).Nodup := by
  refine (rests_perm ps m).nodup_iff.mpr ?_
  exact (base_lt ps m).imp fun h e => by rw [e] at h; exact Int.lt_irrefl _ h
/-- the pair of a place -/
def pr (ps : List Int) (m : Int) (i : Nat) : Int × Int := (0 - m * ps.getD i 0 % ps.sum, (i : Int))
theorem mem_base {ps : List Int} {m : Int} {p : Int × Int} : p ∈ base ps m ↔ ∃ i, i < ps.length ∧ p = pr ps m i := by
  unfold base
  rw [List.mem_map]
  constructor
  · rintro ⟨z, hz, rfl⟩
    have h := List.mem_zipIdx hz
    refine ⟨z.2, by omega, ?_⟩
    have hl : z.2 < ps.length := by omega
    unfold pr
    rw [List.getD_eq_getElem?_getD, List.getElem?_eq_getElem hl]
    have e : z.1 = ps[z.2] := by simpa using h.2.2
    rw [e]; rfl
  · rintro ⟨i, hi, rfl⟩
    refine ⟨(ps[i], i), ?_, ?_⟩
    · rw [List.mem_zipIdx_iff_getElem?]
      simp [hi]
    · unfold pr
      rw [List.getD_eq_getElem?_getD, List.getElem?_eq_getElem hi]; rfl
theorem mem_rests {ps : List Int} {m : Int} {p : Int × Int} : p ∈ rests ps m ↔ ∃ i, i < ps.length ∧ p = pr ps m i := by
  rw [(rests_perm ps m).mem_iff]; exact mem_base
/-- what stands ahead of one that gets more gets more -/
theorem left_down {ps : List Int} {m : Int} {p q : Int × Int} (hq : q ∈ left ps m) (hp : p ∈ rests ps m) (h : le2 p q = true) : p ∈ left ps m := by
  unfold left at hq ⊢
  generalize (m - (floors ps m).sum).toNat = n at hq ⊢
  have hs := rests_sorted ps m
  have e := List.take_append_drop n (rests ps m)
  rw [← e, List.mem_append] at hp
  rcases hp with hp | hp
  · exact hp
  · rw [← e, List.pairwise_append] at hs
    rw [le2_anti h (hs.2.2 q hq p hp)]
    exact hq
theorem rests_len (ps : List Int) (m : Int) : (rests ps m).length = ps.length := by
  rw [(rests_perm ps m).length_eq, base, List.length_map, List.length_zipIdx]
theorem left_nodup (ps : List Int) (m : Int) : (left ps m).Nodup := (rests_nodup ps m).sublist (List.take_sublist _ _)
theorem cnt_of : ∀ {l : List (Int × Int)} {i : Nat} {x : Int × Int}, l.Nodup → x.2 = (i : Int) → (∀ p ∈ l, p.2 = (i : Int) → p = x) → cnt l i = if x ∈ l then 1 else 0
  | [], i, x, _, _, _ => rfl
  | p :: r, i, x, hn, hx, h => by
    have hn' := List.nodup_cons.mp hn
    have ih := cnt_of hn'.2 hx fun q hq => h q (List.mem_cons_of_mem _ hq)
    by_cases c : p.2 = (i : Int)
    · have e := h p List.mem_cons_self c
      subst e
      rw [if_neg hn'.1] at ih
      unfold cnt at ih ⊢
      rw [List.filter_cons_of_pos (by simp [c]), List.length_cons, if_pos List.mem_cons_self]
      omega
    · have ne : ¬ x = p := fun e => c (e ▸ hx)
      unfold cnt at ih ⊢
      rw [List.filter_cons_of_neg (by simp [c]), ih]
      simp [ne]
open Classical in
/-- one more, or none -/
noncomputable def inc (ps : List Int) (m : Int) (i : Nat) : Int := if pr ps m i ∈ left ps m then 1 else 0
theorem left_sub {ps : List Int} {m : Int} {p : Int × Int} (h : p ∈ left ps m) : p ∈ rests ps m := List.mem_of_mem_take h
theorem share_get {ps : List Int} {m : Int} {i : Nat} (hi : i < ps.length) : (sharesOf ps m)[i]? = some (m * ps.getD i 0 / ps.sum + inc ps m i) := by
  have e : (floors ps m)[i]? = some (m * ps.getD i 0 / ps.sum) := by
    unfold floors
    rw [List.getElem?_map, List.getElem?_eq_getElem hi, List.getD_eq_getElem?_getD, List.getElem?_eq_getElem hi]; rfl
  unfold sharesOf
  rw [bumps_get _ _ _ fun p hp => (left_ok hp).1, e, Option.map_some, cnt_of (x := pr ps m i) (left_nodup ps m) rfl fun p hp h => ?_]
  · unfold inc
    congr 2
  · obtain ⟨j, hj, rfl⟩ := mem_rests.mp (left_sub hp)
    have : (j : Int) = i := h
    have : j = i := by omega
    rw [this]
theorem share_len (ps : List Int) (m : Int) : (sharesOf ps m).length = ps.length := by
  unfold sharesOf; rw [bumps_len, floors, List.length_map]
theorem inc_01 (ps : List Int) (m : Int) (i : Nat) : inc ps m i = 0 ∨ inc ps m i = 1 := by
  unfold inc; split
  · exact .inr rfl
  · exact .inl rfl
/-! ### how many are left -/
def rsum (m t : Int) (ps : List Int) : Int := (ps.map fun p => m * p % t).sum
theorem floors_rsum (m t : Int) : ∀ ps : List Int, t * (ps.map fun p => m * p / t).sum + rsum m t ps = m * ps.sum
  | [] => by simp [rsum]
  | p :: r => by
    have h := floors_rsum m t r
    unfold rsum at h ⊢
    have h2 := Int.mul_ediv_add_emod (m * p) t
    rw [List.map_cons, List.map_cons, List.sum_cons, List.sum_cons, List.sum_cons, Int.mul_add, Int.mul_add]
    omega
theorem rsum_lt {m t : Int} (ht : 0 < t) : ∀ ps : List Int, ps ≠ [] → rsum m t ps < t * ps.length
  | [p], _ => by
    have := Int.emod_lt_of_pos (m * p) ht
    simp [rsum]; omega
  | p :: q :: r, _ => by
    have h := rsum_lt (m := m) ht (q :: r) (by simp)
    have := Int.emod_lt_of_pos (m * p) ht
    unfold rsum at h ⊢
    rw [List.map_cons, List.sum_cons, List.length_cons]
    have e : t * (((q :: r).length + 1 : Nat) : Int) = t * (q :: r).length + t := by rw [Int.natCast_add, Int.mul_add]; simp
    omega
theorem sum_pos {ps : List Int} (hf : frontsOk ps) : 0 < ps.sum := by
  have := sum_nn fun p hp => (hf.2.2.1 p hp).1
  have := hf.2.2.2
  omega
theorem left_few {ps : List Int} {m : Int} (hf : frontsOk ps) : ps.sum * (m - (floors ps m).sum) = rsum m ps.sum ps := by
  have h := floors_rsum m ps.sum ps
  rw [Int.mul_sub, Int.mul_comm ps.sum m]
  unfold floors
  omega
theorem left_len {ps : List Int} {m : Int} (hf : frontsOk ps) (hm : 0 ≤ m) : ((left ps m).length : Int) = m - (floors ps m).sum := by
  have ht := sum_pos hf
  have h1 := floors_ok hf hm
  have h2 := left_few (m := m) hf
  have h3 := rsum_lt (m := m) ht ps (by intro e; rw [e] at hf; exact absurd hf.1 (by decide))
  have h4 : m - (floors ps m).sum < ps.length := by
    rw [← h2] at h3
    exact Int.lt_of_mul_lt_mul_left h3 (by omega)
  unfold left
  rw [List.length_take, rests_len]
  omega
theorem share_sum {ps : List Int} {m : Int} (hf : frontsOk ps) (hm : 0 ≤ m) : (sharesOf ps m).sum = m := by
  have h := left_len hf hm
  unfold sharesOf
  rw [bumps_sum _ _ fun p hp => ?_]
  · omega
  · have := left_ok hp
    rw [floors, List.length_map]
    exact this
theorem perm_sum {l r : List Int} (h : l.Perm r) : l.sum = r.sum := by
  induction h with
  | nil => rfl
  | cons x _ ih => rw [List.sum_cons, List.sum_cons, ih]
  | swap x y l => rw [List.sum_cons, List.sum_cons, List.sum_cons, List.sum_cons]; omega
  | trans _ _ h1 h2 => exact h1.trans h2
/-- a rest of nought gets none more -/
theorem inc_zero {ps : List Int} {m : Int} {i : Nat} (hf : frontsOk ps) (hm : 0 ≤ m) (hz : m * ps.getD i 0 % ps.sum = 0) : inc ps m i = 0 := by
  unfold inc
  split
  · rename_i hin
    exfalso
    have ht := sum_pos hf
    have hl := left_len hf hm
    -- sums of keys
    let ks : List (Int × Int) → Int := fun l => (l.map fun p => 0 - p.1).sum
    have kb : ks (rests ps m) = rsum m ps.sum ps := by
      have e1 : ks (rests ps m) = ks (base ps m) := perm_sum ((rests_perm ps m).map _)
      rw [e1]
      show ((base ps m).map fun p => 0 - p.1).sum = _
      unfold base rsum
      rw [List.map_map]
      have e2 : ∀ (l : List Int) (n : Nat), (List.map ((fun p : Int × Int => 0 - p.1) ∘ fun z : Int × Nat => (0 - m * z.1 % ps.sum, ((z.2 : Nat) : Int))) (l.zipIdx n)).sum = (l.map fun p => m * p % ps.sum).sum := by
        intro l
        induction l with
        | nil => intro n; rfl
        | cons x r ih =>
          intro n
          rw [List.zipIdx_cons, List.map_cons, List.map_cons, List.sum_cons, List.sum_cons, ih]
          simp
      exact e2 ps 0
    have split_ := List.take_append_drop (m - (floors ps m).sum).toNat (rests ps m)
    have keyr : ∀ p ∈ rests ps m, 0 ≤ 0 - p.1 ∧ 0 - p.1 < ps.sum := fun p hp => by
      obtain ⟨j, hj, rfl⟩ := mem_rests.mp hp
      have h1 := Int.emod_nonneg (m * ps.getD j 0) (show ps.sum ≠ 0 by omega)
      have h2 := Int.emod_lt_of_pos (m * ps.getD j 0) ht
      show 0 ≤ 0 - (0 - _) ∧ 0 - (0 - _) < _
      omega
    have dz : ks ((rests ps m).drop (m - (floors ps m).sum).toNat) = 0 := by
      have : ∀ p ∈ (rests ps m).drop (m - (floors ps m).sum).toNat, 0 - p.1 = 0 := fun p hp => by
        have hs := rests_sorted ps m
        rw [← split_, List.pairwise_append] at hs
        have h1 := hs.2.2 _ hin p hp
        have h2 := keyr p (List.mem_of_mem_drop hp)
        have e : (pr ps m i).1 = 0 := by unfold pr; simp only [hz]; rfl
        simp only [le2, decide_eq_true_eq, e] at h1
        omega
      have e3 : ∀ l : List (Int × Int), (∀ p ∈ l, 0 - p.1 = 0) → ks l = 0 := by
        intro l
        induction l with
        | nil => intro _; rfl
        | cons x r ih =>
          intro h
          have := ih fun p hp => h p (List.mem_cons_of_mem _ hp)
          show (List.map _ (x :: r)).sum = 0
          rw [List.map_cons, List.sum_cons, h x List.mem_cons_self]
          show 0 + ks r = 0
          omega
      exact e3 _ this
    have tz : ks (left ps m) ≤ (ps.sum - 1) * (left ps m).length := by
      have e4 : ∀ l : List (Int × Int), (∀ p ∈ l, 0 - p.1 < ps.sum) → ks l ≤ (ps.sum - 1) * l.length := by
        intro l
        induction l with
        | nil => intro _; simp [ks]
        | cons x r ih =>
          intro h
          have h1 := ih fun p hp => h p (List.mem_cons_of_mem _ hp)
          have h2 := h x List.mem_cons_self
          show (List.map _ (x :: r)).sum ≤ _
          rw [List.map_cons, List.sum_cons, List.length_cons]
          have e : (ps.sum - 1) * ((r.length + 1 : Nat) : Int) = (ps.sum - 1) * r.length + (ps.sum - 1) := by rw [Int.natCast_add, Int.mul_add]; simp
          show (0 - x.1) + ks r ≤ _
          omega
      exact e4 _ fun p hp => (keyr p (left_sub hp)).2
    have tot : ks (rests ps m) = ks (left ps m) + ks ((rests ps m).drop (m - (floors ps m).sum).toNat) := by
      show (List.map _ _).sum = (List.map _ ((rests ps m).take _)).sum + (List.map _ _).sum
      rw [← List.sum_append, ← List.map_append, split_]
    have few := left_few (m := m) hf
    rw [← hl] at few
    have pos : 1 ≤ (left ps m).length := List.length_pos_of_mem hin
    have e5 : (ps.sum - 1) * ((left ps m).length : Int) = ps.sum * (left ps m).length - (left ps m).length := by rw [Int.sub_mul, Int.one_mul]
    omega
  · rfl
theorem inc_le {ps : List Int} {m : Int} {i j : Nat} (hi : i < ps.length) (h : le2 (pr ps m i) (pr ps m j) = true) : inc ps m j ≤ inc ps m i := by
  unfold inc
  split
  · rename_i hj
    rw [if_pos (left_down hj (mem_rests.mpr ⟨i, hi, rfl⟩) h)]
    exact Int.le_refl _
  · split <;> decide
theorem le2_pr {ps : List Int} {m : Int} {i j : Nat} : le2 (pr ps m i) (pr ps m j) = decide (0 - m * ps.getD i 0 % ps.sum < 0 - m * ps.getD j 0 % ps.sum ∨ (0 - m * ps.getD i 0 % ps.sum = 0 - m * ps.getD j 0 % ps.sum ∧ (i : Int) ≤ j)) := rfl
theorem gt_ge {ps : List Int} {m : Int} {i j : Nat} (hf : frontsOk ps) (hm : 0 ≤ m) (hi : i < ps.length) (h : ps.getD j 0 < ps.getD i 0) :
    m * ps.getD j 0 / ps.sum + inc ps m j ≤ m * ps.getD i 0 / ps.sum + inc ps m i := by
  have ht := sum_pos hf
  have ii := inc_01 ps m i
  have ij := inc_01 ps m j
  by_cases h0 : m = 0
  · rw [inc_zero hf hm (i := i) (by rw [h0]; simp), inc_zero hf hm (i := j) (by rw [h0]; simp), h0]; simp
  · have hlt : m * ps.getD j 0 < m * ps.getD i 0 := Int.mul_lt_mul_of_pos_left h (by omega)
    have hdiv : m * ps.getD j 0 / ps.sum ≤ m * ps.getD i 0 / ps.sum := Int.ediv_le_ediv ht (by omega)
    by_cases he : m * ps.getD j 0 / ps.sum = m * ps.getD i 0 / ps.sum
    · have e1 := Int.mul_ediv_add_emod (m * ps.getD i 0) ps.sum
      have e2 := Int.mul_ediv_add_emod (m * ps.getD j 0) ps.sum
      rw [he] at e2
      have : inc ps m j ≤ inc ps m i := inc_le hi (by
        rw [le2_pr, decide_eq_true_eq]
        omega)
      omega
    · omega
theorem ord_ {ps : List Int} {m : Int} {i j : Nat} (hf : frontsOk ps) (hm : 0 ≤ m) (hij : i < j) (hj : j < ps.length) {a b s u : Int} (ha : ps.getD i 0 = a) (hb : ps.getD j 0 = b) (hs : (sharesOf ps m)[i]? = some s) (hu : (sharesOf ps m)[j]? = some u) :
    (b < a → u ≤ s) ∧ (a < b → s ≤ u) ∧ (a = b → s - u = 0 ∨ s - u = 1) := by
  rw [share_get (by omega)] at hs hu
  have hs := Option.some.inj hs
  have hu := Option.some.inj hu
  subst hs hu ha hb
  refine ⟨fun h => gt_ge hf hm (by omega) h, fun h => gt_ge hf hm hj h, fun h => ?_⟩
  have h1 : inc ps m j ≤ inc ps m i := inc_le (by omega) (by
    rw [le2_pr, decide_eq_true_eq, h]
    exact .inr ⟨rfl, by omega⟩)
  have ii := inc_01 ps m i
  have ij := inc_01 ps m j
  rw [h]
  omega
theorem share_mul {ps : List Int} {c : Int} (hf : frontsOk ps) (hc : 0 ≤ c) : sharesOf ps (c * ps.sum) = ps.map fun p => c * p := by
  have ht := sum_pos hf
  have e1 : ∀ p : Int, c * ps.sum * p = c * p * ps.sum := fun p => by rw [Int.mul_assoc, Int.mul_comm ps.sum p, ← Int.mul_assoc]
  refine List.ext_getElem? fun i => ?_
  by_cases hi : i < ps.length
  · rw [share_get hi, inc_zero hf (Int.mul_nonneg hc (by omega)) (by rw [e1]; exact Int.mul_emod_left _ _), e1, Int.mul_ediv_cancel _ (by omega), Int.add_zero, List.getElem?_map, List.getElem?_eq_getElem hi, List.getD_eq_getElem?_getD, List.getElem?_eq_getElem hi]
    rfl
  · rw [List.getElem?_eq_none (by rw [share_len]; omega), List.getElem?_eq_none (by rw [List.length_map]; omega)]
theorem share_one {ps : List Int} (hf : frontsOk ps) : sharesOf ps ps.sum = ps := by
  have h := share_mul (c := 1) hf (by decide)
  simpa using h
theorem share_add {ps : List Int} {m r : Int} (hf : frontsOk ps) : sharesOf ps (m + r * ps.sum) = ((sharesOf ps m).zip ps).map fun z => z.1 + r * z.2 := by
  have ht := sum_pos hf
  have e1 : ∀ p : Int, (m + r * ps.sum) * p = m * p + r * p * ps.sum := fun p => by rw [Int.add_mul, Int.mul_assoc r ps.sum p, Int.mul_comm ps.sum p, ← Int.mul_assoc]
  have ed : ∀ p : Int, (m + r * ps.sum) * p / ps.sum = m * p / ps.sum + r * p := fun p => by rw [e1, Int.add_mul_ediv_right _ _ (by omega)]
  have em : ∀ p : Int, (m + r * ps.sum) * p % ps.sum = m * p % ps.sum := fun p => by rw [e1, Int.add_mul_emod_self_right]
  have er : rests ps (m + r * ps.sum) = rests ps m := by unfold rests; simp only [em]
  have ef : (floors ps (m + r * ps.sum)).sum = (floors ps m).sum + r * ps.sum := by
    unfold floors
    simp only [ed]
    have : ∀ l : List Int, (l.map fun p => m * p / ps.sum + r * p).sum = (l.map fun p => m * p / ps.sum).sum + r * l.sum := by
      intro l
      induction l with
      | nil => simp
      | cons x l ih => rw [List.map_cons, List.map_cons, List.sum_cons, List.sum_cons, List.sum_cons, ih, Int.mul_add]; omega
    exact this ps
  have el : left ps (m + r * ps.sum) = left ps m := by
    unfold left
    rw [er, ef]
    congr 2
    omega
  have ei : ∀ i, inc ps (m + r * ps.sum) i = inc ps m i := fun i => by
    unfold inc pr
    rw [em, el]
  refine List.ext_getElem? fun i => ?_
  by_cases hi : i < ps.length
  · have h1 := share_get (m := m) hi
    have h2 : ps[i]? = some (ps.getD i 0) := by rw [List.getD_eq_getElem?_getD, List.getElem?_eq_getElem hi]; rfl
    rw [share_get hi, ed, ei, List.getElem?_map, (List.getElem?_zip_eq_some (z := (m * ps.getD i 0 / ps.sum + inc ps m i, ps.getD i 0))).mpr ⟨h1, h2⟩]
    simp
    omega
  · rw [List.getElem?_eq_none (by rw [share_len]; omega), List.getElem?_eq_none (by rw [List.length_map, List.length_zip]; omega)]
end K07

namespace K07
open PySem PySem.Spec PyProof.Rows L2 Bd
def unr (r : List Int) (p : Int × Int) : List Int := r.set p.2.toNat (-1)
theorem unr_len : ∀ (l : List (Int × Int)) (r : List Int), (l.foldl unr r).length = r.length
  | [], _ => rfl
  | p :: l, r => by rw [List.foldl_cons, unr_len l, unr, List.length_set]
theorem unr_get : ∀ (l : List (Int × Int)) (r : List Int) (i : Nat), (∀ p ∈ l, 0 ≤ p.2) → (l.foldl unr r)[i]? = if (∃ p ∈ l, p.2 = (i : Int)) ∧ i < r.length then some (-1) else r[i]?
  | [], r, i, _ => by simp
  | p :: l, r, i, h => by
    rw [List.foldl_cons, unr_get l _ i fun q hq => h q (List.mem_cons_of_mem _ hq)]
    have h0 := h p List.mem_cons_self
    unfold unr
    rw [List.length_set]
    by_cases hl : i < r.length
    · by_cases e : ∃ q ∈ l, q.2 = (i : Int)
      · obtain ⟨q, hq, e⟩ := e
        rw [if_pos ⟨⟨q, hq, e⟩, hl⟩, if_pos ⟨⟨q, List.mem_cons_of_mem _ hq, e⟩, hl⟩]
      · rw [if_neg fun z => e z.1]
        by_cases e2 : p.2 = (i : Int)
        · have e3 : p.2.toNat = i := by omega
          rw [if_pos ⟨⟨p, List.mem_cons_self, e2⟩, hl⟩, e3, List.getElem?_set_self hl]
        · rw [List.getElem?_set_ne (by omega), if_neg]
          rintro ⟨⟨q, hq, e3⟩, _⟩
          rcases List.mem_cons.mp hq with rfl | hq
          · exact e2 e3
          · exact e ⟨q, hq, e3⟩
    · rw [if_neg fun z => hl z.2, if_neg fun z => hl z.2, List.getElem?_eq_none (by rw [List.length_set]; omega), List.getElem?_eq_none (by omega)]
def R0 (ps : List Int) (m : Int) : List Int := ps.map fun p => m * p % ps.sum
theorem best_is {ps : List Int} {m : Int} {j : Nat} {p : Int × Int} (hf : frontsOk ps) (hp : (left ps m)[j]? = some p) : ∃ i0 : Nat, p.2 = (i0 : Int) ∧ i0 < ps.length ∧ (((left ps m).take j).foldl unr (R0 ps m))[i0]? = some (m * ps.getD i0 0 % ps.sum) ∧
    ∀ i y, (((left ps m).take j).foldl unr (R0 ps m))[i]? = some y → y ≤ m * ps.getD i0 0 % ps.sum ∧ (i < i0 → y ≠ m * ps.getD i0 0 % ps.sum) := by
  have ht := sum_pos hf
  obtain ⟨i0, hi0, rfl⟩ := mem_rests.mp (left_sub (List.mem_of_getElem? hp))
  have hlt := (List.getElem?_eq_some_iff.mp hp).1
  have nn : ∀ q ∈ (left ps m).take j, 0 ≤ q.2 := fun q hq => (left_ok (List.mem_of_mem_take hq)).1
  have r0 : ∀ i, i < ps.length → (R0 ps m)[i]? = some (m * ps.getD i 0 % ps.sum) := fun i hi => by
    unfold R0
    rw [List.getElem?_map, List.getElem?_eq_getElem hi, List.getD_eq_getElem?_getD, List.getElem?_eq_getElem hi]; rfl
  have rl : (R0 ps m).length = ps.length := by simp [R0]
  have samep : ∀ q ∈ (left ps m).take j, ∀ i : Nat, q.2 = (i : Int) → q = pr ps m i := fun q hq i e => by
    obtain ⟨k, hk, rfl⟩ := mem_rests.mp (left_sub (List.mem_of_mem_take hq))
    have : (k : Int) = i := e
    have : k = i := by omega
    rw [this]
  have notin : ¬ ∃ q ∈ (left ps m).take j, q.2 = (i0 : Int) := by
    rintro ⟨q, hq, e⟩
    have e2 := samep q hq i0 e
    subst e2
    have nd := left_nodup ps m
    rw [← List.take_append_drop j (left ps m), List.nodup_append] at nd
    refine nd.2.2 _ hq _ ?_ rfl
    rw [List.drop_eq_getElem_cons hlt, (List.getElem?_eq_some_iff.mp hp).2]
    exact List.mem_cons_self
  refine ⟨i0, rfl, hi0, ?_, fun i y hy => ?_⟩
  · rw [unr_get _ _ _ nn, if_neg fun z => notin z.1]
    exact r0 i0 hi0
  · rw [unr_get _ _ _ nn] at hy
    have n0 := Int.emod_nonneg (m * ps.getD i0 0) (show ps.sum ≠ 0 by omega)
    by_cases hc : (∃ q ∈ (left ps m).take j, q.2 = (i : Int)) ∧ i < (R0 ps m).length
    · rw [if_pos hc] at hy
      cases hy
      exact ⟨by omega, fun _ => by omega⟩
    · rw [if_neg hc] at hy
      have hi : i < ps.length := by
        have := (List.getElem?_eq_some_iff.mp hy).1
        omega
      rw [r0 i hi] at hy
      cases hy
      have hin : pr ps m i ∈ rests ps m := mem_rests.mpr ⟨i, hi, rfl⟩
      have hnt : ¬ pr ps m i ∈ (left ps m).take j := fun z => hc ⟨⟨_, z, rfl⟩, by omega⟩
      have tk : (left ps m).take j = (rests ps m).take j := by
        unfold left at hlt ⊢
        rw [List.take_take]
        congr 1
        rw [List.length_take] at hlt
        omega
      have hj2 : (rests ps m)[j]? = some (pr ps m i0) := by
        unfold left at hp hlt
        rw [List.length_take] at hlt
        rw [List.getElem?_take_of_lt (by omega)] at hp
        exact hp
      have hl2 := (List.getElem?_eq_some_iff.mp hj2).1
      rw [tk] at hnt
      have hs := rests_sorted ps m
      rw [← List.take_append_drop j (rests ps m), List.drop_eq_getElem_cons hl2, (List.getElem?_eq_some_iff.mp hj2).2] at hs hin
      have hs := (List.pairwise_append.mp hs).2.1
      rcases List.mem_append.mp hin with z | z
      · exact absurd z hnt
      · rcases List.mem_cons.mp z with z | z
        · have e : (i : Int) = i0 := congrArg Prod.snd z
          have : i = i0 := by omega
          subst this
          exact ⟨Int.le_refl _, fun h => absurd h (Nat.lt_irrefl _)⟩
        · have := (List.pairwise_cons.mp hs).1 _ z
          rw [le2_pr, decide_eq_true_eq] at this
          refine ⟨by omega, fun h => by omega⟩
theorem pairs_fl (g : Int → Int) (ps : List Int) : pairs (ps.map D.int) ((ps.map g).map D.int) = ps.map fun p => [D.int p, D.int (g p)] := by
  unfold pairs
  induction ps with
  | nil => rfl
  | cons p r ih => rw [List.map_cons, List.map_cons, List.map_cons, List.zip_cons_cons, List.map_cons, ih, List.map_cons]
theorem r_law_shares : Tells S_law_shares [true, true] 7 w_law_shares := by
  rintro ds Q E ⟨ps, m, rfl, hf, hm0, hm1, h2⟩
  have hfl := floors_ok hf hm0
  have hll := left_len hf hm0
  have hf' := hf
  obtain ⟨hl0, hl1, hps, hs⟩ := hf
  show w_law_shares _ _ [.tup (ps.map D.int), .int m, .gone, .gone, .gone, .gone, .gone, .gone, .gone]
  generalize (fun (c : Str) (ns : List Int) ρ => E c ns (outs [true, true] ρ)) = Ex
  have hn := sum_nn fun p hp => (hps p hp).1
  have ht : 0 < ps.sum := by omega
  have hu := sum_ub fun p hp => (hps p hp).2
  have big : (64 : Nat) ≤ sizeLine := by decide
  have hmul : ∀ p ∈ ps, CMulW m p := fun p hp => mulW 40 40 (by omega) (by omega) (by have := hps p hp; omega) (by have := hps p hp; omega) (by decide)
  have hq : ∀ p ∈ ps, 0 ≤ m * p / ps.sum ∧ m * p / ps.sum ≤ 100000000 := fun p hp => by
    obtain ⟨p0, p1⟩ := hps p hp
    have a0 : 0 ≤ m * p := Int.mul_nonneg hm0 p0
    have a1 : m * p ≤ 100000 * 1000 := Int.mul_le_mul hm1 p1 p0 (by decide)
    have a2 : m * p / ps.sum ≤ m * p := Int.ediv_le_self _ a0
    exact ⟨Int.ediv_nonneg a0 (by omega), by omega⟩
  unfold w_law_shares w_law_shares_0
  simp only [wsR, wsX, wsA, wsI, wsN, wsRN, wsBk, wsCt, wsP, wsS, wsF, wsW, wAndV, wOrV, wNotV, wIf, wNeg, wCall, wBc, wBn, wCons, wNil, wTup, wLst, wOp, wCh, Bd.wT, wTr, wMn, wMe, wMe0, apF, popF, mtD, wPm, isTupD, cntF, ssF, lsF, wPA, wPC, reprF, wIxN, wLcN, wiZN, wsP3, wDct0, frzs_enc2, solids_enc2, solid_enc2, wBack, backD, intF, minPF, wAnd, wOr, Bd.wNot, wYes, wSl, wSo, wNo, wN_eq, wV_eq, wM_eq, getD0, getDs, nB_non, nB_bl, nB_int, nB_str, nB_opq, nB_own, nB_shr, nB_con, nB_down, nB_dshr, nB_dcon, nB_tup, nE_non, nE_bl, nE_int, nE_str, nE_opq, nE_own, nE_shr, nE_con, nE_down, nE_dshr, nE_dcon, nE_tup, nM_non, nM_bl, nM_int, nM_str, nM_opq, nM_own, nM_shr, nM_con, nM_down, nM_dshr, nM_dcon, nM_tup, wB, wC, c1, c2, isiF, lenF, sumF, maxF, minF, max2F, min2F, absF, divF, listF, tupF, sortF, allF, anyF, addD, mulD, Bd.intD, intD0, isB, truW, gb, gbs, outs, gN, gi1, gsC, gsN, gT, gS, gSn, evL, takeL, wBL, th_lst, th_dct, th_tup, th_int, th_bl, th_str, th_non, th_opq, setD, ixD, slD, isD, wCallF, wLc, wiS, wiZ, wiE, wiR1, wiR2, wiR3, seqQ, solids, D.solid, ints_solid, ints_frz, frzs, D.frz, List.set_cons_zero, List.set_cons_succ, if_true, if_false, Bool.false_eq_true, true_and, and_true, ite_true, ite_false, List.cons_append, List.nil_append, wipeD, reduceIte, List.length_cons, List.length_nil, reduceCtorEq, tyN_bool, tyN_int, tyN_str, tyN_tuple, tyN_list, tyN_dict, tyS_non, tyS_bl, tyS_int, tyS_str, tyS_tup, tyS_lst, tyS_dct, isi_non_bool, isi_non_int, isi_non_str, isi_non_tuple, isi_non_list, isi_non_dict, isi_bl_bool, isi_bl_int, isi_bl_str, isi_bl_tuple, isi_bl_list, isi_bl_dict, isi_int_bool, isi_int_int, isi_int_str, isi_int_tuple, isi_int_list, isi_int_dict, isi_str_bool, isi_str_int, isi_str_str, isi_str_tuple, isi_str_list, isi_str_dict, isi_tup_bool, isi_tup_int, isi_tup_str, isi_tup_tuple, isi_tup_list, isi_tup_dict, isi_lst_bool, isi_lst_int, isi_lst_str, isi_lst_tuple, isi_lst_list, isi_lst_dict, isi_dct_bool, isi_dct_int, isi_dct_str, isi_dct_tuple, isi_dct_list, isi_dct_dict, List.length_map, Bool.not_true, Bool.not_false, eqD, neD, eqTx, neTx, dec_if, dec_ifn, Bool.not_not, at0, at1, at2, ix0, ix1, ix2, Bd.ints_map, Bd.bls_map, Option.some.injEq, exists_eq_left', memD_lst, memD_tup, memD_str, isIn_nil, isIn_cons, isIn_ints, scal_int, scal_str, scal_bl, scal_non, scals_nil, scals_cons, scals_ints, shp_l1i, shp_l2i, shp_l3i, shp_t1i, shp_t2i, shp_t3i, dec_or, dec_orf, Bool.and_self, shp_non, shp_bl, shp_int, shp_tints, shp_lints, shp_tnil, shp_lnil, eqd_int, eqd_str, eqd_bl, eqd_non, eqd_tints, eqd_lints, eqd_lnil, eqd_tnil, shp_lenc, shp_tenc, List.map_eq_nil_iff]
  unfold w_law_shares_1
  simp only [wsR, wsX, wsA, wsI, wsN, wsRN, wsBk, wsCt, wsP, wsS, wsF, wsW, wAndV, wOrV, wNotV, wIf, wNeg, wCall, wBc, wBn, wCons, wNil, wTup, wLst, wOp, wCh, Bd.wT, wTr, wMn, wMe, wMe0, apF, popF, mtD, wPm, isTupD, cntF, ssF, lsF, wPA, wPC, reprF, wIxN, wLcN, wiZN, wsP3, wDct0, frzs_enc2, solids_enc2, solid_enc2, wBack, backD, intF, minPF, wAnd, wOr, Bd.wNot, wYes, wSl, wSo, wNo, wN_eq, wV_eq, wM_eq, getD0, getDs, nB_non, nB_bl, nB_int, nB_str, nB_opq, nB_own, nB_shr, nB_con, nB_down, nB_dshr, nB_dcon, nB_tup, nE_non, nE_bl, nE_int, nE_str, nE_opq, nE_own, nE_shr, nE_con, nE_down, nE_dshr, nE_dcon, nE_tup, nM_non, nM_bl, nM_int, nM_str, nM_opq, nM_own, nM_shr, nM_con, nM_down, nM_dshr, nM_dcon, nM_tup, wB, wC, c1, c2, isiF, lenF, sumF, maxF, minF, max2F, min2F, absF, divF, listF, tupF, sortF, allF, anyF, addD, mulD, Bd.intD, intD0, isB, truW, gb, gbs, outs, gN, gi1, gsC, gsN, gT, gS, gSn, evL, takeL, wBL, th_lst, th_dct, th_tup, th_int, th_bl, th_str, th_non, th_opq, setD, ixD, slD, isD, wCallF, wLc, wiS, wiZ, wiE, wiR1, wiR2, wiR3, seqQ, solids, D.solid, ints_solid, ints_frz, frzs, D.frz, List.set_cons_zero, List.set_cons_succ, if_true, if_false, Bool.false_eq_true, true_and, and_true, ite_true, ite_false, List.cons_append, List.nil_append, wipeD, reduceIte, List.length_cons, List.length_nil, reduceCtorEq, tyN_bool, tyN_int, tyN_str, tyN_tuple, tyN_list, tyN_dict, tyS_non, tyS_bl, tyS_int, tyS_str, tyS_tup, tyS_lst, tyS_dct, isi_non_bool, isi_non_int, isi_non_str, isi_non_tuple, isi_non_list, isi_non_dict, isi_bl_bool, isi_bl_int, isi_bl_str, isi_bl_tuple, isi_bl_list, isi_bl_dict, isi_int_bool, isi_int_int, isi_int_str, isi_int_tuple, isi_int_list, isi_int_dict, isi_str_bool, isi_str_int, isi_str_str, isi_str_tuple, isi_str_list, isi_str_dict, isi_tup_bool, isi_tup_int, isi_tup_str, isi_tup_tuple, isi_tup_list, isi_tup_dict, isi_lst_bool, isi_lst_int, isi_lst_str, isi_lst_tuple, isi_lst_list, isi_lst_dict, isi_dct_bool, isi_dct_int, isi_dct_str, isi_dct_tuple, isi_dct_list, isi_dct_dict, List.length_map, Bool.not_true, Bool.not_false, eqD, neD, eqTx, neTx, dec_if, dec_ifn, Bool.not_not, at0, at1, at2, ix0, ix1, ix2, Bd.ints_map, Bd.bls_map, Option.some.injEq, exists_eq_left', memD_lst, memD_tup, memD_str, isIn_nil, isIn_cons, isIn_ints, scal_int, scal_str, scal_bl, scal_non, scals_nil, scals_cons, scals_ints, shp_l1i, shp_l2i, shp_l3i, shp_t1i, shp_t2i, shp_t3i, dec_or, dec_orf, Bool.and_self, shp_non, shp_bl, shp_int, shp_tints, shp_lints, shp_tnil, shp_lnil, eqd_int, eqd_str, eqd_bl, eqd_non, eqd_tints, eqd_lints, eqd_lnil, eqd_tnil, shp_lenc, shp_tenc, List.map_eq_nil_iff]
  refine ⟨by simp [ones]; omega, ?_⟩
  rw [ones_map]
  refine lcL_map (fun its => match its with | [.int p] => .int (m * p / ps.sum) | _ => .gone) ?_ ?_
  · intro its hi K hK
    obtain ⟨p, hp, rfl⟩ := List.mem_map.mp hi
    simp only [wsR, wsX, wsA, wsI, wsN, wsRN, wsBk, wsCt, wsP, wsS, wsF, wsW, wAndV, wOrV, wNotV, wIf, wNeg, wCall, wBc, wBn, wCons, wNil, wTup, wLst, wOp, wCh, Bd.wT, wTr, wMn, wMe, wMe0, apF, popF, mtD, wPm, isTupD, cntF, ssF, lsF, wPA, wPC, reprF, wIxN, wLcN, wiZN, wsP3, wDct0, frzs_enc2, solids_enc2, solid_enc2, wBack, backD, intF, minPF, wAnd, wOr, Bd.wNot, wYes, wSl, wSo, wNo, wN_eq, wV_eq, wM_eq, getD0, getDs, nB_non, nB_bl, nB_int, nB_str, nB_opq, nB_own, nB_shr, nB_con, nB_down, nB_dshr, nB_dcon, nB_tup, nE_non, nE_bl, nE_int, nE_str, nE_opq, nE_own, nE_shr, nE_con, nE_down, nE_dshr, nE_dcon, nE_tup, nM_non, nM_bl, nM_int, nM_str, nM_opq, nM_own, nM_shr, nM_con, nM_down, nM_dshr, nM_dcon, nM_tup, wB, wC, c1, c2, isiF, lenF, sumF, maxF, minF, max2F, min2F, absF, divF, listF, tupF, sortF, allF, anyF, addD, mulD, Bd.intD, intD0, isB, truW, gb, gbs, outs, gN, gi1, gsC, gsN, gT, gS, gSn, evL, takeL, wBL, th_lst, th_dct, th_tup, th_int, th_bl, th_str, th_non, th_opq, setD, ixD, slD, isD, wCallF, wLc, wiS, wiZ, wiE, wiR1, wiR2, wiR3, seqQ, solids, D.solid, ints_solid, ints_frz, frzs, D.frz, List.set_cons_zero, List.set_cons_succ, if_true, if_false, Bool.false_eq_true, true_and, and_true, ite_true, ite_false, List.cons_append, List.nil_append, wipeD, reduceIte, List.length_cons, List.length_nil, reduceCtorEq, tyN_bool, tyN_int, tyN_str, tyN_tuple, tyN_list, tyN_dict, tyS_non, tyS_bl, tyS_int, tyS_str, tyS_tup, tyS_lst, tyS_dct, isi_non_bool, isi_non_int, isi_non_str, isi_non_tuple, isi_non_list, isi_non_dict, isi_bl_bool, isi_bl_int, isi_bl_str, isi_bl_tuple, isi_bl_list, isi_bl_dict, isi_int_bool, isi_int_int, isi_int_str, isi_int_tuple, isi_int_list, isi_int_dict, isi_str_bool, isi_str_int, isi_str_str, isi_str_tuple, isi_str_list, isi_str_dict, isi_tup_bool, isi_tup_int, isi_tup_str, isi_tup_tuple, isi_tup_list, isi_tup_dict, isi_lst_bool, isi_lst_int, isi_lst_str, isi_lst_tuple, isi_lst_list, isi_lst_dict, isi_dct_bool, isi_dct_int, isi_dct_str, isi_dct_tuple, isi_dct_list, isi_dct_dict, List.length_map, Bool.not_true, Bool.not_false, eqD, neD, eqTx, neTx, dec_if, dec_ifn, Bool.not_not, at0, at1, at2, ix0, ix1, ix2, Bd.ints_map, Bd.bls_map, Option.some.injEq, exists_eq_left', memD_lst, memD_tup, memD_str, isIn_nil, isIn_cons, isIn_ints, scal_int, scal_str, scal_bl, scal_non, scals_nil, scals_cons, scals_ints, shp_l1i, shp_l2i, shp_l3i, shp_t1i, shp_t2i, shp_t3i, dec_or, dec_orf, Bool.and_self, shp_non, shp_bl, shp_int, shp_tints, shp_lints, shp_tnil, shp_lnil, eqd_int, eqd_str, eqd_bl, eqd_non, eqd_tints, eqd_lints, eqd_lnil, eqd_tnil, shp_lenc, shp_tenc, List.map_eq_nil_iff]
    refine ⟨hmul p hp, divW 40 ht (by omega) (by decide), ?_⟩
    exact hK
  have ef : List.map (fun its => match its with | [D.int p] => D.int (m * p / ps.sum) | x => D.gone) (List.map (fun a => [D.int a]) ps) = (floors ps m).map D.int := by
    rw [List.map_map, floors, List.map_map]; rfl
  rw [ef]
  simp only [wsR, wsX, wsA, wsI, wsN, wsRN, wsBk, wsCt, wsP, wsS, wsF, wsW, wAndV, wOrV, wNotV, wIf, wNeg, wCall, wBc, wBn, wCons, wNil, wTup, wLst, wOp, wCh, Bd.wT, wTr, wMn, wMe, wMe0, apF, popF, mtD, wPm, isTupD, cntF, ssF, lsF, wPA, wPC, reprF, wIxN, wLcN, wiZN, wsP3, wDct0, frzs_enc2, solids_enc2, solid_enc2, wBack, backD, intF, minPF, wAnd, wOr, Bd.wNot, wYes, wSl, wSo, wNo, wN_eq, wV_eq, wM_eq, getD0, getDs, nB_non, nB_bl, nB_int, nB_str, nB_opq, nB_own, nB_shr, nB_con, nB_down, nB_dshr, nB_dcon, nB_tup, nE_non, nE_bl, nE_int, nE_str, nE_opq, nE_own, nE_shr, nE_con, nE_down, nE_dshr, nE_dcon, nE_tup, nM_non, nM_bl, nM_int, nM_str, nM_opq, nM_own, nM_shr, nM_con, nM_down, nM_dshr, nM_dcon, nM_tup, wB, wC, c1, c2, isiF, lenF, sumF, maxF, minF, max2F, min2F, absF, divF, listF, tupF, sortF, allF, anyF, addD, mulD, Bd.intD, intD0, isB, truW, gb, gbs, outs, gN, gi1, gsC, gsN, gT, gS, gSn, evL, takeL, wBL, th_lst, th_dct, th_tup, th_int, th_bl, th_str, th_non, th_opq, setD, ixD, slD, isD, wCallF, wLc, wiS, wiZ, wiE, wiR1, wiR2, wiR3, seqQ, solids, D.solid, ints_solid, ints_frz, frzs, D.frz, List.set_cons_zero, List.set_cons_succ, if_true, if_false, Bool.false_eq_true, true_and, and_true, ite_true, ite_false, List.cons_append, List.nil_append, wipeD, reduceIte, List.length_cons, List.length_nil, reduceCtorEq, tyN_bool, tyN_int, tyN_str, tyN_tuple, tyN_list, tyN_dict, tyS_non, tyS_bl, tyS_int, tyS_str, tyS_tup, tyS_lst, tyS_dct, isi_non_bool, isi_non_int, isi_non_str, isi_non_tuple, isi_non_list, isi_non_dict, isi_bl_bool, isi_bl_int, isi_bl_str, isi_bl_tuple, isi_bl_list, isi_bl_dict, isi_int_bool, isi_int_int, isi_int_str, isi_int_tuple, isi_int_list, isi_int_dict, isi_str_bool, isi_str_int, isi_str_str, isi_str_tuple, isi_str_list, isi_str_dict, isi_tup_bool, isi_tup_int, isi_tup_str, isi_tup_tuple, isi_tup_list, isi_tup_dict, isi_lst_bool, isi_lst_int, isi_lst_str, isi_lst_tuple, isi_lst_list, isi_lst_dict, isi_dct_bool, isi_dct_int, isi_dct_str, isi_dct_tuple, isi_dct_list, isi_dct_dict, List.length_map, Bool.not_true, Bool.not_false, eqD, neD, eqTx, neTx, dec_if, dec_ifn, Bool.not_not, at0, at1, at2, ix0, ix1, ix2, Bd.ints_map, Bd.bls_map, Option.some.injEq, exists_eq_left', memD_lst, memD_tup, memD_str, isIn_nil, isIn_cons, isIn_ints, scal_int, scal_str, scal_bl, scal_non, scals_nil, scals_cons, scals_ints, shp_l1i, shp_l2i, shp_l3i, shp_t1i, shp_t2i, shp_t3i, dec_or, dec_orf, Bool.and_self, shp_non, shp_bl, shp_int, shp_tints, shp_lints, shp_tnil, shp_lnil, eqd_int, eqd_str, eqd_bl, eqd_non, eqd_tints, eqd_lints, eqd_lnil, eqd_tnil, shp_lenc, shp_tenc, List.map_eq_nil_iff]
  unfold w_law_shares_2
  simp only [wsR, wsX, wsA, wsI, wsN, wsRN, wsBk, wsCt, wsP, wsS, wsF, wsW, wAndV, wOrV, wNotV, wIf, wNeg, wCall, wBc, wBn, wCons, wNil, wTup, wLst, wOp, wCh, Bd.wT, wTr, wMn, wMe, wMe0, apF, popF, mtD, wPm, isTupD, cntF, ssF, lsF, wPA, wPC, reprF, wIxN, wLcN, wiZN, wsP3, wDct0, frzs_enc2, solids_enc2, solid_enc2, wBack, backD, intF, minPF, wAnd, wOr, Bd.wNot, wYes, wSl, wSo, wNo, wN_eq, wV_eq, wM_eq, getD0, getDs, nB_non, nB_bl, nB_int, nB_str, nB_opq, nB_own, nB_shr, nB_con, nB_down, nB_dshr, nB_dcon, nB_tup, nE_non, nE_bl, nE_int, nE_str, nE_opq, nE_own, nE_shr, nE_con, nE_down, nE_dshr, nE_dcon, nE_tup, nM_non, nM_bl, nM_int, nM_str, nM_opq, nM_own, nM_shr, nM_con, nM_down, nM_dshr, nM_dcon, nM_tup, wB, wC, c1, c2, isiF, lenF, sumF, maxF, minF, max2F, min2F, absF, divF, listF, tupF, sortF, allF, anyF, addD, mulD, Bd.intD, intD0, isB, truW, gb, gbs, outs, gN, gi1, gsC, gsN, gT, gS, gSn, evL, takeL, wBL, th_lst, th_dct, th_tup, th_int, th_bl, th_str, th_non, th_opq, setD, ixD, slD, isD, wCallF, wLc, wiS, wiZ, wiE, wiR1, wiR2, wiR3, seqQ, solids, D.solid, ints_solid, ints_frz, frzs, D.frz, List.set_cons_zero, List.set_cons_succ, if_true, if_false, Bool.false_eq_true, true_and, and_true, ite_true, ite_false, List.cons_append, List.nil_append, wipeD, reduceIte, List.length_cons, List.length_nil, reduceCtorEq, tyN_bool, tyN_int, tyN_str, tyN_tuple, tyN_list, tyN_dict, tyS_non, tyS_bl, tyS_int, tyS_str, tyS_tup, tyS_lst, tyS_dct, isi_non_bool, isi_non_int, isi_non_str, isi_non_tuple, isi_non_list, isi_non_dict, isi_bl_bool, isi_bl_int, isi_bl_str, isi_bl_tuple, isi_bl_list, isi_bl_dict, isi_int_bool, isi_int_int, isi_int_str, isi_int_tuple, isi_int_list, isi_int_dict, isi_str_bool, isi_str_int, isi_str_str, isi_str_tuple, isi_str_list, isi_str_dict, isi_tup_bool, isi_tup_int, isi_tup_str, isi_tup_tuple, isi_tup_list, isi_tup_dict, isi_lst_bool, isi_lst_int, isi_lst_str, isi_lst_tuple, isi_lst_list, isi_lst_dict, isi_dct_bool, isi_dct_int, isi_dct_str, isi_dct_tuple, isi_dct_list, isi_dct_dict, List.length_map, Bool.not_true, Bool.not_false, eqD, neD, eqTx, neTx, dec_if, dec_ifn, Bool.not_not, at0, at1, at2, ix0, ix1, ix2, Bd.ints_map, Bd.bls_map, Option.some.injEq, exists_eq_left', memD_lst, memD_tup, memD_str, isIn_nil, isIn_cons, isIn_ints, scal_int, scal_str, scal_bl, scal_non, scals_nil, scals_cons, scals_ints, shp_l1i, shp_l2i, shp_l3i, shp_t1i, shp_t2i, shp_t3i, dec_or, dec_orf, Bool.and_self, shp_non, shp_bl, shp_int, shp_tints, shp_lints, shp_tnil, shp_lnil, eqd_int, eqd_str, eqd_bl, eqd_non, eqd_tints, eqd_lints, eqd_lnil, eqd_tnil, shp_lenc, shp_tenc, List.map_eq_nil_iff]
  have ep : pairs (ps.map D.int) ((floors ps m).map D.int) = ps.map fun p => [D.int p, D.int (m * p / ps.sum)] := pairs_fl _ ps
  rw [ep]
  refine ⟨by simp; omega, ?_⟩
  refine lcL_map (fun its => match its with | [.int p, .int q] => .int (m * p - q * ps.sum) | _ => .gone) ?_ ?_
  · intro its hi K hK
    obtain ⟨p, hp, rfl⟩ := List.mem_map.mp hi
    obtain ⟨q0, q1⟩ := hq p hp
    simp only [wsR, wsX, wsA, wsI, wsN, wsRN, wsBk, wsCt, wsP, wsS, wsF, wsW, wAndV, wOrV, wNotV, wIf, wNeg, wCall, wBc, wBn, wCons, wNil, wTup, wLst, wOp, wCh, Bd.wT, wTr, wMn, wMe, wMe0, apF, popF, mtD, wPm, isTupD, cntF, ssF, lsF, wPA, wPC, reprF, wIxN, wLcN, wiZN, wsP3, wDct0, frzs_enc2, solids_enc2, solid_enc2, wBack, backD, intF, minPF, wAnd, wOr, Bd.wNot, wYes, wSl, wSo, wNo, wN_eq, wV_eq, wM_eq, getD0, getDs, nB_non, nB_bl, nB_int, nB_str, nB_opq, nB_own, nB_shr, nB_con, nB_down, nB_dshr, nB_dcon, nB_tup, nE_non, nE_bl, nE_int, nE_str, nE_opq, nE_own, nE_shr, nE_con, nE_down, nE_dshr, nE_dcon, nE_tup, nM_non, nM_bl, nM_int, nM_str, nM_opq, nM_own, nM_shr, nM_con, nM_down, nM_dshr, nM_dcon, nM_tup, wB, wC, c1, c2, isiF, lenF, sumF, maxF, minF, max2F, min2F, absF, divF, listF, tupF, sortF, allF, anyF, addD, mulD, Bd.intD, intD0, isB, truW, gb, gbs, outs, gN, gi1, gsC, gsN, gT, gS, gSn, evL, takeL, wBL, th_lst, th_dct, th_tup, th_int, th_bl, th_str, th_non, th_opq, setD, ixD, slD, isD, wCallF, wLc, wiS, wiZ, wiE, wiR1, wiR2, wiR3, seqQ, solids, D.solid, ints_solid, ints_frz, frzs, D.frz, List.set_cons_zero, List.set_cons_succ, if_true, if_false, Bool.false_eq_true, true_and, and_true, ite_true, ite_false, List.cons_append, List.nil_append, wipeD, reduceIte, List.length_cons, List.length_nil, reduceCtorEq, tyN_bool, tyN_int, tyN_str, tyN_tuple, tyN_list, tyN_dict, tyS_non, tyS_bl, tyS_int, tyS_str, tyS_tup, tyS_lst, tyS_dct, isi_non_bool, isi_non_int, isi_non_str, isi_non_tuple, isi_non_list, isi_non_dict, isi_bl_bool, isi_bl_int, isi_bl_str, isi_bl_tuple, isi_bl_list, isi_bl_dict, isi_int_bool, isi_int_int, isi_int_str, isi_int_tuple, isi_int_list, isi_int_dict, isi_str_bool, isi_str_int, isi_str_str, isi_str_tuple, isi_str_list, isi_str_dict, isi_tup_bool, isi_tup_int, isi_tup_str, isi_tup_tuple, isi_tup_list, isi_tup_dict, isi_lst_bool, isi_lst_int, isi_lst_str, isi_lst_tuple, isi_lst_list, isi_lst_dict, isi_dct_bool, isi_dct_int, isi_dct_str, isi_dct_tuple, isi_dct_list, isi_dct_dict, List.length_map, Bool.not_true, Bool.not_false, eqD, neD, eqTx, neTx, dec_if, dec_ifn, Bool.not_not, at0, at1, at2, ix0, ix1, ix2, Bd.ints_map, Bd.bls_map, Option.some.injEq, exists_eq_left', memD_lst, memD_tup, memD_str, isIn_nil, isIn_cons, isIn_ints, scal_int, scal_str, scal_bl, scal_non, scals_nil, scals_cons, scals_ints, shp_l1i, shp_l2i, shp_l3i, shp_t1i, shp_t2i, shp_t3i, dec_or, dec_orf, Bool.and_self, shp_non, shp_bl, shp_int, shp_tints, shp_lints, shp_tnil, shp_lnil, eqd_int, eqd_str, eqd_bl, eqd_non, eqd_tints, eqd_lints, eqd_lnil, eqd_tnil, shp_lenc, shp_tenc, List.map_eq_nil_iff]
    refine ⟨hmul p hp, mulW 40 40 (by omega) (by omega) (by omega) (by omega) (by decide), ?_⟩
    exact hK
  have er : List.map (fun its => match its with | [D.int p, D.int q] => D.int (m * p - q * ps.sum) | x => D.gone) (ps.map fun p => [D.int p, D.int (m * p / ps.sum)]) = (R0 ps m).map D.int := by
    rw [List.map_map, R0, List.map_map]
    refine List.map_congr_left fun p hp => ?_
    show D.int (m * p - m * p / ps.sum * ps.sum) = D.int (m * p % ps.sum)
    have := Int.mul_ediv_add_emod (m * p) ps.sum
    rw [Int.mul_comm] at this
    congr 1
    omega
  rw [er]
  simp only [wsR, wsX, wsA, wsI, wsN, wsRN, wsBk, wsCt, wsP, wsS, wsF, wsW, wAndV, wOrV, wNotV, wIf, wNeg, wCall, wBc, wBn, wCons, wNil, wTup, wLst, wOp, wCh, Bd.wT, wTr, wMn, wMe, wMe0, apF, popF, mtD, wPm, isTupD, cntF, ssF, lsF, wPA, wPC, reprF, wIxN, wLcN, wiZN, wsP3, wDct0, frzs_enc2, solids_enc2, solid_enc2, wBack, backD, intF, minPF, wAnd, wOr, Bd.wNot, wYes, wSl, wSo, wNo, wN_eq, wV_eq, wM_eq, getD0, getDs, nB_non, nB_bl, nB_int, nB_str, nB_opq, nB_own, nB_shr, nB_con, nB_down, nB_dshr, nB_dcon, nB_tup, nE_non, nE_bl, nE_int, nE_str, nE_opq, nE_own, nE_shr, nE_con, nE_down, nE_dshr, nE_dcon, nE_tup, nM_non, nM_bl, nM_int, nM_str, nM_opq, nM_own, nM_shr, nM_con, nM_down, nM_dshr, nM_dcon, nM_tup, wB, wC, c1, c2, isiF, lenF, sumF, maxF, minF, max2F, min2F, absF, divF, listF, tupF, sortF, allF, anyF, addD, mulD, Bd.intD, intD0, isB, truW, gb, gbs, outs, gN, gi1, gsC, gsN, gT, gS, gSn, evL, takeL, wBL, th_lst, th_dct, th_tup, th_int, th_bl, th_str, th_non, th_opq, setD, ixD, slD, isD, wCallF, wLc, wiS, wiZ, wiE, wiR1, wiR2, wiR3, seqQ, solids, D.solid, ints_solid, ints_frz, frzs, D.frz, List.set_cons_zero, List.set_cons_succ, if_true, if_false, Bool.false_eq_true, true_and, and_true, ite_true, ite_false, List.cons_append, List.nil_append, wipeD, reduceIte, List.length_cons, List.length_nil, reduceCtorEq, tyN_bool, tyN_int, tyN_str, tyN_tuple, tyN_list, tyN_dict, tyS_non, tyS_bl, tyS_int, tyS_str, tyS_tup, tyS_lst, tyS_dct, isi_non_bool, isi_non_int, isi_non_str, isi_non_tuple, isi_non_list, isi_non_dict, isi_bl_bool, isi_bl_int, isi_bl_str, isi_bl_tuple, isi_bl_list, isi_bl_dict, isi_int_bool, isi_int_int, isi_int_str, isi_int_tuple, isi_int_list, isi_int_dict, isi_str_bool, isi_str_int, isi_str_str, isi_str_tuple, isi_str_list, isi_str_dict, isi_tup_bool, isi_tup_int, isi_tup_str, isi_tup_tuple, isi_tup_list, isi_tup_dict, isi_lst_bool, isi_lst_int, isi_lst_str, isi_lst_tuple, isi_lst_list, isi_lst_dict, isi_dct_bool, isi_dct_int, isi_dct_str, isi_dct_tuple, isi_dct_list, isi_dct_dict, List.length_map, Bool.not_true, Bool.not_false, eqD, neD, eqTx, neTx, dec_if, dec_ifn, Bool.not_not, at0, at1, at2, ix0, ix1, ix2, Bd.ints_map, Bd.bls_map, Option.some.injEq, exists_eq_left', memD_lst, memD_tup, memD_str, isIn_nil, isIn_cons, isIn_ints, scal_int, scal_str, scal_bl, scal_non, scals_nil, scals_cons, scals_ints, shp_l1i, shp_l2i, shp_l3i, shp_t1i, shp_t2i, shp_t3i, dec_or, dec_orf, Bool.and_self, shp_non, shp_bl, shp_int, shp_tints, shp_lints, shp_tnil, shp_lnil, eqd_int, eqd_str, eqd_bl, eqd_non, eqd_tints, eqd_lints, eqd_lnil, eqd_tnil, shp_lenc, shp_tenc, List.map_eq_nil_iff]
  unfold w_law_shares_3
  simp only [wsR, wsX, wsA, wsI, wsN, wsRN, wsBk, wsCt, wsP, wsS, wsF, wsW, wAndV, wOrV, wNotV, wIf, wNeg, wCall, wBc, wBn, wCons, wNil, wTup, wLst, wOp, wCh, Bd.wT, wTr, wMn, wMe, wMe0, apF, popF, mtD, wPm, isTupD, cntF, ssF, lsF, wPA, wPC, reprF, wIxN, wLcN, wiZN, wsP3, wDct0, frzs_enc2, solids_enc2, solid_enc2, wBack, backD, intF, minPF, wAnd, wOr, Bd.wNot, wYes, wSl, wSo, wNo, wN_eq, wV_eq, wM_eq, getD0, getDs, nB_non, nB_bl, nB_int, nB_str, nB_opq, nB_own, nB_shr, nB_con, nB_down, nB_dshr, nB_dcon, nB_tup, nE_non, nE_bl, nE_int, nE_str, nE_opq, nE_own, nE_shr, nE_con, nE_down, nE_dshr, nE_dcon, nE_tup, nM_non, nM_bl, nM_int, nM_str, nM_opq, nM_own, nM_shr, nM_con, nM_down, nM_dshr, nM_dcon, nM_tup, wB, wC, c1, c2, isiF, lenF, sumF, maxF, minF, max2F, min2F, absF, divF, listF, tupF, sortF, allF, anyF, addD, mulD, Bd.intD, intD0, isB, truW, gb, gbs, outs, gN, gi1, gsC, gsN, gT, gS, gSn, evL, takeL, wBL, th_lst, th_dct, th_tup, th_int, th_bl, th_str, th_non, th_opq, setD, ixD, slD, isD, wCallF, wLc, wiS, wiZ, wiE, wiR1, wiR2, wiR3, seqQ, solids, D.solid, ints_solid, ints_frz, frzs, D.frz, List.set_cons_zero, List.set_cons_succ, if_true, if_false, Bool.false_eq_true, true_and, and_true, ite_true, ite_false, List.cons_append, List.nil_append, wipeD, reduceIte, List.length_cons, List.length_nil, reduceCtorEq, tyN_bool, tyN_int, tyN_str, tyN_tuple, tyN_list, tyN_dict, tyS_non, tyS_bl, tyS_int, tyS_str, tyS_tup, tyS_lst, tyS_dct, isi_non_bool, isi_non_int, isi_non_str, isi_non_tuple, isi_non_list, isi_non_dict, isi_bl_bool, isi_bl_int, isi_bl_str, isi_bl_tuple, isi_bl_list, isi_bl_dict, isi_int_bool, isi_int_int, isi_int_str, isi_int_tuple, isi_int_list, isi_int_dict, isi_str_bool, isi_str_int, isi_str_str, isi_str_tuple, isi_str_list, isi_str_dict, isi_tup_bool, isi_tup_int, isi_tup_str, isi_tup_tuple, isi_tup_list, isi_tup_dict, isi_lst_bool, isi_lst_int, isi_lst_str, isi_lst_tuple, isi_lst_list, isi_lst_dict, isi_dct_bool, isi_dct_int, isi_dct_str, isi_dct_tuple, isi_dct_list, isi_dct_dict, List.length_map, Bool.not_true, Bool.not_false, eqD, neD, eqTx, neTx, dec_if, dec_ifn, Bool.not_not, at0, at1, at2, ix0, ix1, ix2, Bd.ints_map, Bd.bls_map, Option.some.injEq, exists_eq_left', memD_lst, memD_tup, memD_str, isIn_nil, isIn_cons, isIn_ints, scal_int, scal_str, scal_bl, scal_non, scals_nil, scals_cons, scals_ints, shp_l1i, shp_l2i, shp_l3i, shp_t1i, shp_t2i, shp_t3i, dec_or, dec_orf, Bool.and_self, shp_non, shp_bl, shp_int, shp_tints, shp_lints, shp_tnil, shp_lnil, eqd_int, eqd_str, eqd_bl, eqd_non, eqd_tints, eqd_lints, eqd_lnil, eqd_tnil, shp_lenc, shp_tenc, List.map_eq_nil_iff]
  have hfn : 0 ≤ (floors ps m).sum := sum_nn fun q hq2 => by
    obtain ⟨p, hp, rfl⟩ := List.mem_map.mp hq2
    exact (hq p hp).1
  refine ⟨by omega, by omega, ?_⟩
  have hlen : (m - (floors ps m).sum).toNat = (left ps m).length := by omega
  rw [hlen]
  refine forL_inv (fun i ρ => ∃ d5 d6, ρ = [D.tup (List.map D.int ps), D.int m, D.int ps.sum, D.lst M.own ((((left ps m).take i).foldl bump (floors ps m)).map D.int), D.lst M.own ((((left ps m).take i).foldl unr (R0 ps m)).map D.int), d5, d6, D.gone, D.gone]) ⟨.gone, .gone, rfl⟩ ?_ ?_
  · rintro i its ρ K hi ⟨d5, d6, rfl⟩ hk
    unfold rgL at hi
    rw [List.getElem?_map] at hi
    obtain ⟨k, hk0, rfl⟩ := Option.map_eq_some_iff.mp hi
    obtain ⟨g1, g2⟩ := List.getElem?_eq_some_iff.mp hk0
    rw [List.length_range] at g1
    have hp : (left ps m)[i]? = some (left ps m)[i] := List.getElem?_eq_getElem g1
    generalize (left ps m)[i] = p at hp
    obtain ⟨i0, e0, hi0, hb0, hb1⟩ := best_is hf' hp
    generalize hfs : ((left ps m).take i).foldl bump (floors ps m) = fs
    have hfl : fs.length = ps.length := by rw [← hfs, bumps_len, floors, List.length_map]
    have hnext : ((left ps m).take (i + 1)).foldl bump (floors ps m) = bump fs p := by
      rw [List.take_succ, hp, List.foldl_append, hfs]; rfl
    generalize hrs : ((left ps m).take i).foldl unr (R0 ps m) = rs at hb0 hb1
    have hrl : rs.length = ps.length := by rw [← hrs, unr_len, R0, List.length_map]
    have hnext2 : ((left ps m).take (i + 1)).foldl unr (R0 ps m) = unr rs p := by
      rw [List.take_succ, hp, List.foldl_append, hrs]; rfl
    simp only [wsR, wsX, wsA, wsI, wsN, wsRN, wsBk, wsCt, wsP, wsS, wsF, wsW, wAndV, wOrV, wNotV, wIf, wNeg, wCall, wBc, wBn, wCons, wNil, wTup, wLst, wOp, wCh, Bd.wT, wTr, wMn, wMe, wMe0, apF, popF, mtD, wPm, isTupD, cntF, ssF, lsF, wPA, wPC, reprF, wIxN, wLcN, wiZN, wsP3, wDct0, frzs_enc2, solids_enc2, solid_enc2, wBack, backD, intF, minPF, wAnd, wOr, Bd.wNot, wYes, wSl, wSo, wNo, wN_eq, wV_eq, wM_eq, getD0, getDs, nB_non, nB_bl, nB_int, nB_str, nB_opq, nB_own, nB_shr, nB_con, nB_down, nB_dshr, nB_dcon, nB_tup, nE_non, nE_bl, nE_int, nE_str, nE_opq, nE_own, nE_shr, nE_con, nE_down, nE_dshr, nE_dcon, nE_tup, nM_non, nM_bl, nM_int, nM_str, nM_opq, nM_own, nM_shr, nM_con, nM_down, nM_dshr, nM_dcon, nM_tup, wB, wC, c1, c2, isiF, lenF, sumF, maxF, minF, max2F, min2F, absF, divF, listF, tupF, sortF, allF, anyF, addD, mulD, Bd.intD, intD0, isB, truW, gb, gbs, outs, gN, gi1, gsC, gsN, gT, gS, gSn, evL, takeL, wBL, th_lst, th_dct, th_tup, th_int, th_bl, th_str, th_non, th_opq, setD, ixD, slD, isD, wCallF, wLc, wiS, wiZ, wiE, wiR1, wiR2, wiR3, seqQ, solids, D.solid, ints_solid, ints_frz, frzs, D.frz, List.set_cons_zero, List.set_cons_succ, if_true, if_false, Bool.false_eq_true, true_and, and_true, ite_true, ite_false, List.cons_append, List.nil_append, wipeD, reduceIte, List.length_cons, List.length_nil, reduceCtorEq, tyN_bool, tyN_int, tyN_str, tyN_tuple, tyN_list, tyN_dict, tyS_non, tyS_bl, tyS_int, tyS_str, tyS_tup, tyS_lst, tyS_dct, isi_non_bool, isi_non_int, isi_non_str, isi_non_tuple, isi_non_list, isi_non_dict, isi_bl_bool, isi_bl_int, isi_bl_str, isi_bl_tuple, isi_bl_list, isi_bl_dict, isi_int_bool, isi_int_int, isi_int_str, isi_int_tuple, isi_int_list, isi_int_dict, isi_str_bool, isi_str_int, isi_str_str, isi_str_tuple, isi_str_list, isi_str_dict, isi_tup_bool, isi_tup_int, isi_tup_str, isi_tup_tuple, isi_tup_list, isi_tup_dict, isi_lst_bool, isi_lst_int, isi_lst_str, isi_lst_tuple, isi_lst_list, isi_lst_dict, isi_dct_bool, isi_dct_int, isi_dct_str, isi_dct_tuple, isi_dct_list, isi_dct_dict, List.length_map, Bool.not_true, Bool.not_false, eqD, neD, eqTx, neTx, dec_if, dec_ifn, Bool.not_not, at0, at1, at2, ix0, ix1, ix2, Bd.ints_map, Bd.bls_map, Option.some.injEq, exists_eq_left', memD_lst, memD_tup, memD_str, isIn_nil, isIn_cons, isIn_ints, scal_int, scal_str, scal_bl, scal_non, scals_nil, scals_cons, scals_ints, shp_l1i, shp_l2i, shp_l3i, shp_t1i, shp_t2i, shp_t3i, dec_or, dec_orf, Bool.and_self, shp_non, shp_bl, shp_int, shp_tints, shp_lints, shp_tnil, shp_lnil, eqd_int, eqd_str, eqd_bl, eqd_non, eqd_tints, eqd_lints, eqd_lnil, eqd_tnil, shp_lenc, shp_tenc, List.map_eq_nil_iff]
    unfold w_law_shares_4
    simp only [wsR, wsX, wsA, wsI, wsN, wsRN, wsBk, wsCt, wsP, wsS, wsF, wsW, wAndV, wOrV, wNotV, wIf, wNeg, wCall, wBc, wBn, wCons, wNil, wTup, wLst, wOp, wCh, Bd.wT, wTr, wMn, wMe, wMe0, apF, popF, mtD, wPm, isTupD, cntF, ssF, lsF, wPA, wPC, reprF, wIxN, wLcN, wiZN, wsP3, wDct0, frzs_enc2, solids_enc2, solid_enc2, wBack, backD, intF, minPF, wAnd, wOr, Bd.wNot, wYes, wSl, wSo, wNo, wN_eq, wV_eq, wM_eq, getD0, getDs, nB_non, nB_bl, nB_int, nB_str, nB_opq, nB_own, nB_shr, nB_con, nB_down, nB_dshr, nB_dcon, nB_tup, nE_non, nE_bl, nE_int, nE_str, nE_opq, nE_own, nE_shr, nE_con, nE_down, nE_dshr, nE_dcon, nE_tup, nM_non, nM_bl, nM_int, nM_str, nM_opq, nM_own, nM_shr, nM_con, nM_down, nM_dshr, nM_dcon, nM_tup, wB, wC, c1, c2, isiF, lenF, sumF, maxF, minF, max2F, min2F, absF, divF, listF, tupF, sortF, allF, anyF, addD, mulD, Bd.intD, intD0, isB, truW, gb, gbs, outs, gN, gi1, gsC, gsN, gT, gS, gSn, evL, takeL, wBL, th_lst, th_dct, th_tup, th_int, th_bl, th_str, th_non, th_opq, setD, ixD, slD, isD, wCallF, wLc, wiS, wiZ, wiE, wiR1, wiR2, wiR3, seqQ, solids, D.solid, ints_solid, ints_frz, frzs, D.frz, List.set_cons_zero, List.set_cons_succ, if_true, if_false, Bool.false_eq_true, true_and, and_true, ite_true, ite_false, List.cons_append, List.nil_append, wipeD, reduceIte, List.length_cons, List.length_nil, reduceCtorEq, tyN_bool, tyN_int, tyN_str, tyN_tuple, tyN_list, tyN_dict, tyS_non, tyS_bl, tyS_int, tyS_str, tyS_tup, tyS_lst, tyS_dct, isi_non_bool, isi_non_int, isi_non_str, isi_non_tuple, isi_non_list, isi_non_dict, isi_bl_bool, isi_bl_int, isi_bl_str, isi_bl_tuple, isi_bl_list, isi_bl_dict, isi_int_bool, isi_int_int, isi_int_str, isi_int_tuple, isi_int_list, isi_int_dict, isi_str_bool, isi_str_int, isi_str_str, isi_str_tuple, isi_str_list, isi_str_dict, isi_tup_bool, isi_tup_int, isi_tup_str, isi_tup_tuple, isi_tup_list, isi_tup_dict, isi_lst_bool, isi_lst_int, isi_lst_str, isi_lst_tuple, isi_lst_list, isi_lst_dict, isi_dct_bool, isi_dct_int, isi_dct_str, isi_dct_tuple, isi_dct_list, isi_dct_dict, List.length_map, Bool.not_true, Bool.not_false, eqD, neD, eqTx, neTx, dec_if, dec_ifn, Bool.not_not, at0, at1, at2, ix0, ix1, ix2, Bd.ints_map, Bd.bls_map, Option.some.injEq, exists_eq_left', memD_lst, memD_tup, memD_str, isIn_nil, isIn_cons, isIn_ints, scal_int, scal_str, scal_bl, scal_non, scals_nil, scals_cons, scals_ints, shp_l1i, shp_l2i, shp_l3i, shp_t1i, shp_t2i, shp_t3i, dec_or, dec_orf, Bool.and_self, shp_non, shp_bl, shp_int, shp_tints, shp_lints, shp_tnil, shp_lnil, eqd_int, eqd_str, eqd_bl, eqd_non, eqd_tints, eqd_lints, eqd_lnil, eqd_tnil, shp_lenc, shp_tenc, List.map_eq_nil_iff, ixLF]
    refine ⟨by omega, fun b hbm hbl => ?_⟩
    have eb : b = m * ps.getD i0 0 % ps.sum := by
      obtain ⟨k', hk', rfl⟩ := List.mem_iff_getElem.mp hbm
      have a1 := (hb1 k' _ (List.getElem?_eq_getElem hk')).1
      have a2 := hbl _ (List.mem_of_getElem? hb0)
      omega
    subst eb
    refine ⟨i0, .int (m * ps.getD i0 0 % ps.sum), by rw [List.getElem?_map, hb0]; rfl, by rw [eqd_int, decide_eq_true_eq], fun k' z' hk' hz' => ?_, ?_⟩
    · rw [List.getElem?_map] at hz'
      obtain ⟨y, hy, rfl⟩ := Option.map_eq_some_iff.mp hz'
      have := (hb1 k' y hy).2 hk'
      simpa [eqd_int] using this
    · unfold w_law_shares_5
      simp only [wsR, wsX, wsA, wsI, wsN, wsRN, wsBk, wsCt, wsP, wsS, wsF, wsW, wAndV, wOrV, wNotV, wIf, wNeg, wCall, wBc, wBn, wCons, wNil, wTup, wLst, wOp, wCh, Bd.wT, wTr, wMn, wMe, wMe0, apF, popF, mtD, wPm, isTupD, cntF, ssF, lsF, wPA, wPC, reprF, wIxN, wLcN, wiZN, wsP3, wDct0, frzs_enc2, solids_enc2, solid_enc2, wBack, backD, intF, minPF, wAnd, wOr, Bd.wNot, wYes, wSl, wSo, wNo, wN_eq, wV_eq, wM_eq, getD0, getDs, nB_non, nB_bl, nB_int, nB_str, nB_opq, nB_own, nB_shr, nB_con, nB_down, nB_dshr, nB_dcon, nB_tup, nE_non, nE_bl, nE_int, nE_str, nE_opq, nE_own, nE_shr, nE_con, nE_down, nE_dshr, nE_dcon, nE_tup, nM_non, nM_bl, nM_int, nM_str, nM_opq, nM_own, nM_shr, nM_con, nM_down, nM_dshr, nM_dcon, nM_tup, wB, wC, c1, c2, isiF, lenF, sumF, maxF, minF, max2F, min2F, absF, divF, listF, tupF, sortF, allF, anyF, addD, mulD, Bd.intD, intD0, isB, truW, gb, gbs, outs, gN, gi1, gsC, gsN, gT, gS, gSn, evL, takeL, wBL, th_lst, th_dct, th_tup, th_int, th_bl, th_str, th_non, th_opq, setD, ixD, slD, isD, wCallF, wLc, wiS, wiZ, wiE, wiR1, wiR2, wiR3, seqQ, solids, D.solid, ints_solid, ints_frz, frzs, D.frz, List.set_cons_zero, List.set_cons_succ, if_true, if_false, Bool.false_eq_true, true_and, and_true, ite_true, ite_false, List.cons_append, List.nil_append, wipeD, reduceIte, List.length_cons, List.length_nil, reduceCtorEq, tyN_bool, tyN_int, tyN_str, tyN_tuple, tyN_list, tyN_dict, tyS_non, tyS_bl, tyS_int, tyS_str, tyS_tup, tyS_lst, tyS_dct, isi_non_bool, isi_non_int, isi_non_str, isi_non_tuple, isi_non_list, isi_non_dict, isi_bl_bool, isi_bl_int, isi_bl_str, isi_bl_tuple, isi_bl_list, isi_bl_dict, isi_int_bool, isi_int_int, isi_int_str, isi_int_tuple, isi_int_list, isi_int_dict, isi_str_bool, isi_str_int, isi_str_str, isi_str_tuple, isi_str_list, isi_str_dict, isi_tup_bool, isi_tup_int, isi_tup_str, isi_tup_tuple, isi_tup_list, isi_tup_dict, isi_lst_bool, isi_lst_int, isi_lst_str, isi_lst_tuple, isi_lst_list, isi_lst_dict, isi_dct_bool, isi_dct_int, isi_dct_str, isi_dct_tuple, isi_dct_list, isi_dct_dict, List.length_map, Bool.not_true, Bool.not_false, eqD, neD, eqTx, neTx, dec_if, dec_ifn, Bool.not_not, at0, at1, at2, ix0, ix1, ix2, Bd.ints_map, Bd.bls_map, Option.some.injEq, exists_eq_left', memD_lst, memD_tup, memD_str, isIn_nil, isIn_cons, isIn_ints, scal_int, scal_str, scal_bl, scal_non, scals_nil, scals_cons, scals_ints, shp_l1i, shp_l2i, shp_l3i, shp_t1i, shp_t2i, shp_t3i, dec_or, dec_orf, Bool.and_self, shp_non, shp_bl, shp_int, shp_tints, shp_lints, shp_tnil, shp_lnil, eqd_int, eqd_str, eqd_bl, eqd_non, eqd_tints, eqd_lints, eqd_lnil, eqd_tnil, shp_lenc, shp_tenc, List.map_eq_nil_iff]
      have hii : (i0 : Int) < (fs.length : Int) := by omega
      rw [atI_ints (by omega) hii]
      refine ⟨_, rfl, ?_⟩
      simp only [wsR, wsX, wsA, wsI, wsN, wsRN, wsBk, wsCt, wsP, wsS, wsF, wsW, wAndV, wOrV, wNotV, wIf, wNeg, wCall, wBc, wBn, wCons, wNil, wTup, wLst, wOp, wCh, Bd.wT, wTr, wMn, wMe, wMe0, apF, popF, mtD, wPm, isTupD, cntF, ssF, lsF, wPA, wPC, reprF, wIxN, wLcN, wiZN, wsP3, wDct0, frzs_enc2, solids_enc2, solid_enc2, wBack, backD, intF, minPF, wAnd, wOr, Bd.wNot, wYes, wSl, wSo, wNo, wN_eq, wV_eq, wM_eq, getD0, getDs, nB_non, nB_bl, nB_int, nB_str, nB_opq, nB_own, nB_shr, nB_con, nB_down, nB_dshr, nB_dcon, nB_tup, nE_non, nE_bl, nE_int, nE_str, nE_opq, nE_own, nE_shr, nE_con, nE_down, nE_dshr, nE_dcon, nE_tup, nM_non, nM_bl, nM_int, nM_str, nM_opq, nM_own, nM_shr, nM_con, nM_down, nM_dshr, nM_dcon, nM_tup, wB, wC, c1, c2, isiF, lenF, sumF, maxF, minF, max2F, min2F, absF, divF, listF, tupF, sortF, allF, anyF, addD, mulD, Bd.intD, intD0, isB, truW, gb, gbs, outs, gN, gi1, gsC, gsN, gT, gS, gSn, evL, takeL, wBL, th_lst, th_dct, th_tup, th_int, th_bl, th_str, th_non, th_opq, setD, ixD, slD, isD, wCallF, wLc, wiS, wiZ, wiE, wiR1, wiR2, wiR3, seqQ, solids, D.solid, ints_solid, ints_frz, frzs, D.frz, List.set_cons_zero, List.set_cons_succ, if_true, if_false, Bool.false_eq_true, true_and, and_true, ite_true, ite_false, List.cons_append, List.nil_append, wipeD, reduceIte, List.length_cons, List.length_nil, reduceCtorEq, tyN_bool, tyN_int, tyN_str, tyN_tuple, tyN_list, tyN_dict, tyS_non, tyS_bl, tyS_int, tyS_str, tyS_tup, tyS_lst, tyS_dct, isi_non_bool, isi_non_int, isi_non_str, isi_non_tuple, isi_non_list, isi_non_dict, isi_bl_bool, isi_bl_int, isi_bl_str, isi_bl_tuple, isi_bl_list, isi_bl_dict, isi_int_bool, isi_int_int, isi_int_str, isi_int_tuple, isi_int_list, isi_int_dict, isi_str_bool, isi_str_int, isi_str_str, isi_str_tuple, isi_str_list, isi_str_dict, isi_tup_bool, isi_tup_int, isi_tup_str, isi_tup_tuple, isi_tup_list, isi_tup_dict, isi_lst_bool, isi_lst_int, isi_lst_str, isi_lst_tuple, isi_lst_list, isi_lst_dict, isi_dct_bool, isi_dct_int, isi_dct_str, isi_dct_tuple, isi_dct_list, isi_dct_dict, List.length_map, Bool.not_true, Bool.not_false, eqD, neD, eqTx, neTx, dec_if, dec_ifn, Bool.not_not, at0, at1, at2, ix0, ix1, ix2, Bd.ints_map, Bd.bls_map, Option.some.injEq, exists_eq_left', memD_lst, memD_tup, memD_str, isIn_nil, isIn_cons, isIn_ints, scal_int, scal_str, scal_bl, scal_non, scals_nil, scals_cons, scals_ints, shp_l1i, shp_l2i, shp_l3i, shp_t1i, shp_t2i, shp_t3i, dec_or, dec_orf, Bool.and_self, shp_non, shp_bl, shp_int, shp_tints, shp_lints, shp_tnil, shp_lnil, eqd_int, eqd_str, eqd_bl, eqd_non, eqd_tints, eqd_lints, eqd_lnil, eqd_tnil, shp_lenc, shp_tenc, List.map_eq_nil_iff]
      refine ⟨by omega, i0, by rw [ix_nat (by omega) (by omega)]; simp, i0, by rw [ix_nat (by omega) (by omega)]; simp, ?_⟩
      refine hk _ ⟨.int (0 + (k : Nat)), .int (i0 : Nat), ?_⟩
      rw [hnext, hnext2, bump, unr, List.map_set, List.map_set, e0]
      rfl
  · rintro ρ ⟨d5, d6, rfl⟩
    unfold w_law_shares_6
    simp only [wsR, wsX, wsA, wsI, wsN, wsRN, wsBk, wsCt, wsP, wsS, wsF, wsW, wAndV, wOrV, wNotV, wIf, wNeg, wCall, wBc, wBn, wCons, wNil, wTup, wLst, wOp, wCh, Bd.wT, wTr, wMn, wMe, wMe0, apF, popF, mtD, wPm, isTupD, cntF, ssF, lsF, wPA, wPC, reprF, wIxN, wLcN, wiZN, wsP3, wDct0, frzs_enc2, solids_enc2, solid_enc2, wBack, backD, intF, minPF, wAnd, wOr, Bd.wNot, wYes, wSl, wSo, wNo, wN_eq, wV_eq, wM_eq, getD0, getDs, nB_non, nB_bl, nB_int, nB_str, nB_opq, nB_own, nB_shr, nB_con, nB_down, nB_dshr, nB_dcon, nB_tup, nE_non, nE_bl, nE_int, nE_str, nE_opq, nE_own, nE_shr, nE_con, nE_down, nE_dshr, nE_dcon, nE_tup, nM_non, nM_bl, nM_int, nM_str, nM_opq, nM_own, nM_shr, nM_con, nM_down, nM_dshr, nM_dcon, nM_tup, wB, wC, c1, c2, isiF, lenF, sumF, maxF, minF, max2F, min2F, absF, divF, listF, tupF, sortF, allF, anyF, addD, mulD, Bd.intD, intD0, isB, truW, gb, gbs, outs, gN, gi1, gsC, gsN, gT, gS, gSn, evL, takeL, wBL, th_lst, th_dct, th_tup, th_int, th_bl, th_str, th_non, th_opq, setD, ixD, slD, isD, wCallF, wLc, wiS, wiZ, wiE, wiR1, wiR2, wiR3, seqQ, solids, D.solid, ints_solid, ints_frz, frzs, D.frz, List.set_cons_zero, List.set_cons_succ, if_true, if_false, Bool.false_eq_true, true_and, and_true, ite_true, ite_false, List.cons_append, List.nil_append, wipeD, reduceIte, List.length_cons, List.length_nil, reduceCtorEq, tyN_bool, tyN_int, tyN_str, tyN_tuple, tyN_list, tyN_dict, tyS_non, tyS_bl, tyS_int, tyS_str, tyS_tup, tyS_lst, tyS_dct, isi_non_bool, isi_non_int, isi_non_str, isi_non_tuple, isi_non_list, isi_non_dict, isi_bl_bool, isi_bl_int, isi_bl_str, isi_bl_tuple, isi_bl_list, isi_bl_dict, isi_int_bool, isi_int_int, isi_int_str, isi_int_tuple, isi_int_list, isi_int_dict, isi_str_bool, isi_str_int, isi_str_str, isi_str_tuple, isi_str_list, isi_str_dict, isi_tup_bool, isi_tup_int, isi_tup_str, isi_tup_tuple, isi_tup_list, isi_tup_dict, isi_lst_bool, isi_lst_int, isi_lst_str, isi_lst_tuple, isi_lst_list, isi_lst_dict, isi_dct_bool, isi_dct_int, isi_dct_str, isi_dct_tuple, isi_dct_list, isi_dct_dict, List.length_map, Bool.not_true, Bool.not_false, eqD, neD, eqTx, neTx, dec_if, dec_ifn, Bool.not_not, at0, at1, at2, ix0, ix1, ix2, Bd.ints_map, Bd.bls_map, Option.some.injEq, exists_eq_left', memD_lst, memD_tup, memD_str, isIn_nil, isIn_cons, isIn_ints, scal_int, scal_str, scal_bl, scal_non, scals_nil, scals_cons, scals_ints, shp_l1i, shp_l2i, shp_l3i, shp_t1i, shp_t2i, shp_t3i, dec_or, dec_orf, Bool.and_self, shp_non, shp_bl, shp_int, shp_tints, shp_lints, shp_tnil, shp_lnil, eqd_int, eqd_str, eqd_bl, eqd_non, eqd_tints, eqd_lints, eqd_lnil, eqd_tnil, shp_lenc, shp_tenc, List.map_eq_nil_iff]
    rw [show (rgL 0 (left ps m).length).length = (left ps m).length by simp [rgL], List.take_length]
    exact h2
end K07

namespace K07
open PySem PySem.Spec PyProof.Rows L2 Bd
theorem bad_int {i : Int} : bad (.int i) := ⟨rfl, rfl⟩
theorem whole_int {d : D} {lo hi : Int} (h : isWhole d lo hi = true) : ∃ c, d = .int c ∧ lo ≤ c ∧ c ≤ hi := by
  cases d <;> first | cases h | skip
  rename_i c
  simp only [isWhole, Bool.and_eq_true, decide_eq_true_eq] at h
  exact ⟨c, rfl, h⟩
theorem all_ints {lo hi : Int} : ∀ {xs : List D}, (∀ x ∈ xs, isWhole x lo hi = true) → ∃ ps : List Int, xs = ps.map D.int ∧ ∀ p ∈ ps, lo ≤ p ∧ p ≤ hi
  | [], _ => ⟨[], rfl, fun _ h => (List.not_mem_nil h).elim⟩
  | x :: xs, h => by
    obtain ⟨ps, rfl, hp⟩ := all_ints (xs := xs) fun y hy => h y (List.mem_cons_of_mem _ hy)
    obtain ⟨c, rfl, c0, c1⟩ := whole_int (h x List.mem_cons_self)
    refine ⟨c :: ps, rfl, fun p hp' => ?_⟩
    rcases List.mem_cons.mp hp' with rfl | hp'
    · exact ⟨c0, c1⟩
    · exact hp p hp'
theorem ints_inj : ∀ {a b : List Int}, a.map D.int = b.map D.int → a = b
  | [], [], _ => rfl
  | [], _ :: _, h => by cases h
  | _ :: _, [], h => by cases h
  | a :: r, b :: s, h => by
    rw [List.map_cons, List.map_cons] at h
    injection h with h1 h2
    injection h1 with h1
    rw [h1, ints_inj h2]
theorem r_shared : Tells S_shared [true, true] 1 w_shared := by
  rintro ds Q E ⟨d, e, rfl, hd, he, hx, hgo, hbf, hbn⟩
  show w_shared _ _ [d, e, .gone]
  have big : (64 : Nat) ≤ sizeLine := by decide
  generalize hEx : (fun (c : Str) (ns : List Int) ρ => E c ns (outs [true, true] ρ)) = Ex
  have b1 : (∀ ps : List Int, d = .tup (ps.map D.int) → ¬ frontsOk ps) → ∀ d2, Ex "NoFronts" [] [d, e, d2] := fun h d2 => by
    subst hEx
    exact hbf h
  have b2 : ∀ ps : List Int, d = .tup (ps.map D.int) → frontsOk ps → isWhole e 0 100000 = false → ∀ d2, Ex "NoNumber" [] [d, e, d2] := fun ps h1 h2 h3 d2 => by
    subst hEx
    exact hbn ps h1 h2 h3
  clear hbf hbn hEx
  unfold w_shared w_shared_0
  cases d with
  | tup xs =>
    have hsol : solids xs = true := hd.1
    have hxb := hx xs rfl
    simp only [wsR, wsX, wsA, wsI, wsN, wsRN, wsBk, wsCt, wsP, wsS, wsF, wsW, wAndV, wOrV, wNotV, wIf, wNeg, wCall, wBc, wBn, wCons, wNil, wTup, wLst, wOp, wCh, Bd.wT, wTr, wMn, wMe, wMe0, apF, popF, mtD, wPm, isTupD, cntF, ssF, lsF, wPA, wPC, reprF, wIxN, wLcN, wiZN, wsP3, wDct0, frzs_enc2, solids_enc2, solid_enc2, wBack, backD, intF, minPF, wAnd, wOr, Bd.wNot, wYes, wSl, wSo, wNo, wN_eq, wV_eq, wM_eq, getD0, getDs, nB_non, nB_bl, nB_int, nB_str, nB_opq, nB_own, nB_shr, nB_con, nB_down, nB_dshr, nB_dcon, nB_tup, nE_non, nE_bl, nE_int, nE_str, nE_opq, nE_own, nE_shr, nE_con, nE_down, nE_dshr, nE_dcon, nE_tup, nM_non, nM_bl, nM_int, nM_str, nM_opq, nM_own, nM_shr, nM_con, nM_down, nM_dshr, nM_dcon, nM_tup, wB, wC, c1, c2, isiF, lenF, sumF, maxF, minF, max2F, min2F, absF, divF, listF, tupF, sortF, allF, anyF, addD, mulD, Bd.intD, intD0, isB, truW, gb, gbs, outs, gN, gi1, gsC, gsN, gT, gS, gSn, evL, takeL, wBL, th_lst, th_dct, th_tup, th_int, th_bl, th_str, th_non, th_opq, setD, ixD, slD, isD, wCallF, wLc, wiS, wiZ, wiE, wiR1, wiR2, wiR3, seqQ, solids, D.solid, ints_solid, ints_frz, frzs, D.frz, List.set_cons_zero, List.set_cons_succ, if_true, if_false, Bool.false_eq_true, true_and, and_true, ite_true, ite_false, List.cons_append, List.nil_append, wipeD, reduceIte, List.length_cons, List.length_nil, reduceCtorEq, tyN_bool, tyN_int, tyN_str, tyN_tuple, tyN_list, tyN_dict, tyS_non, tyS_bl, tyS_int, tyS_str, tyS_tup, tyS_lst, tyS_dct, isi_non_bool, isi_non_int, isi_non_str, isi_non_tuple, isi_non_list, isi_non_dict, isi_bl_bool, isi_bl_int, isi_bl_str, isi_bl_tuple, isi_bl_list, isi_bl_dict, isi_int_bool, isi_int_int, isi_int_str, isi_int_tuple, isi_int_list, isi_int_dict, isi_str_bool, isi_str_int, isi_str_str, isi_str_tuple, isi_str_list, isi_str_dict, isi_tup_bool, isi_tup_int, isi_tup_str, isi_tup_tuple, isi_tup_list, isi_tup_dict, isi_lst_bool, isi_lst_int, isi_lst_str, isi_lst_tuple, isi_lst_list, isi_lst_dict, isi_dct_bool, isi_dct_int, isi_dct_str, isi_dct_tuple, isi_dct_list, isi_dct_dict, List.length_map, Bool.not_true, Bool.not_false, eqD, neD, eqTx, neTx, dec_if, dec_ifn, Bool.not_not, at0, at1, at2, ix0, ix1, ix2, Bd.ints_map, Bd.bls_map, Option.some.injEq, exists_eq_left', memD_lst, memD_tup, memD_str, isIn_nil, isIn_cons, isIn_ints, scal_int, scal_str, scal_bl, scal_non, scals_nil, scals_cons, scals_ints, shp_l1i, shp_l2i, shp_l3i, shp_t1i, shp_t2i, shp_t3i, dec_or, dec_orf, Bool.and_self, shp_non, shp_bl, shp_int, shp_tints, shp_lints, shp_tnil, shp_lnil, eqd_int, eqd_str, eqd_bl, eqd_non, eqd_tints, eqd_lints, eqd_lnil, eqd_tnil, shp_lenc, shp_tenc, List.map_eq_nil_iff, hsol]
    by_cases l0 : (1 : Int) ≤ (xs.length : Nat)
    · rw [if_pos l0]
      by_cases l1 : ((xs.length : Nat) : Int) ≤ 10
      · rw [if_pos l1]
        unfold w_shared_2
        have hfr : frzs xs = xs := frzs_of_solid _ hsol
        simp only [wsR, wsX, wsA, wsI, wsN, wsRN, wsBk, wsCt, wsP, wsS, wsF, wsW, wAndV, wOrV, wNotV, wIf, wNeg, wCall, wBc, wBn, wCons, wNil, wTup, wLst, wOp, wCh, Bd.wT, wTr, wMn, wMe, wMe0, apF, popF, mtD, wPm, isTupD, cntF, ssF, lsF, wPA, wPC, reprF, wIxN, wLcN, wiZN, wsP3, wDct0, frzs_enc2, solids_enc2, solid_enc2, wBack, backD, intF, minPF, wAnd, wOr, Bd.wNot, wYes, wSl, wSo, wNo, wN_eq, wV_eq, wM_eq, getD0, getDs, nB_non, nB_bl, nB_int, nB_str, nB_opq, nB_own, nB_shr, nB_con, nB_down, nB_dshr, nB_dcon, nB_tup, nE_non, nE_bl, nE_int, nE_str, nE_opq, nE_own, nE_shr, nE_con, nE_down, nE_dshr, nE_dcon, nE_tup, nM_non, nM_bl, nM_int, nM_str, nM_opq, nM_own, nM_shr, nM_con, nM_down, nM_dshr, nM_dcon, nM_tup, wB, wC, c1, c2, isiF, lenF, sumF, maxF, minF, max2F, min2F, absF, divF, listF, tupF, sortF, allF, anyF, addD, mulD, Bd.intD, intD0, isB, truW, gb, gbs, outs, gN, gi1, gsC, gsN, gT, gS, gSn, evL, takeL, wBL, th_lst, th_dct, th_tup, th_int, th_bl, th_str, th_non, th_opq, setD, ixD, slD, isD, wCallF, wLc, wiS, wiZ, wiE, wiR1, wiR2, wiR3, seqQ, solids, D.solid, ints_solid, ints_frz, frzs, D.frz, List.set_cons_zero, List.set_cons_succ, if_true, if_false, Bool.false_eq_true, true_and, and_true, ite_true, ite_false, List.cons_append, List.nil_append, wipeD, reduceIte, List.length_cons, List.length_nil, reduceCtorEq, tyN_bool, tyN_int, tyN_str, tyN_tuple, tyN_list, tyN_dict, tyS_non, tyS_bl, tyS_int, tyS_str, tyS_tup, tyS_lst, tyS_dct, isi_non_bool, isi_non_int, isi_non_str, isi_non_tuple, isi_non_list, isi_non_dict, isi_bl_bool, isi_bl_int, isi_bl_str, isi_bl_tuple, isi_bl_list, isi_bl_dict, isi_int_bool, isi_int_int, isi_int_str, isi_int_tuple, isi_int_list, isi_int_dict, isi_str_bool, isi_str_int, isi_str_str, isi_str_tuple, isi_str_list, isi_str_dict, isi_tup_bool, isi_tup_int, isi_tup_str, isi_tup_tuple, isi_tup_list, isi_tup_dict, isi_lst_bool, isi_lst_int, isi_lst_str, isi_lst_tuple, isi_lst_list, isi_lst_dict, isi_dct_bool, isi_dct_int, isi_dct_str, isi_dct_tuple, isi_dct_list, isi_dct_dict, List.length_map, Bool.not_true, Bool.not_false, eqD, neD, eqTx, neTx, dec_if, dec_ifn, Bool.not_not, at0, at1, at2, ix0, ix1, ix2, Bd.ints_map, Bd.bls_map, Option.some.injEq, exists_eq_left', memD_lst, memD_tup, memD_str, isIn_nil, isIn_cons, isIn_ints, scal_int, scal_str, scal_bl, scal_non, scals_nil, scals_cons, scals_ints, shp_l1i, shp_l2i, shp_l3i, shp_t1i, shp_t2i, shp_t3i, dec_or, dec_orf, Bool.and_self, shp_non, shp_bl, shp_int, shp_tints, shp_lints, shp_tnil, shp_lnil, eqd_int, eqd_str, eqd_bl, eqd_non, eqd_tints, eqd_lints, eqd_lnil, eqd_tnil, shp_lenc, shp_tenc, List.map_eq_nil_iff, hsol, hfr]
        refine ⟨by simp [ones]; omega, ?_⟩
        refine lcL_map (fun its => match its with | [x] => .bl (isWhole x 0 1000) | _ => .gone) ?_ ?_
        · intro its hi K hK
          unfold ones at hi
          obtain ⟨x, hx', rfl⟩ := List.mem_map.mp hi
          have hb := hxb x hx'
          simp only [wsR, wsX, wsA, wsI, wsN, wsRN, wsBk, wsCt, wsP, wsS, wsF, wsW, wAndV, wOrV, wNotV, wIf, wNeg, wCall, wBc, wBn, wCons, wNil, wTup, wLst, wOp, wCh, Bd.wT, wTr, wMn, wMe, wMe0, apF, popF, mtD, wPm, isTupD, cntF, ssF, lsF, wPA, wPC, reprF, wIxN, wLcN, wiZN, wsP3, wDct0, frzs_enc2, solids_enc2, solid_enc2, wBack, backD, intF, minPF, wAnd, wOr, Bd.wNot, wYes, wSl, wSo, wNo, wN_eq, wV_eq, wM_eq, getD0, getDs, nB_non, nB_bl, nB_int, nB_str, nB_opq, nB_own, nB_shr, nB_con, nB_down, nB_dshr, nB_dcon, nB_tup, nE_non, nE_bl, nE_int, nE_str, nE_opq, nE_own, nE_shr, nE_con, nE_down, nE_dshr, nE_dcon, nE_tup, nM_non, nM_bl, nM_int, nM_str, nM_opq, nM_own, nM_shr, nM_con, nM_down, nM_dshr, nM_dcon, nM_tup, wB, wC, c1, c2, isiF, lenF, sumF, maxF, minF, max2F, min2F, absF, divF, listF, tupF, sortF, allF, anyF, addD, mulD, Bd.intD, intD0, isB, truW, gb, gbs, outs, gN, gi1, gsC, gsN, gT, gS, gSn, evL, takeL, wBL, th_lst, th_dct, th_tup, th_int, th_bl, th_str, th_non, th_opq, setD, ixD, slD, isD, wCallF, wLc, wiS, wiZ, wiE, wiR1, wiR2, wiR3, seqQ, solids, D.solid, ints_solid, ints_frz, frzs, D.frz, List.set_cons_zero, List.set_cons_succ, if_true, if_false, Bool.false_eq_true, true_and, and_true, ite_true, ite_false, List.cons_append, List.nil_append, wipeD, reduceIte, List.length_cons, List.length_nil, reduceCtorEq, tyN_bool, tyN_int, tyN_str, tyN_tuple, tyN_list, tyN_dict, tyS_non, tyS_bl, tyS_int, tyS_str, tyS_tup, tyS_lst, tyS_dct, isi_non_bool, isi_non_int, isi_non_str, isi_non_tuple, isi_non_list, isi_non_dict, isi_bl_bool, isi_bl_int, isi_bl_str, isi_bl_tuple, isi_bl_list, isi_bl_dict, isi_int_bool, isi_int_int, isi_int_str, isi_int_tuple, isi_int_list, isi_int_dict, isi_str_bool, isi_str_int, isi_str_str, isi_str_tuple, isi_str_list, isi_str_dict, isi_tup_bool, isi_tup_int, isi_tup_str, isi_tup_tuple, isi_tup_list, isi_tup_dict, isi_lst_bool, isi_lst_int, isi_lst_str, isi_lst_tuple, isi_lst_list, isi_lst_dict, isi_dct_bool, isi_dct_int, isi_dct_str, isi_dct_tuple, isi_dct_list, isi_dct_dict, List.length_map, Bool.not_true, Bool.not_false, eqD, neD, eqTx, neTx, dec_if, dec_ifn, Bool.not_not, at0, at1, at2, ix0, ix1, ix2, Bd.ints_map, Bd.bls_map, Option.some.injEq, exists_eq_left', memD_lst, memD_tup, memD_str, isIn_nil, isIn_cons, isIn_ints, scal_int, scal_str, scal_bl, scal_non, scals_nil, scals_cons, scals_ints, shp_l1i, shp_l2i, shp_l3i, shp_t1i, shp_t2i, shp_t3i, dec_or, dec_orf, Bool.and_self, shp_non, shp_bl, shp_int, shp_tints, shp_lints, shp_tnil, shp_lnil, eqd_int, eqd_str, eqd_bl, eqd_non, eqd_tints, eqd_lints, eqd_lnil, eqd_tnil, shp_lenc, shp_tenc, List.map_eq_nil_iff, nB_bad hb]
          refine ⟨_, _, _, rfl, hb.2, ?_⟩
          simp only [wsR, wsX, wsA, wsI, wsN, wsRN, wsBk, wsCt, wsP, wsS, wsF, wsW, wAndV, wOrV, wNotV, wIf, wNeg, wCall, wBc, wBn, wCons, wNil, wTup, wLst, wOp, wCh, Bd.wT, wTr, wMn, wMe, wMe0, apF, popF, mtD, wPm, isTupD, cntF, ssF, lsF, wPA, wPC, reprF, wIxN, wLcN, wiZN, wsP3, wDct0, frzs_enc2, solids_enc2, solid_enc2, wBack, backD, intF, minPF, wAnd, wOr, Bd.wNot, wYes, wSl, wSo, wNo, wN_eq, wV_eq, wM_eq, getD0, getDs, nB_non, nB_bl, nB_int, nB_str, nB_opq, nB_own, nB_shr, nB_con, nB_down, nB_dshr, nB_dcon, nB_tup, nE_non, nE_bl, nE_int, nE_str, nE_opq, nE_own, nE_shr, nE_con, nE_down, nE_dshr, nE_dcon, nE_tup, nM_non, nM_bl, nM_int, nM_str, nM_opq, nM_own, nM_shr, nM_con, nM_down, nM_dshr, nM_dcon, nM_tup, wB, wC, c1, c2, isiF, lenF, sumF, maxF, minF, max2F, min2F, absF, divF, listF, tupF, sortF, allF, anyF, addD, mulD, Bd.intD, intD0, isB, truW, gb, gbs, outs, gN, gi1, gsC, gsN, gT, gS, gSn, evL, takeL, wBL, th_lst, th_dct, th_tup, th_int, th_bl, th_str, th_non, th_opq, setD, ixD, slD, isD, wCallF, wLc, wiS, wiZ, wiE, wiR1, wiR2, wiR3, seqQ, solids, D.solid, ints_solid, ints_frz, frzs, D.frz, List.set_cons_zero, List.set_cons_succ, if_true, if_false, Bool.false_eq_true, true_and, and_true, ite_true, ite_false, List.cons_append, List.nil_append, wipeD, reduceIte, List.length_cons, List.length_nil, reduceCtorEq, tyN_bool, tyN_int, tyN_str, tyN_tuple, tyN_list, tyN_dict, tyS_non, tyS_bl, tyS_int, tyS_str, tyS_tup, tyS_lst, tyS_dct, isi_non_bool, isi_non_int, isi_non_str, isi_non_tuple, isi_non_list, isi_non_dict, isi_bl_bool, isi_bl_int, isi_bl_str, isi_bl_tuple, isi_bl_list, isi_bl_dict, isi_int_bool, isi_int_int, isi_int_str, isi_int_tuple, isi_int_list, isi_int_dict, isi_str_bool, isi_str_int, isi_str_str, isi_str_tuple, isi_str_list, isi_str_dict, isi_tup_bool, isi_tup_int, isi_tup_str, isi_tup_tuple, isi_tup_list, isi_tup_dict, isi_lst_bool, isi_lst_int, isi_lst_str, isi_lst_tuple, isi_lst_list, isi_lst_dict, isi_dct_bool, isi_dct_int, isi_dct_str, isi_dct_tuple, isi_dct_list, isi_dct_dict, List.length_map, Bool.not_true, Bool.not_false, eqD, neD, eqTx, neTx, dec_if, dec_ifn, Bool.not_not, at0, at1, at2, ix0, ix1, ix2, Bd.ints_map, Bd.bls_map, Option.some.injEq, exists_eq_left', memD_lst, memD_tup, memD_str, isIn_nil, isIn_cons, isIn_ints, scal_int, scal_str, scal_bl, scal_non, scals_nil, scals_cons, scals_ints, shp_l1i, shp_l2i, shp_l3i, shp_t1i, shp_t2i, shp_t3i, dec_or, dec_orf, Bool.and_self, shp_non, shp_bl, shp_int, shp_tints, shp_lints, shp_tnil, shp_lnil, eqd_int, eqd_str, eqd_bl, eqd_non, eqd_tints, eqd_lints, eqd_lnil, eqd_tnil, shp_lenc, shp_tenc, List.map_eq_nil_iff]
          exact hK
        have ef : List.map (fun its => match its with | [x] => D.bl (isWhole x 0 1000) | x => D.gone) (ones xs) = (xs.map fun x => isWhole x 0 1000).map D.bl := by
          unfold ones
          rw [List.map_map, List.map_map]; rfl
        rw [ef]
        simp only [wsR, wsX, wsA, wsI, wsN, wsRN, wsBk, wsCt, wsP, wsS, wsF, wsW, wAndV, wOrV, wNotV, wIf, wNeg, wCall, wBc, wBn, wCons, wNil, wTup, wLst, wOp, wCh, Bd.wT, wTr, wMn, wMe, wMe0, apF, popF, mtD, wPm, isTupD, cntF, ssF, lsF, wPA, wPC, reprF, wIxN, wLcN, wiZN, wsP3, wDct0, frzs_enc2, solids_enc2, solid_enc2, wBack, backD, intF, minPF, wAnd, wOr, Bd.wNot, wYes, wSl, wSo, wNo, wN_eq, wV_eq, wM_eq, getD0, getDs, nB_non, nB_bl, nB_int, nB_str, nB_opq, nB_own, nB_shr, nB_con, nB_down, nB_dshr, nB_dcon, nB_tup, nE_non, nE_bl, nE_int, nE_str, nE_opq, nE_own, nE_shr, nE_con, nE_down, nE_dshr, nE_dcon, nE_tup, nM_non, nM_bl, nM_int, nM_str, nM_opq, nM_own, nM_shr, nM_con, nM_down, nM_dshr, nM_dcon, nM_tup, wB, wC, c1, c2, isiF, lenF, sumF, maxF, minF, max2F, min2F, absF, divF, listF, tupF, sortF, allF, anyF, addD, mulD, Bd.intD, intD0, isB, truW, gb, gbs, outs, gN, gi1, gsC, gsN, gT, gS, gSn, evL, takeL, wBL, th_lst, th_dct, th_tup, th_int, th_bl, th_str, th_non, th_opq, setD, ixD, slD, isD, wCallF, wLc, wiS, wiZ, wiE, wiR1, wiR2, wiR3, seqQ, solids, D.solid, ints_solid, ints_frz, frzs, D.frz, List.set_cons_zero, List.set_cons_succ, if_true, if_false, Bool.false_eq_true, true_and, and_true, ite_true, ite_false, List.cons_append, List.nil_append, wipeD, reduceIte, List.length_cons, List.length_nil, reduceCtorEq, tyN_bool, tyN_int, tyN_str, tyN_tuple, tyN_list, tyN_dict, tyS_non, tyS_bl, tyS_int, tyS_str, tyS_tup, tyS_lst, tyS_dct, isi_non_bool, isi_non_int, isi_non_str, isi_non_tuple, isi_non_list, isi_non_dict, isi_bl_bool, isi_bl_int, isi_bl_str, isi_bl_tuple, isi_bl_list, isi_bl_dict, isi_int_bool, isi_int_int, isi_int_str, isi_int_tuple, isi_int_list, isi_int_dict, isi_str_bool, isi_str_int, isi_str_str, isi_str_tuple, isi_str_list, isi_str_dict, isi_tup_bool, isi_tup_int, isi_tup_str, isi_tup_tuple, isi_tup_list, isi_tup_dict, isi_lst_bool, isi_lst_int, isi_lst_str, isi_lst_tuple, isi_lst_list, isi_lst_dict, isi_dct_bool, isi_dct_int, isi_dct_str, isi_dct_tuple, isi_dct_list, isi_dct_dict, List.length_map, Bool.not_true, Bool.not_false, eqD, neD, eqTx, neTx, dec_if, dec_ifn, Bool.not_not, at0, at1, at2, ix0, ix1, ix2, Bd.ints_map, Bd.bls_map, Option.some.injEq, exists_eq_left', memD_lst, memD_tup, memD_str, isIn_nil, isIn_cons, isIn_ints, scal_int, scal_str, scal_bl, scal_non, scals_nil, scals_cons, scals_ints, shp_l1i, shp_l2i, shp_l3i, shp_t1i, shp_t2i, shp_t3i, dec_or, dec_orf, Bool.and_self, shp_non, shp_bl, shp_int, shp_tints, shp_lints, shp_tnil, shp_lnil, eqd_int, eqd_str, eqd_bl, eqd_non, eqd_tints, eqd_lints, eqd_lnil, eqd_tnil, shp_lenc, shp_tenc, List.map_eq_nil_iff]
        cases hall : (xs.map fun x => isWhole x 0 1000).all id with
        | false =>
          simp only [wsR, wsX, wsA, wsI, wsN, wsRN, wsBk, wsCt, wsP, wsS, wsF, wsW, wAndV, wOrV, wNotV, wIf, wNeg, wCall, wBc, wBn, wCons, wNil, wTup, wLst, wOp, wCh, Bd.wT, wTr, wMn, wMe, wMe0, apF, popF, mtD, wPm, isTupD, cntF, ssF, lsF, wPA, wPC, reprF, wIxN, wLcN, wiZN, wsP3, wDct0, frzs_enc2, solids_enc2, solid_enc2, wBack, backD, intF, minPF, wAnd, wOr, Bd.wNot, wYes, wSl, wSo, wNo, wN_eq, wV_eq, wM_eq, getD0, getDs, nB_non, nB_bl, nB_int, nB_str, nB_opq, nB_own, nB_shr, nB_con, nB_down, nB_dshr, nB_dcon, nB_tup, nE_non, nE_bl, nE_int, nE_str, nE_opq, nE_own, nE_shr, nE_con, nE_down, nE_dshr, nE_dcon, nE_tup, nM_non, nM_bl, nM_int, nM_str, nM_opq, nM_own, nM_shr, nM_con, nM_down, nM_dshr, nM_dcon, nM_tup, wB, wC, c1, c2, isiF, lenF, sumF, maxF, minF, max2F, min2F, absF, divF, listF, tupF, sortF, allF, anyF, addD, mulD, Bd.intD, intD0, isB, truW, gb, gbs, outs, gN, gi1, gsC, gsN, gT, gS, gSn, evL, takeL, wBL, th_lst, th_dct, th_tup, th_int, th_bl, th_str, th_non, th_opq, setD, ixD, slD, isD, wCallF, wLc, wiS, wiZ, wiE, wiR1, wiR2, wiR3, seqQ, solids, D.solid, ints_solid, ints_frz, frzs, D.frz, List.set_cons_zero, List.set_cons_succ, if_true, if_false, Bool.false_eq_true, true_and, and_true, ite_true, ite_false, List.cons_append, List.nil_append, wipeD, reduceIte, List.length_cons, List.length_nil, reduceCtorEq, tyN_bool, tyN_int, tyN_str, tyN_tuple, tyN_list, tyN_dict, tyS_non, tyS_bl, tyS_int, tyS_str, tyS_tup, tyS_lst, tyS_dct, isi_non_bool, isi_non_int, isi_non_str, isi_non_tuple, isi_non_list, isi_non_dict, isi_bl_bool, isi_bl_int, isi_bl_str, isi_bl_tuple, isi_bl_list, isi_bl_dict, isi_int_bool, isi_int_int, isi_int_str, isi_int_tuple, isi_int_list, isi_int_dict, isi_str_bool, isi_str_int, isi_str_str, isi_str_tuple, isi_str_list, isi_str_dict, isi_tup_bool, isi_tup_int, isi_tup_str, isi_tup_tuple, isi_tup_list, isi_tup_dict, isi_lst_bool, isi_lst_int, isi_lst_str, isi_lst_tuple, isi_lst_list, isi_lst_dict, isi_dct_bool, isi_dct_int, isi_dct_str, isi_dct_tuple, isi_dct_list, isi_dct_dict, List.length_map, Bool.not_true, Bool.not_false, eqD, neD, eqTx, neTx, dec_if, dec_ifn, Bool.not_not, at0, at1, at2, ix0, ix1, ix2, Bd.ints_map, Bd.bls_map, Option.some.injEq, exists_eq_left', memD_lst, memD_tup, memD_str, isIn_nil, isIn_cons, isIn_ints, scal_int, scal_str, scal_bl, scal_non, scals_nil, scals_cons, scals_ints, shp_l1i, shp_l2i, shp_l3i, shp_t1i, shp_t2i, shp_t3i, dec_or, dec_orf, Bool.and_self, shp_non, shp_bl, shp_int, shp_tints, shp_lints, shp_tnil, shp_lnil, eqd_int, eqd_str, eqd_bl, eqd_non, eqd_tints, eqd_lints, eqd_lnil, eqd_tnil, shp_lenc, shp_tenc, List.map_eq_nil_iff]
          unfold w_shared_3
          refine b1 (fun ps h1 h2 => ?_) _
          injection h1 with h1
          subst h1
          have : ((ps.map D.int).map fun x => isWhole x 0 1000).all id = true := by
            rw [List.all_eq_true]
            intro b hb
            rw [List.map_map] at hb
            obtain ⟨p, hp, rfl⟩ := List.mem_map.mp hb
            have := h2.2.2.1 p hp
            simp [isWhole, this.1, this.2]
          rw [this] at hall
          cases hall
        | true =>
          have hxs : ∀ x ∈ xs, isWhole x 0 1000 = true := fun x hx' => by
            rw [List.all_eq_true] at hall
            exact hall _ (List.mem_map.mpr ⟨x, hx', rfl⟩)
          obtain ⟨ps, rfl, hps⟩ := all_ints hxs
          rw [List.length_map] at l0 l1
          simp only [wsR, wsX, wsA, wsI, wsN, wsRN, wsBk, wsCt, wsP, wsS, wsF, wsW, wAndV, wOrV, wNotV, wIf, wNeg, wCall, wBc, wBn, wCons, wNil, wTup, wLst, wOp, wCh, Bd.wT, wTr, wMn, wMe, wMe0, apF, popF, mtD, wPm, isTupD, cntF, ssF, lsF, wPA, wPC, reprF, wIxN, wLcN, wiZN, wsP3, wDct0, frzs_enc2, solids_enc2, solid_enc2, wBack, backD, intF, minPF, wAnd, wOr, Bd.wNot, wYes, wSl, wSo, wNo, wN_eq, wV_eq, wM_eq, getD0, getDs, nB_non, nB_bl, nB_int, nB_str, nB_opq, nB_own, nB_shr, nB_con, nB_down, nB_dshr, nB_dcon, nB_tup, nE_non, nE_bl, nE_int, nE_str, nE_opq, nE_own, nE_shr, nE_con, nE_down, nE_dshr, nE_dcon, nE_tup, nM_non, nM_bl, nM_int, nM_str, nM_opq, nM_own, nM_shr, nM_con, nM_down, nM_dshr, nM_dcon, nM_tup, wB, wC, c1, c2, isiF, lenF, sumF, maxF, minF, max2F, min2F, absF, divF, listF, tupF, sortF, allF, anyF, addD, mulD, Bd.intD, intD0, isB, truW, gb, gbs, outs, gN, gi1, gsC, gsN, gT, gS, gSn, evL, takeL, wBL, th_lst, th_dct, th_tup, th_int, th_bl, th_str, th_non, th_opq, setD, ixD, slD, isD, wCallF, wLc, wiS, wiZ, wiE, wiR1, wiR2, wiR3, seqQ, solids, D.solid, ints_solid, ints_frz, frzs, D.frz, List.set_cons_zero, List.set_cons_succ, if_true, if_false, Bool.false_eq_true, true_and, and_true, ite_true, ite_false, List.cons_append, List.nil_append, wipeD, reduceIte, List.length_cons, List.length_nil, reduceCtorEq, tyN_bool, tyN_int, tyN_str, tyN_tuple, tyN_list, tyN_dict, tyS_non, tyS_bl, tyS_int, tyS_str, tyS_tup, tyS_lst, tyS_dct, isi_non_bool, isi_non_int, isi_non_str, isi_non_tuple, isi_non_list, isi_non_dict, isi_bl_bool, isi_bl_int, isi_bl_str, isi_bl_tuple, isi_bl_list, isi_bl_dict, isi_int_bool, isi_int_int, isi_int_str, isi_int_tuple, isi_int_list, isi_int_dict, isi_str_bool, isi_str_int, isi_str_str, isi_str_tuple, isi_str_list, isi_str_dict, isi_tup_bool, isi_tup_int, isi_tup_str, isi_tup_tuple, isi_tup_list, isi_tup_dict, isi_lst_bool, isi_lst_int, isi_lst_str, isi_lst_tuple, isi_lst_list, isi_lst_dict, isi_dct_bool, isi_dct_int, isi_dct_str, isi_dct_tuple, isi_dct_list, isi_dct_dict, List.length_map, Bool.not_true, Bool.not_false, eqD, neD, eqTx, neTx, dec_if, dec_ifn, Bool.not_not, at0, at1, at2, ix0, ix1, ix2, Bd.ints_map, Bd.bls_map, Option.some.injEq, exists_eq_left', memD_lst, memD_tup, memD_str, isIn_nil, isIn_cons, isIn_ints, scal_int, scal_str, scal_bl, scal_non, scals_nil, scals_cons, scals_ints, shp_l1i, shp_l2i, shp_l3i, shp_t1i, shp_t2i, shp_t3i, dec_or, dec_orf, Bool.and_self, shp_non, shp_bl, shp_int, shp_tints, shp_lints, shp_tnil, shp_lnil, eqd_int, eqd_str, eqd_bl, eqd_non, eqd_tints, eqd_lints, eqd_lnil, eqd_tnil, shp_lenc, shp_tenc, List.map_eq_nil_iff]
          by_cases hs : ps.sum = 0
          · rw [if_pos hs]
            unfold w_shared_3
            refine b1 (fun qs h1 h2 => ?_) _
            injection h1 with h1
            rw [← ints_inj h1] at h2
            exact h2.2.2.2 hs
          · rw [if_neg hs]
            have hf : frontsOk ps := ⟨by omega, by omega, hps, hs⟩
            unfold w_shared_4
            simp only [wsR, wsX, wsA, wsI, wsN, wsRN, wsBk, wsCt, wsP, wsS, wsF, wsW, wAndV, wOrV, wNotV, wIf, wNeg, wCall, wBc, wBn, wCons, wNil, wTup, wLst, wOp, wCh, Bd.wT, wTr, wMn, wMe, wMe0, apF, popF, mtD, wPm, isTupD, cntF, ssF, lsF, wPA, wPC, reprF, wIxN, wLcN, wiZN, wsP3, wDct0, frzs_enc2, solids_enc2, solid_enc2, wBack, backD, intF, minPF, wAnd, wOr, Bd.wNot, wYes, wSl, wSo, wNo, wN_eq, wV_eq, wM_eq, getD0, getDs, nB_non, nB_bl, nB_int, nB_str, nB_opq, nB_own, nB_shr, nB_con, nB_down, nB_dshr, nB_dcon, nB_tup, nE_non, nE_bl, nE_int, nE_str, nE_opq, nE_own, nE_shr, nE_con, nE_down, nE_dshr, nE_dcon, nE_tup, nM_non, nM_bl, nM_int, nM_str, nM_opq, nM_own, nM_shr, nM_con, nM_down, nM_dshr, nM_dcon, nM_tup, wB, wC, c1, c2, isiF, lenF, sumF, maxF, minF, max2F, min2F, absF, divF, listF, tupF, sortF, allF, anyF, addD, mulD, Bd.intD, intD0, isB, truW, gb, gbs, outs, gN, gi1, gsC, gsN, gT, gS, gSn, evL, takeL, wBL, th_lst, th_dct, th_tup, th_int, th_bl, th_str, th_non, th_opq, setD, ixD, slD, isD, wCallF, wLc, wiS, wiZ, wiE, wiR1, wiR2, wiR3, seqQ, solids, D.solid, ints_solid, ints_frz, frzs, D.frz, List.set_cons_zero, List.set_cons_succ, if_true, if_false, Bool.false_eq_true, true_and, and_true, ite_true, ite_false, List.cons_append, List.nil_append, wipeD, reduceIte, List.length_cons, List.length_nil, reduceCtorEq, tyN_bool, tyN_int, tyN_str, tyN_tuple, tyN_list, tyN_dict, tyS_non, tyS_bl, tyS_int, tyS_str, tyS_tup, tyS_lst, tyS_dct, isi_non_bool, isi_non_int, isi_non_str, isi_non_tuple, isi_non_list, isi_non_dict, isi_bl_bool, isi_bl_int, isi_bl_str, isi_bl_tuple, isi_bl_list, isi_bl_dict, isi_int_bool, isi_int_int, isi_int_str, isi_int_tuple, isi_int_list, isi_int_dict, isi_str_bool, isi_str_int, isi_str_str, isi_str_tuple, isi_str_list, isi_str_dict, isi_tup_bool, isi_tup_int, isi_tup_str, isi_tup_tuple, isi_tup_list, isi_tup_dict, isi_lst_bool, isi_lst_int, isi_lst_str, isi_lst_tuple, isi_lst_list, isi_lst_dict, isi_dct_bool, isi_dct_int, isi_dct_str, isi_dct_tuple, isi_dct_list, isi_dct_dict, List.length_map, Bool.not_true, Bool.not_false, eqD, neD, eqTx, neTx, dec_if, dec_ifn, Bool.not_not, at0, at1, at2, ix0, ix1, ix2, Bd.ints_map, Bd.bls_map, Option.some.injEq, exists_eq_left', memD_lst, memD_tup, memD_str, isIn_nil, isIn_cons, isIn_ints, scal_int, scal_str, scal_bl, scal_non, scals_nil, scals_cons, scals_ints, shp_l1i, shp_l2i, shp_l3i, shp_t1i, shp_t2i, shp_t3i, dec_or, dec_orf, Bool.and_self, shp_non, shp_bl, shp_int, shp_tints, shp_lints, shp_tnil, shp_lnil, eqd_int, eqd_str, eqd_bl, eqd_non, eqd_tints, eqd_lints, eqd_lnil, eqd_tnil, shp_lenc, shp_tenc, List.map_eq_nil_iff, nB_bad he]
            refine ⟨_, _, _, rfl, he.2, ?_⟩
            simp only [wsR, wsX, wsA, wsI, wsN, wsRN, wsBk, wsCt, wsP, wsS, wsF, wsW, wAndV, wOrV, wNotV, wIf, wNeg, wCall, wBc, wBn, wCons, wNil, wTup, wLst, wOp, wCh, Bd.wT, wTr, wMn, wMe, wMe0, apF, popF, mtD, wPm, isTupD, cntF, ssF, lsF, wPA, wPC, reprF, wIxN, wLcN, wiZN, wsP3, wDct0, frzs_enc2, solids_enc2, solid_enc2, wBack, backD, intF, minPF, wAnd, wOr, Bd.wNot, wYes, wSl, wSo, wNo, wN_eq, wV_eq, wM_eq, getD0, getDs, nB_non, nB_bl, nB_int, nB_str, nB_opq, nB_own, nB_shr, nB_con, nB_down, nB_dshr, nB_dcon, nB_tup, nE_non, nE_bl, nE_int, nE_str, nE_opq, nE_own, nE_shr, nE_con, nE_down, nE_dshr, nE_dcon, nE_tup, nM_non, nM_bl, nM_int, nM_str, nM_opq, nM_own, nM_shr, nM_con, nM_down, nM_dshr, nM_dcon, nM_tup, wB, wC, c1, c2, isiF, lenF, sumF, maxF, minF, max2F, min2F, absF, divF, listF, tupF, sortF, allF, anyF, addD, mulD, Bd.intD, intD0, isB, truW, gb, gbs, outs, gN, gi1, gsC, gsN, gT, gS, gSn, evL, takeL, wBL, th_lst, th_dct, th_tup, th_int, th_bl, th_str, th_non, th_opq, setD, ixD, slD, isD, wCallF, wLc, wiS, wiZ, wiE, wiR1, wiR2, wiR3, seqQ, solids, D.solid, ints_solid, ints_frz, frzs, D.frz, List.set_cons_zero, List.set_cons_succ, if_true, if_false, Bool.false_eq_true, true_and, and_true, ite_true, ite_false, List.cons_append, List.nil_append, wipeD, reduceIte, List.length_cons, List.length_nil, reduceCtorEq, tyN_bool, tyN_int, tyN_str, tyN_tuple, tyN_list, tyN_dict, tyS_non, tyS_bl, tyS_int, tyS_str, tyS_tup, tyS_lst, tyS_dct, isi_non_bool, isi_non_int, isi_non_str, isi_non_tuple, isi_non_list, isi_non_dict, isi_bl_bool, isi_bl_int, isi_bl_str, isi_bl_tuple, isi_bl_list, isi_bl_dict, isi_int_bool, isi_int_int, isi_int_str, isi_int_tuple, isi_int_list, isi_int_dict, isi_str_bool, isi_str_int, isi_str_str, isi_str_tuple, isi_str_list, isi_str_dict, isi_tup_bool, isi_tup_int, isi_tup_str, isi_tup_tuple, isi_tup_list, isi_tup_dict, isi_lst_bool, isi_lst_int, isi_lst_str, isi_lst_tuple, isi_lst_list, isi_lst_dict, isi_dct_bool, isi_dct_int, isi_dct_str, isi_dct_tuple, isi_dct_list, isi_dct_dict, List.length_map, Bool.not_true, Bool.not_false, eqD, neD, eqTx, neTx, dec_if, dec_ifn, Bool.not_not, at0, at1, at2, ix0, ix1, ix2, Bd.ints_map, Bd.bls_map, Option.some.injEq, exists_eq_left', memD_lst, memD_tup, memD_str, isIn_nil, isIn_cons, isIn_ints, scal_int, scal_str, scal_bl, scal_non, scals_nil, scals_cons, scals_ints, shp_l1i, shp_l2i, shp_l3i, shp_t1i, shp_t2i, shp_t3i, dec_or, dec_orf, Bool.and_self, shp_non, shp_bl, shp_int, shp_tints, shp_lints, shp_tnil, shp_lnil, eqd_int, eqd_str, eqd_bl, eqd_non, eqd_tints, eqd_lints, eqd_lnil, eqd_tnil, shp_lenc, shp_tenc, List.map_eq_nil_iff]
            cases hw : isWhole e 0 100000 with
            | false =>
              simp only [wsR, wsX, wsA, wsI, wsN, wsRN, wsBk, wsCt, wsP, wsS, wsF, wsW, wAndV, wOrV, wNotV, wIf, wNeg, wCall, wBc, wBn, wCons, wNil, wTup, wLst, wOp, wCh, Bd.wT, wTr, wMn, wMe, wMe0, apF, popF, mtD, wPm, isTupD, cntF, ssF, lsF, wPA, wPC, reprF, wIxN, wLcN, wiZN, wsP3, wDct0, frzs_enc2, solids_enc2, solid_enc2, wBack, backD, intF, minPF, wAnd, wOr, Bd.wNot, wYes, wSl, wSo, wNo, wN_eq, wV_eq, wM_eq, getD0, getDs, nB_non, nB_bl, nB_int, nB_str, nB_opq, nB_own, nB_shr, nB_con, nB_down, nB_dshr, nB_dcon, nB_tup, nE_non, nE_bl, nE_int, nE_str, nE_opq, nE_own, nE_shr, nE_con, nE_down, nE_dshr, nE_dcon, nE_tup, nM_non, nM_bl, nM_int, nM_str, nM_opq, nM_own, nM_shr, nM_con, nM_down, nM_dshr, nM_dcon, nM_tup, wB, wC, c1, c2, isiF, lenF, sumF, maxF, minF, max2F, min2F, absF, divF, listF, tupF, sortF, allF, anyF, addD, mulD, Bd.intD, intD0, isB, truW, gb, gbs, outs, gN, gi1, gsC, gsN, gT, gS, gSn, evL, takeL, wBL, th_lst, th_dct, th_tup, th_int, th_bl, th_str, th_non, th_opq, setD, ixD, slD, isD, wCallF, wLc, wiS, wiZ, wiE, wiR1, wiR2, wiR3, seqQ, solids, D.solid, ints_solid, ints_frz, frzs, D.frz, List.set_cons_zero, List.set_cons_succ, if_true, if_false, Bool.false_eq_true, true_and, and_true, ite_true, ite_false, List.cons_append, List.nil_append, wipeD, reduceIte, List.length_cons, List.length_nil, reduceCtorEq, tyN_bool, tyN_int, tyN_str, tyN_tuple, tyN_list, tyN_dict, tyS_non, tyS_bl, tyS_int, tyS_str, tyS_tup, tyS_lst, tyS_dct, isi_non_bool, isi_non_int, isi_non_str, isi_non_tuple, isi_non_list, isi_non_dict, isi_bl_bool, isi_bl_int, isi_bl_str, isi_bl_tuple, isi_bl_list, isi_bl_dict, isi_int_bool, isi_int_int, isi_int_str, isi_int_tuple, isi_int_list, isi_int_dict, isi_str_bool, isi_str_int, isi_str_str, isi_str_tuple, isi_str_list, isi_str_dict, isi_tup_bool, isi_tup_int, isi_tup_str, isi_tup_tuple, isi_tup_list, isi_tup_dict, isi_lst_bool, isi_lst_int, isi_lst_str, isi_lst_tuple, isi_lst_list, isi_lst_dict, isi_dct_bool, isi_dct_int, isi_dct_str, isi_dct_tuple, isi_dct_list, isi_dct_dict, List.length_map, Bool.not_true, Bool.not_false, eqD, neD, eqTx, neTx, dec_if, dec_ifn, Bool.not_not, at0, at1, at2, ix0, ix1, ix2, Bd.ints_map, Bd.bls_map, Option.some.injEq, exists_eq_left', memD_lst, memD_tup, memD_str, isIn_nil, isIn_cons, isIn_ints, scal_int, scal_str, scal_bl, scal_non, scals_nil, scals_cons, scals_ints, shp_l1i, shp_l2i, shp_l3i, shp_t1i, shp_t2i, shp_t3i, dec_or, dec_orf, Bool.and_self, shp_non, shp_bl, shp_int, shp_tints, shp_lints, shp_tnil, shp_lnil, eqd_int, eqd_str, eqd_bl, eqd_non, eqd_tints, eqd_lints, eqd_lnil, eqd_tnil, shp_lenc, shp_tenc, List.map_eq_nil_iff]
              unfold w_shared_5
              exact b2 ps rfl hf hw _
            | true =>
              obtain ⟨m, rfl, m0, m1⟩ := whole_int hw
              simp only [wsR, wsX, wsA, wsI, wsN, wsRN, wsBk, wsCt, wsP, wsS, wsF, wsW, wAndV, wOrV, wNotV, wIf, wNeg, wCall, wBc, wBn, wCons, wNil, wTup, wLst, wOp, wCh, Bd.wT, wTr, wMn, wMe, wMe0, apF, popF, mtD, wPm, isTupD, cntF, ssF, lsF, wPA, wPC, reprF, wIxN, wLcN, wiZN, wsP3, wDct0, frzs_enc2, solids_enc2, solid_enc2, wBack, backD, intF, minPF, wAnd, wOr, Bd.wNot, wYes, wSl, wSo, wNo, wN_eq, wV_eq, wM_eq, getD0, getDs, nB_non, nB_bl, nB_int, nB_str, nB_opq, nB_own, nB_shr, nB_con, nB_down, nB_dshr, nB_dcon, nB_tup, nE_non, nE_bl, nE_int, nE_str, nE_opq, nE_own, nE_shr, nE_con, nE_down, nE_dshr, nE_dcon, nE_tup, nM_non, nM_bl, nM_int, nM_str, nM_opq, nM_own, nM_shr, nM_con, nM_down, nM_dshr, nM_dcon, nM_tup, wB, wC, c1, c2, isiF, lenF, sumF, maxF, minF, max2F, min2F, absF, divF, listF, tupF, sortF, allF, anyF, addD, mulD, Bd.intD, intD0, isB, truW, gb, gbs, outs, gN, gi1, gsC, gsN, gT, gS, gSn, evL, takeL, wBL, th_lst, th_dct, th_tup, th_int, th_bl, th_str, th_non, th_opq, setD, ixD, slD, isD, wCallF, wLc, wiS, wiZ, wiE, wiR1, wiR2, wiR3, seqQ, solids, D.solid, ints_solid, ints_frz, frzs, D.frz, List.set_cons_zero, List.set_cons_succ, if_true, if_false, Bool.false_eq_true, true_and, and_true, ite_true, ite_false, List.cons_append, List.nil_append, wipeD, reduceIte, List.length_cons, List.length_nil, reduceCtorEq, tyN_bool, tyN_int, tyN_str, tyN_tuple, tyN_list, tyN_dict, tyS_non, tyS_bl, tyS_int, tyS_str, tyS_tup, tyS_lst, tyS_dct, isi_non_bool, isi_non_int, isi_non_str, isi_non_tuple, isi_non_list, isi_non_dict, isi_bl_bool, isi_bl_int, isi_bl_str, isi_bl_tuple, isi_bl_list, isi_bl_dict, isi_int_bool, isi_int_int, isi_int_str, isi_int_tuple, isi_int_list, isi_int_dict, isi_str_bool, isi_str_int, isi_str_str, isi_str_tuple, isi_str_list, isi_str_dict, isi_tup_bool, isi_tup_int, isi_tup_str, isi_tup_tuple, isi_tup_list, isi_tup_dict, isi_lst_bool, isi_lst_int, isi_lst_str, isi_lst_tuple, isi_lst_list, isi_lst_dict, isi_dct_bool, isi_dct_int, isi_dct_str, isi_dct_tuple, isi_dct_list, isi_dct_dict, List.length_map, Bool.not_true, Bool.not_false, eqD, neD, eqTx, neTx, dec_if, dec_ifn, Bool.not_not, at0, at1, at2, ix0, ix1, ix2, Bd.ints_map, Bd.bls_map, Option.some.injEq, exists_eq_left', memD_lst, memD_tup, memD_str, isIn_nil, isIn_cons, isIn_ints, scal_int, scal_str, scal_bl, scal_non, scals_nil, scals_cons, scals_ints, shp_l1i, shp_l2i, shp_l3i, shp_t1i, shp_t2i, shp_t3i, dec_or, dec_orf, Bool.and_self, shp_non, shp_bl, shp_int, shp_tints, shp_lints, shp_tnil, shp_lnil, eqd_int, eqd_str, eqd_bl, eqd_non, eqd_tints, eqd_lints, eqd_lnil, eqd_tnil, shp_lenc, shp_tenc, List.map_eq_nil_iff]
              unfold w_shared_6
              simp only [wsR, wsX, wsA, wsI, wsN, wsRN, wsBk, wsCt, wsP, wsS, wsF, wsW, wAndV, wOrV, wNotV, wIf, wNeg, wCall, wBc, wBn, wCons, wNil, wTup, wLst, wOp, wCh, Bd.wT, wTr, wMn, wMe, wMe0, apF, popF, mtD, wPm, isTupD, cntF, ssF, lsF, wPA, wPC, reprF, wIxN, wLcN, wiZN, wsP3, wDct0, frzs_enc2, solids_enc2, solid_enc2, wBack, backD, intF, minPF, wAnd, wOr, Bd.wNot, wYes, wSl, wSo, wNo, wN_eq, wV_eq, wM_eq, getD0, getDs, nB_non, nB_bl, nB_int, nB_str, nB_opq, nB_own, nB_shr, nB_con, nB_down, nB_dshr, nB_dcon, nB_tup, nE_non, nE_bl, nE_int, nE_str, nE_opq, nE_own, nE_shr, nE_con, nE_down, nE_dshr, nE_dcon, nE_tup, nM_non, nM_bl, nM_int, nM_str, nM_opq, nM_own, nM_shr, nM_con, nM_down, nM_dshr, nM_dcon, nM_tup, wB, wC, c1, c2, isiF, lenF, sumF, maxF, minF, max2F, min2F, absF, divF, listF, tupF, sortF, allF, anyF, addD, mulD, Bd.intD, intD0, isB, truW, gb, gbs, outs, gN, gi1, gsC, gsN, gT, gS, gSn, evL, takeL, wBL, th_lst, th_dct, th_tup, th_int, th_bl, th_str, th_non, th_opq, setD, ixD, slD, isD, wCallF, wLc, wiS, wiZ, wiE, wiR1, wiR2, wiR3, seqQ, solids, D.solid, ints_solid, ints_frz, frzs, D.frz, List.set_cons_zero, List.set_cons_succ, if_true, if_false, Bool.false_eq_true, true_and, and_true, ite_true, ite_false, List.cons_append, List.nil_append, wipeD, reduceIte, List.length_cons, List.length_nil, reduceCtorEq, tyN_bool, tyN_int, tyN_str, tyN_tuple, tyN_list, tyN_dict, tyS_non, tyS_bl, tyS_int, tyS_str, tyS_tup, tyS_lst, tyS_dct, isi_non_bool, isi_non_int, isi_non_str, isi_non_tuple, isi_non_list, isi_non_dict, isi_bl_bool, isi_bl_int, isi_bl_str, isi_bl_tuple, isi_bl_list, isi_bl_dict, isi_int_bool, isi_int_int, isi_int_str, isi_int_tuple, isi_int_list, isi_int_dict, isi_str_bool, isi_str_int, isi_str_str, isi_str_tuple, isi_str_list, isi_str_dict, isi_tup_bool, isi_tup_int, isi_tup_str, isi_tup_tuple, isi_tup_list, isi_tup_dict, isi_lst_bool, isi_lst_int, isi_lst_str, isi_lst_tuple, isi_lst_list, isi_lst_dict, isi_dct_bool, isi_dct_int, isi_dct_str, isi_dct_tuple, isi_dct_list, isi_dct_dict, List.length_map, Bool.not_true, Bool.not_false, eqD, neD, eqTx, neTx, dec_if, dec_ifn, Bool.not_not, at0, at1, at2, ix0, ix1, ix2, Bd.ints_map, Bd.bls_map, Option.some.injEq, exists_eq_left', memD_lst, memD_tup, memD_str, isIn_nil, isIn_cons, isIn_ints, scal_int, scal_str, scal_bl, scal_non, scals_nil, scals_cons, scals_ints, shp_l1i, shp_l2i, shp_l3i, shp_t1i, shp_t2i, shp_t3i, dec_or, dec_orf, Bool.and_self, shp_non, shp_bl, shp_int, shp_tints, shp_lints, shp_tnil, shp_lnil, eqd_int, eqd_str, eqd_bl, eqd_non, eqd_tints, eqd_lints, eqd_lnil, eqd_tnil, shp_lenc, shp_tenc, List.map_eq_nil_iff]
              refine ⟨ps, m, rfl, hf, m0, m1, ?_⟩
              simp only [wsR, wsX, wsA, wsI, wsN, wsRN, wsBk, wsCt, wsP, wsS, wsF, wsW, wAndV, wOrV, wNotV, wIf, wNeg, wCall, wBc, wBn, wCons, wNil, wTup, wLst, wOp, wCh, Bd.wT, wTr, wMn, wMe, wMe0, apF, popF, mtD, wPm, isTupD, cntF, ssF, lsF, wPA, wPC, reprF, wIxN, wLcN, wiZN, wsP3, wDct0, frzs_enc2, solids_enc2, solid_enc2, wBack, backD, intF, minPF, wAnd, wOr, Bd.wNot, wYes, wSl, wSo, wNo, wN_eq, wV_eq, wM_eq, getD0, getDs, nB_non, nB_bl, nB_int, nB_str, nB_opq, nB_own, nB_shr, nB_con, nB_down, nB_dshr, nB_dcon, nB_tup, nE_non, nE_bl, nE_int, nE_str, nE_opq, nE_own, nE_shr, nE_con, nE_down, nE_dshr, nE_dcon, nE_tup, nM_non, nM_bl, nM_int, nM_str, nM_opq, nM_own, nM_shr, nM_con, nM_down, nM_dshr, nM_dcon, nM_tup, wB, wC, c1, c2, isiF, lenF, sumF, maxF, minF, max2F, min2F, absF, divF, listF, tupF, sortF, allF, anyF, addD, mulD, Bd.intD, intD0, isB, truW, gb, gbs, outs, gN, gi1, gsC, gsN, gT, gS, gSn, evL, takeL, wBL, th_lst, th_dct, th_tup, th_int, th_bl, th_str, th_non, th_opq, setD, ixD, slD, isD, wCallF, wLc, wiS, wiZ, wiE, wiR1, wiR2, wiR3, seqQ, solids, D.solid, ints_solid, ints_frz, frzs, D.frz, List.set_cons_zero, List.set_cons_succ, if_true, if_false, Bool.false_eq_true, true_and, and_true, ite_true, ite_false, List.cons_append, List.nil_append, wipeD, reduceIte, List.length_cons, List.length_nil, reduceCtorEq, tyN_bool, tyN_int, tyN_str, tyN_tuple, tyN_list, tyN_dict, tyS_non, tyS_bl, tyS_int, tyS_str, tyS_tup, tyS_lst, tyS_dct, isi_non_bool, isi_non_int, isi_non_str, isi_non_tuple, isi_non_list, isi_non_dict, isi_bl_bool, isi_bl_int, isi_bl_str, isi_bl_tuple, isi_bl_list, isi_bl_dict, isi_int_bool, isi_int_int, isi_int_str, isi_int_tuple, isi_int_list, isi_int_dict, isi_str_bool, isi_str_int, isi_str_str, isi_str_tuple, isi_str_list, isi_str_dict, isi_tup_bool, isi_tup_int, isi_tup_str, isi_tup_tuple, isi_tup_list, isi_tup_dict, isi_lst_bool, isi_lst_int, isi_lst_str, isi_lst_tuple, isi_lst_list, isi_lst_dict, isi_dct_bool, isi_dct_int, isi_dct_str, isi_dct_tuple, isi_dct_list, isi_dct_dict, List.length_map, Bool.not_true, Bool.not_false, eqD, neD, eqTx, neTx, dec_if, dec_ifn, Bool.not_not, at0, at1, at2, ix0, ix1, ix2, Bd.ints_map, Bd.bls_map, Option.some.injEq, exists_eq_left', memD_lst, memD_tup, memD_str, isIn_nil, isIn_cons, isIn_ints, scal_int, scal_str, scal_bl, scal_non, scals_nil, scals_cons, scals_ints, shp_l1i, shp_l2i, shp_l3i, shp_t1i, shp_t2i, shp_t3i, dec_or, dec_orf, Bool.and_self, shp_non, shp_bl, shp_int, shp_tints, shp_lints, shp_tnil, shp_lnil, eqd_int, eqd_str, eqd_bl, eqd_non, eqd_tints, eqd_lints, eqd_lnil, eqd_tnil, shp_lenc, shp_tenc, List.map_eq_nil_iff]
              exact hgo ps m rfl hf rfl m0 m1
      · rw [if_neg l1]
        unfold w_shared_1
        exact b1 (fun ps h1 h2 => by
          injection h1 with h1
          have := h2.2.1
          rw [h1, List.length_map] at l1
          omega) _
    · rw [if_neg l0]
      unfold w_shared_1
      exact b1 (fun ps h1 h2 => by
          injection h1 with h1
          have := h2.1
          rw [h1, List.length_map] at l0
          omega) _
  | gone => cases hd.2
  | opq => cases hd.2
  | lst m es => 
    cases m
    · cases hd.1
    all_goals
      simp only [wsR, wsX, wsA, wsI, wsN, wsRN, wsBk, wsCt, wsP, wsS, wsF, wsW, wAndV, wOrV, wNotV, wIf, wNeg, wCall, wBc, wBn, wCons, wNil, wTup, wLst, wOp, wCh, Bd.wT, wTr, wMn, wMe, wMe0, apF, popF, mtD, wPm, isTupD, cntF, ssF, lsF, wPA, wPC, reprF, wIxN, wLcN, wiZN, wsP3, wDct0, frzs_enc2, solids_enc2, solid_enc2, wBack, backD, intF, minPF, wAnd, wOr, Bd.wNot, wYes, wSl, wSo, wNo, wN_eq, wV_eq, wM_eq, getD0, getDs, nB_non, nB_bl, nB_int, nB_str, nB_opq, nB_own, nB_shr, nB_con, nB_down, nB_dshr, nB_dcon, nB_tup, nE_non, nE_bl, nE_int, nE_str, nE_opq, nE_own, nE_shr, nE_con, nE_down, nE_dshr, nE_dcon, nE_tup, nM_non, nM_bl, nM_int, nM_str, nM_opq, nM_own, nM_shr, nM_con, nM_down, nM_dshr, nM_dcon, nM_tup, wB, wC, c1, c2, isiF, lenF, sumF, maxF, minF, max2F, min2F, absF, divF, listF, tupF, sortF, allF, anyF, addD, mulD, Bd.intD, intD0, isB, truW, gb, gbs, outs, gN, gi1, gsC, gsN, gT, gS, gSn, evL, takeL, wBL, th_lst, th_dct, th_tup, th_int, th_bl, th_str, th_non, th_opq, setD, ixD, slD, isD, wCallF, wLc, wiS, wiZ, wiE, wiR1, wiR2, wiR3, seqQ, solids, D.solid, ints_solid, ints_frz, frzs, D.frz, List.set_cons_zero, List.set_cons_succ, if_true, if_false, Bool.false_eq_true, true_and, and_true, ite_true, ite_false, List.cons_append, List.nil_append, wipeD, reduceIte, List.length_cons, List.length_nil, reduceCtorEq, tyN_bool, tyN_int, tyN_str, tyN_tuple, tyN_list, tyN_dict, tyS_non, tyS_bl, tyS_int, tyS_str, tyS_tup, tyS_lst, tyS_dct, isi_non_bool, isi_non_int, isi_non_str, isi_non_tuple, isi_non_list, isi_non_dict, isi_bl_bool, isi_bl_int, isi_bl_str, isi_bl_tuple, isi_bl_list, isi_bl_dict, isi_int_bool, isi_int_int, isi_int_str, isi_int_tuple, isi_int_list, isi_int_dict, isi_str_bool, isi_str_int, isi_str_str, isi_str_tuple, isi_str_list, isi_str_dict, isi_tup_bool, isi_tup_int, isi_tup_str, isi_tup_tuple, isi_tup_list, isi_tup_dict, isi_lst_bool, isi_lst_int, isi_lst_str, isi_lst_tuple, isi_lst_list, isi_lst_dict, isi_dct_bool, isi_dct_int, isi_dct_str, isi_dct_tuple, isi_dct_list, isi_dct_dict, List.length_map, Bool.not_true, Bool.not_false, eqD, neD, eqTx, neTx, dec_if, dec_ifn, Bool.not_not, at0, at1, at2, ix0, ix1, ix2, Bd.ints_map, Bd.bls_map, Option.some.injEq, exists_eq_left', memD_lst, memD_tup, memD_str, isIn_nil, isIn_cons, isIn_ints, scal_int, scal_str, scal_bl, scal_non, scals_nil, scals_cons, scals_ints, shp_l1i, shp_l2i, shp_l3i, shp_t1i, shp_t2i, shp_t3i, dec_or, dec_orf, Bool.and_self, shp_non, shp_bl, shp_int, shp_tints, shp_lints, shp_tnil, shp_lnil, eqd_int, eqd_str, eqd_bl, eqd_non, eqd_tints, eqd_lints, eqd_lnil, eqd_tnil, shp_lenc, shp_tenc, List.map_eq_nil_iff]
      unfold w_shared_1
      exact b1 (fun ps h1 => by cases h1) _
  | dct m ks es => 
    cases m
    · cases hd.1
    all_goals
      simp only [wsR, wsX, wsA, wsI, wsN, wsRN, wsBk, wsCt, wsP, wsS, wsF, wsW, wAndV, wOrV, wNotV, wIf, wNeg, wCall, wBc, wBn, wCons, wNil, wTup, wLst, wOp, wCh, Bd.wT, wTr, wMn, wMe, wMe0, apF, popF, mtD, wPm, isTupD, cntF, ssF, lsF, wPA, wPC, reprF, wIxN, wLcN, wiZN, wsP3, wDct0, frzs_enc2, solids_enc2, solid_enc2, wBack, backD, intF, minPF, wAnd, wOr, Bd.wNot, wYes, wSl, wSo, wNo, wN_eq, wV_eq, wM_eq, getD0, getDs, nB_non, nB_bl, nB_int, nB_str, nB_opq, nB_own, nB_shr, nB_con, nB_down, nB_dshr, nB_dcon, nB_tup, nE_non, nE_bl, nE_int, nE_str, nE_opq, nE_own, nE_shr, nE_con, nE_down, nE_dshr, nE_dcon, nE_tup, nM_non, nM_bl, nM_int, nM_str, nM_opq, nM_own, nM_shr, nM_con, nM_down, nM_dshr, nM_dcon, nM_tup, wB, wC, c1, c2, isiF, lenF, sumF, maxF, minF, max2F, min2F, absF, divF, listF, tupF, sortF, allF, anyF, addD, mulD, Bd.intD, intD0, isB, truW, gb, gbs, outs, gN, gi1, gsC, gsN, gT, gS, gSn, evL, takeL, wBL, th_lst, th_dct, th_tup, th_int, th_bl, th_str, th_non, th_opq, setD, ixD, slD, isD, wCallF, wLc, wiS, wiZ, wiE, wiR1, wiR2, wiR3, seqQ, solids, D.solid, ints_solid, ints_frz, frzs, D.frz, List.set_cons_zero, List.set_cons_succ, if_true, if_false, Bool.false_eq_true, true_and, and_true, ite_true, ite_false, List.cons_append, List.nil_append, wipeD, reduceIte, List.length_cons, List.length_nil, reduceCtorEq, tyN_bool, tyN_int, tyN_str, tyN_tuple, tyN_list, tyN_dict, tyS_non, tyS_bl, tyS_int, tyS_str, tyS_tup, tyS_lst, tyS_dct, isi_non_bool, isi_non_int, isi_non_str, isi_non_tuple, isi_non_list, isi_non_dict, isi_bl_bool, isi_bl_int, isi_bl_str, isi_bl_tuple, isi_bl_list, isi_bl_dict, isi_int_bool, isi_int_int, isi_int_str, isi_int_tuple, isi_int_list, isi_int_dict, isi_str_bool, isi_str_int, isi_str_str, isi_str_tuple, isi_str_list, isi_str_dict, isi_tup_bool, isi_tup_int, isi_tup_str, isi_tup_tuple, isi_tup_list, isi_tup_dict, isi_lst_bool, isi_lst_int, isi_lst_str, isi_lst_tuple, isi_lst_list, isi_lst_dict, isi_dct_bool, isi_dct_int, isi_dct_str, isi_dct_tuple, isi_dct_list, isi_dct_dict, List.length_map, Bool.not_true, Bool.not_false, eqD, neD, eqTx, neTx, dec_if, dec_ifn, Bool.not_not, at0, at1, at2, ix0, ix1, ix2, Bd.ints_map, Bd.bls_map, Option.some.injEq, exists_eq_left', memD_lst, memD_tup, memD_str, isIn_nil, isIn_cons, isIn_ints, scal_int, scal_str, scal_bl, scal_non, scals_nil, scals_cons, scals_ints, shp_l1i, shp_l2i, shp_l3i, shp_t1i, shp_t2i, shp_t3i, dec_or, dec_orf, Bool.and_self, shp_non, shp_bl, shp_int, shp_tints, shp_lints, shp_tnil, shp_lnil, eqd_int, eqd_str, eqd_bl, eqd_non, eqd_tints, eqd_lints, eqd_lnil, eqd_tnil, shp_lenc, shp_tenc, List.map_eq_nil_iff]
      unfold w_shared_1
      exact b1 (fun ps h1 => by cases h1) _
  | _ =>
    simp only [wsR, wsX, wsA, wsI, wsN, wsRN, wsBk, wsCt, wsP, wsS, wsF, wsW, wAndV, wOrV, wNotV, wIf, wNeg, wCall, wBc, wBn, wCons, wNil, wTup, wLst, wOp, wCh, Bd.wT, wTr, wMn, wMe, wMe0, apF, popF, mtD, wPm, isTupD, cntF, ssF, lsF, wPA, wPC, reprF, wIxN, wLcN, wiZN, wsP3, wDct0, frzs_enc2, solids_enc2, solid_enc2, wBack, backD, intF, minPF, wAnd, wOr, Bd.wNot, wYes, wSl, wSo, wNo, wN_eq, wV_eq, wM_eq, getD0, getDs, nB_non, nB_bl, nB_int, nB_str, nB_opq, nB_own, nB_shr, nB_con, nB_down, nB_dshr, nB_dcon, nB_tup, nE_non, nE_bl, nE_int, nE_str, nE_opq, nE_own, nE_shr, nE_con, nE_down, nE_dshr, nE_dcon, nE_tup, nM_non, nM_bl, nM_int, nM_str, nM_opq, nM_own, nM_shr, nM_con, nM_down, nM_dshr, nM_dcon, nM_tup, wB, wC, c1, c2, isiF, lenF, sumF, maxF, minF, max2F, min2F, absF, divF, listF, tupF, sortF, allF, anyF, addD, mulD, Bd.intD, intD0, isB, truW, gb, gbs, outs, gN, gi1, gsC, gsN, gT, gS, gSn, evL, takeL, wBL, th_lst, th_dct, th_tup, th_int, th_bl, th_str, th_non, th_opq, setD, ixD, slD, isD, wCallF, wLc, wiS, wiZ, wiE, wiR1, wiR2, wiR3, seqQ, solids, D.solid, ints_solid, ints_frz, frzs, D.frz, List.set_cons_zero, List.set_cons_succ, if_true, if_false, Bool.false_eq_true, true_and, and_true, ite_true, ite_false, List.cons_append, List.nil_append, wipeD, reduceIte, List.length_cons, List.length_nil, reduceCtorEq, tyN_bool, tyN_int, tyN_str, tyN_tuple, tyN_list, tyN_dict, tyS_non, tyS_bl, tyS_int, tyS_str, tyS_tup, tyS_lst, tyS_dct, isi_non_bool, isi_non_int, isi_non_str, isi_non_tuple, isi_non_list, isi_non_dict, isi_bl_bool, isi_bl_int, isi_bl_str, isi_bl_tuple, isi_bl_list, isi_bl_dict, isi_int_bool, isi_int_int, isi_int_str, isi_int_tuple, isi_int_list, isi_int_dict, isi_str_bool, isi_str_int, isi_str_str, isi_str_tuple, isi_str_list, isi_str_dict, isi_tup_bool, isi_tup_int, isi_tup_str, isi_tup_tuple, isi_tup_list, isi_tup_dict, isi_lst_bool, isi_lst_int, isi_lst_str, isi_lst_tuple, isi_lst_list, isi_lst_dict, isi_dct_bool, isi_dct_int, isi_dct_str, isi_dct_tuple, isi_dct_list, isi_dct_dict, List.length_map, Bool.not_true, Bool.not_false, eqD, neD, eqTx, neTx, dec_if, dec_ifn, Bool.not_not, at0, at1, at2, ix0, ix1, ix2, Bd.ints_map, Bd.bls_map, Option.some.injEq, exists_eq_left', memD_lst, memD_tup, memD_str, isIn_nil, isIn_cons, isIn_ints, scal_int, scal_str, scal_bl, scal_non, scals_nil, scals_cons, scals_ints, shp_l1i, shp_l2i, shp_l3i, shp_t1i, shp_t2i, shp_t3i, dec_or, dec_orf, Bool.and_self, shp_non, shp_bl, shp_int, shp_tints, shp_lints, shp_tnil, shp_lnil, eqd_int, eqd_str, eqd_bl, eqd_non, eqd_tints, eqd_lints, eqd_lnil, eqd_tnil, shp_lenc, shp_tenc, List.map_eq_nil_iff]
    unfold w_shared_1
    exact b1 (fun ps h1 => by cases h1) _
end K07

namespace K07
open PySem PySem.Spec PyProof.Rows L2 Bd
/-- the classes asked, of which one is that in hand -/
def bits (c : Str) : List Bool := ys_law_kind.map fun y => decide (c = y)
def words : List Str := ["field", "cell", "cells", "number", "fronts", "standing", "change", "changes", "day", "pace", "spans", "case", "telling", "mark", "text", "line", "there", "gone", "nothing", "many"]
theorem shp_lbl {m : M} {bs : List Bool} : shp (.lst m (bs.map D.bl)) = True := eq_true (shp_of (n := 1) (okP_lst fun d hd => by
  obtain ⟨b, _, rfl⟩ := List.mem_map.mp hd
  exact okP_bl) (by decide))
theorem get1 {a b : D} {l : List D} : (a :: b :: l)[1]? = some b := rfl
theorem cnt_bl (bs : List Bool) : (bs.map D.bl).countP (fun z => eqd z (.bl true)) = bs.countP id := by
  rw [List.countP_map]
  congr 1
  funext b
  simp [eqd_bl]
theorem atI_nat {ds : List D} {j : Nat} (h : j < ds.length) : atI ds (j : Int) = ds[j]? := by
  unfold atI
  rw [ix_nat (by omega) (by omega)]
  simp
theorem kind_tells {c t : Str} {j : Nat} (h1 : (bits c).countP id = 1) (h2 : (bits c)[j]? = some true) (h3 : ∀ i, i < j → (bits c)[i]? = some false) (h4 : words[j]? = some t) (a' : Addr) (R : D → List D → Prop) (hR : ∀ r, R (.str t) r) : w_law_kind c a' { nx := fun _ => False, rt := R } [.gone, .opq (.ref a'), .gone, .gone] := by
  have big : (100 : Nat) ≤ sizeLine := by decide
  unfold w_law_kind w_law_kind_0
  simp only [wsR, wsX, wsA, wsI, wsN, wsRN, wsBk, wsCt, wsP, wsS, wsF, wsW, wAndV, wOrV, wNotV, wIf, wNeg, wCall, wBc, wBn, wCons, wNil, wTup, wLst, wOp, wCh, Bd.wT, wTr, wMn, wMe, wMe0, apF, popF, mtD, wPm, isTupD, cntF, ssF, lsF, wPA, wPC, reprF, wIxN, wLcN, wiZN, wsP3, wDct0, frzs_enc2, solids_enc2, solid_enc2, wBack, backD, intF, minPF, wAnd, wOr, Bd.wNot, wYes, wSl, wSo, wNo, wN_eq, wV_eq, wM_eq, getD0, getDs, nB_non, nB_bl, nB_int, nB_str, nB_opq, nB_own, nB_shr, nB_con, nB_down, nB_dshr, nB_dcon, nB_tup, nE_non, nE_bl, nE_int, nE_str, nE_opq, nE_own, nE_shr, nE_con, nE_down, nE_dshr, nE_dcon, nE_tup, nM_non, nM_bl, nM_int, nM_str, nM_opq, nM_own, nM_shr, nM_con, nM_down, nM_dshr, nM_dcon, nM_tup, wB, wC, c1, c2, isiF, lenF, sumF, maxF, minF, max2F, min2F, absF, divF, listF, tupF, sortF, allF, anyF, addD, mulD, Bd.intD, intD0, isB, truW, gb, gbs, outs, gN, gi1, gsC, gsN, gT, gS, gSn, evL, takeL, wBL, th_lst, th_dct, th_tup, th_int, th_bl, th_str, th_non, th_opq, setD, ixD, slD, isD, wCallF, wLc, wiS, wiZ, wiE, wiR1, wiR2, wiR3, seqQ, solids, D.solid, ints_solid, ints_frz, frzs, D.frz, List.set_cons_zero, List.set_cons_succ, if_true, if_false, Bool.false_eq_true, true_and, and_true, ite_true, ite_false, List.cons_append, List.nil_append, wipeD, reduceIte, List.length_cons, List.length_nil, reduceCtorEq, tyN_bool, tyN_int, tyN_str, tyN_tuple, tyN_list, tyN_dict, tyS_non, tyS_bl, tyS_int, tyS_str, tyS_tup, tyS_lst, tyS_dct, isi_non_bool, isi_non_int, isi_non_str, isi_non_tuple, isi_non_list, isi_non_dict, isi_bl_bool, isi_bl_int, isi_bl_str, isi_bl_tuple, isi_bl_list, isi_bl_dict, isi_int_bool, isi_int_int, isi_int_str, isi_int_tuple, isi_int_list, isi_int_dict, isi_str_bool, isi_str_int, isi_str_str, isi_str_tuple, isi_str_list, isi_str_dict, isi_tup_bool, isi_tup_int, isi_tup_str, isi_tup_tuple, isi_tup_list, isi_tup_dict, isi_lst_bool, isi_lst_int, isi_lst_str, isi_lst_tuple, isi_lst_list, isi_lst_dict, isi_dct_bool, isi_dct_int, isi_dct_str, isi_dct_tuple, isi_dct_list, isi_dct_dict, List.length_map, Bool.not_true, Bool.not_false, eqD, neD, eqTx, neTx, dec_if, dec_ifn, Bool.not_not, at0, at1, at2, ix0, ix1, ix2, Bd.ints_map, Bd.bls_map, Option.some.injEq, exists_eq_left', memD_lst, memD_tup, memD_str, isIn_nil, isIn_cons, isIn_ints, scal_int, scal_str, scal_bl, scal_non, scals_nil, scals_cons, scals_ints, shp_l1i, shp_l2i, shp_l3i, shp_t1i, shp_t2i, shp_t3i, dec_or, dec_orf, Bool.and_self, shp_non, shp_bl, shp_int, shp_tints, shp_lints, shp_tnil, shp_lnil, eqd_int, eqd_str, eqd_bl, eqd_non, eqd_tints, eqd_lints, eqd_lnil, eqd_tnil, shp_lenc, shp_tenc, List.map_eq_nil_iff, wIsE, get1]
  refine ⟨by omega, ?_⟩
  unfold w_law_kind_1
  simp only [wsR, wsX, wsA, wsI, wsN, wsRN, wsBk, wsCt, wsP, wsS, wsF, wsW, wAndV, wOrV, wNotV, wIf, wNeg, wCall, wBc, wBn, wCons, wNil, wTup, wLst, wOp, wCh, Bd.wT, wTr, wMn, wMe, wMe0, apF, popF, mtD, wPm, isTupD, cntF, ssF, lsF, wPA, wPC, reprF, wIxN, wLcN, wiZN, wsP3, wDct0, frzs_enc2, solids_enc2, solid_enc2, wBack, backD, intF, minPF, wAnd, wOr, Bd.wNot, wYes, wSl, wSo, wNo, wN_eq, wV_eq, wM_eq, getD0, getDs, nB_non, nB_bl, nB_int, nB_str, nB_opq, nB_own, nB_shr, nB_con, nB_down, nB_dshr, nB_dcon, nB_tup, nE_non, nE_bl, nE_int, nE_str, nE_opq, nE_own, nE_shr, nE_con, nE_down, nE_dshr, nE_dcon, nE_tup, nM_non, nM_bl, nM_int, nM_str, nM_opq, nM_own, nM_shr, nM_con, nM_down, nM_dshr, nM_dcon, nM_tup, wB, wC, c1, c2, isiF, lenF, sumF, maxF, minF, max2F, min2F, absF, divF, listF, tupF, sortF, allF, anyF, addD, mulD, Bd.intD, intD0, isB, truW, gb, gbs, outs, gN, gi1, gsC, gsN, gT, gS, gSn, evL, takeL, wBL, th_lst, th_dct, th_tup, th_int, th_bl, th_str, th_non, th_opq, setD, ixD, slD, isD, wCallF, wLc, wiS, wiZ, wiE, wiR1, wiR2, wiR3, seqQ, solids, D.solid, ints_solid, ints_frz, frzs, D.frz, List.set_cons_zero, List.set_cons_succ, if_true, if_false, Bool.false_eq_true, true_and, and_true, ite_true, ite_false, List.cons_append, List.nil_append, wipeD, reduceIte, List.length_cons, List.length_nil, reduceCtorEq, tyN_bool, tyN_int, tyN_str, tyN_tuple, tyN_list, tyN_dict, tyS_non, tyS_bl, tyS_int, tyS_str, tyS_tup, tyS_lst, tyS_dct, isi_non_bool, isi_non_int, isi_non_str, isi_non_tuple, isi_non_list, isi_non_dict, isi_bl_bool, isi_bl_int, isi_bl_str, isi_bl_tuple, isi_bl_list, isi_bl_dict, isi_int_bool, isi_int_int, isi_int_str, isi_int_tuple, isi_int_list, isi_int_dict, isi_str_bool, isi_str_int, isi_str_str, isi_str_tuple, isi_str_list, isi_str_dict, isi_tup_bool, isi_tup_int, isi_tup_str, isi_tup_tuple, isi_tup_list, isi_tup_dict, isi_lst_bool, isi_lst_int, isi_lst_str, isi_lst_tuple, isi_lst_list, isi_lst_dict, isi_dct_bool, isi_dct_int, isi_dct_str, isi_dct_tuple, isi_dct_list, isi_dct_dict, List.length_map, Bool.not_true, Bool.not_false, eqD, neD, eqTx, neTx, dec_if, dec_ifn, Bool.not_not, at0, at1, at2, ix0, ix1, ix2, Bd.ints_map, Bd.bls_map, Option.some.injEq, exists_eq_left', memD_lst, memD_tup, memD_str, isIn_nil, isIn_cons, isIn_ints, scal_int, scal_str, scal_bl, scal_non, scals_nil, scals_cons, scals_ints, shp_l1i, shp_l2i, shp_l3i, shp_t1i, shp_t2i, shp_t3i, dec_or, dec_orf, Bool.and_self, shp_non, shp_bl, shp_int, shp_tints, shp_lints, shp_tnil, shp_lnil, eqd_int, eqd_str, eqd_bl, eqd_non, eqd_tints, eqd_lints, eqd_lnil, eqd_tnil, shp_lenc, shp_tenc, List.map_eq_nil_iff, wIsE, get1]
  refine ⟨by omega, by decide, by decide, by omega, ?_⟩
  unfold w_law_kind_2
  simp only [wsR, wsX, wsA, wsI, wsN, wsRN, wsBk, wsCt, wsP, wsS, wsF, wsW, wAndV, wOrV, wNotV, wIf, wNeg, wCall, wBc, wBn, wCons, wNil, wTup, wLst, wOp, wCh, Bd.wT, wTr, wMn, wMe, wMe0, apF, popF, mtD, wPm, isTupD, cntF, ssF, lsF, wPA, wPC, reprF, wIxN, wLcN, wiZN, wsP3, wDct0, frzs_enc2, solids_enc2, solid_enc2, wBack, backD, intF, minPF, wAnd, wOr, Bd.wNot, wYes, wSl, wSo, wNo, wN_eq, wV_eq, wM_eq, getD0, getDs, nB_non, nB_bl, nB_int, nB_str, nB_opq, nB_own, nB_shr, nB_con, nB_down, nB_dshr, nB_dcon, nB_tup, nE_non, nE_bl, nE_int, nE_str, nE_opq, nE_own, nE_shr, nE_con, nE_down, nE_dshr, nE_dcon, nE_tup, nM_non, nM_bl, nM_int, nM_str, nM_opq, nM_own, nM_shr, nM_con, nM_down, nM_dshr, nM_dcon, nM_tup, wB, wC, c1, c2, isiF, lenF, sumF, maxF, minF, max2F, min2F, absF, divF, listF, tupF, sortF, allF, anyF, addD, mulD, Bd.intD, intD0, isB, truW, gb, gbs, outs, gN, gi1, gsC, gsN, gT, gS, gSn, evL, takeL, wBL, th_lst, th_dct, th_tup, th_int, th_bl, th_str, th_non, th_opq, setD, ixD, slD, isD, wCallF, wLc, wiS, wiZ, wiE, wiR1, wiR2, wiR3, seqQ, solids, D.solid, ints_solid, ints_frz, frzs, D.frz, List.set_cons_zero, List.set_cons_succ, if_true, if_false, Bool.false_eq_true, true_and, and_true, ite_true, ite_false, List.cons_append, List.nil_append, wipeD, reduceIte, List.length_cons, List.length_nil, reduceCtorEq, tyN_bool, tyN_int, tyN_str, tyN_tuple, tyN_list, tyN_dict, tyS_non, tyS_bl, tyS_int, tyS_str, tyS_tup, tyS_lst, tyS_dct, isi_non_bool, isi_non_int, isi_non_str, isi_non_tuple, isi_non_list, isi_non_dict, isi_bl_bool, isi_bl_int, isi_bl_str, isi_bl_tuple, isi_bl_list, isi_bl_dict, isi_int_bool, isi_int_int, isi_int_str, isi_int_tuple, isi_int_list, isi_int_dict, isi_str_bool, isi_str_int, isi_str_str, isi_str_tuple, isi_str_list, isi_str_dict, isi_tup_bool, isi_tup_int, isi_tup_str, isi_tup_tuple, isi_tup_list, isi_tup_dict, isi_lst_bool, isi_lst_int, isi_lst_str, isi_lst_tuple, isi_lst_list, isi_lst_dict, isi_dct_bool, isi_dct_int, isi_dct_str, isi_dct_tuple, isi_dct_list, isi_dct_dict, List.length_map, Bool.not_true, Bool.not_false, eqD, neD, eqTx, neTx, dec_if, dec_ifn, Bool.not_not, at0, at1, at2, ix0, ix1, ix2, Bd.ints_map, Bd.bls_map, Option.some.injEq, exists_eq_left', memD_lst, memD_tup, memD_str, isIn_nil, isIn_cons, isIn_ints, scal_int, scal_str, scal_bl, scal_non, scals_nil, scals_cons, scals_ints, shp_l1i, shp_l2i, shp_l3i, shp_t1i, shp_t2i, shp_t3i, dec_or, dec_orf, Bool.and_self, shp_non, shp_bl, shp_int, shp_tints, shp_lints, shp_tnil, shp_lnil, eqd_int, eqd_str, eqd_bl, eqd_non, eqd_tints, eqd_lints, eqd_lnil, eqd_tnil, shp_lenc, shp_tenc, List.map_eq_nil_iff, wIsE, get1]
  refine ⟨by omega, by decide, by decide, by omega, ?_⟩
  unfold w_law_kind_3
  simp only [wsR, wsX, wsA, wsI, wsN, wsRN, wsBk, wsCt, wsP, wsS, wsF, wsW, wAndV, wOrV, wNotV, wIf, wNeg, wCall, wBc, wBn, wCons, wNil, wTup, wLst, wOp, wCh, Bd.wT, wTr, wMn, wMe, wMe0, apF, popF, mtD, wPm, isTupD, cntF, ssF, lsF, wPA, wPC, reprF, wIxN, wLcN, wiZN, wsP3, wDct0, frzs_enc2, solids_enc2, solid_enc2, wBack, backD, intF, minPF, wAnd, wOr, Bd.wNot, wYes, wSl, wSo, wNo, wN_eq, wV_eq, wM_eq, getD0, getDs, nB_non, nB_bl, nB_int, nB_str, nB_opq, nB_own, nB_shr, nB_con, nB_down, nB_dshr, nB_dcon, nB_tup, nE_non, nE_bl, nE_int, nE_str, nE_opq, nE_own, nE_shr, nE_con, nE_down, nE_dshr, nE_dcon, nE_tup, nM_non, nM_bl, nM_int, nM_str, nM_opq, nM_own, nM_shr, nM_con, nM_down, nM_dshr, nM_dcon, nM_tup, wB, wC, c1, c2, isiF, lenF, sumF, maxF, minF, max2F, min2F, absF, divF, listF, tupF, sortF, allF, anyF, addD, mulD, Bd.intD, intD0, isB, truW, gb, gbs, outs, gN, gi1, gsC, gsN, gT, gS, gSn, evL, takeL, wBL, th_lst, th_dct, th_tup, th_int, th_bl, th_str, th_non, th_opq, setD, ixD, slD, isD, wCallF, wLc, wiS, wiZ, wiE, wiR1, wiR2, wiR3, seqQ, solids, D.solid, ints_solid, ints_frz, frzs, D.frz, List.set_cons_zero, List.set_cons_succ, if_true, if_false, Bool.false_eq_true, true_and, and_true, ite_true, ite_false, List.cons_append, List.nil_append, wipeD, reduceIte, List.length_cons, List.length_nil, reduceCtorEq, tyN_bool, tyN_int, tyN_str, tyN_tuple, tyN_list, tyN_dict, tyS_non, tyS_bl, tyS_int, tyS_str, tyS_tup, tyS_lst, tyS_dct, isi_non_bool, isi_non_int, isi_non_str, isi_non_tuple, isi_non_list, isi_non_dict, isi_bl_bool, isi_bl_int, isi_bl_str, isi_bl_tuple, isi_bl_list, isi_bl_dict, isi_int_bool, isi_int_int, isi_int_str, isi_int_tuple, isi_int_list, isi_int_dict, isi_str_bool, isi_str_int, isi_str_str, isi_str_tuple, isi_str_list, isi_str_dict, isi_tup_bool, isi_tup_int, isi_tup_str, isi_tup_tuple, isi_tup_list, isi_tup_dict, isi_lst_bool, isi_lst_int, isi_lst_str, isi_lst_tuple, isi_lst_list, isi_lst_dict, isi_dct_bool, isi_dct_int, isi_dct_str, isi_dct_tuple, isi_dct_list, isi_dct_dict, List.length_map, Bool.not_true, Bool.not_false, eqD, neD, eqTx, neTx, dec_if, dec_ifn, Bool.not_not, at0, at1, at2, ix0, ix1, ix2, Bd.ints_map, Bd.bls_map, Option.some.injEq, exists_eq_left', memD_lst, memD_tup, memD_str, isIn_nil, isIn_cons, isIn_ints, scal_int, scal_str, scal_bl, scal_non, scals_nil, scals_cons, scals_ints, shp_l1i, shp_l2i, shp_l3i, shp_t1i, shp_t2i, shp_t3i, dec_or, dec_orf, Bool.and_self, shp_non, shp_bl, shp_int, shp_tints, shp_lints, shp_tnil, shp_lnil, eqd_int, eqd_str, eqd_bl, eqd_non, eqd_tints, eqd_lints, eqd_lnil, eqd_tnil, shp_lenc, shp_tenc, List.map_eq_nil_iff, wIsE, get1]
  refine ⟨by omega, by decide, by decide, by omega, ?_⟩
  unfold w_law_kind_4
  simp only [wsR, wsX, wsA, wsI, wsN, wsRN, wsBk, wsCt, wsP, wsS, wsF, wsW, wAndV, wOrV, wNotV, wIf, wNeg, wCall, wBc, wBn, wCons, wNil, wTup, wLst, wOp, wCh, Bd.wT, wTr, wMn, wMe, wMe0, apF, popF, mtD, wPm, isTupD, cntF, ssF, lsF, wPA, wPC, reprF, wIxN, wLcN, wiZN, wsP3, wDct0, frzs_enc2, solids_enc2, solid_enc2, wBack, backD, intF, minPF, wAnd, wOr, Bd.wNot, wYes, wSl, wSo, wNo, wN_eq, wV_eq, wM_eq, getD0, getDs, nB_non, nB_bl, nB_int, nB_str, nB_opq, nB_own, nB_shr, nB_con, nB_down, nB_dshr, nB_dcon, nB_tup, nE_non, nE_bl, nE_int, nE_str, nE_opq, nE_own, nE_shr, nE_con, nE_down, nE_dshr, nE_dcon, nE_tup, nM_non, nM_bl, nM_int, nM_str, nM_opq, nM_own, nM_shr, nM_con, nM_down, nM_dshr, nM_dcon, nM_tup, wB, wC, c1, c2, isiF, lenF, sumF, maxF, minF, max2F, min2F, absF, divF, listF, tupF, sortF, allF, anyF, addD, mulD, Bd.intD, intD0, isB, truW, gb, gbs, outs, gN, gi1, gsC, gsN, gT, gS, gSn, evL, takeL, wBL, th_lst, th_dct, th_tup, th_int, th_bl, th_str, th_non, th_opq, setD, ixD, slD, isD, wCallF, wLc, wiS, wiZ, wiE, wiR1, wiR2, wiR3, seqQ, solids, D.solid, ints_solid, ints_frz, frzs, D.frz, List.set_cons_zero, List.set_cons_succ, if_true, if_false, Bool.false_eq_true, true_and, and_true, ite_true, ite_false, List.cons_append, List.nil_append, wipeD, reduceIte, List.length_cons, List.length_nil, reduceCtorEq, tyN_bool, tyN_int, tyN_str, tyN_tuple, tyN_list, tyN_dict, tyS_non, tyS_bl, tyS_int, tyS_str, tyS_tup, tyS_lst, tyS_dct, isi_non_bool, isi_non_int, isi_non_str, isi_non_tuple, isi_non_list, isi_non_dict, isi_bl_bool, isi_bl_int, isi_bl_str, isi_bl_tuple, isi_bl_list, isi_bl_dict, isi_int_bool, isi_int_int, isi_int_str, isi_int_tuple, isi_int_list, isi_int_dict, isi_str_bool, isi_str_int, isi_str_str, isi_str_tuple, isi_str_list, isi_str_dict, isi_tup_bool, isi_tup_int, isi_tup_str, isi_tup_tuple, isi_tup_list, isi_tup_dict, isi_lst_bool, isi_lst_int, isi_lst_str, isi_lst_tuple, isi_lst_list, isi_lst_dict, isi_dct_bool, isi_dct_int, isi_dct_str, isi_dct_tuple, isi_dct_list, isi_dct_dict, List.length_map, Bool.not_true, Bool.not_false, eqD, neD, eqTx, neTx, dec_if, dec_ifn, Bool.not_not, at0, at1, at2, ix0, ix1, ix2, Bd.ints_map, Bd.bls_map, Option.some.injEq, exists_eq_left', memD_lst, memD_tup, memD_str, isIn_nil, isIn_cons, isIn_ints, scal_int, scal_str, scal_bl, scal_non, scals_nil, scals_cons, scals_ints, shp_l1i, shp_l2i, shp_l3i, shp_t1i, shp_t2i, shp_t3i, dec_or, dec_orf, Bool.and_self, shp_non, shp_bl, shp_int, shp_tints, shp_lints, shp_tnil, shp_lnil, eqd_int, eqd_str, eqd_bl, eqd_non, eqd_tints, eqd_lints, eqd_lnil, eqd_tnil, shp_lenc, shp_tenc, List.map_eq_nil_iff, wIsE, get1]
  refine ⟨by omega, by decide, by decide, by omega, ?_⟩
  unfold w_law_kind_5
  simp only [wsR, wsX, wsA, wsI, wsN, wsRN, wsBk, wsCt, wsP, wsS, wsF, wsW, wAndV, wOrV, wNotV, wIf, wNeg, wCall, wBc, wBn, wCons, wNil, wTup, wLst, wOp, wCh, Bd.wT, wTr, wMn, wMe, wMe0, apF, popF, mtD, wPm, isTupD, cntF, ssF, lsF, wPA, wPC, reprF, wIxN, wLcN, wiZN, wsP3, wDct0, frzs_enc2, solids_enc2, solid_enc2, wBack, backD, intF, minPF, wAnd, wOr, Bd.wNot, wYes, wSl, wSo, wNo, wN_eq, wV_eq, wM_eq, getD0, getDs, nB_non, nB_bl, nB_int, nB_str, nB_opq, nB_own, nB_shr, nB_con, nB_down, nB_dshr, nB_dcon, nB_tup, nE_non, nE_bl, nE_int, nE_str, nE_opq, nE_own, nE_shr, nE_con, nE_down, nE_dshr, nE_dcon, nE_tup, nM_non, nM_bl, nM_int, nM_str, nM_opq, nM_own, nM_shr, nM_con, nM_down, nM_dshr, nM_dcon, nM_tup, wB, wC, c1, c2, isiF, lenF, sumF, maxF, minF, max2F, min2F, absF, divF, listF, tupF, sortF, allF, anyF, addD, mulD, Bd.intD, intD0, isB, truW, gb, gbs, outs, gN, gi1, gsC, gsN, gT, gS, gSn, evL, takeL, wBL, th_lst, th_dct, th_tup, th_int, th_bl, th_str, th_non, th_opq, setD, ixD, slD, isD, wCallF, wLc, wiS, wiZ, wiE, wiR1, wiR2, wiR3, seqQ, solids, D.solid, ints_solid, ints_frz, frzs, D.frz, List.set_cons_zero, List.set_cons_succ, if_true, if_false, Bool.false_eq_true, true_and, and_true, ite_true, ite_false, List.cons_append, List.nil_append, wipeD, reduceIte, List.length_cons, List.length_nil, reduceCtorEq, tyN_bool, tyN_int, tyN_str, tyN_tuple, tyN_list, tyN_dict, tyS_non, tyS_bl, tyS_int, tyS_str, tyS_tup, tyS_lst, tyS_dct, isi_non_bool, isi_non_int, isi_non_str, isi_non_tuple, isi_non_list, isi_non_dict, isi_bl_bool, isi_bl_int, isi_bl_str, isi_bl_tuple, isi_bl_list, isi_bl_dict, isi_int_bool, isi_int_int, isi_int_str, isi_int_tuple, isi_int_list, isi_int_dict, isi_str_bool, isi_str_int, isi_str_str, isi_str_tuple, isi_str_list, isi_str_dict, isi_tup_bool, isi_tup_int, isi_tup_str, isi_tup_tuple, isi_tup_list, isi_tup_dict, isi_lst_bool, isi_lst_int, isi_lst_str, isi_lst_tuple, isi_lst_list, isi_lst_dict, isi_dct_bool, isi_dct_int, isi_dct_str, isi_dct_tuple, isi_dct_list, isi_dct_dict, List.length_map, Bool.not_true, Bool.not_false, eqD, neD, eqTx, neTx, dec_if, dec_ifn, Bool.not_not, at0, at1, at2, ix0, ix1, ix2, Bd.ints_map, Bd.bls_map, Option.some.injEq, exists_eq_left', memD_lst, memD_tup, memD_str, isIn_nil, isIn_cons, isIn_ints, scal_int, scal_str, scal_bl, scal_non, scals_nil, scals_cons, scals_ints, shp_l1i, shp_l2i, shp_l3i, shp_t1i, shp_t2i, shp_t3i, dec_or, dec_orf, Bool.and_self, shp_non, shp_bl, shp_int, shp_tints, shp_lints, shp_tnil, shp_lnil, eqd_int, eqd_str, eqd_bl, eqd_non, eqd_tints, eqd_lints, eqd_lnil, eqd_tnil, shp_lenc, shp_tenc, List.map_eq_nil_iff, wIsE, get1]
  refine ⟨by omega, by decide, by decide, by omega, ?_⟩
  rw [show [D.bl (decide (c = "NoField")), D.bl (decide (c = "NoCell")), D.bl (decide (c = "NoCells")), D.bl (decide (c = "NoNumber")), D.bl (decide (c = "NoFronts")), D.bl (decide (c = "NoStanding")), D.bl (decide (c = "NoChange")), D.bl (decide (c = "NoChanges")), D.bl (decide (c = "NoDay")), D.bl (decide (c = "NoPace")), D.bl (decide (c = "NoSpans")), D.bl (decide (c = "NoCase")), D.bl (decide (c = "NoTelling")), D.bl (decide (c = "NoMark")), D.bl (decide (c = "NoText")), D.bl (decide (c = "NoLine")), D.bl (decide (c = "There")), D.bl (decide (c = "Gone")), D.bl (decide (c = "Nothing")), D.bl (decide (c = "TooMany"))] = (bits c).map D.bl from rfl]
  have hlb : (bits c).length = 20 := by simp [bits, ys_law_kind]
  generalize bits c = bs at *
  unfold w_law_kind_6
  simp only [wsR, wsX, wsA, wsI, wsN, wsRN, wsBk, wsCt, wsP, wsS, wsF, wsW, wAndV, wOrV, wNotV, wIf, wNeg, wCall, wBc, wBn, wCons, wNil, wTup, wLst, wOp, wCh, Bd.wT, wTr, wMn, wMe, wMe0, apF, popF, mtD, wPm, isTupD, cntF, ssF, lsF, wPA, wPC, reprF, wIxN, wLcN, wiZN, wsP3, wDct0, frzs_enc2, solids_enc2, solid_enc2, wBack, backD, intF, minPF, wAnd, wOr, Bd.wNot, wYes, wSl, wSo, wNo, wN_eq, wV_eq, wM_eq, getD0, getDs, nB_non, nB_bl, nB_int, nB_str, nB_opq, nB_own, nB_shr, nB_con, nB_down, nB_dshr, nB_dcon, nB_tup, nE_non, nE_bl, nE_int, nE_str, nE_opq, nE_own, nE_shr, nE_con, nE_down, nE_dshr, nE_dcon, nE_tup, nM_non, nM_bl, nM_int, nM_str, nM_opq, nM_own, nM_shr, nM_con, nM_down, nM_dshr, nM_dcon, nM_tup, wB, wC, c1, c2, isiF, lenF, sumF, maxF, minF, max2F, min2F, absF, divF, listF, tupF, sortF, allF, anyF, addD, mulD, Bd.intD, intD0, isB, truW, gb, gbs, outs, gN, gi1, gsC, gsN, gT, gS, gSn, evL, takeL, wBL, th_lst, th_dct, th_tup, th_int, th_bl, th_str, th_non, th_opq, setD, ixD, slD, isD, wCallF, wLc, wiS, wiZ, wiE, wiR1, wiR2, wiR3, seqQ, solids, D.solid, ints_solid, ints_frz, frzs, D.frz, List.set_cons_zero, List.set_cons_succ, if_true, if_false, Bool.false_eq_true, true_and, and_true, ite_true, ite_false, List.cons_append, List.nil_append, wipeD, reduceIte, List.length_cons, List.length_nil, reduceCtorEq, tyN_bool, tyN_int, tyN_str, tyN_tuple, tyN_list, tyN_dict, tyS_non, tyS_bl, tyS_int, tyS_str, tyS_tup, tyS_lst, tyS_dct, isi_non_bool, isi_non_int, isi_non_str, isi_non_tuple, isi_non_list, isi_non_dict, isi_bl_bool, isi_bl_int, isi_bl_str, isi_bl_tuple, isi_bl_list, isi_bl_dict, isi_int_bool, isi_int_int, isi_int_str, isi_int_tuple, isi_int_list, isi_int_dict, isi_str_bool, isi_str_int, isi_str_str, isi_str_tuple, isi_str_list, isi_str_dict, isi_tup_bool, isi_tup_int, isi_tup_str, isi_tup_tuple, isi_tup_list, isi_tup_dict, isi_lst_bool, isi_lst_int, isi_lst_str, isi_lst_tuple, isi_lst_list, isi_lst_dict, isi_dct_bool, isi_dct_int, isi_dct_str, isi_dct_tuple, isi_dct_list, isi_dct_dict, List.length_map, Bool.not_true, Bool.not_false, eqD, neD, eqTx, neTx, dec_if, dec_ifn, Bool.not_not, at0, at1, at2, ix0, ix1, ix2, Bd.ints_map, Bd.bls_map, Option.some.injEq, exists_eq_left', memD_lst, memD_tup, memD_str, isIn_nil, isIn_cons, isIn_ints, scal_int, scal_str, scal_bl, scal_non, scals_nil, scals_cons, scals_ints, shp_l1i, shp_l2i, shp_l3i, shp_t1i, shp_t2i, shp_t3i, dec_or, dec_orf, Bool.and_self, shp_non, shp_bl, shp_int, shp_tints, shp_lints, shp_tnil, shp_lnil, eqd_int, eqd_str, eqd_bl, eqd_non, eqd_tints, eqd_lints, eqd_lnil, eqd_tnil, shp_lenc, shp_tenc, List.map_eq_nil_iff, wIsE, get1, cntLF, shp_lbl, cnt_bl, h1]
  rw [if_pos (by decide)]
  unfold w_law_kind_8
  simp only [wsR, wsX, wsA, wsI, wsN, wsRN, wsBk, wsCt, wsP, wsS, wsF, wsW, wAndV, wOrV, wNotV, wIf, wNeg, wCall, wBc, wBn, wCons, wNil, wTup, wLst, wOp, wCh, Bd.wT, wTr, wMn, wMe, wMe0, apF, popF, mtD, wPm, isTupD, cntF, ssF, lsF, wPA, wPC, reprF, wIxN, wLcN, wiZN, wsP3, wDct0, frzs_enc2, solids_enc2, solid_enc2, wBack, backD, intF, minPF, wAnd, wOr, Bd.wNot, wYes, wSl, wSo, wNo, wN_eq, wV_eq, wM_eq, getD0, getDs, nB_non, nB_bl, nB_int, nB_str, nB_opq, nB_own, nB_shr, nB_con, nB_down, nB_dshr, nB_dcon, nB_tup, nE_non, nE_bl, nE_int, nE_str, nE_opq, nE_own, nE_shr, nE_con, nE_down, nE_dshr, nE_dcon, nE_tup, nM_non, nM_bl, nM_int, nM_str, nM_opq, nM_own, nM_shr, nM_con, nM_down, nM_dshr, nM_dcon, nM_tup, wB, wC, c1, c2, isiF, lenF, sumF, maxF, minF, max2F, min2F, absF, divF, listF, tupF, sortF, allF, anyF, addD, mulD, Bd.intD, intD0, isB, truW, gb, gbs, outs, gN, gi1, gsC, gsN, gT, gS, gSn, evL, takeL, wBL, th_lst, th_dct, th_tup, th_int, th_bl, th_str, th_non, th_opq, setD, ixD, slD, isD, wCallF, wLc, wiS, wiZ, wiE, wiR1, wiR2, wiR3, seqQ, solids, D.solid, ints_solid, ints_frz, frzs, D.frz, List.set_cons_zero, List.set_cons_succ, if_true, if_false, Bool.false_eq_true, true_and, and_true, ite_true, ite_false, List.cons_append, List.nil_append, wipeD, reduceIte, List.length_cons, List.length_nil, reduceCtorEq, tyN_bool, tyN_int, tyN_str, tyN_tuple, tyN_list, tyN_dict, tyS_non, tyS_bl, tyS_int, tyS_str, tyS_tup, tyS_lst, tyS_dct, isi_non_bool, isi_non_int, isi_non_str, isi_non_tuple, isi_non_list, isi_non_dict, isi_bl_bool, isi_bl_int, isi_bl_str, isi_bl_tuple, isi_bl_list, isi_bl_dict, isi_int_bool, isi_int_int, isi_int_str, isi_int_tuple, isi_int_list, isi_int_dict, isi_str_bool, isi_str_int, isi_str_str, isi_str_tuple, isi_str_list, isi_str_dict, isi_tup_bool, isi_tup_int, isi_tup_str, isi_tup_tuple, isi_tup_list, isi_tup_dict, isi_lst_bool, isi_lst_int, isi_lst_str, isi_lst_tuple, isi_lst_list, isi_lst_dict, isi_dct_bool, isi_dct_int, isi_dct_str, isi_dct_tuple, isi_dct_list, isi_dct_dict, List.length_map, Bool.not_true, Bool.not_false, eqD, neD, eqTx, neTx, dec_if, dec_ifn, Bool.not_not, at0, at1, at2, ix0, ix1, ix2, Bd.ints_map, Bd.bls_map, Option.some.injEq, exists_eq_left', memD_lst, memD_tup, memD_str, isIn_nil, isIn_cons, isIn_ints, scal_int, scal_str, scal_bl, scal_non, scals_nil, scals_cons, scals_ints, shp_l1i, shp_l2i, shp_l3i, shp_t1i, shp_t2i, shp_t3i, dec_or, dec_orf, Bool.and_self, shp_non, shp_bl, shp_int, shp_tints, shp_lints, shp_tnil, shp_lnil, eqd_int, eqd_str, eqd_bl, eqd_non, eqd_tints, eqd_lints, eqd_lnil, eqd_tnil, shp_lenc, shp_tenc, List.map_eq_nil_iff]
  refine ⟨by omega, ?_⟩
  unfold w_law_kind_9
  simp only [wsR, wsX, wsA, wsI, wsN, wsRN, wsBk, wsCt, wsP, wsS, wsF, wsW, wAndV, wOrV, wNotV, wIf, wNeg, wCall, wBc, wBn, wCons, wNil, wTup, wLst, wOp, wCh, Bd.wT, wTr, wMn, wMe, wMe0, apF, popF, mtD, wPm, isTupD, cntF, ssF, lsF, wPA, wPC, reprF, wIxN, wLcN, wiZN, wsP3, wDct0, frzs_enc2, solids_enc2, solid_enc2, wBack, backD, intF, minPF, wAnd, wOr, Bd.wNot, wYes, wSl, wSo, wNo, wN_eq, wV_eq, wM_eq, getD0, getDs, nB_non, nB_bl, nB_int, nB_str, nB_opq, nB_own, nB_shr, nB_con, nB_down, nB_dshr, nB_dcon, nB_tup, nE_non, nE_bl, nE_int, nE_str, nE_opq, nE_own, nE_shr, nE_con, nE_down, nE_dshr, nE_dcon, nE_tup, nM_non, nM_bl, nM_int, nM_str, nM_opq, nM_own, nM_shr, nM_con, nM_down, nM_dshr, nM_dcon, nM_tup, wB, wC, c1, c2, isiF, lenF, sumF, maxF, minF, max2F, min2F, absF, divF, listF, tupF, sortF, allF, anyF, addD, mulD, Bd.intD, intD0, isB, truW, gb, gbs, outs, gN, gi1, gsC, gsN, gT, gS, gSn, evL, takeL, wBL, th_lst, th_dct, th_tup, th_int, th_bl, th_str, th_non, th_opq, setD, ixD, slD, isD, wCallF, wLc, wiS, wiZ, wiE, wiR1, wiR2, wiR3, seqQ, solids, D.solid, ints_solid, ints_frz, frzs, D.frz, List.set_cons_zero, List.set_cons_succ, if_true, if_false, Bool.false_eq_true, true_and, and_true, ite_true, ite_false, List.cons_append, List.nil_append, wipeD, reduceIte, List.length_cons, List.length_nil, reduceCtorEq, tyN_bool, tyN_int, tyN_str, tyN_tuple, tyN_list, tyN_dict, tyS_non, tyS_bl, tyS_int, tyS_str, tyS_tup, tyS_lst, tyS_dct, isi_non_bool, isi_non_int, isi_non_str, isi_non_tuple, isi_non_list, isi_non_dict, isi_bl_bool, isi_bl_int, isi_bl_str, isi_bl_tuple, isi_bl_list, isi_bl_dict, isi_int_bool, isi_int_int, isi_int_str, isi_int_tuple, isi_int_list, isi_int_dict, isi_str_bool, isi_str_int, isi_str_str, isi_str_tuple, isi_str_list, isi_str_dict, isi_tup_bool, isi_tup_int, isi_tup_str, isi_tup_tuple, isi_tup_list, isi_tup_dict, isi_lst_bool, isi_lst_int, isi_lst_str, isi_lst_tuple, isi_lst_list, isi_lst_dict, isi_dct_bool, isi_dct_int, isi_dct_str, isi_dct_tuple, isi_dct_list, isi_dct_dict, List.length_map, Bool.not_true, Bool.not_false, eqD, neD, eqTx, neTx, dec_if, dec_ifn, Bool.not_not, at0, at1, at2, ix0, ix1, ix2, Bd.ints_map, Bd.bls_map, Option.some.injEq, exists_eq_left', memD_lst, memD_tup, memD_str, isIn_nil, isIn_cons, isIn_ints, scal_int, scal_str, scal_bl, scal_non, scals_nil, scals_cons, scals_ints, shp_l1i, shp_l2i, shp_l3i, shp_t1i, shp_t2i, shp_t3i, dec_or, dec_orf, Bool.and_self, shp_non, shp_bl, shp_int, shp_tints, shp_lints, shp_tnil, shp_lnil, eqd_int, eqd_str, eqd_bl, eqd_non, eqd_tints, eqd_lints, eqd_lnil, eqd_tnil, shp_lenc, shp_tenc, List.map_eq_nil_iff]
  refine ⟨by omega, by decide, by decide, by omega, ?_⟩
  rw [show [D.str "field", D.str "cell", D.str "cells", D.str "number", D.str "fronts", D.str "standing", D.str "change", D.str "changes", D.str "day", D.str "pace", D.str "spans", D.str "case", D.str "telling", D.str "mark", D.str "text", D.str "line", D.str "there", D.str "gone", D.str "nothing", D.str "many"] = words.map D.str from rfl]
  unfold w_law_kind_10
  have hj : j < 20 := by
    have := (List.getElem?_eq_some_iff.mp h2).1
    omega
  simp only [wsR, wsX, wsA, wsI, wsN, wsRN, wsBk, wsCt, wsP, wsS, wsF, wsW, wAndV, wOrV, wNotV, wIf, wNeg, wCall, wBc, wBn, wCons, wNil, wTup, wLst, wOp, wCh, Bd.wT, wTr, wMn, wMe, wMe0, apF, popF, mtD, wPm, isTupD, cntF, ssF, lsF, wPA, wPC, reprF, wIxN, wLcN, wiZN, wsP3, wDct0, frzs_enc2, solids_enc2, solid_enc2, wBack, backD, intF, minPF, wAnd, wOr, Bd.wNot, wYes, wSl, wSo, wNo, wN_eq, wV_eq, wM_eq, getD0, getDs, nB_non, nB_bl, nB_int, nB_str, nB_opq, nB_own, nB_shr, nB_con, nB_down, nB_dshr, nB_dcon, nB_tup, nE_non, nE_bl, nE_int, nE_str, nE_opq, nE_own, nE_shr, nE_con, nE_down, nE_dshr, nE_dcon, nE_tup, nM_non, nM_bl, nM_int, nM_str, nM_opq, nM_own, nM_shr, nM_con, nM_down, nM_dshr, nM_dcon, nM_tup, wB, wC, c1, c2, isiF, lenF, sumF, maxF, minF, max2F, min2F, absF, divF, listF, tupF, sortF, allF, anyF, addD, mulD, Bd.intD, intD0, isB, truW, gb, gbs, outs, gN, gi1, gsC, gsN, gT, gS, gSn, evL, takeL, wBL, th_lst, th_dct, th_tup, th_int, th_bl, th_str, th_non, th_opq, setD, ixD, slD, isD, wCallF, wLc, wiS, wiZ, wiE, wiR1, wiR2, wiR3, seqQ, solids, D.solid, ints_solid, ints_frz, frzs, D.frz, List.set_cons_zero, List.set_cons_succ, if_true, if_false, Bool.false_eq_true, true_and, and_true, ite_true, ite_false, List.cons_append, List.nil_append, wipeD, reduceIte, List.length_cons, List.length_nil, reduceCtorEq, tyN_bool, tyN_int, tyN_str, tyN_tuple, tyN_list, tyN_dict, tyS_non, tyS_bl, tyS_int, tyS_str, tyS_tup, tyS_lst, tyS_dct, isi_non_bool, isi_non_int, isi_non_str, isi_non_tuple, isi_non_list, isi_non_dict, isi_bl_bool, isi_bl_int, isi_bl_str, isi_bl_tuple, isi_bl_list, isi_bl_dict, isi_int_bool, isi_int_int, isi_int_str, isi_int_tuple, isi_int_list, isi_int_dict, isi_str_bool, isi_str_int, isi_str_str, isi_str_tuple, isi_str_list, isi_str_dict, isi_tup_bool, isi_tup_int, isi_tup_str, isi_tup_tuple, isi_tup_list, isi_tup_dict, isi_lst_bool, isi_lst_int, isi_lst_str, isi_lst_tuple, isi_lst_list, isi_lst_dict, isi_dct_bool, isi_dct_int, isi_dct_str, isi_dct_tuple, isi_dct_list, isi_dct_dict, List.length_map, Bool.not_true, Bool.not_false, eqD, neD, eqTx, neTx, dec_if, dec_ifn, Bool.not_not, at0, at1, at2, ix0, ix1, ix2, Bd.ints_map, Bd.bls_map, Option.some.injEq, exists_eq_left', memD_lst, memD_tup, memD_str, isIn_nil, isIn_cons, isIn_ints, scal_int, scal_str, scal_bl, scal_non, scals_nil, scals_cons, scals_ints, shp_l1i, shp_l2i, shp_l3i, shp_t1i, shp_t2i, shp_t3i, dec_or, dec_orf, Bool.and_self, shp_non, shp_bl, shp_int, shp_tints, shp_lints, shp_tnil, shp_lnil, eqd_int, eqd_str, eqd_bl, eqd_non, eqd_tints, eqd_lints, eqd_lnil, eqd_tnil, shp_lenc, shp_tenc, List.map_eq_nil_iff, ixLF, shp_lbl]
  refine ⟨j, .bl true, by rw [List.getElem?_map, h2]; rfl, by simp [eqd_bl], fun i z' hi hz => ?_, ?_⟩
  · rw [List.getElem?_map, h3 i hi] at hz
    cases hz
    simp [eqd_bl]
  · refine ⟨.str t, ?_, ?_⟩
    · rw [atI_nat (by simp [words]; omega), List.getElem?_map, h4]
      rfl
    · simp only [wsR, wsX, wsA, wsI, wsN, wsRN, wsBk, wsCt, wsP, wsS, wsF, wsW, wAndV, wOrV, wNotV, wIf, wNeg, wCall, wBc, wBn, wCons, wNil, wTup, wLst, wOp, wCh, Bd.wT, wTr, wMn, wMe, wMe0, apF, popF, mtD, wPm, isTupD, cntF, ssF, lsF, wPA, wPC, reprF, wIxN, wLcN, wiZN, wsP3, wDct0, frzs_enc2, solids_enc2, solid_enc2, wBack, backD, intF, minPF, wAnd, wOr, Bd.wNot, wYes, wSl, wSo, wNo, wN_eq, wV_eq, wM_eq, getD0, getDs, nB_non, nB_bl, nB_int, nB_str, nB_opq, nB_own, nB_shr, nB_con, nB_down, nB_dshr, nB_dcon, nB_tup, nE_non, nE_bl, nE_int, nE_str, nE_opq, nE_own, nE_shr, nE_con, nE_down, nE_dshr, nE_dcon, nE_tup, nM_non, nM_bl, nM_int, nM_str, nM_opq, nM_own, nM_shr, nM_con, nM_down, nM_dshr, nM_dcon, nM_tup, wB, wC, c1, c2, isiF, lenF, sumF, maxF, minF, max2F, min2F, absF, divF, listF, tupF, sortF, allF, anyF, addD, mulD, Bd.intD, intD0, isB, truW, gb, gbs, outs, gN, gi1, gsC, gsN, gT, gS, gSn, evL, takeL, wBL, th_lst, th_dct, th_tup, th_int, th_bl, th_str, th_non, th_opq, setD, ixD, slD, isD, wCallF, wLc, wiS, wiZ, wiE, wiR1, wiR2, wiR3, seqQ, solids, D.solid, ints_solid, ints_frz, frzs, D.frz, List.set_cons_zero, List.set_cons_succ, if_true, if_false, Bool.false_eq_true, true_and, and_true, ite_true, ite_false, List.cons_append, List.nil_append, wipeD, reduceIte, List.length_cons, List.length_nil, reduceCtorEq, tyN_bool, tyN_int, tyN_str, tyN_tuple, tyN_list, tyN_dict, tyS_non, tyS_bl, tyS_int, tyS_str, tyS_tup, tyS_lst, tyS_dct, isi_non_bool, isi_non_int, isi_non_str, isi_non_tuple, isi_non_list, isi_non_dict, isi_bl_bool, isi_bl_int, isi_bl_str, isi_bl_tuple, isi_bl_list, isi_bl_dict, isi_int_bool, isi_int_int, isi_int_str, isi_int_tuple, isi_int_list, isi_int_dict, isi_str_bool, isi_str_int, isi_str_str, isi_str_tuple, isi_str_list, isi_str_dict, isi_tup_bool, isi_tup_int, isi_tup_str, isi_tup_tuple, isi_tup_list, isi_tup_dict, isi_lst_bool, isi_lst_int, isi_lst_str, isi_lst_tuple, isi_lst_list, isi_lst_dict, isi_dct_bool, isi_dct_int, isi_dct_str, isi_dct_tuple, isi_dct_list, isi_dct_dict, List.length_map, Bool.not_true, Bool.not_false, eqD, neD, eqTx, neTx, dec_if, dec_ifn, Bool.not_not, at0, at1, at2, ix0, ix1, ix2, Bd.ints_map, Bd.bls_map, Option.some.injEq, exists_eq_left', memD_lst, memD_tup, memD_str, isIn_nil, isIn_cons, isIn_ints, scal_int, scal_str, scal_bl, scal_non, scals_nil, scals_cons, scals_ints, shp_l1i, shp_l2i, shp_l3i, shp_t1i, shp_t2i, shp_t3i, dec_or, dec_orf, Bool.and_self, shp_non, shp_bl, shp_int, shp_tints, shp_lints, shp_tnil, shp_lnil, eqd_int, eqd_str, eqd_bl, eqd_non, eqd_tints, eqd_lints, eqd_lnil, eqd_tnil, shp_lenc, shp_tenc, List.map_eq_nil_iff]
      exact hR _
theorem r_law_kind : ∀ c t, ok_law_kind c = some t → ∀ (a' : Addr) (R : D → List D → Prop), (∀ r, R (.str t) r) → w_law_kind c a' { nx := fun _ => False, rt := R } ((List.replicate N_law_kind.length .gone).set 1 (.opq (.ref a'))) := by
  intro c t h a' R hR
  have hm := mem_lookup2 (l := ol_law_kind) h
  simp only [ol_law_kind, List.mem_cons, List.not_mem_nil, or_false, Prod.mk.injEq] at hm
  rcases hm with ⟨rfl, rfl⟩ | ⟨rfl, rfl⟩
  · exact kind_tells (j := 4) (by decide +kernel) (by decide +kernel) (by decide +kernel) (by decide +kernel) a' R hR
  · exact kind_tells (j := 3) (by decide +kernel) (by decide +kernel) (by decide +kernel) (by decide +kernel) a' R hR
end K07

namespace K07
open PySem PySem.Spec PyProof.Rows L2 Bd
theorem share_ub {ps : List Int} {m : Int} (hf : frontsOk ps) (hm0 : 0 ≤ m) (hm1 : m ≤ 100000) : ∀ s ∈ sharesOf ps m, 0 ≤ s ∧ s ≤ 100001 := by
  intro s hs
  have ht := sum_pos hf
  obtain ⟨i, hi, rfl⟩ := List.mem_iff_getElem.mp hs
  have hl : i < ps.length := by rw [← share_len ps m]; exact hi
  have h := share_get (ps := ps) (m := m) hl
  rw [List.getElem?_eq_getElem hi] at h
  injection h with h
  rw [h]
  have hmem : ps.getD i 0 ∈ ps := by
    rw [List.getD_eq_getElem?_getD, List.getElem?_eq_getElem hl]
    exact List.getElem_mem _
  have h0 := (hf.2.2.1 _ hmem).1
  have h1 := sum_le (fun p hp => (hf.2.2.1 p hp).1) hmem
  generalize ps.getD i 0 = p at *
  have ii := inc_01 ps m i
  have e1 : m * p / ps.sum ≤ m := by
    refine Int.ediv_le_of_le_mul ht ?_
    exact Int.mul_le_mul_of_nonneg_left h1 hm0
  have e0 : 0 ≤ m * p / ps.sum := Int.ediv_nonneg (Int.mul_nonneg hm0 h0) (by omega)
  omega
theorem share_r {ps : List Int} {m : Int} (hf : frontsOk ps) (hm0 : 0 ≤ m) (hm1 : m ≤ 100000) : rOk (.tup ((sharesOf ps m).map D.int)) sizeLine := by
  refine (rOk_tup (n := 18) fun d hd => ?_).le ?_
  · obtain ⟨s, hs, rfl⟩ := List.mem_map.mp hd
    have := share_ub hf hm0 hm1 s hs
    exact rOk_int 17 (by decide) (by omega) (by omega) (by decide)
  · rw [List.length_map, share_len]
    have := hf.2.1
    have : (1000 : Nat) ≤ sizeLine := by decide
    omega
theorem sh_w (s : Str) (h : shp (.str s)) : shp (.str s) = True := eq_true h
theorem sh_fronts : shp (.str ("fronts" : Str)) = True := eq_true (by unfold shp; decide +kernel)
theorem sh_number : shp (.str ("number" : Str)) = True := eq_true (by unfold shp; decide +kernel)
theorem ok_fronts : ok_law_kind "NoFronts" = some "fronts" := by decide +kernel
theorem ok_number : ok_law_kind "NoNumber" = some "number" := by decide +kernel
theorem rg_item {n i : Nat} {its : List D} (h : (rgL 0 n)[i]? = some its) : its = [.int (i : Int)] ∧ i < n := by
  unfold rgL at h
  rw [List.getElem?_map] at h
  obtain ⟨j, hj, rfl⟩ := Option.map_eq_some_iff.mp h
  obtain ⟨g1, g2⟩ := List.getElem?_eq_some_iff.mp hj
  rw [List.getElem_range] at g2
  rw [List.length_range] at g1
  subst g2
  exact ⟨by rw [Int.zero_add], g1⟩
/-- no fronts -/
def nof (d : D) : Prop := bad d ∧ (∀ xs, d = .tup xs → ∀ x ∈ xs, bad x) ∧ ∀ ps : List Int, d = .tup (ps.map D.int) → ¬ frontsOk ps
theorem bad_bl {b : Bool} : bad (.bl b) := ⟨rfl, rfl⟩
theorem bad_str {b : Str} : bad (.str b) := ⟨rfl, rfl⟩
theorem bad_non : bad .non := ⟨rfl, rfl⟩
theorem bad_tup {xs : List D} (h : solids xs = true) : bad (.tup xs) := ⟨h, rfl⟩
theorem nof_tup {xs : List D} (hs : solids xs = true) (hx : ∀ x ∈ xs, bad x) (h : ∀ ps : List Int, xs = ps.map D.int → ¬ frontsOk ps) : nof (.tup xs) :=
  ⟨bad_tup hs, fun ys e => by cases e; exact hx, fun ps e => by injection e with e; exact h ps e⟩
theorem nof_ints {qs : List Int} (h : ¬ frontsOk qs) : nof (.tup (qs.map D.int)) :=
  nof_tup (ints_solid _) (fun x hx => by obtain ⟨p, _, rfl⟩ := List.mem_map.mp hx; exact bad_int) fun ps e => by rw [← ints_inj e]; exact h
theorem nof_part {xs : List D} (hx : ∀ x ∈ xs, bad x) {z : D} (hz : z ∈ xs) (hi : ∀ i, z ≠ .int i) : nof (.tup xs) :=
  nof_tup (by
    have : ∀ ys : List D, (∀ x ∈ ys, bad x) → solids ys = true := by
      intro ys
      induction ys with
      | nil => intro _; rfl
      | cons y r ih => intro h; rw [solids, (h y List.mem_cons_self).1, ih fun x hx => h x (List.mem_cons_of_mem _ hx)]; rfl
    exact this xs hx) hx fun ps e => by
    rw [e] at hz
    obtain ⟨p, _, e2⟩ := List.mem_map.mp hz
    exact absurd e2.symm (hi p)
theorem nof_other {d : D} (h : bad d) (hn : ∀ xs, d ≠ .tup xs) : nof d := ⟨h, fun xs e => absurd e (hn xs), fun ps e => absurd e (hn _)⟩
theorem sh_left : ∀ r : List D, r = r := fun _ => rfl
def kinds_fronts (Ex : XD) : WS := w_law_11 Ex
theorem dropL (ps : List Int) : (ps.map D.int).dropLast = ps.dropLast.map D.int := by rw [List.map_dropLast]
theorem bads_ok {ps : List Int} (hf : frontsOk ps) : ∀ d ∈ [D.tup [], D.tup [D.int 0], D.tup (repD 10 [D.int 0]), D.tup (repD 11 [D.int 1]), D.lst M.shr (ps.map D.int), D.tup (ps.dropLast.map D.int ++ [D.int 1001]), D.tup (D.int (-1) :: (ps.drop 1).map D.int), D.tup (D.bl true :: (ps.drop 1).map D.int), D.non, D.str "", D.int 1, D.dct M.shr [] [], D.tup [D.non], D.tup (ps.dropLast.map D.int ++ [D.str "1"])], nof d := by
  intro d hd
  simp only [List.mem_cons, List.not_mem_nil, or_false] at hd
  have hin : ∀ x ∈ ps.map D.int, bad x := fun x hx => by obtain ⟨p, _, rfl⟩ := List.mem_map.mp hx; exact bad_int
  rcases hd with rfl | rfl | rfl | rfl | rfl | rfl | rfl | rfl | rfl | rfl | rfl | rfl | rfl | rfl
  · exact nof_ints (qs := []) fun h => absurd h.1 (by decide)
  · exact nof_ints (qs := [0]) fun h => h.2.2.2 rfl
  · exact nof_ints (qs := List.replicate 10 0) fun h => h.2.2.2 rfl
  · exact nof_ints (qs := List.replicate 11 1) fun h => absurd h.2.1 (by decide)
  · exact nof_other ⟨rfl, rfl⟩ fun xs e => by cases e
  · rw [show [D.int 1001] = [(1001 : Int)].map D.int from rfl, ← List.map_append]
    exact nof_ints fun h => absurd (h.2.2.1 1001 (List.mem_append_right _ List.mem_cons_self)).2 (by decide)
  · rw [← List.map_cons]
    exact nof_ints fun h => absurd (h.2.2.1 (-1) List.mem_cons_self).1 (by decide)
  · exact nof_part (fun x hx => by
      rcases List.mem_cons.mp hx with rfl | hx
      · exact bad_bl
      · obtain ⟨p, _, rfl⟩ := List.mem_map.mp hx; exact bad_int) List.mem_cons_self fun i e => by cases e
  · exact nof_other bad_non fun xs e => by cases e
  · exact nof_other bad_str fun xs e => by cases e
  · exact nof_other bad_int fun xs e => by cases e
  · exact nof_other ⟨rfl, rfl⟩ fun xs e => by cases e
  · exact nof_part (fun x hx => by rw [List.mem_singleton.mp hx]; exact bad_non) List.mem_cons_self fun i e => by cases e
  · exact nof_part (fun x hx => by
      rcases List.mem_append.mp hx with hx | hx
      · obtain ⟨p, _, rfl⟩ := List.mem_map.mp hx; exact bad_int
      · rw [List.mem_singleton.mp hx]; exact bad_str) (List.mem_append_right _ List.mem_cons_self) fun i e => by cases e
theorem frzs_app' : ∀ l r : List D, frzs (l ++ r) = frzs l ++ frzs r
  | [], _ => rfl
  | x :: l, r => by rw [List.cons_append, frzs, frzs_app' l r, frzs, List.cons_append]
set_option maxHeartbeats 800000 in
theorem r_law : Tells S_law [true] 8 w_law := by
  rintro ds Q E ⟨ns, rfl, h1, h3⟩
  show w_law _ _ [.lst .con (ns.map D.int), .gone, .gone, .gone, .gone, .gone, .gone, .gone, .gone]
  generalize (fun (c : Str) (ns : List Int) ρ => E c ns (outs [true] ρ)) = Ex
  have big : (1000 : Nat) ≤ sizeLine := by decide
  unfold w_law w_law_0
  simp only [wsR, wsX, wsA, wsI, wsN, wsRN, wsBk, wsCt, wsP, wsS, wsF, wsW, wAndV, wOrV, wNotV, wIf, wNeg, wCall, wBc, wBn, wCons, wNil, wTup, wLst, wOp, wCh, Bd.wT, wTr, wMn, wMe, wMe0, apF, popF, mtD, wPm, isTupD, cntF, ssF, lsF, wPA, wPC, reprF, wIxN, wLcN, wiZN, wsP3, wDct0, frzs_enc2, solids_enc2, solid_enc2, wBack, backD, intF, minPF, wAnd, wOr, Bd.wNot, wYes, wSl, wSo, wNo, wN_eq, wV_eq, wM_eq, getD0, getDs, nB_non, nB_bl, nB_int, nB_str, nB_opq, nB_own, nB_shr, nB_con, nB_down, nB_dshr, nB_dcon, nB_tup, nE_non, nE_bl, nE_int, nE_str, nE_opq, nE_own, nE_shr, nE_con, nE_down, nE_dshr, nE_dcon, nE_tup, nM_non, nM_bl, nM_int, nM_str, nM_opq, nM_own, nM_shr, nM_con, nM_down, nM_dshr, nM_dcon, nM_tup, wB, wC, c1, c2, isiF, lenF, sumF, maxF, minF, max2F, min2F, absF, divF, listF, tupF, sortF, allF, anyF, addD, mulD, Bd.intD, intD0, isB, truW, gb, gbs, outs, gN, gi1, gsC, gsN, gT, gS, gSn, evL, takeL, wBL, th_lst, th_dct, th_tup, th_int, th_bl, th_str, th_non, th_opq, setD, ixD, slD, isD, wCallF, wLc, wiS, wiZ, wiE, wiR1, wiR2, wiR3, seqQ, solids, D.solid, ints_solid, ints_frz, frzs, D.frz, List.set_cons_zero, List.set_cons_succ, if_true, if_false, Bool.false_eq_true, true_and, and_true, ite_true, ite_false, List.cons_append, List.nil_append, wipeD, reduceIte, List.length_cons, List.length_nil, reduceCtorEq, tyN_bool, tyN_int, tyN_str, tyN_tuple, tyN_list, tyN_dict, tyS_non, tyS_bl, tyS_int, tyS_str, tyS_tup, tyS_lst, tyS_dct, isi_non_bool, isi_non_int, isi_non_str, isi_non_tuple, isi_non_list, isi_non_dict, isi_bl_bool, isi_bl_int, isi_bl_str, isi_bl_tuple, isi_bl_list, isi_bl_dict, isi_int_bool, isi_int_int, isi_int_str, isi_int_tuple, isi_int_list, isi_int_dict, isi_str_bool, isi_str_int, isi_str_str, isi_str_tuple, isi_str_list, isi_str_dict, isi_tup_bool, isi_tup_int, isi_tup_str, isi_tup_tuple, isi_tup_list, isi_tup_dict, isi_lst_bool, isi_lst_int, isi_lst_str, isi_lst_tuple, isi_lst_list, isi_lst_dict, isi_dct_bool, isi_dct_int, isi_dct_str, isi_dct_tuple, isi_dct_list, isi_dct_dict, List.length_map, Bool.not_true, Bool.not_false, eqD, neD, eqTx, neTx, dec_if, dec_ifn, Bool.not_not, at0, at1, at2, ix0, ix1, ix2, Bd.ints_map, Bd.bls_map, Option.some.injEq, exists_eq_left', memD_lst, memD_tup, memD_str, isIn_nil, isIn_cons, isIn_ints, scal_int, scal_str, scal_bl, scal_non, scals_nil, scals_cons, scals_ints, shp_l1i, shp_l2i, shp_l3i, shp_t1i, shp_t2i, shp_t3i, dec_or, dec_orf, Bool.and_self, shp_non, shp_bl, shp_int, shp_tints, shp_lints, shp_tnil, shp_lnil, eqd_int, eqd_str, eqd_bl, eqd_non, eqd_tints, eqd_lints, eqd_lnil, eqd_tnil, shp_lenc, shp_tenc, List.map_eq_nil_iff]
  refine ⟨by omega, by omega, ?_⟩
  refine forL_inv (fun i ρ => ∃ d1 d2 d3 d4 d5 d6 d7 d8 : D, ρ = [.lst .con (ns.map D.int), d1, d2, d3, d4, d5, d6, d7, d8]) ⟨_, _, _, _, _, _, _, _, rfl⟩ ?_ ?_
  · rintro i its ρ K hi ⟨d1, d2, d3, d4, d5, d6, d7, d8, rfl⟩ hk
    obtain ⟨rfl, hi2⟩ := rg_item hi
    simp only [wsR, wsX, wsA, wsI, wsN, wsRN, wsBk, wsCt, wsP, wsS, wsF, wsW, wAndV, wOrV, wNotV, wIf, wNeg, wCall, wBc, wBn, wCons, wNil, wTup, wLst, wOp, wCh, Bd.wT, wTr, wMn, wMe, wMe0, apF, popF, mtD, wPm, isTupD, cntF, ssF, lsF, wPA, wPC, reprF, wIxN, wLcN, wiZN, wsP3, wDct0, frzs_enc2, solids_enc2, solid_enc2, wBack, backD, intF, minPF, wAnd, wOr, Bd.wNot, wYes, wSl, wSo, wNo, wN_eq, wV_eq, wM_eq, getD0, getDs, nB_non, nB_bl, nB_int, nB_str, nB_opq, nB_own, nB_shr, nB_con, nB_down, nB_dshr, nB_dcon, nB_tup, nE_non, nE_bl, nE_int, nE_str, nE_opq, nE_own, nE_shr, nE_con, nE_down, nE_dshr, nE_dcon, nE_tup, nM_non, nM_bl, nM_int, nM_str, nM_opq, nM_own, nM_shr, nM_con, nM_down, nM_dshr, nM_dcon, nM_tup, wB, wC, c1, c2, isiF, lenF, sumF, maxF, minF, max2F, min2F, absF, divF, listF, tupF, sortF, allF, anyF, addD, mulD, Bd.intD, intD0, isB, truW, gb, gbs, outs, gN, gi1, gsC, gsN, gT, gS, gSn, evL, takeL, wBL, th_lst, th_dct, th_tup, th_int, th_bl, th_str, th_non, th_opq, setD, ixD, slD, isD, wCallF, wLc, wiS, wiZ, wiE, wiR1, wiR2, wiR3, seqQ, solids, D.solid, ints_solid, ints_frz, frzs, D.frz, List.set_cons_zero, List.set_cons_succ, if_true, if_false, Bool.false_eq_true, true_and, and_true, ite_true, ite_false, List.cons_append, List.nil_append, wipeD, reduceIte, List.length_cons, List.length_nil, reduceCtorEq, tyN_bool, tyN_int, tyN_str, tyN_tuple, tyN_list, tyN_dict, tyS_non, tyS_bl, tyS_int, tyS_str, tyS_tup, tyS_lst, tyS_dct, isi_non_bool, isi_non_int, isi_non_str, isi_non_tuple, isi_non_list, isi_non_dict, isi_bl_bool, isi_bl_int, isi_bl_str, isi_bl_tuple, isi_bl_list, isi_bl_dict, isi_int_bool, isi_int_int, isi_int_str, isi_int_tuple, isi_int_list, isi_int_dict, isi_str_bool, isi_str_int, isi_str_str, isi_str_tuple, isi_str_list, isi_str_dict, isi_tup_bool, isi_tup_int, isi_tup_str, isi_tup_tuple, isi_tup_list, isi_tup_dict, isi_lst_bool, isi_lst_int, isi_lst_str, isi_lst_tuple, isi_lst_list, isi_lst_dict, isi_dct_bool, isi_dct_int, isi_dct_str, isi_dct_tuple, isi_dct_list, isi_dct_dict, List.length_map, Bool.not_true, Bool.not_false, eqD, neD, eqTx, neTx, dec_if, dec_ifn, Bool.not_not, at0, at1, at2, ix0, ix1, ix2, Bd.ints_map, Bd.bls_map, Option.some.injEq, exists_eq_left', memD_lst, memD_tup, memD_str, isIn_nil, isIn_cons, isIn_ints, scal_int, scal_str, scal_bl, scal_non, scals_nil, scals_cons, scals_ints, shp_l1i, shp_l2i, shp_l3i, shp_t1i, shp_t2i, shp_t3i, dec_or, dec_orf, Bool.and_self, shp_non, shp_bl, shp_int, shp_tints, shp_lints, shp_tnil, shp_lnil, eqd_int, eqd_str, eqd_bl, eqd_non, eqd_tints, eqd_lints, eqd_lnil, eqd_tnil, shp_lenc, shp_tenc, List.map_eq_nil_iff]
    unfold w_law_1
    simp only [wsR, wsX, wsA, wsI, wsN, wsRN, wsBk, wsCt, wsP, wsS, wsF, wsW, wAndV, wOrV, wNotV, wIf, wNeg, wCall, wBc, wBn, wCons, wNil, wTup, wLst, wOp, wCh, Bd.wT, wTr, wMn, wMe, wMe0, apF, popF, mtD, wPm, isTupD, cntF, ssF, lsF, wPA, wPC, reprF, wIxN, wLcN, wiZN, wsP3, wDct0, frzs_enc2, solids_enc2, solid_enc2, wBack, backD, intF, minPF, wAnd, wOr, Bd.wNot, wYes, wSl, wSo, wNo, wN_eq, wV_eq, wM_eq, getD0, getDs, nB_non, nB_bl, nB_int, nB_str, nB_opq, nB_own, nB_shr, nB_con, nB_down, nB_dshr, nB_dcon, nB_tup, nE_non, nE_bl, nE_int, nE_str, nE_opq, nE_own, nE_shr, nE_con, nE_down, nE_dshr, nE_dcon, nE_tup, nM_non, nM_bl, nM_int, nM_str, nM_opq, nM_own, nM_shr, nM_con, nM_down, nM_dshr, nM_dcon, nM_tup, wB, wC, c1, c2, isiF, lenF, sumF, maxF, minF, max2F, min2F, absF, divF, listF, tupF, sortF, allF, anyF, addD, mulD, Bd.intD, intD0, isB, truW, gb, gbs, outs, gN, gi1, gsC, gsN, gT, gS, gSn, evL, takeL, wBL, th_lst, th_dct, th_tup, th_int, th_bl, th_str, th_non, th_opq, setD, ixD, slD, isD, wCallF, wLc, wiS, wiZ, wiE, wiR1, wiR2, wiR3, seqQ, solids, D.solid, ints_solid, ints_frz, frzs, D.frz, List.set_cons_zero, List.set_cons_succ, if_true, if_false, Bool.false_eq_true, true_and, and_true, ite_true, ite_false, List.cons_append, List.nil_append, wipeD, reduceIte, List.length_cons, List.length_nil, reduceCtorEq, tyN_bool, tyN_int, tyN_str, tyN_tuple, tyN_list, tyN_dict, tyS_non, tyS_bl, tyS_int, tyS_str, tyS_tup, tyS_lst, tyS_dct, isi_non_bool, isi_non_int, isi_non_str, isi_non_tuple, isi_non_list, isi_non_dict, isi_bl_bool, isi_bl_int, isi_bl_str, isi_bl_tuple, isi_bl_list, isi_bl_dict, isi_int_bool, isi_int_int, isi_int_str, isi_int_tuple, isi_int_list, isi_int_dict, isi_str_bool, isi_str_int, isi_str_str, isi_str_tuple, isi_str_list, isi_str_dict, isi_tup_bool, isi_tup_int, isi_tup_str, isi_tup_tuple, isi_tup_list, isi_tup_dict, isi_lst_bool, isi_lst_int, isi_lst_str, isi_lst_tuple, isi_lst_list, isi_lst_dict, isi_dct_bool, isi_dct_int, isi_dct_str, isi_dct_tuple, isi_dct_list, isi_dct_dict, List.length_map, Bool.not_true, Bool.not_false, eqD, neD, eqTx, neTx, dec_if, dec_ifn, Bool.not_not, at0, at1, at2, ix0, ix1, ix2, Bd.ints_map, Bd.bls_map, Option.some.injEq, exists_eq_left', memD_lst, memD_tup, memD_str, isIn_nil, isIn_cons, isIn_ints, scal_int, scal_str, scal_bl, scal_non, scals_nil, scals_cons, scals_ints, shp_l1i, shp_l2i, shp_l3i, shp_t1i, shp_t2i, shp_t3i, dec_or, dec_orf, Bool.and_self, shp_non, shp_bl, shp_int, shp_tints, shp_lints, shp_tnil, shp_lnil, eqd_int, eqd_str, eqd_bl, eqd_non, eqd_tints, eqd_lints, eqd_lnil, eqd_tnil, shp_lenc, shp_tenc, List.map_eq_nil_iff]
    refine ⟨ns, _, rfl, h1, by omega, by omega, fun a b hb => ?_⟩
    simp only [wsR, wsX, wsA, wsI, wsN, wsRN, wsBk, wsCt, wsP, wsS, wsF, wsW, wAndV, wOrV, wNotV, wIf, wNeg, wCall, wBc, wBn, wCons, wNil, wTup, wLst, wOp, wCh, Bd.wT, wTr, wMn, wMe, wMe0, apF, popF, mtD, wPm, isTupD, cntF, ssF, lsF, wPA, wPC, reprF, wIxN, wLcN, wiZN, wsP3, wDct0, frzs_enc2, solids_enc2, solid_enc2, wBack, backD, intF, minPF, wAnd, wOr, Bd.wNot, wYes, wSl, wSo, wNo, wN_eq, wV_eq, wM_eq, getD0, getDs, nB_non, nB_bl, nB_int, nB_str, nB_opq, nB_own, nB_shr, nB_con, nB_down, nB_dshr, nB_dcon, nB_tup, nE_non, nE_bl, nE_int, nE_str, nE_opq, nE_own, nE_shr, nE_con, nE_down, nE_dshr, nE_dcon, nE_tup, nM_non, nM_bl, nM_int, nM_str, nM_opq, nM_own, nM_shr, nM_con, nM_down, nM_dshr, nM_dcon, nM_tup, wB, wC, c1, c2, isiF, lenF, sumF, maxF, minF, max2F, min2F, absF, divF, listF, tupF, sortF, allF, anyF, addD, mulD, Bd.intD, intD0, isB, truW, gb, gbs, outs, gN, gi1, gsC, gsN, gT, gS, gSn, evL, takeL, wBL, th_lst, th_dct, th_tup, th_int, th_bl, th_str, th_non, th_opq, setD, ixD, slD, isD, wCallF, wLc, wiS, wiZ, wiE, wiR1, wiR2, wiR3, seqQ, solids, D.solid, ints_solid, ints_frz, frzs, D.frz, List.set_cons_zero, List.set_cons_succ, if_true, if_false, Bool.false_eq_true, true_and, and_true, ite_true, ite_false, List.cons_append, List.nil_append, wipeD, reduceIte, List.length_cons, List.length_nil, reduceCtorEq, tyN_bool, tyN_int, tyN_str, tyN_tuple, tyN_list, tyN_dict, tyS_non, tyS_bl, tyS_int, tyS_str, tyS_tup, tyS_lst, tyS_dct, isi_non_bool, isi_non_int, isi_non_str, isi_non_tuple, isi_non_list, isi_non_dict, isi_bl_bool, isi_bl_int, isi_bl_str, isi_bl_tuple, isi_bl_list, isi_bl_dict, isi_int_bool, isi_int_int, isi_int_str, isi_int_tuple, isi_int_list, isi_int_dict, isi_str_bool, isi_str_int, isi_str_str, isi_str_tuple, isi_str_list, isi_str_dict, isi_tup_bool, isi_tup_int, isi_tup_str, isi_tup_tuple, isi_tup_list, isi_tup_dict, isi_lst_bool, isi_lst_int, isi_lst_str, isi_lst_tuple, isi_lst_list, isi_lst_dict, isi_dct_bool, isi_dct_int, isi_dct_str, isi_dct_tuple, isi_dct_list, isi_dct_dict, List.length_map, Bool.not_true, Bool.not_false, eqD, neD, eqTx, neTx, dec_if, dec_ifn, Bool.not_not, at0, at1, at2, ix0, ix1, ix2, Bd.ints_map, Bd.bls_map, Option.some.injEq, exists_eq_left', memD_lst, memD_tup, memD_str, isIn_nil, isIn_cons, isIn_ints, scal_int, scal_str, scal_bl, scal_non, scals_nil, scals_cons, scals_ints, shp_l1i, shp_l2i, shp_l3i, shp_t1i, shp_t2i, shp_t3i, dec_or, dec_orf, Bool.and_self, shp_non, shp_bl, shp_int, shp_tints, shp_lints, shp_tnil, shp_lnil, eqd_int, eqd_str, eqd_bl, eqd_non, eqd_tints, eqd_lints, eqd_lnil, eqd_tnil, shp_lenc, shp_tenc, List.map_eq_nil_iff, box]
    unfold w_law_2
    simp only [wsR, wsX, wsA, wsI, wsN, wsRN, wsBk, wsCt, wsP, wsS, wsF, wsW, wAndV, wOrV, wNotV, wIf, wNeg, wCall, wBc, wBn, wCons, wNil, wTup, wLst, wOp, wCh, Bd.wT, wTr, wMn, wMe, wMe0, apF, popF, mtD, wPm, isTupD, cntF, ssF, lsF, wPA, wPC, reprF, wIxN, wLcN, wiZN, wsP3, wDct0, frzs_enc2, solids_enc2, solid_enc2, wBack, backD, intF, minPF, wAnd, wOr, Bd.wNot, wYes, wSl, wSo, wNo, wN_eq, wV_eq, wM_eq, getD0, getDs, nB_non, nB_bl, nB_int, nB_str, nB_opq, nB_own, nB_shr, nB_con, nB_down, nB_dshr, nB_dcon, nB_tup, nE_non, nE_bl, nE_int, nE_str, nE_opq, nE_own, nE_shr, nE_con, nE_down, nE_dshr, nE_dcon, nE_tup, nM_non, nM_bl, nM_int, nM_str, nM_opq, nM_own, nM_shr, nM_con, nM_down, nM_dshr, nM_dcon, nM_tup, wB, wC, c1, c2, isiF, lenF, sumF, maxF, minF, max2F, min2F, absF, divF, listF, tupF, sortF, allF, anyF, addD, mulD, Bd.intD, intD0, isB, truW, gb, gbs, outs, gN, gi1, gsC, gsN, gT, gS, gSn, evL, takeL, wBL, th_lst, th_dct, th_tup, th_int, th_bl, th_str, th_non, th_opq, setD, ixD, slD, isD, wCallF, wLc, wiS, wiZ, wiE, wiR1, wiR2, wiR3, seqQ, solids, D.solid, ints_solid, ints_frz, frzs, D.frz, List.set_cons_zero, List.set_cons_succ, if_true, if_false, Bool.false_eq_true, true_and, and_true, ite_true, ite_false, List.cons_append, List.nil_append, wipeD, reduceIte, List.length_cons, List.length_nil, reduceCtorEq, tyN_bool, tyN_int, tyN_str, tyN_tuple, tyN_list, tyN_dict, tyS_non, tyS_bl, tyS_int, tyS_str, tyS_tup, tyS_lst, tyS_dct, isi_non_bool, isi_non_int, isi_non_str, isi_non_tuple, isi_non_list, isi_non_dict, isi_bl_bool, isi_bl_int, isi_bl_str, isi_bl_tuple, isi_bl_list, isi_bl_dict, isi_int_bool, isi_int_int, isi_int_str, isi_int_tuple, isi_int_list, isi_int_dict, isi_str_bool, isi_str_int, isi_str_str, isi_str_tuple, isi_str_list, isi_str_dict, isi_tup_bool, isi_tup_int, isi_tup_str, isi_tup_tuple, isi_tup_list, isi_tup_dict, isi_lst_bool, isi_lst_int, isi_lst_str, isi_lst_tuple, isi_lst_list, isi_lst_dict, isi_dct_bool, isi_dct_int, isi_dct_str, isi_dct_tuple, isi_dct_list, isi_dct_dict, List.length_map, Bool.not_true, Bool.not_false, eqD, neD, eqTx, neTx, dec_if, dec_ifn, Bool.not_not, at0, at1, at2, ix0, ix1, ix2, Bd.ints_map, Bd.bls_map, Option.some.injEq, exists_eq_left', memD_lst, memD_tup, memD_str, isIn_nil, isIn_cons, isIn_ints, scal_int, scal_str, scal_bl, scal_non, scals_nil, scals_cons, scals_ints, shp_l1i, shp_l2i, shp_l3i, shp_t1i, shp_t2i, shp_t3i, dec_or, dec_orf, Bool.and_self, shp_non, shp_bl, shp_int, shp_tints, shp_lints, shp_tnil, shp_lnil, eqd_int, eqd_str, eqd_bl, eqd_non, eqd_tints, eqd_lints, eqd_lnil, eqd_tnil, shp_lenc, shp_tenc, List.map_eq_nil_iff]
    refine ⟨a, b, rfl, hb, fun a b ps hb hf => ?_⟩
    simp only [wsR, wsX, wsA, wsI, wsN, wsRN, wsBk, wsCt, wsP, wsS, wsF, wsW, wAndV, wOrV, wNotV, wIf, wNeg, wCall, wBc, wBn, wCons, wNil, wTup, wLst, wOp, wCh, Bd.wT, wTr, wMn, wMe, wMe0, apF, popF, mtD, wPm, isTupD, cntF, ssF, lsF, wPA, wPC, reprF, wIxN, wLcN, wiZN, wsP3, wDct0, frzs_enc2, solids_enc2, solid_enc2, wBack, backD, intF, minPF, wAnd, wOr, Bd.wNot, wYes, wSl, wSo, wNo, wN_eq, wV_eq, wM_eq, getD0, getDs, nB_non, nB_bl, nB_int, nB_str, nB_opq, nB_own, nB_shr, nB_con, nB_down, nB_dshr, nB_dcon, nB_tup, nE_non, nE_bl, nE_int, nE_str, nE_opq, nE_own, nE_shr, nE_con, nE_down, nE_dshr, nE_dcon, nE_tup, nM_non, nM_bl, nM_int, nM_str, nM_opq, nM_own, nM_shr, nM_con, nM_down, nM_dshr, nM_dcon, nM_tup, wB, wC, c1, c2, isiF, lenF, sumF, maxF, minF, max2F, min2F, absF, divF, listF, tupF, sortF, allF, anyF, addD, mulD, Bd.intD, intD0, isB, truW, gb, gbs, outs, gN, gi1, gsC, gsN, gT, gS, gSn, evL, takeL, wBL, th_lst, th_dct, th_tup, th_int, th_bl, th_str, th_non, th_opq, setD, ixD, slD, isD, wCallF, wLc, wiS, wiZ, wiE, wiR1, wiR2, wiR3, seqQ, solids, D.solid, ints_solid, ints_frz, frzs, D.frz, List.set_cons_zero, List.set_cons_succ, if_true, if_false, Bool.false_eq_true, true_and, and_true, ite_true, ite_false, List.cons_append, List.nil_append, wipeD, reduceIte, List.length_cons, List.length_nil, reduceCtorEq, tyN_bool, tyN_int, tyN_str, tyN_tuple, tyN_list, tyN_dict, tyS_non, tyS_bl, tyS_int, tyS_str, tyS_tup, tyS_lst, tyS_dct, isi_non_bool, isi_non_int, isi_non_str, isi_non_tuple, isi_non_list, isi_non_dict, isi_bl_bool, isi_bl_int, isi_bl_str, isi_bl_tuple, isi_bl_list, isi_bl_dict, isi_int_bool, isi_int_int, isi_int_str, isi_int_tuple, isi_int_list, isi_int_dict, isi_str_bool, isi_str_int, isi_str_str, isi_str_tuple, isi_str_list, isi_str_dict, isi_tup_bool, isi_tup_int, isi_tup_str, isi_tup_tuple, isi_tup_list, isi_tup_dict, isi_lst_bool, isi_lst_int, isi_lst_str, isi_lst_tuple, isi_lst_list, isi_lst_dict, isi_dct_bool, isi_dct_int, isi_dct_str, isi_dct_tuple, isi_dct_list, isi_dct_dict, List.length_map, Bool.not_true, Bool.not_false, eqD, neD, eqTx, neTx, dec_if, dec_ifn, Bool.not_not, at0, at1, at2, ix0, ix1, ix2, Bd.ints_map, Bd.bls_map, Option.some.injEq, exists_eq_left', memD_lst, memD_tup, memD_str, isIn_nil, isIn_cons, isIn_ints, scal_int, scal_str, scal_bl, scal_non, scals_nil, scals_cons, scals_ints, shp_l1i, shp_l2i, shp_l3i, shp_t1i, shp_t2i, shp_t3i, dec_or, dec_orf, Bool.and_self, shp_non, shp_bl, shp_int, shp_tints, shp_lints, shp_tnil, shp_lnil, eqd_int, eqd_str, eqd_bl, eqd_non, eqd_tints, eqd_lints, eqd_lnil, eqd_tnil, shp_lenc, shp_tenc, List.map_eq_nil_iff, box]
    have ht := sum_pos hf
    have hu : ps.sum ≤ 1000 * 10 := by
      have h := sum_ub fun p hp => (hf.2.2.1 p hp).2
      have := hf.2.1
      omega
    unfold w_law_3
    simp only [wsR, wsX, wsA, wsI, wsN, wsRN, wsBk, wsCt, wsP, wsS, wsF, wsW, wAndV, wOrV, wNotV, wIf, wNeg, wCall, wBc, wBn, wCons, wNil, wTup, wLst, wOp, wCh, Bd.wT, wTr, wMn, wMe, wMe0, apF, popF, mtD, wPm, isTupD, cntF, ssF, lsF, wPA, wPC, reprF, wIxN, wLcN, wiZN, wsP3, wDct0, frzs_enc2, solids_enc2, solid_enc2, wBack, backD, intF, minPF, wAnd, wOr, Bd.wNot, wYes, wSl, wSo, wNo, wN_eq, wV_eq, wM_eq, getD0, getDs, nB_non, nB_bl, nB_int, nB_str, nB_opq, nB_own, nB_shr, nB_con, nB_down, nB_dshr, nB_dcon, nB_tup, nE_non, nE_bl, nE_int, nE_str, nE_opq, nE_own, nE_shr, nE_con, nE_down, nE_dshr, nE_dcon, nE_tup, nM_non, nM_bl, nM_int, nM_str, nM_opq, nM_own, nM_shr, nM_con, nM_down, nM_dshr, nM_dcon, nM_tup, wB, wC, c1, c2, isiF, lenF, sumF, maxF, minF, max2F, min2F, absF, divF, listF, tupF, sortF, allF, anyF, addD, mulD, Bd.intD, intD0, isB, truW, gb, gbs, outs, gN, gi1, gsC, gsN, gT, gS, gSn, evL, takeL, wBL, th_lst, th_dct, th_tup, th_int, th_bl, th_str, th_non, th_opq, setD, ixD, slD, isD, wCallF, wLc, wiS, wiZ, wiE, wiR1, wiR2, wiR3, seqQ, solids, D.solid, ints_solid, ints_frz, frzs, D.frz, List.set_cons_zero, List.set_cons_succ, if_true, if_false, Bool.false_eq_true, true_and, and_true, ite_true, ite_false, List.cons_append, List.nil_append, wipeD, reduceIte, List.length_cons, List.length_nil, reduceCtorEq, tyN_bool, tyN_int, tyN_str, tyN_tuple, tyN_list, tyN_dict, tyS_non, tyS_bl, tyS_int, tyS_str, tyS_tup, tyS_lst, tyS_dct, isi_non_bool, isi_non_int, isi_non_str, isi_non_tuple, isi_non_list, isi_non_dict, isi_bl_bool, isi_bl_int, isi_bl_str, isi_bl_tuple, isi_bl_list, isi_bl_dict, isi_int_bool, isi_int_int, isi_int_str, isi_int_tuple, isi_int_list, isi_int_dict, isi_str_bool, isi_str_int, isi_str_str, isi_str_tuple, isi_str_list, isi_str_dict, isi_tup_bool, isi_tup_int, isi_tup_str, isi_tup_tuple, isi_tup_list, isi_tup_dict, isi_lst_bool, isi_lst_int, isi_lst_str, isi_lst_tuple, isi_lst_list, isi_lst_dict, isi_dct_bool, isi_dct_int, isi_dct_str, isi_dct_tuple, isi_dct_list, isi_dct_dict, List.length_map, Bool.not_true, Bool.not_false, eqD, neD, eqTx, neTx, dec_if, dec_ifn, Bool.not_not, at0, at1, at2, ix0, ix1, ix2, Bd.ints_map, Bd.bls_map, Option.some.injEq, exists_eq_left', memD_lst, memD_tup, memD_str, isIn_nil, isIn_cons, isIn_ints, scal_int, scal_str, scal_bl, scal_non, scals_nil, scals_cons, scals_ints, shp_l1i, shp_l2i, shp_l3i, shp_t1i, shp_t2i, shp_t3i, dec_or, dec_orf, Bool.and_self, shp_non, shp_bl, shp_int, shp_tints, shp_lints, shp_tnil, shp_lnil, eqd_int, eqd_str, eqd_bl, eqd_non, eqd_tints, eqd_lints, eqd_lnil, eqd_tnil, shp_lenc, shp_tenc, List.map_eq_nil_iff]
    unfold w_law_4
    simp only [wsR, wsX, wsA, wsI, wsN, wsRN, wsBk, wsCt, wsP, wsS, wsF, wsW, wAndV, wOrV, wNotV, wIf, wNeg, wCall, wBc, wBn, wCons, wNil, wTup, wLst, wOp, wCh, Bd.wT, wTr, wMn, wMe, wMe0, apF, popF, mtD, wPm, isTupD, cntF, ssF, lsF, wPA, wPC, reprF, wIxN, wLcN, wiZN, wsP3, wDct0, frzs_enc2, solids_enc2, solid_enc2, wBack, backD, intF, minPF, wAnd, wOr, Bd.wNot, wYes, wSl, wSo, wNo, wN_eq, wV_eq, wM_eq, getD0, getDs, nB_non, nB_bl, nB_int, nB_str, nB_opq, nB_own, nB_shr, nB_con, nB_down, nB_dshr, nB_dcon, nB_tup, nE_non, nE_bl, nE_int, nE_str, nE_opq, nE_own, nE_shr, nE_con, nE_down, nE_dshr, nE_dcon, nE_tup, nM_non, nM_bl, nM_int, nM_str, nM_opq, nM_own, nM_shr, nM_con, nM_down, nM_dshr, nM_dcon, nM_tup, wB, wC, c1, c2, isiF, lenF, sumF, maxF, minF, max2F, min2F, absF, divF, listF, tupF, sortF, allF, anyF, addD, mulD, Bd.intD, intD0, isB, truW, gb, gbs, outs, gN, gi1, gsC, gsN, gT, gS, gSn, evL, takeL, wBL, th_lst, th_dct, th_tup, th_int, th_bl, th_str, th_non, th_opq, setD, ixD, slD, isD, wCallF, wLc, wiS, wiZ, wiE, wiR1, wiR2, wiR3, seqQ, solids, D.solid, ints_solid, ints_frz, frzs, D.frz, List.set_cons_zero, List.set_cons_succ, if_true, if_false, Bool.false_eq_true, true_and, and_true, ite_true, ite_false, List.cons_append, List.nil_append, wipeD, reduceIte, List.length_cons, List.length_nil, reduceCtorEq, tyN_bool, tyN_int, tyN_str, tyN_tuple, tyN_list, tyN_dict, tyS_non, tyS_bl, tyS_int, tyS_str, tyS_tup, tyS_lst, tyS_dct, isi_non_bool, isi_non_int, isi_non_str, isi_non_tuple, isi_non_list, isi_non_dict, isi_bl_bool, isi_bl_int, isi_bl_str, isi_bl_tuple, isi_bl_list, isi_bl_dict, isi_int_bool, isi_int_int, isi_int_str, isi_int_tuple, isi_int_list, isi_int_dict, isi_str_bool, isi_str_int, isi_str_str, isi_str_tuple, isi_str_list, isi_str_dict, isi_tup_bool, isi_tup_int, isi_tup_str, isi_tup_tuple, isi_tup_list, isi_tup_dict, isi_lst_bool, isi_lst_int, isi_lst_str, isi_lst_tuple, isi_lst_list, isi_lst_dict, isi_dct_bool, isi_dct_int, isi_dct_str, isi_dct_tuple, isi_dct_list, isi_dct_dict, List.length_map, Bool.not_true, Bool.not_false, eqD, neD, eqTx, neTx, dec_if, dec_ifn, Bool.not_not, at0, at1, at2, ix0, ix1, ix2, Bd.ints_map, Bd.bls_map, Option.some.injEq, exists_eq_left', memD_lst, memD_tup, memD_str, isIn_nil, isIn_cons, isIn_ints, scal_int, scal_str, scal_bl, scal_non, scals_nil, scals_cons, scals_ints, shp_l1i, shp_l2i, shp_l3i, shp_t1i, shp_t2i, shp_t3i, dec_or, dec_orf, Bool.and_self, shp_non, shp_bl, shp_int, shp_tints, shp_lints, shp_tnil, shp_lnil, eqd_int, eqd_str, eqd_bl, eqd_non, eqd_tints, eqd_lints, eqd_lnil, eqd_tnil, shp_lenc, shp_tenc, List.map_eq_nil_iff]
    refine ⟨a, b, 20, rfl, hb, by decide, by decide, fun a b q1 hb q10 q11 => ?_⟩
    simp only [wsR, wsX, wsA, wsI, wsN, wsRN, wsBk, wsCt, wsP, wsS, wsF, wsW, wAndV, wOrV, wNotV, wIf, wNeg, wCall, wBc, wBn, wCons, wNil, wTup, wLst, wOp, wCh, Bd.wT, wTr, wMn, wMe, wMe0, apF, popF, mtD, wPm, isTupD, cntF, ssF, lsF, wPA, wPC, reprF, wIxN, wLcN, wiZN, wsP3, wDct0, frzs_enc2, solids_enc2, solid_enc2, wBack, backD, intF, minPF, wAnd, wOr, Bd.wNot, wYes, wSl, wSo, wNo, wN_eq, wV_eq, wM_eq, getD0, getDs, nB_non, nB_bl, nB_int, nB_str, nB_opq, nB_own, nB_shr, nB_con, nB_down, nB_dshr, nB_dcon, nB_tup, nE_non, nE_bl, nE_int, nE_str, nE_opq, nE_own, nE_shr, nE_con, nE_down, nE_dshr, nE_dcon, nE_tup, nM_non, nM_bl, nM_int, nM_str, nM_opq, nM_own, nM_shr, nM_con, nM_down, nM_dshr, nM_dcon, nM_tup, wB, wC, c1, c2, isiF, lenF, sumF, maxF, minF, max2F, min2F, absF, divF, listF, tupF, sortF, allF, anyF, addD, mulD, Bd.intD, intD0, isB, truW, gb, gbs, outs, gN, gi1, gsC, gsN, gT, gS, gSn, evL, takeL, wBL, th_lst, th_dct, th_tup, th_int, th_bl, th_str, th_non, th_opq, setD, ixD, slD, isD, wCallF, wLc, wiS, wiZ, wiE, wiR1, wiR2, wiR3, seqQ, solids, D.solid, ints_solid, ints_frz, frzs, D.frz, List.set_cons_zero, List.set_cons_succ, if_true, if_false, Bool.false_eq_true, true_and, and_true, ite_true, ite_false, List.cons_append, List.nil_append, wipeD, reduceIte, List.length_cons, List.length_nil, reduceCtorEq, tyN_bool, tyN_int, tyN_str, tyN_tuple, tyN_list, tyN_dict, tyS_non, tyS_bl, tyS_int, tyS_str, tyS_tup, tyS_lst, tyS_dct, isi_non_bool, isi_non_int, isi_non_str, isi_non_tuple, isi_non_list, isi_non_dict, isi_bl_bool, isi_bl_int, isi_bl_str, isi_bl_tuple, isi_bl_list, isi_bl_dict, isi_int_bool, isi_int_int, isi_int_str, isi_int_tuple, isi_int_list, isi_int_dict, isi_str_bool, isi_str_int, isi_str_str, isi_str_tuple, isi_str_list, isi_str_dict, isi_tup_bool, isi_tup_int, isi_tup_str, isi_tup_tuple, isi_tup_list, isi_tup_dict, isi_lst_bool, isi_lst_int, isi_lst_str, isi_lst_tuple, isi_lst_list, isi_lst_dict, isi_dct_bool, isi_dct_int, isi_dct_str, isi_dct_tuple, isi_dct_list, isi_dct_dict, List.length_map, Bool.not_true, Bool.not_false, eqD, neD, eqTx, neTx, dec_if, dec_ifn, Bool.not_not, at0, at1, at2, ix0, ix1, ix2, Bd.ints_map, Bd.bls_map, Option.some.injEq, exists_eq_left', memD_lst, memD_tup, memD_str, isIn_nil, isIn_cons, isIn_ints, scal_int, scal_str, scal_bl, scal_non, scals_nil, scals_cons, scals_ints, shp_l1i, shp_l2i, shp_l3i, shp_t1i, shp_t2i, shp_t3i, dec_or, dec_orf, Bool.and_self, shp_non, shp_bl, shp_int, shp_tints, shp_lints, shp_tnil, shp_lnil, eqd_int, eqd_str, eqd_bl, eqd_non, eqd_tints, eqd_lints, eqd_lnil, eqd_tnil, shp_lenc, shp_tenc, List.map_eq_nil_iff, box]
    refine ⟨a, b, 100001, rfl, hb, by decide, by decide, fun a b q2 hb q20 q21 => ?_⟩
    simp only [wsR, wsX, wsA, wsI, wsN, wsRN, wsBk, wsCt, wsP, wsS, wsF, wsW, wAndV, wOrV, wNotV, wIf, wNeg, wCall, wBc, wBn, wCons, wNil, wTup, wLst, wOp, wCh, Bd.wT, wTr, wMn, wMe, wMe0, apF, popF, mtD, wPm, isTupD, cntF, ssF, lsF, wPA, wPC, reprF, wIxN, wLcN, wiZN, wsP3, wDct0, frzs_enc2, solids_enc2, solid_enc2, wBack, backD, intF, minPF, wAnd, wOr, Bd.wNot, wYes, wSl, wSo, wNo, wN_eq, wV_eq, wM_eq, getD0, getDs, nB_non, nB_bl, nB_int, nB_str, nB_opq, nB_own, nB_shr, nB_con, nB_down, nB_dshr, nB_dcon, nB_tup, nE_non, nE_bl, nE_int, nE_str, nE_opq, nE_own, nE_shr, nE_con, nE_down, nE_dshr, nE_dcon, nE_tup, nM_non, nM_bl, nM_int, nM_str, nM_opq, nM_own, nM_shr, nM_con, nM_down, nM_dshr, nM_dcon, nM_tup, wB, wC, c1, c2, isiF, lenF, sumF, maxF, minF, max2F, min2F, absF, divF, listF, tupF, sortF, allF, anyF, addD, mulD, Bd.intD, intD0, isB, truW, gb, gbs, outs, gN, gi1, gsC, gsN, gT, gS, gSn, evL, takeL, wBL, th_lst, th_dct, th_tup, th_int, th_bl, th_str, th_non, th_opq, setD, ixD, slD, isD, wCallF, wLc, wiS, wiZ, wiE, wiR1, wiR2, wiR3, seqQ, solids, D.solid, ints_solid, ints_frz, frzs, D.frz, List.set_cons_zero, List.set_cons_succ, if_true, if_false, Bool.false_eq_true, true_and, and_true, ite_true, ite_false, List.cons_append, List.nil_append, wipeD, reduceIte, List.length_cons, List.length_nil, reduceCtorEq, tyN_bool, tyN_int, tyN_str, tyN_tuple, tyN_list, tyN_dict, tyS_non, tyS_bl, tyS_int, tyS_str, tyS_tup, tyS_lst, tyS_dct, isi_non_bool, isi_non_int, isi_non_str, isi_non_tuple, isi_non_list, isi_non_dict, isi_bl_bool, isi_bl_int, isi_bl_str, isi_bl_tuple, isi_bl_list, isi_bl_dict, isi_int_bool, isi_int_int, isi_int_str, isi_int_tuple, isi_int_list, isi_int_dict, isi_str_bool, isi_str_int, isi_str_str, isi_str_tuple, isi_str_list, isi_str_dict, isi_tup_bool, isi_tup_int, isi_tup_str, isi_tup_tuple, isi_tup_list, isi_tup_dict, isi_lst_bool, isi_lst_int, isi_lst_str, isi_lst_tuple, isi_lst_list, isi_lst_dict, isi_dct_bool, isi_dct_int, isi_dct_str, isi_dct_tuple, isi_dct_list, isi_dct_dict, List.length_map, Bool.not_true, Bool.not_false, eqD, neD, eqTx, neTx, dec_if, dec_ifn, Bool.not_not, at0, at1, at2, ix0, ix1, ix2, Bd.ints_map, Bd.bls_map, Option.some.injEq, exists_eq_left', memD_lst, memD_tup, memD_str, isIn_nil, isIn_cons, isIn_ints, scal_int, scal_str, scal_bl, scal_non, scals_nil, scals_cons, scals_ints, shp_l1i, shp_l2i, shp_l3i, shp_t1i, shp_t2i, shp_t3i, dec_or, dec_orf, Bool.and_self, shp_non, shp_bl, shp_int, shp_tints, shp_lints, shp_tnil, shp_lnil, eqd_int, eqd_str, eqd_bl, eqd_non, eqd_tints, eqd_lints, eqd_lnil, eqd_tnil, shp_lenc, shp_tenc, List.map_eq_nil_iff, box]
    refine ⟨by omega, ?_⟩
    have hm : ∀ m ∈ [0, 1, ps.sum, ps.sum + 1, ps.sum - 1, 100000, q1, q2], 0 ≤ m ∧ m ≤ 100000 := by
      intro m hm
      simp only [List.mem_cons, List.not_mem_nil, or_false] at hm
      rcases hm with rfl | rfl | rfl | rfl | rfl | rfl | rfl | rfl <;> omega
    have hml : [0, 1, ps.sum, ps.sum + 1, ps.sum - 1, 100000, q1, q2].length = 8 := rfl
    rw [show [D.int 0, D.int 1, D.int ps.sum, D.int (ps.sum + 1), D.int (ps.sum - 1), D.int 100000, D.int q1, D.int q2] = [0, 1, ps.sum, ps.sum + 1, ps.sum - 1, 100000, q1, q2].map D.int from rfl]
    generalize [0, 1, ps.sum, ps.sum + 1, ps.sum - 1, 100000, q1, q2] = ms at hm hml
    unfold w_law_5
    simp only [wsR, wsX, wsA, wsI, wsN, wsRN, wsBk, wsCt, wsP, wsS, wsF, wsW, wAndV, wOrV, wNotV, wIf, wNeg, wCall, wBc, wBn, wCons, wNil, wTup, wLst, wOp, wCh, Bd.wT, wTr, wMn, wMe, wMe0, apF, popF, mtD, wPm, isTupD, cntF, ssF, lsF, wPA, wPC, reprF, wIxN, wLcN, wiZN, wsP3, wDct0, frzs_enc2, solids_enc2, solid_enc2, wBack, backD, intF, minPF, wAnd, wOr, Bd.wNot, wYes, wSl, wSo, wNo, wN_eq, wV_eq, wM_eq, getD0, getDs, nB_non, nB_bl, nB_int, nB_str, nB_opq, nB_own, nB_shr, nB_con, nB_down, nB_dshr, nB_dcon, nB_tup, nE_non, nE_bl, nE_int, nE_str, nE_opq, nE_own, nE_shr, nE_con, nE_down, nE_dshr, nE_dcon, nE_tup, nM_non, nM_bl, nM_int, nM_str, nM_opq, nM_own, nM_shr, nM_con, nM_down, nM_dshr, nM_dcon, nM_tup, wB, wC, c1, c2, isiF, lenF, sumF, maxF, minF, max2F, min2F, absF, divF, listF, tupF, sortF, allF, anyF, addD, mulD, Bd.intD, intD0, isB, truW, gb, gbs, outs, gN, gi1, gsC, gsN, gT, gS, gSn, evL, takeL, wBL, th_lst, th_dct, th_tup, th_int, th_bl, th_str, th_non, th_opq, setD, ixD, slD, isD, wCallF, wLc, wiS, wiZ, wiE, wiR1, wiR2, wiR3, seqQ, solids, D.solid, ints_solid, ints_frz, frzs, D.frz, List.set_cons_zero, List.set_cons_succ, if_true, if_false, Bool.false_eq_true, true_and, and_true, ite_true, ite_false, List.cons_append, List.nil_append, wipeD, reduceIte, List.length_cons, List.length_nil, reduceCtorEq, tyN_bool, tyN_int, tyN_str, tyN_tuple, tyN_list, tyN_dict, tyS_non, tyS_bl, tyS_int, tyS_str, tyS_tup, tyS_lst, tyS_dct, isi_non_bool, isi_non_int, isi_non_str, isi_non_tuple, isi_non_list, isi_non_dict, isi_bl_bool, isi_bl_int, isi_bl_str, isi_bl_tuple, isi_bl_list, isi_bl_dict, isi_int_bool, isi_int_int, isi_int_str, isi_int_tuple, isi_int_list, isi_int_dict, isi_str_bool, isi_str_int, isi_str_str, isi_str_tuple, isi_str_list, isi_str_dict, isi_tup_bool, isi_tup_int, isi_tup_str, isi_tup_tuple, isi_tup_list, isi_tup_dict, isi_lst_bool, isi_lst_int, isi_lst_str, isi_lst_tuple, isi_lst_list, isi_lst_dict, isi_dct_bool, isi_dct_int, isi_dct_str, isi_dct_tuple, isi_dct_list, isi_dct_dict, List.length_map, Bool.not_true, Bool.not_false, eqD, neD, eqTx, neTx, dec_if, dec_ifn, Bool.not_not, at0, at1, at2, ix0, ix1, ix2, Bd.ints_map, Bd.bls_map, Option.some.injEq, exists_eq_left', memD_lst, memD_tup, memD_str, isIn_nil, isIn_cons, isIn_ints, scal_int, scal_str, scal_bl, scal_non, scals_nil, scals_cons, scals_ints, shp_l1i, shp_l2i, shp_l3i, shp_t1i, shp_t2i, shp_t3i, dec_or, dec_orf, Bool.and_self, shp_non, shp_bl, shp_int, shp_tints, shp_lints, shp_tnil, shp_lnil, eqd_int, eqd_str, eqd_bl, eqd_non, eqd_tints, eqd_lints, eqd_lnil, eqd_tnil, shp_lenc, shp_tenc, List.map_eq_nil_iff]
    refine ⟨by decide, by decide, by simp; omega, ?_⟩
    have hfr : frzs (List.map D.int ms ++ frzs (List.map D.int ms).reverse) = (ms ++ ms.reverse).map D.int := by
      rw [← List.map_reverse, ints_frz, ← List.map_append, ints_frz]
    rw [hfr, ones_map]
    refine forL_inv (fun _ ρ => ∃ d6 : D, ρ = [.lst .con (ns.map D.int), .int i, .lst .own [.int a, .int b], .tup (ps.map D.int), .int ps.sum, .lst .shr (ms.map D.int), d6, d7, d8]) ⟨_, rfl⟩ ?_ ?_
    · rintro j its ρ K2 hj ⟨d6, rfl⟩ hk2
      rw [List.getElem?_map] at hj
      obtain ⟨m, hm', rfl⟩ := Option.map_eq_some_iff.mp hj
      obtain ⟨m0, m1⟩ := hm m (by
        rcases List.mem_append.mp (List.mem_of_getElem? hm') with z | z
        · exact z
        · exact List.mem_reverse.mp z)
      simp only [wsR, wsX, wsA, wsI, wsN, wsRN, wsBk, wsCt, wsP, wsS, wsF, wsW, wAndV, wOrV, wNotV, wIf, wNeg, wCall, wBc, wBn, wCons, wNil, wTup, wLst, wOp, wCh, Bd.wT, wTr, wMn, wMe, wMe0, apF, popF, mtD, wPm, isTupD, cntF, ssF, lsF, wPA, wPC, reprF, wIxN, wLcN, wiZN, wsP3, wDct0, frzs_enc2, solids_enc2, solid_enc2, wBack, backD, intF, minPF, wAnd, wOr, Bd.wNot, wYes, wSl, wSo, wNo, wN_eq, wV_eq, wM_eq, getD0, getDs, nB_non, nB_bl, nB_int, nB_str, nB_opq, nB_own, nB_shr, nB_con, nB_down, nB_dshr, nB_dcon, nB_tup, nE_non, nE_bl, nE_int, nE_str, nE_opq, nE_own, nE_shr, nE_con, nE_down, nE_dshr, nE_dcon, nE_tup, nM_non, nM_bl, nM_int, nM_str, nM_opq, nM_own, nM_shr, nM_con, nM_down, nM_dshr, nM_dcon, nM_tup, wB, wC, c1, c2, isiF, lenF, sumF, maxF, minF, max2F, min2F, absF, divF, listF, tupF, sortF, allF, anyF, addD, mulD, Bd.intD, intD0, isB, truW, gb, gbs, outs, gN, gi1, gsC, gsN, gT, gS, gSn, evL, takeL, wBL, th_lst, th_dct, th_tup, th_int, th_bl, th_str, th_non, th_opq, setD, ixD, slD, isD, wCallF, wLc, wiS, wiZ, wiE, wiR1, wiR2, wiR3, seqQ, solids, D.solid, ints_solid, ints_frz, frzs, D.frz, List.set_cons_zero, List.set_cons_succ, if_true, if_false, Bool.false_eq_true, true_and, and_true, ite_true, ite_false, List.cons_append, List.nil_append, wipeD, reduceIte, List.length_cons, List.length_nil, reduceCtorEq, tyN_bool, tyN_int, tyN_str, tyN_tuple, tyN_list, tyN_dict, tyS_non, tyS_bl, tyS_int, tyS_str, tyS_tup, tyS_lst, tyS_dct, isi_non_bool, isi_non_int, isi_non_str, isi_non_tuple, isi_non_list, isi_non_dict, isi_bl_bool, isi_bl_int, isi_bl_str, isi_bl_tuple, isi_bl_list, isi_bl_dict, isi_int_bool, isi_int_int, isi_int_str, isi_int_tuple, isi_int_list, isi_int_dict, isi_str_bool, isi_str_int, isi_str_str, isi_str_tuple, isi_str_list, isi_str_dict, isi_tup_bool, isi_tup_int, isi_tup_str, isi_tup_tuple, isi_tup_list, isi_tup_dict, isi_lst_bool, isi_lst_int, isi_lst_str, isi_lst_tuple, isi_lst_list, isi_lst_dict, isi_dct_bool, isi_dct_int, isi_dct_str, isi_dct_tuple, isi_dct_list, isi_dct_dict, List.length_map, Bool.not_true, Bool.not_false, eqD, neD, eqTx, neTx, dec_if, dec_ifn, Bool.not_not, at0, at1, at2, ix0, ix1, ix2, Bd.ints_map, Bd.bls_map, Option.some.injEq, exists_eq_left', memD_lst, memD_tup, memD_str, isIn_nil, isIn_cons, isIn_ints, scal_int, scal_str, scal_bl, scal_non, scals_nil, scals_cons, scals_ints, shp_l1i, shp_l2i, shp_l3i, shp_t1i, shp_t2i, shp_t3i, dec_or, dec_orf, Bool.and_self, shp_non, shp_bl, shp_int, shp_tints, shp_lints, shp_tnil, shp_lnil, eqd_int, eqd_str, eqd_bl, eqd_non, eqd_tints, eqd_lints, eqd_lnil, eqd_tnil, shp_lenc, shp_tenc, List.map_eq_nil_iff]
      unfold w_law_6
      simp only [wsR, wsX, wsA, wsI, wsN, wsRN, wsBk, wsCt, wsP, wsS, wsF, wsW, wAndV, wOrV, wNotV, wIf, wNeg, wCall, wBc, wBn, wCons, wNil, wTup, wLst, wOp, wCh, Bd.wT, wTr, wMn, wMe, wMe0, apF, popF, mtD, wPm, isTupD, cntF, ssF, lsF, wPA, wPC, reprF, wIxN, wLcN, wiZN, wsP3, wDct0, frzs_enc2, solids_enc2, solid_enc2, wBack, backD, intF, minPF, wAnd, wOr, Bd.wNot, wYes, wSl, wSo, wNo, wN_eq, wV_eq, wM_eq, getD0, getDs, nB_non, nB_bl, nB_int, nB_str, nB_opq, nB_own, nB_shr, nB_con, nB_down, nB_dshr, nB_dcon, nB_tup, nE_non, nE_bl, nE_int, nE_str, nE_opq, nE_own, nE_shr, nE_con, nE_down, nE_dshr, nE_dcon, nE_tup, nM_non, nM_bl, nM_int, nM_str, nM_opq, nM_own, nM_shr, nM_con, nM_down, nM_dshr, nM_dcon, nM_tup, wB, wC, c1, c2, isiF, lenF, sumF, maxF, minF, max2F, min2F, absF, divF, listF, tupF, sortF, allF, anyF, addD, mulD, Bd.intD, intD0, isB, truW, gb, gbs, outs, gN, gi1, gsC, gsN, gT, gS, gSn, evL, takeL, wBL, th_lst, th_dct, th_tup, th_int, th_bl, th_str, th_non, th_opq, setD, ixD, slD, isD, wCallF, wLc, wiS, wiZ, wiE, wiR1, wiR2, wiR3, seqQ, solids, D.solid, ints_solid, ints_frz, frzs, D.frz, List.set_cons_zero, List.set_cons_succ, if_true, if_false, Bool.false_eq_true, true_and, and_true, ite_true, ite_false, List.cons_append, List.nil_append, wipeD, reduceIte, List.length_cons, List.length_nil, reduceCtorEq, tyN_bool, tyN_int, tyN_str, tyN_tuple, tyN_list, tyN_dict, tyS_non, tyS_bl, tyS_int, tyS_str, tyS_tup, tyS_lst, tyS_dct, isi_non_bool, isi_non_int, isi_non_str, isi_non_tuple, isi_non_list, isi_non_dict, isi_bl_bool, isi_bl_int, isi_bl_str, isi_bl_tuple, isi_bl_list, isi_bl_dict, isi_int_bool, isi_int_int, isi_int_str, isi_int_tuple, isi_int_list, isi_int_dict, isi_str_bool, isi_str_int, isi_str_str, isi_str_tuple, isi_str_list, isi_str_dict, isi_tup_bool, isi_tup_int, isi_tup_str, isi_tup_tuple, isi_tup_list, isi_tup_dict, isi_lst_bool, isi_lst_int, isi_lst_str, isi_lst_tuple, isi_lst_list, isi_lst_dict, isi_dct_bool, isi_dct_int, isi_dct_str, isi_dct_tuple, isi_dct_list, isi_dct_dict, List.length_map, Bool.not_true, Bool.not_false, eqD, neD, eqTx, neTx, dec_if, dec_ifn, Bool.not_not, at0, at1, at2, ix0, ix1, ix2, Bd.ints_map, Bd.bls_map, Option.some.injEq, exists_eq_left', memD_lst, memD_tup, memD_str, isIn_nil, isIn_cons, isIn_ints, scal_int, scal_str, scal_bl, scal_non, scals_nil, scals_cons, scals_ints, shp_l1i, shp_l2i, shp_l3i, shp_t1i, shp_t2i, shp_t3i, dec_or, dec_orf, Bool.and_self, shp_non, shp_bl, shp_int, shp_tints, shp_lints, shp_tnil, shp_lnil, eqd_int, eqd_str, eqd_bl, eqd_non, eqd_tints, eqd_lints, eqd_lnil, eqd_tnil, shp_lenc, shp_tenc, List.map_eq_nil_iff]
      refine ⟨_, _, rfl, bad_tup (ints_solid _), bad_int, fun xs e x hx => ?_, fun qs m' e1 _ e2 _ _ => ?_, fun h => absurd hf (h ps rfl), fun qs e1 _ hw => ?_⟩
      · injection e with e
        subst e
        obtain ⟨p, _, rfl⟩ := List.mem_map.mp hx
        exact bad_int
      · injection e1 with e1
        injection e2 with e2
        rw [← ints_inj e1, ← e2]
        simp only [wsR, wsX, wsA, wsI, wsN, wsRN, wsBk, wsCt, wsP, wsS, wsF, wsW, wAndV, wOrV, wNotV, wIf, wNeg, wCall, wBc, wBn, wCons, wNil, wTup, wLst, wOp, wCh, Bd.wT, wTr, wMn, wMe, wMe0, apF, popF, mtD, wPm, isTupD, cntF, ssF, lsF, wPA, wPC, reprF, wIxN, wLcN, wiZN, wsP3, wDct0, frzs_enc2, solids_enc2, solid_enc2, wBack, backD, intF, minPF, wAnd, wOr, Bd.wNot, wYes, wSl, wSo, wNo, wN_eq, wV_eq, wM_eq, getD0, getDs, nB_non, nB_bl, nB_int, nB_str, nB_opq, nB_own, nB_shr, nB_con, nB_down, nB_dshr, nB_dcon, nB_tup, nE_non, nE_bl, nE_int, nE_str, nE_opq, nE_own, nE_shr, nE_con, nE_down, nE_dshr, nE_dcon, nE_tup, nM_non, nM_bl, nM_int, nM_str, nM_opq, nM_own, nM_shr, nM_con, nM_down, nM_dshr, nM_dcon, nM_tup, wB, wC, c1, c2, isiF, lenF, sumF, maxF, minF, max2F, min2F, absF, divF, listF, tupF, sortF, allF, anyF, addD, mulD, Bd.intD, intD0, isB, truW, gb, gbs, outs, gN, gi1, gsC, gsN, gT, gS, gSn, evL, takeL, wBL, th_lst, th_dct, th_tup, th_int, th_bl, th_str, th_non, th_opq, setD, ixD, slD, isD, wCallF, wLc, wiS, wiZ, wiE, wiR1, wiR2, wiR3, seqQ, solids, D.solid, ints_solid, ints_frz, frzs, D.frz, List.set_cons_zero, List.set_cons_succ, if_true, if_false, Bool.false_eq_true, true_and, and_true, ite_true, ite_false, List.cons_append, List.nil_append, wipeD, reduceIte, List.length_cons, List.length_nil, reduceCtorEq, tyN_bool, tyN_int, tyN_str, tyN_tuple, tyN_list, tyN_dict, tyS_non, tyS_bl, tyS_int, tyS_str, tyS_tup, tyS_lst, tyS_dct, isi_non_bool, isi_non_int, isi_non_str, isi_non_tuple, isi_non_list, isi_non_dict, isi_bl_bool, isi_bl_int, isi_bl_str, isi_bl_tuple, isi_bl_list, isi_bl_dict, isi_int_bool, isi_int_int, isi_int_str, isi_int_tuple, isi_int_list, isi_int_dict, isi_str_bool, isi_str_int, isi_str_str, isi_str_tuple, isi_str_list, isi_str_dict, isi_tup_bool, isi_tup_int, isi_tup_str, isi_tup_tuple, isi_tup_list, isi_tup_dict, isi_lst_bool, isi_lst_int, isi_lst_str, isi_lst_tuple, isi_lst_list, isi_lst_dict, isi_dct_bool, isi_dct_int, isi_dct_str, isi_dct_tuple, isi_dct_list, isi_dct_dict, List.length_map, Bool.not_true, Bool.not_false, eqD, neD, eqTx, neTx, dec_if, dec_ifn, Bool.not_not, at0, at1, at2, ix0, ix1, ix2, Bd.ints_map, Bd.bls_map, Option.some.injEq, exists_eq_left', memD_lst, memD_tup, memD_str, isIn_nil, isIn_cons, isIn_ints, scal_int, scal_str, scal_bl, scal_non, scals_nil, scals_cons, scals_ints, shp_l1i, shp_l2i, shp_l3i, shp_t1i, shp_t2i, shp_t3i, dec_or, dec_orf, Bool.and_self, shp_non, shp_bl, shp_int, shp_tints, shp_lints, shp_tnil, shp_lnil, eqd_int, eqd_str, eqd_bl, eqd_non, eqd_tints, eqd_lints, eqd_lnil, eqd_tnil, shp_lenc, shp_tenc, List.map_eq_nil_iff]
        refine ⟨share_r hf m0 m1, ps, m, rfl, hf, m0, m1, ?_⟩
        simp only [wsR, wsX, wsA, wsI, wsN, wsRN, wsBk, wsCt, wsP, wsS, wsF, wsW, wAndV, wOrV, wNotV, wIf, wNeg, wCall, wBc, wBn, wCons, wNil, wTup, wLst, wOp, wCh, Bd.wT, wTr, wMn, wMe, wMe0, apF, popF, mtD, wPm, isTupD, cntF, ssF, lsF, wPA, wPC, reprF, wIxN, wLcN, wiZN, wsP3, wDct0, frzs_enc2, solids_enc2, solid_enc2, wBack, backD, intF, minPF, wAnd, wOr, Bd.wNot, wYes, wSl, wSo, wNo, wN_eq, wV_eq, wM_eq, getD0, getDs, nB_non, nB_bl, nB_int, nB_str, nB_opq, nB_own, nB_shr, nB_con, nB_down, nB_dshr, nB_dcon, nB_tup, nE_non, nE_bl, nE_int, nE_str, nE_opq, nE_own, nE_shr, nE_con, nE_down, nE_dshr, nE_dcon, nE_tup, nM_non, nM_bl, nM_int, nM_str, nM_opq, nM_own, nM_shr, nM_con, nM_down, nM_dshr, nM_dcon, nM_tup, wB, wC, c1, c2, isiF, lenF, sumF, maxF, minF, max2F, min2F, absF, divF, listF, tupF, sortF, allF, anyF, addD, mulD, Bd.intD, intD0, isB, truW, gb, gbs, outs, gN, gi1, gsC, gsN, gT, gS, gSn, evL, takeL, wBL, th_lst, th_dct, th_tup, th_int, th_bl, th_str, th_non, th_opq, setD, ixD, slD, isD, wCallF, wLc, wiS, wiZ, wiE, wiR1, wiR2, wiR3, seqQ, solids, D.solid, ints_solid, ints_frz, frzs, D.frz, List.set_cons_zero, List.set_cons_succ, if_true, if_false, Bool.false_eq_true, true_and, and_true, ite_true, ite_false, List.cons_append, List.nil_append, wipeD, reduceIte, List.length_cons, List.length_nil, reduceCtorEq, tyN_bool, tyN_int, tyN_str, tyN_tuple, tyN_list, tyN_dict, tyS_non, tyS_bl, tyS_int, tyS_str, tyS_tup, tyS_lst, tyS_dct, isi_non_bool, isi_non_int, isi_non_str, isi_non_tuple, isi_non_list, isi_non_dict, isi_bl_bool, isi_bl_int, isi_bl_str, isi_bl_tuple, isi_bl_list, isi_bl_dict, isi_int_bool, isi_int_int, isi_int_str, isi_int_tuple, isi_int_list, isi_int_dict, isi_str_bool, isi_str_int, isi_str_str, isi_str_tuple, isi_str_list, isi_str_dict, isi_tup_bool, isi_tup_int, isi_tup_str, isi_tup_tuple, isi_tup_list, isi_tup_dict, isi_lst_bool, isi_lst_int, isi_lst_str, isi_lst_tuple, isi_lst_list, isi_lst_dict, isi_dct_bool, isi_dct_int, isi_dct_str, isi_dct_tuple, isi_dct_list, isi_dct_dict, List.length_map, Bool.not_true, Bool.not_false, eqD, neD, eqTx, neTx, dec_if, dec_ifn, Bool.not_not, at0, at1, at2, ix0, ix1, ix2, Bd.ints_map, Bd.bls_map, Option.some.injEq, exists_eq_left', memD_lst, memD_tup, memD_str, isIn_nil, isIn_cons, isIn_ints, scal_int, scal_str, scal_bl, scal_non, scals_nil, scals_cons, scals_ints, shp_l1i, shp_l2i, shp_l3i, shp_t1i, shp_t2i, shp_t3i, dec_or, dec_orf, Bool.and_self, shp_non, shp_bl, shp_int, shp_tints, shp_lints, shp_tnil, shp_lnil, eqd_int, eqd_str, eqd_bl, eqd_non, eqd_tints, eqd_lints, eqd_lnil, eqd_tnil, shp_lenc, shp_tenc, List.map_eq_nil_iff]
        refine ⟨share_r hf m0 m1, ?_⟩
        exact hk2 _ ⟨_, rfl⟩
      · simp only [isWhole, Bool.and_eq_false_iff, decide_eq_false_iff_not] at hw
        omega
    · rintro ρ ⟨d6, rfl⟩
      clear hfr hm hml
      generalize hms : D.lst M.shr (List.map D.int ms) = d5
      have hc : Bd.cutD (List.map D.int ps) (some 1) none = (ps.drop 1).map D.int := by
        rw [cut_from (by decide), ← List.map_drop]; rfl
      have hl1 := hf.2.1
      have hd1 : ps.dropLast.length ≤ 10 := by rw [List.length_dropLast]; omega
      have hd2 : (ps.drop 1).length ≤ 10 := by rw [List.length_drop]; omega
      have hf1 : frzs (repD 10 [D.int 0]) = repD 10 [D.int 0] := rfl
      have hf2 : frzs (repD 11 [D.int 1]) = repD 11 [D.int 1] := rfl
      have hf3 : frzs (List.map D.int ps.dropLast ++ [D.int 1001]) = List.map D.int ps.dropLast ++ [D.int 1001] := by
        rw [show [D.int 1001] = [(1001 : Int)].map D.int from rfl, ← List.map_append, ints_frz]
      have hf4 : frzs (List.map D.int ps.dropLast ++ [D.str "1"]) = List.map D.int ps.dropLast ++ [D.str "1"] := by
        rw [frzs_app', ints_frz]; rfl
      unfold w_law_8
      simp only [wsR, wsX, wsA, wsI, wsN, wsRN, wsBk, wsCt, wsP, wsS, wsF, wsW, wAndV, wOrV, wNotV, wIf, wNeg, wCall, wBc, wBn, wCons, wNil, wTup, wLst, wOp, wCh, Bd.wT, wTr, wMn, wMe, wMe0, apF, popF, mtD, wPm, isTupD, cntF, ssF, lsF, wPA, wPC, reprF, wIxN, wLcN, wiZN, wsP3, wDct0, frzs_enc2, solids_enc2, solid_enc2, wBack, backD, intF, minPF, wAnd, wOr, Bd.wNot, wYes, wSl, wSo, wNo, wN_eq, wV_eq, wM_eq, getD0, getDs, nB_non, nB_bl, nB_int, nB_str, nB_opq, nB_own, nB_shr, nB_con, nB_down, nB_dshr, nB_dcon, nB_tup, nE_non, nE_bl, nE_int, nE_str, nE_opq, nE_own, nE_shr, nE_con, nE_down, nE_dshr, nE_dcon, nE_tup, nM_non, nM_bl, nM_int, nM_str, nM_opq, nM_own, nM_shr, nM_con, nM_down, nM_dshr, nM_dcon, nM_tup, wB, wC, c1, c2, isiF, lenF, sumF, maxF, minF, max2F, min2F, absF, divF, listF, tupF, sortF, allF, anyF, addD, mulD, Bd.intD, intD0, isB, truW, gb, gbs, outs, gN, gi1, gsC, gsN, gT, gS, gSn, evL, takeL, wBL, th_lst, th_dct, th_tup, th_int, th_bl, th_str, th_non, th_opq, setD, ixD, slD, isD, wCallF, wLc, wiS, wiZ, wiE, wiR1, wiR2, wiR3, seqQ, solids, D.solid, ints_solid, ints_frz, frzs, D.frz, List.set_cons_zero, List.set_cons_succ, if_true, if_false, Bool.false_eq_true, true_and, and_true, ite_true, ite_false, List.cons_append, List.nil_append, wipeD, reduceIte, List.length_cons, List.length_nil, reduceCtorEq, tyN_bool, tyN_int, tyN_str, tyN_tuple, tyN_list, tyN_dict, tyS_non, tyS_bl, tyS_int, tyS_str, tyS_tup, tyS_lst, tyS_dct, isi_non_bool, isi_non_int, isi_non_str, isi_non_tuple, isi_non_list, isi_non_dict, isi_bl_bool, isi_bl_int, isi_bl_str, isi_bl_tuple, isi_bl_list, isi_bl_dict, isi_int_bool, isi_int_int, isi_int_str, isi_int_tuple, isi_int_list, isi_int_dict, isi_str_bool, isi_str_int, isi_str_str, isi_str_tuple, isi_str_list, isi_str_dict, isi_tup_bool, isi_tup_int, isi_tup_str, isi_tup_tuple, isi_tup_list, isi_tup_dict, isi_lst_bool, isi_lst_int, isi_lst_str, isi_lst_tuple, isi_lst_list, isi_lst_dict, isi_dct_bool, isi_dct_int, isi_dct_str, isi_dct_tuple, isi_dct_list, isi_dct_dict, List.length_map, Bool.not_true, Bool.not_false, eqD, neD, eqTx, neTx, dec_if, dec_ifn, Bool.not_not, at0, at1, at2, ix0, ix1, ix2, Bd.ints_map, Bd.bls_map, Option.some.injEq, exists_eq_left', memD_lst, memD_tup, memD_str, isIn_nil, isIn_cons, isIn_ints, scal_int, scal_str, scal_bl, scal_non, scals_nil, scals_cons, scals_ints, shp_l1i, shp_l2i, shp_l3i, shp_t1i, shp_t2i, shp_t3i, dec_or, dec_orf, Bool.and_self, shp_non, shp_bl, shp_int, shp_tints, shp_lints, shp_tnil, shp_lnil, eqd_int, eqd_str, eqd_bl, eqd_non, eqd_tints, eqd_lints, eqd_lnil, eqd_tnil, shp_lenc, shp_tenc, List.map_eq_nil_iff, cut_but1, dropL, hc]
      refine ⟨by omega, by omega, by omega, List.cons_ne_nil _ _, by omega, by omega, by omega, by omega, List.cons_ne_nil _ _, by omega, by omega, by omega, by omega, by omega, by omega, by omega, by omega, ?_⟩
      unfold w_law_9
      simp only [wsR, wsX, wsA, wsI, wsN, wsRN, wsBk, wsCt, wsP, wsS, wsF, wsW, wAndV, wOrV, wNotV, wIf, wNeg, wCall, wBc, wBn, wCons, wNil, wTup, wLst, wOp, wCh, Bd.wT, wTr, wMn, wMe, wMe0, apF, popF, mtD, wPm, isTupD, cntF, ssF, lsF, wPA, wPC, reprF, wIxN, wLcN, wiZN, wsP3, wDct0, frzs_enc2, solids_enc2, solid_enc2, wBack, backD, intF, minPF, wAnd, wOr, Bd.wNot, wYes, wSl, wSo, wNo, wN_eq, wV_eq, wM_eq, getD0, getDs, nB_non, nB_bl, nB_int, nB_str, nB_opq, nB_own, nB_shr, nB_con, nB_down, nB_dshr, nB_dcon, nB_tup, nE_non, nE_bl, nE_int, nE_str, nE_opq, nE_own, nE_shr, nE_con, nE_down, nE_dshr, nE_dcon, nE_tup, nM_non, nM_bl, nM_int, nM_str, nM_opq, nM_own, nM_shr, nM_con, nM_down, nM_dshr, nM_dcon, nM_tup, wB, wC, c1, c2, isiF, lenF, sumF, maxF, minF, max2F, min2F, absF, divF, listF, tupF, sortF, allF, anyF, addD, mulD, Bd.intD, intD0, isB, truW, gb, gbs, outs, gN, gi1, gsC, gsN, gT, gS, gSn, evL, takeL, wBL, th_lst, th_dct, th_tup, th_int, th_bl, th_str, th_non, th_opq, setD, ixD, slD, isD, wCallF, wLc, wiS, wiZ, wiE, wiR1, wiR2, wiR3, seqQ, solids, D.solid, ints_solid, ints_frz, frzs, D.frz, List.set_cons_zero, List.set_cons_succ, if_true, if_false, Bool.false_eq_true, true_and, and_true, ite_true, ite_false, List.cons_append, List.nil_append, wipeD, reduceIte, List.length_cons, List.length_nil, reduceCtorEq, tyN_bool, tyN_int, tyN_str, tyN_tuple, tyN_list, tyN_dict, tyS_non, tyS_bl, tyS_int, tyS_str, tyS_tup, tyS_lst, tyS_dct, isi_non_bool, isi_non_int, isi_non_str, isi_non_tuple, isi_non_list, isi_non_dict, isi_bl_bool, isi_bl_int, isi_bl_str, isi_bl_tuple, isi_bl_list, isi_bl_dict, isi_int_bool, isi_int_int, isi_int_str, isi_int_tuple, isi_int_list, isi_int_dict, isi_str_bool, isi_str_int, isi_str_str, isi_str_tuple, isi_str_list, isi_str_dict, isi_tup_bool, isi_tup_int, isi_tup_str, isi_tup_tuple, isi_tup_list, isi_tup_dict, isi_lst_bool, isi_lst_int, isi_lst_str, isi_lst_tuple, isi_lst_list, isi_lst_dict, isi_dct_bool, isi_dct_int, isi_dct_str, isi_dct_tuple, isi_dct_list, isi_dct_dict, List.length_map, Bool.not_true, Bool.not_false, eqD, neD, eqTx, neTx, dec_if, dec_ifn, Bool.not_not, at0, at1, at2, ix0, ix1, ix2, Bd.ints_map, Bd.bls_map, Option.some.injEq, exists_eq_left', memD_lst, memD_tup, memD_str, isIn_nil, isIn_cons, isIn_ints, scal_int, scal_str, scal_bl, scal_non, scals_nil, scals_cons, scals_ints, shp_l1i, shp_l2i, shp_l3i, shp_t1i, shp_t2i, shp_t3i, dec_or, dec_orf, Bool.and_self, shp_non, shp_bl, shp_int, shp_tints, shp_lints, shp_tnil, shp_lnil, eqd_int, eqd_str, eqd_bl, eqd_non, eqd_tints, eqd_lints, eqd_lnil, eqd_tnil, shp_lenc, shp_tenc, List.map_eq_nil_iff, cut_but1, dropL, hc, hf1, hf2, hf3, hf4]
      refine ⟨by omega, by omega, by omega, by omega, by omega, by omega, by decide, by decide, by omega, ?_⟩
      have hall := bads_ok hf
      generalize [D.tup [], D.tup [D.int 0], D.tup (repD 10 [D.int 0]), D.tup (repD 11 [D.int 1]), D.lst M.shr (ps.map D.int), D.tup (ps.dropLast.map D.int ++ [D.int 1001]), D.tup (D.int (-1) :: (ps.drop 1).map D.int), D.tup (D.bl true :: (ps.drop 1).map D.int), D.non, D.str "", D.int 1, D.dct M.shr [] [], D.tup [D.non], D.tup (ps.dropLast.map D.int ++ [D.str "1"])] = bads at hall
      generalize D.lst M.own [D.tup [], D.tup [D.int 0], D.tup (repD 10 [D.int 0]), D.tup (repD 11 [D.int 1]), D.lst M.shr (ps.map D.int), D.tup (ps.dropLast.map D.int ++ [D.int 1001]), D.tup (D.int (-1) :: (ps.drop 1).map D.int)] = d7
      refine forL_inv (fun _ ρ => ∃ d6 d8 : D, ρ = [.lst .con (ns.map D.int), .int i, .lst .own [.int a, .int b], .tup (ps.map D.int), .int ps.sum, d5, d6, d7, d8]) ⟨_, _, rfl⟩ ?_ ?_
      · rintro j its ρ K2 hj ⟨d6, d8, rfl⟩ hk2
        unfold ones at hj
        rw [List.getElem?_map] at hj
        obtain ⟨d, hd, rfl⟩ := Option.map_eq_some_iff.mp hj
        obtain ⟨n1, n2, n3⟩ := hall d (List.mem_of_getElem? hd)
        simp only [wsR, wsX, wsA, wsI, wsN, wsRN, wsBk, wsCt, wsP, wsS, wsF, wsW, wAndV, wOrV, wNotV, wIf, wNeg, wCall, wBc, wBn, wCons, wNil, wTup, wLst, wOp, wCh, Bd.wT, wTr, wMn, wMe, wMe0, apF, popF, mtD, wPm, isTupD, cntF, ssF, lsF, wPA, wPC, reprF, wIxN, wLcN, wiZN, wsP3, wDct0, frzs_enc2, solids_enc2, solid_enc2, wBack, backD, intF, minPF, wAnd, wOr, Bd.wNot, wYes, wSl, wSo, wNo, wN_eq, wV_eq, wM_eq, getD0, getDs, nB_non, nB_bl, nB_int, nB_str, nB_opq, nB_own, nB_shr, nB_con, nB_down, nB_dshr, nB_dcon, nB_tup, nE_non, nE_bl, nE_int, nE_str, nE_opq, nE_own, nE_shr, nE_con, nE_down, nE_dshr, nE_dcon, nE_tup, nM_non, nM_bl, nM_int, nM_str, nM_opq, nM_own, nM_shr, nM_con, nM_down, nM_dshr, nM_dcon, nM_tup, wB, wC, c1, c2, isiF, lenF, sumF, maxF, minF, max2F, min2F, absF, divF, listF, tupF, sortF, allF, anyF, addD, mulD, Bd.intD, intD0, isB, truW, gb, gbs, outs, gN, gi1, gsC, gsN, gT, gS, gSn, evL, takeL, wBL, th_lst, th_dct, th_tup, th_int, th_bl, th_str, th_non, th_opq, setD, ixD, slD, isD, wCallF, wLc, wiS, wiZ, wiE, wiR1, wiR2, wiR3, seqQ, solids, D.solid, ints_solid, ints_frz, frzs, D.frz, List.set_cons_zero, List.set_cons_succ, if_true, if_false, Bool.false_eq_true, true_and, and_true, ite_true, ite_false, List.cons_append, List.nil_append, wipeD, reduceIte, List.length_cons, List.length_nil, reduceCtorEq, tyN_bool, tyN_int, tyN_str, tyN_tuple, tyN_list, tyN_dict, tyS_non, tyS_bl, tyS_int, tyS_str, tyS_tup, tyS_lst, tyS_dct, isi_non_bool, isi_non_int, isi_non_str, isi_non_tuple, isi_non_list, isi_non_dict, isi_bl_bool, isi_bl_int, isi_bl_str, isi_bl_tuple, isi_bl_list, isi_bl_dict, isi_int_bool, isi_int_int, isi_int_str, isi_int_tuple, isi_int_list, isi_int_dict, isi_str_bool, isi_str_int, isi_str_str, isi_str_tuple, isi_str_list, isi_str_dict, isi_tup_bool, isi_tup_int, isi_tup_str, isi_tup_tuple, isi_tup_list, isi_tup_dict, isi_lst_bool, isi_lst_int, isi_lst_str, isi_lst_tuple, isi_lst_list, isi_lst_dict, isi_dct_bool, isi_dct_int, isi_dct_str, isi_dct_tuple, isi_dct_list, isi_dct_dict, List.length_map, Bool.not_true, Bool.not_false, eqD, neD, eqTx, neTx, dec_if, dec_ifn, Bool.not_not, at0, at1, at2, ix0, ix1, ix2, Bd.ints_map, Bd.bls_map, Option.some.injEq, exists_eq_left', memD_lst, memD_tup, memD_str, isIn_nil, isIn_cons, isIn_ints, scal_int, scal_str, scal_bl, scal_non, scals_nil, scals_cons, scals_ints, shp_l1i, shp_l2i, shp_l3i, shp_t1i, shp_t2i, shp_t3i, dec_or, dec_orf, Bool.and_self, shp_non, shp_bl, shp_int, shp_tints, shp_lints, shp_tnil, shp_lnil, eqd_int, eqd_str, eqd_bl, eqd_non, eqd_tints, eqd_lints, eqd_lnil, eqd_tnil, shp_lenc, shp_tenc, List.map_eq_nil_iff]
        unfold w_law_10
        simp only [wsR, wsX, wsA, wsI, wsN, wsRN, wsBk, wsCt, wsP, wsS, wsF, wsW, wAndV, wOrV, wNotV, wIf, wNeg, wCall, wBc, wBn, wCons, wNil, wTup, wLst, wOp, wCh, Bd.wT, wTr, wMn, wMe, wMe0, apF, popF, mtD, wPm, isTupD, cntF, ssF, lsF, wPA, wPC, reprF, wIxN, wLcN, wiZN, wsP3, wDct0, frzs_enc2, solids_enc2, solid_enc2, wBack, backD, intF, minPF, wAnd, wOr, Bd.wNot, wYes, wSl, wSo, wNo, wN_eq, wV_eq, wM_eq, getD0, getDs, nB_non, nB_bl, nB_int, nB_str, nB_opq, nB_own, nB_shr, nB_con, nB_down, nB_dshr, nB_dcon, nB_tup, nE_non, nE_bl, nE_int, nE_str, nE_opq, nE_own, nE_shr, nE_con, nE_down, nE_dshr, nE_dcon, nE_tup, nM_non, nM_bl, nM_int, nM_str, nM_opq, nM_own, nM_shr, nM_con, nM_down, nM_dshr, nM_dcon, nM_tup, wB, wC, c1, c2, isiF, lenF, sumF, maxF, minF, max2F, min2F, absF, divF, listF, tupF, sortF, allF, anyF, addD, mulD, Bd.intD, intD0, isB, truW, gb, gbs, outs, gN, gi1, gsC, gsN, gT, gS, gSn, evL, takeL, wBL, th_lst, th_dct, th_tup, th_int, th_bl, th_str, th_non, th_opq, setD, ixD, slD, isD, wCallF, wLc, wiS, wiZ, wiE, wiR1, wiR2, wiR3, seqQ, solids, D.solid, ints_solid, ints_frz, frzs, D.frz, List.set_cons_zero, List.set_cons_succ, if_true, if_false, Bool.false_eq_true, true_and, and_true, ite_true, ite_false, List.cons_append, List.nil_append, wipeD, reduceIte, List.length_cons, List.length_nil, reduceCtorEq, tyN_bool, tyN_int, tyN_str, tyN_tuple, tyN_list, tyN_dict, tyS_non, tyS_bl, tyS_int, tyS_str, tyS_tup, tyS_lst, tyS_dct, isi_non_bool, isi_non_int, isi_non_str, isi_non_tuple, isi_non_list, isi_non_dict, isi_bl_bool, isi_bl_int, isi_bl_str, isi_bl_tuple, isi_bl_list, isi_bl_dict, isi_int_bool, isi_int_int, isi_int_str, isi_int_tuple, isi_int_list, isi_int_dict, isi_str_bool, isi_str_int, isi_str_str, isi_str_tuple, isi_str_list, isi_str_dict, isi_tup_bool, isi_tup_int, isi_tup_str, isi_tup_tuple, isi_tup_list, isi_tup_dict, isi_lst_bool, isi_lst_int, isi_lst_str, isi_lst_tuple, isi_lst_list, isi_lst_dict, isi_dct_bool, isi_dct_int, isi_dct_str, isi_dct_tuple, isi_dct_list, isi_dct_dict, List.length_map, Bool.not_true, Bool.not_false, eqD, neD, eqTx, neTx, dec_if, dec_ifn, Bool.not_not, at0, at1, at2, ix0, ix1, ix2, Bd.ints_map, Bd.bls_map, Option.some.injEq, exists_eq_left', memD_lst, memD_tup, memD_str, isIn_nil, isIn_cons, isIn_ints, scal_int, scal_str, scal_bl, scal_non, scals_nil, scals_cons, scals_ints, shp_l1i, shp_l2i, shp_l3i, shp_t1i, shp_t2i, shp_t3i, dec_or, dec_orf, Bool.and_self, shp_non, shp_bl, shp_int, shp_tints, shp_lints, shp_tnil, shp_lnil, eqd_int, eqd_str, eqd_bl, eqd_non, eqd_tints, eqd_lints, eqd_lnil, eqd_tnil, shp_lenc, shp_tenc, List.map_eq_nil_iff]
        refine ⟨by omega, ?_⟩
        have he : ∀ e ∈ [D.int 5, D.int (-1), D.non], bad e := by
          intro e he
          simp only [List.mem_cons, List.not_mem_nil, or_false] at he
          rcases he with rfl | rfl | rfl
          · exact bad_int
          · exact bad_int
          · exact bad_non
        generalize [D.int 5, D.int (-1), D.non] = es at he
        refine forL_inv (fun _ ρ => ∃ d6 : D, ρ = [.lst .con (ns.map D.int), .int i, .lst .own [.int a, .int b], .tup (ps.map D.int), .int ps.sum, d5, d6, d7, d]) ⟨_, rfl⟩ ?_ ?_
        · rintro j its ρ K3 hj ⟨d6, rfl⟩ hk3
          unfold ones at hj
          rw [List.getElem?_map] at hj
          obtain ⟨e, he', rfl⟩ := Option.map_eq_some_iff.mp hj
          have he := he e (List.mem_of_getElem? he')
          simp only [wsR, wsX, wsA, wsI, wsN, wsRN, wsBk, wsCt, wsP, wsS, wsF, wsW, wAndV, wOrV, wNotV, wIf, wNeg, wCall, wBc, wBn, wCons, wNil, wTup, wLst, wOp, wCh, Bd.wT, wTr, wMn, wMe, wMe0, apF, popF, mtD, wPm, isTupD, cntF, ssF, lsF, wPA, wPC, reprF, wIxN, wLcN, wiZN, wsP3, wDct0, frzs_enc2, solids_enc2, solid_enc2, wBack, backD, intF, minPF, wAnd, wOr, Bd.wNot, wYes, wSl, wSo, wNo, wN_eq, wV_eq, wM_eq, getD0, getDs, nB_non, nB_bl, nB_int, nB_str, nB_opq, nB_own, nB_shr, nB_con, nB_down, nB_dshr, nB_dcon, nB_tup, nE_non, nE_bl, nE_int, nE_str, nE_opq, nE_own, nE_shr, nE_con, nE_down, nE_dshr, nE_dcon, nE_tup, nM_non, nM_bl, nM_int, nM_str, nM_opq, nM_own, nM_shr, nM_con, nM_down, nM_dshr, nM_dcon, nM_tup, wB, wC, c1, c2, isiF, lenF, sumF, maxF, minF, max2F, min2F, absF, divF, listF, tupF, sortF, allF, anyF, addD, mulD, Bd.intD, intD0, isB, truW, gb, gbs, outs, gN, gi1, gsC, gsN, gT, gS, gSn, evL, takeL, wBL, th_lst, th_dct, th_tup, th_int, th_bl, th_str, th_non, th_opq, setD, ixD, slD, isD, wCallF, wLc, wiS, wiZ, wiE, wiR1, wiR2, wiR3, seqQ, solids, D.solid, ints_solid, ints_frz, frzs, D.frz, List.set_cons_zero, List.set_cons_succ, if_true, if_false, Bool.false_eq_true, true_and, and_true, ite_true, ite_false, List.cons_append, List.nil_append, wipeD, reduceIte, List.length_cons, List.length_nil, reduceCtorEq, tyN_bool, tyN_int, tyN_str, tyN_tuple, tyN_list, tyN_dict, tyS_non, tyS_bl, tyS_int, tyS_str, tyS_tup, tyS_lst, tyS_dct, isi_non_bool, isi_non_int, isi_non_str, isi_non_tuple, isi_non_list, isi_non_dict, isi_bl_bool, isi_bl_int, isi_bl_str, isi_bl_tuple, isi_bl_list, isi_bl_dict, isi_int_bool, isi_int_int, isi_int_str, isi_int_tuple, isi_int_list, isi_int_dict, isi_str_bool, isi_str_int, isi_str_str, isi_str_tuple, isi_str_list, isi_str_dict, isi_tup_bool, isi_tup_int, isi_tup_str, isi_tup_tuple, isi_tup_list, isi_tup_dict, isi_lst_bool, isi_lst_int, isi_lst_str, isi_lst_tuple, isi_lst_list, isi_lst_dict, isi_dct_bool, isi_dct_int, isi_dct_str, isi_dct_tuple, isi_dct_list, isi_dct_dict, List.length_map, Bool.not_true, Bool.not_false, eqD, neD, eqTx, neTx, dec_if, dec_ifn, Bool.not_not, at0, at1, at2, ix0, ix1, ix2, Bd.ints_map, Bd.bls_map, Option.some.injEq, exists_eq_left', memD_lst, memD_tup, memD_str, isIn_nil, isIn_cons, isIn_ints, scal_int, scal_str, scal_bl, scal_non, scals_nil, scals_cons, scals_ints, shp_l1i, shp_l2i, shp_l3i, shp_t1i, shp_t2i, shp_t3i, dec_or, dec_orf, Bool.and_self, shp_non, shp_bl, shp_int, shp_tints, shp_lints, shp_tnil, shp_lnil, eqd_int, eqd_str, eqd_bl, eqd_non, eqd_tints, eqd_lints, eqd_lnil, eqd_tnil, shp_lenc, shp_tenc, List.map_eq_nil_iff]
          unfold w_law_11
          simp only [wsR, wsX, wsA, wsI, wsN, wsRN, wsBk, wsCt, wsP, wsS, wsF, wsW, wAndV, wOrV, wNotV, wIf, wNeg, wCall, wBc, wBn, wCons, wNil, wTup, wLst, wOp, wCh, Bd.wT, wTr, wMn, wMe, wMe0, apF, popF, mtD, wPm, isTupD, cntF, ssF, lsF, wPA, wPC, reprF, wIxN, wLcN, wiZN, wsP3, wDct0, frzs_enc2, solids_enc2, solid_enc2, wBack, backD, intF, minPF, wAnd, wOr, Bd.wNot, wYes, wSl, wSo, wNo, wN_eq, wV_eq, wM_eq, getD0, getDs, nB_non, nB_bl, nB_int, nB_str, nB_opq, nB_own, nB_shr, nB_con, nB_down, nB_dshr, nB_dcon, nB_tup, nE_non, nE_bl, nE_int, nE_str, nE_opq, nE_own, nE_shr, nE_con, nE_down, nE_dshr, nE_dcon, nE_tup, nM_non, nM_bl, nM_int, nM_str, nM_opq, nM_own, nM_shr, nM_con, nM_down, nM_dshr, nM_dcon, nM_tup, wB, wC, c1, c2, isiF, lenF, sumF, maxF, minF, max2F, min2F, absF, divF, listF, tupF, sortF, allF, anyF, addD, mulD, Bd.intD, intD0, isB, truW, gb, gbs, outs, gN, gi1, gsC, gsN, gT, gS, gSn, evL, takeL, wBL, th_lst, th_dct, th_tup, th_int, th_bl, th_str, th_non, th_opq, setD, ixD, slD, isD, wCallF, wLc, wiS, wiZ, wiE, wiR1, wiR2, wiR3, seqQ, solids, D.solid, ints_solid, ints_frz, frzs, D.frz, List.set_cons_zero, List.set_cons_succ, if_true, if_false, Bool.false_eq_true, true_and, and_true, ite_true, ite_false, List.cons_append, List.nil_append, wipeD, reduceIte, List.length_cons, List.length_nil, reduceCtorEq, tyN_bool, tyN_int, tyN_str, tyN_tuple, tyN_list, tyN_dict, tyS_non, tyS_bl, tyS_int, tyS_str, tyS_tup, tyS_lst, tyS_dct, isi_non_bool, isi_non_int, isi_non_str, isi_non_tuple, isi_non_list, isi_non_dict, isi_bl_bool, isi_bl_int, isi_bl_str, isi_bl_tuple, isi_bl_list, isi_bl_dict, isi_int_bool, isi_int_int, isi_int_str, isi_int_tuple, isi_int_list, isi_int_dict, isi_str_bool, isi_str_int, isi_str_str, isi_str_tuple, isi_str_list, isi_str_dict, isi_tup_bool, isi_tup_int, isi_tup_str, isi_tup_tuple, isi_tup_list, isi_tup_dict, isi_lst_bool, isi_lst_int, isi_lst_str, isi_lst_tuple, isi_lst_list, isi_lst_dict, isi_dct_bool, isi_dct_int, isi_dct_str, isi_dct_tuple, isi_dct_list, isi_dct_dict, List.length_map, Bool.not_true, Bool.not_false, eqD, neD, eqTx, neTx, dec_if, dec_ifn, Bool.not_not, at0, at1, at2, ix0, ix1, ix2, Bd.ints_map, Bd.bls_map, Option.some.injEq, exists_eq_left', memD_lst, memD_tup, memD_str, isIn_nil, isIn_cons, isIn_ints, scal_int, scal_str, scal_bl, scal_non, scals_nil, scals_cons, scals_ints, shp_l1i, shp_l2i, shp_l3i, shp_t1i, shp_t2i, shp_t3i, dec_or, dec_orf, Bool.and_self, shp_non, shp_bl, shp_int, shp_tints, shp_lints, shp_tnil, shp_lnil, eqd_int, eqd_str, eqd_bl, eqd_non, eqd_tints, eqd_lints, eqd_lnil, eqd_tnil, shp_lenc, shp_tenc, List.map_eq_nil_iff, wKind, nB_bad n1, nB_bad he]
          refine ⟨d, e, rfl, n1, he, n2, fun qs m e1 h2 _ _ _ => absurd h2 (n3 qs e1), fun _ => ?_, fun qs e1 h2 _ => absurd h2 (n3 qs e1)⟩
          refine ⟨rfl, "fronts", ok_fronts, ?_⟩
          simp only [wsR, wsX, wsA, wsI, wsN, wsRN, wsBk, wsCt, wsP, wsS, wsF, wsW, wAndV, wOrV, wNotV, wIf, wNeg, wCall, wBc, wBn, wCons, wNil, wTup, wLst, wOp, wCh, Bd.wT, wTr, wMn, wMe, wMe0, apF, popF, mtD, wPm, isTupD, cntF, ssF, lsF, wPA, wPC, reprF, wIxN, wLcN, wiZN, wsP3, wDct0, frzs_enc2, solids_enc2, solid_enc2, wBack, backD, intF, minPF, wAnd, wOr, Bd.wNot, wYes, wSl, wSo, wNo, wN_eq, wV_eq, wM_eq, getD0, getDs, nB_non, nB_bl, nB_int, nB_str, nB_opq, nB_own, nB_shr, nB_con, nB_down, nB_dshr, nB_dcon, nB_tup, nE_non, nE_bl, nE_int, nE_str, nE_opq, nE_own, nE_shr, nE_con, nE_down, nE_dshr, nE_dcon, nE_tup, nM_non, nM_bl, nM_int, nM_str, nM_opq, nM_own, nM_shr, nM_con, nM_down, nM_dshr, nM_dcon, nM_tup, wB, wC, c1, c2, isiF, lenF, sumF, maxF, minF, max2F, min2F, absF, divF, listF, tupF, sortF, allF, anyF, addD, mulD, Bd.intD, intD0, isB, truW, gb, gbs, outs, gN, gi1, gsC, gsN, gT, gS, gSn, evL, takeL, wBL, th_lst, th_dct, th_tup, th_int, th_bl, th_str, th_non, th_opq, setD, ixD, slD, isD, wCallF, wLc, wiS, wiZ, wiE, wiR1, wiR2, wiR3, seqQ, solids, D.solid, ints_solid, ints_frz, frzs, D.frz, List.set_cons_zero, List.set_cons_succ, if_true, if_false, Bool.false_eq_true, true_and, and_true, ite_true, ite_false, List.cons_append, List.nil_append, wipeD, reduceIte, List.length_cons, List.length_nil, reduceCtorEq, tyN_bool, tyN_int, tyN_str, tyN_tuple, tyN_list, tyN_dict, tyS_non, tyS_bl, tyS_int, tyS_str, tyS_tup, tyS_lst, tyS_dct, isi_non_bool, isi_non_int, isi_non_str, isi_non_tuple, isi_non_list, isi_non_dict, isi_bl_bool, isi_bl_int, isi_bl_str, isi_bl_tuple, isi_bl_list, isi_bl_dict, isi_int_bool, isi_int_int, isi_int_str, isi_int_tuple, isi_int_list, isi_int_dict, isi_str_bool, isi_str_int, isi_str_str, isi_str_tuple, isi_str_list, isi_str_dict, isi_tup_bool, isi_tup_int, isi_tup_str, isi_tup_tuple, isi_tup_list, isi_tup_dict, isi_lst_bool, isi_lst_int, isi_lst_str, isi_lst_tuple, isi_lst_list, isi_lst_dict, isi_dct_bool, isi_dct_int, isi_dct_str, isi_dct_tuple, isi_dct_list, isi_dct_dict, List.length_map, Bool.not_true, Bool.not_false, eqD, neD, eqTx, neTx, dec_if, dec_ifn, Bool.not_not, at0, at1, at2, ix0, ix1, ix2, Bd.ints_map, Bd.bls_map, Option.some.injEq, exists_eq_left', memD_lst, memD_tup, memD_str, isIn_nil, isIn_cons, isIn_ints, scal_int, scal_str, scal_bl, scal_non, scals_nil, scals_cons, scals_ints, shp_l1i, shp_l2i, shp_l3i, shp_t1i, shp_t2i, shp_t3i, dec_or, dec_orf, Bool.and_self, shp_non, shp_bl, shp_int, shp_tints, shp_lints, shp_tnil, shp_lnil, eqd_int, eqd_str, eqd_bl, eqd_non, eqd_tints, eqd_lints, eqd_lnil, eqd_tnil, shp_lenc, shp_tenc, List.map_eq_nil_iff, sh_fronts]
          exact hk3 _ ⟨_, rfl⟩
        · rintro ρ ⟨d6, rfl⟩
          exact hk2 _ ⟨_, _, rfl⟩
      · rintro ρ ⟨d6, d8, rfl⟩
        unfold w_law_13
        simp only [wsR, wsX, wsA, wsI, wsN, wsRN, wsBk, wsCt, wsP, wsS, wsF, wsW, wAndV, wOrV, wNotV, wIf, wNeg, wCall, wBc, wBn, wCons, wNil, wTup, wLst, wOp, wCh, Bd.wT, wTr, wMn, wMe, wMe0, apF, popF, mtD, wPm, isTupD, cntF, ssF, lsF, wPA, wPC, reprF, wIxN, wLcN, wiZN, wsP3, wDct0, frzs_enc2, solids_enc2, solid_enc2, wBack, backD, intF, minPF, wAnd, wOr, Bd.wNot, wYes, wSl, wSo, wNo, wN_eq, wV_eq, wM_eq, getD0, getDs, nB_non, nB_bl, nB_int, nB_str, nB_opq, nB_own, nB_shr, nB_con, nB_down, nB_dshr, nB_dcon, nB_tup, nE_non, nE_bl, nE_int, nE_str, nE_opq, nE_own, nE_shr, nE_con, nE_down, nE_dshr, nE_dcon, nE_tup, nM_non, nM_bl, nM_int, nM_str, nM_opq, nM_own, nM_shr, nM_con, nM_down, nM_dshr, nM_dcon, nM_tup, wB, wC, c1, c2, isiF, lenF, sumF, maxF, minF, max2F, min2F, absF, divF, listF, tupF, sortF, allF, anyF, addD, mulD, Bd.intD, intD0, isB, truW, gb, gbs, outs, gN, gi1, gsC, gsN, gT, gS, gSn, evL, takeL, wBL, th_lst, th_dct, th_tup, th_int, th_bl, th_str, th_non, th_opq, setD, ixD, slD, isD, wCallF, wLc, wiS, wiZ, wiE, wiR1, wiR2, wiR3, seqQ, solids, D.solid, ints_solid, ints_frz, frzs, D.frz, List.set_cons_zero, List.set_cons_succ, if_true, if_false, Bool.false_eq_true, true_and, and_true, ite_true, ite_false, List.cons_append, List.nil_append, wipeD, reduceIte, List.length_cons, List.length_nil, reduceCtorEq, tyN_bool, tyN_int, tyN_str, tyN_tuple, tyN_list, tyN_dict, tyS_non, tyS_bl, tyS_int, tyS_str, tyS_tup, tyS_lst, tyS_dct, isi_non_bool, isi_non_int, isi_non_str, isi_non_tuple, isi_non_list, isi_non_dict, isi_bl_bool, isi_bl_int, isi_bl_str, isi_bl_tuple, isi_bl_list, isi_bl_dict, isi_int_bool, isi_int_int, isi_int_str, isi_int_tuple, isi_int_list, isi_int_dict, isi_str_bool, isi_str_int, isi_str_str, isi_str_tuple, isi_str_list, isi_str_dict, isi_tup_bool, isi_tup_int, isi_tup_str, isi_tup_tuple, isi_tup_list, isi_tup_dict, isi_lst_bool, isi_lst_int, isi_lst_str, isi_lst_tuple, isi_lst_list, isi_lst_dict, isi_dct_bool, isi_dct_int, isi_dct_str, isi_dct_tuple, isi_dct_list, isi_dct_dict, List.length_map, Bool.not_true, Bool.not_false, eqD, neD, eqTx, neTx, dec_if, dec_ifn, Bool.not_not, at0, at1, at2, ix0, ix1, ix2, Bd.ints_map, Bd.bls_map, Option.some.injEq, exists_eq_left', memD_lst, memD_tup, memD_str, isIn_nil, isIn_cons, isIn_ints, scal_int, scal_str, scal_bl, scal_non, scals_nil, scals_cons, scals_ints, shp_l1i, shp_l2i, shp_l3i, shp_t1i, shp_t2i, shp_t3i, dec_or, dec_orf, Bool.and_self, shp_non, shp_bl, shp_int, shp_tints, shp_lints, shp_tnil, shp_lnil, eqd_int, eqd_str, eqd_bl, eqd_non, eqd_tints, eqd_lints, eqd_lnil, eqd_tnil, shp_lenc, shp_tenc, List.map_eq_nil_iff]
        refine ⟨⟨by decide, by decide, by decide⟩, by omega, ?_⟩
        have he : ∀ e ∈ [D.int (-1), D.int 100001, D.int (10 ^ 19), D.bl true, D.non, D.str "1", D.tup [D.int 1]], bad e ∧ isWhole e 0 100000 = false := by
          intro e he
          simp only [List.mem_cons, List.not_mem_nil, or_false] at he
          rcases he with rfl | rfl | rfl | rfl | rfl | rfl | rfl
          all_goals exact ⟨⟨rfl, rfl⟩, rfl⟩
        refine ⟨by omega, ?_⟩
        rw [show Int.toNat 19 = 19 from rfl]
        generalize [D.int (-1), D.int 100001, D.int (10 ^ 19), D.bl true, D.non, D.str "1", D.tup [D.int 1]] = es at he
        refine forL_inv (fun _ ρ => ∃ d6 : D, ρ = [.lst .con (ns.map D.int), .int i, .lst .own [.int a, .int b], .tup (ps.map D.int), .int ps.sum, d5, d6, d7, d8]) ⟨_, rfl⟩ ?_ ?_
        · rintro j its ρ K3 hj ⟨d6, rfl⟩ hk3
          unfold ones at hj
          rw [List.getElem?_map] at hj
          obtain ⟨e, he', rfl⟩ := Option.map_eq_some_iff.mp hj
          obtain ⟨he, hw⟩ := he e (List.mem_of_getElem? he')
          simp only [wsR, wsX, wsA, wsI, wsN, wsRN, wsBk, wsCt, wsP, wsS, wsF, wsW, wAndV, wOrV, wNotV, wIf, wNeg, wCall, wBc, wBn, wCons, wNil, wTup, wLst, wOp, wCh, Bd.wT, wTr, wMn, wMe, wMe0, apF, popF, mtD, wPm, isTupD, cntF, ssF, lsF, wPA, wPC, reprF, wIxN, wLcN, wiZN, wsP3, wDct0, frzs_enc2, solids_enc2, solid_enc2, wBack, backD, intF, minPF, wAnd, wOr, Bd.wNot, wYes, wSl, wSo, wNo, wN_eq, wV_eq, wM_eq, getD0, getDs, nB_non, nB_bl, nB_int, nB_str, nB_opq, nB_own, nB_shr, nB_con, nB_down, nB_dshr, nB_dcon, nB_tup, nE_non, nE_bl, nE_int, nE_str, nE_opq, nE_own, nE_shr, nE_con, nE_down, nE_dshr, nE_dcon, nE_tup, nM_non, nM_bl, nM_int, nM_str, nM_opq, nM_own, nM_shr, nM_con, nM_down, nM_dshr, nM_dcon, nM_tup, wB, wC, c1, c2, isiF, lenF, sumF, maxF, minF, max2F, min2F, absF, divF, listF, tupF, sortF, allF, anyF, addD, mulD, Bd.intD, intD0, isB, truW, gb, gbs, outs, gN, gi1, gsC, gsN, gT, gS, gSn, evL, takeL, wBL, th_lst, th_dct, th_tup, th_int, th_bl, th_str, th_non, th_opq, setD, ixD, slD, isD, wCallF, wLc, wiS, wiZ, wiE, wiR1, wiR2, wiR3, seqQ, solids, D.solid, ints_solid, ints_frz, frzs, D.frz, List.set_cons_zero, List.set_cons_succ, if_true, if_false, Bool.false_eq_true, true_and, and_true, ite_true, ite_false, List.cons_append, List.nil_append, wipeD, reduceIte, List.length_cons, List.length_nil, reduceCtorEq, tyN_bool, tyN_int, tyN_str, tyN_tuple, tyN_list, tyN_dict, tyS_non, tyS_bl, tyS_int, tyS_str, tyS_tup, tyS_lst, tyS_dct, isi_non_bool, isi_non_int, isi_non_str, isi_non_tuple, isi_non_list, isi_non_dict, isi_bl_bool, isi_bl_int, isi_bl_str, isi_bl_tuple, isi_bl_list, isi_bl_dict, isi_int_bool, isi_int_int, isi_int_str, isi_int_tuple, isi_int_list, isi_int_dict, isi_str_bool, isi_str_int, isi_str_str, isi_str_tuple, isi_str_list, isi_str_dict, isi_tup_bool, isi_tup_int, isi_tup_str, isi_tup_tuple, isi_tup_list, isi_tup_dict, isi_lst_bool, isi_lst_int, isi_lst_str, isi_lst_tuple, isi_lst_list, isi_lst_dict, isi_dct_bool, isi_dct_int, isi_dct_str, isi_dct_tuple, isi_dct_list, isi_dct_dict, List.length_map, Bool.not_true, Bool.not_false, eqD, neD, eqTx, neTx, dec_if, dec_ifn, Bool.not_not, at0, at1, at2, ix0, ix1, ix2, Bd.ints_map, Bd.bls_map, Option.some.injEq, exists_eq_left', memD_lst, memD_tup, memD_str, isIn_nil, isIn_cons, isIn_ints, scal_int, scal_str, scal_bl, scal_non, scals_nil, scals_cons, scals_ints, shp_l1i, shp_l2i, shp_l3i, shp_t1i, shp_t2i, shp_t3i, dec_or, dec_orf, Bool.and_self, shp_non, shp_bl, shp_int, shp_tints, shp_lints, shp_tnil, shp_lnil, eqd_int, eqd_str, eqd_bl, eqd_non, eqd_tints, eqd_lints, eqd_lnil, eqd_tnil, shp_lenc, shp_tenc, List.map_eq_nil_iff]
          unfold w_law_14
          simp only [wsR, wsX, wsA, wsI, wsN, wsRN, wsBk, wsCt, wsP, wsS, wsF, wsW, wAndV, wOrV, wNotV, wIf, wNeg, wCall, wBc, wBn, wCons, wNil, wTup, wLst, wOp, wCh, Bd.wT, wTr, wMn, wMe, wMe0, apF, popF, mtD, wPm, isTupD, cntF, ssF, lsF, wPA, wPC, reprF, wIxN, wLcN, wiZN, wsP3, wDct0, frzs_enc2, solids_enc2, solid_enc2, wBack, backD, intF, minPF, wAnd, wOr, Bd.wNot, wYes, wSl, wSo, wNo, wN_eq, wV_eq, wM_eq, getD0, getDs, nB_non, nB_bl, nB_int, nB_str, nB_opq, nB_own, nB_shr, nB_con, nB_down, nB_dshr, nB_dcon, nB_tup, nE_non, nE_bl, nE_int, nE_str, nE_opq, nE_own, nE_shr, nE_con, nE_down, nE_dshr, nE_dcon, nE_tup, nM_non, nM_bl, nM_int, nM_str, nM_opq, nM_own, nM_shr, nM_con, nM_down, nM_dshr, nM_dcon, nM_tup, wB, wC, c1, c2, isiF, lenF, sumF, maxF, minF, max2F, min2F, absF, divF, listF, tupF, sortF, allF, anyF, addD, mulD, Bd.intD, intD0, isB, truW, gb, gbs, outs, gN, gi1, gsC, gsN, gT, gS, gSn, evL, takeL, wBL, th_lst, th_dct, th_tup, th_int, th_bl, th_str, th_non, th_opq, setD, ixD, slD, isD, wCallF, wLc, wiS, wiZ, wiE, wiR1, wiR2, wiR3, seqQ, solids, D.solid, ints_solid, ints_frz, frzs, D.frz, List.set_cons_zero, List.set_cons_succ, if_true, if_false, Bool.false_eq_true, true_and, and_true, ite_true, ite_false, List.cons_append, List.nil_append, wipeD, reduceIte, List.length_cons, List.length_nil, reduceCtorEq, tyN_bool, tyN_int, tyN_str, tyN_tuple, tyN_list, tyN_dict, tyS_non, tyS_bl, tyS_int, tyS_str, tyS_tup, tyS_lst, tyS_dct, isi_non_bool, isi_non_int, isi_non_str, isi_non_tuple, isi_non_list, isi_non_dict, isi_bl_bool, isi_bl_int, isi_bl_str, isi_bl_tuple, isi_bl_list, isi_bl_dict, isi_int_bool, isi_int_int, isi_int_str, isi_int_tuple, isi_int_list, isi_int_dict, isi_str_bool, isi_str_int, isi_str_str, isi_str_tuple, isi_str_list, isi_str_dict, isi_tup_bool, isi_tup_int, isi_tup_str, isi_tup_tuple, isi_tup_list, isi_tup_dict, isi_lst_bool, isi_lst_int, isi_lst_str, isi_lst_tuple, isi_lst_list, isi_lst_dict, isi_dct_bool, isi_dct_int, isi_dct_str, isi_dct_tuple, isi_dct_list, isi_dct_dict, List.length_map, Bool.not_true, Bool.not_false, eqD, neD, eqTx, neTx, dec_if, dec_ifn, Bool.not_not, at0, at1, at2, ix0, ix1, ix2, Bd.ints_map, Bd.bls_map, Option.some.injEq, exists_eq_left', memD_lst, memD_tup, memD_str, isIn_nil, isIn_cons, isIn_ints, scal_int, scal_str, scal_bl, scal_non, scals_nil, scals_cons, scals_ints, shp_l1i, shp_l2i, shp_l3i, shp_t1i, shp_t2i, shp_t3i, dec_or, dec_orf, Bool.and_self, shp_non, shp_bl, shp_int, shp_tints, shp_lints, shp_tnil, shp_lnil, eqd_int, eqd_str, eqd_bl, eqd_non, eqd_tints, eqd_lints, eqd_lnil, eqd_tnil, shp_lenc, shp_tenc, List.map_eq_nil_iff, wKind, nB_bad he]
          refine ⟨_, e, rfl, bad_tup (ints_solid _), he, fun xs e1 x hx => ?_, fun qs m _ _ e2 m0 m1 => ?_, fun h => absurd hf (h ps rfl), fun qs e1 h2 _ => ?_⟩
          · injection e1 with e1
            subst e1
            obtain ⟨p, _, rfl⟩ := List.mem_map.mp hx
            exact bad_int
          · subst e2
            simp only [isWhole, Bool.and_eq_false_iff, decide_eq_false_iff_not] at hw
            omega
          · refine ⟨rfl, "number", ok_number, ?_⟩
            simp only [wsR, wsX, wsA, wsI, wsN, wsRN, wsBk, wsCt, wsP, wsS, wsF, wsW, wAndV, wOrV, wNotV, wIf, wNeg, wCall, wBc, wBn, wCons, wNil, wTup, wLst, wOp, wCh, Bd.wT, wTr, wMn, wMe, wMe0, apF, popF, mtD, wPm, isTupD, cntF, ssF, lsF, wPA, wPC, reprF, wIxN, wLcN, wiZN, wsP3, wDct0, frzs_enc2, solids_enc2, solid_enc2, wBack, backD, intF, minPF, wAnd, wOr, Bd.wNot, wYes, wSl, wSo, wNo, wN_eq, wV_eq, wM_eq, getD0, getDs, nB_non, nB_bl, nB_int, nB_str, nB_opq, nB_own, nB_shr, nB_con, nB_down, nB_dshr, nB_dcon, nB_tup, nE_non, nE_bl, nE_int, nE_str, nE_opq, nE_own, nE_shr, nE_con, nE_down, nE_dshr, nE_dcon, nE_tup, nM_non, nM_bl, nM_int, nM_str, nM_opq, nM_own, nM_shr, nM_con, nM_down, nM_dshr, nM_dcon, nM_tup, wB, wC, c1, c2, isiF, lenF, sumF, maxF, minF, max2F, min2F, absF, divF, listF, tupF, sortF, allF, anyF, addD, mulD, Bd.intD, intD0, isB, truW, gb, gbs, outs, gN, gi1, gsC, gsN, gT, gS, gSn, evL, takeL, wBL, th_lst, th_dct, th_tup, th_int, th_bl, th_str, th_non, th_opq, setD, ixD, slD, isD, wCallF, wLc, wiS, wiZ, wiE, wiR1, wiR2, wiR3, seqQ, solids, D.solid, ints_solid, ints_frz, frzs, D.frz, List.set_cons_zero, List.set_cons_succ, if_true, if_false, Bool.false_eq_true, true_and, and_true, ite_true, ite_false, List.cons_append, List.nil_append, wipeD, reduceIte, List.length_cons, List.length_nil, reduceCtorEq, tyN_bool, tyN_int, tyN_str, tyN_tuple, tyN_list, tyN_dict, tyS_non, tyS_bl, tyS_int, tyS_str, tyS_tup, tyS_lst, tyS_dct, isi_non_bool, isi_non_int, isi_non_str, isi_non_tuple, isi_non_list, isi_non_dict, isi_bl_bool, isi_bl_int, isi_bl_str, isi_bl_tuple, isi_bl_list, isi_bl_dict, isi_int_bool, isi_int_int, isi_int_str, isi_int_tuple, isi_int_list, isi_int_dict, isi_str_bool, isi_str_int, isi_str_str, isi_str_tuple, isi_str_list, isi_str_dict, isi_tup_bool, isi_tup_int, isi_tup_str, isi_tup_tuple, isi_tup_list, isi_tup_dict, isi_lst_bool, isi_lst_int, isi_lst_str, isi_lst_tuple, isi_lst_list, isi_lst_dict, isi_dct_bool, isi_dct_int, isi_dct_str, isi_dct_tuple, isi_dct_list, isi_dct_dict, List.length_map, Bool.not_true, Bool.not_false, eqD, neD, eqTx, neTx, dec_if, dec_ifn, Bool.not_not, at0, at1, at2, ix0, ix1, ix2, Bd.ints_map, Bd.bls_map, Option.some.injEq, exists_eq_left', memD_lst, memD_tup, memD_str, isIn_nil, isIn_cons, isIn_ints, scal_int, scal_str, scal_bl, scal_non, scals_nil, scals_cons, scals_ints, shp_l1i, shp_l2i, shp_l3i, shp_t1i, shp_t2i, shp_t3i, dec_or, dec_orf, Bool.and_self, shp_non, shp_bl, shp_int, shp_tints, shp_lints, shp_tnil, shp_lnil, eqd_int, eqd_str, eqd_bl, eqd_non, eqd_tints, eqd_lints, eqd_lnil, eqd_tnil, shp_lenc, shp_tenc, List.map_eq_nil_iff, sh_number]
            exact hk3 _ ⟨_, rfl⟩
        · rintro ρ ⟨d6, rfl⟩
          exact hk _ ⟨_, _, _, _, _, _, _, _, rfl⟩
  · rintro ρ ⟨d1, d2, d3, d4, d5, d6, d7, d8, rfl⟩
    unfold w_law_16
    simp only [wsR, wsX, wsA, wsI, wsN, wsRN, wsBk, wsCt, wsP, wsS, wsF, wsW, wAndV, wOrV, wNotV, wIf, wNeg, wCall, wBc, wBn, wCons, wNil, wTup, wLst, wOp, wCh, Bd.wT, wTr, wMn, wMe, wMe0, apF, popF, mtD, wPm, isTupD, cntF, ssF, lsF, wPA, wPC, reprF, wIxN, wLcN, wiZN, wsP3, wDct0, frzs_enc2, solids_enc2, solid_enc2, wBack, backD, intF, minPF, wAnd, wOr, Bd.wNot, wYes, wSl, wSo, wNo, wN_eq, wV_eq, wM_eq, getD0, getDs, nB_non, nB_bl, nB_int, nB_str, nB_opq, nB_own, nB_shr, nB_con, nB_down, nB_dshr, nB_dcon, nB_tup, nE_non, nE_bl, nE_int, nE_str, nE_opq, nE_own, nE_shr, nE_con, nE_down, nE_dshr, nE_dcon, nE_tup, nM_non, nM_bl, nM_int, nM_str, nM_opq, nM_own, nM_shr, nM_con, nM_down, nM_dshr, nM_dcon, nM_tup, wB, wC, c1, c2, isiF, lenF, sumF, maxF, minF, max2F, min2F, absF, divF, listF, tupF, sortF, allF, anyF, addD, mulD, Bd.intD, intD0, isB, truW, gb, gbs, outs, gN, gi1, gsC, gsN, gT, gS, gSn, evL, takeL, wBL, th_lst, th_dct, th_tup, th_int, th_bl, th_str, th_non, th_opq, setD, ixD, slD, isD, wCallF, wLc, wiS, wiZ, wiE, wiR1, wiR2, wiR3, seqQ, solids, D.solid, ints_solid, ints_frz, frzs, D.frz, List.set_cons_zero, List.set_cons_succ, if_true, if_false, Bool.false_eq_true, true_and, and_true, ite_true, ite_false, List.cons_append, List.nil_append, wipeD, reduceIte, List.length_cons, List.length_nil, reduceCtorEq, tyN_bool, tyN_int, tyN_str, tyN_tuple, tyN_list, tyN_dict, tyS_non, tyS_bl, tyS_int, tyS_str, tyS_tup, tyS_lst, tyS_dct, isi_non_bool, isi_non_int, isi_non_str, isi_non_tuple, isi_non_list, isi_non_dict, isi_bl_bool, isi_bl_int, isi_bl_str, isi_bl_tuple, isi_bl_list, isi_bl_dict, isi_int_bool, isi_int_int, isi_int_str, isi_int_tuple, isi_int_list, isi_int_dict, isi_str_bool, isi_str_int, isi_str_str, isi_str_tuple, isi_str_list, isi_str_dict, isi_tup_bool, isi_tup_int, isi_tup_str, isi_tup_tuple, isi_tup_list, isi_tup_dict, isi_lst_bool, isi_lst_int, isi_lst_str, isi_lst_tuple, isi_lst_list, isi_lst_dict, isi_dct_bool, isi_dct_int, isi_dct_str, isi_dct_tuple, isi_dct_list, isi_dct_dict, List.length_map, Bool.not_true, Bool.not_false, eqD, neD, eqTx, neTx, dec_if, dec_ifn, Bool.not_not, at0, at1, at2, ix0, ix1, ix2, Bd.ints_map, Bd.bls_map, Option.some.injEq, exists_eq_left', memD_lst, memD_tup, memD_str, isIn_nil, isIn_cons, isIn_ints, scal_int, scal_str, scal_bl, scal_non, scals_nil, scals_cons, scals_ints, shp_l1i, shp_l2i, shp_l3i, shp_t1i, shp_t2i, shp_t3i, dec_or, dec_orf, Bool.and_self, shp_non, shp_bl, shp_int, shp_tints, shp_lints, shp_tnil, shp_lnil, eqd_int, eqd_str, eqd_bl, eqd_non, eqd_tints, eqd_lints, eqd_lnil, eqd_tnil, shp_lenc, shp_tenc, List.map_eq_nil_iff]
    exact h3 _
end K07

namespace K07
open PySem PySem.Spec PyProof.Rows L2 Bd
theorem ok_is_whole {P : Program} {w : PySem.World} {K : PySem.W.Frag} {mg : Str → Option Value} {base : Heap} {T : List (Addr × Str)} {f : Addr} {fd : FuncData} (h : Hd mg)  (F : FunD K "is_whole" "is_whole" (defArgs s_is_whole) (defBody s_is_whole) (defScope s_is_whole) [] [] f fd) : FnG P w K mg base 1 f fd ["thing", "low", "high"] (spD K T S_is_whole) :=
  Bd.FunD.okG F sc_is_whole rfl SL_is_whole r_is_whole (b_is_whole h )
theorem fc_is_whole {P : Program} {w : PySem.World} {K : PySem.W.Frag} {mg : Str → Option Value} {base : Heap} {T : List (Addr × Str)} {f : Addr} {fd : FuncData} (h : Hd mg)  (F : FunD K "is_whole" "is_whole" (defArgs s_is_whole) (defBody s_is_whole) (defScope s_is_whole) [] [] f fd) (hm : mg "is_whole" = some (.ref f)) : FnC P w K mg base T 1 "is_whole" ["thing", "low", "high"] S_is_whole :=
  ⟨_, _, ok_is_whole h  F, hm, F.kp, F.bindsN fun _ _ _ _ _ _ us hl => match us, hl with | [_, _, _], _ => rfl⟩
theorem ok_shares_by {P : Program} {w : PySem.World} {K : PySem.W.Frag} {mg : Str → Option Value} {base : Heap} {T : List (Addr × Str)} {f : Addr} {fd : FuncData} (h : Hd mg)  (F : FunD K "shares_by" "shares_by" (defArgs s_shares_by) (defBody s_shares_by) (defScope s_shares_by) [] [] f fd) : FnG P w K mg base 1 f fd ["parts", "many"] (spD K T S_shares_by) :=
  Bd.FunD.okG F sc_shares_by rfl SL_shares_by r_shares_by (b_shares_by h )
theorem fc_shares_by {P : Program} {w : PySem.World} {K : PySem.W.Frag} {mg : Str → Option Value} {base : Heap} {T : List (Addr × Str)} {f : Addr} {fd : FuncData} (h : Hd mg)  (F : FunD K "shares_by" "shares_by" (defArgs s_shares_by) (defBody s_shares_by) (defScope s_shares_by) [] [] f fd) (hm : mg "shares_by" = some (.ref f)) : FnC P w K mg base T 1 "shares_by" ["parts", "many"] S_shares_by :=
  ⟨_, _, ok_shares_by h  F, hm, F.kp, F.bindsN fun _ _ _ _ _ _ us hl => match us, hl with | [_, _], _ => rfl⟩
theorem ok_shared {P : Program} {w : PySem.World} {K : PySem.W.Frag} {mg : Str → Option Value} {base : Heap} {T : List (Addr × Str)} {f : Addr} {fd : FuncData} (h : Hd mg) (xh : Hx mg K) (c_is_whole : FnC P w K mg base T 1 "is_whole" ["thing", "low", "high"] S_is_whole) (c_shares_by : FnC P w K mg base T 1 "shares_by" ["parts", "many"] S_shares_by) (F : FunD K "shared" "shared" (defArgs s_shared) (defBody s_shared) (defScope s_shared) [] [] f fd) : FnG P w K mg base 2 f fd ["parts", "many"] (spD K T S_shared) :=
  Bd.FunD.okG F sc_shared rfl SL_shared r_shared (b_shared h xh c_is_whole c_shares_by)
theorem fc_shared {P : Program} {w : PySem.World} {K : PySem.W.Frag} {mg : Str → Option Value} {base : Heap} {T : List (Addr × Str)} {f : Addr} {fd : FuncData} (h : Hd mg) (xh : Hx mg K) (c_is_whole : FnC P w K mg base T 1 "is_whole" ["thing", "low", "high"] S_is_whole) (c_shares_by : FnC P w K mg base T 1 "shares_by" ["parts", "many"] S_shares_by) (F : FunD K "shared" "shared" (defArgs s_shared) (defBody s_shared) (defScope s_shared) [] [] f fd) (hm : mg "shared" = some (.ref f)) : FnC P w K mg base T 2 "shared" ["parts", "many"] S_shared :=
  ⟨_, _, ok_shared h xh c_is_whole c_shares_by F, hm, F.kp, F.bindsN fun _ _ _ _ _ _ us hl => match us, hl with | [_, _], _ => rfl⟩
theorem ok_law_box {P : Program} {w : PySem.World} {K : PySem.W.Frag} {mg : Str → Option Value} {base : Heap} {T : List (Addr × Str)} {f : Addr} {fd : FuncData} (h : Hd mg)  (F : FunD K "_law_box" "_law_box" (defArgs s_law_box) (defBody s_law_box) (defScope s_law_box) [] [] f fd) : FnG P w K mg base 1 f fd ["_law_script", "_law_k"] (spD K T S_law_box) :=
  Bd.FunD.okG F sc_law_box rfl SL_law_box r_law_box (b_law_box h )
theorem fc_law_box {P : Program} {w : PySem.World} {K : PySem.W.Frag} {mg : Str → Option Value} {base : Heap} {T : List (Addr × Str)} {f : Addr} {fd : FuncData} (h : Hd mg)  (F : FunD K "_law_box" "_law_box" (defArgs s_law_box) (defBody s_law_box) (defScope s_law_box) [] [] f fd) (hm : mg "_law_box" = some (.ref f)) : FnC P w K mg base T 1 "_law_box" ["_law_script", "_law_k"] S_law_box :=
  ⟨_, _, ok_law_box h  F, hm, F.kp, F.bindsN fun _ _ _ _ _ _ us hl => match us, hl with | [_, _], _ => rfl⟩
theorem ok_law_more {P : Program} {w : PySem.World} {K : PySem.W.Frag} {mg : Str → Option Value} {base : Heap} {T : List (Addr × Str)} {f : Addr} {fd : FuncData} (h : Hd mg)  (F : FunD K "_law_more" "_law_more" (defArgs s_law_more) (defBody s_law_more) (defScope s_law_more) [] [] f fd) : FnG P w K mg base 1 f fd ["_law_box_here"] (spD K T S_law_more) :=
  Bd.FunD.okG F sc_law_more rfl SL_law_more r_law_more (b_law_more h )
theorem fc_law_more {P : Program} {w : PySem.World} {K : PySem.W.Frag} {mg : Str → Option Value} {base : Heap} {T : List (Addr × Str)} {f : Addr} {fd : FuncData} (h : Hd mg)  (F : FunD K "_law_more" "_law_more" (defArgs s_law_more) (defBody s_law_more) (defScope s_law_more) [] [] f fd) (hm : mg "_law_more" = some (.ref f)) : FnC P w K mg base T 1 "_law_more" ["_law_box_here"] S_law_more :=
  ⟨_, _, ok_law_more h  F, hm, F.kp, F.bindsN fun _ _ _ _ _ _ us hl => match us, hl with | [_], _ => rfl⟩
theorem ok_law_take {P : Program} {w : PySem.World} {K : PySem.W.Frag} {mg : Str → Option Value} {base : Heap} {T : List (Addr × Str)} {f : Addr} {fd : FuncData} (h : Hd mg) (c_law_more : FnC P w K mg base T 1 "_law_more" ["_law_box_here"] S_law_more) (F : FunD K "_law_take" "_law_take" (defArgs s_law_take) (defBody s_law_take) (defScope s_law_take) [] [] f fd) : FnG P w K mg base 2 f fd ["_law_box_here", "_law_count"] (spD K T S_law_take) :=
  Bd.FunD.okG F sc_law_take rfl SL_law_take r_law_take (b_law_take h c_law_more)
theorem fc_law_take {P : Program} {w : PySem.World} {K : PySem.W.Frag} {mg : Str → Option Value} {base : Heap} {T : List (Addr × Str)} {f : Addr} {fd : FuncData} (h : Hd mg) (c_law_more : FnC P w K mg base T 1 "_law_more" ["_law_box_here"] S_law_more) (F : FunD K "_law_take" "_law_take" (defArgs s_law_take) (defBody s_law_take) (defScope s_law_take) [] [] f fd) (hm : mg "_law_take" = some (.ref f)) : FnC P w K mg base T 2 "_law_take" ["_law_box_here", "_law_count"] S_law_take :=
  ⟨_, _, ok_law_take h c_law_more F, hm, F.kp, F.bindsN fun _ _ _ _ _ _ us hl => match us, hl with | [_, _], _ => rfl⟩
theorem kc_law_kind {P : Program} {w : PySem.World} {K : PySem.W.Frag} {mg : Str → Option Value} {base : Heap} {T : List (Addr × Str)} {g : Addr} {fd : FuncData} (h : Hd mg) (xh : Hx mg K) (F : FunD K "_law_kind" "_law_kind" (defArgs s_law_kind) (defBody s_law_kind) (defScope s_law_kind) [] [] g fd) (hm : mg "_law_kind" = some (.ref g)) : KindC P w K mg base T "_law_kind" ok_law_kind := by
  refine ⟨g, fd, _, _, _, [], N_law_kind, "_law_call", F, hm, F.bindsN fun _ _ _ _ _ _ us hl => match us, hl with | [_], _ => rfl, sc_law_kind, rfl, .inl l_law_kind_0, by decide, by decide, fun X e1 e2 e3 e4 e5 hu cdg q => ?_⟩
  subst e1 e2 e3 e4 e5
  exact kind_gives (i := 1) (e := "e") (z := "BedError") (ys := ys_law_kind) (ws := w_law_kind) (by decide +kernel) xh.g_BedError (by decide) (fun _ => rfl) sc_law_kind.nd rfl l_law_kind_1 xh.x_law_kind (fun s H a oe pn c t G hok hz hf _ => b_law_kind h xh hok g cdg X.A X.stack s H a oe pn hz hf hu G) r_law_kind
theorem ok_law_shares {P : Program} {w : PySem.World} {K : PySem.W.Frag} {mg : Str → Option Value} {base : Heap} {T : List (Addr × Str)} {f : Addr} {fd : FuncData} (h : Hd mg)  (F : FunD K "_law_shares" "_law_shares" (defArgs s_law_shares) (defBody s_law_shares) (defScope s_law_shares) [] [] f fd) : FnG P w K mg base 1 f fd ["_law_parts_here", "_law_many"] (spD K T S_law_shares) :=
  Bd.FunD.okG F sc_law_shares rfl SL_law_shares r_law_shares (b_law_shares h )
theorem fc_law_shares {P : Program} {w : PySem.World} {K : PySem.W.Frag} {mg : Str → Option Value} {base : Heap} {T : List (Addr × Str)} {f : Addr} {fd : FuncData} (h : Hd mg)  (F : FunD K "_law_shares" "_law_shares" (defArgs s_law_shares) (defBody s_law_shares) (defScope s_law_shares) [] [] f fd) (hm : mg "_law_shares" = some (.ref f)) : FnC P w K mg base T 1 "_law_shares" ["_law_parts_here", "_law_many"] S_law_shares :=
  ⟨_, _, ok_law_shares h  F, hm, F.kp, F.bindsN fun _ _ _ _ _ _ us hl => match us, hl with | [_, _], _ => rfl⟩
theorem ok_law_parts {P : Program} {w : PySem.World} {K : PySem.W.Frag} {mg : Str → Option Value} {base : Heap} {T : List (Addr × Str)} {f : Addr} {fd : FuncData} (h : Hd mg) (c_law_take : FnC P w K mg base T 2 "_law_take" ["_law_box_here", "_law_count"] S_law_take) (F : FunD K "_law_parts" "_law_parts" (defArgs s_law_parts) (defBody s_law_parts) (defScope s_law_parts) [] [] f fd) : FnG P w K mg base 3 f fd ["_law_box_here"] (spD K T S_law_parts) :=
  Bd.FunD.okG F sc_law_parts rfl SL_law_parts r_law_parts (b_law_parts h c_law_take)
theorem fc_law_parts {P : Program} {w : PySem.World} {K : PySem.W.Frag} {mg : Str → Option Value} {base : Heap} {T : List (Addr × Str)} {f : Addr} {fd : FuncData} (h : Hd mg) (c_law_take : FnC P w K mg base T 2 "_law_take" ["_law_box_here", "_law_count"] S_law_take) (F : FunD K "_law_parts" "_law_parts" (defArgs s_law_parts) (defBody s_law_parts) (defScope s_law_parts) [] [] f fd) (hm : mg "_law_parts" = some (.ref f)) : FnC P w K mg base T 3 "_law_parts" ["_law_box_here"] S_law_parts :=
  ⟨_, _, ok_law_parts h c_law_take F, hm, F.kp, F.bindsN fun _ _ _ _ _ _ us hl => match us, hl with | [_], _ => rfl⟩
theorem ok_law {P : Program} {w : PySem.World} {K : PySem.W.Frag} {mg : Str → Option Value} {base : Heap} {T : List (Addr × Str)} {f : Addr} {fd : FuncData} (h : Hd mg) (c_law_box : FnC P w K mg base T 1 "_law_box" ["_law_script", "_law_k"] S_law_box) (c_law_parts : FnC P w K mg base T 3 "_law_parts" ["_law_box_here"] S_law_parts) (c_law_shares : FnC P w K mg base T 1 "_law_shares" ["_law_parts_here", "_law_many"] S_law_shares) (c_law_take : FnC P w K mg base T 2 "_law_take" ["_law_box_here", "_law_count"] S_law_take) (c_shared : FnC P w K mg base T 2 "shared" ["parts", "many"] S_shared) (cK : KindC P w K mg base T "_law_kind" ok_law_kind) (cM : ∀ A outer s H E, LamM base mg T fd.code (FX P w K mg base N_law "law" (defScope s_law) f fd.code A outer s H E).env.qual) (F : FunD K "law" "law" (defArgs s_law) (defBody s_law) (defScope s_law) [] [] f fd) : FnG P w K mg base 6 f fd ["_law_script"] (spD K T S_law) :=
  FunD.okL F sc_law rfl SL_law r_law (b_law h c_law_box c_law_parts c_law_shares c_law_take c_shared cK fd.code cM)
theorem law_law : LawS 63 S_law := fun ns h _ Q E hq => ⟨ns, rfl, h, hq⟩
def d_is_whole : He.DefD := ⟨("is_whole", none), "is_whole", "is_whole", defArgs s_is_whole, defBody s_is_whole, defScope s_is_whole, [], []⟩
def d_shares_by : He.DefD := ⟨("shares_by", none), "shares_by", "shares_by", defArgs s_shares_by, defBody s_shares_by, defScope s_shares_by, [], []⟩
def d_shared : He.DefD := ⟨("shared", none), "shared", "shared", defArgs s_shared, defBody s_shared, defScope s_shared, [], []⟩
def d_law_box : He.DefD := ⟨("_law_box", none), "_law_box", "_law_box", defArgs s_law_box, defBody s_law_box, defScope s_law_box, [], []⟩
def d_law_more : He.DefD := ⟨("_law_more", none), "_law_more", "_law_more", defArgs s_law_more, defBody s_law_more, defScope s_law_more, [], []⟩
def d_law_take : He.DefD := ⟨("_law_take", none), "_law_take", "_law_take", defArgs s_law_take, defBody s_law_take, defScope s_law_take, [], []⟩
def d_law_kind : He.DefD := ⟨("_law_kind", none), "_law_kind", "_law_kind", defArgs s_law_kind, defBody s_law_kind, defScope s_law_kind, [], []⟩
def d_law_shares : He.DefD := ⟨("_law_shares", none), "_law_shares", "_law_shares", defArgs s_law_shares, defBody s_law_shares, defScope s_law_shares, [], []⟩
def d_law_parts : He.DefD := ⟨("_law_parts", none), "_law_parts", "_law_parts", defArgs s_law_parts, defBody s_law_parts, defScope s_law_parts, [], []⟩
def d_law : He.DefD := ⟨("law", none), "law", "law", defArgs s_law, defBody s_law, defScope s_law, [], []⟩
def fn : List He.DefD := [d_is_whole, d_shares_by, d_shared, d_law_box, d_law_more, d_law_take, d_law_kind, d_law_shares, d_law_parts, d_law]
def fa : List He.Fa := ([.glo "is_whole", .glo "shares_by", .glo "shared", .glo "_law_box", .glo "_law_more", .glo "_law_take", .glo "_law_kind", .glo "_law_shares", .glo "_law_parts", .glo "law", .free "ValueError", .free "abs", .free "all", .free "bool", .free "divmod", .free "enumerate"] : List He.Fa) ++ ([.free "int", .free "isinstance", .free "len", .free "list", .free "max", .free "min", .free "range", .free "repr", .free "sorted", .free "sum", .free "tuple", .free "zip", .int "MOST_FRONT" 1000, .int "MOST_FRONTS" 10, .int "MOST_THINGS" 100000, .exc "NoFronts"] : List He.Fa) ++ ([.exc "NoNumber", .glo "BedError", .glo "Gone", .glo "NoCase", .glo "NoCell", .glo "NoCells", .glo "NoChange", .glo "NoChanges", .glo "NoDay", .glo "NoField", .glo "NoFronts", .glo "NoLine", .glo "NoMark", .glo "NoNumber", .glo "NoPace", .glo "NoSpans"] : List He.Fa) ++ ([.glo "NoStanding", .glo "NoTelling", .glo "NoText", .glo "Nothing", .glo "There", .glo "TooMany"] : List He.Fa)
abbrev R : PySem.W.OpenRow := PySem.W.OpenLaw.row PySem.Challenge.rw_bedlands_k07_things_shared
abbrev hk : PySem.W.Hook := He.hookX 4 fa fn [] [("law", none)] (fun K => ol_law_kind.all fun p => xclsB K "BedError" ys_law_kind p.1)
def ob (s : PySem.W.SharedT) : He.AlX := He.obsX 4 fa fn [] [("law", none)] (fun K => ol_law_kind.all fun p => xclsB K "BedError" ys_law_kind p.1) (HandSHeadRun.getT s)
theorem ob_eq (s : PySem.W.SharedT) : ob s = hk.obs s.abs := He.obsX_eq (HandSHeadRun.getT_eq s)
def loose : List Str := (["__name__", "BedError", "NoField", "NoCell", "NoCells", "NoNumber", "NoFronts", "NoStanding", "NoChange", "NoChanges", "NoDay", "NoPace", "NoSpans", "NoCase", "NoTelling", "NoMark"] : List Str) ++ (["NoText", "NoLine", "There", "Gone", "Nothing", "TooMany", "is_whole", "MOST_FRONTS", "MOST_FRONT", "MOST_THINGS", "shares_by", "shared", "_law_box", "_law_more", "_law_take", "_law_kind"] : List Str) ++ (["_law_shares", "_law_parts"] : List Str)
set_option maxHeartbeats 0 in
theorem run (w : PySem.World) : HandSHeadRun.RunEq R (PySem.W.view R.prog [37]) hk ob 8000 loose w := by
  intro os
  kernel_rfl
section
variable {K : PySem.W.Frag} {h : Heap} {mg : Str → Option Value}
theorem hd_of (X : K.In h) (G : h.Ns mainGlobals mg) (c : He.SaysD fa fn K) : Hd mg where
  n_ValueError := He.free_ok X G (c.fact 10 (f := .free "ValueError") rfl)
  n_abs := He.free_ok X G (c.fact 11 (f := .free "abs") rfl)
  n_all := He.free_ok X G (c.fact 12 (f := .free "all") rfl)
  n_bool := He.free_ok X G (c.fact 13 (f := .free "bool") rfl)
  n_divmod := He.free_ok X G (c.fact 14 (f := .free "divmod") rfl)
  n_enumerate := He.free_ok X G (c.fact 15 (f := .free "enumerate") rfl)
  n_int := He.free_ok X G (c.fact 16 (f := .free "int") rfl)
  n_isinstance := He.free_ok X G (c.fact 17 (f := .free "isinstance") rfl)
  n_len := He.free_ok X G (c.fact 18 (f := .free "len") rfl)
  n_list := He.free_ok X G (c.fact 19 (f := .free "list") rfl)
  n_max := He.free_ok X G (c.fact 20 (f := .free "max") rfl)
  n_min := He.free_ok X G (c.fact 21 (f := .free "min") rfl)
  n_range := He.free_ok X G (c.fact 22 (f := .free "range") rfl)
  n_repr := He.free_ok X G (c.fact 23 (f := .free "repr") rfl)
  n_sorted := He.free_ok X G (c.fact 24 (f := .free "sorted") rfl)
  n_sum := He.free_ok X G (c.fact 25 (f := .free "sum") rfl)
  n_tuple := He.free_ok X G (c.fact 26 (f := .free "tuple") rfl)
  n_zip := He.free_ok X G (c.fact 27 (f := .free "zip") rfl)
  c_MOST_FRONT := He.int_ok X G (c.fact 28 (f := .int "MOST_FRONT" 1000) rfl)
  c_MOST_FRONTS := He.int_ok X G (c.fact 29 (f := .int "MOST_FRONTS" 10) rfl)
  c_MOST_THINGS := He.int_ok X G (c.fact 30 (f := .int "MOST_THINGS" 100000) rfl)
theorem hx_of (X : K.In h) (G : h.Ns mainGlobals mg) (c : He.SaysD fa fn K) (m : (fun K => ol_law_kind.all fun p => xclsB K "BedError" ys_law_kind p.1) K = true) : Hx mg K where
  r_NoFronts := ⟨He.glo_ok X G (c.fact 42 (f := .glo "NoFronts") rfl), c.fact 31 (f := .exc "NoFronts") rfl⟩
  r_NoNumber := ⟨He.glo_ok X G (c.fact 45 (f := .glo "NoNumber") rfl), c.fact 32 (f := .exc "NoNumber") rfl⟩
  g_BedError := He.glo_ok X G (c.fact 33 (f := .glo "BedError") rfl)
  g_Gone := He.glo_ok X G (c.fact 34 (f := .glo "Gone") rfl)
  g_NoCase := He.glo_ok X G (c.fact 35 (f := .glo "NoCase") rfl)
  g_NoCell := He.glo_ok X G (c.fact 36 (f := .glo "NoCell") rfl)
  g_NoCells := He.glo_ok X G (c.fact 37 (f := .glo "NoCells") rfl)
  g_NoChange := He.glo_ok X G (c.fact 38 (f := .glo "NoChange") rfl)
  g_NoChanges := He.glo_ok X G (c.fact 39 (f := .glo "NoChanges") rfl)
  g_NoDay := He.glo_ok X G (c.fact 40 (f := .glo "NoDay") rfl)
  g_NoField := He.glo_ok X G (c.fact 41 (f := .glo "NoField") rfl)
  g_NoFronts := He.glo_ok X G (c.fact 42 (f := .glo "NoFronts") rfl)
  g_NoLine := He.glo_ok X G (c.fact 43 (f := .glo "NoLine") rfl)
  g_NoMark := He.glo_ok X G (c.fact 44 (f := .glo "NoMark") rfl)
  g_NoNumber := He.glo_ok X G (c.fact 45 (f := .glo "NoNumber") rfl)
  g_NoPace := He.glo_ok X G (c.fact 46 (f := .glo "NoPace") rfl)
  g_NoSpans := He.glo_ok X G (c.fact 47 (f := .glo "NoSpans") rfl)
  g_NoStanding := He.glo_ok X G (c.fact 48 (f := .glo "NoStanding") rfl)
  g_NoTelling := He.glo_ok X G (c.fact 49 (f := .glo "NoTelling") rfl)
  g_NoText := He.glo_ok X G (c.fact 50 (f := .glo "NoText") rfl)
  g_Nothing := He.glo_ok X G (c.fact 51 (f := .glo "Nothing") rfl)
  g_There := He.glo_ok X G (c.fact 52 (f := .glo "There") rfl)
  g_TooMany := He.glo_ok X G (c.fact 53 (f := .glo "TooMany") rfl)
  x_law_kind := fun c t hc => xcls_of (List.all_eq_true.mp m (c, t) (by unfold ok_law_kind at hc; exact Bd.mem_lookup2 hc))
end
theorem facts {w : PySem.World} {K : PySem.W.Frag} {h : Heap} {mg : Str → Option Value} {fl : Addr} (X : K.In h) (G : h.Ns mainGlobals mg) (hfa : mg ("law" : Str) = some (.ref fl)) (cc : He.SaysX fa fn [] [("law", none)] (fun K => ol_law_kind.all fun p => xclsB K "BedError" ys_law_kind p.1) w h K) : ∃ fd, LawG PySem.Challenge.rw_bedlands_k07_things_shared w 6 63 "_law_script" mg fl h K fd [He.cT K ("law", none)] [((He.cT K ("law", none)).2, ("law.<locals>.<lambda>" : Str))] S_law := by
  have c : He.SaysD fa fn K := cc.t.d
  have H := hd_of X G c
  have xh := hx_of X G c cc.more
  obtain ⟨fd_is_whole, F_is_whole⟩ := c.def_ 0 (d := d_is_whole) rfl
  have m_is_whole := He.glo_ok X G (c.fact 0 (f := .glo "is_whole") rfl)
  obtain ⟨fd_shares_by, F_shares_by⟩ := c.def_ 1 (d := d_shares_by) rfl
  have m_shares_by := He.glo_ok X G (c.fact 1 (f := .glo "shares_by") rfl)
  obtain ⟨fd_shared, F_shared⟩ := c.def_ 2 (d := d_shared) rfl
  have m_shared := He.glo_ok X G (c.fact 2 (f := .glo "shared") rfl)
  obtain ⟨fd_law_box, F_law_box⟩ := c.def_ 3 (d := d_law_box) rfl
  have m_law_box := He.glo_ok X G (c.fact 3 (f := .glo "_law_box") rfl)
  obtain ⟨fd_law_more, F_law_more⟩ := c.def_ 4 (d := d_law_more) rfl
  have m_law_more := He.glo_ok X G (c.fact 4 (f := .glo "_law_more") rfl)
  obtain ⟨fd_law_take, F_law_take⟩ := c.def_ 5 (d := d_law_take) rfl
  have m_law_take := He.glo_ok X G (c.fact 5 (f := .glo "_law_take") rfl)
  obtain ⟨fd_law_kind, F_law_kind⟩ := c.def_ 6 (d := d_law_kind) rfl
  have m_law_kind := He.glo_ok X G (c.fact 6 (f := .glo "_law_kind") rfl)
  obtain ⟨fd_law_shares, F_law_shares⟩ := c.def_ 7 (d := d_law_shares) rfl
  have m_law_shares := He.glo_ok X G (c.fact 7 (f := .glo "_law_shares") rfl)
  obtain ⟨fd_law_parts, F_law_parts⟩ := c.def_ 8 (d := d_law_parts) rfl
  have m_law_parts := He.glo_ok X G (c.fact 8 (f := .glo "_law_parts") rfl)
  obtain ⟨fd_law, F_law⟩ := c.def_ 9 (d := d_law) rfl
  have m_law := He.glo_ok X G (c.fact 9 (f := .glo "law") rfl)
  have e := hfa.symm.trans m_law
  cases e
  have one : ∀ q ∈ [He.cT K ("law", none)], ∃ p ∈ ([("law", none)] : List He.Defn), q = He.cT K p := fun q hq => List.mem_map.mp (show q ∈ ([("law", none)] : List He.Defn).map (He.cT K) from hq) |>.imp fun p h => ⟨h.1, h.2.symm⟩
  refine ⟨fd_law, X, fun q hq => ?_, fun q hq => ?_, fun q hq => ?_, ?_, fun p hp => ?_, law_law, fun base hb1 hb2 hTB => ?_⟩
  · obtain ⟨p, hp, rfl⟩ := one q hq; exact cc.empty p hp
  · obtain ⟨p, hp, rfl⟩ := one q hq; exact cc.out p hp
  · obtain ⟨p, hp, rfl⟩ := one q hq; exact PySem.W.codeHd_of_K X (cc.hd p hp)
  · have b := FunD.bindsA (ps := ["_law_script"]) F_law fun _ _ _ _ _ _ us hl => match us, hl with | [_], _ => rfl
    exact fun s u => b s [u] rfl
  · rw [List.mem_singleton] at hp; subst hp; exact ⟨_, List.mem_singleton.mpr rfl, rfl⟩
  ·
    have C_is_whole := fc_is_whole (P := PySem.Challenge.rw_bedlands_k07_things_shared.prog) (w := w) (base := base) (T := [((He.cT K ("law", none)).2, ("law.<locals>.<lambda>" : Str))]) H  F_is_whole m_is_whole
    have C_shares_by := fc_shares_by (P := PySem.Challenge.rw_bedlands_k07_things_shared.prog) (w := w) (base := base) (T := [((He.cT K ("law", none)).2, ("law.<locals>.<lambda>" : Str))]) H  F_shares_by m_shares_by
    have C_shared := fc_shared (P := PySem.Challenge.rw_bedlands_k07_things_shared.prog) (w := w) (base := base) (T := [((He.cT K ("law", none)).2, ("law.<locals>.<lambda>" : Str))]) H xh C_is_whole C_shares_by F_shared m_shared
    have C_law_box := fc_law_box (P := PySem.Challenge.rw_bedlands_k07_things_shared.prog) (w := w) (base := base) (T := [((He.cT K ("law", none)).2, ("law.<locals>.<lambda>" : Str))]) H  F_law_box m_law_box
    have C_law_more := fc_law_more (P := PySem.Challenge.rw_bedlands_k07_things_shared.prog) (w := w) (base := base) (T := [((He.cT K ("law", none)).2, ("law.<locals>.<lambda>" : Str))]) H  F_law_more m_law_more
    have C_law_take := fc_law_take (P := PySem.Challenge.rw_bedlands_k07_things_shared.prog) (w := w) (base := base) (T := [((He.cT K ("law", none)).2, ("law.<locals>.<lambda>" : Str))]) H C_law_more F_law_take m_law_take
    have cK := kc_law_kind (P := PySem.Challenge.rw_bedlands_k07_things_shared.prog) (w := w) (base := base) (T := [((He.cT K ("law", none)).2, ("law.<locals>.<lambda>" : Str))]) H xh F_law_kind m_law_kind
    have C_law_shares := fc_law_shares (P := PySem.Challenge.rw_bedlands_k07_things_shared.prog) (w := w) (base := base) (T := [((He.cT K ("law", none)).2, ("law.<locals>.<lambda>" : Str))]) H  F_law_shares m_law_shares
    have C_law_parts := fc_law_parts (P := PySem.Challenge.rw_bedlands_k07_things_shared.prog) (w := w) (base := base) (T := [((He.cT K ("law", none)).2, ("law.<locals>.<lambda>" : Str))]) H C_law_take F_law_parts m_law_parts
    exact ok_law H C_law_box C_law_parts C_law_shares C_law_take C_shared cK (fun A outer s H E => lamM_of (p := ("law", none)) F_law (hTB _ (List.mem_singleton.mpr rfl)) (List.mem_singleton.mpr (by first | rfl | kernel_rfl)) (fun z hz _ => by rw [List.mem_singleton] at hz; subst hz; first | rfl | kernel_rfl)) F_law
end K07
open PySem PySem.W PySem.Calls PyProof.Rows
set_option maxHeartbeats 0 in
theorem PySem.Challenge.cw_bedlands_k07_things_shared_holds : PySem.Challenge.rw_bedlands_k07_things_shared.Holds := by
  w_on; o_law
  refine HandSHeadRun.head_any (r := PySem.W.OpenLaw.row PySem.Challenge.rw_bedlands_k07_things_shared) (q := PySem.W.view (PySem.W.OpenLaw.row PySem.Challenge.rw_bedlands_k07_things_shared).prog [37]) (H := K07.hk) (ob := K07.ob) (M := 8000) (loose := K07.loose) (d := HandSHeadRun.topDef (PySem.W.OpenLaw.row PySem.Challenge.rw_bedlands_k07_things_shared).prog 37) (kwd := []) K07.ob_eq
    (by kernel_rfl) (fun s => by kernel_rfl) K07.run (by kernel_rfl) (by kernel_rfl) (by kernel_rfl) (by rfl) (by first | assumption | decide +kernel) (by decide +kernel) ⟨rfl, rfl, rfl, rfl, rfl, by decide +kernel⟩ ?hw ?hc
  case hw => w_witness2
  case hc =>
    refine Bd.walk_ofG (l := PySem.Challenge.rw_bedlands_k07_things_shared) (n := 63) (k := 6) (x := "_law_script") rfl (by decide) (by kernel_rfl) ⟨rfl, by decide, by decide⟩ ?_
    intro w mg fl h Y G hmg0
    obtain ⟨K, KX, c⟩ := Y
    have hmg : mg ("law" : PySem.Str) = some (.ref fl) := by
      have e : (HandSHeadRun.topDef (PySem.W.OpenLaw.row PySem.Challenge.rw_bedlands_k07_things_shared).prog 37).name = ("law" : PySem.Str) := by kernel_rfl
      rw [← e]
      exact hmg0
    obtain ⟨fd, z⟩ := K07.facts (w := w) KX G hmg c
    exact ⟨K, fd, _, _, _, z⟩

