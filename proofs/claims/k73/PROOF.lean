import PyProof.Rows.All
import Wide.All
import OpenK.AllK
import Wide.FinOn
import HandS.ForMost
import HandS.Lambda
import KE.KeyNested
import HandS.HeadHook1
import HandS.Dict
import HandS.CallSlots
import HandS.TupAny
import HandS.TupMul
import HandS.Wide
import HandS.Defaults
import HandS.WideBits
import HandS.Deep
import HandS.Flow
import KE.SortData
import KE.KTupSum
import KE.KDictSum
import HandS.More
import KE.GoesEnum
import HandS.Zip
import HandS.Comp
import HandS.HeadHook4
import HandS.ExcOwn
import HandS.EndTab
import HandS.IsInst
import HandS.BoundList
import PyProof.ReprRoads
import PyProof.ReprLen
import HandS.SetFor
import HandS.TupSets
import KE.DataFind
import HandS.Strs
import KE.DataMinMax
import HandS.Style
import HandS.ExcIs
import PyProof.ExcBaseAll.ValueError
import HandS.Conv
import HandS.SortKw
import KE.SortKeyHeap
import PyProof.DictUpdate
import HandS.TupLe
import HandS.SetKeys
import KE.KEqDict
import PyProof.NeKinds
import PyProof.DictMoreH
import HandS.Flt
import HandS.HotCalls
import KE.KDictDisplayH
import PyProof.Rows.Range3
import KE.KDictZip
import PyProof.ListNew
import PyProof.Rows.IntBool
import PyProof.WalksMore
import KE.KDictCopyH
import HandS.ExcInit
import HandS.WordsExc
import HandS.ExcField
import KE.KExcIs
import HandS.StrMore
import PyProof.StrBlock2
import HandS.ExcValue
import HandS.Head2
import HandS.HeadEnd
import PySem.Challenge.RW_bedlands_k73_registers_refuse
set_option Elab.async false
set_option linter.all false
set_option maxRecDepth 100000
/-! Bd1: data D, what of the heap stands for it (Rep), the state of a def at work (World). -/
namespace Bd
open PySem PySem.Spec PyProof.Rows L2

/-- how a list is held: by one place alone, by several and never changed again, by the written part -/
inductive M where
  | own | shr | con
  deriving DecidableEq
/-- a dict's key: a number or a text, or a tuple -/
inductive DK where
  | k (k : Key)
  | n (k : NestedKey)
  deriving DecidableEq
/-- a row: the key, where its tuple stands, the value -/
abbrev NRow := NestedKey × Addr × V
/-- the world in which a dict's keys are hashed; of a locked dict its rows -/
inductive NW where
  | of (w : PySem.World)
  | pin (w : PySem.World) (o : Obj) (xs : List NRow)
def NW.w : NW → PySem.World
  | .of w => w
  | .pin w _ _ => w
inductive D where
  | gone | non
  | bl (b : Bool)
  | int (i : Int)
  | str (x : Str)
  | tup (ds : List D)
  | lst (m : M) (ds : List D)
  | dct (m : M) (ks : List DK) (ds : List D)
  /-- a dict whose keys are nested tuples: without texts, or hashed in the world ow -/
  | ndc (m : M) (ks ds : List D) (ow : Option NW)
  /-- a dict to which nobody adds a key any more, known by its rows -/
  | ldc (o : Obj) (kvs : List (Key × V)) (ds : List D)
  | opq (v : V)
  /-- a thing that is never written again, by what is true of it -/
  | ext (P : PySem.W.Frag → Hp → V → Prop)
  /-- an instance of an own class, held by one place alone: where it stands, if that is told; its class, the names of its attributes, what they are -/
  | ins (pa : Option Addr) (c : Str) (ks : List Str) (ds : List D)
abbrev AS := Addr → Prop
def M0 : AS := fun _ => False

mutual
def D.frz : D → D
  | .tup ds => .tup (frzs ds)
  | .lst .own ds => .lst .shr (frzs ds)
  | .dct .own ks ds => .dct .shr ks (frzs ds)
  | .ndc .own ks ds ow => .ndc .shr ks (frzs ds) ow
  | .ldc o kvs ds => .ldc o kvs (frzs ds)
  | .ins _ _ _ _ => .gone
  | d => d
def frzs : List D → List D
  | [] => []
  | d :: r => d.frz :: frzs r
end
mutual
def D.solid : D → Bool
  | .tup ds => solids ds
  | .lst m _ => m != .own
  | .dct m _ _ => m != .own
  | .ndc m _ _ _ => m != .own
  | .ldc _ _ ds => solids ds
  | .ins _ _ _ _ => false
  | _ => true
def solids : List D → Bool
  | [] => true
  | d :: r => d.solid && solids r
end
mutual
theorem frz_solid : ∀ d : D, d.frz.solid = true
  | .tup ds => by rw [D.frz, D.solid]; exact frzs_solid ds
  | .lst .own ds => rfl
  | .lst .shr ds => rfl
  | .lst .con ds => rfl
  | .dct .own _ _ => rfl
  | .dct .shr _ _ => rfl
  | .dct .con _ _ => rfl
  | .ndc .own _ _ _ => rfl
  | .ndc .shr _ _ _ => rfl
  | .ndc .con _ _ _ => rfl
  | .ldc _ _ ds => by rw [D.frz, D.solid]; exact frzs_solid ds
  | .gone => rfl
  | .non => rfl
  | .bl _ => rfl
  | .int _ => rfl
  | .str _ => rfl
  | .opq _ => rfl
  | .ext _ => rfl
  | .ins _ _ _ _ => rfl
theorem frzs_solid : ∀ ds : List D, solids (frzs ds) = true
  | [] => rfl
  | d :: r => by rw [frzs, solids, frz_solid d, frzs_solid r]; rfl
end
mutual
theorem frz_of_solid : ∀ d : D, d.solid = true → d.frz = d
  | .tup ds, h => by rw [D.frz, frzs_of_solid ds (by rw [D.solid] at h; exact h)]
  | .lst .own ds, h => by cases h
  | .lst .shr ds, _ => rfl
  | .lst .con ds, _ => rfl
  | .dct .own _ _, h => by cases h
  | .dct .shr _ _, _ => rfl
  | .dct .con _ _, _ => rfl
  | .ndc .own _ _ _, h => by cases h
  | .ndc .shr _ _ _, _ => rfl
  | .ndc .con _ _ _, _ => rfl
  | .ldc _ _ ds, h => by rw [D.frz, frzs_of_solid ds (by rw [D.solid] at h; exact h)]
  | .gone, _ => rfl
  | .non, _ => rfl
  | .bl _, _ => rfl
  | .int _, _ => rfl
  | .str _, _ => rfl
  | .opq _, _ => rfl
  | .ext _, _ => rfl
  | .ins _ _ _ _, h => by cases h
theorem frzs_of_solid : ∀ ds : List D, solids ds = true → frzs ds = ds
  | [], _ => rfl
  | d :: r, h => by
    rw [solids, Bool.and_eq_true] at h
    rw [frzs, frz_of_solid d h.1, frzs_of_solid r h.2]
end
theorem frzs_eq_map : ∀ ds : List D, frzs ds = ds.map D.frz
  | [] => by simp [frzs]
  | d :: r => by rw [frzs, frzs_eq_map r, List.map_cons]
theorem frzs_length (ds : List D) : (frzs ds).length = ds.length := by rw [frzs_eq_map, List.length_map]

/-! ### what stands for a datum -/
/-- a list that nobody can write: locked, or of the written part -/
def CnL (K : PySem.W.Frag) (H : Hp) (a : Addr) (xs : List V) : Prop :=
  (∃ o, H a = some (.frz o (.lst xs))) ∨
    ∃ (o : Obj) (its : Array Value) (n : Nat), K.lookup a = some o ∧ o.cls = .type "list" ∧ o.dict = none ∧ o.data = .seq its n ∧ its.size ≤ sizeLine ∧ Vals xs its.toList
theorem CnL.sq {K : PySem.W.Frag} {H : Hp} {a : Addr} {xs : List V} (h : CnL K H a xs) : SqL K H a xs := by
  rcases h with ⟨o, h⟩ | h
  · exact .inl (.inr ⟨o, h⟩)
  · exact .inr h

/-- a tuple known to have no own dict -/
def TupD (K : PySem.W.Frag) (H : Hp) (a : Addr) (xs : List V) : Prop :=
  (∃ o, H a = some (.frz o (.tup xs)) ∧ o.dict = none) ∨
    ∃ (o : Obj) (its : Array Value) (n : Nat), K.lookup a = some o ∧ o.cls = .type "tuple" ∧ o.dict = none ∧ o.data = .seq its n ∧ its.size ≤ sizeLine ∧ Vals xs its.toList
theorem TupD.sq {K : PySem.W.Frag} {H : Hp} {a : Addr} {xs : List V} (h : TupD K H a xs) : SqT K H a xs := by
  rcases h with ⟨o, h, _⟩ | ⟨o, its, n, h1, h2, _, h3⟩
  · exact .inl (.inr ⟨o, h⟩)
  · exact .inr ⟨o, its, n, h1, h2, h3⟩

/-! ### dicts whose keys are nested tuples -/
mutual
def nkD : D → Option NestedKey
  | .non => some .none
  | .int i => some (.num i)
  | .str x => some (.text x)
  | .tup ds => (nkDs ds).map .tup
  | _ => none
def nkDs : List D → Option (List NestedKey)
  | [] => some []
  | d :: r => match nkD d with
    | some k => (nkDs r).map (k :: ·)
    | none => none
end
mutual
/-- no text within: its hash is the same in every world -/
def noTx : NestedKey → Bool
  | .text _ => false
  | .tup ks => noTxs ks
  | _ => true
def noTxs : List NestedKey → Bool
  | [] => true
  | k :: r => noTx k && noTxs r
end
def rowsH (w : PySem.World) (xs : List NRow) (us : List Value) : List DictEntry := List.zipWith (fun x u => ⟨x.1.hash w, .ref x.2.1, u⟩) xs us
def NDict (a : Addr) (xs : List NRow) (h : Heap) : Prop := (a == sysModules) = false ∧ xs.length ≤ sizeLine ∧ (xs.map (·.1)).Nodup ∧
  ∃ (us : List Value) (o : Obj) (es : Array DictEntry) (ep : Nat), Vals (xs.map (·.2.2)) us ∧ h.get? a = some o ∧ o.ExactDict ∧ o.data = .dict es ep ∧ ∀ w, es.toList = rowsH w xs us
def NdO (a : Addr) (xs : List NRow) : HO := .ext (NDict a xs)
/-- what a row's keys are -/
structure NKeys (xs : List NRow) (ks : List D) : Prop where
  key : ks.map nkD = xs.map fun x => some x.1
  deep : ∀ x ∈ xs, x.1.depth ≤ 8
  plain : ∀ x ∈ xs, noTx x.1 = true
  ne : xs ≠ []

/-- the same, of one world -/
def NDictW (w : PySem.World) (a : Addr) (xs : List NRow) (h : Heap) : Prop := (a == sysModules) = false ∧ xs.length ≤ sizeLine ∧ (xs.map (·.1)).Nodup ∧
  ∃ (us : List Value) (o : Obj) (es : Array DictEntry) (ep : Nat), Vals (xs.map (·.2.2)) us ∧ h.get? a = some o ∧ o.ExactDict ∧ o.data = .dict es ep ∧ es.toList = rowsH w xs us
def NdW (w : PySem.World) (a : Addr) (xs : List NRow) : HO := .ext (NDictW w a xs)
mutual
/-- texts that can be laid -/
def txOk : NestedKey → Bool
  | .text x => PyData.strOk x
  | .tup ks => txOks ks
  | _ => true
def txOks : List NestedKey → Bool
  | [] => true
  | k :: r => txOk k && txOks r
end
structure WKeys (xs : List NRow) (ks : List D) : Prop where
  key : ks.map nkD = xs.map fun x => some x.1
  deep : ∀ x ∈ xs, x.1.depth ≤ 8
  plain : ∀ x ∈ xs, txOk x.1 = true

/-- objects that are never written -/
def Fix : HO → Prop
  | .tup _ => True
  | .frz _ _ => True
  | _ => False
def Agr (A F : AS) (H H' : Hp) : Prop := ∀ a o, H a = some o → (A a ∨ F a ∨ Fix o) → H' a = some o
mutual
inductive Rep (K : PySem.W.Frag) (H : Hp) (F : AS) : V → D → AS → Prop
  | gone {v A} : Rep K H F v .gone A
  | non {A} : Rep K H F .non .non A
  | bl {b A} : Rep K H F (.bl b) (.bl b) A
  | int {i A} : Rep K H F (.int i) (.int i) A
  | str {x A} : Rep K H F (.str x) (.str x) A
  | opq {v A} : Rep K H F v (.opq v) A
  | tup {a us ds A} : TupD K H a us → Reps K H F us ds A → Rep K H F (.ref a) (.tup ds) A
  | own {a us ds A B} : H a = some (.lst us) → A a → Reps K H F us ds B → (∀ x, B x → A x ∧ x ≠ a) → Rep K H F (.ref a) (.lst .own ds) A
  | shr {a us ds A} : H a = some (.lst us) → F a → Reps K H F us ds M0 → Rep K H F (.ref a) (.lst .shr ds) A
  | con {a us ds A} : CnL K H a us → Reps K H F us ds M0 → Rep K H F (.ref a) (.lst .con ds) A
  | dOwn {a kvs ks ds A B} : H a = some (.dK kvs) → (kvs.map fun p => DK.k p.1) = ks → A a → Reps K H F (kvs.map (·.2)) ds B → (∀ x, B x → A x ∧ x ≠ a) → Rep K H F (.ref a) (.dct .own ks ds) A
  | dShr {a kvs ks ds A} : H a = some (.dK kvs) → (kvs.map fun p => DK.k p.1) = ks → F a → Reps K H F (kvs.map (·.2)) ds M0 → Rep K H F (.ref a) (.dct .shr ks ds) A
  | nOwn {a xs ks ds A B} : H a = some (NdO a xs) → NKeys xs ks → Reps K H F (xs.map fun x => V.ref x.2.1) ks M0 → A a → Reps K H F (xs.map (·.2.2)) ds B → (∀ x, B x → A x ∧ x ≠ a) → Rep K H F (.ref a) (.ndc .own ks ds none) A
  | nShr {a xs ks ds A} : H a = some (NdO a xs) → NKeys xs ks → Reps K H F (xs.map fun x => V.ref x.2.1) ks M0 → F a → Reps K H F (xs.map (·.2.2)) ds M0 → Rep K H F (.ref a) (.ndc .shr ks ds none) A
  | tOwn {a w xs ks ds A B} : H a = some (NdW w a xs) → WKeys xs ks → Reps K H F (xs.map fun x => V.ref x.2.1) ks M0 → A a → Reps K H F (xs.map (·.2.2)) ds B → (∀ x, B x → A x ∧ x ≠ a) → Rep K H F (.ref a) (.ndc .own ks ds (some (.of w))) A
  | tShr {a w xs ks ds A} : H a = some (NdW w a xs) → WKeys xs ks → Reps K H F (xs.map fun x => V.ref x.2.1) ks M0 → F a → Reps K H F (xs.map (·.2.2)) ds M0 → Rep K H F (.ref a) (.ndc .shr ks ds (some (.of w))) A
  | tCon {a o w xs ks ds A} : H a = some (.frz o (NdW w a xs)) → WKeys xs ks → Reps K H F (xs.map fun x => V.ref x.2.1) ks M0 → Reps K H F (xs.map (·.2.2)) ds M0 → Rep K H F (.ref a) (.ndc .con ks ds (some (.pin w o xs))) A
  | ldc {a o kvs ds A} : H a = some (.frz o (.dK kvs)) → Reps K H F (kvs.map (·.2)) ds A → Rep K H F (.ref a) (.ldc o kvs ds) A
  | ext {P v A} : v ≠ .non → (∀ H', Agr M0 F H H' → P K H' v) → Rep K H F v (.ext P) A
  | ins {a pa c C dx fs ks ds A B} : (∀ p, pa = some p → a = p) → C = He.ga K c → H a = some (.ins C dx fs) → fs.map (·.1) = ks → A a → Reps K H F (fs.map (·.2)) ds B → (∀ x, B x → A x ∧ x ≠ a) → Rep K H F (.ref a) (.ins pa c ks ds) A
inductive Reps (K : PySem.W.Frag) (H : Hp) (F : AS) : List V → List D → AS → Prop
  | nil {A} : Reps K H F [] [] A
  | cons {v d vs ds A B C} : Rep K H F v d B → Reps K H F vs ds C → (∀ x, B x → A x) → (∀ x, C x → A x) → (∀ x, B x → ¬ C x) → Reps K H F (v :: vs) (d :: ds) A
end
section
variable {K : PySem.W.Frag} {H H' : Hp} {F F' A A' B C : AS} {v w : V} {d e : D} {vs us : List V} {ds es : List D}
theorem Rep.mono (r : Rep K H F v d A) (h : ∀ x, A x → A' x) : Rep K H F v d A' := by
  cases r with
  | gone => exact .gone
  | non => exact .non
  | bl => exact .bl
  | int => exact .int
  | str => exact .str
  | opq => exact .opq
  | tup s q =>
    refine .tup s ?_
    cases q with
    | nil => exact .nil
    | cons a b i j k => exact .cons a b (fun x hx => h x (i x hx)) (fun x hx => h x (j x hx)) k
  | own e a q s => exact .own e (h _ a) q fun x hx => ⟨h x (s x hx).1, (s x hx).2⟩
  | shr e a q => exact .shr e a q
  | con c q => exact .con c q
  | dOwn e k a q s => exact .dOwn e k (h _ a) q fun x hx => ⟨h x (s x hx).1, (s x hx).2⟩
  | dShr e k a q => exact .dShr e k a q
  | nOwn e k p a q s => exact .nOwn e k p (h _ a) q fun x hx => ⟨h x (s x hx).1, (s x hx).2⟩
  | nShr e k p a q => exact .nShr e k p a q
  | tOwn e k p a q s => exact .tOwn e k p (h _ a) q fun x hx => ⟨h x (s x hx).1, (s x hx).2⟩
  | tShr e k p a q => exact .tShr e k p a q
  | tCon e k p q => exact .tCon e k p q
  | ldc e q =>
    refine .ldc e ?_
    generalize List.map _ _ = us at q
    cases q with
    | nil => exact .nil
    | cons a b i j k => exact .cons a b (fun x hx => h x (i x hx)) (fun x hx => h x (j x hx)) k
  | ext n p => exact .ext n p
  | ins y z e k a q s => exact .ins y z e k (h _ a) q fun x hx => ⟨h x (s x hx).1, (s x hx).2⟩
theorem Reps.mono (r : Reps K H F vs ds A) (h : ∀ x, A x → A' x) : Reps K H F vs ds A' := by
  cases r with
  | nil => exact .nil
  | cons a b i j k => exact .cons a b (fun x hx => h x (i x hx)) (fun x hx => h x (j x hx)) k
theorem Reps.length : ∀ {vs : List V} {ds : List D} {A : AS}, Reps K H F vs ds A → vs.length = ds.length
  | _, _, _, .nil => rfl
  | _, _, _, .cons _ q _ _ _ => by rw [List.length_cons, List.length_cons, q.length]
/-- objects that an owner may write -/
def isOwn : HO → Prop
  | .lst _ => True
  | .dK _ => True
  | .dT _ => True
  | .ext φ => ∀ c q, HO.ext φ ≠ LamX.CodeO c q
  | .ins _ _ _ => True
  | _ => False
theorem TupD.agr {a : Addr} {us : List V} (h : Agr A F H H') (s : TupD K H a us) : TupD K H' a us := by
  rcases s with ⟨o, q, d⟩ | q
  · exact .inl ⟨o, h _ _ q (.inr (.inr trivial)), d⟩
  · exact .inr q
theorem CnL.agr {a : Addr} {us : List V} (h : Agr A F H H') (s : CnL K H a us) : CnL K H' a us := by
  rcases s with ⟨o, q⟩ | q
  · exact .inl ⟨o, h _ _ q (.inr (.inr trivial))⟩
  · exact .inr q
theorem Agr.sub (h : Agr A F H H') (s : ∀ x, B x → A x) : Agr B F H H' := fun a o e q => h a o e (by
  rcases q with q | q | q
  · exact .inl (s a q)
  · exact .inr (.inl q)
  · exact .inr (.inr q))
mutual
theorem Rep.agr : ∀ {v : V} {d : D} {A : AS}, Rep K H F v d A → Agr A F H H' → (∀ x, F x → F' x) → Rep K H' F' v d A
  | _, _, _, .gone, _, _ => .gone
  | _, _, _, .non, _, _ => .non
  | _, _, _, .bl, _, _ => .bl
  | _, _, _, .int, _, _ => .int
  | _, _, _, .str, _, _ => .str
  | _, _, _, .opq, _, _ => .opq
  | _, _, _, .tup s q, h, f => .tup (TupD.agr h s) (Reps.agr q h f)
  | _, _, _, .own e a q s, h, f => .own (h _ _ e (.inl a)) a (Reps.agr q (h.sub fun x hx => (s x hx).1) f) s
  | _, _, _, .shr e a q, h, f => .shr (h _ _ e (.inr (.inl a))) (f _ a) (Reps.agr q (h.sub fun _ hx => hx.elim) f)
  | _, _, _, .con c q, h, f => .con (CnL.agr h c) (Reps.agr q (h.sub fun _ hx => hx.elim) f)
  | _, _, _, .dOwn e k a q s, h, f => .dOwn (h _ _ e (.inl a)) k a (Reps.agr q (h.sub fun x hx => (s x hx).1) f) s
  | _, _, _, .dShr e k a q, h, f => .dShr (h _ _ e (.inr (.inl a))) k (f _ a) (Reps.agr q (h.sub fun _ hx => hx.elim) f)
  | _, _, _, .nOwn e k p a q s, h, f => .nOwn (h _ _ e (.inl a)) k (Reps.agr p (h.sub fun _ hx => hx.elim) f) a (Reps.agr q (h.sub fun x hx => (s x hx).1) f) s
  | _, _, _, .nShr e k p a q, h, f => .nShr (h _ _ e (.inr (.inl a))) k (Reps.agr p (h.sub fun _ hx => hx.elim) f) (f _ a) (Reps.agr q (h.sub fun _ hx => hx.elim) f)
  | _, _, _, .tOwn e k p a q s, h, f => .tOwn (h _ _ e (.inl a)) k (Reps.agr p (h.sub fun _ hx => hx.elim) f) a (Reps.agr q (h.sub fun x hx => (s x hx).1) f) s
  | _, _, _, .tShr e k p a q, h, f => .tShr (h _ _ e (.inr (.inl a))) k (Reps.agr p (h.sub fun _ hx => hx.elim) f) (f _ a) (Reps.agr q (h.sub fun _ hx => hx.elim) f)
  | _, _, _, .tCon e k p q, h, f => .tCon (h _ _ e (.inr (.inr trivial))) k (Reps.agr p (h.sub fun _ hx => hx.elim) f) (Reps.agr q (h.sub fun _ hx => hx.elim) f)
  | _, _, _, .ldc e q, h, f => .ldc (h _ _ e (.inr (.inr trivial))) (Reps.agr q h f)
  | _, _, _, .ext n p, h, f => .ext n fun H2 h2 => p H2 fun a o e z => h2 a o (h a o e (z.elim (fun z => z.elim) .inr)) (z.elim (fun z => z.elim) fun z => .inr (z.imp_left (f a)))
  | _, _, _, .ins y z e k a q s, h, f => .ins y z (h _ _ e (.inl a)) k a (Reps.agr q (h.sub fun x hx => (s x hx).1) f) s
theorem Reps.agr : ∀ {vs : List V} {ds : List D} {A : AS}, Reps K H F vs ds A → Agr A F H H' → (∀ x, F x → F' x) → Reps K H' F' vs ds A
  | _, _, _, .nil, _, _ => .nil
  | _, _, _, .cons a b i j k, h, f => .cons (Rep.agr a (h.sub i) f) (Reps.agr b (h.sub j) f) i j k
end
mutual
theorem Rep.frz : ∀ {v : V} {d : D} {A : AS}, Rep K H F v d A → (∀ x, A x → F' x) → (∀ x, F x → F' x) → Rep K H F' v d.frz M0
  | _, _, _, .gone, _, _ => .gone
  | _, _, _, .non, _, _ => .non
  | _, _, _, .bl, _, _ => .bl
  | _, _, _, .int, _, _ => .int
  | _, _, _, .str, _, _ => .str
  | _, _, _, .opq, _, _ => .opq
  | _, _, _, .tup s q, h, f => by rw [D.frz]; exact .tup s (Reps.frz q h f)
  | _, _, _, .own e a q s, h, f => by rw [D.frz]; exact .shr e (h _ a) (Reps.frz q (fun x hx => h x (s x hx).1) f)
  | _, _, _, .shr e a q, h, f => .shr e (f _ a) (Reps.agr q (fun _ _ e _ => e) f)
  | _, _, _, .con c q, h, f => .con c (Reps.agr q (fun _ _ e _ => e) f)
  | _, _, _, .dOwn e k a q s, h, f => by rw [D.frz]; exact .dShr e k (h _ a) (Reps.frz q (fun x hx => h x (s x hx).1) f)
  | _, _, _, .dShr e k a q, h, f => .dShr e k (f _ a) (Reps.agr q (fun _ _ e _ => e) f)
  | _, _, _, .nOwn e k p a q s, h, f => by rw [D.frz]; exact .nShr e k (Reps.agr p (fun _ _ e _ => e) f) (h _ a) (Reps.frz q (fun x hx => h x (s x hx).1) f)
  | _, _, _, .nShr e k p a q, h, f => .nShr e k (Reps.agr p (fun _ _ e _ => e) f) (f _ a) (Reps.agr q (fun _ _ e _ => e) f)
  | _, _, _, .tOwn e k p a q s, h, f => by rw [D.frz]; exact .tShr e k (Reps.agr p (fun _ _ e _ => e) f) (h _ a) (Reps.frz q (fun x hx => h x (s x hx).1) f)
  | _, _, _, .tShr e k p a q, h, f => .tShr e k (Reps.agr p (fun _ _ e _ => e) f) (f _ a) (Reps.agr q (fun _ _ e _ => e) f)
  | _, _, _, .tCon e k p q, h, f => .tCon e k (Reps.agr p (fun _ _ e _ => e) f) (Reps.agr q (fun _ _ e _ => e) f)
  | _, _, _, .ldc e q, h, f => by rw [D.frz]; exact .ldc e (Reps.frz q h f)
  | _, _, _, .ext n p, h, f => .ext n fun H2 h2 => p H2 fun a o e z => h2 a o e (z.elim (fun z => z.elim) fun z => .inr (z.imp_left (f a)))
  | _, _, _, .ins _ _ _ _ _ _ _, h, f => .gone
theorem Reps.frz : ∀ {vs : List V} {ds : List D} {A : AS}, Reps K H F vs ds A → (∀ x, A x → F' x) → (∀ x, F x → F' x) → Reps K H F' vs (frzs ds) M0
  | _, _, _, .nil, _, _ => .nil
  | _, _, _, .cons a b i j k, h, f => by
    rw [frzs]
    exact .cons (Rep.frz a (fun x hx => h x (i x hx)) f) (Reps.frz b (fun x hx => h x (j x hx)) f) (fun _ hx => hx) (fun _ hx => hx) (fun _ hx _ => hx)
end
mutual
theorem Rep.solid : ∀ {v : V} {d : D} {A : AS}, Rep K H F v d A → d.solid = true → Rep K H F v d M0
  | _, _, _, .gone, _ => .gone
  | _, _, _, .non, _ => .non
  | _, _, _, .bl, _ => .bl
  | _, _, _, .int, _ => .int
  | _, _, _, .str, _ => .str
  | _, _, _, .opq, _ => .opq
  | _, _, _, .tup s q, h => .tup s (Reps.solid q (by rw [D.solid] at h; exact h))
  | _, _, _, .own e a q s, h => by cases h
  | _, _, _, .shr e a q, h => .shr e a q
  | _, _, _, .con c q, h => .con c q
  | _, _, _, .dOwn e k a q s, h => by cases h
  | _, _, _, .dShr e k a q, h => .dShr e k a q
  | _, _, _, .nOwn e k p a q s, h => by cases h
  | _, _, _, .nShr e k p a q, h => .nShr e k p a q
  | _, _, _, .tOwn e k p a q s, h => by cases h
  | _, _, _, .tShr e k p a q, h => .tShr e k p a q
  | _, _, _, .tCon e k p q, h => .tCon e k p q
  | _, _, _, .ldc e q, h => .ldc e (Reps.solid q (by rw [D.solid] at h; exact h))
  | _, _, _, .ext n p, h => .ext n p
  | _, _, _, .ins _ _ _ _ _ _ _, h => by cases h
theorem Reps.solid : ∀ {vs : List V} {ds : List D} {A : AS}, Reps K H F vs ds A → solids ds = true → Reps K H F vs ds M0
  | _, _, _, .nil, _ => .nil
  | _, _, _, .cons a b i j k, h => by
    rw [solids, Bool.and_eq_true] at h
    exact .cons (Rep.solid a h.1) (Reps.solid b h.2) (fun _ hx => hx) (fun _ hx => hx) (fun _ hx _ => hx)
end
theorem Reps.swap (r : Reps K H F (v :: w :: vs) (d :: e :: ds) A) : Reps K H F (w :: v :: vs) (e :: d :: ds) A := by
  cases r with
  | cons a b i j k =>
    cases b with
    | cons a' b' i' j' k' =>
      rename_i B1 C1 B2 C2
      refine .cons (B := B2) (C := fun x => B1 x ∨ C2 x) a' (.cons (B := B1) (C := C2) a b' (fun x hx => .inl hx) (fun x hx => .inr hx) fun x h1 h2 => k x h1 (j' x h2)) (fun x hx => j x (i' x hx)) (fun x hx => hx.elim (i x) fun z => j x (j' x z)) fun x h1 h2 => ?_
      rcases h2 with h2 | h2
      · exact k x h2 (i' x h1)
      · exact k' x h1 h2
theorem Reps.split : ∀ {us : List V} {es : List D} {A : AS}, us.length = es.length → Reps K H F (us ++ vs) (es ++ ds) A → ∃ B C : AS, Reps K H F us es B ∧ Reps K H F vs ds C ∧ (∀ x, B x → A x) ∧ (∀ x, C x → A x) ∧ ∀ x, B x → ¬ C x
  | [], [], A, _, r => ⟨M0, A, .nil, r, fun _ h => h.elim, fun _ h => h, fun _ h _ => h⟩
  | u :: us, e :: es, A, hl, r => by
    cases r with
    | cons a b i j k =>
      rename_i B1 C1
      obtain ⟨B, C, r1, r2, h1, h2, h3⟩ := Reps.split (us := us) (es := es) (by simpa using hl) b
      refine ⟨fun x => B1 x ∨ B x, C, .cons a r1 (fun x h => .inl h) (fun x h => .inr h) (fun x p q => k x p (h1 x q)), r2, fun x h => h.elim (i x) fun z => j x (h1 x z), fun x h => j x (h2 x h), fun x h q => ?_⟩
      rcases h with h | h
      · exact k x h (h2 x q)
      · exact h3 x h q
  | [], _ :: _, _, hl, _ => by simp at hl
  | _ :: _, [], _, hl, _ => by simp at hl
theorem Reps.join : ∀ {us : List V} {es : List D} {B C : AS}, Reps K H F us es B → Reps K H F vs ds C → (∀ x, B x → ¬ C x) → Reps K H F (us ++ vs) (es ++ ds) (fun x => B x ∨ C x)
  | _, _, _, _, .nil, r, _ => r.mono fun x h => .inr h
  | _, _, _, C, .cons (B := B1) (C := C1) a b i j k, r, n => by
    refine .cons (B := B1) (C := fun x => C1 x ∨ C x) a (Reps.join b r fun x h => n x (j x h)) (fun x h => .inl (i x h)) (fun x h => h.elim (fun z => .inl (j x z)) .inr) fun x h q => ?_
    rcases q with q | q
    · exact k x h q
    · exact n x (i x h) q
/-- the i-th taken out -/
theorem Reps.pick : ∀ {i : Nat} {us : List V} {es : List D} {A : AS} {d : D}, Reps K H F us es A → es[i]? = some d → ∃ v, us[i]? = some v ∧ Reps K H F (v :: us) (d :: es.set i .gone) A
  | 0, _, _, _, _, .cons a b i j k, h => by
    simp at h
    subst h
    exact ⟨_, rfl, .cons a (.cons (B := M0) .gone b (fun _ h => h.elim) (fun _ h => h) (fun _ h _ => h)) i j k⟩
  | i + 1, _, _, A, d, .cons (B := B1) (C := C1) a b p j k, h => by
    obtain ⟨v, hv, r⟩ := Reps.pick (i := i) b (by simpa using h)
    refine ⟨v, by simpa using hv, ?_⟩
    rw [List.set_cons_succ]
    refine Reps.swap ?_
    exact .cons (B := B1) (C := C1) a r p j k
  | _, _, _, _, _, .nil, h => by simp at h
theorem Reps.replace : ∀ {i : Nat} {us : List V} {es : List D} {A : AS} {v : V} {d : D}, Reps K H F (v :: us) (d :: es) A → Reps K H F (us.set i v) (es.set i d) A
  | i, _, _, A, v, d, .cons (B := B) (C := C) a b p j k => by
    cases b with
    | nil => simp; exact .nil
    | cons a' b' p' j' k' =>
      rename_i B2 C2
      cases i with
      | zero =>
        rw [List.set_cons_zero, List.set_cons_zero]
        exact .cons a b' p (fun x h => j x (j' x h)) fun x h q => k x h (j' x q)
      | succ i =>
        rw [List.set_cons_succ, List.set_cons_succ]
        refine .cons (B := B2) (C := fun x => B x ∨ C2 x) a' (Reps.replace (i := i) (.cons (B := B) (C := C2) a b' (fun x h => .inl h) (fun x h => .inr h) fun x h q => k x h (j' x q))) (fun x h => j x (p' x h)) (fun x h => h.elim (p x) fun z => j x (j' x z)) fun x h q => ?_
        rcases q with q | q
        · exact k x q (p' x h)
        · exact k' x h q
theorem Reps.tail (r : Reps K H F (v :: vs) (d :: ds) A) : Reps K H F vs ds A := by
  cases r with
  | cons a b i j k => exact b.mono j
theorem Reps.copy {i : Nat} (r : Reps K H F us es A) (h : es[i]? = some d) (s : d.solid = true) : ∃ v, us[i]? = some v ∧ Rep K H F v d M0 := by
  obtain ⟨v, hv, q⟩ := r.pick h
  cases q with
  | cons a b i j k => exact ⟨v, hv, a.solid s⟩
theorem Reps.push (r : Reps K H F us es A) (q : Rep K H F v d M0) : Reps K H F (v :: us) (d :: es) A :=
  .cons (B := M0) (C := A) q r (fun _ h => h.elim) (fun _ h => h) fun _ h _ => h
end
abbrev Sl := L2.St
structure Gm where
  H0 : Hp
  A0 : AS
  F0 : AS
  T : List (Addr × Str)
  vs0 : Sl
  n : Nat
def Keep (A : AS) (H H' : Hp) : Prop := ∀ a o, H a = some o → ¬ A a → (∀ ps, o ≠ .tbl ps) → H' a = some o
def sv (σ : Sl) : List V := σ.map fun o => o.getD .non
theorem sv_length (σ : Sl) : (sv σ).length = σ.length := List.length_map ..
/-- nothing that is looked at stands there -/
def Nw (H : Hp) (a : Addr) : Prop := ∀ o, H a = some o → ∃ ps, o = .tbl ps
theorem Nw.none {H : Hp} {a : Addr} (h : H a = none) : Nw H a := fun o e => by rw [h] at e; cases e
theorem Nw.not {H : Hp} {a : Addr} {o : HO} (h : Nw H a) (e : H a = some o) (n : ∀ ps, o ≠ .tbl ps) : False := by
  obtain ⟨ps, z⟩ := h o e
  exact n ps z
structure Fits (K : PySem.W.Frag) (G : Gm) (kp : List Bool) (σ : Sl) (ρ : List D) (vs : List V) (ds : List D) (H : Hp) (A F : AS) : Prop where
  reps : Reps K H F (vs ++ sv σ) (ds ++ ρ) A
  lv : vs.length = ds.length
  ls : σ.length = ρ.length
  sn : σ.length = G.n
  non : ∀ i : Nat, σ[i]? = some none → ρ[i]? = some D.gone
  sep : ∀ a, A a → ¬ F a
  own : ∀ a, A a → ∃ o, H a = some o ∧ isOwn o
  trk : ∀ a, F a → ∃ o, H a = some o ∧ isOwn o
  src : ∀ a, A a → G.A0 a ∨ Nw G.H0 a
  srf : ∀ a, F a → G.A0 a ∨ G.F0 a ∨ Nw G.H0 a
  fr : Keep G.A0 G.H0 H
  al : ∀ a, Nw H a → Nw G.H0 a
  tab : LamX.Tabs G.T H
  kps : ∀ j : Nat, kp.getD j false = true → σ[j]? = G.vs0[j]?
def World (K : PySem.W.Frag) (G : Gm) (kp : List Bool) (σ : Sl) (ρ : List D) (vs : List V) (ds : List D) (H : Hp) : Prop := ∃ A F, Fits K G kp σ ρ vs ds H A F
section
variable {K : PySem.W.Frag} {G : Gm} {kp : List Bool} {σ : Sl} {ρ : List D} {vs us us' xs xs' : List V} {ds es es' fs fs' : List D} {H H' : Hp} {A F : AS} {v w y : V} {d e : D} {a p : Addr} {i : Nat}
theorem Fits.rep (f : Fits K G kp σ ρ vs ds H A F) (A' : AS) (r : Reps K H F (us ++ sv σ) (es ++ ρ) A') (l : us.length = es.length) (s : ∀ x, A' x → A x) : Fits K G kp σ ρ us es H A' F :=
  ⟨r, l, f.ls, f.sn, f.non, fun a h => f.sep a (s a h), fun a h => f.own a (s a h), f.trk, fun a h => f.src a (s a h), f.srf, f.fr, f.al, f.tab, f.kps⟩
theorem Fits.temps (f : Fits K G kp σ ρ vs ds H A F) (h : ∀ A, Reps K H F (vs ++ sv σ) (ds ++ ρ) A → Reps K H F (us ++ sv σ) (es ++ ρ) A) (l : us.length = es.length) : Fits K G kp σ ρ us es H A F :=
  f.rep A (h A f.reps) l fun _ h => h
theorem World.temps (W : World K G kp σ ρ vs ds H) (h : ∀ F A, Reps K H F (vs ++ sv σ) (ds ++ ρ) A → Reps K H F (us ++ sv σ) (es ++ ρ) A) (l : us.length = es.length) : World K G kp σ ρ us es H := by
  obtain ⟨A, F, f⟩ := W
  exact ⟨A, F, f.temps (h F) l⟩
theorem World.lv (W : World K G kp σ ρ vs ds H) : vs.length = ds.length := let ⟨_, _, f⟩ := W; f.lv
theorem World.drop (W : World K G kp σ ρ (v :: vs) (d :: ds) H) : World K G kp σ ρ vs ds H := W.temps (fun _ _ r => r.tail) (by simpa using W.lv)
theorem World.swap (W : World K G kp σ ρ (v :: w :: vs) (d :: e :: ds) H) : World K G kp σ ρ (w :: v :: vs) (e :: d :: ds) H := W.temps (fun _ _ r => Reps.swap r) (by simpa using W.lv)
theorem World.drop2 (W : World K G kp σ ρ (v :: w :: vs) (d :: e :: ds) H) : World K G kp σ ρ (v :: vs) (d :: ds) H := W.swap.drop
theorem World.push (W : World K G kp σ ρ vs ds H) (r : ∀ F, Rep K H F v d M0) : World K G kp σ ρ (v :: vs) (d :: ds) H := W.temps (fun _ _ q => q.push (r _)) (by simpa using W.lv)
theorem World.non (W : World K G kp σ ρ vs ds H) : World K G kp σ ρ (.non :: vs) (.non :: ds) H := W.push fun _ => .non
theorem World.bl {b : Bool} (W : World K G kp σ ρ vs ds H) : World K G kp σ ρ (.bl b :: vs) (.bl b :: ds) H := W.push fun _ => .bl
theorem World.int {j : Int} (W : World K G kp σ ρ vs ds H) : World K G kp σ ρ (.int j :: vs) (.int j :: ds) H := W.push fun _ => .int
theorem World.str {x : Str} (W : World K G kp σ ρ vs ds H) : World K G kp σ ρ (.str x :: vs) (.str x :: ds) H := W.push fun _ => .str
theorem World.opq (W : World K G kp σ ρ vs ds H) : World K G kp σ ρ (v :: vs) (.opq v :: ds) H := W.push fun _ => .opq
theorem World.gone (W : World K G kp σ ρ vs ds H) : World K G kp σ ρ (v :: vs) (.gone :: ds) H := W.push fun _ => .gone
/-- scalars are known -/
theorem World.isInt {j : Int} (W : World K G kp σ ρ (v :: vs) (.int j :: ds) H) : v = .int j := by
  obtain ⟨A, F, f⟩ := W
  cases f.reps with
  | cons a b i j k => cases a; rfl
theorem World.isBl {j : Bool} (W : World K G kp σ ρ (v :: vs) (.bl j :: ds) H) : v = .bl j := by
  obtain ⟨A, F, f⟩ := W
  cases f.reps with
  | cons a b i j k => cases a; rfl
theorem World.isStr {j : Str} (W : World K G kp σ ρ (v :: vs) (.str j :: ds) H) : v = .str j := by
  obtain ⟨A, F, f⟩ := W
  cases f.reps with
  | cons a b i j k => cases a; rfl
theorem World.isNon (W : World K G kp σ ρ (v :: vs) (.non :: ds) H) : v = .non := by
  obtain ⟨A, F, f⟩ := W
  cases f.reps with
  | cons a b i j k => cases a; rfl
theorem World.isOpq (W : World K G kp σ ρ (v :: vs) (.opq w :: ds) H) : v = w := by
  obtain ⟨A, F, f⟩ := W
  cases f.reps with
  | cons a b i j k => cases a; rfl
/-- a tuple is opened -/
theorem World.untup (W : World K G kp σ ρ (v :: vs) (.tup es :: ds) H) : ∃ a us, v = .ref a ∧ TupD K H a us ∧ us.length = es.length ∧ World K G kp σ ρ (us ++ vs) (es ++ ds) H := by
  obtain ⟨A, F, f⟩ := W
  have q := f.reps
  have lv := f.lv
  cases q with
  | cons a b i j k =>
    rename_i B C
    cases a with
    | tup s q =>
      refine ⟨_, _, rfl, s, q.length, fun x => B x ∨ C x, F, f.rep _ ?_ (by simp [q.length] at lv ⊢; exact lv) fun x h => h.elim (i x) (j x)⟩
      rw [List.append_assoc, List.append_assoc]
      exact q.join b k
/-- .. looked at -/
theorem World.isTup (W : World K G kp σ ρ (v :: vs) (.tup es :: ds) H) : ∃ a us, v = .ref a ∧ TupD K H a us ∧ us.length = es.length := by
  obtain ⟨a, us, h1, h2, h3, _⟩ := W.untup
  exact ⟨a, us, h1, h2, h3⟩
theorem tabs_laid {T : List (Addr × Str)} {o : HO} (t : LamX.Tabs T H) (hp : H p = none) : LamX.Tabs T (upd H p o) := t.ext fun b u q => by
  rw [upd_ne (ne_of_none q hp)]
  exact q
theorem agr_laid {A F : AS} {o : HO} (hp : H p = none) : Agr A F H (upd H p o) := fun b u q _ => by
  rw [upd_ne (ne_of_none q hp)]
  exact q
/-- a new object; what it owns -/
theorem Fits.laid {o : HO} (f : Fits K G kp σ ρ vs ds H A F) (hp : H p = none) (A' : AS) (r : Reps K (upd H p o) F (us ++ sv σ) (es ++ ρ) A') (l : us.length = es.length) (s : ∀ x, A' x → A x ∨ (x = p ∧ isOwn o)) : Fits K G kp σ ρ us es (upd H p o) A' F where
  reps := r
  lv := l
  ls := f.ls
  sn := f.sn
  non := f.non
  sep := fun a h => by
    rcases s a h with h | ⟨rfl, _⟩
    · exact f.sep a h
    · intro z
      obtain ⟨u, e, _⟩ := f.trk _ z
      rw [hp] at e; cases e
  own := fun a h => by
    rcases s a h with h | ⟨rfl, h⟩
    · obtain ⟨u, e, q⟩ := f.own a h
      exact ⟨u, by rw [upd_ne (ne_of_none e hp)]; exact e, q⟩
    · exact ⟨o, upd_same, h⟩
  trk := fun a h => by
    obtain ⟨u, e, q⟩ := f.trk a h
    exact ⟨u, by rw [upd_ne (ne_of_none e hp)]; exact e, q⟩
  src := fun a h => by
    rcases s a h with h | ⟨rfl, _⟩
    · exact f.src a h
    · exact .inr (f.al _ (.none hp))
  srf := f.srf
  fr := fun a u e n nt => by
    have q := f.fr a u e n nt
    rw [upd_ne (ne_of_none q hp)]
    exact q
  al := fun a e => by
    by_cases h : a = p
    · rw [h]; exact f.al _ (.none hp)
    · exact f.al a fun u z => e u (by rw [upd_ne h]; exact z)
  tab := tabs_laid f.tab hp
  kps := f.kps
theorem World.laid {o : HO} (W : World K G kp σ ρ vs ds H) (hp : H p = none) : World K G kp σ ρ vs ds (upd H p o) := by
  obtain ⟨A, F, f⟩ := W
  exact ⟨A, F, f.laid hp A (f.reps.agr (agr_laid hp) fun _ h => h) f.lv fun x h => .inl h⟩
theorem World.newTup (W : World K G kp σ ρ (us ++ vs) (es ++ ds) H) (l : us.length = es.length) (hp : H p = none) {o : Obj} (ho : o.dict = none) : World K G kp σ ρ (.ref p :: vs) (.tup es :: ds) (upd H p (.frz o (.tup us))) := by
  obtain ⟨A, F, f⟩ := W
  have r := f.reps
  have lv := f.lv
  rw [List.append_assoc, List.append_assoc] at r
  obtain ⟨B, C, r1, r2, h1, h2, h3⟩ := r.split l
  refine ⟨fun x => B x ∨ C x, F, f.laid hp _ ?_ (by simp [l] at lv ⊢; exact lv) fun x h => .inl (h.elim (h1 x) (h2 x))⟩
  exact .cons (B := B) (C := C) (.tup (.inl ⟨o, upd_same, ho⟩) (r1.agr (agr_laid hp) fun _ h => h)) (r2.agr (agr_laid hp) fun _ h => h) (fun x h => .inl h) (fun x h => .inr h) h3
theorem World.newLst (W : World K G kp σ ρ (us ++ vs) (es ++ ds) H) (l : us.length = es.length) (hp : H p = none) : World K G kp σ ρ (.ref p :: vs) (.lst .own es :: ds) (upd H p (.lst us)) := by
  obtain ⟨A, F, f⟩ := W
  have r := f.reps
  have lv := f.lv
  have na : ¬ A p := fun z => by
    obtain ⟨u, e, _⟩ := f.own _ z
    rw [hp] at e; cases e
  rw [List.append_assoc, List.append_assoc] at r
  obtain ⟨B, C, r1, r2, h1, h2, h3⟩ := r.split l
  refine ⟨fun x => (B x ∨ x = p) ∨ C x, F, f.laid hp _ ?_ (by simp [l] at lv ⊢; exact lv) fun x h => ?_⟩
  · exact .cons (B := fun x => B x ∨ x = p) (C := C) (.own upd_same (.inr rfl) (r1.agr (agr_laid hp) fun _ h => h) fun x h => ⟨.inl h, fun z => na (h1 _ (z ▸ h))⟩) (r2.agr (agr_laid hp) fun _ h => h) (fun x h => .inl h) (fun x h => .inr h)
      fun x h q => h.elim (fun z => h3 x z q) fun z => na (h2 _ (z ▸ q))
  · rcases h with (h | h) | h
    · exact .inl (h1 x h)
    · exact .inr ⟨h, trivial⟩
    · exact .inl (h2 x h)
/-- the slots -/
theorem sv_get {i : Nat} {v : V} (h : (sv σ)[i]? = some v) : ∃ o : Option V, σ[i]? = some o ∧ o.getD .non = v := by
  unfold sv at h
  rw [List.getElem?_map] at h
  cases e : σ[i]? with
  | none => rw [e] at h; cases h
  | some o => rw [e] at h; exact ⟨o, rfl, Option.some.inj h⟩
theorem Fits.slot (f : Fits K G kp σ ρ vs ds H A F) (h : ρ[i]? = some d) (n : d ≠ .gone) {v : V} (hv : (vs ++ sv σ)[vs.length + i]? = some v) : σ[i]? = some (some v) := by
  rw [List.getElem?_append_right (Nat.le_add_right ..), Nat.add_sub_cancel_left] at hv
  obtain ⟨o, e, q⟩ := sv_get hv
  cases o with
  | none =>
    have z := f.non i e
    rw [h] at z
    exact absurd (Option.some.inj z) n
  | some u => rw [e]; exact congrArg (fun z => some (some z)) q
theorem Fits.at_ (f : Fits K G kp σ ρ vs ds H A F) (h : ρ[i]? = some d) : (ds ++ ρ)[vs.length + i]? = some d := by
  rw [f.lv, List.getElem?_append_right (Nat.le_add_right ..), Nat.add_sub_cancel_left]
  exact h
theorem World.copy (W : World K G kp σ ρ vs ds H) (h : ρ[i]? = some d) (n : d ≠ .gone) (s : d.solid = true) : ∃ v, σ[i]? = some (some v) ∧ World K G kp σ ρ (v :: vs) (d :: ds) H := by
  obtain ⟨A, F, f⟩ := W
  obtain ⟨v, hv, r⟩ := f.reps.copy (f.at_ h) s
  exact ⟨v, f.slot h n hv, A, F, f.rep A (f.reps.push r) (by simpa using f.lv) fun _ h => h⟩
theorem Fits.setr (f : Fits K G kp σ ρ vs ds H A F) (A' : AS) (r : Reps K H F (us ++ sv σ) (es ++ ρ.set i d) A') (l : us.length = es.length) (s : ∀ x, A' x → A x) (h : ∀ j : Nat, σ[j]? = some none → (ρ.set i d)[j]? = some D.gone) : Fits K G kp σ (ρ.set i d) us es H A' F :=
  ⟨r, l, by rw [List.length_set]; exact f.ls, f.sn, h, fun a h => f.sep a (s a h), fun a h => f.own a (s a h), f.trk, fun a h => f.src a (s a h), f.srf, f.fr, f.al, f.tab, f.kps⟩
theorem set_app {α : Type} (l r : List α) (i : Nat) (x : α) : (l ++ r).set (l.length + i) x = l ++ r.set i x := by
  rw [List.set_append_right (l.length + i) x (Nat.le_add_right ..), Nat.add_sub_cancel_left]
theorem World.take (W : World K G kp σ ρ vs ds H) (h : ρ[i]? = some d) (n : d ≠ .gone) : ∃ v, σ[i]? = some (some v) ∧ World K G kp σ (ρ.set i .gone) (v :: vs) (d :: ds) H := by
  obtain ⟨A, F, f⟩ := W
  obtain ⟨v, hv, r⟩ := f.reps.pick (f.at_ h)
  refine ⟨v, f.slot h n hv, A, F, f.setr A ?_ (by simpa using f.lv) (fun _ h => h) fun j hj => ?_⟩
  · rw [f.lv, set_app] at r
    exact r
  · by_cases e : i = j
    · subst e
      rw [List.getElem?_set_self (List.getElem?_eq_some_iff.mp h).1]
    · rw [List.getElem?_set_ne e]; exact f.non j hj
theorem World.give (W : World K G kp σ ρ (v :: vs) (d :: ds) H) (h : σ[i]? = some (some v)) : World K G kp σ (ρ.set i d) vs ds H := by
  obtain ⟨A, F, f⟩ := W
  have r : Reps K H F ((vs ++ sv σ).set (vs.length + i) v) ((ds ++ ρ).set (vs.length + i) d) A := f.reps.replace (i := vs.length + i)
  have lv : vs.length = ds.length := by simpa using f.lv
  refine ⟨A, F, f.setr A ?_ lv (fun _ h => h) fun j hj => ?_⟩
  · have e1 : (vs ++ sv σ).set (vs.length + i) v = vs ++ sv σ := by
      rw [set_app]
      congr 1
      refine List.ext_getElem? fun j => ?_
      by_cases e : i = j
      · subst e
        have hi : i < (sv σ).length := by rw [sv_length]; exact (List.getElem?_eq_some_iff.mp h).1
        rw [List.getElem?_set_self hi]
        unfold sv
        rw [List.getElem?_map, h]
        rfl
      · rw [List.getElem?_set_ne e]
    have e2 : (ds ++ ρ).set (vs.length + i) d = ds ++ ρ.set i d := by rw [lv, set_app]
    rw [e1, e2] at r
    exact r
  · by_cases e : i = j
    · subst e; rw [h] at hj; cases hj
    · rw [List.getElem?_set_ne e]; exact f.non j hj
theorem sv_set {o : Option V} : sv (σ.set i o) = (sv σ).set i (o.getD .non) := by unfold sv; rw [List.map_set]
theorem World.store (W : World K G kp σ ρ (v :: vs) (d :: ds) H) (hk : kp.getD i false = false) : World K G kp (σ.set i (some v)) (ρ.set i d) vs ds H := by
  obtain ⟨A, F, f⟩ := W
  have r : Reps K H F ((vs ++ sv σ).set (vs.length + i) v) ((ds ++ ρ).set (vs.length + i) d) A := f.reps.replace (i := vs.length + i)
  have lv : vs.length = ds.length := by simpa using f.lv
  have e2 : (ds ++ ρ).set (vs.length + i) d = ds ++ ρ.set i d := by rw [lv, set_app]
  have e1 : (vs ++ sv σ).set (vs.length + i) v = vs ++ sv (σ.set i (some v)) := by rw [set_app, sv_set]; rfl
  rw [e1, e2] at r
  refine ⟨A, F, r, lv, by rw [List.length_set, List.length_set]; exact f.ls, by rw [List.length_set]; exact f.sn, fun j hj => ?_, f.sep, f.own, f.trk, f.src, f.srf, f.fr, f.al, f.tab, fun j hj => ?_⟩
  · by_cases e : i = j
    · subst e
      by_cases hl : i < σ.length
      · rw [List.getElem?_set_self hl] at hj; cases hj
      · rw [List.getElem?_eq_none (by simpa using hl)] at hj; cases hj
    · rw [List.getElem?_set_ne e] at hj ⊢; exact f.non j hj
  · have ne : i ≠ j := fun e => by
      rw [← e, hk] at hj
      cases hj
    rw [List.getElem?_set_ne ne]
    exact f.kps j hj
/-- a slot is forgotten -/
theorem World.forget (W : World K G kp σ ρ vs ds H) : World K G kp σ (ρ.set i .gone) vs ds H := by
  obtain ⟨A, F, f⟩ := W
  have e2 : (ds ++ ρ).set (vs.length + i) .gone = ds ++ ρ.set i .gone := by rw [f.lv, set_app]
  have r : Reps K H F (vs ++ sv σ) (ds ++ ρ.set i .gone) A := by
    cases h : ρ[i]? with
    | none =>
      rw [List.set_eq_of_length_le (List.getElem?_eq_none_iff.mp h)]
      exact f.reps
    | some d =>
      obtain ⟨v, hv, q⟩ := f.reps.pick (f.at_ h)
      rw [f.lv, set_app] at q
      exact q.tail
  refine ⟨A, F, f.setr A r f.lv (fun _ h => h) fun j hj => ?_⟩
  by_cases e : i = j
  · subst e
    have h := f.non i hj
    rw [List.getElem?_set_self (List.getElem?_eq_some_iff.mp h).1]
  · rw [List.getElem?_set_ne e]; exact f.non j hj
/-- the top is frozen -/
theorem World.frzTop (W : World K G kp σ ρ (v :: vs) (d :: ds) H) : World K G kp σ ρ (v :: vs) (d.frz :: ds) H := by
  obtain ⟨A, F, f⟩ := W
  have r := f.reps
  cases r with
  | cons a b i j k =>
    rename_i B C
    refine ⟨C, fun x => F x ∨ B x, ⟨.cons (B := M0) (C := C) (a.frz (fun x h => .inr h) fun x h => .inl h) (b.agr (fun _ _ e _ => e) fun x h => .inl h) (fun _ h => h.elim) (fun _ h => h) fun _ h _ => h, by simpa using f.lv, f.ls, f.sn, f.non, fun a h q => ?_, fun a h => f.own a (j a h), fun a h => ?_, fun a h => f.src a (j a h), fun a h => ?_, f.fr, f.al, f.tab, f.kps⟩⟩
    · rcases q with q | q
      · exact f.sep a (j a h) q
      · exact k a q h
    · exact h.elim (f.trk a) fun z => f.own a (i a z)
    · rcases h with h | h
      · exact f.srf a h
      · exact (f.src a (i a h)).elim .inl fun z => .inr (.inr z)
/-- the kids of the top are frozen -/
def frzK : D → D
  | .tup es => .tup (frzs es)
  | .lst m es => .lst m (frzs es)
  | .dct m ks es => .dct m ks (frzs es)
  | .ndc m ks es ow => .ndc m ks (frzs es) ow
  | .ldc o kvs es => .ldc o kvs (frzs es)
  | d => d
theorem World.frzKids (W : World K G kp σ ρ (v :: vs) (d :: ds) H) : World K G kp σ ρ (v :: vs) (frzK d :: ds) H := by
  obtain ⟨A, F, f⟩ := W
  have r := f.reps
  cases r with
  | cons a b i j k =>
    rename_i B C
    have go : ∀ B' Z : AS, (∀ x, Z x → B x) → (∀ x, B' x → B x) → (∀ x, B' x → ¬ Z x) → Rep K H (fun x => F x ∨ Z x) v (frzK d) B' → World K G kp σ ρ (v :: vs) (frzK d :: ds) H := fun B' Z hz hb hn r =>
      ⟨fun x => B' x ∨ C x, fun x => F x ∨ Z x, .cons (B := B') (C := C) r (b.agr (fun _ _ e _ => e) fun x h => .inl h) (fun x h => .inl h) (fun x h => .inr h) (fun x h q => k x (hb x h) q), by simpa using f.lv, f.ls, f.sn, f.non,
        fun a h q => by
          rcases h with h | h
          · rcases q with q | q
            · exact f.sep a (i a (hb a h)) q
            · exact hn a h q
          · rcases q with q | q
            · exact f.sep a (j a h) q
            · exact k a (hz a q) h,
        fun a h => h.elim (fun z => f.own a (i a (hb a z))) fun z => f.own a (j a z),
        fun a h => h.elim (f.trk a) fun z => f.own a (i a (hz a z)),
        fun a h => h.elim (fun z => f.src a (i a (hb a z))) fun z => f.src a (j a z),
        fun a h => by
          rcases h with h | h
          · exact f.srf a h
          · exact (f.src a (i a (hz a h))).elim .inl fun z => .inr (.inr z),
        f.fr, f.al, f.tab, f.kps⟩
    have same : frzK d = d → World K G kp σ ρ (v :: vs) (frzK d :: ds) H := fun e => by rw [e]; exact ⟨A, F, f⟩
    cases a with
    | gone => exact same rfl
    | non => exact same rfl
    | bl => exact same rfl
    | int => exact same rfl
    | str => exact same rfl
    | opq => exact same rfl
    | tup s q => exact go M0 B (fun _ h => h) (fun _ h => h.elim) (fun _ h _ => h) (.tup s (q.frz (fun x h => .inr h) fun x h => .inl h))
    | own e a q s =>
      rename_i ad us es B1
      exact go (fun x => x = ad) B1 (fun x h => (s x h).1) (fun x h => h ▸ a) (fun x h q => (s x q).2 h) (.own e rfl (q.frz (fun x h => .inr h) fun x h => .inl h) fun _ h => h.elim)
    | shr e a q => exact go M0 M0 (fun _ h => h.elim) (fun _ h => h.elim) (fun _ h _ => h) (.shr e (.inl a) (q.frz (fun x h => h.elim) fun x h => .inl h))
    | con c q => exact go M0 M0 (fun _ h => h.elim) (fun _ h => h.elim) (fun _ h _ => h) (.con c (q.frz (fun x h => h.elim) fun x h => .inl h))
    | dOwn e kk a q s =>
      rename_i ad kvs ks es B1
      exact go (fun x => x = ad) B1 (fun x h => (s x h).1) (fun x h => h ▸ a) (fun x h q => (s x q).2 h) (.dOwn e kk rfl (q.frz (fun x h => .inr h) fun x h => .inl h) fun _ h => h.elim)
    | dShr e kk a q => exact go M0 M0 (fun _ h => h.elim) (fun _ h => h.elim) (fun _ h _ => h) (.dShr e kk (.inl a) (q.frz (fun x h => h.elim) fun x h => .inl h))
    | nOwn e kk p a q s =>
      rename_i ad xs ks es B1
      exact go (fun x => x = ad) B1 (fun x h => (s x h).1) (fun x h => h ▸ a) (fun x h q => (s x q).2 h) (.nOwn e kk (p.agr (fun _ _ e _ => e) fun x h => .inl h) rfl (q.frz (fun x h => .inr h) fun x h => .inl h) fun _ h => h.elim)
    | nShr e kk p a q => exact go M0 M0 (fun _ h => h.elim) (fun _ h => h.elim) (fun _ h _ => h) (.nShr e kk (p.agr (fun _ _ e _ => e) fun x h => .inl h) (.inl a) (q.frz (fun x h => h.elim) fun x h => .inl h))
    | tOwn e kk p a q s =>
      rename_i ad w xs ks es B1
      exact go (fun x => x = ad) B1 (fun x h => (s x h).1) (fun x h => h ▸ a) (fun x h q => (s x q).2 h) (.tOwn e kk (p.agr (fun _ _ e _ => e) fun x h => .inl h) rfl (q.frz (fun x h => .inr h) fun x h => .inl h) fun _ h => h.elim)
    | tShr e kk p a q => exact go M0 M0 (fun _ h => h.elim) (fun _ h => h.elim) (fun _ h _ => h) (.tShr e kk (p.agr (fun _ _ e _ => e) fun x h => .inl h) (.inl a) (q.frz (fun x h => h.elim) fun x h => .inl h))
    | tCon e kk p q => exact go M0 M0 (fun _ h => h.elim) (fun _ h => h.elim) (fun _ h _ => h) (.tCon e kk (p.agr (fun _ _ e _ => e) fun x h => .inl h) (q.frz (fun x h => h.elim) fun x h => .inl h))
    | ldc e q => exact go M0 B (fun _ h => h) (fun _ h => h.elim) (fun _ h _ => h) (.ldc e (q.frz (fun x h => .inr h) fun x h => .inl h))
    | ext => exact same rfl
    | ins => exact same rfl
/-- a list on top, read; its kids, where they are solid -/
theorem World.isLst {m : M} (W : World K G kp σ ρ (v :: vs) (.lst m es :: ds) H) : ∃ a us, v = .ref a ∧ SqL K H a us ∧ us.length = es.length ∧ (m = .own ∨ m = .shr → H a = some (.lst us)) ∧ ((solids es = true ∨ m ≠ .own) → World K G kp σ ρ (us ++ v :: vs) (es ++ .lst m es :: ds) H) := by
  obtain ⟨A, F, f⟩ := W
  have r := f.reps
  have lv := f.lv
  have fin : ∀ us : List V, us.length = es.length → Reps K H F us es M0 → World K G kp σ ρ (us ++ v :: vs) (es ++ .lst m es :: ds) H := fun us l q => by
    refine ⟨fun x => M0 x ∨ A x, F, f.rep _ ?_ (by simp [l] at lv ⊢; exact lv) fun x h => h.elim (fun z => z.elim) fun z => z⟩
    rw [List.append_assoc, List.append_assoc]
    exact q.join f.reps fun _ h => h.elim
  cases r with
  | cons a b i j k =>
    cases a with
    | own e a q s => exact ⟨_, _, rfl, .inl (.inl e), q.length, fun _ => e, fun h => h.elim (fun z => fin _ q.length (q.solid z)) fun z => absurd rfl z⟩
    | shr e a q => exact ⟨_, _, rfl, .inl (.inl e), q.length, fun _ => e, fun _ => fin _ q.length q⟩
    | con c q => exact ⟨_, _, rfl, c.sq, q.length, (fun h => by rcases h with z | z <;> cases z), fun _ => fin _ q.length q⟩
theorem World.tupKids (W : World K G kp σ ρ (v :: vs) (.tup es :: ds) H) (s : solids es = true) : ∃ a us, v = .ref a ∧ TupD K H a us ∧ us.length = es.length ∧ World K G kp σ ρ (us ++ v :: vs) (es ++ .tup es :: ds) H := by
  obtain ⟨A, F, f⟩ := W
  have r := f.reps
  have lv := f.lv
  cases r with
  | cons a b i j k =>
    cases a with
    | tup e q =>
      rename_i us
      refine ⟨_, _, rfl, e, q.length, fun x => M0 x ∨ A x, F, f.rep _ ?_ (by simp [q.length] at lv ⊢; exact lv) fun x h => h.elim (fun z => z.elim) fun z => z⟩
      rw [List.append_assoc, List.append_assoc]
      exact (q.solid s).join f.reps fun _ h => h.elim
/-- a tuple, a list on top whose kids are solid: what may be made of them -/
theorem World.tupW (W : World K G kp σ ρ (v :: vs) (.tup es :: ds) H) (s : solids es = true) : ∃ a us, v = .ref a ∧ TupD K H a us ∧ us.length = es.length ∧
    ∀ (vs' : List V) (ds' : List D), (∀ F A, Reps K H F us es M0 → Reps K H F (v :: vs ++ sv σ) (.tup es :: ds ++ ρ) A → Reps K H F (vs' ++ sv σ) (ds' ++ ρ) A) → vs'.length = ds'.length → World K G kp σ ρ vs' ds' H := by
  obtain ⟨A, F, f⟩ := W
  have r := f.reps
  cases r with
  | cons a b i j k =>
    cases a with
    | tup e q => exact ⟨_, _, rfl, e, q.length, fun vs' ds' h l => ⟨A, F, f.rep A (h F A (q.solid s) (.cons (.tup e q) b i j k)) l fun _ h => h⟩⟩
theorem World.lstW {m : M} (W : World K G kp σ ρ (v :: vs) (.lst m es :: ds) H) (s : solids es = true) : ∃ a us, v = .ref a ∧ SqL K H a us ∧ (m ≠ .con → H a = some (.lst us)) ∧ us.length = es.length ∧
    ∀ (vs' : List V) (ds' : List D), (∀ F A, Reps K H F us es M0 → Reps K H F (v :: vs ++ sv σ) (.lst m es :: ds ++ ρ) A → Reps K H F (vs' ++ sv σ) (ds' ++ ρ) A) → vs'.length = ds'.length → World K G kp σ ρ vs' ds' H := by
  obtain ⟨A, F, f⟩ := W
  have r := f.reps
  cases r with
  | cons a b i j k =>
    cases a with
    | own e a q t => exact ⟨_, _, rfl, .inl (.inl e), fun _ => e, q.length, fun vs' ds' h l => ⟨A, F, f.rep A (h F A (q.solid s) (.cons (.own e a q t) b i j k)) l fun _ h => h⟩⟩
    | shr e a q => exact ⟨_, _, rfl, .inl (.inl e), fun _ => e, q.length, fun vs' ds' h l => ⟨A, F, f.rep A (h F A q (.cons (.shr e a q) b i j k)) l fun _ h => h⟩⟩
    | con c q => exact ⟨_, _, rfl, c.sq, (fun h => absurd rfl h), q.length, fun vs' ds' h l => ⟨A, F, f.rep A (h F A q (.cons (.con c q) b i j k)) l fun _ h => h⟩⟩
theorem World.lstX {m : M} (W : World K G kp σ ρ (v :: vs) (.lst m es :: ds) H) (s : solids es = true) : ∃ a us, v = .ref a ∧ SqL K H a us ∧ (m ≠ .con → H a = some (.lst us)) ∧ us.length = es.length ∧ (∃ F, Reps K H F us es M0) ∧
    ∀ (vs' : List V) (ds' : List D), (∀ F A, Reps K H F us es M0 → Reps K H F (v :: vs ++ sv σ) (.lst m es :: ds ++ ρ) A → Reps K H F (vs' ++ sv σ) (ds' ++ ρ) A) → vs'.length = ds'.length → World K G kp σ ρ vs' ds' H := by
  obtain ⟨A, F, f⟩ := W
  have r := f.reps
  cases r with
  | cons a b i j k =>
    cases a with
    | own e a q t => exact ⟨_, _, rfl, .inl (.inl e), fun _ => e, q.length, ⟨F, q.solid s⟩, fun vs' ds' h l => ⟨A, F, f.rep A (h F A (q.solid s) (.cons (.own e a q t) b i j k)) l fun _ h => h⟩⟩
    | shr e a q => exact ⟨_, _, rfl, .inl (.inl e), fun _ => e, q.length, ⟨F, q⟩, fun vs' ds' h l => ⟨A, F, f.rep A (h F A q (.cons (.shr e a q) b i j k)) l fun _ h => h⟩⟩
    | con c q => exact ⟨_, _, rfl, c.sq, (fun h => absurd rfl h), q.length, ⟨F, q⟩, fun vs' ds' h l => ⟨A, F, f.rep A (h F A q (.cons (.con c q) b i j k)) l fun _ h => h⟩⟩
/-- one of the temporaries ahead stays, the others go -/
theorem World.nth (W : World K G kp σ ρ (us ++ vs) (es ++ ds) H) (l : us.length = es.length) (h : es[i]? = some d) : ∃ v, us[i]? = some v ∧ World K G kp σ ρ (v :: vs) (d :: ds) H := by
  obtain ⟨A, F, f⟩ := W
  have r := f.reps
  have lv := f.lv
  rw [List.append_assoc, List.append_assoc] at r
  obtain ⟨B, C, r1, r2, h1, h2, h3⟩ := r.split l
  obtain ⟨v, hv, q⟩ := r1.pick h
  refine ⟨v, hv, fun x => B x ∨ C x, F, f.rep _ ?_ (by simp [l] at lv ⊢; exact lv) fun x h => h.elim (h1 x) (h2 x)⟩
  cases q with
  | cons a b i j k => exact .cons (C := C) a r2 (fun x h => .inl (i x h)) (fun x h => .inr h) fun x h q => h3 x (i x h) q
theorem World.dropN (W : World K G kp σ ρ (us ++ vs) (es ++ ds) H) (l : us.length = es.length) : World K G kp σ ρ vs ds H := by
  obtain ⟨A, F, f⟩ := W
  have r := f.reps
  have lv := f.lv
  rw [List.append_assoc, List.append_assoc] at r
  obtain ⟨B, C, r1, r2, h1, h2, h3⟩ := r.split l
  exact ⟨C, F, f.rep _ r2 (by simp [l] at lv; exact lv) h2⟩
theorem Reps.rot : ∀ {us : List V} {es : List D} {A : AS}, us.length = es.length → Reps K H F (us ++ v :: vs) (es ++ d :: ds) A → Reps K H F (v :: (us ++ vs)) (d :: (es ++ ds)) A
  | [], [], _, _, r => r
  | u :: us, e :: es, _, l, .cons a b i j k => Reps.swap (.cons a (Reps.rot (us := us) (es := es) (by simpa using l) b) i j k)
  | [], _ :: _, _, l, _ => by simp at l
  | _ :: _, [], _, l, _ => by simp at l
theorem World.rot (W : World K G kp σ ρ (us ++ v :: vs) (es ++ d :: ds) H) (l : us.length = es.length) : World K G kp σ ρ (v :: (us ++ vs)) (d :: (es ++ ds)) H := W.temps (fun F A r => by
    rw [List.append_assoc, List.append_assoc] at r
    have q := Reps.rot (vs := vs ++ sv σ) (ds := ds ++ ρ) l (by simpa using r)
    simpa [List.append_assoc] using q) (by have := W.lv; simp [l] at this ⊢; omega)
theorem Reps.tor : ∀ {us : List V} {es : List D} {A : AS}, us.length = es.length → Reps K H F (v :: (us ++ vs)) (d :: (es ++ ds)) A → Reps K H F (us ++ v :: vs) (es ++ d :: ds) A
  | [], [], _, _, r => r
  | u :: us, e :: es, _, l, r => by
    have r := Reps.swap r
    cases r with
    | cons a b i j k => exact .cons a (Reps.tor (us := us) (es := es) (by simpa using l) b) i j k
  | [], _ :: _, _, l, _ => by simp at l
  | _ :: _, [], _, l, _ => by simp at l
theorem Reps.under {vs' : List V} {ds' : List D} (l : us.length = es.length) (h : ∀ A, Reps K H F vs ds A → Reps K H F vs' ds' A) (r : Reps K H F (us ++ vs) (es ++ ds) A) : Reps K H F (us ++ vs') (es ++ ds') A := by
  obtain ⟨B, C, r1, r2, h1, h2, h3⟩ := r.split l
  exact (r1.join (h C r2) h3).mono fun x h => h.elim (h1 x) (h2 x)
theorem World.under {vs' : List V} {ds' : List D} (W : World K G kp σ ρ (us ++ vs) (es ++ ds) H) (l : us.length = es.length) (h : ∀ F A, Reps K H F (vs ++ sv σ) (ds ++ ρ) A → Reps K H F (vs' ++ sv σ) (ds' ++ ρ) A) (l' : vs'.length = ds'.length) : World K G kp σ ρ (us ++ vs') (es ++ ds') H :=
  W.temps (fun F A r => by
    rw [List.append_assoc, List.append_assoc] at r ⊢
    exact r.under l (h F)) (by rw [List.length_append, List.length_append, l, l'])
theorem World.tor (W : World K G kp σ ρ (v :: (us ++ vs)) (d :: (es ++ ds)) H) (l : us.length = es.length) : World K G kp σ ρ (us ++ v :: vs) (es ++ d :: ds) H := W.temps (fun F A r => by
    have q := Reps.tor (K := K) (H := H) (F := F) (v := v) (d := d) (us := us) (es := es) (vs := vs ++ sv σ) (ds := ds ++ ρ) (A := A) l (by simpa using r)
    simpa [List.append_assoc] using q) (by have := W.lv; simp [l] at this ⊢; omega)
/-- for a call: the arguments' part, and back -/
def Enter (K : PySem.W.Frag) (T : List (Addr × Str)) (vs : List V) (ds : List D) (H : Hp) (A F : AS) : Prop :=
  Reps K H F vs ds A ∧ (∀ a, A a → ¬ F a) ∧ (∀ a, A a → ∃ o, H a = some o ∧ isOwn o) ∧ (∀ a, F a → ∃ o, H a = some o ∧ isOwn o) ∧ LamX.Tabs T H
theorem not_tbl {o : HO} (h : isOwn o) : ∀ ps, o ≠ .tbl ps := fun ps z => by rw [z] at h; exact h
theorem World.call (W : World K G kp σ ρ (us ++ vs) (es ++ ds) H) (l : us.length = es.length) : ∃ A F, Enter K G.T us es H A F ∧
    ∀ ws fs H', ws.length = fs.length → World K ⟨H, A, F, G.T, us.map some, 0⟩ [] [] [] ws fs H' → World K G kp σ ρ (ws ++ vs) (fs ++ ds) H' := by
  obtain ⟨A, F, f⟩ := W
  have r := f.reps
  have lv := f.lv
  rw [List.append_assoc, List.append_assoc] at r
  obtain ⟨B, C, r1, r2, h1, h2, h3⟩ := r.split l
  refine ⟨B, F, ⟨r1, fun a h => f.sep a (h1 a h), fun a h => f.own a (h1 a h), f.trk, f.tab⟩, fun ws fs H' lw W' => ?_⟩
  obtain ⟨A', F', g⟩ := W'
  have fre : ∀ a, Nw H a → ¬ F a := fun a e z => by
    obtain ⟨o, q, w⟩ := f.trk a z
    exact e.not q (not_tbl w)
  have freC : ∀ a, Nw H a → ¬ C a := fun a e z => by
    obtain ⟨o, q, w⟩ := f.own a (h2 a z)
    exact e.not q (not_tbl w)
  have keepC : ∀ a o, H a = some o → C a → H' a = some o := fun a o e c => by
    obtain ⟨o', e', q⟩ := f.own a (h2 a c)
    rw [e] at e'; cases e'
    exact g.fr a o e (fun z => h3 a z c) (not_tbl q)
  have keepF : ∀ a o, H a = some o → F a → H' a = some o := fun a o e c => by
    obtain ⟨o', e', q⟩ := f.trk a c
    rw [e] at e'; cases e'
    exact g.fr a o e (fun z => f.sep a (h1 a z) c) (not_tbl q)
  have agr : Agr C F H H' := fun a o e q => by
    rcases q with q | q | q
    · exact keepC a o e q
    · exact keepF a o e q
    · refine g.fr a o e (fun z => ?_) (fun ps z => by rw [z] at q; exact q)
      obtain ⟨o', e', q'⟩ := f.own a (h1 a z)
      rw [e] at e'; cases e'
      cases o <;> first | exact q.elim | exact q'.elim
  have rw1 : Reps K H' F' ws fs A' := by simpa [sv] using g.reps
  refine ⟨fun x => A' x ∨ C x, fun x => F x ∨ F' x, ?_, by simp [l] at lv; simp [lw, lv], f.ls, f.sn, f.non, fun a h q => ?_, fun a h => ?_, fun a h => ?_, fun a h => ?_, fun a h => ?_, fun a o e n nt => ?_, fun a e => f.al a (g.al a e), g.tab, f.kps⟩
  · rw [List.append_assoc, List.append_assoc]
    refine (rw1.agr (fun _ _ e _ => e) fun x h => .inr h).join (r2.agr agr fun x h => .inl h) fun x h q => ?_
    rcases g.src x h with z | z
    · exact h3 x z q
    · exact freC x z q
  · rcases h with h | h
    · rcases q with q | q
      · rcases g.src a h with z | z
        · exact f.sep a (h1 a z) q
        · exact fre a z q
      · exact g.sep a h q
    · rcases q with q | q
      · exact f.sep a (h2 a h) q
      · rcases g.srf a q with z | z | z
        · exact h3 a z h
        · exact f.sep a (h2 a h) z
        · exact freC a z h
  · rcases h with h | h
    · exact g.own a h
    · obtain ⟨o, e, q⟩ := f.own a (h2 a h)
      exact ⟨o, keepC a o e h, q⟩
  · rcases h with h | h
    · obtain ⟨o, e, q⟩ := f.trk a h
      exact ⟨o, keepF a o e h, q⟩
    · exact g.trk a h
  · rcases h with h | h
    · rcases g.src a h with z | z
      · exact f.src a (h1 a z)
      · exact .inr (f.al a z)
    · exact f.src a (h2 a h)
  · rcases h with h | h
    · exact f.srf a h
    · rcases g.srf a h with z | z | z
      · exact (f.src a (h1 a z)).elim .inl fun z => .inr (.inr z)
      · exact f.srf a z
      · exact .inr (.inr (f.al a z))
  · refine g.fr a o (f.fr a o e n nt) (fun z => ?_) nt
    rcases f.src a (h1 a z) with q | q
    · exact n q
    · exact (q.not e nt).elim
/-- a def's entry and its end -/
def outs : List Bool → List D → List D
  | [], _ => []
  | b :: m, d :: r => (if b then d else .gone) :: outs m r
  | _ :: m, [] => .gone :: outs m []
theorem outs_rep : ∀ {kp : List Bool} {us : List V} {es : List D} {ws : List V} {A : AS}, Reps K H F us es A → ws.length = kp.length → kp.length ≤ us.length → (∀ j : Nat, kp.getD j false = true → us[j]? = ws[j]?) → Reps K H F ws (outs kp es) A
  | [], _, _, [], _, _, _, _, _ => .nil
  | [], _, _, _ :: _, _, _, l, _, _ => by simp at l
  | _ :: _, _, _, [], _, _, l, _, _ => by simp at l
  | b :: m, _, _, w :: ws, A, .nil, _, l, _ => by simp at l
  | b :: m, u :: us, e :: es, w :: ws, A, .cons (B := B) (C := C) p q i j k, l1, l2, h => by
    have r := outs_rep (kp := m) (ws := ws) q (by simpa using l1) (by simpa using l2) fun n hn => by simpa using h (n + 1) (by simpa using hn)
    show Reps K H F (w :: ws) ((if b = true then e else .gone) :: outs m es) A
    cases b with
    | false => exact .cons (B := M0) (C := C) .gone r (fun _ h => h.elim) j fun _ h => h.elim
    | true =>
      have e := h 0 rfl
      simp at e
      subst e
      exact .cons p r i j k
theorem World.begin_ {T : List (Addr × Str)} {N : List Str} {n : Nat} (h : Enter K T vs ds H A F) (hn : n = N.length - vs.length) (hk : ∀ j : Nat, kp.getD j false = true → j < vs.length) (hN : vs.length ≤ N.length) : World K ⟨H, A, F, T, vs.map some, N.length⟩ kp (L2.start N vs) (ds ++ List.replicate n .gone) [] [] H := by
  obtain ⟨r, sep, ow, tr, tb⟩ := h
  have l := r.length
  subst hn
  refine ⟨A, F, ?_, rfl, by simp [L2.start, l], by simp [L2.start]; omega, fun i hi => ?_, sep, ow, tr, fun a h => .inl h, fun a h => .inr (.inl h), fun _ _ e _ _ => e, fun _ e => e, tb, fun j hj => ?_⟩
  · show Reps K H F (sv (L2.start N vs)) _ A
    have e : sv (L2.start N vs) = vs ++ List.replicate (N.length - vs.length) .non := by simp [sv, L2.start, Function.comp_def]
    rw [e]
    have rr : ∀ k, Reps K H F (List.replicate k V.non) (List.replicate k D.gone) M0 := fun k => by
      induction k with
      | zero => exact .nil
      | succ k ih => exact .cons (B := M0) (C := M0) .gone ih (fun _ h => h) (fun _ h => h) fun _ h => h.elim
    exact (r.join (rr _) fun _ _ h => h).mono fun x h => h.elim id fun z => z.elim
  · unfold L2.start at hi
    by_cases hl : i < vs.length
    · rw [List.getElem?_append_left (by simpa using hl), List.getElem?_map, List.getElem?_eq_getElem hl] at hi
      cases hi
    · rw [List.getElem?_append_right (by simpa using hl), List.length_map] at hi
      obtain ⟨h1, _⟩ := List.getElem?_eq_some_iff.mp hi
      rw [List.length_replicate] at h1
      rw [List.getElem?_append_right (by omega), List.getElem?_replicate, if_pos (by omega)]
  · have hl := hk j hj
    unfold L2.start
    rw [List.getElem?_append_left (by simpa using hl)]
theorem World.end_ {H0 : Hp} {A0 F0 : AS} {T : List (Addr × Str)} {ws : List V} {n : Nat} (W : World K ⟨H0, A0, F0, T, ws.map some, n⟩ kp σ ρ vs ds H) (hl : kp.length = ws.length) (hs : ws.length ≤ n) : World K ⟨H0, A0, F0, T, ws.map some, 0⟩ [] [] [] (vs ++ ws) (ds ++ outs kp ρ) H := by
  obtain ⟨A, F, f⟩ := W
  have lo : ∀ (kp : List Bool) (ρ : List D), (outs kp ρ).length = kp.length := fun kp => by
    induction kp with
    | nil => intro ρ; rfl
    | cons b m ih => intro ρ; cases ρ <;> simp [outs, ih]
  obtain ⟨B, C, r1, r2, h1, h2, h3⟩ := f.reps.split f.lv
  have r3 : Reps K H F ws (outs kp ρ) C := outs_rep r2 hl.symm (by have := f.sn; rw [sv_length, hl, this]; exact hs) fun j hj => by
    have q := f.kps j hj
    unfold sv
    rw [List.getElem?_map, q]
    show Option.map _ ((ws.map some)[j]?) = _
    rw [List.getElem?_map]
    cases ws[j]? <;> rfl
  refine ⟨fun x => B x ∨ C x, F, by simpa [sv] using r1.join r3 h3, by rw [List.length_append, List.length_append, f.lv, lo, hl], rfl, rfl, fun i h => by simp at h, fun a h => f.sep a (h.elim (h1 a) (h2 a)), fun a h => f.own a (h.elim (h1 a) (h2 a)), f.trk, fun a h => f.src a (h.elim (h1 a) (h2 a)), f.srf, f.fr, f.al, f.tab, fun j hj => by simp at hj⟩
/-- an owned list rearranged, with temporaries ahead -/
theorem agr_upd {A F : AS} {o : HO} (h1 : ¬ A a) (h2 : ¬ F a) (h3 : ∃ u, H a = some u ∧ isOwn u) : Agr A F H (upd H a o) := fun b u e q => by
  have ne : b ≠ a := by
    rintro rfl
    rcases q with q | q | q
    · exact h1 q
    · exact h2 q
    · obtain ⟨u', e', o'⟩ := h3
      rw [e] at e'; cases e'
      cases u <;> first | exact q.elim | exact o'.elim
  rw [upd_ne ne]
  exact e
theorem tabs_upd {T : List (Addr × Str)} {o : HO} (t : LamX.Tabs T H) (h3 : ∃ u, H a = some u ∧ isOwn u) : LamX.Tabs T (upd H a o) := fun p hp => by
  obtain ⟨ps, e1, e2, e3⟩ := t p hp
  obtain ⟨u, e, q⟩ := h3
  have n1 : p.1 ≠ a := by
    rintro rfl
    rw [e] at e1; cases e1
    exact q
  refine ⟨ps, by rw [upd_ne n1]; exact e1, e2, fun pos cv hc => ?_⟩
  obtain ⟨c, e4, e5⟩ := e3 pos cv hc
  refine ⟨c, e4, ?_⟩
  have n2 : c ≠ a := by
    rintro rfl
    rw [e] at e5; cases e5
    exact q _ _ rfl
  rw [upd_ne n2]
  exact e5
theorem Fits.written {o : HO} (f : Fits K G kp σ ρ vs ds H A F) (ha : A a) (ho : isOwn o) (A' : AS) (r : Reps K (upd H a o) F (us ++ sv σ) (es ++ ρ) A') (l : us.length = es.length) (s : ∀ x, A' x → A x) : Fits K G kp σ ρ us es (upd H a o) A' F where
  reps := r
  lv := l
  ls := f.ls
  sn := f.sn
  non := f.non
  sep := fun x h => f.sep x (s x h)
  own := fun x h => by
    by_cases e : x = a
    · rw [e]; exact ⟨o, upd_same, ho⟩
    · rw [upd_ne e]; exact f.own x (s x h)
  trk := fun x h => by
    by_cases e : x = a
    · rw [e]; exact ⟨o, upd_same, ho⟩
    · rw [upd_ne e]; exact f.trk x h
  src := fun x h => f.src x (s x h)
  srf := f.srf
  fr := fun x u e n nt => by
    have ne : x ≠ a := by
      rintro rfl
      rcases f.src _ ha with q | q
      · exact n q
      · exact (q.not e nt).elim
    rw [upd_ne ne]
    exact f.fr x u e n nt
  al := fun x e => by
    by_cases h : x = a
    · subst h; exact (e.not upd_same (not_tbl ho)).elim
    · exact f.al x fun u z => e u (by rw [upd_ne h]; exact z)
  tab := tabs_upd f.tab (f.own a ha)
  kps := f.kps
theorem World.relist (W : World K G kp σ ρ (xs ++ v :: vs) (fs ++ .lst .own es :: ds) H) (l : xs.length = fs.length) : ∃ a us, v = .ref a ∧ H a = some (.lst us) ∧ us.length = es.length ∧
    ∀ xs' fs' us' es', xs'.length = fs'.length → us'.length = es'.length → (∀ F B, Reps K H F (xs ++ us) (fs ++ es) B → Reps K H F (xs' ++ us') (fs' ++ es') B) → World K G kp σ ρ (xs' ++ v :: vs) (fs' ++ .lst .own es' :: ds) (upd H a (.lst us')) := by
  obtain ⟨A, F, f⟩ := W
  have r := f.reps
  have lv := f.lv
  rw [List.append_assoc, List.append_assoc] at r
  obtain ⟨B1, C1, r1, r2, h1, h2, h3⟩ := r.split l
  cases r2 with
  | cons q b i j k =>
    rename_i B2 C2
    cases q with
    | own e ha q s =>
      rename_i a us B3
      refine ⟨a, us, rfl, e, q.length, fun xs' fs' us' es' l' lu tr => ?_⟩
      have rj := tr F _ (r1.join q fun x p z => h3 x p (i x (s x z).1))
      have hA : A a := h2 a (i a ha)
      have hF : ¬ F a := f.sep a hA
      have nb : ¬ (B1 a ∨ B3 a) := fun z => z.elim (fun z => h3 a z (i a ha)) fun z => (s a z).2 rfl
      have ho := f.own a hA
      have rk := rj.agr (agr_upd (o := .lst us') nb hF ho) fun _ h => h
      obtain ⟨B, C, p1, p2, g1, g2, g3⟩ := rk.split l'
      have rest := b.agr (agr_upd (o := .lst us') (fun z => k a ha z) hF ho) fun _ h => h
      refine ⟨A, F, f.written hA (o := .lst us') trivial _ ?_ (by simp [l] at lv; simp [l']; exact lv) fun _ h => h⟩
      rw [List.append_assoc, List.append_assoc]
      have nr : ∀ x, (B1 x ∨ B3 x) → ¬ C2 x := fun x z q => z.elim (fun z => h3 x z (j x q)) fun z => k x (s x z).1 q
      refine (p1.join (C := fun x => (x = a ∨ C x) ∨ C2 x) (.cons (B := fun x => x = a ∨ C x) (C := C2) (.own upd_same (.inl rfl) p2 fun x h => ⟨.inr h, fun z => nb (g2 a (z ▸ h))⟩) rest (fun x h => .inl h) (fun x h => .inr h) fun x h q => ?_) fun x h q => ?_).mono fun x h => ?_
      · rcases h with rfl | h
        · exact k _ ha q
        · exact nr x (g2 x h) q
      · rcases q with (rfl | q) | q
        · exact nb (g1 _ h)
        · exact g3 x h q
        · exact nr x (g1 x h) q
      · rcases h with h | (rfl | h) | h
        · exact (g1 x h).elim (h1 x) fun z => h2 x (i x (s x z).1)
        · exact hA
        · exact (g2 x h).elim (h1 x) fun z => h2 x (i x (s x z).1)
        · exact h2 x (j x h)
end
def DK.isK : DK → Bool
  | .k _ => true
  | .n _ => false
/-- where a key stands -/
def posK (ks : List DK) (k : DK) : Option Nat := ks.findIdx? fun x => decide (x = k)
theorem posK_cons {x k : DK} {ks : List DK} : posK (x :: ks) k = if x = k then some 0 else (posK ks k).map (· + 1) := by
  unfold posK
  rw [List.findIdx?_cons]
  by_cases h : x = k <;> simp [h]
theorem posK_get {k : DK} : ∀ {ks : List DK} {j : Nat}, posK ks k = some j → ks[j]? = some k
  | [], j, h => by cases h
  | x :: r, j, h => by
    rw [posK_cons] at h
    by_cases e : x = k
    · rw [if_pos e] at h; cases h; simp [e]
    · rw [if_neg e] at h
      obtain ⟨i, hi, rfl⟩ := Option.map_eq_some_iff.mp h
      simpa using posK_get hi
abbrev kks (kvs : List (Key × V)) : List DK := kvs.map fun p => DK.k p.1
theorem valV_posK (k : Key) : ∀ kvs : List (Key × V), valV kvs k = (posK (kks kvs) (.k k)).bind fun j => (kvs.map (·.2))[j]?
  | [] => rfl
  | p :: r => by
    rw [kks, List.map_cons, posK_cons]
    by_cases e : p.1 = k
    · rw [valV_pos e, if_pos (by rw [e])]; rfl
    · rw [valV_neg e, if_neg (fun z => e (by injection z)), valV_posK k r, List.map_cons]
      cases posK (kks r) (.k k) <;> rfl
theorem putK_no {kvs : List (Key × V)} {k : Key} {v : V} (h : posK (kks kvs) (.k k) = none) : putK kvs k v = kvs ++ [(k, v)] :=
  putK_new v (by rw [valV_posK, h]; rfl)
theorem map_off {k : Key} {v : V} : ∀ {r : List (Key × V)}, DK.k k ∉ kks r → (r.map fun kv => if kv.1 = k then (kv.1, v) else kv) = r
  | [], _ => rfl
  | p :: r, h => by
    rw [kks, List.map_cons, List.mem_cons, not_or] at h
    rw [List.map_cons, map_off h.2, if_neg (fun e => h.1 (by rw [e]))]
theorem putK_at {k : Key} {v : V} : ∀ {kvs : List (Key × V)} {j : Nat}, (kks kvs).Nodup → posK (kks kvs) (.k k) = some j → putK kvs k v = kvs.set j (k, v)
  | kvs, j, nd, h => by
    have hv : (kvs.any fun kv => decide (kv.1 = k)) = true := by
      rw [valV_any, valV_posK, h, Option.bind_some]
      have : j < kvs.length := by
        have := (List.getElem?_eq_some_iff.mp (posK_get h)).1
        simpa [kks] using this
      rw [List.getElem?_eq_getElem (by simpa using this)]
      rfl
    rw [putK, if_pos hv]
    clear hv
    induction kvs generalizing j with
    | nil => cases h
    | cons p r ih =>
      rw [kks, List.map_cons, List.nodup_cons] at nd
      rw [kks, List.map_cons, posK_cons] at h
      by_cases e : p.1 = k
      · rw [if_pos (by rw [e])] at h
        cases h
        rw [List.map_cons, if_pos e, map_off (by rw [← e]; exact nd.1), e]; rfl
      · rw [if_neg (fun z => e (by injection z))] at h
        obtain ⟨i, hi, rfl⟩ := Option.map_eq_some_iff.mp h
        rw [List.map_cons, if_neg e, ih i nd.2 hi]; rfl
section
variable {K : PySem.W.Frag} {G : Gm} {kp : List Bool} {σ : Sl} {ρ : List D} {vs xs : List V} {ds es fs : List D} {H : Hp} {v : V} {ks : List DK} {m : M}
/-- a dict on top, read -/
theorem World.isDct (W : World K G kp σ ρ (v :: vs) (.dct m ks es :: ds) H) (hk : ks.all DK.isK = true) : ∃ a kvs, v = .ref a ∧ H a = some (.dK kvs) ∧ kks kvs = ks ∧ kvs.length = es.length ∧
    ∀ (j : Nat) (d : D), es[j]? = some d → d.solid = true → ∃ w, (kvs.map (·.2))[j]? = some w ∧ World K G kp σ ρ (w :: v :: vs) (d :: .dct m ks es :: ds) H := by
  obtain ⟨A, F, f⟩ := W
  have r := f.reps
  have lv := f.lv
  cases r with
  | cons a b i j k =>
    cases a with
    | dOwn e kk ha q s =>
      refine ⟨_, _, rfl, e, kk, by have := q.length; simpa using this, fun j d hd hs => ?_⟩
      obtain ⟨w, hw, rw_⟩ := q.copy hd hs
      exact ⟨w, hw, A, F, f.rep A (Reps.push f.reps rw_) (by simpa using lv) fun _ h => h⟩
    | dShr e kk ha q =>
      refine ⟨_, _, rfl, e, kk, by have := q.length; simpa using this, fun j d hd hs => ?_⟩
      obtain ⟨w, hw, rw_⟩ := q.copy hd hs
      exact ⟨w, hw, A, F, f.rep A (Reps.push f.reps rw_) (by simpa using lv) fun _ h => h⟩
/-- an owned dict rearranged, with temporaries ahead -/
theorem World.redct (W : World K G kp σ ρ (xs ++ v :: vs) (fs ++ .dct .own ks es :: ds) H) (hk : ks.all DK.isK = true) (l : xs.length = fs.length) : ∃ a kvs, v = .ref a ∧ H a = some (.dK kvs) ∧ kks kvs = ks ∧ kvs.length = es.length ∧
    ∀ (xs' : List V) (fs' : List D) (kvs' : List (Key × V)) (es' : List D), xs'.length = fs'.length → (∀ F B, Reps K H F (xs ++ kvs.map (·.2)) (fs ++ es) B → Reps K H F (xs' ++ kvs'.map (·.2)) (fs' ++ es') B) → World K G kp σ ρ (xs' ++ v :: vs) (fs' ++ .dct .own (kks kvs') es' :: ds) (upd H a (.dK kvs')) := by
  obtain ⟨A, F, f⟩ := W
  have r := f.reps
  have lv := f.lv
  rw [List.append_assoc, List.append_assoc] at r
  obtain ⟨B1, C1, r1, r2, h1, h2, h3⟩ := r.split l
  cases r2 with
  | cons q b i j k =>
    rename_i B2 C2
    cases q with
    | dOwn e kk ha q s =>
      rename_i a kvs B3
      refine ⟨a, kvs, rfl, e, kk, by have := q.length; simpa using this, fun xs' fs' kvs' es' l' tr => ?_⟩
      have all := tr F _ (r1.join q fun x p z => h3 x p (i x (s x z).1))
      have inA : A a := h2 a (i a ha)
      have offF : ¬ F a := f.sep a inA
      have off : ¬ (B1 a ∨ B3 a) := fun z => z.elim (fun z => h3 a z (i a ha)) fun z => (s a z).2 rfl
      have held := f.own a inA
      obtain ⟨B, C, p1, p2, g1, g2, g3⟩ := (all.agr (agr_upd (o := .dK kvs') off offF held) fun _ h => h).split l'
      have rest := b.agr (agr_upd (o := .dK kvs') (fun z => k a ha z) offF held) fun _ h => h
      refine ⟨A, F, f.written inA (o := .dK kvs') trivial _ ?_ (by simp [l] at lv; simp [l']; exact lv) fun _ h => h⟩
      rw [List.append_assoc, List.append_assoc]
      have apart : ∀ x, (B1 x ∨ B3 x) → ¬ C2 x := fun x z q => z.elim (fun z => h3 x z (j x q)) fun z => k x (s x z).1 q
      refine (p1.join (C := fun x => (x = a ∨ C x) ∨ C2 x) (.cons (B := fun x => x = a ∨ C x) (C := C2) (.dOwn upd_same rfl (.inl rfl) p2 fun x h => ⟨.inr h, fun z => off (g2 a (z ▸ h))⟩) rest (fun x h => .inl h) (fun x h => .inr h) fun x h q => ?_) fun x h q => ?_).mono fun x h => ?_
      · exact h.elim (fun e => k _ ha (e ▸ q)) fun h => apart x (g2 x h) q
      · rcases q with (q | q) | q
        · exact off (g1 _ (q ▸ h))
        · exact g3 x h q
        · exact apart x (g1 x h) q
      · rcases h with h | (h | h) | h
        · exact (g1 x h).elim (h1 x) fun z => h2 x (i x (s x z).1)
        · exact h ▸ inA
        · exact (g2 x h).elim (h1 x) fun z => h2 x (i x (s x z).1)
        · exact h2 x (j x h)
end
/-! ### the rules by values -/
section
variable {X : Cx}
/-- d[y] -/
def rIxK : R2 := fun x y H Q => ∃ a kvs k v, x = .ref a ∧ H a = some (.dK kvs) ∧ y = kV k ∧ valV kvs k = some v ∧ Q v H
theorem ix_dK : IxR X rIxK := by
  intro value slice pins s σ H x y v u Q I rx ry h hs
  obtain ⟨a, kvs, k, w, rfl, e, rfl, l, q⟩ := h
  cases rx
  obtain ⟨_, _, us, rel, dd⟩ := dk_of I.hok e
  obtain ⟨w', hw, rw'⟩ := RelO.some_of (v := w) (o := valueAt us k) (by rw [← l]; exact rel.val k)
  exact subscriptTail_builtinR (x := w') dd.typeIs PySem.F.slot_dict_getitem.lookup (wpAny_getItem_of (kV_is ry) dd.mapOf hw ⟨rfl, w, H, I.tok _, rw', q⟩) hs
/-- y in d -/
def rInK (neg : Bool) : R2 := fun x y H Q => ∃ a kvs k, y = .ref a ∧ H a = some (.dK kvs) ∧ x = kV k ∧ Q (.bl (if neg then !(valV kvs k).isSome else (valV kvs k).isSome)) H
theorem op_inK : OpR X (compareOp .In) (rInK false) := by
  intro pins s σ H x y v u Q I rx ry h
  obtain ⟨a, kvs, k, rfl, e, rfl, q⟩ := h
  cases ry
  obtain ⟨_, hd, us, rel, dd⟩ := dk_of I.hok e
  refine wpAny_in_of (kV_is rx) hd dd.mapOf ?_
  rw [← (rel.val k).isSome_eq]
  exact ⟨.bl (valV kvs k).isSome, H, I.tok _, rfl, by simpa using q⟩
theorem op_notInK : OpR X (compareOp .NotIn) (rInK true) := by
  intro pins s σ H x y v u Q I rx ry h
  obtain ⟨a, kvs, k, rfl, e, rfl, q⟩ := h
  cases ry
  obtain ⟨_, hd, us, rel, dd⟩ := dk_of I.hok e
  refine wpAny_notIn_of (kV_is rx) hd dd.mapOf ?_
  rw [← (rel.val k).isSome_eq]
  exact ⟨.bl (!(valV kvs k).isSome), H, I.tok _, rfl, by simpa using q⟩
/-- d[y] = v -/
def rSetK : TSet := fun o i v H Q => ∃ a kvs k, o = .ref a ∧ H a = some (.dK kvs) ∧ i = kV k ∧ kvs.length < sizeLine ∧ Q (upd H a (.dK (putK kvs k v)))
theorem set_dK : PSet X rSetK := by
  intro pins s σ H o i v ov iv u Q I ro ri rv h
  obtain ⟨a, kvs, k, rfl, e, rfl, l, q⟩ := h
  cases ro
  obtain ⟨z, hd, us, rel, dd⟩ := dk_of I.hok e
  have hl : (putK kvs k v).length ≤ sizeLine := by have := length_putK kvs k v; omega
  refine wpAny_setItem_pairs (hsz := by rw [← rel.length]; exact z) (kV_is ri) dd fun h' dd' hs => ⟨_, ?_, q⟩
  have he : ∃ q, h'.get? a = some q := let ⟨q, _, _, hq, _⟩ := dd'; ⟨q, hq⟩
  exact d_write I (by rw [e]; exact True.intro) hs he (dk_new hl hd (rel.put k rv) dd')
theorem PSet.or {r r' : TSet} (h : PSet X r) (h' : PSet X r') : PSet X fun o i v H Q => r o i v H Q ∨ r' o i v H Q := fun pins s σ H o i v ov iv u Q I ro ri rv q =>
  q.elim (h pins s σ H o i v ov iv u Q I ro ri rv) (h' pins s σ H o i v ov iv u Q I ro ri rv)
end
/-! ### .. over data -/
def keyD : D → Option Key
  | .int i => some (.inl i)
  | .str x => some (.inr x)
  | _ => none
theorem World.isKey {K : PySem.W.Frag} {G : Gm} {kp : List Bool} {σ : Sl} {ρ : List D} {vs : List V} {ds : List D} {H : Hp} {v : V} {d : D} {k : Key} (W : World K G kp σ ρ (v :: vs) (d :: ds) H) (h : keyD d = some k) : v = kV k := by
  cases d <;> first | cases h | skip
  · exact W.isInt
  · exact W.isStr
/-- d[k] read -/
def getK (m : M) (ks : List DK) (es : List D) (k : DK) (Q : D → D → Prop) : Prop := ks.all DK.isK = true ∧ ∃ j d, posK ks k = some j ∧ es[j]? = some d ∧ Q d.frz (.dct m ks (frzs es))
/-- k in d -/
def inK (neg : Bool) (ks : List DK) (k : DK) (Q : D → Prop) : Prop := ks.all DK.isK = true ∧ Q (.bl (if neg then !(posK ks k).isSome else (posK ks k).isSome))
/-- d[k] = x -/
def setK (ks : List DK) (es : List D) (k : DK) (x : D) (Q : D → Prop) : Prop := ks.all DK.isK = true ∧ ks.Nodup ∧ ks.length < sizeLine ∧ match posK ks k with
  | some j => Q (.dct .own ks (es.set j x))
  | none => Q (.dct .own (ks ++ [k]) (es ++ [x]))
theorem getK_mono {m : M} {ks : List DK} {es : List D} {k : DK} {P P' : D → D → Prop} (h : ∀ a b, P a b → P' a b) (q : getK m ks es k P) : getK m ks es k P' := let ⟨a, j, d, b, c, q⟩ := q; ⟨a, j, d, b, c, h _ _ q⟩
theorem inK_mono {neg : Bool} {ks : List DK} {k : DK} {P P' : D → Prop} (h : ∀ a, P a → P' a) (q : inK neg ks k P) : inK neg ks k P' := ⟨q.1, h _ q.2⟩
theorem setK_mono {ks : List DK} {es : List D} {k : DK} {x : D} {P P' : D → Prop} (h : ∀ a, P a → P' a) (q : setK ks es k x P) : setK ks es k x P' := by
  obtain ⟨a, b, c, q⟩ := q
  refine ⟨a, b, c, ?_⟩
  split at q <;> exact h _ q
section
variable {K : PySem.W.Frag} {G : Gm} {kp : List Bool} {σ : Sl} {ρ : List D} {vs : List V} {ds es : List D} {H : Hp} {v y x : V} {dy d : D} {ks : List DK} {k : Key} {m : M}
theorem World.getK {P : V → Prop} (W : World K G kp σ ρ (v :: y :: vs) (.dct m ks es :: dy :: ds) H) (hy : keyD dy = some k) (q : Bd.getK m ks es (.k k) fun z x' => ∀ w, World K G kp σ ρ (w :: v :: y :: vs) (z :: x' :: dy :: ds) H → P w) :
    ∃ a kvs w, v = .ref a ∧ H a = some (.dK kvs) ∧ y = kV k ∧ valV kvs k = some w ∧ P w := by
  obtain ⟨ak, j, d, hj, hd, q⟩ := q
  have ey := W.drop.isKey hy
  have W1 : World K G kp σ ρ (v :: y :: vs) (.dct m ks (frzs es) :: dy :: ds) H := W.frzKids
  obtain ⟨a, kvs, e1, e2, e3, e4, g⟩ := W1.isDct ak
  have hd' : (frzs es)[j]? = some d.frz := by rw [frzs_eq_map, List.getElem?_map, hd]; rfl
  obtain ⟨w, hw, W2⟩ := g j d.frz hd' (frz_solid d)
  exact ⟨a, kvs, w, e1, e2, ey, by rw [valV_posK, e3, hj]; exact hw, q w W2⟩
theorem World.setK {P : Addr → List (Key × V) → Hp → Prop} (W : World K G kp σ ρ (y :: v :: x :: vs) (dy :: .dct .own ks es :: d :: ds) H) (hy : keyD dy = some k) (q : Bd.setK ks es (.k k) d fun x' => ∀ a kvs H', World K G kp σ ρ (y :: v :: vs) (dy :: x' :: ds) H' → P a kvs H') :
    ∃ a kvs, v = .ref a ∧ H a = some (.dK kvs) ∧ y = kV k ∧ kvs.length < sizeLine ∧ P a kvs (upd H a (.dK (putK kvs k x))) := by
  obtain ⟨ak, nd, len, q⟩ := q
  have ey := W.isKey hy
  have W0 : World K G kp σ ρ ([x, y] ++ v :: vs) ([d, dy] ++ .dct .own ks es :: ds) H := by
    have W1 := World.rot (us := [y, v]) (es := [dy, .dct .own ks es]) W rfl
    exact W1
  obtain ⟨a, kvs, e1, e2, e3, e4, mk⟩ := W0.redct ak rfl
  refine ⟨a, kvs, e1, e2, ey, by rw [← e3] at len; simpa [kks] using len, ?_⟩
  cases hp : posK ks (.k k) with
  | none =>
    rw [hp] at q
    rw [putK_no (by rw [e3]; exact hp)]
    have W2 := mk [y] [dy] (kvs ++ [(k, x)]) (es ++ [d]) rfl fun F B r => by
      have ly : kvs.length = (kvs.map (·.2)).length := by simp
      have r2 : Reps K H F (x :: (y :: kvs.map (·.2))) (d :: (dy :: es)) B := r
      have r3 := Reps.tor (us := y :: kvs.map (·.2)) (es := dy :: es) (vs := []) (ds := []) (v := x) (d := d) (by simp [e4]) (by simpa using r2)
      simpa using r3
    rw [show kks (kvs ++ [(k, x)]) = ks ++ [.k k] by rw [kks, List.map_append, ← e3]; rfl] at W2
    exact q _ _ _ W2
  | some j =>
    rw [hp] at q
    rw [putK_at (j := j) (by rw [e3]; exact nd) (by rw [e3]; exact hp)]
    have W2 := mk [y] [dy] (kvs.set j (k, x)) (es.set j d) rfl fun F B r => by
      have r2 : Reps K H F (x :: (y :: kvs.map (·.2))) (d :: (dy :: es)) B := r
      have r3 := Reps.replace (i := j + 1) r2
      rw [List.map_set]
      simpa using r3
    have ek : kks (kvs.set j (k, x)) = ks := by
      rw [kks, List.map_set, ← e3]
      apply List.ext_getElem?
      intro i
      rw [List.getElem?_set]
      have := posK_get hp
      rw [← e3] at this
      by_cases z : j = i
      · subst z
        rw [if_pos rfl, this, if_pos (List.getElem?_eq_some_iff.mp this).1]
      · rw [if_neg z]
    rw [ek] at W2
    exact q _ _ _ W2
end
abbrev WE := List D → (D → List D → Prop) → Prop
abbrev WB := List D → (D → Option Nat → List D → Prop) → Prop
abbrev WT := List D → (Bool → List D → Prop) → Prop
abbrev WA := List D → (List D → List D → Prop) → Prop
section
variable (K : PySem.W.Frag) (G : Gm) (kp : List Bool)
def tDE (w : WE) : TE := fun σ H Q => ∃ ρ vs ds, World K G kp σ ρ vs ds H ∧ w ρ fun d ρ' => ∀ v H', World K G kp σ ρ' (v :: vs) (d :: ds) H' → Q v H'
def tDB (w : WB) : TE := fun σ H Q => ∃ ρ vs ds, World K G kp σ ρ vs ds H ∧ w ρ fun d o ρ' => ∀ v H', World K G kp σ ρ' (v :: vs) (d :: ds) H' → (∀ i, o = some i → σ[i]? = some (some v)) → Q v H'
def tDT (w : WT) : TT := fun σ H Q => ∃ ρ vs ds, World K G kp σ ρ vs ds H ∧ w ρ fun b ρ' => ∀ H', World K G kp σ ρ' vs ds H' → Q b H'
def tDA (w : WA) : TA := fun σ H Q => ∃ ρ vs ds, World K G kp σ ρ vs ds H ∧ w ρ fun es ρ' => ∀ us H', us.length = es.length → World K G kp σ ρ' (us ++ vs) (es ++ ds) H' → Q us H'
end
structure DE (X : Cx) (G : Gm) (kp : List Bool) (e : Expr) (w : WE) : Prop where
  mono : ∀ ρ P P', (∀ d r, P d r → P' d r) → w ρ P → w ρ P'
  run : PE X e (tDE X.K G kp w)
structure DB (X : Cx) (G : Gm) (kp : List Bool) (e : Expr) (w : WB) : Prop where
  mono : ∀ ρ P P', (∀ d o r, P d o r → P' d o r) → w ρ P → w ρ P'
  run : PE X e (tDB X.K G kp w)
structure DT (X : Cx) (G : Gm) (kp : List Bool) (e : Expr) (w : WT) : Prop where
  mono : ∀ ρ P P', (∀ d r, P d r → P' d r) → w ρ P → w ρ P'
  run : PT X e (tDT X.K G kp w)
structure DW (X : Cx) (G : Gm) (kp : List Bool) (e : Expr) (w : WT) : Prop where
  mono : ∀ ρ P P', (∀ d r, P d r → P' d r) → w ρ P → w ρ P'
  run : PW X e (tDT X.K G kp w)
structure DA (X : Cx) (G : Gm) (kp : List Bool) (es : List Expr) (w : WA) : Prop where
  mono : ∀ ρ P P', (∀ d r, P d r → P' d r) → w ρ P → w ρ P'
  run : PA X es (tDA X.K G kp w)
theorem pe_imp {X : Cx} {e : Expr} {t t' : TE} (h : PE X e t) (i : ∀ σ H Q, t' σ H Q → t σ H Q) : PE X e t' := ⟨fun pins s σ H Q I q => h.run pins s σ H Q I (i σ H Q q)⟩
theorem pt_imp {X : Cx} {e : Expr} {t t' : TT} (h : PT X e t) (i : ∀ σ H Q, t' σ H Q → t σ H Q) : PT X e t' := ⟨fun pins s σ H Q I q => h.run pins s σ H Q I (i σ H Q q)⟩
theorem pw_imp {X : Cx} {e : Expr} {t t' : TT} (h : PW X e t) (i : ∀ σ H Q, t' σ H Q → t σ H Q) : PW X e t' := ⟨fun wh pins s σ H Q I q => h.run wh pins s σ H Q I (i σ H Q q)⟩
theorem pa_imp {X : Cx} {e : List Expr} {t t' : TA} (h : PA X e t) (i : ∀ σ H Q, t' σ H Q → t σ H Q) : PA X e t' := ⟨fun pos pins s σ H Q I q => h.run pos pins s σ H Q I (i σ H Q q)⟩
theorem ps_imp {X : Cx} {e : Stmt} {t t' : TS} (h : PS X e t) (i : ∀ D σ H, t' D σ H → t D σ H) : PS X e t' := ⟨fun pins s σ H D I q => h.run pins s σ H D I (i D σ H q)⟩
theorem pss_imp {X : Cx} {e : List Stmt} {t t' : TS} (h : PSs X e t) (i : ∀ D σ H, t' D σ H → t D σ H) : PSs X e t' := ⟨fun pins s σ H D I q => h.run pins s σ H D I (i D σ H q)⟩

/-! ### names, constants -/
def there : D → Prop
  | .gone => False
  | _ => True
theorem there.ne {d : D} (h : there d) : d ≠ .gone := fun e => by rw [e] at h; exact h
def gb (o : Option Nat) (d : D) (ρ : List D) : List D := match o with
  | none => ρ
  | some i => ρ.set i d
/-- a name, lent: what is solid is copied, else taken out of its slot for the time being -/
def wN (i : Nat) : WB := fun ρ Q => ∃ d, ρ[i]? = some d ∧ there d ∧ if d.solid = true then Q d none ρ else Q d (some i) (ρ.set i .gone)
/-- a name, handed on: shared from now on -/
def wV (i : Nat) : WE := fun ρ Q => ∃ d, ρ[i]? = some d ∧ there d ∧ Q d.frz (ρ.set i d.frz)
/-- a name, moved: its slot is empty behind -/
def wMv (i : Nat) : WE := fun ρ Q => ∃ d, ρ[i]? = some d ∧ there d ∧ if d.solid = true then Q d ρ else Q d (ρ.set i .gone)
def wC (d : D) : WE := fun ρ Q => Q d ρ
def wB (w : WE) : WB := fun ρ Q => w ρ fun d r => Q d none r
section
variable {X : Cx} {G : Gm} {kp : List Bool} {e a b c : Expr} {pos p1 : Pos} {we wa wb : WE}
theorem db_var {i : Nat} {x : Str} (hN : X.N[i]? = some x) (hv : Vis X.env.scope x) (hd : (x == ("__debug__" : Str)) = false := by decide) (hcd : (x == ("__classdict__" : Str)) = false := by decide) : DB X G kp (.Name x pos) (wN i) := by
  refine ⟨fun ρ P P' hp ⟨d, h1, h2, h3⟩ => ⟨d, h1, h2, ?_⟩, pe_imp (pe_var hN hv hd hcd) fun σ H Q h => ?_⟩
  · split at h3
    · rename_i z; rw [if_pos z]; exact hp _ _ _ h3
    · rename_i z; rw [if_neg z]; exact hp _ _ _ h3
  · obtain ⟨ρ, vs, ds, W, d, h1, h2, h3⟩ := h
    by_cases z : d.solid = true
    · rw [if_pos z] at h3
      obtain ⟨v, e, W'⟩ := W.copy h1 h2.ne z
      exact ⟨v, e, h3 v H W' fun i e => by cases e⟩
    · rw [if_neg z] at h3
      obtain ⟨v, e, W'⟩ := W.take h1 h2.ne
      refine ⟨v, e, h3 v H W' fun j q => ?_⟩
      cases q
      exact e
theorem de_var {i : Nat} {x : Str} (hN : X.N[i]? = some x) (hv : Vis X.env.scope x) (hd : (x == ("__debug__" : Str)) = false := by decide) (hcd : (x == ("__classdict__" : Str)) = false := by decide) : DE X G kp (.Name x pos) (wV i) := by
  refine ⟨fun ρ P P' hp ⟨d, h1, h2, h3⟩ => ⟨d, h1, h2, hp _ _ h3⟩, pe_imp (pe_var hN hv hd hcd) fun σ H Q h => ?_⟩
  obtain ⟨ρ, vs, ds, W, d, h1, h2, h3⟩ := h
  obtain ⟨v, e, W'⟩ := W.take h1 h2.ne
  refine ⟨v, e, h3 v H ?_⟩
  have W2 := W'.frzTop
  obtain ⟨A, F, f⟩ := W2
  have r := f.reps
  have rc : Reps X.K H F (v :: (v :: vs) ++ sv σ) (d.frz :: (d.frz :: ds) ++ ρ.set i .gone) A := by
    cases r with
    | cons p q i j k => exact Reps.push (.cons p q i j k) (p.solid (frz_solid d))
  have W3 : World X.K G kp σ (ρ.set i .gone) (v :: v :: vs) (d.frz :: d.frz :: ds) H := ⟨A, F, f.rep A rc (by simpa using f.lv) fun _ h => h⟩
  have W4 := W3.give e
  rwa [List.set_set] at W4
theorem de_mv {i : Nat} {x : Str} (hN : X.N[i]? = some x) (hv : Vis X.env.scope x) (hd : (x == ("__debug__" : Str)) = false := by decide) (hcd : (x == ("__classdict__" : Str)) = false := by decide) : DE X G kp (.Name x pos) (wMv i) := by
  refine ⟨fun ρ P P' hp ⟨d, h1, h2, h3⟩ => ⟨d, h1, h2, ?_⟩, pe_imp (pe_var hN hv hd hcd) fun σ H Q h => ?_⟩
  · split at h3
    · rename_i z; rw [if_pos z]; exact hp _ _ h3
    · rename_i z; rw [if_neg z]; exact hp _ _ h3
  · obtain ⟨ρ, vs, ds, W, d, h1, h2, h3⟩ := h
    by_cases z : d.solid = true
    · rw [if_pos z] at h3
      obtain ⟨v, e, W'⟩ := W.copy h1 h2.ne z
      exact ⟨v, e, h3 v H W'⟩
    · rw [if_neg z] at h3
      obtain ⟨v, e, W'⟩ := W.take h1 h2.ne
      exact ⟨v, e, h3 v H W'⟩
theorem db_of (h : DE X G kp e we) : DB X G kp e (wB we) :=
  ⟨fun ρ P P' hp q => h.mono ρ _ _ (fun d r z => hp d none r z) q, pe_imp h.run fun σ H Q ⟨ρ, vs, ds, W, q⟩ => ⟨ρ, vs, ds, W, h.mono ρ _ _ (fun d r z v H' W' => z v H' W' fun i e => by cases e) q⟩⟩
theorem de_const {d : D} {v : V} (h : PE X e (tC v)) (r : ∀ K H F, Rep K H F v d M0) : DE X G kp e (wC d) :=
  ⟨fun ρ P P' hp q => hp _ _ q, pe_imp h fun σ H Q ⟨ρ, vs, ds, W, q⟩ => q v H (W.push fun F => r _ _ F)⟩
theorem de_int {i j} : DE X G kp (.Constant (.int i) j pos) (wC (.int i)) := de_const pe_int fun _ _ _ => .int
theorem de_bl {i j} : DE X G kp (.Constant (.bool i) j pos) (wC (.bl i)) := de_const pe_bl fun _ _ _ => .bl
theorem de_non {j} : DE X G kp (.Constant .none j pos) (wC .non) := de_const pe_non fun _ _ _ => .non
theorem de_str {i j} : DE X G kp (.Constant (.str i) j pos) (wC (.str i)) := de_const pe_str fun _ _ _ => .str
/-- a module's constant -/
theorem de_glob {x : Str} {d : D} {v : V} {u : Value} (hg : Gl X x) (hm : X.mg x = some u) (hr : RelV v u) (r : ∀ K H F, Rep K H F v d M0) (hd : (x == ("__debug__" : Str)) = false := by decide) : DE X G kp (.Name x pos) (wC d) := de_const (pe_glob hg hm hr hd) r
theorem de_globI {x : Str} {i : Int} (hg : Gl X x) (hm : ∃ t, X.mg x = some (.int i t)) (hd : (x == ("__debug__" : Str)) = false := by decide) : DE X G kp (.Name x pos) (wC (.int i)) := by
  obtain ⟨t, hm⟩ := hm
  exact de_glob hg hm (v := .int i) ⟨t, rfl⟩ (fun _ _ _ => .int) hd
end

/-! ### lent values given back -/
section
variable {K : PySem.W.Frag} {G : Gm} {kp : List Bool} {σ : Sl} {ρ : List D} {vs us : List V} {ds es : List D} {H H' : Hp} {v w y z : V} {d e f : D} {i : Nat} {o o1 o2 : Option Nat}
theorem World.gb (W : World K G kp σ ρ (v :: vs) (d :: ds) H) (h : ∀ i, o = some i → σ[i]? = some (some v)) : World K G kp σ (gb o d ρ) vs ds H := by
  cases o with
  | none => exact W.drop
  | some i => exact W.give (h i rfl)
end
/-! ### operators -/
abbrev W2 := D → D → (D → D → D → Prop) → Prop
abbrev W1 := D → (D → D → Prop) → Prop
/-- a two-place operation that keeps its operands -/
def OpD (X : Cx) (G : Gm) (kp : List Bool) (r : R2) (w2 : W2) : Prop :=
  (∀ x y P P', (∀ a b c, P a b c → P' a b c) → w2 x y P → w2 x y P') ∧
  ∀ σ ρ vs ds x y dx dy H Q, World X.K G kp σ ρ (y :: x :: vs) (dy :: dx :: ds) H → w2 dx dy (fun z dx' dy' => ∀ v H', World X.K G kp σ ρ (v :: y :: x :: vs) (z :: dy' :: dx' :: ds) H' → Q v H') → r x y H Q
def wOp (w2 : W2) (wa wb : WB) : WE := fun ρ Q => wa ρ fun x ox ρ1 => wb ρ1 fun y oy ρ2 => w2 x y fun z x' y' => Q z (gb ox x' (gb oy y' ρ2))
section
variable {X : Cx} {G : Gm} {kp : List Bool} {e a b c : Expr} {pos p1 : Pos} {we : WE} {wa wb wc : WB} {w2 w2' : W2} {r r' : R2}
theorem OpD.conv (h : OpD X G kp r w2) (ma : ∀ ρ P P', (∀ d o r, P d o r → P' d o r) → wa ρ P → wa ρ P') (mb : ∀ ρ P P', (∀ d o r, P d o r → P' d o r) → wb ρ P → wb ρ P') (σ : Sl) (H : Hp) (Q : VK) (q : tDE X.K G kp (wOp w2 wa wb) σ H Q) :
    tOp r (tDB X.K G kp wa) (tDB X.K G kp wb) σ H Q := by
  obtain ⟨ρ, vs, ds, W, q⟩ := q
  refine ⟨ρ, vs, ds, W, ma ρ _ _ (fun dx ox ρ1 q1 x H1 W1 hx => ?_) q⟩
  refine ⟨ρ1, _, _, W1, mb ρ1 _ _ (fun dy oy ρ2 q2 y H2 W2 hy => ?_) q1⟩
  refine h.2 _ _ _ _ _ _ _ _ _ _ W2 (h.1 _ _ _ _ (fun z dx' dy' q3 v H' W3 => q3 v H' ?_) q2)
  -- give back
  have W4 : World X.K G kp σ ρ2 (y :: v :: x :: vs) (dy' :: z :: dx' :: ds) H' := W3.swap
  have W5 : World X.K G kp σ (gb oy dy' ρ2) (v :: x :: vs) (z :: dx' :: ds) H' := W4.gb hy
  exact W5.swap.gb hx
theorem wOp_mono (ho : ∀ x y P P', (∀ a b c, P a b c → P' a b c) → w2 x y P → w2 x y P') (ma : ∀ ρ P P', (∀ d o r, P d o r → P' d o r) → wa ρ P → wa ρ P') (mb : ∀ ρ P P', (∀ d o r, P d o r → P' d o r) → wb ρ P → wb ρ P') :
    ∀ ρ P P', (∀ d r, P d r → P' d r) → wOp w2 wa wb ρ P → wOp w2 wa wb ρ P' := fun ρ P P' hp q => ma ρ _ _ (fun x ox ρ1 q1 => mb ρ1 _ _ (fun y oy ρ2 q2 => ho _ _ _ _ (fun _ _ _ z => hp _ _ z) q2) q1) q
theorem de_op {op : Operator} (ho : OpR X (binaryOp op) r) (h : OpD X G kp r w2) (ha : DB X G kp a wa) (hb : DB X G kp b wb) : DE X G kp (.BinOp a op b pos) (wOp w2 wa wb) :=
  ⟨wOp_mono h.1 ha.mono hb.mono, pe_imp (pe_op ho ha.run hb.run) fun σ H Q q => h.conv ha.mono hb.mono σ H Q q⟩
theorem de_cmp {op : CmpOp} (ho : OpR X (compareOp op) r) (h : OpD X G kp r w2) (ha : DB X G kp a wa) (hb : DB X G kp b wb) (hm : behindInMarks op b = false) : DE X G kp (.Compare a [op] [b] pos) (wOp w2 wa wb) :=
  ⟨wOp_mono h.1 ha.mono hb.mono, pe_imp (pe_cmpR ho ha.run hb.run hm) fun σ H Q q => h.conv ha.mono hb.mono σ H Q q⟩
/-- a bool as a test -/
def isB (d : D) (Q : Bool → Prop) : Prop := match d with
  | .bl b => Q b
  | _ => False
theorem isB_mono {d : D} {P P' : Bool → Prop} (h : ∀ b, P b → P' b) (q : isB d P) : isB d P' := by
  cases d <;> first | exact q.elim | exact h _ q
def wT (w : WE) : WT := fun ρ Q => w ρ fun d r => isB d fun b => Q b r
theorem dt_cmp {op : CmpOp} (ho : OpR X (compareOp op) r) (h : OpD X G kp r w2) (ha : DB X G kp a wa) (hb : DB X G kp b wb) (hm : behindInMarks op b = false) : DT X G kp (.Compare a [op] [b] pos) (wT (wOp w2 wa wb)) := by
  have mo := wOp_mono h.1 ha.mono hb.mono
  refine ⟨fun ρ P P' hp q => mo ρ _ _ (fun d r z => isB_mono (fun b q => hp b r q) z) q, pt_imp (pt_cmpR ho ha.run hb.run hm) fun σ H Q q => ?_⟩
  refine h.conv ha.mono hb.mono σ H _ ?_
  obtain ⟨ρ, vs, ds, W, q⟩ := q
  refine ⟨ρ, vs, ds, W, mo ρ _ _ (fun d r z v H' W' => ?_) q⟩
  cases d <;> first | exact z.elim | skip
  have e := W'.isBl
  subst e
  exact ⟨_, rfl, z H' W'.drop⟩
/-- a chain of two -/
def wCh (w2 w2' : W2) (wa wb wc : WB) : WE := fun ρ Q => wa ρ fun x ox ρ1 => wb ρ1 fun y oy ρ2 => w2 x y fun z x' y' => isB z fun k =>
  if k = true then wc ρ2 fun u ou ρ3 => w2' y' u fun z2 y2 u2 => Q z2 (gb ox x' (gb oy y2 (gb ou u2 ρ3))) else Q (.bl false) (gb ox x' (gb oy y' ρ2))
theorem wCh_mono (h : OpD X G kp r w2) (h' : OpD X G kp r' w2') (ha : DB X G kp a wa) (hb : DB X G kp b wb) (hc : DB X G kp c wc) : ∀ ρ P P', (∀ d r, P d r → P' d r) → wCh w2 w2' wa wb wc ρ P → wCh w2 w2' wa wb wc ρ P' :=
  fun ρ P P' hp q => ha.mono ρ _ _ (fun x ox ρ1 q1 => hb.mono ρ1 _ _ (fun y oy ρ2 q2 => h.1 _ _ _ _ (fun z x' y' q3 => isB_mono (fun k q4 => by
    cases k with
    | true => exact hc.mono ρ2 _ _ (fun u ou ρ3 q5 => h'.1 _ _ _ _ (fun _ _ _ z => hp _ _ z) q5) q4
    | false => exact hp _ _ q4) q3) q2) q1) q
theorem wCh_conv (h : OpD X G kp r w2) (h' : OpD X G kp r' w2') (ha : DB X G kp a wa) (hb : DB X G kp b wb) (hc : DB X G kp c wc) (σ : Sl) (H : Hp) (Q : VK) (q : tDE X.K G kp (wCh w2 w2' wa wb wc) σ H Q) :
    tChain r r' (tDB X.K G kp wa) (tDB X.K G kp wb) (tDB X.K G kp wc) σ H Q := by
  obtain ⟨ρ, vs, ds, W, q⟩ := q
  refine ⟨ρ, vs, ds, W, ha.mono ρ _ _ (fun dx ox ρ1 q1 x H1 W1 hx => ?_) q⟩
  refine ⟨ρ1, _, _, W1, hb.mono ρ1 _ _ (fun dy oy ρ2 q2 y H2 W2 hy => ?_) q1⟩
  refine h.2 _ _ _ _ _ _ _ _ _ _ W2 (h.1 _ _ _ _ (fun z dx' dy' q3 v H' W3 => ?_) q2)
  cases z <;> first | exact q3.elim | skip
  rename_i k
  have e := W3.isBl
  subst e
  refine ⟨k, rfl, ?_⟩
  have W4 := W3.drop
  cases k with
  | false =>
    refine q3 _ H' ?_
    have W5 : World X.K G kp σ (gb oy dy' ρ2) (x :: vs) (dx' :: ds) H' := W4.gb hy
    exact (W5.gb hx).bl
  | true =>
    refine ⟨ρ2, _, _, W4, hc.mono ρ2 _ _ (fun du ou ρ3 q5 u H5 W5 hu => ?_) q3⟩
    refine h'.2 _ _ _ _ _ _ _ _ _ _ W5 (h'.1 _ _ _ _ (fun z2 dy2 du2 q6 v H6 W6 => q6 v H6 ?_) q5)
    -- v :: u :: y :: x
    have W7 : World X.K G kp σ (gb ou du2 ρ3) (v :: y :: x :: vs) (z2 :: dy2 :: dx' :: ds) H6 := W6.swap.gb hu
    have W8 : World X.K G kp σ (gb oy dy2 (gb ou du2 ρ3)) (v :: x :: vs) (z2 :: dx' :: ds) H6 := W7.swap.gb hy
    exact W8.swap.gb hx
theorem de_chain {op op' : CmpOp} (ho : OpR X (compareOp op) r) (ho' : OpR X (compareOp op') r') (h : OpD X G kp r w2) (h' : OpD X G kp r' w2') (ha : DB X G kp a wa) (hb : DB X G kp b wb) (hc : DB X G kp c wc) (hm : lastMarks [op, op'] [b, c] = false := by with_unfolding_all rfl) : DE X G kp (.Compare a [op, op'] [b, c] pos) (wCh w2 w2' wa wb wc) :=
  ⟨wCh_mono h h' ha hb hc, pe_imp (pe_chain ho ho' ha.run hb.run hc.run hm) fun σ H Q q => wCh_conv h h' ha hb hc σ H Q q⟩
theorem dt_chain {op op' : CmpOp} (ho : OpR X (compareOp op) r) (ho' : OpR X (compareOp op') r') (h : OpD X G kp r w2) (h' : OpD X G kp r' w2') (ha : DB X G kp a wa) (hb : DB X G kp b wb) (hc : DB X G kp c wc) (hm : lastMarks [op, op'] [b, c] = false := by with_unfolding_all rfl) : DT X G kp (.Compare a [op, op'] [b, c] pos) (wT (wCh w2 w2' wa wb wc)) := by
  have mo := wCh_mono h h' ha hb hc
  refine ⟨fun ρ P P' hp q => mo ρ _ _ (fun d r z => isB_mono (fun b q => hp b r q) z) q, pt_imp (pt_chain ho ho' ha.run hb.run hc.run hm) fun σ H Q q => ?_⟩
  refine wCh_conv h h' ha hb hc σ H _ ?_
  obtain ⟨ρ, vs, ds, W, q⟩ := q
  refine ⟨ρ, vs, ds, W, mo ρ _ _ (fun d r z v H' W' => ?_) q⟩
  cases d <;> first | exact z.elim | skip
  have e := W'.isBl
  subst e
  exact ⟨_, rfl, z H' W'.drop⟩
end
section
variable {X : Cx} {G : Gm} {kp : List Bool}
theorem World.two {K : PySem.W.Frag} {σ : Sl} {ρ : List D} {vs : List V} {ds : List D} {H : Hp} {x y : V} {i j : Int} (W : World K G kp σ ρ (y :: x :: vs) (.int j :: .int i :: ds) H) : y = .int j ∧ x = .int i := ⟨W.isInt, W.swap.isInt⟩
/-- ints to a scalar -/
def intD (C : Int → Int → Prop) (g : Int → Int → D) : W2 := fun x y Q => match x, y with
  | .int i, .int j => C i j ∧ Q (g i j) x y
  | _, _ => False
theorem intD_ok {C : Int → Int → Prop} {g : Int → Int → D} {gv : Int → Int → V} (h : ∀ K H F i j, Rep K H F (gv i j) (g i j) M0) : OpD X G kp (rI C gv) (intD C g) := by
  refine ⟨fun x y P P' hp q => ?_, fun σ ρ vs ds x y dx dy H Q W q => ?_⟩
  · cases x <;> cases y <;> first | exact q.elim | exact ⟨q.1, hp _ _ _ q.2⟩
  · cases dx <;> cases dy <;> first | exact q.elim | skip
    rename_i i j
    obtain ⟨e1, e2⟩ := W.two
    exact ⟨i, j, e2, e1, q.1, q.2 _ H (W.push fun F => h _ _ F i j)⟩
def intD0 (g : Int → Int → D) : W2 := fun x y Q => match x, y with
  | .int i, .int j => Q (g i j) x y
  | _, _ => False
theorem intD0_ok {g : Int → Int → D} {gv : Int → Int → V} (h : ∀ K H F i j, Rep K H F (gv i j) (g i j) M0) : OpD X G kp (rI0 gv) (intD0 g) := by
  refine ⟨fun x y P P' hp q => ?_, fun σ ρ vs ds x y dx dy H Q W q => ?_⟩
  · cases x <;> cases y <;> first | exact q.elim | exact hp _ _ _ q
  · cases dx <;> cases dy <;> first | exact q.elim | skip
    rename_i i j
    obtain ⟨e1, e2⟩ := W.two
    exact ⟨i, j, e2, e1, q _ H (W.push fun F => h _ _ F i j)⟩
/-! ### + -/
def addD : W2 := fun x y Q => match x, y with
  | .int i, .int j => Q (.int (i + j)) x y
  | .str i, .str j => i.length + j.length ≤ sizeLine ∧ Q (.str (i ++ j)) x y
  | .lst m xs, .lst n ys => m ≠ .con ∧ n ≠ .con ∧ xs.length + ys.length ≤ sizeLine ∧ Q (.lst .own (frzs xs ++ frzs ys)) (.lst m (frzs xs)) (.lst n (frzs ys))
  | .tup xs, .tup ys => xs.length + ys.length ≤ sizeLine ∧ Q (.tup (frzs xs ++ frzs ys)) (.tup (frzs xs)) (.tup (frzs ys))
  | _, _ => False
/-- t + u, the new tuple told whole -/
def rCatP (K : PySem.W.Frag) : R2 := fun x y H Q => ∃ a b xs ys, x = .ref a ∧ y = .ref b ∧ SqT K H a xs ∧ SqT K H b ys ∧ xs.length + ys.length ≤ sizeLine ∧
  (xs = [] → Q (.ref b) H) ∧ (xs ≠ [] → ys = [] → Q (.ref a) H) ∧ (xs ≠ [] → ys ≠ [] → ∀ p o, H p = none → o.dict = none → Q (.ref p) (upd H p (.frz o (.tup (xs ++ ys)))))

theorem laidTup {pins : List (Addr × Obj)} {σ : Sl} {H : Hp} {s : Shared} {xs : List V} {its : List Value} {tk : Nat} {n : Nat} (I : Inv X pins σ H s) (r : Vals xs its) (hz : xs.length ≤ sizeLine) :
    Inv X pins σ (upd H s.heap.objs.size (.frz { cls := .type "tuple", data := .seq its.toArray n } (.tup xs))) { s with heap := s.heap.push { cls := .type "tuple", data := .seq its.toArray n }, toks := tk } :=
  I.laid (t' := tk) (fun b ob q => Heap.get?_push_of_some _ q) (Nat.le_refl _) ⟨Heap.get?_push_size _ rfl, hz, its, r, ⟨_, Heap.get?_push_size _ rfl, rfl, _, rfl⟩⟩
theorem op_catP : OpR X (binaryOp .Add) (rCatP X.K) := by
  intro pins s σ H x y v u Q I rx ry h
  obtain ⟨a, b, xs, ys, rfl, rfl, ha, hb, hz, q0, q1, q2⟩ := h
  obtain ⟨its, r1, p1, _⟩ := I.tuple ha
  obtain ⟨its2, r2, p2, _⟩ := I.tuple hb
  cases rx
  cases ry
  by_cases hx : xs = []
  · subst hx
    cases r1
    exact cat_tup0 p1 p2 ⟨.ref b, H, I, rfl, q0 rfl⟩
  · refine HT.cat_tup p1 p2 (fun z => hx (r1.nil_iff.mp z)) (fun z => ⟨.ref a, H, I, rfl, q1 hx (r2.nil_iff.mp z)⟩) (fun z => ?_) (by rw [← r1.length, ← r2.length]; exact hz)
    exact ⟨.ref s.heap.objs.size, _, laidTup (tk := s.toks) (n := 0) I (r1.append r2) (by rw [List.length_append]; exact hz), rfl, q2 hx (fun w => z (r2.nil_iff.mpr w)) _ _ (I.hok.fresh (Nat.le_refl _)) rfl⟩
/-- t[lo:hi] -/
def rSlP (K : PySem.W.Frag) : V → Option Int → Option Int → Hp → VK → Prop := fun x lo hi H Q => ∃ a xs, x = .ref a ∧ SqT K H a xs ∧
  (HT.sIx xs.length 0 lo = 0 ∧ HT.sIx xs.length xs.length hi = xs.length → Q (.ref a) H) ∧ (¬ (HT.sIx xs.length 0 lo = 0 ∧ HT.sIx xs.length xs.length hi = xs.length) → ∀ p o, H p = none → o.dict = none → Q (.ref p) (upd H p (.frz o (.tup (cutV xs lo hi)))))
theorem sl_tupP : SlR X (rSlP X.K) := by
  intro pins s σ H x v vl vu lo hi sl Q I rx hs pl pu h
  obtain ⟨a, xs, rfl, hx, q1, q2⟩ := h
  cases rx
  obtain ⟨its, r, ht, hz⟩ := I.tuple hx
  have hlen : its.toArray.size = xs.length := by rw [List.size_toArray]; exact r.length.symm
  refine ⟨"tuple", _, PyProof.Rows.slot_tuple_getitem.lookup, ht.typeIs, ?_⟩
  by_cases hw : HT.sIx xs.length 0 lo = 0 ∧ HT.sIx xs.length xs.length hi = xs.length
  · exact getItem_tuple_whole ht hs pl pu (by rw [hlen]; exact hw) ⟨.ref a, H, I, rfl, q1 hw⟩
  · refine HT.getItem_tuple_cut ht hs pl pu (by rw [hlen]; exact hw) ?_ (by rw [hlen]; exact hz)
    rw [hlen]
    exact ⟨.ref s.heap.objs.size, _, laidTup (tk := s.toks) (n := 0) I ((r.drop (HT.sIx xs.length 0 lo)).take (HT.sIx xs.length xs.length hi - HT.sIx xs.length 0 lo)) (Nat.le_trans (cutV_length xs lo hi) hz), rfl, q2 hw _ _ (I.hok.fresh (Nat.le_refl _)) rfl⟩
/-- tuple(xs), tuple(t) -/
theorem call_tupleP : CallR X (.type "tuple") (fun xs H Q => ∃ p ys, xs = [.ref p] ∧ ((SqL X.K H p ys ∧ ∀ l o, H l = none → o.dict = none → Q (.ref l) (upd H l (.frz o (.tup ys)))) ∨ (SqT X.K H p ys ∧ Q (.ref p) H))) := by
  intro pins s σ H xs us Q I r h
  obtain ⟨p, ys, rfl, h⟩ := h
  obtain ⟨u, rfl, rx⟩ := vals1 r
  cases rx
  rcases h with ⟨hq, q⟩ | ⟨hq, q⟩
  · obtain ⟨its, r', pl, hz⟩ := I.list hq
    have hlen := r'.length
    refine call_tuple_list pl.isList (fun h' kp => ?_) (by simp only [List.size_toArray] <;> omega)
    have I1 : Inv X pins σ H { s with heap := h' } := I.kept (t' := s.toks) kp
    exact ⟨.ref h'.objs.size, _, laidTup (tk := s.toks) (n := 0) I1 r' hz, rfl, q _ _ (I1.hok.fresh (Nat.le_refl _)) rfl⟩
  · obtain ⟨its, r', pl, hz⟩ := I.tuple hq
    exact call_tuple_same pl ⟨.ref p, H, I, rfl, q⟩
/-- (a, b, ..) -/
def tTupP (t : TA) : TE := fun σ H Q => t σ H fun xs H1 => xs.length ≤ sizeLine ∧ ∀ p o, H1 p = none → o.dict = none → Q (.ref p) (upd H1 p (.frz o (.tup xs)))
theorem pe_tupP {es : List Expr} {t : TA} {pos : Pos} {x1} (h : PA X es t) : PE X (.Tuple es x1 pos) (tTupP t) := by
  refine ⟨fun pins s σ H Q I hq => ?_⟩
  refine wpAny_Tuple_spliced (thn (h.run pos pins s σ H _ I hq) fun us s1 ⟨xs, H1, I1, r, z, q⟩ => ⟨by rw [← r.length]; exact z, ?_⟩)
  exact ⟨.ref s1.heap.objs.size, _, laidTup (tk := s1.toks) (n := 0) I1 r z, rfl, q _ _ (I1.hok.fresh (Nat.le_refl _)) rfl⟩
/-- divmod -/
theorem call_divmodP : CallR X (.builtin "divmod") (fun xs H Q => ∃ i j, xs = [.int i, .int j] ∧ CDivP i j ∧ ∀ p o, H p = none → o.dict = none → Q (.ref p) (upd H p (.frz o (.tup [.int (i / j), .int (i % j)])))) := by
  intro pins s σ H xs us Q I r h
  obtain ⟨i, j, rfl, ⟨h1, h2⟩, q⟩ := h
  obtain ⟨u, w', rfl, ⟨t, rfl⟩, ⟨t', rfl⟩⟩ := vals2 r
  refine divmod_int (by omega) ?_ (.inl h2)
  rw [Int.fdiv_eq_ediv_of_nonneg i (by omega), Int.fmod_eq_emod_of_nonneg i (by omega)]
  have z : [V.int (i / j), .int (i % j)].length ≤ sizeLine := by simp only [List.length_cons, List.length_nil]; rw [sizeLine_eq]; decide
  exact ⟨.ref s.heap.objs.size, _, laidTup (tk := s.toks + 1 + 1) (n := 0) (its := [.int (i / j) s.toks, .int (i % j) (s.toks + 1)]) I (xs := [.int (i / j), .int (i % j)]) (.cons ⟨_, rfl⟩ (.cons ⟨_, rfl⟩ .nil)) z, rfl, q _ _ (I.hok.fresh (Nat.le_refl _)) rfl⟩
/-- t * 1 is t -/
theorem tuple_mul1W (l : Addr) (items : Array Value) (n : Nat) (u : Tok) (sl : Array (Option Value)) :
    Meets (Builtin.«tuple.__mul__» ⟨[.ref l, .int 1 u], []⟩) (fun _ R s => s.heap.get? l = some { cls := .type "tuple", dict := none, data := .seq items n, slots := sl } ∧ R (.ok (.ret (Value.ref l))) s) :=
  .of_wp fun prog w A R s h => by
    obtain ⟨hp, g, d, tk, os⟩ := s
    obtain ⟨hl, h⟩ := h
    have f1 := AutoSeq1.idx_int
    have c1 : (items.isEmpty || (1 : Int) == 1) = true := by simp
    wp_walk using wpAny_loadPart' hl
    exact ⟨_, rfl, h⟩

theorem dictNone {h : Heap} {K : PySem.W.Frag} {a : Addr} {xs : List V} {H : Hp} (t : TupD K H a xs) (hok : ∀ o, H a = some (.frz o (.tup xs)) → h.get? a = some o) (kin : K.In h) : ∃ o, h.get? a = some o ∧ o.dict = none := by
  rcases t with ⟨o, e, d⟩ | ⟨o, its, n, e, _, d, _⟩
  · exact ⟨o, hok o e, d⟩
  · exact ⟨o, kin a o e, d⟩
/-- t * k, 1 ≤ k -/
def rRepP (K : PySem.W.Frag) : R2 := fun x y H Q => ∃ l k xs, x = .ref l ∧ y = .int k ∧ TupD K H l xs ∧ xs ≠ [] ∧ 1 ≤ k ∧ k ≤ 1000 ∧ xs.length ≤ 1000 ∧ (k = 1 → Q (.ref l) H) ∧ (k ≠ 1 → ∀ p o, H p = none → o.dict = none → Q (.ref p) (upd H p (.frz o (.tup (List.replicate k.toNat xs).flatten))))
theorem op_repP : OpR X (binaryOp .Mult) (rRepP X.K) := by
  intro pins s σ H x y v u Q I rx ry h
  obtain ⟨l, k, xs, rfl, rfl, hD, hne, h1, h2, hz, q1, q2⟩ := h
  have dn := dictNone (h := s.heap) hD (fun o e => (I.hok _ _ e).1) I.kIn
  cases rx
  obtain ⟨t, rfl⟩ := ry
  obtain ⟨its, r, ⟨⟨cls, dd, data, sl⟩, ho, hc, n, hd⟩, hs⟩ := I.tuple hD.sq
  simp only at hc hd
  subst hc hd
  obtain ⟨o', ho', hdn⟩ := dn
  rw [ho] at ho'; cases ho'
  simp only at hdn
  subst hdn
  have hle : its.length = xs.length := r.length.symm
  have hn : its ≠ [] := fun e => hne (by
    rw [e] at hle
    exact List.eq_nil_of_length_eq_zero hle.symm)
  have hi : its.toArray.isEmpty = false := by
    cases its with
    | nil => exact absurd rfl hn
    | cons a b => rfl
  have hsz0 : its.toArray.size = xs.length := by rw [List.size_toArray, hle]
  by_cases hk : k = 1
  · subst hk
    refine wpAny_binaryOp_repeat_ref (T := "tuple") (U := "int") (by decide) ⟨_, ho, rfl⟩ (fun s' => typeIs_int s' 1 t) noFill_tuple_mul F.fills_int_mul F.slot_int_rmul repeat_tuple F.slot_int_index.lookup
      (call_meets F.slot_int_rmul (typeIs_int s 1 t) F.entry_int_rmul (F.args_int_rmul_2 _ _) (int_rmul_tuple 1 t l its.toArray n none sl)
        ⟨ho, rfl, ⟨_, ho, rfl⟩, call_meets F.slot_tuple_mul ⟨_, ho, rfl⟩ F.entry_tuple_mul (F.args_tuple_mul_2 _ _) (tuple_mul1W l its.toArray n t sl) ⟨ho, ?_⟩⟩)
    exact ⟨.ref l, H, I, rfl, q1 rfl⟩
  · have hm : ((its.toArray.size : Nat) : Int) * k ≤ 1000000 := by
      rw [hsz0]
      have a1 : ((xs.length : Nat) : Int) * k ≤ 1000 * k := Int.mul_le_mul_of_nonneg_right (by omega) (by omega)
      omega
    have flen : (List.replicate k.toNat its).flatten.length ≤ sizeLine := by
      rw [PyProof.Rows.lm_len_rep_flat, hle, sizeLine_eq]
      have a1 : k.toNat * xs.length ≤ 1000 * 1000 := Nat.mul_le_mul (by omega) hz
      omega
    have c0 : (decide (k < -(2 ^ 63)) || decide (k ≥ 2 ^ 63)) = false := by
      rw [decide_eq_false (by omega), decide_eq_false (by omega)] <;> rfl
    have c1 : (its.toArray.isEmpty || k == 1) = false := by
      rw [hi, Bool.false_or]
      exact beq_eq_false_iff_ne.mpr (by omega)
    have c2 : (decide (k ≤ 0) || its.toArray.isEmpty) = false := by
      rw [hi, Bool.or_false]
      exact decide_eq_false (by omega)
    have c4 : Builtin.Tuple.tupleTooMany (((its.toArray.size : Nat) : Int) * k) = false := by
      unfold Builtin.Tuple.tupleTooMany
      rw [sizeLine_eq]
      exact decide_eq_false (by omega)
    refine wpAny_binaryOp_repeat_ref (T := "tuple") (U := "int") (by decide) ⟨_, ho, rfl⟩ (fun s' => typeIs_int s' k t) noFill_tuple_mul F.fills_int_mul F.slot_int_rmul repeat_tuple F.slot_int_index.lookup
      (call_meets F.slot_int_rmul (typeIs_int s k t) F.entry_int_rmul (F.args_int_rmul_2 _ _) (int_rmul_tuple k t l its.toArray n none sl)
        ⟨ho, rfl, ⟨_, ho, rfl⟩, call_meets F.slot_tuple_mul ⟨_, ho, rfl⟩ F.entry_tuple_mul (F.args_tuple_mul_2 _ _) (tuple_mulW l its.toArray n none sl k t c0 c1 c2 (by omega) c4 (by rw [size_rep, List.size_toArray]; exact flen)) ⟨ho, ?_⟩⟩)
    rw [size_rep]
    exact ⟨.ref s.heap.objs.size, _, laidTup (tk := s.toks) (n := 0) I (r.rep k.toNat) (by rw [PyProof.Rows.lm_len_rep_flat, sizeLine_eq]; have a1 : k.toNat * xs.length ≤ 1000 * 1000 := Nat.mul_le_mul (by omega) hz; omega), rfl, q2 hk _ _ (I.hok.fresh (Nat.le_refl _)) rfl⟩
end
section
variable {K : PySem.W.Frag} {G : Gm} {kp : List Bool} {σ : Sl} {ρ : List D} {vs us : List V} {ds es fs : List D} {H : Hp} {v w x y : V} {d e : D} {m n : M}
/-- the kids of the two on top, in order, ahead of all -/
theorem World.kids2 {f g : List D → D} (W : World K G kp σ ρ (y :: x :: vs) (g fs :: f es :: ds) H) (hf : f = D.tup ∨ ∃ m, f = D.lst m) (hg : g = D.tup ∨ ∃ m, g = D.lst m) : ∃ a b xs ys, x = .ref a ∧ y = .ref b ∧
    (f = D.tup → TupD K H a xs) ∧ (g = D.tup → TupD K H b ys) ∧ (∀ m, f = D.lst m → SqL K H a xs ∧ (m ≠ .con → H a = some (.lst xs))) ∧ (∀ m, g = D.lst m → SqL K H b ys ∧ (m ≠ .con → H b = some (.lst ys))) ∧
    xs.length = es.length ∧ ys.length = fs.length ∧ World K G kp σ ρ ((xs ++ ys) ++ y :: x :: vs) ((frzs es ++ frzs fs) ++ g (frzs fs) :: f (frzs es) :: ds) H := by
  have ef : frzK (f es) = f (frzs es) := by rcases hf with rfl | ⟨m, rfl⟩ <;> rfl
  have eg : frzK (g fs) = g (frzs fs) := by rcases hg with rfl | ⟨m, rfl⟩ <;> rfl
  have W1 := W.frzKids.swap.frzKids
  rw [ef, eg] at W1
  have one : ∀ {vs : List V} {ds es : List D} {x : V} {f : List D → D}, (f = D.tup ∨ ∃ m, f = D.lst m) → World K G kp σ ρ (x :: vs) (f (frzs es) :: ds) H → ∃ a xs, x = .ref a ∧ (f = D.tup → TupD K H a xs) ∧ (∀ m, f = D.lst m → SqL K H a xs ∧ (m ≠ .con → H a = some (.lst xs))) ∧ xs.length = es.length ∧
      World K G kp σ ρ (xs ++ x :: vs) (frzs es ++ f (frzs es) :: ds) H := fun hf W => by
    rcases hf with rfl | ⟨m, rfl⟩
    · obtain ⟨a, xs, h1, h2, h3, h4⟩ := W.tupKids (frzs_solid _)
      exact ⟨a, xs, h1, fun _ => h2, (fun m z => by have := congrFun z []; cases this), by rw [h3, frzs_length], h4⟩
    · obtain ⟨a, xs, h1, h2, h3, h4, h5⟩ := W.isLst
      exact ⟨a, xs, h1, (fun z => by have := congrFun z []; cases this), fun m' z => by have := congrFun z []; cases this; exact ⟨h2, fun hc => h4 (by cases m <;> simp_all)⟩, by rw [h3, frzs_length], h5 (.inl (frzs_solid _))⟩
  obtain ⟨b, ys, b1, b2, b3, b4, W2⟩ := one hg W1.swap
  have lb : ys.length = (frzs fs).length := by rw [b4, frzs_length]
  -- ys ++ y :: x :: vs ; x to the front
  have W3 : World K G kp σ ρ ((ys ++ [y]) ++ x :: vs) ((frzs fs ++ [g (frzs fs)]) ++ f (frzs es) :: ds) H := by simpa using W2
  have W4 := W3.rot (by simp [lb])
  obtain ⟨a, xs, a1, a2, a3, a4, W5⟩ := one hf W4
  have la : xs.length = (frzs es).length := by rw [a4, frzs_length]
  refine ⟨a, b, xs, ys, a1, b1, a2, b2, a3, b3, a4, b4, ?_⟩
  -- xs ++ x :: ((ys ++ [y]) ++ vs)  to  xs ++ ys ++ y :: x :: vs
  have W6 := W5.under (us := xs) (es := frzs es) (vs' := (ys ++ [y]) ++ x :: vs) (ds' := (frzs fs ++ [g (frzs fs)]) ++ f (frzs es) :: ds) la (fun F A r => by
    have q := Reps.tor (K := K) (H := H) (F := F) (v := x) (d := f (frzs es)) (us := ys ++ [y]) (es := frzs fs ++ [g (frzs fs)]) (vs := vs ++ sv σ) (ds := ds ++ ρ) (A := A) (by simp [lb]) (by simpa using r)
    simpa [List.append_assoc] using q) (by have := W.lv; simp [lb] at this ⊢; omega)
  simpa [List.append_assoc] using W6
end
section
variable {X : Cx} {G : Gm} {kp : List Bool}
theorem addD_mono : ∀ x y P P', (∀ a b c, P a b c → P' a b c) → addD x y P → addD x y P' := fun x y P P' hp q => by
  cases x <;> cases y <;> first | exact q.elim | exact hp _ _ _ q | exact ⟨q.1, hp _ _ _ q.2⟩ | exact ⟨q.1, q.2.1, q.2.2.1, hp _ _ _ q.2.2.2⟩
abbrev rAddA (K : PySem.W.Frag) : R2 := fun x y H Q => (rI0 (fun i j => .int (i + j)) x y H Q ∨ (∃ i j, x = .str i ∧ y = .str j ∧ i.length + j.length ≤ sizeLine ∧ Q (.str (i ++ j)) H)) ∨ (rCat x y H Q ∨ rCatP K x y H Q)
theorem op_addA : OpR X (binaryOp .Add) (rAddA X.K) := (op_add.or op_add_str).or (op_cat.or op_catP)
theorem addD_ok : OpD X G kp (rAddA X.K) addD := by
  refine ⟨addD_mono, fun σ ρ vs ds x y dx dy H Q W q => ?_⟩
  cases dx <;> cases dy <;> first | exact q.elim | skip
  · obtain ⟨e1, e2⟩ := W.two
    exact .inl (.inl ⟨_, _, e2, e1, q _ H W.int⟩)
  · have e1 := W.isStr
    have e2 := W.swap.isStr
    exact .inl (.inr ⟨_, _, e2, e1, q.1, q.2 _ H W.str⟩)
  · rename_i es fs
    obtain ⟨a, b, xs, ys, rfl, rfl, ha, hb, _, _, l1, l2, W2⟩ := W.kids2 (f := D.tup) (g := D.tup) (.inl rfl) (.inl rfl)
    refine .inr (.inr ⟨a, b, xs, ys, rfl, rfl, (ha rfl).sq, (hb rfl).sq, by rw [l1, l2]; exact q.1, fun e => ?_, fun e1 e2 => ?_, fun e1 e2 p o hp ho => ?_⟩)
    · refine q.2 _ H ?_
      have ee : es = [] := List.eq_nil_of_length_eq_zero (by rw [← l1, e]; rfl)
      subst ee
      subst e
      have W3 := W2.dropN (us := [] ++ ys) (es := frzs [] ++ frzs fs) (by simp [frzs, frzs_length, l2])
      have W4 := W3.temps (us := .ref b :: .ref b :: .ref a :: vs) (es := (frzs [] ++ frzs fs |> D.tup) :: D.tup (frzs fs) :: D.tup (frzs []) :: ds) (fun F A r => ?_) (by have := W.lv; simp at this ⊢; omega)
      · exact W4
      · cases r with
        | cons p q i j k =>
          exact Reps.push (.cons p q i j k) (p.solid (by rw [D.solid]; exact frzs_solid fs))
    · refine q.2 _ H ?_
      have ee : fs = [] := List.eq_nil_of_length_eq_zero (by rw [← l2, e2]; rfl)
      subst ee
      subst e2
      have W3 := W2.dropN (us := xs ++ []) (es := frzs es ++ frzs []) (by simp [frzs, frzs_length, l1])
      have W4 := W3.temps (us := .ref a :: .ref b :: .ref a :: vs) (es := (frzs es ++ frzs [] |> D.tup) :: D.tup (frzs []) :: D.tup (frzs es) :: ds) (fun F A r => ?_) (by have := W.lv; simp at this ⊢; omega)
      · exact W4
      · have r2 := Reps.swap r
        cases r2 with
        | cons p q i j k =>
          refine Reps.push r ?_
          have := p.solid (by rw [D.solid]; exact frzs_solid es)
          simpa [frzs] using this
    · exact q.2 _ _ (W2.newTup (by simp [frzs_length, l1, l2]) hp ho)
  · rename_i m es n fs
    obtain ⟨a, b, xs, ys, rfl, rfl, _, _, ha, hb, l1, l2, W2⟩ := W.kids2 (f := D.lst m) (g := D.lst n) (.inr ⟨m, rfl⟩) (.inr ⟨n, rfl⟩)
    exact .inr (.inl ⟨a, b, xs, ys, rfl, rfl, (ha m rfl).2 q.1, (hb n rfl).2 q.2.1, by rw [l1, l2]; exact q.2.2.1, fun p hp => q.2.2.2 _ _ (W2.newLst (by simp [frzs_length, l1, l2]) hp)⟩)
/-! ### * -/
def repD (k : Int) (xs : List D) : List D := (List.replicate k.toNat (frzs xs)).flatten
def mulD : W2 := fun x y Q => match x, y with
  | .int i, .int j => CMulW i j ∧ Q (.int (i * j)) x y
  | .lst m xs, .int k => m ≠ .con ∧ -(2 ^ 63) ≤ k ∧ k < 2 ^ 63 ∧ xs.length * k.toNat ≤ sizeLine ∧ Q (.lst .own (repD k xs)) (.lst m (frzs xs)) y
  | .tup xs, .int k => xs ≠ [] ∧ 1 ≤ k ∧ k ≤ 1000 ∧ xs.length ≤ 1000 ∧ Q (.tup (repD k xs)) (.tup (frzs xs)) y
  | _, _ => False
abbrev rMulA (K : PySem.W.Frag) : R2 := fun x y H Q => (rI CMulW (fun i j => .int (i * j)) x y H Q ∨ rRep x y H Q) ∨ rRepP K x y H Q
theorem op_mulA : OpR X (binaryOp .Mult) (rMulA X.K) := (op_mulW.or op_rep).or op_repP
theorem mulD_mono : ∀ x y P P', (∀ a b c, P a b c → P' a b c) → mulD x y P → mulD x y P' := fun x y P P' hp q => by
  cases x <;> cases y <;> first | exact q.elim | exact ⟨q.1, hp _ _ _ q.2⟩ | exact ⟨q.1, q.2.1, q.2.2.1, q.2.2.2.1, hp _ _ _ q.2.2.2.2⟩
theorem Reps.rep {K : PySem.W.Frag} {H : Hp} {F : AS} {xs vs : List V} {es ds : List D} {A : AS} (r : Reps K H F xs es M0) (q : Reps K H F vs ds A) : ∀ k : Nat, Reps K H F ((List.replicate k xs).flatten ++ vs) ((List.replicate k es).flatten ++ ds) A
  | 0 => q
  | k + 1 => by
    rw [List.replicate_succ, List.replicate_succ, List.flatten_cons, List.flatten_cons, List.append_assoc, List.append_assoc]
    exact (r.join (Reps.rep r q k) fun _ h => h.elim).mono fun x h => h.elim (fun z => z.elim) id
theorem mulD_ok : OpD X G kp (rMulA X.K) mulD := by
  refine ⟨mulD_mono, fun σ ρ vs ds x y dx dy H Q W q => ?_⟩
  cases dx <;> cases dy <;> first | exact q.elim | skip
  · obtain ⟨e1, e2⟩ := W.two
    exact .inl (.inl ⟨_, _, e2, e1, q.1, q.2 _ H W.int⟩)
  · rename_i es k
    have e1 := W.isInt
    subst e1
    obtain ⟨hne, h1, h2, h3, q⟩ := q
    have W1 := W.swap.frzKids
    obtain ⟨a, xs, rfl, ht, l, mk⟩ := World.tupW (es := frzs es) W1 (frzs_solid es)
    have l' : xs.length = es.length := by rw [l, frzs_length]
    refine .inr ⟨a, k, xs, rfl, rfl, ht, fun e => hne (List.eq_nil_of_length_eq_zero (by rw [← l', e]; rfl)), h1, h2, by rw [l']; exact h3, fun e => ?_, fun e p o hp ho => ?_⟩
    · subst e
      refine q _ H ?_
      have W3 : World X.K G kp σ ρ (.int 1 :: .ref a :: vs) (.int 1 :: .tup (frzs es) :: ds) H := W1.swap
      have e : repD 1 es = frzs es := by simp [repD]
      rw [e]
      refine W3.temps (fun F A r => ?_) (by have := W.lv; simp at this ⊢; omega)
      have r2 := Reps.swap r
      cases r2 with
      | cons p q i j k => exact Reps.push r (p.solid (by rw [D.solid]; exact frzs_solid es))
    · refine q _ _ ?_
      refine World.newTup (us := (List.replicate k.toNat xs).flatten) (es := repD k es) (mk _ _ (fun F A rk r => ?_) (by have := W.lv; simp [repD, frzs_length, l'] at this ⊢; omega)) (by simp [repD, frzs_length, l']) hp ho
      rw [List.append_assoc, List.append_assoc]
      exact Reps.rep rk (Reps.swap r) _
  · rename_i m es k
    have e1 := W.isInt
    subst e1
    obtain ⟨hne, h1, h2, h3, q⟩ := q
    have W1 := W.swap.frzKids
    obtain ⟨a, xs, rfl, _, ht, l, mk⟩ := World.lstW (es := frzs es) W1 (frzs_solid es)
    have l' : xs.length = es.length := by rw [l, frzs_length]
    refine .inl (.inr ⟨a, k, xs, rfl, rfl, ht hne, h1, h2, by rw [l']; exact h3, fun p hp => q _ _ ?_⟩)
    refine World.newLst (us := (List.replicate k.toNat xs).flatten) (es := repD k es) (mk _ _ (fun F A rk r => ?_) (by have := W.lv; simp [repD, frzs_length, l'] at this ⊢; omega)) (by simp [repD, frzs_length, l']) hp
    rw [List.append_assoc, List.append_assoc]
    exact Reps.rep rk (Reps.swap r) _
end

/-! ### data that == compares -/
def DK.py : DK → PyData
  | .k (.inl i) => .int i
  | .k (.inr x) => .str x
  | .n _ => .none
mutual
def D.py : D → PyData
  | .non => .none
  | .bl b => .bool b
  | .int i => .int i
  | .str x => .str x
  | .tup ds => .tuple (pys ds)
  | .lst _ ds => .list (pys ds)
  | .dct _ ks ds => .dict ((ks.map DK.py).zip (pys ds))
  | _ => .dict []
def pys : List D → List PyData
  | [] => []
  | d :: r => d.py :: pys r
end
theorem pys_map : ∀ ds : List D, pys ds = ds.map D.py
  | [] => by simp [pys]
  | d :: r => by rw [pys, pys_map r, List.map_cons]
section
variable {K : PySem.W.Frag} {H : Hp} {F : AS}
mutual
theorem Rep.dp : ∀ {v : V} {d : D} {A : AS}, Rep K H F v d A → d.py.canLay0 = true → Dp K H v d.py
  | _, _, _, .gone, h => by simp [D.py, PyData.canLay0] at h
  | _, _, _, .non, _ => .non
  | _, _, _, .bl, _ => .bl _
  | _, _, _, .int, _ => .int _
  | _, _, _, .str, _ => .str _
  | _, _, _, .opq, h => by simp [D.py, PyData.canLay0] at h
  | _, _, _, .tup s q, h => by rw [D.py] at h ⊢; exact .tup s.sq (Reps.dp q (by rw [PyData.canLay0] at h; exact h))
  | _, _, _, .own e a q s, h => by rw [D.py] at h ⊢; exact .lst (.inl (.inl e)) (Reps.dp q (by rw [PyData.canLay0] at h; exact h))
  | _, _, _, .shr e a q, h => by rw [D.py] at h ⊢; exact .lst (.inl (.inl e)) (Reps.dp q (by rw [PyData.canLay0] at h; exact h))
  | _, _, _, .con c q, h => by rw [D.py] at h ⊢; exact .lst c.sq (Reps.dp q (by rw [PyData.canLay0] at h; exact h))
  | _, _, _, .dOwn e k a q s, h => by simp [D.py, PyData.canLay0] at h
  | _, _, _, .dShr e k a q, h => by simp [D.py, PyData.canLay0] at h
  | _, _, _, .nOwn e k p a q s, h => by simp [D.py, PyData.canLay0] at h
  | _, _, _, .nShr e k p a q, h => by simp [D.py, PyData.canLay0] at h
  | _, _, _, .tOwn e k p a q s, h => by simp [D.py, PyData.canLay0] at h
  | _, _, _, .tShr e k p a q, h => by simp [D.py, PyData.canLay0] at h
  | _, _, _, .tCon e k p q, h => by simp [D.py, PyData.canLay0] at h
  | _, _, _, .ldc e q, h => by simp [D.py, PyData.canLay0] at h
theorem Reps.dp : ∀ {vs : List V} {ds : List D} {A : AS}, Reps K H F vs ds A → PyData.canLayAll0 (pys ds) = true → DpAll K H vs (pys ds)
  | _, _, _, .nil, _ => by rw [pys]; exact .nil
  | _, _, _, .cons a b i j k, h => by
    rw [pys] at h ⊢
    rw [PyData.canLayAll0, Bool.and_eq_true] at h
    exact .cons (Rep.dp a h.1) (Reps.dp b h.2)
end
theorem shaped_lay {d : PyData} (h : SeqAt.shaped d = true) : d.canLay0 = true := by
  unfold SeqAt.shaped at h
  rw [Bool.and_eq_true] at h
  exact h.1
end
/-- data that == compares -/
def shp (d : D) : Prop := SeqAt.shaped d.py = true
def eqd (x y : D) : Bool := PyData.eqv x.py y.py
def eqD : W2 := fun x y Q => shp x ∧ shp y ∧ Q (.bl (eqd x y)) x y
def neD : W2 := fun x y Q => shp x ∧ shp y ∧ Q (.bl (!eqd x y)) x y
section
variable {K : PySem.W.Frag} {G : Gm} {kp : List Bool} {σ : Sl} {ρ : List D} {vs us : List V} {ds es fs : List D} {H : Hp} {v w x y : V} {d e : D} {m n : M}
theorem World.dp (W : World K G kp σ ρ (v :: vs) (d :: ds) H) (h : shp d) : Dp K H v d.py := by
  obtain ⟨A, F, f⟩ := W
  have r := f.reps
  cases r with
  | cons a b i j k => exact a.dp (shaped_lay h)
end
section
variable {X : Cx} {G : Gm} {kp : List Bool}
theorem eqD_ok : OpD X G kp (rEqD X.K) eqD := ⟨fun x y P P' hp q => ⟨q.1, q.2.1, hp _ _ _ q.2.2⟩, fun σ ρ vs ds x y dx dy H Q W q => ⟨dx.py, dy.py, W.swap.dp q.1, W.dp q.2.1, q.1, q.2.1, q.2.2 _ H W.bl⟩⟩
theorem neD_ok : OpD X G kp (rNeD X.K) neD := ⟨fun x y P P' hp q => ⟨q.1, q.2.1, hp _ _ _ q.2.2⟩, fun σ ρ vs ds x y dx dy H Q W q => ⟨dx.py, dy.py, W.swap.dp q.1, W.dp q.2.1, q.1, q.2.1, q.2.2 _ H W.bl⟩⟩
/-- x in xs: a list, a tuple -/
def isIn (x : D) (xs : List D) : Bool := xs.any fun z => eqd z x
def inD (neg : Bool) : W2 := fun x y Q => match y with
  | .lst _ xs => shp x ∧ shp y ∧ Q (.bl (if neg then !isIn x xs else isIn x xs)) x y
  | .str j => (match x with
    | .str i => Q (.bl (if neg then !(!(Builtin.Str.occurrences j i 0 j.length 1).isEmpty) else !(Builtin.Str.occurrences j i 0 j.length 1).isEmpty)) x y
    | _ => False)
  | _ => False
theorem inD_mono {neg : Bool} : ∀ x y P P', (∀ a b c, P a b c → P' a b c) → inD neg x y P → inD neg x y P' := fun x y P P' hp q => by
  cases y <;> first | exact q.elim | exact ⟨q.1, q.2.1, hp _ _ _ q.2.2⟩ | (cases x <;> first | exact q.elim | exact hp _ _ _ q)
theorem isIn_py {x : D} {xs : List D} : ((pys xs).any fun z => PyData.eqv z x.py) = isIn x xs := by
  unfold isIn
  rw [pys_map, List.any_map]
  rfl
theorem inD_ok : OpD X G kp (fun x y H Q => rInD X.K x y H Q ∨ (∃ i j, x = .str i ∧ y = .str j ∧ Q (.bl (!(Builtin.Str.occurrences j i 0 j.length 1).isEmpty)) H)) (inD false) := by
  refine ⟨inD_mono, fun σ ρ vs ds x y dx dy H Q W q => ?_⟩
  cases dy <;> first | exact q.elim | skip
  · cases dx <;> first | exact q.elim | skip
    exact .inr ⟨_, _, W.swap.isStr, W.isStr, q _ H W.bl⟩
  · rename_i m xs
    have e : (D.lst m xs).py = .list (pys xs) := by rw [D.py]
    have p := W.dp q.2.1
    have s := q.2.1
    unfold shp at s
    rw [e] at p s
    exact .inl ⟨dx.py, pys xs, W.swap.dp q.1, p, q.1, s, q.2.2 _ H (by rw [isIn_py]; exact W.bl)⟩
theorem notInD_ok : OpD X G kp (fun x y H Q => rNotInD X.K x y H Q ∨ (∃ i j, x = .str i ∧ y = .str j ∧ Q (.bl (!(!(Builtin.Str.occurrences j i 0 j.length 1).isEmpty))) H)) (inD true) := by
  refine ⟨inD_mono, fun σ ρ vs ds x y dx dy H Q W q => ?_⟩
  cases dy <;> first | exact q.elim | skip
  · cases dx <;> first | exact q.elim | skip
    exact .inr ⟨_, _, W.swap.isStr, W.isStr, q _ H W.bl⟩
  · rename_i m xs
    have e : (D.lst m xs).py = .list (pys xs) := by rw [D.py]
    have p := W.dp q.2.1
    have s := q.2.1
    unfold shp at s
    rw [e] at p s
    exact .inl ⟨dx.py, pys xs, W.swap.dp q.1, p, q.1, s, q.2.2 _ H (by rw [isIn_py]; exact W.bl)⟩
/-- is None -/
def isD (neg : Bool) : W2 := fun x y Q => match y with
  | .non => there x ∧ (match x with
    | .opq _ => False
    | .non => Q (.bl (!neg)) x y
    | _ => Q (.bl neg) x y)
  | _ => False
end
/-! ### scalars -/
def D.scal : D → Option V
  | .non => some .non
  | .bl b => some (.bl b)
  | .int i => some (.int i)
  | .str x => some (.str x)
  | _ => none
def scals (ds : List D) : Bool := ds.all fun d => d.scal.isSome
theorem Rep.scal {K : PySem.W.Frag} {H : Hp} {F A : AS} {v u : V} {d : D} (r : Rep K H F v d A) (h : d.scal = some u) : v = u := by
  cases r <;> simp [D.scal] at h <;> exact h
theorem scal_flat {d : D} {u : V} (h : d.scal = some u) : flatV u = true := by cases d <;> simp [D.scal] at h <;> subst h <;> rfl
theorem scal_eqV {x y : D} {u w : V} (hx : x.scal = some u) (hy : y.scal = some w) : eqV u w = eqd x y := by
  cases x <;> simp [D.scal] at hx <;> subst hx <;> cases y <;> simp [D.scal] at hy <;> subst hy <;> simp [eqV, eqd, D.py, PyData.eqv]
theorem Reps.flat {K : PySem.W.Frag} {H : Hp} {F : AS} : ∀ {vs : List V} {ds : List D} {A : AS}, Reps K H F vs ds A → scals ds = true → vs.all flatV = true ∧ ∀ (x : D) (u : V), x.scal = some u → inV u vs = isIn x ds
  | _, _, _, .nil, _ => ⟨rfl, fun _ _ _ => rfl⟩
  | _, _, _, .cons (v := v) (d := d) a b i j k, h => by
    unfold scals at h
    rw [List.all_cons, Bool.and_eq_true] at h
    obtain ⟨w, hw⟩ := Option.isSome_iff_exists.mp h.1
    have e := a.scal hw
    subst e
    obtain ⟨h1, h2⟩ := Reps.flat b h.2
    refine ⟨by rw [List.all_cons, scal_flat hw, h1]; rfl, fun x u hx => ?_⟩
    have := h2 x u hx
    unfold inV isIn at this ⊢
    rw [List.any_cons, List.any_cons, this, scal_eqV hw hx]
section
variable {K : PySem.W.Frag} {G : Gm} {kp : List Bool} {σ : Sl} {ρ : List D} {vs us : List V} {ds es fs : List D} {H : Hp} {v w x y : V} {d e : D} {m n : M}
theorem World.scal {u : V} (W : World K G kp σ ρ (v :: vs) (d :: ds) H) (h : d.scal = some u) : v = u := by
  obtain ⟨A, F, f⟩ := W
  have r := f.reps
  cases r with
  | cons a b i j k => exact a.scal h
theorem World.tupFlat (W : World K G kp σ ρ (v :: vs) (.tup es :: ds) H) (h : scals es = true) : ∃ a xs, v = .ref a ∧ TupD K H a xs ∧ xs.all flatV = true ∧ ∀ (x : D) (u : V), x.scal = some u → inV u xs = isIn x es := by
  obtain ⟨A, F, f⟩ := W
  have r := f.reps
  cases r with
  | cons a b i j k =>
    cases a with
    | tup t q =>
      obtain ⟨h1, h2⟩ := q.flat h
      exact ⟨_, _, rfl, t, h1, h2⟩
end
section
variable {X : Cx} {G : Gm} {kp : List Bool}
/-- x in y: y a list of data, a text, a tuple of scalars -/
def memD (neg : Bool) : W2 := fun x y Q => match y with
  | .tup xs => x.scal.isSome = true ∧ scals xs = true ∧ Q (.bl (if neg then !isIn x xs else isIn x xs)) x y
  | .dct _ ks _ => (match keyD x with
    | some k => inK neg ks (.k k) fun b => Q b x y
    | none => False)
  | _ => inD neg x y Q
theorem memD_mono {neg : Bool} : ∀ x y P P', (∀ a b c, P a b c → P' a b c) → memD neg x y P → memD neg x y P' := fun x y P P' hp q => by
  cases y with
  | tup xs => exact ⟨q.1, q.2.1, hp _ _ _ q.2.2⟩
  | gone => exact inD_mono (neg := neg) x .gone P P' hp q
  | non => exact inD_mono (neg := neg) x .non P P' hp q
  | bl b => exact inD_mono (neg := neg) x (.bl b) P P' hp q
  | int b => exact inD_mono (neg := neg) x (.int b) P P' hp q
  | str b => exact inD_mono (neg := neg) x (.str b) P P' hp q
  | lst m b => exact inD_mono (neg := neg) x (.lst m b) P P' hp q
  | dct m ks b =>
    show (match keyD x with
      | some k => inK neg ks (.k k) fun b' => P' b' x (.dct m ks b)
      | none => False)
    have q' : (match keyD x with
      | some k => inK neg ks (.k k) fun b' => P b' x (.dct m ks b)
      | none => False) := q
    cases e : keyD x with
    | none => rw [e] at q'; exact q'.elim
    | some k => rw [e] at q'; exact inK_mono (fun _ z => hp _ _ _ z) q'
  | opq b => exact inD_mono (neg := neg) x (.opq b) P P' hp q
  | ndc m ks b ow => exact inD_mono (neg := neg) x (.ndc m ks b ow) P P' hp q
  | ldc o kvs b => exact inD_mono (neg := neg) x (.ldc o kvs b) P P' hp q
  | ext b => exact inD_mono (neg := neg) x (.ext b) P P' hp q
  | ins pa c ks b => exact inD_mono (neg := neg) x (.ins pa c ks b) P P' hp q
abbrev rMemA (K : PySem.W.Frag) : R2 := fun x y H Q => ((rInD K x y H Q ∨ (∃ i j, x = .str i ∧ y = .str j ∧ Q (.bl (!(Builtin.Str.occurrences j i 0 j.length 1).isEmpty)) H)) ∨ rIn K false x y H Q) ∨ rInK false x y H Q
abbrev rNotMemA (K : PySem.W.Frag) : R2 := fun x y H Q => ((rNotInD K x y H Q ∨ (∃ i j, x = .str i ∧ y = .str j ∧ Q (.bl (!(!(Builtin.Str.occurrences j i 0 j.length 1).isEmpty))) H)) ∨ rIn K true x y H Q) ∨ rInK true x y H Q
theorem op_memA (hu : X.A.units + 65 < cLine) : OpR X (compareOp .In) (rMemA X.K) := (((op_inD hu).or op_in_str).or op_in_seq).or op_inK
theorem op_notMemA (hu : X.A.units + 65 < cLine) : OpR X (compareOp .NotIn) (rNotMemA X.K) := (((op_notInD hu).or op_notin_str).or op_notIn_seq).or op_notInK
theorem World.inK {neg : Bool} {σ : Sl} {ρ : List D} {vs : List V} {ds : List D} {x y : V} {dx : D} {m : M} {ks : List DK} {es : List D} {H : Hp} {Q : VK} (W : World X.K G kp σ ρ (y :: x :: vs) (.dct m ks es :: dx :: ds) H)
    (q : match keyD dx with
      | some k => Bd.inK neg ks (.k k) fun b => ∀ v H', World X.K G kp σ ρ (v :: y :: x :: vs) (b :: .dct m ks es :: dx :: ds) H' → Q v H'
      | none => False) : rInK neg x y H Q := by
  cases e : keyD dx with
  | none => rw [e] at q; exact q.elim
  | some k =>
    rw [e] at q
    obtain ⟨ak, q⟩ := q
    obtain ⟨a, kvs, e1, e2, e3, e4, _⟩ := W.isDct ak
    have ex := W.drop.isKey e
    have es : (valV kvs k).isSome = (posK ks (.k k)).isSome := by
      rw [valV_posK, e3]
      cases hp : posK ks (.k k) with
      | none => rfl
      | some j =>
        have h1 := (List.getElem?_eq_some_iff.mp (posK_get hp)).1
        have h2 : j < kvs.length := by rw [← e3] at h1; simpa [kks] using h1
        rw [Option.bind_some, List.getElem?_eq_getElem (by simpa using h2)]; rfl
    exact ⟨a, kvs, k, e1, e2, ex, by rw [es]; exact q _ H W.bl⟩
theorem memD_ok : OpD X G kp (rMemA X.K) (memD false) := by
  refine ⟨memD_mono, fun σ ρ vs ds x y dx dy H Q W q => ?_⟩
  cases dy <;> first | exact .inl (.inl (inD_ok.2 _ _ _ _ _ _ _ _ _ _ W q)) | skip
  · obtain ⟨q1, q2, q3⟩ := q
    obtain ⟨u, hu⟩ := Option.isSome_iff_exists.mp q1
    obtain ⟨a, xs, rfl, t, h1, h2⟩ := W.tupFlat q2
    have e := W.swap.scal hu
    subst e
    exact .inl (.inr ⟨a, xs, rfl, .inr t.sq, scal_flat hu, h1, q3 _ H (by rw [h2 dx _ hu]; exact W.bl)⟩)
  · exact .inr (World.inK W q)
theorem notMemD_ok : OpD X G kp (rNotMemA X.K) (memD true) := by
  refine ⟨memD_mono, fun σ ρ vs ds x y dx dy H Q W q => ?_⟩
  cases dy <;> first | exact .inl (.inl (notInD_ok.2 _ _ _ _ _ _ _ _ _ _ W q)) | skip
  · obtain ⟨q1, q2, q3⟩ := q
    obtain ⟨u, hu⟩ := Option.isSome_iff_exists.mp q1
    obtain ⟨a, xs, rfl, t, h1, h2⟩ := W.tupFlat q2
    have e := W.swap.scal hu
    subst e
    exact .inl (.inr ⟨a, xs, rfl, .inr t.sq, scal_flat hu, h1, q3 _ H (by rw [h2 dx _ hu]; exact W.bl)⟩)
  · exact .inr (World.inK W q)
end
/-! ### truth -/
def truW (d : D) (Q : Bool → Prop) : Prop := match d with
  | .non => Q false
  | .bl b => Q b
  | .int i => Q (i != 0)
  | .str x => x.length ≤ sizeLine ∧ Q ((x.length : Int) != 0)
  | .tup ds => Q (!ds.isEmpty)
  | .lst _ ds => Q (!ds.isEmpty)
  | _ => False
theorem truW_mono {d : D} {P P' : Bool → Prop} (h : ∀ b, P b → P' b) (q : truW d P) : truW d P' := by
  cases d <;> first | exact q.elim | exact h _ q | exact ⟨q.1, h _ q.2⟩
theorem emp_len {α β : Type} {xs : List α} {ys : List β} (h : xs.length = ys.length) : xs.isEmpty = ys.isEmpty := by
  cases xs <;> cases ys <;> simp_all
section
variable {X : Cx} {G : Gm} {kp : List Bool} {e a b c : Expr} {rest : List Expr} {pos p1 : Pos} {wa wb we : WE} {wt wu : WT}
theorem World.tru {K : PySem.W.Frag} {σ : Sl} {ρ : List D} {vs : List V} {ds : List D} {H : Hp} {v : V} {d : D} {P : Bool → Prop} (W : World K G kp σ ρ (v :: vs) (d :: ds) H) (h : truW d P) : ∃ k, TruV K v H k ∧ P k := by
  cases d <;> first | exact h.elim | skip
  · have e := W.isNon; subst e; exact ⟨false, rfl, h⟩
  · have e := W.isBl; subst e; exact ⟨_, rfl, h⟩
  · have e := W.isInt; subst e; exact ⟨_, rfl, h⟩
  · have e := W.isStr; subst e; exact ⟨_, ⟨h.1, rfl⟩, h.2⟩
  · obtain ⟨a, us, rfl, t, l⟩ := W.isTup
    exact ⟨_, .inr (.inl ⟨us, t.sq, rfl⟩), by rw [emp_len l]; exact h⟩
  · obtain ⟨a, us, rfl, t, l, _⟩ := W.isLst
    exact ⟨_, .inl ⟨us, t, rfl⟩, by rw [emp_len l]; exact h⟩
/-- a test by truth -/
def wTr (w : WB) : WT := fun ρ Q => w ρ fun d o r => truW d fun b => Q b (gb o d r)
theorem dt_truth {wa : WB} (ha : DB X G kp a wa) (he : ∀ whole, isTrue a X.env whole = (do let v ← whole; standAt a.pos; holding [v] (truthy v)) := by intro _; rfl) : DT X G kp a (wTr wa) :=
  ⟨fun ρ P P' hp q => ha.mono ρ _ _ (fun d o r z => truW_mono (fun b q => hp b _ q) z) q, pt_imp (pt_truth ha.run he) fun σ H Q ⟨ρ, vs, ds, W, q⟩ => ⟨ρ, vs, ds, W, ha.mono ρ _ _ (fun d o r z v H' W' ho => by
    obtain ⟨k, t, z⟩ := W'.tru z
    exact ⟨k, t, z H' (W'.gb ho)⟩) q⟩⟩
/-! ### and, or, not in tests -/
def wAnd (wa wb : WT) : WT := fun ρ Q => wa ρ fun k r => if k = true then wb r Q else Q false r
def wOr (wa wb : WT) : WT := fun ρ Q => wa ρ fun k r => if k = true then Q true r else wb r Q
def wNot (wa : WT) : WT := fun ρ Q => wa ρ fun k r => Q (!k) r
theorem dw_and1 {wt : WT} (ha : DT X G kp a wt) : DW X G kp (.BoolOp .And [a] pos) wt := ⟨ha.mono, pw_and1 ha.run⟩
theorem dw_or1 {wt : WT} (ha : DT X G kp a wt) : DW X G kp (.BoolOp .Or [a] pos) wt := ⟨ha.mono, pw_or1 ha.run⟩
theorem tDT_and {wa wb : WT} (ma : ∀ ρ P P', (∀ d r, P d r → P' d r) → wa ρ P → wa ρ P') (σ : Sl) (H : Hp) (Q : Bool → Hp → Prop) (q : tDT X.K G kp (wAnd wa wb) σ H Q) : tAnd (tDT X.K G kp wa) (tDT X.K G kp wb) σ H Q := by
  obtain ⟨ρ, vs, ds, W, q⟩ := q
  refine ⟨ρ, vs, ds, W, ma ρ _ _ (fun k r z H' W' => ?_) q⟩
  cases k with
  | true => exact ⟨r, vs, ds, W', z⟩
  | false => exact z H' W'
theorem tDT_or {wa wb : WT} (ma : ∀ ρ P P', (∀ d r, P d r → P' d r) → wa ρ P → wa ρ P') (σ : Sl) (H : Hp) (Q : Bool → Hp → Prop) (q : tDT X.K G kp (wOr wa wb) σ H Q) : tOr (tDT X.K G kp wa) (tDT X.K G kp wb) σ H Q := by
  obtain ⟨ρ, vs, ds, W, q⟩ := q
  refine ⟨ρ, vs, ds, W, ma ρ _ _ (fun k r z H' W' => ?_) q⟩
  cases k with
  | true => exact z H' W'
  | false => exact ⟨r, vs, ds, W', z⟩
theorem dw_and {wa wb : WT} (ha : DT X G kp a wa) (hb : DW X G kp (.BoolOp .And (b :: rest) pos) wb) : DW X G kp (.BoolOp .And (a :: b :: rest) pos) (wAnd wa wb) :=
  ⟨fun ρ P P' hp q => ha.mono ρ _ _ (fun k r z => by cases k with
    | true => exact hb.mono _ _ _ hp z
    | false => exact hp _ _ z) q, pw_imp (pw_and ha.run hb.run) fun σ H Q q => tDT_and ha.mono σ H Q q⟩
theorem dw_or {wa wb : WT} (ha : DT X G kp a wa) (hb : DW X G kp (.BoolOp .Or (b :: rest) pos) wb) : DW X G kp (.BoolOp .Or (a :: b :: rest) pos) (wOr wa wb) :=
  ⟨fun ρ P P' hp q => ha.mono ρ _ _ (fun k r z => by cases k with
    | true => exact hp _ _ z
    | false => exact hb.mono _ _ _ hp z) q, pw_imp (pw_or ha.run hb.run) fun σ H Q q => tDT_or ha.mono σ H Q q⟩
theorem dt_w {wa : WT} (h : DW X G kp e wa) : DT X G kp e wa := ⟨h.mono, h.run.pt⟩
theorem dt_not {wa : WT} (ha : DT X G kp a wa) : DT X G kp (.UnaryOp .Not a pos) (wNot wa) :=
  ⟨fun ρ P P' hp q => ha.mono ρ _ _ (fun k r z => hp _ _ z) q, pt_imp (pt_not ha.run) fun σ H Q ⟨ρ, vs, ds, W, q⟩ => ⟨ρ, vs, ds, W, ha.mono ρ _ _ (fun k r z H' W' => z H' W') q⟩⟩
/-! ### .. as values -/
def wOrV (wa wb : WE) : WE := fun ρ Q => wa ρ fun d r => truW d fun k => if k = true then Q d r else wb r Q
def wAndV (wa wb : WE) : WE := fun ρ Q => wa ρ fun d r => truW d fun k => if k = true then wb r Q else Q d r
def wNotV (wa : WB) : WE := fun ρ Q => wa ρ fun d o r => truW d fun k => Q (.bl (!k)) (gb o d r)
theorem de_one {op} (h : DE X G kp a wa) : DE X G kp (.BoolOp op [a] pos) wa := ⟨h.mono, pe_one h.run⟩
theorem de_and (ha : DE X G kp a wa) (hb : DE X G kp (.BoolOp .And (b :: rest) pos) wb) : DE X G kp (.BoolOp .And (a :: b :: rest) pos) (wAndV wa wb) :=
  ⟨fun ρ P P' hp q => ha.mono ρ _ _ (fun d r z => truW_mono (fun k z => by cases k with
    | true => exact hb.mono _ _ _ hp z
    | false => exact hp _ _ z) z) q, pe_imp (pe_andT ha.run hb.run) fun σ H Q ⟨ρ, vs, ds, W, q⟩ => ⟨ρ, vs, ds, W, ha.mono ρ _ _ (fun d r z v H' W' => by
      obtain ⟨k, t, z⟩ := W'.tru z
      refine ⟨k, t, ?_⟩
      cases k with
      | true => exact ⟨r, vs, ds, W'.drop, z⟩
      | false => exact z v H' W') q⟩⟩
theorem de_not {wa : WB} (ha : DB X G kp a wa) : DE X G kp (.UnaryOp .Not a pos) (wNotV wa) :=
  ⟨fun ρ P P' hp q => ha.mono ρ _ _ (fun d o r z => truW_mono (fun k z => hp _ _ z) z) q, pe_imp (pe_notT ha.run) fun σ H Q ⟨ρ, vs, ds, W, q⟩ => ⟨ρ, vs, ds, W, ha.mono ρ _ _ (fun d o r z v H' W' ho => by
      obtain ⟨k, t, z⟩ := W'.tru z
      exact ⟨k, t, z _ H' (W'.gb ho).bl⟩) q⟩⟩
/-- a if t else b -/
def wIf (wt : WT) (wa wb : WE) : WE := fun ρ Q => wt ρ fun k r => if k = true then wa r Q else wb r Q
/-- -x -/
def wNeg (wa : WE) : WE := fun ρ Q => wa ρ fun d r => match d with
  | .int i => Q (.int (-i)) r
  | _ => False
theorem de_neg (ha : DE X G kp a wa) : DE X G kp (.UnaryOp .USub a pos) (wNeg wa) :=
  ⟨fun ρ P P' hp q => ha.mono ρ _ _ (fun d r z => by cases d <;> first | exact z.elim | exact hp _ _ z) q, pe_imp (pe_un un_neg ha.run) fun σ H Q ⟨ρ, vs, ds, W, q⟩ => ⟨ρ, vs, ds, W, ha.mono ρ _ _ (fun d r z v H' W' => by
      cases d <;> first | exact z.elim | skip
      have e := W'.isInt
      subst e
      exact ⟨_, rfl, z _ H' W'.drop.int⟩) q⟩⟩
/-! ### values in a row; displays -/
def wNil : WA := fun ρ Q => Q [] ρ
def wCons (wa : WE) (wr : WA) : WA := fun ρ Q => wa ρ fun d r => wr r fun es r2 => Q (d :: es) r2
theorem da_nil : DA X G kp [] wNil := ⟨fun ρ P P' hp q => hp _ _ q, pa_imp pa_nil fun σ H Q ⟨ρ, vs, ds, W, q⟩ => q [] H rfl W⟩
theorem da_cons {es : List Expr} {wr : WA} (ha : DE X G kp e wa) (hr : DA X G kp es wr) (hs : starEach (e :: es) X.env = (false, eval e X.env) :: starEach es X.env := by rfl) : DA X G kp (e :: es) (wCons wa wr) :=
  ⟨fun ρ P P' hp q => ha.mono ρ _ _ (fun d r z => hr.mono _ _ _ (fun es r2 z => hp _ _ z) z) q, pa_imp (pa_cons ha.run hr.run hs) fun σ H Q ⟨ρ, vs, ds, W, q⟩ => ⟨ρ, vs, ds, W, ha.mono ρ _ _ (fun d r z v H' W' => ⟨r, _, _, W', hr.mono _ _ _ (fun es r2 z us H2 l W2 => z (v :: us) H2 (by simp [l]) (by
    have := W2.rot l
    simpa using this)) z⟩) q⟩⟩
def wTup (wa : WA) : WE := fun ρ Q => wa ρ fun es r => es.length ≤ sizeLine ∧ Q (.tup es) r
def wLst (wa : WA) : WE := fun ρ Q => wa ρ fun es r => es.length ≤ sizeLine ∧ Q (.lst .own es) r
theorem de_tup {es : List Expr} {w : WA} {x1} (h : DA X G kp es w) : DE X G kp (.Tuple es x1 pos) (wTup w) :=
  ⟨fun ρ P P' hp q => h.mono ρ _ _ (fun es r z => ⟨z.1, hp _ _ z.2⟩) q, pe_imp (pe_tupP h.run) fun σ H Q ⟨ρ, vs, ds, W, q⟩ => ⟨ρ, vs, ds, W, h.mono ρ _ _ (fun es r z us H' l W' => ⟨by rw [l]; exact z.1, fun p o hp ho => z.2 _ _ (W'.newTup l hp ho)⟩) q⟩⟩
theorem de_lst {es : List Expr} {w : WA} (h : DA X G kp es w) : DE X G kp (.List es pos) (wLst w) :=
  ⟨fun ρ P P' hp q => h.mono ρ _ _ (fun es r z => ⟨z.1, hp _ _ z.2⟩) q, pe_imp (pe_lst h.run) fun σ H Q ⟨ρ, vs, ds, W, q⟩ => ⟨ρ, vs, ds, W, h.mono ρ _ _ (fun es r z us H' l W' => ⟨by rw [l]; exact z.1, fun p hp => z.2 _ _ (W'.newLst l hp)⟩) q⟩⟩
/-! ### subscripts -/
def ixD : W2 := fun x y Q => match y with
  | .int i => (match x with
    | .lst m xs => ∃ d, atI xs i = some d ∧ Q d.frz (.lst m (frzs xs)) y
    | .tup xs => ∃ d, atI xs i = some d ∧ Q d.frz (.tup (frzs xs)) y
    | .str z => z.length ≤ sizeLine ∧ ∃ c, atI z.cps.toList i = some c ∧ Q (.str ⟨#[c]⟩) x y
    | .dct m ks es => getK m ks es (.k (.inl i)) fun z x' => Q z x' y
    | _ => False)
  | .str z => (match x with
    | .dct m ks es => getK m ks es (.k (.inr z)) fun z x' => Q z x' y
    | _ => False)
  | _ => False
theorem atI_map {α β : Type} {xs : List α} {ys : List β} (h : xs.length = ys.length) {i : Int} {d : β} (e : atI ys i = some d) : ∃ j, ixN xs.length i = some j ∧ ys[j]? = some d := by
  unfold atI at e
  rw [← h] at e
  cases q : ixN xs.length i with
  | none => rw [q] at e; cases e
  | some j => rw [q] at e; exact ⟨j, rfl, e⟩
theorem frzs_get {xs : List D} {j : Nat} {d : D} (h : xs[j]? = some d) : (frzs xs)[j]? = some d.frz := by rw [frzs_eq_map, List.getElem?_map, h]; rfl
theorem ixD_mono : ∀ x y P P', (∀ a b c, P a b c → P' a b c) → ixD x y P → ixD x y P' := fun x y P P' hp q => by
  cases y <;> first | exact q.elim | skip
  · rename_i i
    cases x <;> first | exact q.elim | (rename_i m ks es; exact getK_mono (m := m) (ks := ks) (es := es) (k := .k (.inl i)) (P := fun z x' => P z x' (.int i)) (P' := fun z x' => P' z x' (.int i)) (fun a b z => hp _ _ _ z) q) | (obtain ⟨d, e, q⟩ := q; exact ⟨d, e, hp _ _ _ q⟩) | (obtain ⟨z, d, e, q⟩ := q; exact ⟨z, d, e, hp _ _ _ q⟩)
  · rename_i i
    cases x <;> first | exact q.elim | (rename_i m ks es; exact getK_mono (m := m) (ks := ks) (es := es) (k := .k (.inr i)) (P := fun z x' => P z x' (.str i)) (P' := fun z x' => P' z x' (.str i)) (fun a b z => hp _ _ _ z) q)
theorem Reps.nth {K : PySem.W.Frag} {H : Hp} {F : AS} : ∀ {us : List V} {es : List D} {A : AS} {j : Nat} {d : D}, Reps K H F us es A → es[j]? = some d → ∃ v, us[j]? = some v ∧ Rep K H F v d A
  | _, _, _, 0, _, .cons a b i j k, h => by simp at h; subst h; exact ⟨_, rfl, a.mono i⟩
  | _, _, _, n + 1, _, .cons a b i j k, h => by
    obtain ⟨v, hv, r⟩ := Reps.nth (j := n) b (by simpa using h)
    exact ⟨v, by simpa using hv, r.mono j⟩
  | _, _, _, _, _, .nil, h => by simp at h
abbrev rIxA (K : PySem.W.Frag) : R2 := fun x y H Q => rIx K x y H Q ∨ rIxK x y H Q
theorem ix_all : IxR X (rIxA X.K) := ix_seq.or ix_dK
theorem World.ixK {σ : Sl} {ρ : List D} {vs : List V} {ds : List D} {x y : V} {dy : D} {m : M} {ks : List DK} {es : List D} {H : Hp} {Q : VK} {k : Key} (W : World X.K G kp σ ρ (y :: x :: vs) (dy :: .dct m ks es :: ds) H) (hy : keyD dy = some k)
    (q : Bd.getK m ks es (.k k) fun z x' => ∀ v H', World X.K G kp σ ρ (v :: y :: x :: vs) (z :: dy :: x' :: ds) H' → Q v H') : rIxK x y H Q := by
  obtain ⟨a, kvs, w, e1, e2, e3, e4, q⟩ := W.swap.getK (P := fun w => Q w H) hy (getK_mono (fun z x' h w W2 => h w H (W2.under (us := [w]) (es := [z]) rfl (fun _ _ r => r.swap) (by have := W.lv; simpa using this))) q)
  exact ⟨a, kvs, k, w, e1, e2, e3, e4, q⟩
theorem ixD_ok : OpD X G kp (rIxA X.K) ixD := by
  refine ⟨ixD_mono, fun σ ρ vs ds x y dx dy H Q W q => ?_⟩
  cases dy <;> first | exact q.elim | skip
  rotate_left
  · cases dx <;> first | exact q.elim | exact .inr (World.ixK W (k := .inr _) rfl q)
  rename_i i
  have e1 := W.isInt
  subst e1
  cases dx <;> first | exact q.elim | exact .inr (World.ixK W (k := .inl _) rfl q) | refine .inl ?_
  · obtain ⟨z, c, e, q⟩ := q
    exact .inr (.inr ⟨_, i, c, W.swap.isStr, rfl, z, e, q _ H W.str⟩)
  · rename_i es
    obtain ⟨d, e, q⟩ := q
    have W1 : World X.K G kp σ ρ (x :: .int i :: vs) (.tup (frzs es) :: .int i :: ds) H := W.swap.frzKids
    obtain ⟨a, xs, rfl, t, l, mk⟩ := W1.tupW (frzs_solid es)
    obtain ⟨j, hj, hd⟩ := atI_map (xs := xs) (by rw [l, frzs_length]) e
    -- the item
    have hw : ∃ v, xs[j]? = some v := ⟨xs[j]'(by
      have := (List.getElem?_eq_some_iff.mp hd).1
      rw [← frzs_length, ← l] at this; exact this), List.getElem?_eq_getElem _⟩
    obtain ⟨v, hv⟩ := hw
    refine .inr (.inl ⟨a, xs, i, v, rfl, rfl, t.sq, by unfold atI; rw [hj]; exact hv, q v H ?_⟩)
    refine mk _ _ (fun F A rk r => ?_) (by have := W.lv; simp at this ⊢; omega)
    obtain ⟨v', hv', rv⟩ := rk.nth (frzs_get hd)
    rw [hv] at hv'; cases hv'
    exact (Reps.swap r).push rv
  · rename_i m es
    obtain ⟨d, e, q⟩ := q
    have W1 : World X.K G kp σ ρ (x :: .int i :: vs) (.lst m (frzs es) :: .int i :: ds) H := W.swap.frzKids
    obtain ⟨a, xs, rfl, t, _, l, mk⟩ := W1.lstW (frzs_solid es)
    obtain ⟨j, hj, hd⟩ := atI_map (xs := xs) (by rw [l, frzs_length]) e
    have hw : ∃ v, xs[j]? = some v := ⟨xs[j]'(by
      have := (List.getElem?_eq_some_iff.mp hd).1
      rw [← frzs_length, ← l] at this; exact this), List.getElem?_eq_getElem _⟩
    obtain ⟨v, hv⟩ := hw
    refine .inl ⟨a, xs, i, v, rfl, rfl, t, by unfold atI; rw [hj]; exact hv, q v H ?_⟩
    refine mk _ _ (fun F A rk r => ?_) (by have := W.lv; simp at this ⊢; omega)
    obtain ⟨v', hv', rv⟩ := rk.nth (frzs_get hd)
    rw [hv] at hv'; cases hv'
    exact (Reps.swap r).push rv
theorem de_ix {wa wb : WB} (ha : DB X G kp a wa) (hb : DB X G kp b wb) (hs : PlainIx b := by intro _ _; rfl) : DE X G kp (.Subscript a b pos) (wOp ixD wa wb) :=
  ⟨wOp_mono ixD_mono ha.mono hb.mono, pe_imp (pe_ix ix_all ha.run hb.run hs) fun σ H Q q => ixD_ok.conv ha.mono hb.mono σ H Q q⟩
/-! ### slices -/
def cutD (xs : List D) (lo hi : Option Int) : List D := (xs.drop (HT.sIx xs.length 0 lo)).take (HT.sIx xs.length xs.length hi - HT.sIx xs.length 0 lo)
structure DO (X : Cx) (G : Gm) (kp : List Bool) (e : Option Expr) (w : List D → (Option Int → List D → Prop) → Prop) : Prop where
  mono : ∀ ρ P P', (∀ d r, P d r → P' d r) → w ρ P → w ρ P'
  run : PO X e (fun σ H Q => ∃ ρ vs ds, World X.K G kp σ ρ vs ds H ∧ w ρ fun o ρ' => ∀ H', World X.K G kp σ ρ' vs ds H' → Q o H')
theorem po_imp {o : Option Expr} {t t' : TO} (h : PO X o t) (i : ∀ σ H Q, t' σ H Q → t σ H Q) : PO X o t' := ⟨fun pins s σ H Q I q => h.run pins s σ H Q I (i σ H Q q)⟩
def wNo : List D → (Option Int → List D → Prop) → Prop := fun ρ Q => Q none ρ
def wSo (w : WE) : List D → (Option Int → List D → Prop) → Prop := fun ρ Q => w ρ fun d r => match d with
  | .int i => Q (some i) r
  | _ => False
theorem do_none : DO X G kp none wNo := ⟨fun ρ P P' hp q => hp _ _ q, po_imp po_none fun σ H Q ⟨ρ, vs, ds, W, q⟩ => q H W⟩
theorem do_some (ha : DE X G kp e wa) : DO X G kp (some e) (wSo wa) :=
  ⟨fun ρ P P' hp q => ha.mono ρ _ _ (fun d r z => by cases d <;> first | exact z.elim | exact hp _ _ z) q, po_imp (po_some ha.run) fun σ H Q ⟨ρ, vs, ds, W, q⟩ => ⟨ρ, vs, ds, W, ha.mono ρ _ _ (fun d r z v H' W' => by
    cases d <;> first | exact z.elim | skip
    have e := W'.isInt
    subst e
    exact ⟨_, rfl, z H' W'.drop⟩) q⟩⟩
def slD (x : D) (lo hi : Option Int) (Q : D → D → Prop) : Prop := match x with
  | .lst m xs => Q (.lst .own (cutD (frzs xs) lo hi)) (.lst m (frzs xs))
  | .tup xs => Q (.tup (cutD (frzs xs) lo hi)) (.tup (frzs xs))
  | .str z => z.length ≤ sizeLine ∧ Q (.str (cutS z lo hi)) x
  | _ => False
def wSl (wa : WB) (wl wh : List D → (Option Int → List D → Prop) → Prop) : WE := fun ρ Q => wa ρ fun x o r => wl r fun lo r1 => wh r1 fun hi r2 => slD x lo hi fun z x' => Q z (gb o x' r2)
theorem slD_mono : ∀ x lo hi P P', (∀ a b, P a b → P' a b) → slD x lo hi P → slD x lo hi P' := fun x lo hi P P' hp q => by
  cases x <;> first | exact q.elim | exact hp _ _ q | exact ⟨q.1, hp _ _ q.2⟩
theorem Reps.cut {K : PySem.W.Frag} {H : Hp} {F : AS} : ∀ {us : List V} {es : List D} {A : AS} (a b : Nat), Reps K H F us es A → Reps K H F ((us.drop a).take b) ((es.drop a).take b) A := fun {us es A} a b r => by
  have tk : ∀ (b : Nat) {us : List V} {es : List D} {A : AS}, Reps K H F us es A → Reps K H F (us.take b) (es.take b) A := fun b => by
    induction b with
    | zero => intro us es A r; exact .nil
    | succ b ih =>
      intro us es A r
      cases r with
      | nil => exact .nil
      | cons a b i j k => exact .cons a (ih b) i j k
  have dr : ∀ (a : Nat) {us : List V} {es : List D} {A : AS}, Reps K H F us es A → Reps K H F (us.drop a) (es.drop a) A := fun a => by
    induction a with
    | zero => intro us es A r; exact r
    | succ a ih =>
      intro us es A r
      cases r with
      | nil => exact .nil
      | cons a b i j k => exact (ih b).mono j
  exact tk b (dr a r)
theorem cutD_len {us : List V} {es : List D} (l : us.length = es.length) (lo hi : Option Int) : (cutV us lo hi).length = (cutD es lo hi).length := by
  unfold cutV cutD
  rw [l, List.length_take, List.length_take, List.length_drop, List.length_drop, l]
theorem Reps.cutV {K : PySem.W.Frag} {H : Hp} {F A : AS} {us : List V} {es : List D} (r : Reps K H F us es A) (lo hi : Option Int) : Reps K H F (L2.cutV us lo hi) (cutD es lo hi) A := by
  unfold L2.cutV cutD
  rw [r.length]
  exact r.cut _ _
abbrev rSlAll (K : PySem.W.Frag) := fun (x : V) (lo hi : Option Int) (H : Hp) (Q : VK) => (rSlL K x lo hi H Q ∨ rSlP K x lo hi H Q) ∨ (∃ z, x = .str z ∧ z.length ≤ sizeLine ∧ Q (.str (cutS z lo hi)) H)
theorem sl_all (h : SlR X (fun x lo hi H Q => ∃ z, x = .str z ∧ z.length ≤ sizeLine ∧ Q (.str (cutS z lo hi)) H)) : SlR X (rSlAll X.K) := (sl_list.or sl_tupP).or h
end
section
variable {X : Cx} {G : Gm} {kp : List Bool} {e a b c : Expr} {rest : List Expr} {pos p1 p2 : Pos} {we : WE} {wa wb : WB}
theorem slD_ok {lo hi : Option Int} {σ : Sl} {ρ : List D} {vs : List V} {ds : List D} {x : V} {dx : D} {H : Hp} {Q : VK} (W : World X.K G kp σ ρ (x :: vs) (dx :: ds) H) (q : slD dx lo hi fun z x' => ∀ v H', World X.K G kp σ ρ (v :: x :: vs) (z :: x' :: ds) H' → Q v H') : rSlAll X.K x lo hi H Q := by
  cases dx <;> first | exact q.elim | skip
  · have e := W.isStr
    subst e
    exact .inr ⟨_, rfl, q.1, q.2 _ H W.str⟩
  · rename_i es
    have W1 : World X.K G kp σ ρ (x :: vs) (.tup (frzs es) :: ds) H := W.frzKids
    obtain ⟨a, xs, rfl, t, l, mk⟩ := W1.tupW (frzs_solid es)
    refine .inl (.inr ⟨a, xs, rfl, t.sq, fun h => q _ H ?_, fun h p o hp ho => q _ _ ?_⟩)
    · refine mk _ _ (fun F A rk r => ?_) (by have := W.lv; simp at this ⊢; omega)
      refine r.push (.tup t ?_)
      have := rk.cutV lo hi
      have e : L2.cutV xs lo hi = xs := by
        unfold L2.cutV
        rw [h.1, h.2]
        simp
      rwa [e] at this
    · refine World.newTup (us := L2.cutV xs lo hi) (es := cutD (frzs es) lo hi) (mk _ _ (fun F A rk r => ?_) ?_) (cutD_len l lo hi) hp ho
      · rw [List.append_assoc, List.append_assoc]
        exact ((rk.cutV lo hi).join r fun _ h => h.elim).mono fun x h => h.elim (fun z => z.elim) id
      · have := W.lv
        rw [List.length_append, List.length_append, cutD_len l]
        simp at this ⊢; omega
  · rename_i m es
    have W1 : World X.K G kp σ ρ (x :: vs) (.lst m (frzs es) :: ds) H := W.frzKids
    obtain ⟨a, xs, rfl, t, _, l, mk⟩ := W1.lstW (frzs_solid es)
    refine .inl (.inl ⟨a, xs, rfl, t, fun p hp => q _ _ ?_⟩)
    refine World.newLst (us := L2.cutV xs lo hi) (es := cutD (frzs es) lo hi) (mk _ _ (fun F A rk r => ?_) ?_) (cutD_len l lo hi) hp
    · rw [List.append_assoc, List.append_assoc]
      exact ((rk.cutV lo hi).join r fun _ h => h.elim).mono fun x h => h.elim (fun z => z.elim) id
    · have := W.lv
      rw [List.length_append, List.length_append, cutD_len l]
      simp at this ⊢; omega
theorem de_sl {lo hi : Option Expr} {wl wh : List D → (Option Int → List D → Prop) → Prop} (ha : DB X G kp a wa) (hl : DO X G kp lo wl) (hh : DO X G kp hi wh) : DE X G kp (.Subscript a (.Slice lo hi none p2) pos) (wSl wa wl wh) :=
  ⟨fun ρ P P' hp q => ha.mono ρ _ _ (fun d o r z => hl.mono _ _ _ (fun lo r1 z => hh.mono _ _ _ (fun hi r2 z => slD_mono _ _ _ _ _ (fun a b z => hp _ _ z) z) z) z) q,
    pe_imp (pe_slice (sl_all sl_str) ha.run hl.run hh.run) fun σ H Q ⟨ρ, vs, ds, W, q⟩ => ⟨ρ, vs, ds, W, ha.mono ρ _ _ (fun d o r z v H' W' ho => ⟨r, _, _, W', hl.mono _ _ _ (fun lo r1 z H2 W2 => ⟨r1, _, _, W2, hh.mono _ _ _ (fun hi r2 z H3 W3 =>
      slD_ok W3 (slD_mono _ _ _ _ _ (fun y x' z u H4 W4 => z u H4 (W4.swap.gb ho)) z)) z⟩) z⟩) q⟩⟩
/-! ### arguments, lent -/
abbrev WBs := List D → (List D → List (Option Nat) → List D → Prop) → Prop
def Lent (σ : Sl) : List V → List (Option Nat) → Prop
  | v :: vs, o :: os => (∀ i, o = some i → σ[i]? = some (some v)) ∧ Lent σ vs os
  | _, _ => True
def tDBs (K : PySem.W.Frag) (G : Gm) (kp : List Bool) (w : WBs) : TA := fun σ H Q => ∃ ρ vs ds, World K G kp σ ρ vs ds H ∧ w ρ fun es os ρ' => ∀ us H', us.length = es.length → World K G kp σ ρ' (us ++ vs) (es ++ ds) H' → Lent σ us os → Q us H'
structure DBs (X : Cx) (G : Gm) (kp : List Bool) (es : List Expr) (w : WBs) : Prop where
  mono : ∀ ρ P P', (∀ d o r, P d o r → P' d o r) → w ρ P → w ρ P'
  run : PA X es (tDBs X.K G kp w)
def wBn : WBs := fun ρ Q => Q [] [] ρ
def wBc (wa : WB) (wr : WBs) : WBs := fun ρ Q => wa ρ fun d o r => wr r fun es os r2 => Q (d :: es) (o :: os) r2
theorem dbs_nil : DBs X G kp [] wBn := ⟨fun ρ P P' hp q => hp _ _ _ q, pa_imp pa_nil fun σ H Q ⟨ρ, vs, ds, W, q⟩ => q [] H rfl W trivial⟩
theorem dbs_cons {es : List Expr} {wr : WBs} (ha : DB X G kp e wa) (hr : DBs X G kp es wr) (hs : starEach (e :: es) X.env = (false, eval e X.env) :: starEach es X.env := by rfl) : DBs X G kp (e :: es) (wBc wa wr) :=
  ⟨fun ρ P P' hp q => ha.mono ρ _ _ (fun d o r z => hr.mono _ _ _ (fun es os r2 z => hp _ _ _ z) z) q, pa_imp (pa_cons ha.run hr.run hs) fun σ H Q ⟨ρ, vs, ds, W, q⟩ => ⟨ρ, vs, ds, W, ha.mono ρ _ _ (fun d o r z v H' W' ho => ⟨r, _, _, W', hr.mono _ _ _ (fun es os r2 z us H2 l W2 hl => z (v :: us) H2 (by simp [l]) (by
    have := W2.rot l
    simpa using this) ⟨ho, hl⟩) z⟩) q⟩⟩
def gbs : List (Option Nat) → List D → List D → List D
  | o :: os, d :: ds, ρ => gbs os ds (gb o d ρ)
  | _, _, ρ => ρ
section
variable {K : PySem.W.Frag} {σ : Sl} {H : Hp} {v : V} {d : D}
theorem World.gbs : ∀ {us : List V} {es : List D} {os : List (Option Nat)} {ρ : List D} {vs : List V} {ds : List D}, us.length = es.length → World K G kp σ ρ (us ++ vs) (es ++ ds) H → Lent σ us os → World K G kp σ (gbs os es ρ) vs ds H
  | [], [], os, ρ, vs, ds, _, W, _ => by cases os <;> exact W
  | u :: us, e :: es, [], ρ, vs, ds, l, W, _ => W.dropN (us := u :: us) (es := e :: es) l
  | u :: us, e :: es, o :: os, ρ, vs, ds, l, W, h => World.gbs (us := us) (es := es) (by simpa using l) (World.gb (o := o) W h.1) h.2
  | [], _ :: _, _, _, _, _, l, _, _ => by simp at l
  | _ :: _, [], _, _, _, _, l, _, _ => by simp at l
end
/-- a call by values: c of the arguments, the answer and what they are behind it -/
abbrev WK := List D → (D → List D → Prop) → Prop
def wCall (c : WK) (wr : WBs) : WE := fun ρ Q => wr ρ fun es os r => c es fun z es' => es'.length = es.length ∧ Q z (gbs os es' r)
def CallD (X : Cx) (G : Gm) (kp : List Bool) (r : List V → Hp → VK → Prop) (c : WK) : Prop :=
  (∀ es P P', (∀ a b, P a b → P' a b) → c es P → c es P') ∧
  ∀ σ ρ vs ds us es H Q, us.length = es.length → World X.K G kp σ ρ (us ++ vs) (es ++ ds) H → c es (fun z es' => es'.length = es.length ∧ ∀ v H', World X.K G kp σ ρ (v :: (us ++ vs)) (z :: (es' ++ ds)) H' → Q v H') → r us H Q
theorem CallD.conv {r : List V → Hp → VK → Prop} {c : WK} {wr : WBs} (h : CallD X G kp r c) (mr : ∀ ρ P P', (∀ d o r, P d o r → P' d o r) → wr ρ P → wr ρ P') (σ : Sl) (H : Hp) (Q : VK) (q : tDE X.K G kp (wCall c wr) σ H Q) : tCB r (tDBs X.K G kp wr) σ H Q := by
  obtain ⟨ρ, vs, ds, W, q⟩ := q
  refine ⟨ρ, vs, ds, W, mr ρ _ _ (fun es os ρ1 z us H1 l W1 hl => ?_) q⟩
  refine h.2 _ _ _ _ _ _ _ _ l W1 (h.1 _ _ _ (fun z es' q => ⟨q.1, fun v H' W' => q.2 v H' ?_⟩) z)
  have l' : us.length = es'.length := l.trans q.1.symm
  have W2 := W'.tor l'
  exact World.gbs l' W2 hl
theorem wCall_mono {c : WK} {wr : WBs} (mc : ∀ es P P', (∀ a b, P a b → P' a b) → c es P → c es P') (mr : ∀ ρ P P', (∀ d o r, P d o r → P' d o r) → wr ρ P → wr ρ P') : ∀ ρ P P', (∀ d r, P d r → P' d r) → wCall c wr ρ P → wCall c wr ρ P' :=
  fun ρ P P' hp q => mr ρ _ _ (fun es os r z => mc _ _ _ (fun a b z => ⟨z.1, hp _ _ z.2⟩) z) q
theorem de_callB {x : Str} {es : List Expr} {id : String} {r : List V → Hp → VK → Prop} {c : WK} {wr : WBs} (hc : CallR X (.builtin id) r) (hD : CallD X G kp r c) (hg : Gl X x) (hm : X.mg x = none) (hv : bootBuiltins x = some (.builtin id)) (ha : DBs X G kp (e :: es) wr) (hn : x ≠ "__name__" := by decide) (hdb : (x == ("__debug__" : Str)) = false := by decide)
    (he : starEach (e :: es) X.env = (false, eval e X.env) :: starEach es X.env := by rfl) (hpl : (backTo pos (starEach es X.env)).any (·.1) = false := by rfl) : DE X G kp (.Call (.Name x p1) (e :: es) [] pos) (wCall c wr) :=
  ⟨wCall_mono hD.1 ha.mono, pe_imp (pe_callB hc hg hm hv ha.run hn hdb he hpl) fun σ H Q q => hD.conv ha.mono σ H Q q⟩
theorem de_callTy {x : Str} {es : List Expr} {id : String} {r : List V → Hp → VK → Prop} {c : WK} {wr : WBs} (hc : CallR X (.type id) r) (hD : CallD X G kp r c) (hg : Gl X x) (hm : X.mg x = none) (hv : bootBuiltins x = some (.type id)) (ha : DBs X G kp (e :: es) wr) (hn : x ≠ "__name__" := by decide) (hdb : (x == ("__debug__" : Str)) = false := by decide)
    (he : starEach (e :: es) X.env = (false, eval e X.env) :: starEach es X.env := by rfl) (hpl : (backTo pos (starEach es X.env)).any (·.1) = false := by rfl) : DE X G kp (.Call (.Name x p1) (e :: es) [] pos) (wCall c wr) :=
  ⟨wCall_mono hD.1 ha.mono, pe_imp (pe_callTy hc hg hm hv ha.run hn hdb he hpl) fun σ H Q q => hD.conv ha.mono σ H Q q⟩
/-! ### built-ins of one argument that give a scalar and leave it -/
theorem CallD.or {r r' : List V → Hp → VK → Prop} {c : WK} (h : CallD X G kp r c) : CallD X G kp (fun xs H Q => r xs H Q ∨ r' xs H Q) c := ⟨h.1, fun σ ρ vs ds us es H Q l W q => .inl (h.2 σ ρ vs ds us es H Q l W q)⟩
/-- of one argument -/
def c1 (f : D → (D → D → Prop) → Prop) : WK := fun es Q => match es with
  | [d] => f d fun z d' => Q z [d']
  | _ => False
theorem c1_mono {f : D → (D → D → Prop) → Prop} (h : ∀ d P P', (∀ a b, P a b → P' a b) → f d P → f d P') : ∀ es P P', (∀ a b, P a b → P' a b) → c1 f es P → c1 f es P' := fun es P P' hp q => by
  match es, q with
  | [d], q => exact h d _ _ (fun a b z => hp _ _ z) q
theorem c1_ok {r : List V → Hp → VK → Prop} {f : D → (D → D → Prop) → Prop} (h : ∀ d P P', (∀ a b, P a b → P' a b) → f d P → f d P') (hr : ∀ σ ρ vs ds u d H Q, World X.K G kp σ ρ (u :: vs) (d :: ds) H → f d (fun z d' => ∀ v H', World X.K G kp σ ρ (v :: u :: vs) (z :: d' :: ds) H' → Q v H') → r [u] H Q) : CallD X G kp r (c1 f) := by
  refine ⟨c1_mono h, fun σ ρ vs ds us es H Q l W q => ?_⟩
  match es, us, l, W, q with
  | [d], [u], _, W, q => exact hr σ ρ vs ds u d H Q W (h d _ _ (fun a b z => z.2) q)
def c2 (f : D → D → (D → D → D → Prop) → Prop) : WK := fun es Q => match es with
  | [d, e] => f d e fun z d' e' => Q z [d', e']
  | _ => False
theorem c2_ok {r : List V → Hp → VK → Prop} {f : D → D → (D → D → D → Prop) → Prop} (h : ∀ d e P P', (∀ a b c, P a b c → P' a b c) → f d e P → f d e P') (hr : ∀ σ ρ vs ds u w d e H Q, World X.K G kp σ ρ (u :: w :: vs) (d :: e :: ds) H → f d e (fun z d' e' => ∀ v H', World X.K G kp σ ρ (v :: u :: w :: vs) (z :: d' :: e' :: ds) H' → Q v H') → r [u, w] H Q) : CallD X G kp r (c2 f) := by
  refine ⟨fun es P P' hp q => ?_, fun σ ρ vs ds us es H Q l W q => ?_⟩
  · match es, q with
    | [d, e], q => exact h d e _ _ (fun a b c z => hp _ _ z) q
  · match es, us, l, W, q with
    | [d, e], [u, w], _, W, q => exact hr σ ρ vs ds u w d e H Q W (h d e _ _ (fun a b c z => z.2) q)
/-! #### len -/
def lenF (d : D) (Q : D → D → Prop) : Prop := match d with
  | .lst _ xs => Q (.int xs.length) d
  | .tup xs => Q (.int xs.length) d
  | .str z => z.length ≤ sizeLine ∧ Q (.int z.length) d
  | _ => False
abbrev rLenA (K : PySem.W.Frag) := fun (xs : List V) (H : Hp) (Q : VK) => (∃ p ys, xs = [.ref p] ∧ (SqL K H p ys ∨ SqT K H p ys) ∧ Q (.int ys.length) H) ∨ (∃ z, xs = [.str z] ∧ z.length ≤ sizeLine ∧ Q (.int z.length) H)
theorem call_lenA : CallR X (.builtin "len") (rLenA X.K) := call_len_seq.or call_len_str
theorem lenD_ok : CallD X G kp (rLenA X.K) (c1 lenF) := by
  refine c1_ok (fun d P P' hp q => ?_) fun σ ρ vs ds u d H Q W q => ?_
  · cases d <;> first | exact q.elim | exact hp _ _ q | exact ⟨q.1, hp _ _ q.2⟩
  · cases d <;> first | exact q.elim | skip
    · have e := W.isStr
      subst e
      exact .inr ⟨_, rfl, q.1, q.2 _ H W.int⟩
    · obtain ⟨a, us, rfl, t, l⟩ := W.isTup
      exact .inl ⟨a, us, rfl, .inr t.sq, q _ H (by rw [l]; exact W.int)⟩
    · obtain ⟨a, us, rfl, t, l, _⟩ := W.isLst
      exact .inl ⟨a, us, rfl, .inl t, q _ H (by rw [l]; exact W.int)⟩
/-! #### ints of a list -/
def ints? : List D → Option (List Int)
  | [] => some []
  | .int i :: r => (ints? r).map (i :: ·)
  | _ :: _ => none
theorem ints_map (ns : List Int) : ints? (ns.map D.int) = some ns := by
  induction ns with
  | nil => rfl
  | cons n r ih => simp [ints?, ih]
theorem Reps.ints {K : PySem.W.Frag} {H : Hp} {F : AS} : ∀ {us : List V} {es : List D} {A : AS} {ns : List Int}, Reps K H F us es A → ints? es = some ns → us = ns.map V.int ∧ es = ns.map D.int
  | _, _, _, _, .nil, h => by cases h; exact ⟨rfl, rfl⟩
  | _, _, _, ns, .cons (d := d) a b i j k, h => by
    cases d <;> simp [ints?] at h
    obtain ⟨ms, h1, rfl⟩ := h
    obtain ⟨e1, e2⟩ := Reps.ints b h1
    cases a
    exact ⟨by rw [e1]; rfl, by rw [e2]; rfl⟩
def bls? : List D → Option (List Bool)
  | [] => some []
  | .bl i :: r => (bls? r).map (i :: ·)
  | _ :: _ => none
theorem bls_map (ns : List Bool) : bls? (ns.map D.bl) = some ns := by
  induction ns with
  | nil => rfl
  | cons n r ih => simp [bls?, ih]
theorem Reps.bls {K : PySem.W.Frag} {H : Hp} {F : AS} : ∀ {us : List V} {es : List D} {A : AS} {ns : List Bool}, Reps K H F us es A → bls? es = some ns → us = ns.map V.bl
  | _, _, _, _, .nil, h => by cases h; rfl
  | _, _, _, ns, .cons (d := d) a b i j k, h => by
    cases d <;> simp [bls?] at h
    obtain ⟨ms, h1, rfl⟩ := h
    have e1 := Reps.bls b h1
    cases a
    rw [e1]; rfl
section
variable {K : PySem.W.Frag} {σ : Sl} {ρ : List D} {vs : List V} {ds es : List D} {H : Hp} {v : V} {m : M}
/-- the kids' values -/
theorem World.lstR {P : List V → Prop} (W : World K G kp σ ρ (v :: vs) (.lst m es :: ds) H) (h : ∀ F A us, Reps K H F us es A → P us) : ∃ a us, v = .ref a ∧ SqL K H a us ∧ P us := by
  obtain ⟨A, F, f⟩ := W
  have r := f.reps
  cases r with
  | cons a b i j k =>
    cases a with
    | own e a q t => exact ⟨_, _, rfl, .inl (.inl e), h _ _ _ q⟩
    | shr e a q => exact ⟨_, _, rfl, .inl (.inl e), h _ _ _ q⟩
    | con c q => exact ⟨_, _, rfl, c.sq, h _ _ _ q⟩
end
end
section
variable {X : Cx} {G : Gm} {kp : List Bool} {e a b c : Expr} {rest : List Expr} {pos p1 p2 : Pos} {we : WE} {wa wb : WB}
/-! #### sum -/
def sumF (d : D) (Q : D → D → Prop) : Prop := match d with
  | .lst _ xs => ∃ ns, ints? xs = some ns ∧ Q (.int ns.sum) d
  | .tup xs => ∃ ns, ints? xs = some ns ∧ Q (.int ns.sum) d
  | _ => False
/-! #### max, min -/
def maxF (d : D) (Q : D → D → Prop) : Prop := match d with
  | .lst _ xs => ∃ ns, ints? xs = some ns ∧ 0 < ns.length ∧ ∀ m, m ∈ ns → (∀ y, y ∈ ns → y ≤ m) → Q (.int m) d
  | _ => False
def minF (d : D) (Q : D → D → Prop) : Prop := match d with
  | .lst _ xs => ∃ ns, ints? xs = some ns ∧ 0 < ns.length ∧ ∀ m, m ∈ ns → (∀ y, y ∈ ns → m ≤ y) → Q (.int m) d
  | _ => False
def max2F (d e : D) (Q : D → D → D → Prop) : Prop := match d, e with
  | .int i, .int j => Q (.int (max i j)) d e
  | _, _ => False
def min2F (d e : D) (Q : D → D → D → Prop) : Prop := match d, e with
  | .int i, .int j => Q (.int (min i j)) d e
  | _, _ => False
theorem max_ite (i j : Int) : max i j = if j > i then j else i := by simp only [Int.max_def]; split <;> split <;> omega
theorem min_ite (i j : Int) : min i j = if j < i then j else i := by simp only [Int.min_def]; split <;> split <;> omega
theorem max2D_ok : CallD X G kp (fun xs H Q => ∃ i j, xs = [.int i, .int j] ∧ Q (.int (if j > i then j else i)) H) (c2 max2F) := by
  refine c2_ok (fun d e P P' hp q => ?_) fun σ ρ vs ds u w d e H Q W q => ?_
  · cases d <;> cases e <;> first | exact q.elim | exact hp _ _ _ q
  · cases d <;> cases e <;> first | exact q.elim | skip
    obtain ⟨rfl, rfl⟩ := W.two
    exact ⟨_, _, rfl, q _ H (by rw [max_ite]; exact W.int)⟩
theorem min2D_ok : CallD X G kp (fun xs H Q => ∃ i j, xs = [.int i, .int j] ∧ Q (.int (if j < i then j else i)) H) (c2 min2F) := by
  refine c2_ok (fun d e P P' hp q => ?_) fun σ ρ vs ds u w d e H Q W q => ?_
  · cases d <;> cases e <;> first | exact q.elim | exact hp _ _ _ q
  · cases d <;> cases e <;> first | exact q.elim | skip
    obtain ⟨rfl, rfl⟩ := W.two
    exact ⟨_, _, rfl, q _ H (by rw [min_ite]; exact W.int)⟩
/-! #### abs, divmod -/
def absF (d : D) (Q : D → D → Prop) : Prop := match d with
  | .int i => Q (.int (if i < 0 then -i else i)) d
  | _ => False
theorem absD_ok : CallD X G kp (fun xs H Q => ∃ i, xs = [.int i] ∧ Q (.int (if i < 0 then -i else i)) H) (c1 absF) := by
  refine c1_ok (fun d P P' hp q => ?_) fun σ ρ vs ds u d H Q W q => ?_
  · cases d <;> first | exact q.elim | exact hp _ _ q
  · cases d <;> first | exact q.elim | skip
    have e := W.isInt
    subst e
    exact ⟨_, rfl, q _ H W.int⟩
/-- divmod where C does it by itself -/
def CDivB (j : Int) : Prop := 0 < j ∧ j.natAbs.log2 < 9000
theorem CDivB.p {i j : Int} (h : CDivB j) : CDivP i j := ⟨h.1, PyProof.noPylong_of_log2 h.2⟩
def divF (d e : D) (Q : D → D → D → Prop) : Prop := match d, e with
  | .int i, .int j => CDivB j ∧ Q (.tup [.int (i / j), .int (i % j)]) d e
  | _, _ => False
theorem divD_ok : CallD X G kp (fun xs H Q => ∃ i j, xs = [.int i, .int j] ∧ CDivP i j ∧ ∀ p o, H p = none → o.dict = none → Q (.ref p) (upd H p (.frz o (.tup [.int (i / j), .int (i % j)])))) (c2 divF) := by
  refine c2_ok (fun d e P P' hp q => ?_) fun σ ρ vs ds u w d e H Q W q => ?_
  · cases d <;> cases e <;> first | exact q.elim | exact ⟨q.1, hp _ _ _ q.2⟩
  · cases d <;> cases e <;> first | exact q.elim | skip
    obtain ⟨rfl, rfl⟩ := W.two
    refine ⟨_, _, rfl, q.1.p, fun p o hp ho => q.2 _ _ ?_⟩
    rename_i i j
    exact World.newTup (us := [.int (i / j), .int (i % j)]) (es := [.int (i / j), .int (i % j)]) (W.int.int) rfl hp ho
/-! #### list(..), tuple(..) -/
def listF (d : D) (Q : D → D → Prop) : Prop := match d with
  | .lst m xs => Q (.lst .own (frzs xs)) (.lst m (frzs xs))
  | .tup xs => Q (.lst .own (frzs xs)) (.tup (frzs xs))
  | _ => False
def tupF (d : D) (Q : D → D → Prop) : Prop := match d with
  | .lst m xs => Q (.tup (frzs xs)) (.lst m (frzs xs))
  | .tup xs => Q (.tup (frzs xs)) (.tup (frzs xs))
  | _ => False
theorem tupD_ok : CallD X G kp (fun xs H Q => ∃ p ys, xs = [.ref p] ∧ ((SqL X.K H p ys ∧ ∀ l o, H l = none → o.dict = none → Q (.ref l) (upd H l (.frz o (.tup ys)))) ∨ (SqT X.K H p ys ∧ Q (.ref p) H))) (c1 tupF) := by
  refine c1_ok (fun d P P' hp q => ?_) fun σ ρ vs ds u d H Q W q => ?_
  · cases d <;> first | exact q.elim | exact hp _ _ q
  · cases d <;> first | exact q.elim | skip
    · rename_i es
      have W1 : World X.K G kp σ ρ (u :: vs) (.tup (frzs es) :: ds) H := W.frzKids
      obtain ⟨a, us, rfl, t, l, mk⟩ := W1.tupW (frzs_solid es)
      refine ⟨a, us, rfl, .inr ⟨t.sq, q _ H (mk _ _ (fun F A rk r => ?_) (by have := W.lv; simp at this ⊢; omega))⟩⟩
      exact r.push (.tup t rk)
    · rename_i m es
      have W1 : World X.K G kp σ ρ (u :: vs) (.lst m (frzs es) :: ds) H := W.frzKids
      obtain ⟨a, us, rfl, t, l, _, W2⟩ := W1.isLst
      exact ⟨a, us, rfl, .inl ⟨t, fun p o hp ho => q _ _ ((W2 (.inl (frzs_solid es))).newTup l hp ho)⟩⟩
/-! #### sorted -/
def leD (x y : D) : Bool := PySem.W.dataLe false D.py x y
def alikeD (xs : List D) : Prop := PySem.W.AllAlike (xs.map D.py)
def sortableD (xs : List D) : Prop := PySem.W.Sortable (xs.map D.py)
def Okd (xs : List D) : Prop := ∀ d, d ∈ xs → d.py.canLay0 = true ∧ d.py.depth ≤ 60
def sortF (d : D) (Q : D → D → Prop) : Prop := match d with
  | .lst m xs => alikeD xs ∧ sortableD xs ∧ Okd xs ∧ Q (.lst .own ((frzs xs).mergeSort leD)) (.lst m (frzs xs))
  | .dct m ks es => ∃ is : List Int, (ks = is.map fun i => DK.k (.inl i)) ∧ Q (.lst .own ((is.map D.int).mergeSort leD)) (.dct m ks es)
  | _ => False
mutual
theorem py_frz : ∀ d : D, d.frz.py = d.py
  | .tup ds => by rw [D.frz, D.py, D.py, pys_frz ds]
  | .lst .own ds => by rw [D.frz, D.py, D.py, pys_frz ds]
  | .lst .shr ds => rfl
  | .lst .con ds => rfl
  | .dct .own _ ds => by rw [D.frz, D.py, D.py, pys_frz ds]
  | .dct .shr _ _ => rfl
  | .dct .con _ _ => rfl
  | .ndc .own _ _ _ => by rw [D.frz, D.py, D.py] <;> simp
  | .ndc .shr _ _ _ => rfl
  | .ndc .con _ _ _ => rfl
  | .ldc _ _ _ => by rw [D.frz, D.py, D.py] <;> simp
  | .gone => rfl
  | .non => rfl
  | .bl _ => rfl
  | .int _ => rfl
  | .str _ => rfl
  | .opq _ => rfl
  | .ext _ => rfl
  | .ins _ _ _ _ => by rw [D.frz, D.py, D.py] <;> simp
theorem pys_frz : ∀ ds : List D, pys (frzs ds) = pys ds
  | [] => rfl
  | d :: r => by rw [frzs, pys, pys, py_frz d, pys_frz r]
end
theorem map_py_frzs (xs : List D) : (frzs xs).map D.py = xs.map D.py := by rw [← pys_map, pys_frz, pys_map]
theorem Reps.mems {K : PySem.W.Frag} {H : Hp} {F : AS} : ∀ {us : List V} {es : List D}, Reps K H F us es M0 → ∃ l : List (V × D), l.map (·.1) = us ∧ l.map (·.2) = es ∧ ∀ p, p ∈ l → Rep K H F p.1 p.2 M0
  | _, _, .nil => ⟨[], rfl, rfl, fun _ h => by cases h⟩
  | _, _, .cons (v := v) (d := d) a b i j k => by
    obtain ⟨l, h1, h2, h3⟩ := Reps.mems (b.mono j)
    exact ⟨(v, d) :: l, by simp [h1], by simp [h2], fun p hp => by
      rcases List.mem_cons.mp hp with rfl | hp
      · exact a.mono i
      · exact h3 p hp⟩
theorem Reps.of_mems {K : PySem.W.Frag} {H : Hp} {F : AS} : ∀ (l : List (V × D)), (∀ p, p ∈ l → Rep K H F p.1 p.2 M0) → Reps K H F (l.map (·.1)) (l.map (·.2)) M0
  | [], _ => .nil
  | p :: l, h => .cons (B := M0) (C := M0) (h p (by simp)) (Reps.of_mems l fun q hq => h q (by simp [hq])) (fun _ h => h) (fun _ h => h) fun _ h => h.elim
/-- sorted(xs), by values: V beside D -/
def rSortD (K : PySem.W.Frag) : List V → Hp → VK → Prop := fun vs H Q => ∃ (a : Addr) (l : List (V × D)), vs = [V.ref a] ∧ SqL K H a (l.map (·.1)) ∧ (∀ p, p ∈ l → Dp K H p.1 p.2.py ∧ p.2.py.depth ≤ 60) ∧ alikeD (l.map (·.2)) ∧ sortableD (l.map (·.2)) ∧
  ∀ p, H p = none → Q (.ref p) (upd H p (.lst ((l.mergeSort fun x y => leD x.2 y.2).map (·.1))))
theorem eachIs_vals : ∀ {l : List (V × D)} {out : List Value}, PySem.W.EachIs (fun (v : Value) (b : V × D) => RelV b.1 v) out l → Vals (l.map (·.1)) out
  | _, _, .nil => .nil
  | _, _, .cons r t => .cons r (eachIs_vals t)
theorem vals_eachIs : ∀ {l : List (V × D)} {us : List Value}, Vals (l.map (·.1)) us → PySem.W.EachIs (fun (v : Value) (b : V × D) => RelV b.1 v) us l
  | [], _, r => by cases r; exact .nil
  | _ :: _, _, r => by cases r with | cons a b => exact .cons a (vals_eachIs b)
theorem call_sortD (hu : X.A.units + 64 < cLine) : CallR X (.builtin "sorted") (rSortD X.K) := by
  intro pins s σ H vs us Q I r h
  obtain ⟨a, l, rfl, hs, hd, hal, hso, q⟩ := h
  obtain ⟨its, rv, hl, hz⟩ := I.list hs
  rw [Vals.ref1 r]
  have e1 := vals_eachIs rv
  have er : PySem.W.EachIs (fun (v : Value) (b : V × D) => ∃ as, Reads s.heap v b.2.py as) its l := by
    refine PySem.W.EachIs.of_zip e1.length fun p hp => ?_
    have h1 := e1.zip p hp
    exact Dp.reads I p.2.2.py p.2.1 p.1 (hd p.2 (List.of_mem_zip hp).2).1 h1
  have e2 : l.map (fun b : V × D => b.2.py) = (l.map (·.2)).map D.py := by rw [List.map_map]; rfl
  refine PySem.W.sorted_data (enc := fun b : V × D => b.2.py) hl.isList e1 er (by rw [e2]; exact hal) (by rw [e2]; exact hso) (by have := rv.length; rw [List.length_map] at this hz; exact hz) (fun b hb => by have := (hd b hb).2; omega) fun out ho eo => ?_
  obtain ⟨c, hc⟩ := PyProof.Rows.sortedAll_at s.heap its out.toArray
  have I1 : Inv X pins σ (upd H (s.heap.objs.size + 1) (.lst ((l.mergeSort fun x y => leD x.2 y.2).map (·.1)))) { s with heap := PyProof.Rows.sortedAll s.heap its (List.toArray out) } := by
    refine I.laid (t' := s.toks) (fun b o e => PyProof.Rows.sortedAll_old e) (Nat.le_succ _) ⟨?_, out, c, eachIs_vals eo, hc⟩
    rw [List.length_map, List.length_mergeSort]
    rw [List.length_map] at hz
    exact hz
  exact ⟨.ref (s.heap.objs.size + 1), _, I1, rfl, q _ (I.hok.fresh (Nat.le_succ _))⟩
/-- sorted(d), d a dict of ints -/
def rSortK : List V → Hp → VK → Prop := fun vs H Q => ∃ (a : Addr) (kvs : List (Key × V)) (is : List Int), vs = [V.ref a] ∧ H a = some (.dK kvs) ∧ kvs.map (·.1) = is.map Sum.inl ∧
  ∀ p, H p = none → Q (.ref p) (upd H p (.lst ((is.mergeSort (PySem.W.dataLe false PyData.int)).map V.int)))
theorem each_ints : ∀ {is : List Int} {us : List Value}, PySem.W.EachIs (fun (v : Value) (i : Int) => ∃ t, v = .int i t) us is → Vals (is.map V.int) us
  | _, _, .nil => .nil
  | _, _, .cons ⟨t, e⟩ r => .cons ⟨t, e⟩ (each_ints r)
theorem ints_each_ : ∀ {is : List Int} {us : List Value}, IntsAre us is → PySem.W.EachIs (fun (v : Value) (i : Int) => ∃ t, v = .int i t) us is
  | _, _, .nil => .nil
  | _, _, .cons _ _ r => .cons ⟨_, rfl⟩ (ints_each_ r)
theorem call_sortK (hc : X.calm = true) (hu : X.A.units + 64 < cLine) : CallR X (.builtin "sorted") rSortK := by
  intro pins s σ H vs us Q I r h
  obtain ⟨a, kvs, is, rfl, hd, hks, q⟩ := h
  rw [Vals.ref1 r]
  obtain ⟨z, lo, ws, rel, dd⟩ := dk_of I.hok hd
  obtain ⟨ep, hat⟩ := dd.dictAt
  have keys : ws.map (·.1) = is.map Sum.inl := rel.keys.symm.trans hks
  have len : ws.length = is.length := by have := congrArg List.length keys; simpa using this
  have lz : is.length ≤ sizeLine := by rw [← len, ← rel.length]; exact z
  refine Calls.call_function_entry kind_sorted plain_sorted entry_sorted (args_sorted1 _) ?_
  unfold Builtin.«sorted»
  refine wpAny_bind (m := checkCount "sorted" 1 1 _) (wpAny_pure (wpAny_bind (PySem.W.kdu_collect (A := X.A.in1) (PySem.W.kdl_dict (knd := mixKind X.prog X.w) (kvs := ws) (ep := ep) lo) (I.ok.hd hc) hat (by rw [len]; exact lz) fun h' tk acc hk hacc => ?_)))
  have la : acc.toList.length = is.length := by rw [Array.length_toList, hacc.1, len]
  have ia : IntsAre acc.toList is := ints_each la fun j v e => by
    obtain ⟨k, x, e1, e2⟩ := hacc.2 j v (by rw [← Array.getElem?_toList]; exact e)
    have e3 : (ws.map (·.1))[j]? = some k := by rw [List.getElem?_map, e1]; rfl
    rw [keys, List.getElem?_map] at e3
    obtain ⟨y, e4, e5⟩ := Option.map_eq_some_iff.mp e3
    subst e5
    rcases keyIs_shape (show keyIs (Sum.inl y) v = true from e2) with ⟨i, t, ek, ev⟩ | ⟨z, t, ek, ev⟩
    · cases ek; exact ⟨y, t, e4, ev⟩
    · cases ek
  have I1 : Inv X pins σ H { s with heap := h', toks := tk } := I.kept hk
  refine wpAny_bind (wpAny_newList ?_ (by rw [la]; exact lz))
  have at_ : (h'.push (seqObj "list" acc.toList.toArray 0)).get? h'.objs.size = some (seqObj "list" acc.toList.toArray 0) := Heap.get?_push_size _ rfl
  have ee := ints_each_ ia
  refine wpAny_bind (wpAny_holding (PySem.W.list_sort_data (A := X.A.in1) (s := { s with heap := h'.push (seqObj "list" acc.toList.toArray 0), toks := tk }) (enc := PyData.int) at_ ee (ee.mono fun v i ⟨t, e⟩ => ⟨[], by rw [e]; exact .int _ _, by simp⟩) (PySem.W.AllAlike.of fun _ _ => rfl) (PySem.W.Sortable.others fun i => ⟨by simp, by simp⟩) lz (fun b _ => by show X.A.units + 1 + 1 + 0 < _; omega) fun out ol eo => wpAny_pure ⟨_, rfl, ?_⟩))
  obtain ⟨c, hc'⟩ := PyProof.Rows.sortedHeap_at at_ (out := out.toArray)
  have I2 : Inv X pins σ (upd H h'.objs.size (.lst ((is.mergeSort (PySem.W.dataLe false PyData.int)).map V.int))) { s with heap := PyProof.Rows.sortedHeap (h'.push (seqObj "list" acc.toList.toArray 0)) h'.objs.size acc.toList out.toArray, toks := tk } := by
    refine I1.laid (t' := tk) (fun b o e => (PyProof.Rows.sortedHeap_old (Nat.ne_of_lt (Heap.lt_size e)) (Heap.lt_size (Heap.get?_push_of_some _ e))).trans (Heap.get?_push_of_some _ e)) (Nat.le_refl _) ⟨?_, out, c, each_ints eo, hc'⟩
    rw [List.length_map, List.length_mergeSort]
    exact lz
  exact ⟨.ref h'.objs.size, _, I2, rfl, q _ (I1.hok.fresh (Nat.le_refl _))⟩
abbrev rSortA (K : PySem.W.Frag) : List V → Hp → VK → Prop := fun xs H Q => rSortD K xs H Q ∨ rSortK xs H Q
theorem CallR.or_ {f : Value} {r r' : List V → Hp → VK → Prop} (h : CallR X f r) (h' : CallR X f r') : CallR X f fun xs H Q => r xs H Q ∨ r' xs H Q := fun pins s σ H xs us Q I rx q =>
  q.elim (h pins s σ H xs us Q I rx) (h' pins s σ H xs us Q I rx)
theorem call_sortA (hc : X.calm = true) (hu : X.A.units + 64 < cLine) : CallR X (.builtin "sorted") (rSortA X.K) := CallR.or_ (call_sortD hu) (call_sortK hc hu)
theorem World.reInts {σ : Sl} {ρ : List D} {vs : List V} {ds : List D} {H : Hp} (W : World X.K G kp σ ρ vs ds H) : ∀ ns : List Int, World X.K G kp σ ρ (ns.map V.int ++ vs) (ns.map D.int ++ ds) H
  | [] => W
  | n :: ns => (World.reInts W ns).int
theorem sortD_ok : CallD X G kp (rSortA X.K) (c1 sortF) := by
  refine c1_ok (fun d P P' hp q => ?_) fun σ ρ vs ds u d H Q W q => ?_
  · cases d <;> first | exact q.elim | exact ⟨q.1, q.2.1, q.2.2.1, hp _ _ q.2.2.2⟩ | exact ⟨q.choose, q.choose_spec.1, hp _ _ q.choose_spec.2⟩
  · cases d <;> first | exact q.elim | skip
    rotate_left
    · rename_i m ks es
      obtain ⟨is, hk, q⟩ := q
      obtain ⟨a, kvs, e1, e2, e3, _, _⟩ := W.isDct (by rw [hk]; simp [DK.isK])
      have e4 : kvs.map (·.1) = is.map Sum.inl := by
        rw [hk, kks] at e3
        have e5 := congrArg (List.map fun (x : DK) => match x with | .k k => k | .n _ => Sum.inl 0) e3
        rw [List.map_map, List.map_map] at e5
        exact e5
      have es2 : (is.map D.int).mergeSort leD = (is.mergeSort (PySem.W.dataLe false PyData.int)).map D.int := (PySem.W.sort_maps D.int fun _ _ _ _ => rfl).symm
      refine .inr ⟨a, kvs, is, by rw [e1], e2, e4, fun p hp => q _ _ ?_⟩
      rw [es2]
      exact World.newLst (us := (is.mergeSort (PySem.W.dataLe false PyData.int)).map V.int) (W.reInts _) (by simp) hp
    refine .inl ?_
    rename_i m es
    obtain ⟨hal, hso, hok, q⟩ := q
    have W1 : World X.K G kp σ ρ (u :: vs) (.lst m (frzs es) :: ds) H := W.frzKids
    obtain ⟨a, us, rfl, t, _, ln, ⟨F0, r0⟩, mk⟩ := W1.lstX (frzs_solid es)
    obtain ⟨l, h1, h2⟩ : ∃ l : List (V × D), l.map (·.1) = us ∧ l.map (·.2) = frzs es := ⟨us.zip (frzs es), by rw [List.map_fst_zip]; omega, by rw [List.map_snd_zip]; omega⟩
    have key : ∀ F, Reps X.K H F us (frzs es) M0 → ∀ p, p ∈ l → Rep X.K H F p.1 p.2 M0 := fun F rk => by
      obtain ⟨l', g1, g2, g3⟩ := rk.mems
      have zz : ∀ z : List (V × D), (z.map (·.1)).zip (z.map (·.2)) = z := fun z => by
        induction z with
        | nil => rfl
        | cons p z ih => simp [ih]
      have e : l = l' := by rw [← zz l, ← zz l', h1, h2, g1, g2]
      rw [e]; exact g3
    have hmem : ∀ p, p ∈ l → p.2.py.canLay0 = true ∧ p.2.py.depth ≤ 60 := fun p hp => by
      have : p.2 ∈ frzs es := by rw [← h2]; exact List.mem_map.mpr ⟨p, hp, rfl⟩
      rw [frzs_eq_map] at this
      obtain ⟨d0, hd0, e0⟩ := List.mem_map.mp this
      rw [← e0, py_frz]
      exact hok d0 hd0
    refine ⟨a, l, rfl, by rw [h1]; exact t, fun p hp => ⟨(key F0 r0 p hp).dp (hmem p hp).1, (hmem p hp).2⟩, by rw [h2]; unfold alikeD; rw [map_py_frzs]; exact hal, by rw [h2]; unfold sortableD; rw [map_py_frzs]; exact hso, fun p hp => q _ _ ?_⟩
    have em : (l.mergeSort fun x y => leD x.2 y.2).map (·.2) = (frzs es).mergeSort leD := by
      rw [← h2]
      exact PySem.W.sort_maps (fun p : V × D => p.2) fun _ _ _ _ => rfl
    refine World.newLst (us := (l.mergeSort fun x y => leD x.2 y.2).map (·.1)) (es := (frzs es).mergeSort leD) (mk _ _ (fun F A rk r => ?_) ?_) (by rw [← em, List.length_map, List.length_map]) hp
    · rw [List.append_assoc, List.append_assoc]
      have rr := Reps.of_mems (l.mergeSort fun x y => leD x.2 y.2) fun p hp => key F rk p (List.mem_mergeSort.mp hp)
      rw [em] at rr
      exact (rr.join r fun _ h => h.elim).mono fun x h => h.elim (fun z => z.elim) id
    · have := W.lv
      have e3 : ((l.mergeSort fun x y => leD x.2 y.2).map (·.1)).length = ((frzs es).mergeSort leD).length := by rw [← em, List.length_map, List.length_map]
      rw [List.length_append, List.length_append, e3]
      simp at this ⊢; omega
end
structure DEnds where
  nx : List D → Prop
  rt : D → List D → Prop
  bk : List D → Prop := fun _ => False
  ct : List D → Prop := fun _ => False
abbrev WS := DEnds → List D → Prop
structure DEnds.le (A B : DEnds) : Prop where
  nx : ∀ ρ, A.nx ρ → B.nx ρ
  rt : ∀ d ρ, A.rt d ρ → B.rt d ρ
  bk : ∀ ρ, A.bk ρ → B.bk ρ
  ct : ∀ ρ, A.ct ρ → B.ct ρ
def liftE (K : PySem.W.Frag) (G : Gm) (kp : List Bool) (vs : List V) (ds : List D) (E : Ends) : DEnds where
  nx := fun ρ' => ∀ σ' H', World K G kp σ' ρ' vs ds H' → E.nx σ' H'
  rt := fun d ρ' => ∀ v σ' H', World K G kp σ' ρ' (v :: vs) (d :: ds) H' → E.rt v H'
  bk := fun ρ' => ∀ σ' H', World K G kp σ' ρ' vs ds H' → E.bk σ' H'
  ct := fun ρ' => ∀ σ' H', World K G kp σ' ρ' vs ds H' → E.ct σ' H'
def tDS (K : PySem.W.Frag) (G : Gm) (kp : List Bool) (w : WS) : TS := fun E σ H => ∃ ρ vs ds, World K G kp σ ρ vs ds H ∧ w (liftE K G kp vs ds E) ρ
structure DS (X : Cx) (G : Gm) (kp : List Bool) (st : Stmt) (w : WS) : Prop where
  mono : ∀ A B ρ, DEnds.le A B → w A ρ → w B ρ
  run : PS X st (tDS X.K G kp w)
structure DSs (X : Cx) (G : Gm) (kp : List Bool) (st : List Stmt) (w : WS) : Prop where
  mono : ∀ A B ρ, DEnds.le A B → w A ρ → w B ρ
  run : PSs X st (tDS X.K G kp w)
abbrev WG := D → List D → (List D → Prop) → Prop
abbrev WGs := List D → List D → (List D → Prop) → Prop
def tDG (K : PySem.W.Frag) (G : Gm) (kp : List Bool) (g : WG) : TG := fun v σ H Q => ∃ ρ vs d ds, World K G kp σ ρ (v :: vs) (d :: ds) H ∧ g d ρ fun ρ' => ∀ σ' H', World K G kp σ' ρ' vs ds H' → Q σ' H'
def tDGs (K : PySem.W.Frag) (G : Gm) (kp : List Bool) (g : WGs) : TGs := fun us σ H Q => ∃ ρ vs es ds, us.length = es.length ∧ World K G kp σ ρ (us ++ vs) (es ++ ds) H ∧ g es ρ fun ρ' => ∀ σ' H', World K G kp σ' ρ' vs ds H' → Q σ' H'
structure DG (X : Cx) (G : Gm) (kp : List Bool) (e : Expr) (g : WG) : Prop where
  mono : ∀ d ρ P P', (∀ r, P r → P' r) → g d ρ P → g d ρ P'
  run : PG X e (tDG X.K G kp g)
structure DGs (X : Cx) (G : Gm) (kp : List Bool) (e : List Expr) (g : WGs) : Prop where
  mono : ∀ d ρ P P', (∀ r, P r → P' r) → g d ρ P → g d ρ P'
  run : PGs X e (tDGs X.K G kp g)
theorem pg_imp {X : Cx} {e : Expr} {t t' : TG} (h : PG X e t) (i : ∀ v σ H Q, t' v σ H Q → t v σ H Q) : PG X e t' := ⟨fun pins s σ H v u Q I r q => h.run pins s σ H v u Q I r (i v σ H Q q)⟩
theorem pgs_imp {X : Cx} {e : List Expr} {t t' : TGs} (h : PGs X e t) (i : ∀ v σ H Q, t' v σ H Q → t v σ H Q) : PGs X e t' := ⟨fun pins s σ H v u Q I r q => h.run pins s σ H v u Q I r (i v σ H Q q)⟩
section
variable {X : Cx} {G : Gm} {kp : List Bool} {e a b c : Expr} {st : Stmt} {sts body : List Stmt} {pos p1 p2 : Pos} {we : WE} {wa wb : WB} {ws wr : WS} {wt : WT}
/-! ### targets -/
def gN (i : Nat) : WG := fun d ρ Q => Q (ρ.set i d)
theorem dg_name {i : Nat} {x : Str} (hN : X.N.Nodup) (hi : X.N[i]? = some x) (hx : Loc X.env.scope x) (hk : kp.getD i false = false := by rfl) (hf : X.fn x = true ∨ X.env.scope.names.lookup x = some .local := by first | exact .inl rfl | exact .inr rfl | assumption) : DG X G kp (.Name x pos) (gN i) :=
  ⟨fun d ρ P P' hp q => hp _ q, pg_imp (pg_name hN hi hx hf) fun v σ H Q ⟨ρ, vs, d, ds, W, q⟩ => q _ H (W.store hk)⟩
def gsN : WGs := fun es ρ Q => es = [] ∧ Q ρ
def gsC (g : WG) (r : WGs) : WGs := fun es ρ Q => match es with
  | d :: es => g d ρ fun ρ1 => r es ρ1 Q
  | [] => False
theorem dgs_nil : DGs X G kp [] gsN := ⟨fun d ρ P P' hp q => ⟨q.1, hp _ q.2⟩, pgs_imp pgs_nil fun us σ H Q ⟨ρ, vs, es, ds, l, W, e, q⟩ => by
  subst e
  have e : us = [] := List.eq_nil_of_length_eq_zero l
  subst e
  exact ⟨rfl, q _ H W⟩⟩
theorem dgs_cons {es : List Expr} {g : WG} {r : WGs} (h1 : DG X G kp e g) (h2 : DGs X G kp es r) (hs : (assignEach (e :: es) X.env).map (·.2) = assign e X.env :: (assignEach es X.env).map (·.2) := by rfl) : DGs X G kp (e :: es) (gsC g r) :=
  ⟨fun d ρ P P' hp q => by
    cases d with
    | nil => exact q.elim
    | cons d es => exact h1.mono _ _ _ _ (fun r z => h2.mono _ _ _ _ hp z) q, pgs_imp (pgs_cons h1.run h2.run hs) fun us σ H Q ⟨ρ, vs, es, ds, l, W, q⟩ => by
    cases es with
    | nil => exact q.elim
    | cons d es =>
      cases us with
      | nil => simp at l
      | cons u us => exact ⟨u, us, rfl, ρ, us ++ vs, d, es ++ ds, W, h1.mono _ _ _ _ (fun ρ1 z σ1 H1 W1 => ⟨ρ1, vs, es, ds, by simpa using l, W1, z⟩) q⟩⟩
def gT (g : WGs) : WG := fun d ρ Q => match d with
  | .tup es => g es ρ Q
  | _ => False
theorem dg_tup {es : List Expr} {k : Nat} {g : WGs} (hc : X.calm = true) (h : DGs X G kp es g) (hl : ∀ ds ρ P, g ds ρ P → ds.length = es.length) (hn : (assignEach es X.env).length = es.length := by rfl) (hst : (assignEach es X.env).findIdx? (·.1) = none := by rfl) : DG X G kp (.Tuple es k pos) (gT g) :=
  ⟨fun d ρ P P' hp q => by
    cases d <;> first | exact q.elim | exact h.mono _ _ _ _ hp q, pg_imp (pg_tup (n := es.length) hc h.run hn hst) fun v σ H Q ⟨ρ, vs, d, ds, W, q⟩ => by
    cases d <;> first | exact q.elim | skip
    obtain ⟨a, us, rfl, t, l, W'⟩ := W.untup
    exact ⟨a, us, rfl, t.sq, by rw [l]; exact hl _ _ _ q, ρ, vs, _, ds, l, W', q⟩⟩
/-! ### blocks, small statements -/
def wsN : WS := fun E ρ => E.nx ρ
def wsS (w r : WS) : WS := fun E ρ => w { E with nx := r E } ρ
theorem dss_nil : DSs X G kp [] wsN := ⟨fun A B ρ h q => h.nx _ q, pss_imp pss_nil fun E σ H ⟨ρ, vs, ds, W, q⟩ => q _ H W⟩
theorem dss_cons (h1 : DS X G kp st ws) (h2 : DSs X G kp sts wr) : DSs X G kp (st :: sts) (wsS ws wr) :=
  ⟨fun A B ρ h q => h1.mono { A with nx := wr A } { B with nx := wr B } ρ ⟨fun r z => h2.mono _ _ _ h z, h.rt, h.bk, h.ct⟩ q, pss_imp (pss_cons h1.run h2.run) fun E σ H ⟨ρ, vs, ds, W, q⟩ => ⟨ρ, vs, ds, W, h1.mono { liftE X.K G kp vs ds E with nx := wr (liftE X.K G kp vs ds E) } _ _ ⟨fun r z σ' H' W' => ⟨r, vs, ds, W', z⟩, fun _ _ z => z, fun _ z => z, fun _ z => z⟩ q⟩⟩
theorem dss_one (h1 : DS X G kp st ws) : DSs X G kp [st] ws := ⟨h1.mono, pss_one h1.run⟩
theorem dss_never {sts : List Stmt} : DSs X G kp sts (fun _ _ => False) := ⟨fun _ _ _ _ q => q.elim, ⟨fun _ _ _ _ _ _ q => by obtain ⟨_, _, _, _, q⟩ := q; exact q.elim⟩⟩
def wsBk : WS := fun E ρ => E.bk ρ
def wsCt : WS := fun E ρ => E.ct ρ
def wsX (w : WE) : WS := fun E ρ => w ρ fun _ r => E.nx r
theorem ds_expr (h : DE X G kp e we) (hs : swapsWith e none pos.line X.env = pure false := by rfl) : DS X G kp (.Expr e pos) (wsX we) :=
  ⟨fun A B ρ hl q => h.mono _ _ _ (fun d r z => hl.nx _ z) q, ps_imp (ps_expr h.run hs) fun E σ H ⟨ρ, vs, ds, W, q⟩ => ⟨ρ, vs, ds, W, h.mono _ _ _ (fun d r z v H' W' => z _ H' W'.drop) q⟩⟩
def wsR (w : WE) : WS := fun E ρ => w ρ fun d r => E.rt d r
theorem ds_ret (h : DE X G kp e we) : DS X G kp (.Return (some e) pos) (wsR we) :=
  ⟨fun A B ρ hl q => h.mono _ _ _ (fun d r z => hl.rt _ _ z) q, ps_imp (ps_ret h.run) fun E σ H ⟨ρ, vs, ds, W, q⟩ => ⟨ρ, vs, ds, W, h.mono _ _ _ (fun d r z v H' W' => z v _ H' W') q⟩⟩
def wsRN : WS := fun E ρ => E.rt .non ρ
def wsA (w : WE) (g : WG) : WS := fun E ρ => w ρ fun d r => g d r fun r2 => E.nx r2
/-- name = value -/
theorem ds_set {i : Nat} {x : Str} {pos' : Pos} (hN : X.N.Nodup) (hi : X.N[i]? = some x) (hx : Loc X.env.scope x) (h : DE X G kp e we) (hk : kp.getD i false = false := by rfl) (hs : swapsWith e (some (.Name x pos')) pos.line X.env = pure false := by rfl) (hf : X.fn x = true ∨ X.env.scope.names.lookup x = some .local := by first | exact .inl rfl | exact .inr rfl | assumption) :
    DS X G kp (.Assign [.Name x pos'] e pos) (wsA we (gN i)) :=
  ⟨fun A B ρ hl q => h.mono _ _ _ (fun d r z => hl.nx _ z) q, ps_imp (ps_set hN hi hx h.run hs hf) fun E σ H ⟨ρ, vs, ds, W, q⟩ => ⟨ρ, vs, ds, W, h.mono _ _ _ (fun d r z v H' W' => z _ H' (W'.store hk)) q⟩⟩
theorem ds_asg {tg : Expr} {g : WG} (h : DE X G kp e we) (hg : DG X G kp tg g) (hs : swapsWithSole [tg] e pos.line X.env = pure false := by rfl) (hw : swappedStores [tg] e X.env = pure none := by rfl)
    (h1 : (assignEach [tg] X.env).map (·.2) = [assign tg X.env] := by rfl) : DS X G kp (.Assign [tg] e pos) (wsA we g) :=
  ⟨fun A B ρ hl q => h.mono _ _ _ (fun d r z => hg.mono _ _ _ _ (fun r z => hl.nx _ z) z) q, ps_imp (ps_asg h.run hg.run hs hw h1) fun E σ H ⟨ρ, vs, ds, W, q⟩ => ⟨ρ, vs, ds, W, h.mono _ _ _ (fun d r z v H' W' => ⟨r, vs, d, ds, W', hg.mono _ _ _ _ (fun r2 z σ2 H2 W2 => z σ2 H2 W2) z⟩) q⟩⟩
/-- a, b = x, y with plain local names -/
def wsP (i j : Nat) (w : WA) : WS := fun E ρ => w ρ fun es r => match es with
  | [d, f] => E.nx ((r.set i d).set j f)
  | _ => False
theorem ds_par {i j : Nat} {x y : Str} {px py pt : Pos} {kt k2 pt2} {w : WA} (hc : X.calm = true) (hN : X.N.Nodup) (hi : X.N[i]? = some x) (hj : X.N[j]? = some y) (hij : i ≠ j) (hx : X.env.scope.names.lookup x = some .local) (hy : X.env.scope.names.lookup y = some .local) (ha : DA X G kp [a, b] w)
    (hw : swappedStores [.Tuple [.Name x px, .Name y py] kt pt] (.Tuple [a, b] k2 pt2) X.env = pure (some [x, y])) (hk : kp.getD i false = false := by rfl) (hk2 : kp.getD j false = false := by rfl) (hs : swapsWithSole [.Tuple [.Name x px, .Name y py] kt pt] (.Tuple [a, b] k2 pt2) pos.line X.env = pure false := by rfl) :
    DS X G kp (.Assign [.Tuple [.Name x px, .Name y py] kt pt] (.Tuple [a, b] k2 pt2) pos) (wsP i j w) := by
  refine ⟨fun A B ρ hl q => ha.mono _ _ _ (fun es r z => ?_) q, ps_imp (ps_par hc hN hi hj hij hx hy ha.run hw hs) fun E σ H ⟨ρ, vs, ds, W, q⟩ => ⟨ρ, vs, ds, W, ha.mono _ _ _ (fun es r z us H' l W' => ?_) q⟩⟩
  · match es, z with
    | [d, f], z => exact hl.nx _ z
  · match es, us, l, W', z with
    | [d, f], [u, w], _, W', z => exact ⟨u, w, rfl, z _ H' ((W'.store hk).store hk2)⟩
def wsI (wt : WT) (w r : WS) : WS := fun E ρ => wt ρ fun k r1 => if k = true then w E r1 else r E r1
theorem ds_if {b1 b2 : List Stmt} (hc : DT X G kp c wt) (h1 : DSs X G kp b1 ws) (h2 : DSs X G kp b2 wr) : DS X G kp (.If c b1 b2 pos) (wsI wt ws wr) :=
  ⟨fun A B ρ hl q => hc.mono _ _ _ (fun k r z => by cases k with
    | true => exact h1.mono _ _ _ hl z
    | false => exact h2.mono _ _ _ hl z) q, ps_imp (ps_if hc.run h1.run h2.run) fun E σ H ⟨ρ, vs, ds, W, q⟩ => ⟨ρ, vs, ds, W, hc.mono _ _ _ (fun k r z H' W' => by
      cases k with
      | true => exact ⟨r, vs, ds, W', z⟩
      | false => exact ⟨r, vs, ds, W', z⟩) q⟩⟩
/-! ### while -/
def whileN (wt : WT) (wb : WS) (E : DEnds) : Nat → List D → Prop
  | 0 => fun _ => False
  | n + 1 => fun ρ => wt ρ fun k r => if k = true then wb { E with nx := whileN wt wb E n, ct := whileN wt wb E n, bk := E.nx } r else E.nx r
def wsW (wt : WT) (wb : WS) : WS := fun E ρ => ∃ n, whileN wt wb E n ρ
/-! ### what a for or a comprehension walks -/
/-- an item: one value, or a new tuple of values -/
def Shape (K : PySem.W.Frag) (sh : Bool) (H : Hp) (x : V) (xs : List V) : Prop := if sh = true then ∃ a, x = .ref a ∧ SqT K H a xs else xs = [x]
def Yl (K : PySem.W.Frag) (G : Gm) (kp : List Bool) (sh : Bool) (J : It) (us : List V) (ds0 : List D) (items : List (List D)) : Prop :=
  ∀ i σ ρ vs ds H, World K G kp σ ρ (us ++ vs) (ds0 ++ ds) H → (i = items.length → J.stop i H) ∧ ∀ its, items[i]? = some its → J.go i H ∧ ∀ x H', J.yld i H x H' → ∃ xs, xs.length = its.length ∧ Shape K sh H' x xs ∧ World K G kp σ ρ (xs ++ (us ++ vs)) (its ++ (ds0 ++ ds)) H'
/-- items, what is held meanwhile -/
abbrev WI := List D → (List (List D) → List D → List D → Prop) → Prop
def tDI (K : PySem.W.Frag) (G : Gm) (kp : List Bool) (sh : Bool) (w : WI) : TI := fun σ H R => ∃ ρ vs ds, World K G kp σ ρ vs ds H ∧ w ρ fun items ds0 ρ' => ∀ J us H', us.length = ds0.length → World K G kp σ ρ' (us ++ vs) (ds0 ++ ds) H' → (∀ G' kp', Yl K G' kp' sh J us ds0 items) → R J H'
structure DI (X : Cx) (G : Gm) (kp : List Bool) (sh : Bool) (tg iter : Expr) (w : WI) : Prop where
  mono : ∀ ρ P P', (∀ a b c, P a b c → P' a b c) → w ρ P → w ρ P'
  run : PI X tg iter (tDI X.K G kp sh w)
theorem pi_imp {X : Cx} {tg e : Expr} {t t' : TI} (h : PI X tg e t) (i : ∀ σ H Q, t' σ H Q → t σ H Q) : PI X tg e t' := ⟨fun pins s σ H Q I q => h.run pins s σ H Q I (i σ H Q q)⟩
/-- a target for items -/
def tDGI (K : PySem.W.Frag) (G : Gm) (kp : List Bool) (sh : Bool) (g : WGs) : TG := fun x σ H Q => ∃ ρ xs its vs ds, xs.length = its.length ∧ Shape K sh H x xs ∧ World K G kp σ ρ (xs ++ vs) (its ++ ds) H ∧ g its ρ fun ρ' => ∀ σ' H', World K G kp σ' ρ' vs ds H' → Q σ' H'
structure DGI (X : Cx) (G : Gm) (kp : List Bool) (sh : Bool) (tg : Expr) (g : WGs) : Prop where
  mono : ∀ d ρ P P', (∀ r, P r → P' r) → g d ρ P → g d ρ P'
  run : PG X tg (tDGI X.K G kp sh g)
def gi1 (g : WG) : WGs := fun es ρ Q => match es with
  | [d] => g d ρ Q
  | _ => False
theorem dgi_one {g : WG} (h : DG X G kp e g) : DGI X G kp false e (gi1 g) :=
  ⟨fun d ρ P P' hp q => by
    match d, q with
    | [d], q => exact h.mono _ _ _ _ hp q, pg_imp h.run fun x σ H Q ⟨ρ, xs, its, vs, ds, l, s, W, q⟩ => by
    match its, q with
    | [d], q =>
      have e : xs = [x] := s
      subst e
      exact ⟨ρ, vs, d, ds, W, q⟩⟩
theorem dgi_tup {es : List Expr} {k : Nat} {g : WGs} (hc : X.calm = true) (h : DGs X G kp es g) (hl : ∀ ds ρ P, g ds ρ P → ds.length = es.length) (hn : (assignEach es X.env).length = es.length := by rfl) (hst : (assignEach es X.env).findIdx? (·.1) = none := by rfl) : DGI X G kp true (.Tuple es k pos) g :=
  ⟨h.mono, pg_imp (pg_tup (n := es.length) hc h.run hn hst) fun x σ H Q ⟨ρ, xs, its, vs, ds, l, ⟨a, e, t⟩, W, q⟩ => ⟨a, xs, e, t, by rw [l]; exact hl _ _ _ q, ρ, vs, its, ds, l, W, q⟩⟩
/-! ### for -/
def forL (g : WGs) (wb : WS) (E : DEnds) : List (List D) → List D → Prop
  | [] => E.nx
  | its :: r => fun ρ => g its ρ fun ρ1 => wb { E with nx := forL g wb E r, ct := forL g wb E r, bk := E.nx } ρ1
def wsF (wi : WI) (g : WGs) (wb : WS) : WS := fun E ρ => wi ρ fun items _ r => forL g wb { nx := E.nx, rt := E.rt } items r
theorem forL_mono {g : WGs} {wb : WS} (hg : ∀ d ρ P P', (∀ r, P r → P' r) → g d ρ P → g d ρ P') (hb : ∀ A B ρ, DEnds.le A B → wb A ρ → wb B ρ) {A B : DEnds} (h : DEnds.le A B) : ∀ (l : List (List D)) ρ, forL g wb A l ρ → forL g wb B l ρ
  | [], _, q => h.nx _ q
  | its :: r, ρ, q => hg _ _ _ _ (fun ρ1 z => hb { A with nx := forL g wb A r, ct := forL g wb A r, bk := A.nx } { B with nx := forL g wb B r, ct := forL g wb B r, bk := B.nx } _ ⟨fun r' z => forL_mono hg hb h r r' z, h.rt, fun r' z => h.nx _ z, fun r' z => forL_mono hg hb h r r' z⟩ z) q
theorem ds_for {sh : Bool} {tg iter : Expr} {wi : WI} {g : WGs} {wb : WS} (hp : PassesOwn (model X.prog X.w) X.A X.env X.xe) (hc : X.calm = true) (hi : DI X G kp sh tg iter wi) (hg : DGI X G kp sh tg g) (hb : DSs X G kp body wb)
    (hs : ∀ x, foldedSetIterable iter X.env x = pure x := by intro _; rfl) : DS X G kp (.For tg iter body [] pos) (wsF wi g wb) := by
  refine ⟨fun A B ρ h q => hi.mono _ _ _ (fun items ds0 r z => forL_mono hg.mono hb.mono (A := { nx := A.nx, rt := A.rt }) (B := { nx := B.nx, rt := B.rt }) ⟨h.nx, h.rt, fun _ z => z, fun _ z => z⟩ items r z) q, ps_imp (ps_for hp hc hi.run hg.run hb.run hs) fun E σ H ⟨ρ, vs, ds, W, q⟩ => ?_⟩
  refine ⟨ρ, vs, ds, W, hi.mono _ _ _ (fun items ds0 r z J us H1 l W1 hy => ?_) q⟩
  refine ⟨fun i m σ' H' => m = items.length - i ∧ i ≤ items.length ∧ ∃ ρ', World X.K G kp σ' ρ' (us ++ vs) (ds0 ++ ds) H' ∧ forL g wb { nx := (liftE X.K G kp vs ds E).nx, rt := (liftE X.K G kp vs ds E).rt } (items.drop i) ρ', ⟨items.length, by simp, Nat.zero_le _, r, W1, z⟩, ?_⟩
  rintro i m σ' H' ⟨rfl, hi', ρ', W', z'⟩
  obtain ⟨y1, y2⟩ := hy G kp i σ' ρ' vs ds H' W'
  by_cases hlt : i < items.length
  · obtain ⟨its, hits⟩ : ∃ its, items[i]? = some its := ⟨_, List.getElem?_eq_getElem hlt⟩
    obtain ⟨go, y3⟩ := y2 its hits
    rw [List.drop_eq_getElem_cons hlt, (List.getElem?_eq_some_iff.mp hits).2] at z'
    refine .inr ⟨go, fun σ2 H2 => ∃ ρ2, World X.K G kp σ2 ρ2 (us ++ vs) (ds0 ++ ds) H2 ∧ forL g wb { nx := (liftE X.K G kp vs ds E).nx, rt := (liftE X.K G kp vs ds E).rt } (items.drop (i + 1)) ρ2, fun σ2 H2 h2 => ⟨items.length - (i + 1), by omega, rfl, hlt, h2⟩, fun x H2 hy2 => ?_⟩
    obtain ⟨xs, lx, hsh, W2⟩ := y3 x H2 hy2
    refine ⟨ρ', xs, its, us ++ vs, ds0 ++ ds, lx, hsh, W2, hg.mono _ _ _ _ (fun ρ1 z1 σ3 H3 W3 => ⟨ρ1, us ++ vs, ds0 ++ ds, W3, ?_⟩) z'⟩
    refine hb.mono { nx := forL g wb { nx := (liftE X.K G kp vs ds E).nx, rt := (liftE X.K G kp vs ds E).rt } (items.drop (i + 1)), rt := (liftE X.K G kp vs ds E).rt, bk := (liftE X.K G kp vs ds E).nx, ct := forL g wb { nx := (liftE X.K G kp vs ds E).nx, rt := (liftE X.K G kp vs ds E).rt } (items.drop (i + 1)) } _ _ ⟨fun r z σ4 H4 W4 => ⟨r, W4, z⟩, fun d r z v σ4 H4 W4 => z v σ4 H4 ?_, fun r z σ4 H4 W4 => z σ4 H4 (W4.dropN l), fun r z σ4 H4 W4 => ⟨r, W4, z⟩⟩ z1
    have W5 : World X.K G kp σ4 r (us ++ v :: vs) (ds0 ++ d :: ds) H4 := W4.tor l
    exact W5.dropN l
  · have e : i = items.length := by omega
    subst e
    rw [List.drop_length] at z'
    exact .inl ⟨y1 rfl, z' σ' H' (W'.dropN l)⟩
/-! ### sources -/
/-- range -/
def rgL (lo : Int) (n : Nat) : List (List D) := (List.range n).map fun i => [D.int (lo + (i : Nat))]
theorem yl_range {lo : Int} {n : Nat} : Yl X.K G kp false (Itr lo n) [] [] (rgL lo n) := fun i σ ρ vs ds H W => by
  refine ⟨fun e => ?_, fun its hits => ?_⟩
  · show n ≤ i
    rw [e]; simp [rgL]
  · unfold rgL at hits
    rw [List.getElem?_map] at hits
    cases hd : (List.range n)[i]? with
    | none => rw [hd] at hits; cases hits
    | some j =>
      rw [hd] at hits
      cases hits
      obtain ⟨h1, h2⟩ := List.getElem?_eq_some_iff.mp hd
      rw [List.length_range] at h1
      rw [List.getElem_range] at h2
      subst h2
      refine ⟨h1, fun x H' ⟨e1, e2⟩ => ?_⟩
      subst e1 e2
      exact ⟨[_], rfl, rfl, W.int⟩
def wiR1 (w : WA) : WI := fun ρ Q => w ρ fun es r => match es with
  | [.int j] => -(2 ^ 62) ≤ j ∧ j < 2 ^ 62 ∧ Q (rgL 0 j.toNat) [] r
  | _ => False
def wiR2 (w : WA) : WI := fun ρ Q => w ρ fun es r => match es with
  | [.int i, .int j] => -(2 ^ 62) ≤ i ∧ i < 2 ^ 62 ∧ -(2 ^ 62) ≤ j ∧ j < 2 ^ 62 ∧ Q (rgL i (j - i).toNat) [] r
  | _ => False
theorem di_range1 {tg : Expr} {wa : WA} {p : Pos} (hg : Gl X "range") (hm : X.mg "range" = none) (ha : DA X G kp [a] wa) (hs : starEach [a] X.env = [(false, eval a X.env)] := by rfl) : DI X G kp false tg (.Call (.Name "range" p) [a] [] pos) (wiR1 wa) := by
  have inv : ∀ {es : List D} {P : List (List D) → Prop}, (match es with
      | [.int j] => -(2 ^ 62) ≤ j ∧ j < 2 ^ 62 ∧ P (rgL 0 j.toNat)
      | _ => False) → ∃ j : Int, es = [.int j] ∧ -(2 ^ 62) ≤ j ∧ j < 2 ^ 62 ∧ P (rgL 0 j.toNat) := fun {es P} z => by
    split at z
    · exact ⟨_, rfl, z⟩
    · exact z.elim
  refine ⟨fun ρ P P' hp q => ha.mono _ _ _ (fun es r z => ?_) q, pi_imp (pi_range1 hg hm ha.run hs) fun σ H R ⟨ρ, vs, ds, W, q⟩ => ⟨ρ, vs, ds, W, ha.mono _ _ _ (fun es r z us H' l W' => ?_) q⟩⟩
  · obtain ⟨j, rfl, z⟩ := inv (P := fun x => P x [] r) z
    exact ⟨z.1, z.2.1, hp _ _ _ z.2.2⟩
  · obtain ⟨j, rfl, z⟩ := inv (P := fun x => ∀ J us H', us.length = ([] : List D).length → World X.K G kp σ r (us ++ vs) ([] ++ ds) H' → (∀ G' kp', Yl X.K G' kp' false J us [] x) → R J H') z
    match us, l, W' with
    | [u], _, W' =>
      have e := W'.isInt
      subst e
      exact ⟨j, rfl, z.1, z.2.1, z.2.2 _ [] H' rfl W'.drop fun G' kp' => yl_range⟩
end
def SqK (k : Bool) (K : PySem.W.Frag) (H : Hp) (a : Addr) (xs : List V) : Prop := if k = true then SqT K H a xs else SqL K H a xs
def ItK (k : Bool) (h : Heap) (it a : Addr) (i : Nat) : Prop := if k = true then h.IsTupleIter it a i else h.IsListIter it a i
def DaK (k : Bool) (h : Heap) (a : Addr) (its : Array Value) : Prop := if k = true then h.IsTuple a its else h.IsList a its
def obK (k : Bool) (a : Addr) : Obj := if k = true then { cls := .type "tuple_iterator", data := .fields #[.ref a, .int 0 0] } else { cls := .type "list_iterator", data := .fields #[.ref a, .int 0 0] }
theorem draws_k {P : Program} {w : PySem.World} {A : Around} (hh : A.handled = none) (k : Bool) (it a : Addr) (hne : a ≠ it) (its : Array Value) :
    Draws P w A it [it, a] its.size (fun i v => its[i]? = some v) (fun i h => ItK k h it a i ∧ DaK k h a its) := by
  cases k with
  | true => exact Draws.tuple hh it a hne its
  | false => exact Draws.list hh it a hne its
theorem begins_k (k : Bool) (a : Addr) (its : Array Value) : Begins (.ref a) (obK k a) fun h => DaK k h a its := by
  cases k with
  | true => exact begins_tuple a its
  | false => exact begins_list a its
theorem seq_k {X : Cx} {pins : List (Addr × Obj)} {σ : Sl} {H : Hp} {s : Shared} {k : Bool} {a : Addr} {xs : List V} (I : Inv X pins σ H s) (h : SqK k X.K H a xs) : ∃ its : List Value, Vals xs its ∧ DaK k s.heap a its.toArray ∧ a < s.heap.objs.size := by
  cases k with
  | true =>
    obtain ⟨its, r, p, _⟩ := I.tuple h
    obtain ⟨o, ho, _⟩ := id p
    exact ⟨its, r, p, Heap.lt_size ho⟩
  | false =>
    obtain ⟨its, r, p, _⟩ := I.list h
    exact ⟨its, r, p.isList, p.lt⟩
theorem inj_k {X : Cx} {pins : List (Addr × Obj)} {σ : Sl} {H : Hp} {s : Shared} {k : Bool} {a : Addr} {xs ys : List V} (I : Inv X pins σ H s) (h : SqK k X.K H a xs) (h' : SqK k X.K H a ys) : xs = ys := by
  cases k with
  | true => exact I.tuple_inj h h'
  | false => exact I.list_inj h h'
theorem ItK.obj {k : Bool} {h : Heap} {it a : Addr} {i : Nat} (z : ItK k h it a i) : ∃ o, h.get? it = some o ∧ ∀ v, o.data ≠ .cell v := by
  cases k with
  | true =>
    obtain ⟨o, e, _, d⟩ := (show h.IsTupleIter it a i from z)
    exact ⟨o, e, fun v q => by rw [d] at q; cases q⟩
  | false =>
    obtain ⟨o, e, _, d⟩ := (show h.IsListIter it a i from z)
    exact ⟨o, e, fun v q => by rw [d] at q; cases q⟩
theorem ItK.at_ {k : Bool} {h h' : Heap} {it a : Addr} {i : Nat} (z : ItK k h it a i) (q : ∀ o, h.get? it = some o → h'.get? it = some o) : ItK k h' it a i := by
  cases k with
  | true => exact Heap.IsTupleIter.at (show h.IsTupleIter it a i from z) q
  | false => exact Heap.IsListIter.at (show h.IsListIter it a i from z) q
theorem ItK.new {k : Bool} {h : Heap} {it a : Addr} (e : h.get? it = some (obK k a)) : ItK k h it a 0 := by
  cases k with
  | true => exact ⟨_, e, rfl, rfl⟩
  | false => exact ⟨_, e, rfl, rfl⟩
/-! ### zip -/
def ItzK (K : PySem.W.Frag) (k1 k2 : Bool) (a b : Addr) : It :=
  ⟨fun i H => ∃ (xs ys : List V) (x y : V), SqK k1 K H a xs ∧ SqK k2 K H b ys ∧ xs[i]? = some x ∧ ys[i]? = some y,
    fun i H v H' => ∃ T x y, v = .ref T ∧ H T = none ∧ H' = upd H T (.tup [x, y]) ∧ (∀ xs, SqK k1 K H a xs → xs[i]? = some x) ∧ ∀ ys, SqK k2 K H b ys → ys[i]? = some y,
    fun i H => ∃ xs ys : List V, SqK k1 K H a xs ∧ SqK k2 K H b ys ∧ i = min xs.length ys.length⟩
theorem turn_zipK {P : Program} {w : PySem.World} {K : PySem.W.Frag} {elts : List Expr} {kk : Nat} {tpos : Pos} {k1 k2 : Bool} {a b z TI TO i1 i2 : Addr} (S : ZipSep2 z TI TO i1 i2 [i1, a] [i2, b]) (d1 : a ≠ i1) (d2 : b ≠ i2) :
    Turn P w K (.Tuple elts kk tpos) (ItzK K k1 k2 a b) [z, TI, TO, i1, i2] z (fun i h => IsZip h z TI TO .none ∧ IsTupOf2 h TI (.ref i1) (.ref i2) ∧ (∃ x y, IsTupOf2 h TO x y) ∧ ItK k1 h i1 a i ∧ ItK k2 h i2 b i) where
  mem := by simp
  obj := fun i h st c hc => by
    obtain ⟨hz, hTI, ⟨x, y, hTO⟩, h1, h2⟩ := st
    simp only [List.mem_cons, List.not_mem_nil, or_false] at hc
    rcases hc with rfl | rfl | rfl | rfl | rfl
    · exact ⟨_, hz, fun v q => nomatch q⟩
    · exact ⟨_, hTI, fun v q => nomatch q⟩
    · exact ⟨_, hTO, fun v q => nomatch q⟩
    · exact h1.obj
    · exact h2.obj
  keep := fun i h h' st k => by
    obtain ⟨hz, hTI, ⟨x, y, hTO⟩, h1, h2⟩ := st
    exact ⟨k z (by simp) _ hz, k TI (by simp) _ hTI, ⟨x, y, k TO (by simp) _ hTO⟩, h1.at_ fun o q => k i1 (by simp) o q, h2.at_ fun o q => k i2 (by simp) o q⟩
  item := by
    intro X hP hw hK hc i pins s σ H E I hf st hg
    subst hP hw hK
    obtain ⟨hz, hTI, ⟨x0, y0, hTO⟩, h1, h2⟩ := st
    obtain ⟨xs, ys, x, y, qx, qy, hx, hy⟩ := hg
    obtain ⟨its, rv, p, _⟩ := seq_k I qx
    obtain ⟨its2, rv2, p2, _⟩ := seq_k I qy
    obtain ⟨u, hu, ru⟩ := rv.get hx
    obtain ⟨u2, hu2, ru2⟩ := rv2.get hy
    have hlt1 : i < its.toArray.size := by simp; exact (List.getElem?_eq_some_iff.mp hu).1
    have hlt2 : i < its2.toArray.size := by simp; exact (List.getElem?_eq_some_iff.mp hu2).1
    refine wpAny_pyNext_zipD2_item S (draws_k (A := X.A.in1) (I.ok.hd hc) k1 i1 a d1 its.toArray) (draws_k (A := X.A.in1) (I.ok.hd hc) k2 i2 b d2 its2.toArray) hz hTI hTO ⟨h1, p⟩ ⟨h2, p2⟩ hlt1 hlt2 fun v1 v2 h' tk hv1 hv2 hz' hTO' n1 n2 hT hsz hk => ?_
    have nz : s.heap.objs.size ≠ z := Nat.ne_of_gt (Heap.lt_size hz)
    refine ⟨_, rfl, wpAny_letOwnedTupleGo_zip (s := { s with heap := h', toks := tk }) hz' fun h'' z'' sb => ?_⟩
    have hT2 : h''.get? s.heap.objs.size = some { cls := .type "tuple", data := .seq #[v1, v2] } := (sb.2 _ nz).trans hT
    have r1 : RelV x v1 := by
      have e : its[i]? = some v1 := by simpa using hv1
      rw [hu] at e; cases e; exact ru
    have r2 : RelV y v2 := by
      have e : its2[i]? = some v2 := by simpa using hv2
      rw [hu2] at e; cases e; exact ru2
    have new : ObjOk X.prog X.w (upd H s.heap.objs.size (.tup [x, y])) h'' s.heap.objs.size (.tup [x, y]) :=
      ⟨by show 2 ≤ sizeLine; decide, [v1, v2], .cons r1 (.cons r2 .nil), ⟨_, hT2, rfl, _, rfl⟩⟩
    have oth : ∀ c o, c ∉ [z, TI, TO, i1, i2] → s.heap.get? c = some o → h''.get? c = some o := fun c o hb q => by
      simp only [List.mem_cons, List.not_mem_nil, or_false, not_or] at hb
      exact (sb.2 c hb.1).trans (hk c o hb.1 hb.2.2.1 hb.2.2.2.1 hb.2.2.2.2 q)
    have I1 : Inv X pins σ (upd H s.heap.objs.size (.tup [x, y])) { s with heap := h'', toks := tk } :=
      I.turnedNew (t' := tk) (ch := [z, TI, TO, i1, i2]) oth hf (Nat.le_refl _) new
    refine ⟨.ref s.heap.objs.size, _, I1, rfl, ⟨_, x, y, rfl, I.hok.fresh (Nat.le_refl _), rfl, fun l hl => by rw [inj_k I hl qx]; exact hx, fun l hl => by rw [inj_k I hl qy]; exact hy⟩, ⟨z'', ?_, ⟨v1, v2, ?_⟩, ?_, ?_⟩, fun c hcm => ?_⟩
    · exact (sb.2 _ S.TIz).trans (hk _ _ S.TIz S.TITO S.TIi1 S.TIi2 hTI)
    · exact (sb.2 _ S.TOz).trans hTO'
    · exact n1.1.at_ fun o q => (sb.2 _ S.zi1.symm).trans q
    · exact n2.1.at_ fun o q => (sb.2 _ S.zi2.symm).trans q
    · have hlt : c < s.heap.objs.size := by
        simp only [List.mem_cons, List.not_mem_nil, or_false] at hcm
        rcases hcm with rfl | rfl | rfl | rfl | rfl
        · exact Heap.lt_size hz
        · exact Heap.lt_size hTI
        · exact Heap.lt_size hTO
        · obtain ⟨_, e, _⟩ := h1.obj; exact Heap.lt_size e
        · obtain ⟨_, e, _⟩ := h2.obj; exact Heap.lt_size e
      rw [upd_ne (Nat.ne_of_lt hlt)]
      exact (hf c hcm).1
  done := by
    intro X hP hw hK hc i pins s σ H E I hf st hg
    subst hP hw hK
    obtain ⟨hz, hTI, ⟨x0, y0, hTO⟩, h1, h2⟩ := st
    obtain ⟨xs, ys, qx, qy, hi⟩ := hg
    obtain ⟨its, rv, p, _⟩ := seq_k I qx
    obtain ⟨its2, rv2, p2, _⟩ := seq_k I qy
    have l1 : xs.length = its.toArray.size := by rw [rv.length]; simp
    have l2 : ys.length = its2.toArray.size := by rw [rv2.length]; simp
    refine wpAny_pyNext_zipD2_end S (draws_k (A := X.A.in1) (I.ok.hd hc) k1 i1 a d1 its.toArray) (draws_k (A := X.A.in1) (I.ok.hd hc) k2 i2 b d2 its2.toArray) hz hTI hTO ⟨h1, p⟩ ⟨h2, p2⟩ (by omega) (by omega) (by omega) fun h' tk hk => ⟨rfl, I.turnedL (t' := tk) (ch := [z, TI, TO, i1, i2]) (fun c o hb q => ?_) hf⟩
    simp only [List.mem_cons, List.not_mem_nil, or_false, not_or] at hb
    exact hk c o hb.1 hb.2.2.1 hb.2.2.2.1 hb.2.2.2.2 q
  self := fun A i s Q E st h => wpAny_pyIter_zip st.1 h
def iZipK (K : PySem.W.Frag) (ta : TA) : TI := fun σ H R => ta σ H fun vs H1 => ∃ k1 k2 a b xs ys, vs = [.ref a, .ref b] ∧ SqK k1 K H1 a xs ∧ SqK k2 K H1 b ys ∧ R (ItzK K k1 k2 a b) H1
theorem pi_zipK {X : Cx} {e e2 : Expr} {ta : TA} {p pos tpos : Pos} {elts : List Expr} {kk : Nat} (hg : Gl X "zip") (hm : X.mg "zip" = none) (ha : PA X [e, e2] ta)
    (hs : starEach [e, e2] X.env = (false, eval e X.env) :: starEach [e2] X.env := by rfl) (hpl : (backTo pos (starEach [e2] X.env)).any (·.1) = false := by rfl) :
    PI X (.Tuple elts kk tpos) (.Call (.Name "zip" p) [e, e2] [] pos) (iZipK X.K ta) := by
  refine ⟨fun pins s σ H R I h => Call_ (ld_blt I hg hm PyProof.Rows.boot_zip (PyProof.Rows.callWith_type1 (thn (ha.run pos pins s σ H _ I h) fun us s1 ⟨vs, H1, I1, r1, k1, k2, a, b, xs, ys, ex, qx, qy, q⟩ => ?_) hs hpl))⟩
  subst ex
  cases r1 with
  | cons r rr =>
    cases rr with
    | cons r' rr =>
      cases rr
      cases r
      cases r'
      obtain ⟨its, rv, p1, la⟩ := seq_k I1 qx
      obtain ⟨its2, rv2, p2, lb⟩ := seq_k I1 qy
      refine zip_begins2 (begins_k k1 a its.toArray) (begins_k k2 b its2.toArray) p1 p2 fun h' hz hTI hTO e1 e2 hsz hk => wpAny_pyIter_zip hz ?_
      have I2 : Inv X pins σ H1 { s1 with heap := h' } := I1.kept (t' := s1.toks) hk
      have S := zip_sep2 (N := s1.heap.objs.size) (fp1 := [a]) (fp2 := [b]) (fun c hc => by rw [List.mem_singleton.mp hc]; exact la) (fun c hc => by rw [List.mem_singleton.mp hc]; exact lb)
      refine ⟨_, [s1.heap.objs.size + 4, s1.heap.objs.size + 2, s1.heap.objs.size + 3, s1.heap.objs.size, s1.heap.objs.size + 1], _, _, H1, rfl, I2, turn_zipK S (Nat.ne_of_lt la) (Nat.ne_of_lt (Nat.lt_succ_of_lt lb)), ⟨hz, hTI, ⟨_, _, hTO⟩, .new e1, .new e2⟩, fun c hcm => ?_, q⟩
      have hle : s1.heap.objs.size ≤ c := by
        simp only [List.mem_cons, List.not_mem_nil, or_false] at hcm
        rcases hcm with rfl | rfl | rfl | rfl | rfl
        all_goals first | exact Nat.le_refl _ | exact Nat.le_add_right _ _
      exact I1.fpOk hle (I1.hok.fresh hle)
/-! ### enumerate -/
def seqO : D → Option (Bool × List D)
  | .lst _ es => some (false, es)
  | .tup es => some (true, es)
  | _ => none
def seqQ (d : D) (Q : List D → D → Prop) : Prop := match d with
  | .lst m es => Q (frzs es) (.lst m (frzs es))
  | .tup es => Q (frzs es) (.tup (frzs es))
  | _ => False
theorem seqQ_mono {d : D} {P P' : List D → D → Prop} (h : ∀ a b, P a b → P' a b) (q : seqQ d P) : seqQ d P' := by
  cases d <;> first | exact q.elim | exact h _ _ q
theorem seqQ_of {d : D} {P : List D → D → Prop} (q : seqQ d P) : ∃ k es, seqO (frzK d) = some (k, es) ∧ solids es = true ∧ P es (frzK d) := by
  cases d <;> first | exact q.elim | exact ⟨_, _, rfl, frzs_solid _, q⟩
section
variable {K : PySem.W.Frag} {G : Gm} {kp : List Bool} {σ : Sl} {ρ : List D} {vs : List V} {ds es fs : List D} {H : Hp} {F A : AS} {v w : V} {d e : D} {k k2 : Bool}
theorem Rep.seq (r : Rep K H F v d A) (h : seqO d = some (k, es)) (s : solids es = true) : ∃ (a : Addr) (us : List V), v = .ref a ∧ SqK k K H a us ∧ us.length = es.length ∧ Reps K H F us es M0 := by
  cases r with
  | tup t q => cases h; exact ⟨_, _, rfl, t.sq, q.length, q.solid s⟩
  | own e _ q _ => cases h; exact ⟨_, _, rfl, .inl (.inl e), q.length, q.solid s⟩
  | shr e _ q => cases h; exact ⟨_, _, rfl, .inl (.inl e), q.length, q⟩
  | con c q => cases h; exact ⟨_, _, rfl, c.sq, q.length, q⟩
  | _ => cases h
theorem World.seq1 (W : World K G kp σ ρ (v :: vs) (d :: ds) H) (hd : seqO d = some (k, es)) (s : solids es = true) : ∃ (a : Addr) (us : List V), v = .ref a ∧ SqK k K H a us ∧ us.length = es.length ∧
    ∀ (i : Nat) (x : V) (d' : D), us[i]? = some x → es[i]? = some d' → World K G kp σ ρ (x :: v :: vs) (d' :: d :: ds) H := by
  obtain ⟨A, F, f⟩ := W
  have r := f.reps
  cases r with
  | cons p q i j k =>
    obtain ⟨a, us, ev, sq, l, rs⟩ := p.seq hd s
    refine ⟨a, us, ev, sq, l, fun i x d' hx hd' => ⟨A, F, f.rep A ?_ (by have := f.lv; simpa using this) fun _ h => h⟩⟩
    obtain ⟨x', hx', rx⟩ := rs.nth hd'
    rw [hx] at hx'; cases hx'
    exact f.reps.push rx
theorem World.seq2 (W : World K G kp σ ρ (v :: w :: vs) (d :: e :: ds) H) (hd : seqO d = some (k, es)) (he : seqO e = some (k2, fs)) (s : solids es = true) (s2 : solids fs = true) : ∃ (a b : Addr) (us ws : List V), v = .ref a ∧ w = .ref b ∧ SqK k K H a us ∧ SqK k2 K H b ws ∧ us.length = es.length ∧ ws.length = fs.length ∧
    ∀ (i : Nat) (x y : V) (d' e' : D), us[i]? = some x → ws[i]? = some y → es[i]? = some d' → fs[i]? = some e' → World K G kp σ ρ (x :: y :: v :: w :: vs) (d' :: e' :: d :: e :: ds) H := by
  obtain ⟨A, F, f⟩ := W
  have r := f.reps
  cases r with
  | cons p q i j k =>
    cases q with
    | cons p2 q2 i2 j2 k2 =>
      obtain ⟨a, us, ev, sq, l, rs⟩ := p.seq hd s
      obtain ⟨b, ws, ew, sq2, l2, rs2⟩ := p2.seq he s2
      refine ⟨a, b, us, ws, ev, ew, sq, sq2, l, l2, fun i x y d' e' hx hy hd' he' => ⟨A, F, f.rep A ?_ (by have := f.lv; simpa using this) fun _ h => h⟩⟩
      obtain ⟨x', hx', rx⟩ := rs.nth hd'
      rw [hx] at hx'; cases hx'
      obtain ⟨y', hy', ry⟩ := rs2.nth he'
      rw [hy] at hy'; cases hy'
      exact (f.reps.push ry).push rx
end
section
variable {X : Cx} {G : Gm} {kp : List Bool} {e a b c : Expr} {pos p p1 p2 : Pos} {wa : WA} {elts : List Expr} {kk : Nat} {tpos : Pos}
def pairs (xs ys : List D) : List (List D) := (xs.zip ys).map fun z => [z.1, z.2]
theorem yl_zip {k1 k2 : Bool} {a b : Addr} {d e : D} {xs ys : List D} (hd : seqO d = some (k1, xs)) (he : seqO e = some (k2, ys)) (s : solids xs = true) (s2 : solids ys = true) : Yl X.K G kp true (ItzK X.K k1 k2 a b) [.ref a, .ref b] [d, e] (pairs xs ys) := fun i σ ρ vs ds H W => by
  obtain ⟨a', b', us, ws, ea, eb, q1, q2, l1, l2, mk⟩ := World.seq2 (vs := vs) (ds := ds) W hd he s s2
  cases ea; cases eb
  refine ⟨fun hi => ⟨us, ws, q1, q2, by rw [hi, l1, l2]; simp [pairs]⟩, fun its hits => ?_⟩
  unfold pairs at hits
  rw [List.getElem?_map] at hits
  cases hz : (xs.zip ys)[i]? with
  | none => rw [hz] at hits; cases hits
  | some z =>
    rw [hz] at hits
    cases hits
    obtain ⟨h1, h2⟩ := List.getElem?_zip_eq_some.mp hz
    obtain ⟨x, hx⟩ : ∃ x, us[i]? = some x := ⟨us[i]'(by
      have := (List.getElem?_eq_some_iff.mp h1).1
      omega), List.getElem?_eq_getElem _⟩
    obtain ⟨y, hy⟩ : ∃ x, ws[i]? = some x := ⟨ws[i]'(by
      have := (List.getElem?_eq_some_iff.mp h2).1
      omega), List.getElem?_eq_getElem _⟩
    refine ⟨⟨us, ws, x, y, q1, q2, hx, hy⟩, fun v H' ⟨T, x', y', ev, hT, eH, ex, ey⟩ => ?_⟩
    have ex := ex us q1
    rw [hx] at ex; cases ex
    have ey := ey ws q2
    rw [hy] at ey; cases ey
    subst eH ev
    exact ⟨[x, y], rfl, ⟨T, rfl, .inl (.inl upd_same)⟩, (mk i x y _ _ hx hy h1 h2).laid hT⟩
def wiZ (w : WA) : WI := fun ρ Q => w ρ fun es r => match es with
  | [x, y] => seqQ x fun xs x' => seqQ y fun ys y' => Q (pairs xs ys) [x', y'] r
  | _ => False
theorem di_zip (hg : Gl X "zip") (hm : X.mg "zip" = none) (ha : DA X G kp [a, b] wa)
    (hs : starEach [a, b] X.env = (false, eval a X.env) :: starEach [b] X.env := by rfl) (hpl : (backTo pos (starEach [b] X.env)).any (·.1) = false := by rfl) :
    DI X G kp true (.Tuple elts kk tpos) (.Call (.Name "zip" p) [a, b] [] pos) (wiZ wa) := by
  refine ⟨fun ρ P P' hp q => ha.mono _ _ _ (fun es r z => ?_) q, pi_imp (pi_zipK hg hm ha.run hs hpl) fun σ H R ⟨ρ, vs, ds, W, q⟩ => ⟨ρ, vs, ds, W, ha.mono _ _ _ (fun es r z us H' l W' => ?_) q⟩⟩
  · match es, z with
    | [x, y], z => exact seqQ_mono (fun _ _ z => seqQ_mono (fun _ _ z => hp _ _ _ z) z) z
  · match es, us, l, W', z with
    | [x, y], [u, w], _, W', z =>
      obtain ⟨k1, xs, h1, s1, z⟩ := seqQ_of z
      obtain ⟨k2, ys, h2, s2, z⟩ := seqQ_of z
      have W1 : World X.K G kp σ r (u :: w :: vs) (frzK x :: frzK y :: ds) H' := (World.frzKids (World.swap (World.frzKids (vs := w :: vs) (ds := y :: ds) W'))).swap
      obtain ⟨a', b', us, ws, ea, eb, q1, q2, l1, l2, mk⟩ := W1.seq2 h1 h2 s1 s2
      cases ea; cases eb
      exact ⟨k1, k2, a', b', us, ws, rfl, q1, q2, z _ [.ref a', .ref b'] H' rfl W1 fun G' kp' => yl_zip h1 h2 s1 s2⟩
def enums (xs : List D) : List (List D) := xs.zipIdx.map fun z => [.int (z.2 : Nat), z.1]
def wiE (w : WA) : WI := fun ρ Q => w ρ fun es r => match es with
  | [x] => seqQ x fun xs x' => Q (enums xs) [x'] r
  | _ => False
/-! ### a range with a step -/
def rgC (lo c : Int) (n : Nat) : List (List D) := (List.range n).map fun (i : Nat) => [D.int (lo + (i : Nat) * c)]
def wiR3 (w : WA) : WI := fun ρ Q => w ρ fun es r => match es with
  | [.int i, .int j, .int c] => ∃ n, RgC i j c n ∧ Q (rgC i c n) [] r
  | _ => False
end
def wipeD (ρ : List D) : List Nat → List D
  | [] => ρ
  | v :: vs => wipeD (ρ.set v .gone) vs
def Gm.at_ (G : Gm) (σ : Sl) : Gm := { G with vs0 := σ }
theorem wipe_in {σ : Sl} {j : Nat} : ∀ {vs : List Nat}, j ∈ vs → j < σ.length → (wipe σ vs)[j]? = some none
  | v :: vs, h, l => by
    unfold wipe
    by_cases e : v = j
    · subst e
      rw [List.getElem?_set_self (by rw [wipe_length]; exact l)]
    · rw [List.getElem?_set_ne e]
      rcases List.mem_cons.mp h with h | h
      · exact absurd h.symm e
      · exact wipe_in h l
theorem wipe_eq {σ σ2 : Sl} {vs : List Nat} (l : σ2.length = σ.length) (h : ∀ j, j ∉ vs → j < σ.length → σ2[j]? = σ[j]?) : wipe σ2 vs = wipe σ vs := by
  refine List.ext_getElem? fun j => ?_
  by_cases hl : j < σ.length
  · by_cases hj : j ∈ vs
    · rw [wipe_in hj hl, wipe_in hj (by omega)]
    · rw [wipe_out hj, wipe_out hj]; exact h j hj hl
  · rw [List.getElem?_eq_none (by rw [wipe_length]; omega), List.getElem?_eq_none (by rw [wipe_length]; omega)]
section
variable {K : PySem.W.Frag} {G : Gm} {kp kp' : List Bool} {σ σ' : Sl} {ρ : List D} {vs us : List V} {ds es : List D} {H : Hp} {v : V} {d : D} {i : Nat}
theorem World.into (W : World K G kp σ ρ vs ds H) : World K (G.at_ σ) kp' σ ρ vs ds H := by
  obtain ⟨A, F, f⟩ := W
  exact ⟨A, F, f.reps, f.lv, f.ls, f.sn, f.non, f.sep, f.own, f.trk, f.src, f.srf, f.fr, f.al, f.tab, fun _ _ => rfl⟩
theorem World.back (W : World K (G.at_ σ') kp' σ ρ vs ds H) (h : ∀ j : Nat, kp.getD j false = true → σ[j]? = G.vs0[j]?) : World K G kp σ ρ vs ds H := by
  obtain ⟨A, F, f⟩ := W
  exact ⟨A, F, f.reps, f.lv, f.ls, f.sn, f.non, f.sep, f.own, f.trk, f.src, f.srf, f.fr, f.al, f.tab, h⟩
theorem World.kps (W : World K G kp σ ρ vs ds H) : ∀ j : Nat, kp.getD j false = true → σ[j]? = G.vs0[j]? := by
  obtain ⟨A, F, f⟩ := W
  exact f.kps
theorem World.sn (W : World K G kp σ ρ vs ds H) : σ.length = G.n := by
  obtain ⟨A, F, f⟩ := W
  exact f.sn
theorem World.reslot {o : Option V} (W : World K G kp σ ρ vs ds H) (hk : kp.getD i false = false) : World K G kp (σ.set i o) (ρ.set i .gone) vs ds H := by
  obtain ⟨A, F, f⟩ := W
  have r : Reps K H F ((vs ++ sv σ).set (vs.length + i) (o.getD .non)) ((ds ++ ρ).set (vs.length + i) .gone) A := (f.reps.push .gone).replace (i := vs.length + i)
  have e2 : (ds ++ ρ).set (vs.length + i) .gone = ds ++ ρ.set i .gone := by rw [f.lv, set_app]
  have e1 : (vs ++ sv σ).set (vs.length + i) (o.getD .non) = vs ++ sv (σ.set i o) := by rw [set_app, sv_set]
  rw [e1, e2] at r
  refine ⟨A, F, r, f.lv, by rw [List.length_set, List.length_set]; exact f.ls, by rw [List.length_set]; exact f.sn, fun j hj => ?_, f.sep, f.own, f.trk, f.src, f.srf, f.fr, f.al, f.tab, fun j hj => ?_⟩
  · by_cases e : i = j
    · subst e
      by_cases hl : i < σ.length
      · rw [List.getElem?_set_self (by rw [← f.ls]; exact hl)]
      · rw [List.getElem?_eq_none (by simpa using hl)] at hj; cases hj
    · rw [List.getElem?_set_ne e] at hj ⊢; exact f.non j hj
  · have ne : i ≠ j := fun e => by
      rw [← e, hk] at hj
      cases hj
    rw [List.getElem?_set_ne ne]
    exact f.kps j hj
theorem wipeD_gone : ∀ {own : List Nat} {ρ : List D} {i : Nat}, (∀ d, ρ[i]? = some d → d = .gone) → ∀ d, (wipeD ρ own)[i]? = some d → d = .gone
  | [], _, _, h => h
  | v :: vs, ρ, i, h => wipeD_gone (own := vs) fun d hd => by
    by_cases e : v = i
    · subst e
      obtain ⟨hl, q⟩ := List.getElem?_eq_some_iff.mp hd
      rw [List.getElem_set_self] at q
      exact q.symm
    · rw [List.getElem?_set_ne e] at hd; exact h d hd
theorem set_gone {ρ : List D} {i : Nat} (h : ∀ d, ρ[i]? = some d → d = .gone) : ρ.set i .gone = ρ := by
  refine List.ext_getElem? fun j => ?_
  by_cases e : i = j
  · subst e
    cases hr : ρ[i]? with
    | none => rw [List.getElem?_eq_none (by rw [List.length_set]; exact List.getElem?_eq_none_iff.mp hr)]
    | some d =>
      rw [List.getElem?_set_self (List.getElem?_eq_some_iff.mp hr).1, h d hr]
  · rw [List.getElem?_set_ne e]
theorem World.wiped : ∀ {own : List Nat} {ρ : List D}, World K G kp σ ρ vs ds H → (∀ v ∈ own, kp.getD v false = false) → World K G kp (wipe σ own) (wipeD ρ own) vs ds H
  | [], _, W, _ => W
  | v :: own, ρ, W, h => by
    have W1 := World.wiped (own := own) (W.forget (i := v)) fun w hw => h w (List.mem_cons_of_mem _ hw)
    have W2 := W1.reslot (i := v) (o := none) (h v List.mem_cons_self)
    have e : (wipeD (ρ.set v .gone) own).set v .gone = wipeD (ρ.set v .gone) own := set_gone (wipeD_gone fun d hd => by
      obtain ⟨hl, q⟩ := List.getElem?_eq_some_iff.mp hd
      rw [List.getElem_set_self] at q
      exact q.symm)
    rw [e] at W2
    exact W2
theorem World.unwiped : ∀ {own : List Nat} {ρ : List D}, World K G kp (wipe σ own) ρ vs ds H → (∀ v ∈ own, kp.getD v false = false) → World K G kp σ (wipeD ρ own) vs ds H
  | [], _, W, _ => W
  | v :: own, ρ, W, h => by
    refine World.unwiped (own := own) (ρ := ρ.set v .gone) ?_ fun w hw => h w (List.mem_cons_of_mem _ hw)
    have W1 : World K G kp ((wipe σ own).set v none) ρ vs ds H := W
    by_cases hl : v < (wipe σ own).length
    · have W2 := W1.reslot (i := v) (o := (wipe σ own)[v]) (h v List.mem_cons_self)
      rw [List.set_set, List.set_getElem_self] at W2
      exact W2
    · rw [List.set_eq_of_length_le (by omega)] at W1
      exact W1.forget
/-- an item appended to the list that stands below -/
theorem World.append_ (W : World K G kp σ ρ (v :: (us ++ w :: vs)) (d :: (es ++ .lst .own acc :: ds)) H) (l : us.length = es.length) : ∃ (a : Addr) (ws : List V), w = .ref a ∧ H a = some (.lst ws) ∧ ws.length = acc.length ∧ World K G kp σ ρ (us ++ w :: vs) (es ++ .lst .own (acc ++ [d]) :: ds) (upd H a (.lst (ws ++ [v]))) := by
  obtain ⟨a, ws, e, h, lw, mk⟩ := World.relist (xs := v :: us) (fs := d :: es) W (by simp [l])
  refine ⟨a, ws, e, h, lw, mk us es (ws ++ [v]) (acc ++ [d]) l (by simp [lw]) fun F B r => ?_⟩
  have q := Reps.tor (us := us ++ ws) (es := es ++ acc) (vs := []) (ds := []) (v := v) (d := d) (by simp [l, lw]) (by simpa using r)
  simpa using q
end
/-! ### the rule -/
structure DTs (X : Cx) (G : Gm) (kp : List Bool) (es : List Expr) (w : WT) : Prop where
  mono : ∀ ρ P P', (∀ d r, P d r → P' d r) → w ρ P → w ρ P'
  run : PTs X es (tDT X.K G kp w)
def wYes : WT := fun ρ Q => Q true ρ
section
variable {X : Cx} {G : Gm} {kp : List Bool} {e elt tg iter : Expr} {ifs : List Expr} {scope : Scope} {own : List (Str × Nat)} {pos : Pos} {sh : Bool} {wi : WI} {g : WGs} {wt : WT} {we : WE}
theorem pts_imp {X : Cx} {e : List Expr} {t t' : TT} (h : PTs X e t) (i : ∀ σ H Q, t' σ H Q → t σ H Q) : PTs X e t' := ⟨fun pins s σ H Q I q => h.run pins s σ H Q I (i σ H Q q)⟩
theorem dts_nil : DTs X G kp [] wYes := ⟨fun ρ P P' hp q => hp _ _ q, pts_imp pts_nil fun σ H Q ⟨ρ, vs, ds, W, q⟩ => q H W⟩
theorem dts_one (h : DT X G kp e wt) : DTs X G kp [e] wt := ⟨h.mono, pts_one h.run⟩
def lcL (g : WGs) (wt : WT) (we : WE) (own : List Nat) (Q : List D → List D → Prop) : List (List D) → List D → List D → Prop
  | [], acc, ρ => Q acc ρ
  | its :: r, acc, ρ => g its ρ fun ρ1 => wt ρ1 fun b ρ2 => if b = true then we ρ2 fun d ρ3 => lcL g wt we own Q r (acc ++ [d]) (wipeD ρ3 own) else lcL g wt we own Q r acc (wipeD ρ2 own)
def wLc (wi : WI) (g : WGs) (wt : WT) (we : WE) (own : List Nat) : WE := fun ρ Q => wi ρ fun items _ r => items.length ≤ sizeLine ∧ lcL g wt we own (fun acc ρ' => Q (.lst .own acc) (wipeD ρ' own)) items [] (wipeD r own)
theorem lcL_mono (mg : ∀ d ρ P P', (∀ r, P r → P' r) → g d ρ P → g d ρ P') (mt : ∀ ρ P P', (∀ d r, P d r → P' d r) → wt ρ P → wt ρ P') (me : ∀ ρ P P', (∀ d r, P d r → P' d r) → we ρ P → we ρ P') {own : List Nat} {Q Q' : List D → List D → Prop} (h : ∀ a r, Q a r → Q' a r) :
    ∀ (l : List (List D)) acc ρ, lcL g wt we own Q l acc ρ → lcL g wt we own Q' l acc ρ
  | [], acc, ρ, q => h _ _ q
  | its :: r, acc, ρ, q => mg _ _ _ _ (fun ρ1 z => mt _ _ _ (fun b ρ2 z => by
    cases b with
    | true => exact me _ _ _ (fun d ρ3 z => lcL_mono mg mt me h r _ _ z) z
    | false => exact lcL_mono mg mt me h r _ _ z) z) q
theorem lc_conv {kp' : List Bool} {X' : Cx} (hK : X'.K = X.K) (hi : DI X G kp sh tg iter wi) (ow : List Nat) (hkp : ∀ v ∈ ow, kp.getD v false = false) (hkp' : ∀ v ∈ ow, kp'.getD v false = false) (hall : ∀ j, j < G.n → j ∉ ow → kp'.getD j false = true)
    (mg : ∀ d ρ P P', (∀ r, P r → P' r) → g d ρ P → g d ρ P') (mt : ∀ ρ P P', (∀ d r, P d r → P' d r) → wt ρ P → wt ρ P') (me : ∀ ρ P P', (∀ d r, P d r → P' d r) → we ρ P → we ρ P') (σ : Sl) (H : Hp) (Q : VK) (q : tDE X.K G kp (wLc wi g wt we ow) σ H Q) :
    tLc (tDI X.K G kp sh wi) (tDGI X.K (G.at_ (wipe σ ow)) kp' sh g) (tDT X.K (G.at_ (wipe σ ow)) kp' wt) (tDE X.K (G.at_ (wipe σ ow)) kp' we) ow σ H Q := by
  obtain ⟨ρ, vs, ds, W, q⟩ := q
  have hn := W.sn
  have kold := W.kps
  refine ⟨ρ, vs, ds, W, hi.mono _ _ _ (fun items ds0 r z J us H1 l W1 hy => ?_) q⟩
  obtain ⟨hz, z⟩ := z
  intro Dn hD
  -- the state at a turn
  let St : Nat → Hp → Prop := fun i H' => ∃ ρ' acc, acc.length ≤ i ∧ World X.K (G.at_ (wipe σ ow)) kp' (wipe σ ow) ρ' (us ++ .ref Dn :: vs) (ds0 ++ .lst .own acc :: ds) H' ∧ lcL g wt we ow (fun acc ρ' => ∀ v H', World X.K G kp σ (wipeD ρ' ow) (v :: vs) (.lst .own acc :: ds) H' → Q v H') (items.drop i) acc ρ'
  refine ⟨fun i m H' => m = items.length - i ∧ i ≤ items.length ∧ St i H', ⟨items.length, by simp, Nat.zero_le _, wipeD r ow, [], Nat.zero_le _, ?_, by simpa using z⟩, ?_⟩
  · have W2 : World X.K G kp σ r (.ref Dn :: (us ++ vs)) (.lst .own [] :: (ds0 ++ ds)) (upd H1 Dn (.lst [])) := World.newLst (us := []) (es := []) W1 rfl hD
    exact ((W2.tor l).wiped hkp).into
  · rintro i m H' ⟨rfl, hi', ρ', acc, ha, W', z'⟩
    obtain ⟨y1, y2⟩ := hy _ _ i _ ρ' _ _ H' W'
    by_cases hlt : i < items.length
    · obtain ⟨its, hits⟩ : ∃ its, items[i]? = some its := ⟨_, List.getElem?_eq_getElem hlt⟩
      obtain ⟨go, y3⟩ := y2 its hits
      rw [List.drop_eq_getElem_cons hlt, (List.getElem?_eq_some_iff.mp hits).2] at z'
      have keep : ∀ {σ2 : Sl} {ρ2 : List D} {vs2 : List V} {ds2 : List D} {H2 : Hp}, World X.K (G.at_ (wipe σ ow)) kp' σ2 ρ2 vs2 ds2 H2 → wipe σ2 ow = wipe σ ow := fun {σ2 ρ2 vs2 ds2 H2} W2 => by
        refine wipe_eq (by rw [hn]; exact W2.sn) fun j hj hl => ?_
        rw [W2.kps j (hall j (by rw [← hn]; exact hl) hj)]
        exact wipe_out hj
      have next : ∀ {σ2 : Sl} {ρ2 : List D} {acc2 : List D} {H2 : Hp}, World X.K (G.at_ (wipe σ ow)) kp' σ2 ρ2 (us ++ .ref Dn :: vs) (ds0 ++ .lst .own acc2 :: ds) H2 → acc2.length ≤ i + 1 → lcL g wt we ow (fun acc ρ' => ∀ v H', World X.K G kp σ (wipeD ρ' ow) (v :: vs) (.lst .own acc :: ds) H' → Q v H') (items.drop (i + 1)) acc2 (wipeD ρ2 ow) → St (i + 1) H2 := fun {σ2 ρ2 acc2 H2} W2 hl z2 => by
        refine ⟨_, acc2, hl, ?_, z2⟩
        have W3 := W2.wiped hkp'
        rw [keep W2] at W3
        exact W3
      refine .inr ⟨go, St (i + 1), fun H2 h2 => ⟨items.length - (i + 1), by omega, rfl, hlt, h2⟩, fun x H2 hy2 => ?_⟩
      obtain ⟨xs, lx, hsh, W2⟩ := y3 x H2 hy2
      refine ⟨ρ', xs, its, _, _, lx, hsh, W2, mg _ _ _ _ (fun ρ1 z1 σ3 H3 W3 => ⟨keep W3, ρ1, _, _, W3, mt _ _ _ (fun b ρ2 z2 H4 W4 => ?_) z1⟩) z'⟩
      cases b with
      | false => exact next W4 (by omega) z2
      | true =>
        refine ⟨ρ2, _, _, W4, me _ _ _ (fun d ρ3 z3 v H5 W5 => ?_) z2⟩
        obtain ⟨a, ws, ea, hw, lw, W6⟩ := W5.append_ l
        cases ea
        exact ⟨ws, hw, by omega, next W6 (by simp; omega) z3⟩
    · have e : i = items.length := by omega
      subst e
      rw [List.drop_length] at z'
      refine .inl ⟨y1 rfl, z' _ H' (World.unwiped (World.back (W'.dropN l) fun j hj => ?_) hkp)⟩
      rw [wipe_out fun hm => by rw [hkp j hm] at hj; cases hj]
      exact kold j hj
theorem wLc_mono (hi : DI X G kp sh tg iter wi) (mg : ∀ d ρ P P', (∀ r, P r → P' r) → g d ρ P → g d ρ P') (mt : ∀ ρ P P', (∀ d r, P d r → P' d r) → wt ρ P → wt ρ P') (me : ∀ ρ P P', (∀ d r, P d r → P' d r) → we ρ P → we ρ P') {ow : List Nat} : ∀ ρ P P', (∀ d r, P d r → P' d r) → wLc wi g wt we ow ρ P → wLc wi g wt we ow ρ P' :=
  fun ρ P P' hp q => hi.mono _ _ _ (fun items ds0 r z => ⟨z.1, lcL_mono mg mt me (fun a r z => hp _ _ z) _ _ _ z.2⟩) q
/-- the mask inside a block: all but the block's own slots stay -/
def mask (n : Nat) (ow : List Nat) : List Bool := (List.range n).map fun j => !(ow.contains j)
theorem mask_own {n : Nat} {ow : List Nat} : ∀ v ∈ ow, (mask n ow).getD v false = false := fun v hv => by
  unfold mask
  rw [List.getD_eq_getElem?_getD, List.getElem?_map]
  by_cases h : v < n
  · rw [List.getElem?_range h]
    simp [hv]
  · rw [List.getElem?_eq_none (by simpa using h)]
    rfl
theorem mask_all {n : Nat} {ow : List Nat} : ∀ j, j < n → j ∉ ow → (mask n ow).getD j false = true := fun v h hv => by
  unfold mask
  rw [List.getD_eq_getElem?_getD, List.getElem?_map, List.getElem?_range h]
  simp [hv]
theorem de_lc (kp' : List Bool) (hc : X.calm = true) (hN : X.N.Nodup) (hi : DI X G kp sh tg iter wi) (ok : BlkOk X.N X.env.scope scope own) (hm : kp' = mask X.N.length (own.map (·.2))) (hn : G.n = X.N.length) (hkp : ∀ v ∈ own.map (·.2), kp.getD v false = false)
    (hg : ∀ (G' : Gm), G'.T = G.T → G'.n = G.n → ∀ (s : Shared) (H : Hp) (C : Addr) (cl : List (Str × Addr)) (fp : List Addr), DGI (X.blk s H scope (compEnvC scope cl C X.env) fp) G' kp' sh tg g) (ht : ∀ (G' : Gm), G'.T = G.T → G'.n = G.n → ∀ (s : Shared) (H : Hp) (C : Addr) (cl : List (Str × Addr)) (fp : List Addr), DTs (X.blk s H scope (compEnvC scope cl C X.env) fp) G' kp' ifs wt)
    (he : ∀ (G' : Gm), G'.T = G.T → G'.n = G.n → ∀ (s : Shared) (H : Hp) (C : Addr) (cl : List (Str × Addr)) (fp : List Addr), DE (X.blk s H scope (compEnvC scope cl C X.env) fp) G' kp' elt we) (hs : ∀ x, foldedSetIterable iter X.env x = pure x := by intro _; rfl) :
    DE X G kp (.ListComp elt [⟨tg, iter, ifs, 0⟩] scope pos) (wLc wi g wt we (own.map (·.2))) := by
  subst hm
  have mg := (hg G rfl rfl X.s_0 X.H_0 0 [] []).mono
  have mt := (ht G rfl rfl X.s_0 X.H_0 0 [] []).mono
  have me := (he G rfl rfl X.s_0 X.H_0 0 [] []).mono
  exact ⟨wLc_mono hi mg mt me, ⟨fun pins s σ H Q I q => (pe_lc (X := X) hc hN hi.run ok (fun s H C cl fp => (hg (G.at_ (wipe σ (own.map (·.2)))) rfl rfl s H C cl fp).run) (fun s H C cl fp => (ht (G.at_ (wipe σ (own.map (·.2)))) rfl rfl s H C cl fp).run) (fun s H C cl fp => (he (G.at_ (wipe σ (own.map (·.2)))) rfl rfl s H C cl fp).run) hs).run pins s σ H Q I
    (lc_conv (X' := X) rfl hi _ hkp mask_own (fun j hj => mask_all j (by rw [← hn]; exact hj)) mg mt me σ H Q q)⟩⟩
end
/-- an exception: its class's name, its numbers -/
def fldsX (ns : List Int) : List (Str × V) := ((["many", "most"] : List Str).zip (ns.map V.int)).reverse
def XF (ns : List Int) (d : Option Addr) (H : Hp) : Prop := ns = [] ∨ ∃ dx, d = some dx ∧ H dx = some (.xd (fldsX ns))
def XIs (K : PySem.W.Frag) (c : Str) (ns : List Int) (cls : Value) (d : Option Addr) (H : Hp) : Prop := cls = .ref (He.ga K c) ∧ (ns = [] → d = none) ∧ XF ns d H
abbrev XD := Str → List Int → List D → Prop
abbrev SD := List D → (D → List D → Prop) → XD → Prop
def SMono (S : SD) : Prop := ∀ es P P' E E', (∀ d r, P d r → P' d r) → (∀ c n r, E c n r → E' c n r) → S es P E → S es P' E'
def spD (K : PySem.W.Frag) (T : List (Addr × Str)) (S : SD) : Sp := fun vs H Q E => ∃ A F es, Enter K T vs es H A F ∧
  S es (fun z es' => ∀ v H', World K ⟨H, A, F, T, vs.map some, 0⟩ [] [] [] (v :: vs) (z :: es') H' → Q v H')
    (fun c ns es' => ∀ cls d H', World K ⟨H, A, F, T, vs.map some, 0⟩ [] [] [] vs es' H' → XIs K c ns cls d H' → E cls d H')
structure FnG (P : Program) (w : PySem.World) (K : PySem.W.Frag) (mg : Str → Option Value) (base : Heap) (k : Nat) (f : Addr) (fd : FuncData) (ps : List Str) (sp : Sp) : Prop where
  len : ∀ vs H Q E, sp vs H Q E → vs.length = ps.length
  run : ∀ (A : Around) (outer : List Env) (s : Shared) (H : Hp) (args : Args) (us : List Value) (vs : List V) (Q : VK) (E : XK), Room k A → A.guards = some [] → Env0 P w K mg base A outer s H → BindsTo s fd args (ps.zip us) → Vals vs us → sp vs H Q E →
    codeAny (model P w) A (.call (.ref f) args) (CR (L2.CX P w) outer P w H s Q E) s
theorem FnG.mono {P : Program} {w : PySem.World} {K : PySem.W.Frag} {mg : Str → Option Value} {base : Heap} {j k : Nat} {f : Addr} {fd : FuncData} {ps : List Str} {sp : Sp} (F : FnG P w K mg base j f fd ps sp) (h : j ≤ k) : FnG P w K mg base k f fd ps sp :=
  ⟨F.len, fun A outer s H args us vs Q E hr => F.run A outer s H args us vs Q E (hr.mono h)⟩
/-- what X wants of exceptions is what Ex says -/
def TakesD (X : Cx) (G : Gm) (kp : List Bool) (Ex : XD) : Prop := Takes X fun cls d σ H => ∃ ρ vs ds c ns, World X.K G kp σ ρ vs ds H ∧ XIs X.K c ns cls d H ∧ Ex c ns ρ
def noX : XD := fun _ _ _ => False
theorem takes_no {X : Cx} {G : Gm} {kp : List Bool} : TakesD X G kp noX := fun _ _ x => by
  obtain ⟨_, _, _, _, _, _, _, _, _, _, _, _, _, _, _, _, w⟩ := x
  obtain ⟨_, _, _, _, _, _, _, z⟩ := w
  exact z.elim
section
variable {X : Cx} {G : Gm} {kp : List Bool} {k : Nat} {f : Addr} {fd : FuncData} {ps : List Str} {S : SD} {Ex : XD} {x : Str} {p pos : Pos} {e : Expr} {es : List Expr} {wr : WBs} {wa : WA}
theorem run_G {sp : Sp} {E : XK} {pins : List (Addr × Obj)} {σ : Sl} {H : Hp} {s : Shared} {Q : VK} {us : List Value} {vs : List V} (F : FnG X.prog X.w X.K X.mg X.base k f fd ps sp) (hr : Room k X.A) (hgd : X.A.guards = some []) (hb : Binds X.K fd ps []) (hx : PassesAt (L2.CX X.prog X.w) X σ E)
    (I : Inv X pins σ H s) (r : Vals vs us) (h : sp vs H Q E) : wpAny (model X.prog X.w) X.A (call (.ref f) us) (EP X pins σ Q) X.xe s := by
  have hl : us.length = ps.length := by rw [← r.length]; exact F.len _ _ _ _ h
  have b := hb s us I.kIn (by rw [List.append_nil]; exact hl)
  rw [List.append_nil] at b
  refine wpAny_call (codeAny_mono (F.run X.A X.stack s H ⟨us, []⟩ us vs Q E hr hgd I.env0 b r h) fun r1 s1 hq => ?_)
  match r1, hq with
  | .error e, hq => exact hx pins H s e s1 I hq
  | .ok (.ret u), hq => exact I.after hq
def wCallF (S : SD) (Ex : XD) (wr : WBs) : WE := fun ρ Q => wr ρ fun es os r => S es (fun z es' => Q z (gbs os es' r)) fun c ns es' => Ex c ns (gbs os es' r)
theorem wCallF_mono (hS : SMono S) (mr : ∀ ρ P P', (∀ d o r, P d o r → P' d o r) → wr ρ P → wr ρ P') : ∀ ρ P P', (∀ d r, P d r → P' d r) → wCallF S Ex wr ρ P → wCallF S Ex wr ρ P' :=
  fun ρ P P' hp q => mr ρ _ _ (fun es os r z => hS _ _ _ _ _ (fun d r z => hp _ _ z) (fun _ _ _ z => z) z) q
/-- from the arguments' part to the promise -/
theorem sp_of {T : List (Addr × Str)} {σ : Sl} {ρ r : List D} {vs us : List V} {ds es : List D} {os : List (Option Nat)} {H : Hp} {Q : VK} (hS : SMono S) (hT : G.T = T) (l : us.length = es.length) (W : World X.K G kp σ r (us ++ vs) (es ++ ds) H) (hl : Lent σ us os)
    (q : S es (fun z es' => ∀ v H', World X.K G kp σ (gbs os es' r) (v :: vs) (z :: ds) H' → Q v H') fun c ns es' => Ex c ns (gbs os es' r)) :
    spD X.K T S us H Q fun cls d H' => ∃ ρ vs ds c ns, World X.K G kp σ ρ vs ds H' ∧ XIs X.K c ns cls d H' ∧ Ex c ns ρ := by
  subst hT
  obtain ⟨A, F, en, back⟩ := W.call l
  refine ⟨A, F, es, en, hS _ _ _ _ _ (fun z es' q v H' W' => q v H' ?a) (fun c ns es' q cls d H' W' hx => ⟨gbs os es' r, vs, ds, c, ns, ?b, hx, q⟩) q⟩
  case a =>
    have lz : (v :: us).length = (z :: es').length := W'.lv
    have l' : us.length = es'.length := by simpa using lz
    have W2 : World X.K G kp σ r (v :: us ++ vs) (z :: es' ++ ds) H' := back (v :: us) (z :: es') H' lz W'
    exact World.gbs l' (W2.tor l') hl
  case b =>
    have l' : us.length = es'.length := W'.lv
    exact World.gbs l' (back us es' H' l' W') hl
theorem de_callF {T : List (Addr × Str)} (F : FnG X.prog X.w X.K X.mg X.base k f fd ps (spD X.K T S)) (hS : SMono S) (hr : Room k X.A) (hgd : X.A.guards = some []) (hg : Gl X x) (hm : X.mg x = some (.ref f)) (hk : PySem.W.keepIn X.K (.ref f) = true) (hb : Binds X.K fd ps []) (hx : TakesD X G kp Ex) (hT : G.T = T)
    (ha : DBs X G kp (e :: es) wr) (hdb : (x == ("__debug__" : Str)) = false := by decide) (he : starEach (e :: es) X.env = (false, eval e X.env) :: starEach es X.env := by rfl) (hpl : (backTo pos (starEach es X.env)).any (·.1) = false := by rfl) :
    DE X G kp (.Call (.Name x p) (e :: es) [] pos) (wCallF S Ex wr) := by
  refine ⟨wCallF_mono hS ha.mono, ⟨fun pins s σ H Q I h => ?_⟩⟩
  obtain ⟨ρ, vs, ds, W, q⟩ := h
  refine wpAny_Call_Name_kw (ld_glob I hg hm ?_ hdb)
  refine PySem.W.callWith_K (h₀ := X.base) I.ok.mod.kin hk (thn (ha.run.run pos pins s σ H (fun us H1 => spD X.K T S us H1 Q fun cls d H' => ∃ ρ vs ds c ns, World X.K G kp σ ρ vs ds H' ∧ XIs X.K c ns cls d H' ∧ Ex c ns ρ) I ⟨ρ, vs, ds, W, ha.mono _ _ _ (fun es os r z us H' l W' hl => sp_of (ρ := ρ) hS hT l W' hl z) q⟩) fun us s1 ⟨vs, H1, I1, r, q⟩ => ⟨I1.kIn, ?_⟩) he hpl
  exact run_G F hr hgd hb (passAt (W := fun cls d σ H => ∃ ρ vs ds c ns, World X.K G kp σ ρ vs ds H ∧ XIs X.K c ns cls d H ∧ Ex c ns ρ) hx σ) I1 r q
end
/-! ### a def's own proof -/
theorem guards_deeper {A : Around} {env : Env} (h : A.guards = some []) : (A.deeper env).guards = some [] := h
abbrev FX (P : Program) (w : PySem.World) (K : PySem.W.Frag) (mg : Str → Option Value) (base : Heap) (N : List Str) (qual : Str) (scope : Scope) (f : Addr) (cdv : Value) (A : Around) (outer : List Env) (s : Shared) (H : Hp) (E : XK) : Cx := cxOf (L2.CX P w) P w K mg base N qual scope f cdv A outer s H E
theorem FunD.okG {P : Program} {w : PySem.World} {K : PySem.W.Frag} {mg : Str → Option Value} {base : Heap} {x qual : Str} {params : Arguments} {body : List Stmt} {scope : Scope} {kws : List (Str × V)} {f : Addr} {fd : FuncData} {N ps : List Str} {k : Nat} {S : SD} {T : List (Addr × Str)} {kp : List Bool} {wd : XD → WS}
    (F : FunD K x qual params body scope [] kws f fd) (Sc : FnScope N ps scope) (hkp : kp.length = ps.length) (hS : ∀ ds Q E, S ds Q E → ds.length = ps.length)
    (hw : ∀ ds Q E, S ds Q E → wd (fun c ns ρ => E c ns (outs kp ρ)) { nx := fun ρ => Q .non (outs kp ρ), rt := fun d ρ => Q d (outs kp ρ) } (ds ++ List.replicate (N.length - ps.length) .gone))
    (hbody : ∀ (cdv : Value) (A : Around) (outer : List Env) (s : Shared) (H : Hp) (E : XK) (G : Gm) (Ex : XD), Room k (FX P w K mg base N qual scope f cdv A outer s H E).A → (FX P w K mg base N qual scope f cdv A outer s H E).A.guards = some [] → PySem.W.codeIn K cdv qual = true → G.T = T → G.n = N.length →
      TakesD (FX P w K mg base N qual scope f cdv A outer s H E) G kp Ex → DSs (FX P w K mg base N qual scope f cdv A outer s H E) G kp body (wd Ex)) : FnG P w K mg base (k + 1) f fd ps (spD K T S) := by
  obtain ⟨oc, od, dV, kV, doc, pm, an, cdv, ct, osl, rfl, lk, hcd, _, _⟩ := F.ex
  have hlN : ps.length ≤ N.length := by
    have := congrArg List.length Sc.pre
    rw [List.length_take] at this
    omega
  refine ⟨fun vs H Q E ⟨A, F, es, en, q⟩ => ?_, fun A outer s H args us vs Q E hr hgd he hb hv hsp => ?_⟩
  · rw [en.1.length]
    exact hS _ _ _ q
  · obtain ⟨A1, F1, es, en, q⟩ := hsp
    have lv : vs.length = ps.length := by rw [en.1.length]; exact hS _ _ _ q
    have lv2 : vs.length = es.length := en.1.length
    refine LamX.run_ofS lk hcd Sc hr he hb hv lv fun hr2 => ?_
    let G : Gm := ⟨H, A1, F1, T, vs.map some, N.length⟩
    let Ex : XD := fun c ns ρ => ∀ cls d H', World K ⟨H, A1, F1, T, vs.map some, 0⟩ [] [] [] vs (outs kp ρ) H' → XIs K c ns cls d H' → E cls d H'
    have fin : ∀ {vs2 : List V} {ds2 : List D} {σ : Sl} {ρ : List D} {H' : Hp}, World K G kp σ ρ vs2 ds2 H' → World K ⟨H, A1, F1, T, vs.map some, 0⟩ [] [] [] (vs2 ++ vs) (ds2 ++ outs kp ρ) H' := fun {vs2 ds2 σ ρ H'} W => World.end_ W (by rw [hkp, lv]) (by rw [lv]; exact hlN)
    have tk : TakesD (FX P w K mg base N qual scope f cdv A outer s H E) G kp Ex := by
      refine Takes.imp (takes_of (E := E) rfl rfl rfl rfl) fun c d σ H' h => ?_
      obtain ⟨ρ, vs2, ds2, c, ns, W, hx, hE⟩ := h
      refine hE _ _ _ ?_ hx
      have W1 : World K G kp σ ρ vs2 ds2 H' := W
      have W2 : World K G kp σ ρ [] [] H' := World.dropN (us := vs2) (es := ds2) (vs := []) (ds := []) (by simpa using W1) W1.lv
      exact fin W2
    have B := hbody cdv A outer s H E G Ex hr2 (guards_deeper hgd) hcd rfl rfl tk
    refine ⟨_, B.run, ?_⟩
    have W0 : World K G kp (L2.start N vs) (es ++ List.replicate (N.length - ps.length) .gone) [] [] H := by
      refine World.begin_ en (by rw [lv]) (fun j hj => ?_) (by rw [lv]; exact hlN)
      by_cases hl : j < vs.length
      · exact hl
      · rw [List.getD_eq_getElem?_getD, List.getElem?_eq_none (by rw [hkp, ← lv]; omega)] at hj
        cases hj
    refine ⟨_, [], [], W0, B.mono _ _ _ ?_ (hw es _ _ q)⟩
    refine ⟨fun ρ z σ' H' W => ?_, fun d ρ z v σ' H' W => z v H' (fin W), fun _ z => z.elim, fun _ z => z.elim⟩
    exact z .non H' (fin W.non)
theorem law_callG {P : Program} {w : PySem.World} {K : PySem.W.Frag} {mg mb : Str → Option Value} {k : Nat} {fa a : Addr} {cs : List (Addr × Addr)} {fd : FuncData} {x : Str} {sp : Sp} {z1 : Shared} {us : List Value} {ns : List Int}
    (kin : K.In z1.heap) (gns : z1.heap.Ns mainGlobals mg) (bns : z1.heap.Ns builtinsNs mb) (bnb : ∀ x : Str, x ≠ "__name__" → mb x = bootBuiltins x) (lim : z1.heap.NoLimit) (hgen : z1.gens = #[])
    (tabs : ∀ q ∈ cs, z1.heap.get? q.2 = some { cls := .none, data := .fields #[] }) (tabK : ∀ q ∈ cs, K.lookup q.2 = none) (heads : ∀ q ∈ cs, PySem.W.CodeHd z1.heap q.1 q.2)
    (bmod : ∃ (bm : Addr) (ob : Obj), mg "__builtins__" = some (.ref bm) ∧ bm ≠ builtinsNs ∧ z1.heap.get? bm = some ob ∧ ob.cls = .type "module" ∧ ob.dict = some builtinsNs ∧ ob.data = .plain)
    (scr : z1.heap.get? a = some { cls := .type "list", data := .seq us.toArray }) (isI : IntsAre us ns) (short : ns.length ≤ sizeLine) (room : Room k callerA)
    (F : ∀ base : Heap, K.In base → base.Ns mainGlobals mg → (∀ q ∈ cs, LamX.TabB base mg q.1 q.2) → FnG P w K mg base k fa fd [x] sp) (bind1 : ∀ (s : Shared) (u : Value), BindsTo s fd ⟨[u], []⟩ [(x, u)])
    (ask : ∀ H : Hp, (∀ q ∈ cs, H q.2 = some (.tbl #[])) → CnL K H a (ns.map V.int) → sp [.ref a] H (fun v _ => v = .bl true) fun _ _ _ => False) :
    codeAny (model P w) callerA (.call (.ref fa) ⟨[.ref a], []⟩) (fun r s' => r = .ok (.ret (.bool true)) ∧ OldK z1.heap s'.heap ∧ s'.os = z1.os ∧ AllBare s'.gens) z1 := by
  classical
  have vals := vals_ints isI
  have len1 := isI.length
  let Tb : List Addr := cs.map (·.2)
  have inTb : ∀ q ∈ cs, q.2 ∈ Tb := fun q hq => List.mem_map_of_mem hq
  have ofTb : ∀ b ∈ Tb, ∃ q ∈ cs, q.2 = b := fun b hb => List.mem_map.mp hb
  have aTb : a ∉ Tb := fun hb => by
    obtain ⟨q, hq, e⟩ := ofTb a hb
    have e2 := tabs q hq
    rw [e, scr] at e2
    exact absurd (congrArg Obj.data (Option.some.inj e2)) (fun z => nomatch z)
  let sO : HO := .frz { cls := .type "list", data := .seq us.toArray } (.lst (ns.map V.int))
  let H : Hp := fun b => if b = a ∧ K.lookup a = none then some sO else if b ∈ Tb then some (.tbl #[]) else none
  have atTb : ∀ b ∈ Tb, H b = some (.tbl #[]) := fun b hb => by
    have n : ¬ (b = a ∧ K.lookup a = none) := fun z => aTb (z.1 ▸ hb)
    show (if _ then _ else _) = _
    rw [if_neg n, if_pos hb]
  have cases_ : ∀ b u, H b = some u → (b = a ∧ K.lookup a = none ∧ u = sO) ∨ (b ∈ Tb ∧ u = .tbl #[]) := fun b u hu => by
    by_cases h1 : b = a ∧ K.lookup a = none
    · have e : H b = some sO := if_pos h1
      rw [hu] at e
      exact .inl ⟨h1.1, h1.2, Option.some.inj e⟩
    · have e : H b = if b ∈ Tb then some (.tbl #[]) else none := if_neg h1
      by_cases h2 : b ∈ Tb
      · rw [hu, if_pos h2] at e
        exact .inr ⟨h2, Option.some.inj e⟩
      · rw [hu, if_neg h2] at e
        cases e
  have untracked : ∀ {b : Addr} {o : Obj}, z1.heap.get? b = some o → (∀ vs n, o.data ≠ .seq vs n) → o.data ≠ .fields #[] → H b = none := fun {b o} e n1 n2 => by
    cases hu : H b with
    | none => rfl
    | some u =>
      rcases cases_ b u hu with ⟨rfl, _, _⟩ | ⟨hb, _⟩
      · rw [scr] at e
        cases e
        exact (n1 _ _ rfl).elim
      · obtain ⟨q, hq, rfl⟩ := ofTb b hb
        rw [tabs q hq] at e
        cases e
        exact (n2 rfl).elim
  have ofDict : ∀ {b : Addr} {o : Obj} {es : Array DictEntry} {ep : Nat}, z1.heap.get? b = some o → o.data = .dict es ep → H b = none := fun e d => untracked e (fun _ _ z => by rw [d] at z; cases z) fun z => by rw [d] at z; cases z
  have nsOf : ∀ {b : Addr} {m : Str → Option Value}, z1.heap.Ns b m → (hidT z1.heap H).Ns b m := fun ⟨o, es, ep, e, d, r⟩ => ⟨o, es, ep, hidT_get e (ofDict e d), d, r⟩
  have kin2 : K.In (hidT z1.heap H) := fun b o e => hidT_get (kin b o e) <| by
    cases hu : H b with
    | none => rfl
    | some u =>
      rcases cases_ b u hu with ⟨rfl, hn, _⟩ | ⟨hb, _⟩
      · rw [hn] at e; cases e
      · obtain ⟨q, hq, rfl⟩ := ofTb b hb
        rw [tabK q hq] at e; cases e
  have modl : L2.Mod K mg (hidT z1.heap H) := ⟨kin2, nsOf gns, ⟨mb, nsOf bns, bnb⟩, let ⟨m, h1, h2⟩ := lim; ⟨m, nsOf h1, h2⟩⟩
  have tabB : ∀ q ∈ cs, LamX.TabB (hidT z1.heap H) mg q.1 q.2 := fun q hq => by
    have here := tabs q hq
    refine ⟨?_, ?_, fun z => ?_⟩
    · obtain ⟨o, vs, file, tf, flags, tg, inF, text, tt, e1, r1, r2, r3, more⟩ := heads q hq
      refine ⟨o, vs, file, tf, flags, tg, inF, text, tt, hidT_get e1 (untracked e1 (fun _ _ z => by rw [r2] at z; cases z) fun z => ?_), r1, r2, r3, more⟩
      rw [r2] at z
      cases z
      simp at r3
    · obtain ⟨bm, ob, m1, m2, m3, m4, m5, m6⟩ := bmod
      refine ⟨bm, ob, m1, m2, fun z => ?_, fun z => ?_, hidT_get m3 (untracked m3 (fun _ _ z => by rw [m6] at z; cases z) fun z => by rw [m6] at z; cases z), m4, m5, m6⟩
      · obtain ⟨o, es, ep, e, d, _⟩ := gns
        rw [z, e] at m3
        cases m3
        rw [d] at m6
        cases m6
      · rw [z, here] at m3
        cases m3
        cases m6
    · obtain ⟨o, es, ep, e, d, _⟩ := gns
      rw [z, here] at e
      cases e
      cases d
  have hok : HOk P w H z1.heap := fun b u hu => by
    rcases cases_ b u hu with ⟨rfl, _, rfl⟩ | ⟨hb, rfl⟩
    · exact ⟨scr, by rw [List.length_map]; exact short, us, _, vals, scr⟩
    · obtain ⟨q, hq, rfl⟩ := ofTb b hb
      exact tabs q hq
  have env0 : Env0 P w K mg (hidT z1.heap H) callerA [] z1 H := ⟨rfl, modl, fun b o e => of_hidT e, Nat.le_of_eq (hidT_size _ _), trivial, fun b hb => (List.not_mem_nil hb).elim, hok, .of_eq hgen⟩
  have scrL : CnL K H a (ns.map V.int) := by
    cases hk : K.lookup a with
    | none => exact .inl ⟨{ cls := .type "list", data := .seq us.toArray }, if_pos ⟨rfl, hk⟩⟩
    | some o =>
      have e := kin a o hk
      rw [scr] at e
      cases e
      exact .inr ⟨_, us.toArray, _, hk, rfl, rfl, rfl, by rw [List.size_toArray, len1]; exact short, by simpa using vals⟩
  have run := (F _ kin2 (nsOf gns) tabB).run callerA [] z1 H ⟨[.ref a], []⟩ [.ref a] [.ref a] _ _ room rfl env0 (bind1 z1 (.ref a)) (.cons rfl .nil) (ask H (fun q hq => atTb _ (inTb q hq)) scrL)
  refine codeAny_mono run fun r s2 h => ?_
  match r, h with
  | .error e, h =>
    obtain ⟨_, _, _, _, _, _, _, _, _, _, _, _, z⟩ := h
    exact z.elim
  | .ok (.ret u), h =>
    obtain ⟨v, H2, os, bare, un, hok2, rv, q⟩ := h
    subst q
    obtain rfl : u = Value.bool true := rv
    have stays : ∀ b o, b ∉ Tb → z1.heap.get? b = some o → s2.heap.get? b = some o := fun b o nb e => by
      cases hu : H b with
      | none => exact un.keep b o e hu (fun z => (List.not_mem_nil z).elim) (List.not_mem_nil)
      | some u =>
        rcases cases_ b u hu with ⟨rfl, _, rfl⟩ | ⟨hb, _⟩
        · have z2 := un.frzs _ _ _ hu
          have e2 := (hok2 _ _ z2).1
          rw [scr] at e
          cases e
          exact e2
        · exact absurd hb nb
    have grown : ∀ q ∈ cs, ∃ more : Array Value, s2.heap.get? q.2 = some { cls := .none, data := .fields more } := fun q hq => by
      obtain ⟨more, z⟩ := un.tbls q.2 #[] (atTb _ (inTb q hq))
      exact ⟨_, hok2 q.2 _ z⟩
    refine ⟨rfl, ⟨fun b o e => ?_, fun b o e => ?_⟩, os, bare⟩
    · by_cases hb : b ∈ Tb
      · obtain ⟨q, hq, rfl⟩ := ofTb b hb
        obtain ⟨more, hm⟩ := grown q hq
        rw [tabs q hq] at e
        cases e
        exact .inr (.inl ⟨((heads q hq).tab (tabs q hq)).isCodeTable, rfl, #[], more, rfl, by simpa using hm⟩)
      · exact .inl (stays b o hb e)
    · by_cases hb : b ∈ Tb
      · obtain ⟨q, hq, rfl⟩ := ofTb b hb
        obtain ⟨more, hm⟩ := grown q hq
        exact ⟨_, hm⟩
      · exact ⟨o, stays b o hb e⟩
theorem reps_ints {K : PySem.W.Frag} {H : Hp} {F : AS} : ∀ ns : List Int, Reps K H F (ns.map V.int) (ns.map D.int) M0
  | [] => .nil
  | n :: r => .cons (B := M0) (C := M0) .int (reps_ints r) (fun _ h => h) (fun _ h => h) fun _ h => h.elim
/-- what a law's def is to be asked -/
def LawS (n : Nat) (S : SD) : Prop := ∀ ns : List Int, ns.length ≤ n → (∀ z ∈ ns, Builtin.Int.intBits z ≤ 1048576) → ∀ (Q : D → List D → Prop) (E : XD), (∀ r, Q (.bl true) r) → S [.lst .con (ns.map D.int)] Q E
structure LawG (l : PySem.W.OpenLaw) (w : PySem.World) (k n : Nat) (x : Str) (mg : Str → Option Value) (fa : Addr) (h : Heap) (K : PySem.W.Frag) (fd : FuncData) (cs : List (Addr × Addr)) (T : List (Addr × Str)) (S : SD) : Prop where
  kin : K.In h
  tabs : ∀ q ∈ cs, h.get? q.2 = some { cls := .none, data := .fields #[] }
  tabK : ∀ q ∈ cs, K.lookup q.2 = none
  heads : ∀ q ∈ cs, PySem.W.CodeHd h q.1 q.2
  bind1 : ∀ (s : Shared) (u : Value), BindsTo s fd ⟨[u], []⟩ [(x, u)]
  tab : ∀ p ∈ T, ∃ q ∈ cs, q.2 = p.1
  law : LawS n S
  fn : ∀ base : Heap, K.In base → base.Ns mainGlobals mg → (∀ q ∈ cs, LamX.TabB base mg q.1 q.2) → FnG l.prog w K mg base k fa fd [x] (spD K T S)
theorem walk_ofG {l : PySem.W.OpenLaw} {n k : Nat} {q : Program} {loose : List Str} {XP : (Str → Option Value) → Heap → Prop} {YP : PySem.World → Heap → Prop} {d : DefRec} {x : Str}
    (hn : l.most = some n) (hn2 : n ≤ sizeLine) (hdf : d.params.defaults = []) (hr : Room k callerA)
    (F : ∀ (w : PySem.World) (mg : Str → Option Value) (fa : Addr) (h : Heap), YP w h → h.Ns mainGlobals mg → mg d.name = some (.ref fa) → ∃ K fd cs T S, LawG l w k n x mg fa h K fd cs T S) :
    PySem.W.WalkO q loose XP YP l.row.toRowW d [] (fun f vs => PySem.call f vs) := by
  refine Att.attach_callB hn hdf fun w s₀ s₁ mg mb fa o pm cd doc a vs ns G Y ho hd hcd hmg hobj hints hlen hbits hg => ?_
  obtain ⟨K, fd, cs, T, S, c⟩ := F w mg fa _ Y G.T.g hmg
  refine law_callG c.kin G.T.g G.T.b G.T.builtins G.T.nolimit hg c.tabs c.tabK c.heads G.T.bmain hobj hints (Nat.le_trans hlen hn2) hr c.fn c.bind1 fun H hH hS => ?_
  refine ⟨M0, M0, [.lst .con (ns.map D.int)], ⟨.cons (B := M0) (C := M0) (.con hS (reps_ints ns)) .nil (fun _ h => h) (fun _ h => h) (fun _ h => h.elim), fun _ h => h.elim, fun _ h => h.elim, fun _ h => h.elim, fun p hp => ?_⟩, c.law ns hlen hbits _ _ fun r v H' W => W.isBl⟩
  obtain ⟨q, hq, e⟩ := c.tab p hp
  exact .nil (by rw [← e]; exact hH q hq)
section
variable {X : Cx} {G : Gm} {kp : List Bool} {e a b c o i : Expr} {pos p1 p2 : Pos} {we : WE} {wa wb wo wi : WB}
theorem de_bltn {x : Str} {n : String} (hg : Gl X x) (hm : X.mg x = none) (hv : bootBuiltins x = some (.type n)) (hn : x ≠ "__name__" := by decide) (hd : (x == ("__debug__" : Str)) = false := by decide) : DE X G kp (.Name x pos) (wC (.opq (.ty n))) := de_const (pe_bltn (v := .ty n) hg hm hv rfl hn hd) fun _ _ _ => .opq
/-! ### isinstance -/
def tyD : D → Option String
  | .non => some "NoneType"
  | .bl _ => some "bool"
  | .int _ => some "int"
  | .str _ => some "str"
  | .tup _ => some "tuple"
  | .lst _ _ => some "list"
  | .dct _ _ _ => some "dict"
  | _ => none
def isiD (d : D) (t : String) : Bool := match d with
  | .bl _ => t == "bool" || t == "int"
  | .int _ => t == "int"
  | .str _ => t == "str"
  | .tup _ => t == "tuple"
  | .lst _ _ => t == "list"
  | .dct _ _ _ => t == "dict"
  | _ => false
def tyNs : List String := ["bool", "int", "str", "tuple", "list", "dict"]
def tyNs2 : List String := ["NoneType", "bool", "int", "str", "tuple", "list", "dict"]
def tyAns (a t : String) : Bool := a == t || (a == "bool" && t == "int")
theorem kit_all : ∀ a ∈ tyNs2, ∀ t ∈ tyNs, kitB a t = some (tyAns a t) := by decide +kernel
theorem isi_eq : ∀ {d : D} {a t : String}, tyD d = some a → t ∈ tyNs → kitB a t = some (isiD d t) := by
  intro d a t h ht
  have h2 : a ∈ tyNs2 := by cases d <;> cases h <;> decide
  rw [kit_all a h2 t ht]
  cases d <;> cases h
  all_goals
    simp only [tyNs, List.mem_cons, List.not_mem_nil, or_false] at ht
    rcases ht with rfl | rfl | rfl | rfl | rfl | rfl <;> rfl
def isiF (d c : D) (Q : D → D → D → Prop) : Prop := match c with
  | .opq (.ty t) => (tyD d).isSome = true ∧ t ∈ tyNs ∧ Q (.bl (isiD d t)) d c
  | _ => False
theorem tyx_of {K : PySem.W.Frag} {H : Hp} {F A : AS} {v : V} {d : D} {a : String} (r : Rep K H F v d A) (h : tyD d = some a) : TyX K H v (.type a) := by
  cases r with
  | gone => cases h
  | non => cases h; exact .base .non
  | bl => cases h; exact .base (.bl _)
  | int => cases h; exact .base (.int _)
  | str => cases h; exact .base (.str _)
  | opq => cases h
  | tup t q =>
    cases h
    rcases t with ⟨o, e, _⟩ | ⟨o, its, n, e, c, _⟩
    · exact .fTuple e
    · exact .kTuple e c
  | own e _ _ _ => cases h; exact .base (.lst e)
  | shr e _ _ => cases h; exact .base (.lst e)
  | con t q =>
    cases h
    rcases t with ⟨o, e⟩ | ⟨o, its, n, e, c, _⟩
    · exact .base (.frz e)
    · exact .kList e c
  | dOwn e _ _ _ _ => cases h; exact .base (.dK e)
  | dShr e _ _ _ => cases h; exact .base (.dK e)
  | nOwn => cases h
  | nShr => cases h
  | tOwn => cases h
  | tShr => cases h
  | tCon => cases h
  | ldc => cases h
  | ext => cases h
  | ins => cases h
theorem World.tyx {K : PySem.W.Frag} {σ : Sl} {ρ : List D} {vs : List V} {ds : List D} {H : Hp} {v : V} {d : D} {a : String} (W : World K G kp σ ρ (v :: vs) (d :: ds) H) (h : tyD d = some a) : TyX K H v (.type a) := by
  obtain ⟨A, F, f⟩ := W
  have r := f.reps
  cases r with
  | cons p q i j k => exact tyx_of p h
theorem isiD_ok : CallD X G kp (rIsi X.K) (c2 isiF) := by
  refine c2_ok (fun d e P P' hp q => ?_) fun σ ρ vs ds u w d e H Q W q => ?_
  · cases e <;> first | exact q.elim | skip
    rename_i v
    cases v <;> first | exact q.elim | exact ⟨q.1, q.2.1, hp _ _ _ q.2.2⟩
  · cases e <;> first | exact q.elim | skip
    rename_i v
    cases v <;> first | exact q.elim | skip
    rename_i t
    obtain ⟨h1, h2, q⟩ := q
    obtain ⟨a, ha⟩ := Option.isSome_iff_exists.mp h1
    have e2 := World.isOpq (vs := vs) (ds := ds) W.swap.drop2
    subst e2
    exact ⟨u, .ty t, .type a, .type t, _, rfl, .ty t, W.tyx ha, kit_ty (isi_eq ha h2), q _ H W.bl⟩
/-! ### all, any -/
def allF (d : D) (Q : D → D → Prop) : Prop := match d with
  | .lst _ xs => ∃ bs, bls? xs = some bs ∧ Q (.bl (bs.all id)) d
  | _ => False
def anyF (d : D) (Q : D → D → Prop) : Prop := match d with
  | .lst _ xs => ∃ bs, bls? xs = some bs ∧ Q (.bl (bs.any id)) d
  | _ => False
theorem allD_ok : CallD X G kp (rAll X.K) (c1 allF) := by
  refine c1_ok (fun d P P' hp q => ?_) fun σ ρ vs ds u d H Q W q => ?_
  · cases d <;> first | exact q.elim | exact ⟨q.choose, q.choose_spec.1, hp _ _ q.choose_spec.2⟩
  · cases d <;> first | exact q.elim | skip
    obtain ⟨bs, h1, h2⟩ := q
    obtain ⟨a, us, rfl, t, e⟩ := W.lstR (P := fun us => us = bs.map V.bl) fun F A us r => r.bls h1
    subst e
    exact ⟨a, bs, rfl, t, h2 _ H W.bl⟩
/-! ### xs[i] = v -/
def setD (x i d : D) (Q : D → Prop) : Prop := match x, i with
  | .lst .own es, .int k => ∃ j, ixN es.length k = some j ∧ Q (.lst .own (es.set j d))
  | .dct .own ks es, .int k => setK ks es (.k (.inl k)) d Q
  | .dct .own ks es, .str k => setK ks es (.k (.inr k)) d Q
  | _, _ => False
theorem setD_of {x i d : D} {Q : D → Prop} (q : setD x i d Q) : (∃ es k j, x = .lst .own es ∧ i = .int k ∧ ixN es.length k = some j ∧ Q (.lst .own (es.set j d))) ∨
    (∃ ks es k, x = .dct .own ks es ∧ i = .int k ∧ setK ks es (.k (.inl k)) d Q) ∨ (∃ ks es k, x = .dct .own ks es ∧ i = .str k ∧ setK ks es (.k (.inr k)) d Q) := by
  unfold setD at q
  split at q
  · obtain ⟨j, h1, h2⟩ := q
    exact .inl ⟨_, _, j, rfl, rfl, h1, h2⟩
  · exact .inr (.inl ⟨_, _, _, rfl, rfl, q⟩)
  · exact .inr (.inr ⟨_, _, _, rfl, rfl, q⟩)
  · exact q.elim
theorem setD_mono {x i d : D} {P P' : D → Prop} (h : ∀ y, P y → P' y) (q : setD x i d P) : setD x i d P' := by
  rcases setD_of q with ⟨es, k, j, rfl, rfl, h1, h2⟩ | ⟨ks, es, k, rfl, rfl, q⟩ | ⟨ks, es, k, rfl, rfl, q⟩
  · exact ⟨j, h1, h _ h2⟩
  · exact setK_mono h q
  · exact setK_mono h q
abbrev rSetA : TSet := fun o i v H Q => rSetL o i v H Q ∨ rSetK o i v H Q
theorem set_all : PSet X rSetA := PSet.or set_list set_dK
def gS (wo wi : WB) : WG := fun d ρ Q => wo ρ fun x ox ρ1 => wi ρ1 fun y oy ρ2 => setD x y d fun x' => Q (gb ox x' (gb oy y ρ2))
end
/-- a name that a def may own -/
def nm (x : Str) : Bool := x != ("__debug__" : Str) && x != ("__classdict__" : Str) && x != ("__name__" : Str)
theorem nm1 {x : Str} (h : nm x = true) : (x == ("__debug__" : Str)) = false := by
  simp only [nm, Bool.and_eq_true, bne, Bool.not_eq_true'] at h
  exact h.1.1
theorem nm2 {x : Str} (h : nm x = true) : (x == ("__classdict__" : Str)) = false := by
  simp only [nm, Bool.and_eq_true, bne, Bool.not_eq_true'] at h
  exact h.1.2
abbrev subD : W2 := intD0 fun i j => .int (i - j)
abbrev divD : W2 := intD CDivW fun i j => .int (i / j)
abbrev modD : W2 := intD (fun _ j => 0 < j) fun i j => .int (i % j)
abbrev powD : W2 := intD CPow fun i j => .int (i ^ j.toNat)
abbrev ltD : W2 := intD0 fun i j => .bl (decide (i < j))
abbrev lteD : W2 := intD0 fun i j => .bl (decide (i ≤ j))
abbrev gtD : W2 := intD0 fun i j => .bl (decide (j < i))
abbrev gteD : W2 := intD0 fun i j => .bl (decide (j ≤ i))
/-- a callee, found by its global name -/
structure FnC (P : Program) (w : PySem.World) (K : PySem.W.Frag) (mg : Str → Option Value) (base : Heap) (T : List (Addr × Str)) (k : Nat) (x : Str) (ps : List Str) (S : SD) : Prop where
  ex : ∃ (f : Addr) (fd : FuncData), FnG P w K mg base k f fd ps (spD K T S) ∧ mg x = some (.ref f) ∧ PySem.W.keepIn K (.ref f) = true ∧ Binds K fd ps []
section
variable {X : Cx} {G : Gm} {kp : List Bool} {e a b c : Expr} {es : List Expr} {pos p1 p2 : Pos} {we : WE} {wa wb wc : WB} {wr : WBs} {k : Nat} {x : Str} {i : Nat}
theorem hu65 (hr : Room k X.A) : X.A.units + 65 < cLine := by have := hr.un; omega
theorem hu64 (hr : Room k X.A) : X.A.units + 64 < cLine := by have := hr.un; omega
theorem b_v (i : Nat) (hi : X.N[i]? = some x) (hv : Vis X.env.scope x) (h : nm x = true) : DB X G kp (.Name x pos) (wN i) := db_var hi hv (nm1 h) (nm2 h)
theorem e_v (i : Nat) (hi : X.N[i]? = some x) (hv : Vis X.env.scope x) (h : nm x = true) : DE X G kp (.Name x pos) (wV i) := de_var hi hv (nm1 h) (nm2 h)
theorem e_m (i : Nat) (hi : X.N[i]? = some x) (hv : Vis X.env.scope x) (h : nm x = true) : DE X G kp (.Name x pos) (wMv i) := de_mv hi hv (nm1 h) (nm2 h)
theorem e_gi {j : Int} (hg : Gl X x) (h : nm x = true) (hm : ∃ t, X.mg x = some (.int j t)) : DE X G kp (.Name x pos) (wC (.int j)) := de_globI hg hm (nm1 h)
section
variable (ha : DB X G kp a wa) (hb : DB X G kp b wb)
include ha hb
theorem e_add : DE X G kp (.BinOp a .Add b pos) (wOp addD wa wb) := de_op op_addA addD_ok ha hb
theorem e_sub : DE X G kp (.BinOp a .Sub b pos) (wOp subD wa wb) := de_op op_sub (intD0_ok fun _ _ _ _ _ => .int) ha hb
theorem e_mul : DE X G kp (.BinOp a .Mult b pos) (wOp mulD wa wb) := de_op op_mulA mulD_ok ha hb
theorem e_div : DE X G kp (.BinOp a .FloorDiv b pos) (wOp divD wa wb) := de_op op_fdivW (intD_ok fun _ _ _ _ _ => .int) ha hb
theorem e_mod : DE X G kp (.BinOp a .Mod b pos) (wOp modD wa wb) := de_op op_mod (intD_ok fun _ _ _ _ _ => .int) ha hb
theorem e_pow : DE X G kp (.BinOp a .Pow b pos) (wOp powD wa wb) := de_op op_pow (intD_ok fun _ _ _ _ _ => .int) ha hb
theorem e_lt : DE X G kp (.Compare a [.Lt] [b] pos) (wOp ltD wa wb) := de_cmp op_lt (intD0_ok fun _ _ _ _ _ => .bl) ha hb (nomark _)
theorem e_gt : DE X G kp (.Compare a [.Gt] [b] pos) (wOp gtD wa wb) := de_cmp op_gt (intD0_ok fun _ _ _ _ _ => .bl) ha hb (nomark _)
theorem e_ge : DE X G kp (.Compare a [.GtE] [b] pos) (wOp gteD wa wb) := de_cmp op_ge (intD0_ok fun _ _ _ _ _ => .bl) ha hb (nomark _)
theorem e_eq (hr : Room k X.A) : DE X G kp (.Compare a [.Eq] [b] pos) (wOp eqD wa wb) := de_cmp (op_eqD (hu64 hr)) eqD_ok ha hb (nomark _)
theorem t_lt : DT X G kp (.Compare a [.Lt] [b] pos) (wT (wOp ltD wa wb)) := dt_cmp op_lt (intD0_ok fun _ _ _ _ _ => .bl) ha hb (nomark _)
theorem t_gt : DT X G kp (.Compare a [.Gt] [b] pos) (wT (wOp gtD wa wb)) := dt_cmp op_gt (intD0_ok fun _ _ _ _ _ => .bl) ha hb (nomark _)
theorem t_eq (hr : Room k X.A) : DT X G kp (.Compare a [.Eq] [b] pos) (wT (wOp eqD wa wb)) := dt_cmp (op_eqD (hu64 hr)) eqD_ok ha hb (nomark _)
theorem t_ne (hr : Room k X.A) : DT X G kp (.Compare a [.NotEq] [b] pos) (wT (wOp neD wa wb)) := dt_cmp (op_neD (hu64 hr)) neD_ok ha hb (nomark _)
theorem t_in (hr : Room k X.A) (hm : behindInMarks .In b = false) : DT X G kp (.Compare a [.In] [b] pos) (wT (wOp (memD false) wa wb)) := dt_cmp (op_memA (hu65 hr)) memD_ok ha hb hm
theorem t_ni (hr : Room k X.A) (hm : behindInMarks .NotIn b = false) : DT X G kp (.Compare a [.NotIn] [b] pos) (wT (wOp (memD true) wa wb)) := dt_cmp (op_notMemA (hu65 hr)) notMemD_ok ha hb hm
end
theorem lm (b c : Expr) {o1 o2 : CmpOp} (h1 : o1 ≠ .In := by decide) (h2 : o1 ≠ .NotIn := by decide) (h3 : o2 ≠ .In := by decide) (h4 : o2 ≠ .NotIn := by decide) : lastMarks [o1, o2] [b, c] = false := by
  simp [lastMarks, nomark b h1 h2, nomark c h3 h4]
section
variable (ha : DB X G kp a wa) (hb : DB X G kp b wb) (hc : DB X G kp c wc)
include ha hb hc
theorem e_lele : DE X G kp (.Compare a [.LtE, .LtE] [b, c] pos) (wCh lteD lteD wa wb wc) := de_chain op_le op_le (intD0_ok fun _ _ _ _ _ => .bl) (intD0_ok fun _ _ _ _ _ => .bl) ha hb hc (lm _ _)
theorem t_lele : DT X G kp (.Compare a [.LtE, .LtE] [b, c] pos) (wT (wCh lteD lteD wa wb wc)) := dt_chain op_le op_le (intD0_ok fun _ _ _ _ _ => .bl) (intD0_ok fun _ _ _ _ _ => .bl) ha hb hc (lm _ _)
end
/-! ### built-ins -/
section
variable (ha : DBs X G kp (e :: es) wr) (he : starEach (e :: es) X.env = (false, eval e X.env) :: starEach es X.env := by rfl) (hpl : (backTo pos (starEach es X.env)).any (·.1) = false := by rfl)
theorem k_len (hg : Gl X "len") (hm : X.mg "len" = none) (ha : DBs X G kp (e :: es) wr) (he : starEach (e :: es) X.env = (false, eval e X.env) :: starEach es X.env := by rfl) (hpl : (backTo pos (starEach es X.env)).any (·.1) = false := by rfl) : DE X G kp (.Call (.Name "len" p1) (e :: es) [] pos) (wCall (c1 lenF) wr) := de_callB call_lenA lenD_ok hg hm boot_len ha (by decide) (by decide) he hpl
theorem k_max2 (hc : X.calm = true) (hg : Gl X "max") (hm : X.mg "max" = none) (ha : DBs X G kp (e :: es) wr) (he : starEach (e :: es) X.env = (false, eval e X.env) :: starEach es X.env := by rfl) (hpl : (backTo pos (starEach es X.env)).any (·.1) = false := by rfl) : DE X G kp (.Call (.Name "max" p1) (e :: es) [] pos) (wCall (c2 max2F) wr) := de_callB (call_max2 hc) max2D_ok hg hm boot_max ha (by decide) (by decide) he hpl
theorem k_min2 (hc : X.calm = true) (hg : Gl X "min") (hm : X.mg "min" = none) (ha : DBs X G kp (e :: es) wr) (he : starEach (e :: es) X.env = (false, eval e X.env) :: starEach es X.env := by rfl) (hpl : (backTo pos (starEach es X.env)).any (·.1) = false := by rfl) : DE X G kp (.Call (.Name "min" p1) (e :: es) [] pos) (wCall (c2 min2F) wr) := de_callB (call_min2 hc) min2D_ok hg hm boot_min ha (by decide) (by decide) he hpl
theorem k_abs (hg : Gl X "abs") (hm : X.mg "abs" = none) (ha : DBs X G kp (e :: es) wr) (he : starEach (e :: es) X.env = (false, eval e X.env) :: starEach es X.env := by rfl) (hpl : (backTo pos (starEach es X.env)).any (·.1) = false := by rfl) : DE X G kp (.Call (.Name "abs" p1) (e :: es) [] pos) (wCall (c1 absF) wr) := de_callB call_abs absD_ok hg hm boot_abs ha (by decide) (by decide) he hpl
theorem k_divmod (hg : Gl X "divmod") (hm : X.mg "divmod" = none) (ha : DBs X G kp (e :: es) wr) (he : starEach (e :: es) X.env = (false, eval e X.env) :: starEach es X.env := by rfl) (hpl : (backTo pos (starEach es X.env)).any (·.1) = false := by rfl) : DE X G kp (.Call (.Name "divmod" p1) (e :: es) [] pos) (wCall (c2 divF) wr) := de_callB call_divmodP divD_ok hg hm boot_divmod ha (by decide) (by decide) he hpl
theorem k_all (hc : X.calm = true) (hg : Gl X "all") (hm : X.mg "all" = none) (ha : DBs X G kp (e :: es) wr) (he : starEach (e :: es) X.env = (false, eval e X.env) :: starEach es X.env := by rfl) (hpl : (backTo pos (starEach es X.env)).any (·.1) = false := by rfl) : DE X G kp (.Call (.Name "all" p1) (e :: es) [] pos) (wCall (c1 allF) wr) := de_callB (cr_all hc) allD_ok hg hm boot_all ha (by decide) (by decide) he hpl
theorem k_isi (hg : Gl X "isinstance") (hm : X.mg "isinstance" = none) (ha : DBs X G kp (e :: es) wr) (he : starEach (e :: es) X.env = (false, eval e X.env) :: starEach es X.env := by rfl) (hpl : (backTo pos (starEach es X.env)).any (·.1) = false := by rfl) : DE X G kp (.Call (.Name "isinstance" p1) (e :: es) [] pos) (wCall (c2 isiF) wr) := de_callB call_isi isiD_ok hg hm boot_isinstance ha (by decide) (by decide) he hpl
theorem k_sorted (hc : X.calm = true) (hr : Room k X.A) (hg : Gl X "sorted") (hm : X.mg "sorted" = none) (ha : DBs X G kp (e :: es) wr) (he : starEach (e :: es) X.env = (false, eval e X.env) :: starEach es X.env := by rfl) (hpl : (backTo pos (starEach es X.env)).any (·.1) = false := by rfl) : DE X G kp (.Call (.Name "sorted" p1) (e :: es) [] pos) (wCall (c1 sortF) wr) := de_callB (call_sortA hc (hu64 hr)) sortD_ok hg hm boot_sorted ha (by decide) (by decide) he hpl
theorem k_tuple (hg : Gl X "tuple") (hm : X.mg "tuple" = none) (ha : DBs X G kp (e :: es) wr) (he : starEach (e :: es) X.env = (false, eval e X.env) :: starEach es X.env := by rfl) (hpl : (backTo pos (starEach es X.env)).any (·.1) = false := by rfl) : DE X G kp (.Call (.Name "tuple" p1) (e :: es) [] pos) (wCall (c1 tupF) wr) := de_callTy call_tupleP tupD_ok hg hm boot_tuple ha (by decide) (by decide) he hpl
end
/-! ### own defs -/
theorem k_fn {T : List (Addr × Str)} {j : Nat} {ps : List Str} {S : SD} {Ex : XD} (F : FnC X.prog X.w X.K X.mg X.base T j x ps S) (hS : SMono S) (hr : Room k X.A) (hgd : X.A.guards = some []) (hx : TakesD X G kp Ex) (hT : G.T = T) (hj : j ≤ k) (hg : Gl X x) (h : nm x = true)
    (ha : DBs X G kp (e :: es) wr) (he : starEach (e :: es) X.env = (false, eval e X.env) :: starEach es X.env := by rfl) (hpl : (backTo pos (starEach es X.env)).any (·.1) = false := by rfl) : DE X G kp (.Call (.Name x p1) (e :: es) [] pos) (wCallF S Ex wr) := by
  obtain ⟨f, fd, F, hm, hk, hb⟩ := F.ex
  exact de_callF F hS (hr.mono hj) hgd hg hm hk hb hx hT ha (nm1 h) he hpl
theorem takes_blk {X : Cx} {s : Shared} {H : Hp} {scope : Scope} {env : Env} {fp : List Addr} : TakesD (X.blk s H scope env fp) G kp noX := takes_no
end
section
variable {X : Cx} {G : Gm} {kp : List Bool} {e tg : Expr} {we : WE}
theorem gl_of {x : Str} (h : X.env.scope.names.lookup x = some NameKind.globalImplicit) : Gl X x := h
def ItK2 (K : PySem.W.Frag) (k : Bool) (a : Addr) : It := if k = true then Itt K a else Itl K a
def iSeq (K : PySem.W.Frag) (te : TE) : TI := fun σ H R => te σ H fun x H1 => (∃ k a xs, x = .ref a ∧ SqK k K H1 a xs ∧ R (ItK2 K k a) H1) ∨ ∃ z, x = .str z ∧ R (Its z) H1
theorem pi_seq {te : TE} (he : PE X e te) : PI X tg e (iSeq X.K te) := by
  refine ⟨fun pins s σ H R I h => thn (he.run pins s σ H _ I h) fun v s1 ⟨x, H1, I1, r1, q1⟩ => ?_⟩
  rcases q1 with ⟨k, a, xs, rfl, hq, q⟩ | ⟨z, rfl, q⟩
  · cases r1
    cases k with
    | true =>
      obtain ⟨its, rv, p, _⟩ := I1.tuple hq
      exact wpAny_pyIter_tuple (show s1.heap.IsTuple a its.toArray from p) (pi_one (tk := s1.toks) I1 _ (turn_tuple a _) ⟨_, Heap.get?_push_size _ rfl, rfl, rfl⟩ q)
    | false =>
      obtain ⟨its, rv, p, _⟩ := I1.list hq
      exact wpAny_pyIter_list p.isList (pi_one (tk := s1.toks) I1 _ (turn_list a _) ⟨_, Heap.get?_push_size _ rfl, rfl, rfl⟩ q)
  · obtain ⟨t, rfl⟩ := r1
    by_cases asc : z.cps.all (· < 128) = true
    · exact wpAny_pyIter_ascii asc (pi_one (tk := s1.toks) I1 _ (turn_str _ z t "str_ascii_iterator" (.inl rfl)) ⟨_, Heap.get?_push_size _ rfl, rfl, rfl⟩ q)
    · exact wpAny_pyIter_wide (by simpa using asc) (pi_one (tk := s1.toks) I1 _ (turn_str _ z t "str_iterator" (.inr rfl)) ⟨_, Heap.get?_push_size _ rfl, rfl, rfl⟩ q)
def signs (z : Str) : List (List D) := z.cps.toList.map fun c => [.str ⟨#[c]⟩]
def ones (xs : List D) : List (List D) := xs.map fun x => [x]
def wiS (w : WE) : WI := fun ρ Q => w ρ fun d r => match d with
  | .str z => Q (signs z) [] r
  | .lst m es => Q (ones (frzs es)) [.lst m (frzs es)] r
  | .tup es => Q (ones (frzs es)) [.tup (frzs es)] r
  | _ => False
theorem yl_seq {k : Bool} {a : Addr} {d : D} {xs : List D} (hd : seqO d = some (k, xs)) (s : solids xs = true) : Yl X.K G kp false (ItK2 X.K k a) [.ref a] [d] (ones xs) := fun i σ ρ vs ds H W => by
  obtain ⟨a', us, ea, q1, l1, mk⟩ := World.seq1 (vs := vs) (ds := ds) W hd s
  cases ea
  refine ⟨fun hi => ?_, fun its hits => ?_⟩
  · have hl : us.length ≤ i := by rw [hi, l1]; simp [ones]
    cases k with
    | true => exact ⟨us, q1, hl⟩
    | false => exact ⟨us, q1, hl⟩
  · unfold ones at hits
    rw [List.getElem?_map] at hits
    cases hz : xs[i]? with
    | none => rw [hz] at hits; cases hits
    | some z =>
      rw [hz] at hits
      cases hits
      obtain ⟨x, hx⟩ : ∃ x, us[i]? = some x := ⟨us[i]'(by
        have := (List.getElem?_eq_some_iff.mp hz).1
        omega), List.getElem?_eq_getElem _⟩
      have fin : ∀ y H', H' = H → us[i]? = some y → ∃ ys, ys.length = 1 ∧ Shape X.K false H' y ys ∧ World X.K G kp σ ρ (ys ++ ([V.ref a] ++ vs)) ([z] ++ ([d] ++ ds)) H' := fun y H' e hy => by
        subst e
        exact ⟨[y], rfl, rfl, mk i y _ hy hz⟩
      cases k with
      | true => exact ⟨⟨us, x, q1, hx⟩, fun y H' ⟨e1, e2⟩ => fin y H' e1 (e2 us q1)⟩
      | false => exact ⟨⟨us, x, q1, hx⟩, fun y H' ⟨e1, e2⟩ => fin y H' e1 (e2 us q1)⟩
theorem yl_str {z : Str} : Yl X.K G kp false (Its z) [] [] (signs z) := fun i σ ρ vs ds H W => by
  refine ⟨fun e => ?_, fun its hits => ?_⟩
  · show z.cps.size ≤ i
    rw [e]; simp [signs]
  · unfold signs at hits
    rw [List.getElem?_map] at hits
    cases hd : z.cps.toList[i]? with
    | none => rw [hd] at hits; cases hits
    | some c =>
      rw [hd] at hits
      cases hits
      have hc : z.cps[i]? = some c := by simpa using hd
      refine ⟨?_, fun x H' ⟨e1, c', e2, e3⟩ => ?_⟩
      · show i < z.cps.size
        exact (Array.getElem?_eq_some_iff.mp hc).1
      · subst e1 e3
        rw [hc] at e2
        cases e2
        exact ⟨[_], rfl, rfl, W.str⟩
theorem di_seq (h : DE X G kp e we) : DI X G kp false tg e (wiS we) := by
  refine ⟨fun ρ P P' hp q => h.mono _ _ _ (fun d r z => by cases d <;> first | exact z.elim | exact hp _ _ _ z) q, pi_imp (pi_seq h.run) fun σ H R ⟨ρ, vs, ds, W, q⟩ => ⟨ρ, vs, ds, W, h.mono _ _ _ (fun d r z v H' W' => ?_) q⟩⟩
  have go : ∀ k xs, seqO (frzK d) = some (k, xs) → solids xs = true → (∀ J us H', us.length = 1 → World X.K G kp σ r (us ++ vs) ([frzK d] ++ ds) H' → (∀ G' kp', Yl X.K G' kp' false J us [frzK d] (ones xs)) → R J H') → ∃ k a us, v = .ref a ∧ SqK k X.K H' a us ∧ R (ItK2 X.K k a) H' := fun k xs h1 s1 q => by
    have W1 : World X.K G kp σ r (v :: vs) (frzK d :: ds) H' := W'.frzKids
    obtain ⟨a, us, ea, q1, l1, mk⟩ := W1.seq1 h1 s1
    subst ea
    exact ⟨k, a, us, rfl, q1, q _ [.ref a] H' rfl W1 fun G' kp' => yl_seq h1 s1⟩
  cases d <;> first | exact z.elim | skip
  · have e := W'.isStr
    subst e
    exact .inr ⟨_, rfl, z _ [] H' rfl W'.drop fun G' kp' => yl_str⟩
  · exact .inl (go _ _ rfl (frzs_solid _) z)
  · exact .inl (go _ _ rfl (frzs_solid _) z)
/-! ### targets' lengths -/
def LenG (g : WGs) (n : Nat) : Prop := ∀ ds ρ P, g ds ρ P → ds.length = n
def GoG (g : WG) : Prop := (∀ d ρ P P', (∀ r, P r → P' r) → g d ρ P → g d ρ P') ∧ ∀ d ρ (C : Prop), g d ρ (fun _ => C) → C
theorem gg_N {i : Nat} : GoG (gN i) := ⟨fun d ρ P P' hp q => hp _ q, fun d ρ C q => q⟩
theorem ln_n : LenG gsN 0 := fun ds ρ P q => by rw [q.1]; rfl
theorem ln_c {g : WG} {r : WGs} {n : Nat} (h1 : GoG g) (h : LenG r n) : LenG (gsC g r) (n + 1) := fun ds ρ P q => by
  cases ds with
  | nil => exact q.elim
  | cons d ds =>
    have q : g d ρ fun ρ1 => r ds ρ1 P := q
    have := h1.2 d ρ (ds.length = n) (h1.1 _ _ _ _ (fun ρ1 z => h _ _ _ z) q)
    simp [this]
theorem g_tup {es : List Expr} {k : Nat} {pos : Pos} {g : WGs} (hc : X.calm = true) (h : DGs X G kp es g) (hl : LenG g es.length) (hn : (assignEach es X.env).length = es.length := by rfl) (hst : (assignEach es X.env).findIdx? (·.1) = none := by rfl) : DG X G kp (.Tuple es k pos) (gT g) := dg_tup hc h hl hn hst
theorem gi_tup {es : List Expr} {k : Nat} {pos : Pos} {g : WGs} (hc : X.calm = true) (h : DGs X G kp es g) (hl : LenG g es.length) (hn : (assignEach es X.env).length = es.length := by rfl) (hst : (assignEach es X.env).findIdx? (·.1) = none := by rfl) : DGI X G kp true (.Tuple es k pos) g := dgi_tup hc h hl hn hst
end
/-- a name's datum: lent -/
def nB (d : D) (i : Nat) (ρ : List D) (Q : D → Option Nat → List D → Prop) : Prop := match d with
  | .gone => False
  | .lst .own es => Q (.lst .own es) (some i) (ρ.set i .gone)
  | .dct .own ks es => Q (.dct .own ks es) (some i) (ρ.set i .gone)
  | .ndc .own ks es ow => Q (.ndc .own ks es ow) (some i) (ρ.set i .gone)
  | .tup es => if solids es = true then Q (.tup es) none ρ else Q (.tup es) (some i) (ρ.set i .gone)
  | .ldc o kvs es => if solids es = true then Q (.ldc o kvs es) none ρ else Q (.ldc o kvs es) (some i) (ρ.set i .gone)
  | .ins pa c ks es => Q (.ins pa c ks es) (some i) (ρ.set i .gone)
  | d => Q d none ρ
/-- .. shared -/
def nE (d : D) (i : Nat) (ρ : List D) (Q : D → List D → Prop) : Prop := match d with
  | .gone => False
  | .lst .own es => Q (.lst .shr (frzs es)) (ρ.set i (.lst .shr (frzs es)))
  | .dct .own ks es => Q (.dct .shr ks (frzs es)) (ρ.set i (.dct .shr ks (frzs es)))
  | .ndc .own ks es ow => Q (.ndc .shr ks (frzs es) ow) (ρ.set i (.ndc .shr ks (frzs es) ow))
  | .tup es => Q (.tup (frzs es)) (ρ.set i (.tup (frzs es)))
  | .ldc o kvs es => Q (.ldc o kvs (frzs es)) (ρ.set i (.ldc o kvs (frzs es)))
  | .ins _ _ _ _ => Q .gone (ρ.set i .gone)
  | d => Q d ρ
/-- .. moved -/
def nM (d : D) (i : Nat) (ρ : List D) (Q : D → List D → Prop) : Prop := match d with
  | .gone => False
  | .lst .own es => Q (.lst .own es) (ρ.set i .gone)
  | .dct .own ks es => Q (.dct .own ks es) (ρ.set i .gone)
  | .ndc .own ks es ow => Q (.ndc .own ks es ow) (ρ.set i .gone)
  | .tup es => if solids es = true then Q (.tup es) ρ else Q (.tup es) (ρ.set i .gone)
  | .ldc o kvs es => if solids es = true then Q (.ldc o kvs es) ρ else Q (.ldc o kvs es) (ρ.set i .gone)
  | .ins pa c ks es => Q (.ins pa c ks es) (ρ.set i .gone)
  | d => Q d ρ
section
variable {i : Nat} {ρ : List D}
theorem set_same {d : D} (h : ρ[i]? = some d) : ρ.set i d = ρ := by
  obtain ⟨hl, rfl⟩ := List.getElem?_eq_some_iff.mp h
  exact List.set_getElem_self hl
theorem wN_i {Q : D → Option Nat → List D → Prop} (d : D) (h : ρ[i]? = some d) (q : nB d i ρ Q) : wN i ρ Q := by
  refine ⟨d, h, ?_⟩
  cases d with
  | gone => exact q.elim
  | lst m es => cases m <;> exact ⟨trivial, q⟩
  | dct m ks es => cases m <;> exact ⟨trivial, q⟩
  | ndc m ks es ow => cases m <;> exact ⟨trivial, q⟩
  | tup es => exact ⟨trivial, q⟩
  | ldc o kvs es => exact ⟨trivial, q⟩
  | _ => exact ⟨trivial, q⟩
theorem wV_i {Q : D → List D → Prop} (d : D) (h : ρ[i]? = some d) (q : nE d i ρ Q) : wV i ρ Q := by
  refine ⟨d, h, ?_⟩
  have s := set_same h
  cases d with
  | gone => exact q.elim
  | lst m es =>
    cases m with
    | own => exact ⟨trivial, by rw [D.frz]; exact q⟩
    | shr => exact ⟨trivial, by show Q _ (ρ.set i (.lst .shr es)); rw [s]; exact q⟩
    | con => exact ⟨trivial, by show Q _ (ρ.set i (.lst .con es)); rw [s]; exact q⟩
  | dct m ks es =>
    cases m with
    | own => exact ⟨trivial, by rw [D.frz]; exact q⟩
    | shr => exact ⟨trivial, by show Q _ (ρ.set i (.dct .shr ks es)); rw [s]; exact q⟩
    | con => exact ⟨trivial, by show Q _ (ρ.set i (.dct .con ks es)); rw [s]; exact q⟩
  | ndc m ks es ow =>
    cases m with
    | own => exact ⟨trivial, by rw [D.frz]; exact q⟩
    | shr => exact ⟨trivial, by show Q _ (ρ.set i (.ndc .shr ks es ow)); rw [s]; exact q⟩
    | con => exact ⟨trivial, by show Q _ (ρ.set i (.ndc .con ks es ow)); rw [s]; exact q⟩
  | tup es => exact ⟨trivial, by rw [D.frz]; exact q⟩
  | ldc o kvs es => exact ⟨trivial, by rw [D.frz]; exact q⟩
  | non => exact ⟨trivial, by show Q _ (ρ.set i _); rw [show D.frz .non = .non from rfl, s]; exact q⟩
  | bl b => exact ⟨trivial, by show Q _ (ρ.set i _); rw [show D.frz (.bl b) = .bl b from rfl, s]; exact q⟩
  | int b => exact ⟨trivial, by show Q _ (ρ.set i _); rw [show D.frz (.int b) = .int b from rfl, s]; exact q⟩
  | str b => exact ⟨trivial, by show Q _ (ρ.set i _); rw [show D.frz (.str b) = .str b from rfl, s]; exact q⟩
  | opq b => exact ⟨trivial, by show Q _ (ρ.set i _); rw [show D.frz (.opq b) = .opq b from rfl, s]; exact q⟩
  | ext b => exact ⟨trivial, by show Q _ (ρ.set i _); rw [show D.frz (.ext b) = .ext b from rfl, s]; exact q⟩
  | ins pa c ks es => exact ⟨trivial, by rw [D.frz]; exact q⟩
theorem wM_i {Q : D → List D → Prop} (d : D) (h : ρ[i]? = some d) (q : nM d i ρ Q) : wMv i ρ Q := by
  refine ⟨d, h, ?_⟩
  cases d with
  | gone => exact q.elim
  | lst m es => cases m <;> exact ⟨trivial, q⟩
  | dct m ks es => cases m <;> exact ⟨trivial, q⟩
  | ndc m ks es ow => cases m <;> exact ⟨trivial, q⟩
  | tup es => exact ⟨trivial, q⟩
  | ldc o kvs es => exact ⟨trivial, q⟩
  | _ => exact ⟨trivial, q⟩
theorem wN_eq (Q : D → Option Nat → List D → Prop) : wN i ρ Q = nB (ρ.getD i .gone) i ρ Q := by
  cases h : ρ[i]? with
  | none =>
    rw [List.getD_eq_getElem?_getD, h]
    exact propext ⟨fun ⟨d, e, _⟩ => (by rw [h] at e; cases e), fun q => False.elim q⟩
  | some d =>
    rw [List.getD_eq_getElem?_getD, h]
    refine propext ⟨fun ⟨d', e, t, q⟩ => ?_, fun q => wN_i d h q⟩
    rw [h] at e; cases e
    show nB d i ρ Q
    cases d with
    | gone => exact t.elim
    | lst m es => cases m <;> exact q
    | dct m ks es => cases m <;> exact q
    | ndc m ks es ow => cases m <;> exact q
    | tup es => exact q
    | ldc o kvs es => exact q
    | _ => exact q
theorem wM_eq (Q : D → List D → Prop) : wMv i ρ Q = nM (ρ.getD i .gone) i ρ Q := by
  cases h : ρ[i]? with
  | none =>
    rw [List.getD_eq_getElem?_getD, h]
    exact propext ⟨fun ⟨d, e, _⟩ => (by rw [h] at e; cases e), fun q => False.elim q⟩
  | some d =>
    rw [List.getD_eq_getElem?_getD, h]
    refine propext ⟨fun ⟨d', e, t, q⟩ => ?_, fun q => wM_i d h q⟩
    rw [h] at e; cases e
    show nM d i ρ Q
    cases d with
    | gone => exact t.elim
    | lst m es => cases m <;> exact q
    | dct m ks es => cases m <;> exact q
    | ndc m ks es ow => cases m <;> exact q
    | tup es => exact q
    | ldc o kvs es => exact q
    | _ => exact q
theorem wV_eq (Q : D → List D → Prop) : wV i ρ Q = nE (ρ.getD i .gone) i ρ Q := by
  cases h : ρ[i]? with
  | none =>
    rw [List.getD_eq_getElem?_getD, h]
    exact propext ⟨fun ⟨d, e, _⟩ => (by rw [h] at e; cases e), fun q => False.elim q⟩
  | some d =>
    rw [List.getD_eq_getElem?_getD, h]
    refine propext ⟨fun ⟨d', e, t, q⟩ => ?_, fun q => wV_i d h q⟩
    rw [h] at e; cases e
    have s := set_same h
    show nE d i ρ Q
    have key : ∀ x : D, x.frz = d.frz → Q d.frz (ρ.set i d.frz) := fun _ _ => q
    cases d with
    | gone => exact t.elim
    | lst m es =>
      cases m with
      | own => rw [D.frz] at q; exact q
      | shr => have q : Q _ (ρ.set i (.lst .shr es)) := q; rw [s] at q; exact q
      | con => have q : Q _ (ρ.set i (.lst .con es)) := q; rw [s] at q; exact q
    | dct m ks es =>
      cases m with
      | own => rw [D.frz] at q; exact q
      | shr => have q : Q _ (ρ.set i (.dct .shr ks es)) := q; rw [s] at q; exact q
      | con => have q : Q _ (ρ.set i (.dct .con ks es)) := q; rw [s] at q; exact q
    | ndc m ks es ow =>
      cases m with
      | own => rw [D.frz] at q; exact q
      | shr => have q : Q _ (ρ.set i (.ndc .shr ks es ow)) := q; rw [s] at q; exact q
      | con => have q : Q _ (ρ.set i (.ndc .con ks es ow)) := q; rw [s] at q; exact q
    | tup es => rw [D.frz] at q; exact q
    | ldc o kvs es => rw [D.frz] at q; exact q
    | non => have q : Q .non (ρ.set i .non) := q; rw [s] at q; exact q
    | bl b => have q : Q (.bl b) (ρ.set i (.bl b)) := q; rw [s] at q; exact q
    | int b => have q : Q (.int b) (ρ.set i (.int b)) := q; rw [s] at q; exact q
    | str b => have q : Q (.str b) (ρ.set i (.str b)) := q; rw [s] at q; exact q
    | opq b => have q : Q (.opq b) (ρ.set i (.opq b)) := q; rw [s] at q; exact q
    | ext b => have q : Q (.ext b) (ρ.set i (.ext b)) := q; rw [s] at q; exact q
    | ins pa c ks es => rw [D.frz] at q; exact q
end
/-! ### by the datum -/
section
variable {i : Nat} {ρ : List D} {Q : D → Option Nat → List D → Prop} {R : D → List D → Prop}
theorem nB_non : nB .non i ρ Q = Q .non none ρ := rfl
theorem nB_bl {b : Bool} : nB (.bl b) i ρ Q = Q (.bl b) none ρ := rfl
theorem nB_int {b : Int} : nB (.int b) i ρ Q = Q (.int b) none ρ := rfl
theorem nB_str {b : Str} : nB (.str b) i ρ Q = Q (.str b) none ρ := rfl
theorem nB_opq {b : V} : nB (.opq b) i ρ Q = Q (.opq b) none ρ := rfl
theorem nB_own {es : List D} : nB (.lst .own es) i ρ Q = Q (.lst .own es) (some i) (ρ.set i .gone) := rfl
theorem nB_shr {es : List D} : nB (.lst .shr es) i ρ Q = Q (.lst .shr es) none ρ := rfl
theorem nB_con {es : List D} : nB (.lst .con es) i ρ Q = Q (.lst .con es) none ρ := rfl
theorem nB_down {ks : List DK} {es : List D} : nB (.dct .own ks es) i ρ Q = Q (.dct .own ks es) (some i) (ρ.set i .gone) := rfl
theorem nB_nown {ks es : List D} {ow : Option NW} : nB (.ndc .own ks es ow) i ρ Q = Q (.ndc .own ks es ow) (some i) (ρ.set i .gone) := rfl
theorem nB_dshr {ks : List DK} {es : List D} : nB (.dct .shr ks es) i ρ Q = Q (.dct .shr ks es) none ρ := rfl
theorem nB_nshr {ks es : List D} {ow : Option NW} : nB (.ndc .shr ks es ow) i ρ Q = Q (.ndc .shr ks es ow) none ρ := rfl
theorem nB_dcon {ks : List DK} {es : List D} : nB (.dct .con ks es) i ρ Q = Q (.dct .con ks es) none ρ := rfl
theorem nB_ncon {ks es : List D} {ow : Option NW} : nB (.ndc .con ks es ow) i ρ Q = Q (.ndc .con ks es ow) none ρ := rfl
theorem nB_tup {es : List D} : nB (.tup es) i ρ Q = if solids es = true then Q (.tup es) none ρ else Q (.tup es) (some i) (ρ.set i .gone) := rfl
theorem nE_non : nE .non i ρ R = R .non ρ := rfl
theorem nE_bl {b : Bool} : nE (.bl b) i ρ R = R (.bl b) ρ := rfl
theorem nE_int {b : Int} : nE (.int b) i ρ R = R (.int b) ρ := rfl
theorem nE_str {b : Str} : nE (.str b) i ρ R = R (.str b) ρ := rfl
theorem nE_opq {b : V} : nE (.opq b) i ρ R = R (.opq b) ρ := rfl
theorem nE_own {es : List D} : nE (.lst .own es) i ρ R = R (.lst .shr (frzs es)) (ρ.set i (.lst .shr (frzs es))) := rfl
theorem nE_shr {es : List D} : nE (.lst .shr es) i ρ R = R (.lst .shr es) ρ := rfl
theorem nE_con {es : List D} : nE (.lst .con es) i ρ R = R (.lst .con es) ρ := rfl
theorem nE_down {ks : List DK} {es : List D} : nE (.dct .own ks es) i ρ R = R (.dct .shr ks (frzs es)) (ρ.set i (.dct .shr ks (frzs es))) := rfl
theorem nE_nown {ks es : List D} {ow : Option NW} : nE (.ndc .own ks es ow) i ρ R = R (.ndc .shr ks (frzs es) ow) (ρ.set i (.ndc .shr ks (frzs es) ow)) := rfl
theorem nE_dshr {ks : List DK} {es : List D} : nE (.dct .shr ks es) i ρ R = R (.dct .shr ks es) ρ := rfl
theorem nE_nshr {ks es : List D} {ow : Option NW} : nE (.ndc .shr ks es ow) i ρ R = R (.ndc .shr ks es ow) ρ := rfl
theorem nE_dcon {ks : List DK} {es : List D} : nE (.dct .con ks es) i ρ R = R (.dct .con ks es) ρ := rfl
theorem nE_ncon {ks es : List D} {ow : Option NW} : nE (.ndc .con ks es ow) i ρ R = R (.ndc .con ks es ow) ρ := rfl
theorem nE_tup {es : List D} : nE (.tup es) i ρ R = R (.tup (frzs es)) (ρ.set i (.tup (frzs es))) := rfl
theorem nM_non : nM .non i ρ R = R .non ρ := rfl
theorem nM_bl {b : Bool} : nM (.bl b) i ρ R = R (.bl b) ρ := rfl
theorem nM_int {b : Int} : nM (.int b) i ρ R = R (.int b) ρ := rfl
theorem nM_str {b : Str} : nM (.str b) i ρ R = R (.str b) ρ := rfl
theorem nM_opq {b : V} : nM (.opq b) i ρ R = R (.opq b) ρ := rfl
theorem nM_own {es : List D} : nM (.lst .own es) i ρ R = R (.lst .own es) (ρ.set i .gone) := rfl
theorem nM_shr {es : List D} : nM (.lst .shr es) i ρ R = R (.lst .shr es) ρ := rfl
theorem nM_con {es : List D} : nM (.lst .con es) i ρ R = R (.lst .con es) ρ := rfl
theorem nM_down {ks : List DK} {es : List D} : nM (.dct .own ks es) i ρ R = R (.dct .own ks es) (ρ.set i .gone) := rfl
theorem nM_nown {ks es : List D} {ow : Option NW} : nM (.ndc .own ks es ow) i ρ R = R (.ndc .own ks es ow) (ρ.set i .gone) := rfl
theorem nM_dshr {ks : List DK} {es : List D} : nM (.dct .shr ks es) i ρ R = R (.dct .shr ks es) ρ := rfl
theorem nM_nshr {ks es : List D} {ow : Option NW} : nM (.ndc .shr ks es ow) i ρ R = R (.ndc .shr ks es ow) ρ := rfl
theorem nM_dcon {ks : List DK} {es : List D} : nM (.dct .con ks es) i ρ R = R (.dct .con ks es) ρ := rfl
theorem nM_ncon {ks es : List D} {ow : Option NW} : nM (.ndc .con ks es ow) i ρ R = R (.ndc .con ks es ow) ρ := rfl
theorem nM_tup {es : List D} : nM (.tup es) i ρ R = if solids es = true then R (.tup es) ρ else R (.tup es) (ρ.set i .gone) := rfl
end
/-! ### isinstance, worked out -/
theorem tyN_bool : ("bool" ∈ tyNs) = True := eq_true (by decide)
theorem tyN_int : ("int" ∈ tyNs) = True := eq_true (by decide)
theorem tyN_str : ("str" ∈ tyNs) = True := eq_true (by decide)
theorem tyN_tuple : ("tuple" ∈ tyNs) = True := eq_true (by decide)
theorem tyN_list : ("list" ∈ tyNs) = True := eq_true (by decide)
theorem tyN_dict : ("dict" ∈ tyNs) = True := eq_true (by decide)
theorem tyS_non : (tyD (.non)).isSome = true := rfl
theorem isi_non_bool : isiD (.non) "bool" = false := rfl
theorem isi_non_int : isiD (.non) "int" = false := rfl
theorem isi_non_str : isiD (.non) "str" = false := rfl
theorem isi_non_tuple : isiD (.non) "tuple" = false := rfl
theorem isi_non_list : isiD (.non) "list" = false := rfl
theorem isi_non_dict : isiD (.non) "dict" = false := rfl
theorem tyS_bl {b : Bool} : (tyD (.bl b)).isSome = true := rfl
theorem isi_bl_bool {b : Bool} : isiD (.bl b) "bool" = true := rfl
theorem isi_bl_int {b : Bool} : isiD (.bl b) "int" = true := rfl
theorem isi_bl_str {b : Bool} : isiD (.bl b) "str" = false := rfl
theorem isi_bl_tuple {b : Bool} : isiD (.bl b) "tuple" = false := rfl
theorem isi_bl_list {b : Bool} : isiD (.bl b) "list" = false := rfl
theorem isi_bl_dict {b : Bool} : isiD (.bl b) "dict" = false := rfl
theorem tyS_int {b : Int} : (tyD (.int b)).isSome = true := rfl
theorem isi_int_bool {b : Int} : isiD (.int b) "bool" = false := rfl
theorem isi_int_int {b : Int} : isiD (.int b) "int" = true := rfl
theorem isi_int_str {b : Int} : isiD (.int b) "str" = false := rfl
theorem isi_int_tuple {b : Int} : isiD (.int b) "tuple" = false := rfl
theorem isi_int_list {b : Int} : isiD (.int b) "list" = false := rfl
theorem isi_int_dict {b : Int} : isiD (.int b) "dict" = false := rfl
theorem tyS_str {b : Str} : (tyD (.str b)).isSome = true := rfl
theorem isi_str_bool {b : Str} : isiD (.str b) "bool" = false := rfl
theorem isi_str_int {b : Str} : isiD (.str b) "int" = false := rfl
theorem isi_str_str {b : Str} : isiD (.str b) "str" = true := rfl
theorem isi_str_tuple {b : Str} : isiD (.str b) "tuple" = false := rfl
theorem isi_str_list {b : Str} : isiD (.str b) "list" = false := rfl
theorem isi_str_dict {b : Str} : isiD (.str b) "dict" = false := rfl
theorem tyS_tup {b : List D} : (tyD (.tup b)).isSome = true := rfl
theorem isi_tup_bool {b : List D} : isiD (.tup b) "bool" = false := rfl
theorem isi_tup_int {b : List D} : isiD (.tup b) "int" = false := rfl
theorem isi_tup_str {b : List D} : isiD (.tup b) "str" = false := rfl
theorem isi_tup_tuple {b : List D} : isiD (.tup b) "tuple" = true := rfl
theorem isi_tup_list {b : List D} : isiD (.tup b) "list" = false := rfl
theorem isi_tup_dict {b : List D} : isiD (.tup b) "dict" = false := rfl
theorem tyS_lst {m : M} {b : List D} : (tyD (.lst m b)).isSome = true := rfl
theorem isi_lst_bool {m : M} {b : List D} : isiD (.lst m b) "bool" = false := rfl
theorem isi_lst_int {m : M} {b : List D} : isiD (.lst m b) "int" = false := rfl
theorem isi_lst_str {m : M} {b : List D} : isiD (.lst m b) "str" = false := rfl
theorem isi_lst_tuple {m : M} {b : List D} : isiD (.lst m b) "tuple" = false := rfl
theorem isi_lst_list {m : M} {b : List D} : isiD (.lst m b) "list" = true := rfl
theorem isi_lst_dict {m : M} {b : List D} : isiD (.lst m b) "dict" = false := rfl
theorem tyS_dct {m : M} {ks : List DK} {b : List D} : (tyD (.dct m ks b)).isSome = true := rfl
theorem isi_dct_bool {m : M} {ks : List DK} {b : List D} : isiD (.dct m ks b) "bool" = false := rfl
theorem isi_dct_int {m : M} {ks : List DK} {b : List D} : isiD (.dct m ks b) "int" = false := rfl
theorem isi_dct_str {m : M} {ks : List DK} {b : List D} : isiD (.dct m ks b) "str" = false := rfl
theorem isi_dct_tuple {m : M} {ks : List DK} {b : List D} : isiD (.dct m ks b) "tuple" = false := rfl
theorem isi_dct_list {m : M} {ks : List DK} {b : List D} : isiD (.dct m ks b) "list" = false := rfl
theorem isi_dct_dict {m : M} {ks : List DK} {b : List D} : isiD (.dct m ks b) "dict" = true := rfl
theorem getD0 {d : D} {r : List D} : (d :: r).getD 0 .gone = d := rfl
theorem getDs {d : D} {r : List D} {n : Nat} : (d :: r).getD (n + 1) .gone = r.getD n .gone := by simp [List.getD]
theorem ints_solid (ns : List Int) : solids (ns.map D.int) = true := by
  induction ns with
  | nil => rfl
  | cons n r ih => rw [List.map_cons, solids, ih]; rfl
theorem ints_frz (ns : List Int) : frzs (ns.map D.int) = ns.map D.int := frzs_of_solid _ (ints_solid ns)
/-! ### big products, divisors -/
theorem log2_lt_of {n k : Nat} (h : n < 2 ^ k) : n.log2 ≤ k := by
  by_cases h0 : n = 0
  · subst h0; simp
  · exact Nat.le_of_lt ((Nat.log2_lt h0).mpr h)
theorem natAbs_lt_of {i : Int} {k : Nat} (h1 : -(2 ^ k) < i) (h2 : i < 2 ^ k) : i.natAbs < 2 ^ k := by
  have e : ((2 ^ k : Nat) : Int) = 2 ^ k := by simp
  omega
theorem mulW (a b : Nat) {i j : Int} (h1 : -(2 ^ a) < i) (h2 : i < 2 ^ a) (h3 : -(2 ^ b) < j) (h4 : j < 2 ^ b) (h : a + b < 1000000) : CMulW i j := by
  have x := log2_lt_of (natAbs_lt_of h1 h2)
  have y := log2_lt_of (natAbs_lt_of h3 h4)
  show _ + _ < 1000000
  omega
theorem divW (a : Nat) {i j : Int} (h1 : 0 < j) (h2 : j < 2 ^ a) (h : a < 9000) : CDivW i j := by
  have h3 : -(2 ^ a) < j := by
    have : (0 : Int) < 2 ^ a := Int.pow_pos (by decide)
    omega
  have x := log2_lt_of (natAbs_lt_of h3 h2)
  exact ⟨h1, by omega⟩
/-! ### what == compares -/
def okP (d : D) (n : Nat) : Prop := d.py.canLay0 = true ∧ d.py.depth ≤ n
theorem okP.le {d : D} {m n : Nat} (h : okP d m) (l : m ≤ n) : okP d n := ⟨h.1, Nat.le_trans h.2 l⟩
theorem okP_non {n : Nat} : okP .non n := ⟨by simp [D.py, PyData.canLay0], by simp [D.py, PyData.depth]⟩
theorem okP_bl {b : Bool} {n : Nat} : okP (.bl b) n := ⟨by simp [D.py, PyData.canLay0], by simp [D.py, PyData.depth]⟩
theorem okP_int {b : Int} {n : Nat} : okP (.int b) n := ⟨by simp [D.py, PyData.canLay0], by simp [D.py, PyData.depth]⟩
theorem okP_all {n : Nat} : ∀ {ds : List D}, (∀ d ∈ ds, okP d n) → PyData.canLayAll0 (pys ds) = true ∧ PyData.depthAll (pys ds) ≤ n
  | [], _ => ⟨by simp [pys, PyData.canLayAll0], by simp [pys, PyData.depthAll]⟩
  | d :: r, h => by
    have h1 := h d List.mem_cons_self
    have h2 := okP_all (ds := r) fun x hx => h x (List.mem_cons_of_mem _ hx)
    rw [pys, PyData.canLayAll0, PyData.depthAll, h1.1, h2.1]
    exact ⟨rfl, by have := h1.2; have := h2.2; omega⟩
theorem okP_tup {ds : List D} {n : Nat} (h : ∀ d ∈ ds, okP d n) : okP (.tup ds) (n + 1) := by
  have := okP_all h
  exact ⟨by rw [D.py, PyData.canLay0]; exact this.1, by rw [D.py, PyData.depth]; omega⟩
theorem okP_lst {m : M} {ds : List D} {n : Nat} (h : ∀ d ∈ ds, okP d n) : okP (.lst m ds) (n + 1) := by
  have := okP_all h
  exact ⟨by rw [D.py, PyData.canLay0]; exact this.1, by rw [D.py, PyData.depth]; omega⟩
theorem shp_of {d : D} {n : Nat} (h : okP d n) (l : n ≤ 64) : shp d := by
  unfold shp SeqAt.shaped
  rw [h.1, Bool.true_and, decide_eq_true_eq]
  exact Nat.le_trans h.2 l
theorem okP_ints {ns : List Int} {n : Nat} : ∀ d ∈ ns.map D.int, okP d n := fun d h => by
  obtain ⟨i, _, rfl⟩ := List.mem_map.mp h
  exact okP_int
theorem shp_non : shp .non = True := eq_true (shp_of (n := 0) okP_non (by decide))
theorem shp_bl {b : Bool} : shp (.bl b) = True := eq_true (shp_of (n := 0) okP_bl (by decide))
theorem shp_int {b : Int} : shp (.int b) = True := eq_true (shp_of (n := 0) okP_int (by decide))
theorem shp_tints {ns : List Int} : shp (.tup (ns.map D.int)) = True := eq_true (shp_of (n := 1) (okP_tup okP_ints) (by decide))
theorem shp_lints {m : M} {ns : List Int} : shp (.lst m (ns.map D.int)) = True := eq_true (shp_of (n := 1) (okP_lst okP_ints) (by decide))
theorem shp_tnil : shp (.tup []) = True := eq_true (shp_of (n := 1) (okP_tup (fun _ h => (List.not_mem_nil h).elim)) (by decide))
theorem shp_lnil {m : M} : shp (.lst m []) = True := eq_true (shp_of (n := 1) (okP_lst (fun _ h => (List.not_mem_nil h).elim)) (by decide))
theorem eqd_int {i j : Int} : eqd (.int i) (.int j) = decide (i = j) := by simp only [eqd, D.py, PyData.eqv]; by_cases h : i = j <;> simp [h]
theorem eqd_str {i j : Str} : eqd (.str i) (.str j) = decide (i = j) := by simp only [eqd, D.py, PyData.eqv]; by_cases h : i = j <;> simp [h]
theorem eqd_bl {i j : Bool} : eqd (.bl i) (.bl j) = decide (i = j) := by simp only [eqd, D.py, PyData.eqv]; by_cases h : i = j <;> simp [h]
theorem eqd_non : eqd .non .non = true := by simp only [eqd, D.py, PyData.eqv]
theorem eqv_ints : ∀ xs ys : List Int, PyData.eqvAll (pys (xs.map D.int)) (pys (ys.map D.int)) = decide (xs = ys)
  | [], [] => by simp [pys, PyData.eqvAll]
  | x :: xs, [] => by simp [pys, PyData.eqvAll]
  | [], y :: ys => by simp [pys, PyData.eqvAll]
  | x :: xs, y :: ys => by
    rw [List.map_cons, List.map_cons, pys, pys, PyData.eqvAll, eqv_ints xs ys, show PyData.eqv (D.int x).py (D.int y).py = decide (x = y) from eqd_int]
    by_cases h : x = y <;> by_cases h2 : xs = ys <;> simp [h, h2]
theorem eqd_tints {xs ys : List Int} : eqd (.tup (xs.map D.int)) (.tup (ys.map D.int)) = decide (xs = ys) := by
  simp only [eqd, D.py, PyData.eqv]; exact eqv_ints xs ys
theorem eqd_lints {m n : M} {xs ys : List Int} : eqd (.lst m (xs.map D.int)) (.lst n (ys.map D.int)) = decide (xs = ys) := by
  simp only [eqd, D.py, PyData.eqv]; exact eqv_ints xs ys
theorem dec_if {c : Prop} [Decidable c] {A B : Prop} : (if decide c = true then A else B) = if c then A else B := by simp
theorem dec_ifn {c : Prop} [Decidable c] {A B : Prop} : (if (!decide c) = true then A else B) = if c then B else A := by by_cases h : c <;> simp [h]
theorem two_le {i j : Nat} (h : i ≤ j) : (2 : Int) ^ i ≤ 2 ^ j := by
  have := Nat.pow_le_pow_right (n := 2) (by decide) h
  have e1 : ((2 ^ i : Nat) : Int) = 2 ^ i := by simp
  have e2 : ((2 ^ j : Nat) : Int) = 2 ^ j := by simp
  omega
theorem atI_nat {α : Type} {xs : List α} {k : Int} {x : α} (h0 : 0 ≤ k) (h : xs[k.toNat]? = some x) : atI xs k = some x := by
  have hl := (List.getElem?_eq_some_iff.mp h).1
  unfold atI ixN
  rw [if_pos h0, if_pos (by omega)]
  exact h
theorem atI_ints {ns : List Int} {k : Int} (h0 : 0 ≤ k) (h : k < (ns.length : Int)) : atI (ns.map D.int) k = some (.int (ns.getD k.toNat 0)) := by
  refine atI_nat h0 ?_
  have hl : k.toNat < ns.length := by omega
  rw [List.getElem?_map, List.getD_eq_getElem?_getD, List.getElem?_eq_getElem hl]
  rfl
theorem at0 {α : Type} {x : α} {xs : List α} : atI (x :: xs) 0 = some x := by simp [atI, ixN]
theorem at1 {α : Type} {x y : α} {xs : List α} : atI (x :: y :: xs) 1 = some y := by
  unfold atI ixN
  rw [if_pos (by decide), if_pos (by simp; omega)]
  rfl
theorem at2 {α : Type} {x y z : α} {xs : List α} : atI (x :: y :: z :: xs) 2 = some z := by
  unfold atI ixN
  rw [if_pos (by decide), if_pos (by simp; omega)]
  rfl
theorem ix_nat {n : Nat} {k : Int} (h0 : 0 ≤ k) (h : k < n) : ixN n k = some k.toNat := by
  unfold ixN
  rw [if_pos h0, if_pos h]
theorem ix0 {n : Nat} : ixN (n + 1) 0 = some 0 := by unfold ixN; rw [if_pos (by decide), if_pos (by omega)]; rfl
theorem ix1 {n : Nat} : ixN (n + 1 + 1) 1 = some 1 := by unfold ixN; rw [if_pos (by decide), if_pos (by omega)]; rfl
theorem ix2 {n : Nat} : ixN (n + 1 + 1 + 1) 2 = some 2 := by unfold ixN; rw [if_pos (by decide), if_pos (by omega)]; rfl
/-- what is to be shown of a def's reading -/
def Tells (S : SD) (kp : List Bool) (n : Nat) (wd : XD → WS) : Prop := ∀ ds Q E, S ds Q E → wd (fun c ns ρ => E c ns (outs kp ρ)) { nx := fun ρ => Q .non (outs kp ρ), rt := fun d ρ => Q d (outs kp ρ) } (ds ++ List.replicate n .gone)
theorem forL_ok {g : WGs} {wb : WS} {E : DEnds} : ∀ (items : List (List D)) (I : Nat → List D → Prop) (n : Nat) (ρ : List D), I n ρ →
    (∀ i its ρ (K : List D → Prop), items[i]? = some its → I (n + i) ρ → (∀ ρ', I (n + i + 1) ρ' → K ρ') → g its ρ fun ρ1 => wb { E with nx := K, ct := K, bk := E.nx } ρ1) → (∀ ρ, I (n + items.length) ρ → E.nx ρ) → forL g wb E items ρ
  | [], I, n, ρ, h, _, hd => hd ρ h
  | its :: r, I, n, ρ, h, hs, hd => by
    refine hs 0 its ρ _ rfl h fun ρ' h' => forL_ok r I (n + 1) ρ' h' (fun i its ρ K hi h hk => hs (i + 1) its ρ K hi (by rw [← Nat.add_assoc, Nat.add_right_comm]; exact h) (by rw [← Nat.add_assoc, Nat.add_right_comm n i 1]; exact hk)) fun ρ h => hd ρ (by rw [List.length_cons, ← Nat.add_assoc, Nat.add_right_comm]; exact h)
/-- from the start -/
theorem forL_inv {g : WGs} {wb : WS} {E : DEnds} {items : List (List D)} {ρ : List D} (I : Nat → List D → Prop) (h0 : I 0 ρ)
    (hs : ∀ i its ρ (K : List D → Prop), items[i]? = some its → I i ρ → (∀ ρ', I (i + 1) ρ' → K ρ') → g its ρ fun ρ1 => wb { E with nx := K, ct := K, bk := E.nx } ρ1) (hd : ∀ ρ, I items.length ρ → E.nx ρ) : forL g wb E items ρ :=
  forL_ok items I 0 ρ h0 (fun i its ρ K hi h hk => hs i its ρ K hi (by rw [Nat.zero_add] at h; exact h) (by rw [Nat.zero_add] at hk; exact hk)) (by rw [Nat.zero_add]; exact hd)
theorem lcL_ok {g : WGs} {wt : WT} {we : WE} {own : List Nat} {Q : List D → List D → Prop} : ∀ (items : List (List D)) (I : Nat → List D → List D → Prop) (n : Nat) (acc ρ : List D), I n acc ρ →
    (∀ i its acc ρ (K : List D → List D → Prop), items[i]? = some its → I (n + i) acc ρ → (∀ acc' ρ', I (n + i + 1) acc' ρ' → K acc' ρ') → g its ρ fun ρ1 => wt ρ1 fun b ρ2 => if b = true then we ρ2 fun d ρ3 => K (acc ++ [d]) (wipeD ρ3 own) else K acc (wipeD ρ2 own)) →
    (∀ acc ρ, I (n + items.length) acc ρ → Q acc ρ) → lcL g wt we own Q items acc ρ
  | [], I, n, acc, ρ, h, _, hd => hd acc ρ h
  | its :: r, I, n, acc, ρ, h, hs, hd => by
    refine hs 0 its acc ρ (lcL g wt we own Q r) rfl h fun acc' ρ' h' => lcL_ok r I (n + 1) acc' ρ' h' (fun i its acc ρ K hi h hk => hs (i + 1) its acc ρ K hi (by rw [← Nat.add_assoc, Nat.add_right_comm]; exact h) (by rw [← Nat.add_assoc, Nat.add_right_comm n i 1]; exact hk)) fun acc ρ h => hd acc ρ (by rw [List.length_cons, ← Nat.add_assoc, Nat.add_right_comm]; exact h)
theorem lcL_inv {g : WGs} {wt : WT} {we : WE} {own : List Nat} {Q : List D → List D → Prop} {items : List (List D)} {ρ : List D} (I : Nat → List D → List D → Prop) (h0 : I 0 [] ρ)
    (hs : ∀ i its acc ρ (K : List D → List D → Prop), items[i]? = some its → I i acc ρ → (∀ acc' ρ', I (i + 1) acc' ρ' → K acc' ρ') → g its ρ fun ρ1 => wt ρ1 fun b ρ2 => if b = true then we ρ2 fun d ρ3 => K (acc ++ [d]) (wipeD ρ3 own) else K acc (wipeD ρ2 own))
    (hd : ∀ acc ρ, I items.length acc ρ → Q acc ρ) : lcL g wt we own Q items [] ρ :=
  lcL_ok items I 0 [] ρ h0 (fun i its acc ρ K hi h hk => hs i its acc ρ K hi (by rw [Nat.zero_add] at h; exact h) (by rw [Nat.zero_add] at hk; exact hk)) (by rw [Nat.zero_add]; exact hd)
theorem ones_map {α : Type} (f : α → D) (l : List α) : ones (l.map f) = l.map fun a => [f a] := by simp [ones, List.map_map, Function.comp_def]
/-- an argument: worked out at its turn, or a name lent at the end -/
abbrev LA := WE ⊕ Nat
def evL : List LA → List D → (List (D ⊕ Nat) → List D → Prop) → Prop
  | [], ρ, Q => Q [] ρ
  | .inl w :: r, ρ, Q => w ρ fun d ρ1 => evL r ρ1 fun as => Q (.inl d :: as)
  | .inr i :: r, ρ, Q => there (ρ.getD i .gone) ∧ evL r ρ fun as => Q (.inr i :: as)
theorem getD_there {ρ : List D} {j : Nat} (h : there (ρ.getD j .gone)) : ρ[j]? = some (ρ.getD j .gone) := by
  rw [List.getD_eq_getElem?_getD] at h ⊢
  cases e : ρ[j]? with
  | none => rw [e] at h; exact h.elim
  | some x => rfl
def takeL : List (D ⊕ Nat) → List D → (List D → List (Option Nat) → List D → Prop) → Prop
  | [], ρ, Q => Q [] [] ρ
  | .inl d :: as, ρ, Q => takeL as ρ fun es os r => Q (d :: es) (none :: os) r
  | .inr i :: as, ρ, Q => wN i ρ fun d o r => takeL as r fun es os r2 => Q (d :: es) (o :: os) r2
def wBL (l : List LA) : WBs := fun ρ Q => evL l ρ fun as r => takeL as r Q
section
variable {K : PySem.W.Frag} {G : Gm} {kp : List Bool} {σ : Sl} {ρ : List D} {vs us : List V} {ds es : List D} {H : Hp} {v : V} {d : D}
/-- the values that stand for late arguments: of a worked-out one the temporary, of a name the slot's -/
def LateV (σ : Sl) : List (D ⊕ Nat) → List V → Prop
  | [], us => us = []
  | .inl _ :: as, u :: us => LateV σ as us
  | .inr i :: as, u :: us => σ[i]? = some (some u) ∧ LateV σ as us
  | _ :: _, [] => False
def nnV : List (D ⊕ Nat) → List V → List V
  | .inl _ :: as, u :: us => u :: nnV as us
  | .inr _ :: as, _ :: us => nnV as us
  | _, _ => []
def nnD : List (D ⊕ Nat) → List D
  | .inl d :: as => d :: nnD as
  | .inr _ :: as => nnD as
  | [] => []
theorem World.takeL : ∀ {as : List (D ⊕ Nat)} {us : List V} {ρ : List D} {du : List V} {de : List D} {P : List D → List (Option Nat) → List D → Prop}, du.length = de.length → LateV σ as us → World K G kp σ ρ (du ++ (nnV as us ++ vs)) (de ++ (nnD as ++ ds)) H → Bd.takeL as ρ P →
    ∃ es os r, us.length = es.length ∧ World K G kp σ r (du ++ us ++ vs) (de ++ es ++ ds) H ∧ Lent σ us os ∧ P es os r
  | [], us, ρ, du, de, P, l, lv, W, q => by
    have e : us = [] := lv
    subst e
    exact ⟨[], [], ρ, rfl, by simpa [nnV, nnD] using W, trivial, q⟩
  | .inl d :: as, u :: us, ρ, du, de, P, l, lv, W, q => by
    obtain ⟨es, os, r, l2, W2, hl, z⟩ := World.takeL (as := as) (us := us) (du := du ++ [u]) (de := de ++ [d]) (by simp [l]) lv (by simpa [nnV, nnD] using W) q
    exact ⟨d :: es, none :: os, r, by simp [l2], by simpa using W2, ⟨fun _ e => (by cases e), hl⟩, z⟩
  | .inr i :: as, u :: us, ρ, du, de, P, l, ⟨hu, lv⟩, W, ⟨d, h1, h2, q⟩ => by
    by_cases s : d.solid = true
    · rw [if_pos s] at q
      obtain ⟨v, e, W'⟩ := W.copy h1 h2.ne s
      rw [hu] at e; cases e
      have W1 : World K G kp σ ρ (du ++ u :: (nnV as us ++ vs)) (de ++ d :: (nnD as ++ ds)) H := World.tor W' l
      obtain ⟨es, os, r, l2, W2, hl, z⟩ := World.takeL (as := as) (us := us) (du := du ++ [u]) (de := de ++ [d]) (by simp [l]) lv (by simpa using W1) q
      exact ⟨d :: es, none :: os, r, by simp [l2], by simpa using W2, ⟨fun _ e => (by cases e), hl⟩, z⟩
    · rw [if_neg s] at q
      obtain ⟨v, e, W'⟩ := W.take h1 h2.ne
      rw [hu] at e; cases e
      have W1 : World K G kp σ (ρ.set i .gone) (du ++ u :: (nnV as us ++ vs)) (de ++ d :: (nnD as ++ ds)) H := World.tor W' l
      obtain ⟨es, os, r, l2, W2, hl, z⟩ := World.takeL (as := as) (us := us) (du := du ++ [u]) (de := de ++ [d]) (by simp [l]) lv (by simpa using W1) q
      exact ⟨d :: es, some i :: os, r, by simp [l2], by simpa using W2, ⟨fun j e => by cases e; exact hu, hl⟩, z⟩
  | .inl _ :: _, [], _, _, _, _, _, lv, _, _ => lv.elim
  | .inr _ :: _, [], _, _, _, _, _, lv, _, _ => lv.elim
end
section
variable {X : Cx} {G : Gm} {kp : List Bool} {e o i : Expr} {es : List Expr} {pos : Pos} {we : WE} {wi : WB} {l : List LA} {x : Str} {j : Nat}
/-- x[i] = v, the index worked out while x keeps its slot -/
def gSn (j : Nat) (wi : WE) : WG := fun d ρ Q => there (ρ.getD j .gone) ∧ wi ρ fun y ρ2 => setD (ρ2.getD j .gone) y d fun x' => Q (ρ2.set j x')
theorem dg_subN {p : Pos} {wi : WE} (hj : X.N[j]? = some x) (hv : Vis X.env.scope x) (h : nm x = true) (hi : DE X G kp i wi) (ha : ∀ v, assign (.Subscript (.Name x p) i pos) X.env v = (do
      let ov ← holding [v] (eval (.Name x p) X.env)
      let iv ← holding [v, ov] (eval i X.env)
      standAt pos
      holding [v, ov, iv] (setItem ov iv v)
      release [v, ov, iv] []) := by intro _; rfl) : DG X G kp (.Subscript (.Name x p) i pos) (gSn j wi) := by
  refine ⟨fun d ρ P P' hp q => ⟨q.1, hi.mono _ _ _ (fun y r z => setD_mono (fun _ z => hp _ z) z) q.2⟩, pg_imp (pg_sub (pe_var hj hv (nm1 h) (nm2 h)) hi.run set_all ha) fun v σ H Q ⟨ρ, vs, d, ds, W, h2, q⟩ => ?_⟩
  obtain ⟨xv, e, _⟩ := W.take (getD_there h2) h2.ne
  refine ⟨xv, e, ρ, _, _, W, hi.mono _ _ _ (fun y r z yv H2 W2 => ?_) q⟩
  have h4 : there (r.getD j .gone) := by
    rcases setD_of z with ⟨es, k, j, e, _⟩ | ⟨ks, es, k, e, _⟩ | ⟨ks, es, k, e, _⟩ <;> rw [e] <;> trivial
  have h3 := getD_there h4
  obtain ⟨xv', e', W3⟩ := W2.take h3 h4.ne
  rw [e] at e'; cases e'
  generalize r.getD j .gone = x at z h4 h3 W3
  rcases setD_of z with ⟨es, k, n, rfl, rfl, hn, z⟩ | ⟨ks, es, k, rfl, rfl, z⟩ | ⟨ks, es, k, rfl, rfl, z⟩
  · have ek := W2.isInt
    subst ek
    have W4 := W3.swap.drop.swap
    obtain ⟨a, us, ea, hH, l, mk⟩ := World.relist (xs := [v]) (fs := [d]) W4 rfl
    subst ea
    refine .inl ⟨a, us, k, n, rfl, rfl, hH, by rw [l]; exact hn, ?_⟩
    have W5 : World X.K G kp σ (r.set j .gone) (.ref a :: vs) (.lst .own (es.set n d) :: ds) _ := mk [] [] (us.set n v) (es.set n d) rfl (by simp [l]) fun F B q => Reps.replace q
    have W6 := W5.give e
    rw [List.set_set] at W6
    exact z _ _ W6
  · have W4 : World X.K G kp σ (r.set j .gone) (yv :: xv :: v :: vs) (.int k :: .dct .own ks es :: d :: ds) H2 := W3.swap
    obtain ⟨a, kvs, e1, e2, e3, e4, g⟩ := World.setK (P := fun a kvs H' => Q σ H') (k := .inl k) W4 rfl (setK_mono (fun x' z a kvs H' W5 => z σ H' (by
      have W6 := W5.drop.give e
      rwa [List.set_set] at W6)) (show setK ks es (.k (.inl k)) d (fun x' => ∀ (σ' : Sl) (H' : Hp), World X.K G kp σ' (r.set j x') vs ds H' → Q σ' H') from z))
    exact .inr ⟨a, kvs, _, e1, e2, e3, e4, g⟩
  · have W4 : World X.K G kp σ (r.set j .gone) (yv :: xv :: v :: vs) (.str k :: .dct .own ks es :: d :: ds) H2 := W3.swap
    obtain ⟨a, kvs, e1, e2, e3, e4, g⟩ := World.setK (P := fun a kvs H' => Q σ H') (k := .inr k) W4 rfl (setK_mono (fun x' z a kvs H' W5 => z σ H' (by
      have W6 := W5.drop.give e
      rwa [List.set_set] at W6)) (show setK ks es (.k (.inr k)) d (fun x' => ∀ (σ' : Sl) (H' : Hp), World X.K G kp σ' (r.set j x') vs ds H' → Q σ' H') from z))
    exact .inr ⟨a, kvs, _, e1, e2, e3, e4, g⟩
end
theorem th_lst {m : M} {es : List D} : there (.lst m es) = True := rfl
theorem th_dct {m : M} {ks : List DK} {es : List D} : there (.dct m ks es) = True := rfl
theorem th_tup {es : List D} : there (.tup es) = True := rfl
theorem th_int {i : Int} : there (.int i) = True := rfl
theorem th_bl {i : Bool} : there (.bl i) = True := rfl
theorem th_str {i : Str} : there (.str i) = True := rfl
theorem th_non : there .non = True := rfl
theorem th_opq {v : V} : there (.opq v) = True := rfl
/-- pairs of ints -/
def enc2 (p : Int × Int) : D := .tup [.int p.1, .int p.2]
def le2 (p q : Int × Int) : Bool := decide (p.1 < q.1 ∨ (p.1 = q.1 ∧ p.2 ≤ q.2))
theorem solid_enc2 (p : Int × Int) : (enc2 p).solid = true := rfl
theorem solids_map {α : Type} {f : α → D} (h : ∀ a, (f a).solid = true) : ∀ l : List α, solids (l.map f) = true
  | [] => rfl
  | a :: r => by rw [List.map_cons, solids, h a, solids_map h r]; rfl
theorem frzs_map {α : Type} {f : α → D} (h : ∀ a, (f a).solid = true) (l : List α) : frzs (l.map f) = l.map f := frzs_of_solid _ (solids_map h l)
theorem frzs_enc2 (l : List (Int × Int)) : frzs (l.map enc2) = l.map enc2 := frzs_map solid_enc2 l
theorem alike_ints (l : List Int) : alikeD (l.map D.int) := by
  intro d hd e he
  simp only [List.map_map] at hd he
  obtain ⟨p, _, rfl⟩ := List.mem_map.mp hd
  obtain ⟨q, _, rfl⟩ := List.mem_map.mp he
  simp [D.py, PySem.W.alike]
/-! ### slices -/
theorem cut_from {xs : List D} {k : Int} (h : 0 ≤ k) : cutD xs (some k) none = xs.drop k.toNat := by
  have e : HT.sIx xs.length 0 (some k) = min k.toNat xs.length := if_neg (by omega)
  unfold cutD
  rw [e, HT.sIx_none]
  by_cases hl : k.toNat ≤ xs.length
  · rw [Nat.min_eq_left hl, List.take_of_length_le (by simp)]
  · rw [Nat.min_eq_right (by omega), List.drop_length, List.drop_of_length_le (by omega), List.take_nil]
/-! ### in -/
section
variable {neg : Bool} {x : D} {m : M} {xs : List D} {Q : D → D → D → Prop}
theorem memD_lst : memD neg x (.lst m xs) Q = (shp x ∧ shp (.lst m xs) ∧ Q (.bl (if neg then !isIn x xs else isIn x xs)) x (.lst m xs)) := rfl
theorem memD_tup : memD neg x (.tup xs) Q = (x.scal.isSome = true ∧ scals xs = true ∧ Q (.bl (if neg then !isIn x xs else isIn x xs)) x (.tup xs)) := rfl
theorem memD_str {i j : Str} : memD neg (.str i) (.str j) Q = Q (.bl (if neg then !(!(Builtin.Str.occurrences j i 0 j.length 1).isEmpty) else !(Builtin.Str.occurrences j i 0 j.length 1).isEmpty)) (.str i) (.str j) := rfl
theorem isIn_nil : isIn x [] = false := rfl
theorem isIn_cons {z : D} : isIn x (z :: xs) = (eqd z x || isIn x xs) := rfl
theorem isIn_ints {i : Int} : ∀ ns : List Int, isIn (.int i) (ns.map D.int) = decide (i ∈ ns)
  | [] => by simp [isIn]
  | n :: r => by
    rw [List.map_cons, isIn_cons, isIn_ints r, eqd_int]
    by_cases h : n = i <;> by_cases h2 : i ∈ r <;> simp [h, h2, Ne.symm] <;> exact fun e => h e.symm
theorem scal_int {i : Int} : (D.int i).scal.isSome = true := rfl
theorem scal_str {i : Str} : (D.str i).scal.isSome = true := rfl
theorem scal_bl {i : Bool} : (D.bl i).scal.isSome = true := rfl
theorem scal_non : D.non.scal.isSome = true := rfl
theorem scals_nil : scals [] = true := rfl
theorem scals_cons {d : D} : scals (d :: xs) = (d.scal.isSome && scals xs) := rfl
theorem scals_ints (ns : List Int) : scals (ns.map D.int) = true := by
  induction ns with
  | nil => rfl
  | cons n r ih => rw [List.map_cons, scals_cons, ih]; rfl
theorem shp_l1i {a : Int} : shp (.lst m [.int a]) = True := shp_lints (ns := [a])
theorem shp_l2i {a b : Int} : shp (.lst m [.int a, .int b]) = True := shp_lints (ns := [a, b])
theorem shp_l3i {a b c : Int} : shp (.lst m [.int a, .int b, .int c]) = True := shp_lints (ns := [a, b, c])
theorem shp_t1i {a : Int} : shp (.tup [.int a]) = True := shp_tints (ns := [a])
theorem shp_t2i {a b : Int} : shp (.tup [.int a, .int b]) = True := shp_tints (ns := [a, b])
theorem shp_t3i {a b c : Int} : shp (.tup [.int a, .int b, .int c]) = True := shp_tints (ns := [a, b, c])
end
theorem dec_or {c d : Prop} [Decidable c] [Decidable d] : (decide c || decide d) = decide (c ∨ d) := by by_cases h : c <;> by_cases h2 : d <;> simp [h, h2]
theorem dec_orf {c : Prop} [Decidable c] : (decide c || false) = decide c := by simp
/-- a method's type, by the datum -/
def mtD : D → Option String
  | .lst _ _ => some "list"
  | .str _ => some "str"
  | .dct .own _ _ => some "dict"
  | .dct .shr _ _ => some "dict"
  | _ => none
/-- a method over data: the object, the arguments -/
abbrev WM := D → List D → (D → D → Prop) → Prop
section
variable {X : Cx} {G : Gm} {kp : List Bool}
theorem rep_tyV {K : PySem.W.Frag} {H : Hp} {F A : AS} {v : V} {d : D} {T : String} (r : Rep K H F v d A) (h : mtD d = some T) : tyV K T v H := by
  cases r with
  | str => cases h; rfl
  | own e _ _ _ => cases h; exact .inl ⟨rfl, _, .inl (.inl e)⟩
  | shr e _ _ => cases h; exact .inl ⟨rfl, _, .inl (.inl e)⟩
  | con c _ => cases h; exact .inl ⟨rfl, _, c.sq⟩
  | dOwn e _ _ _ _ => cases h; exact .inr (.inr (.inl ⟨rfl, .inl ⟨_, e⟩⟩))
  | dShr e _ _ _ => cases h; exact .inr (.inr (.inl ⟨rfl, .inl ⟨_, e⟩⟩))
  | _ => cases h
theorem World.tyV {K : PySem.W.Frag} {σ : Sl} {ρ : List D} {vs : List V} {ds : List D} {H : Hp} {v : V} {d : D} {T : String} (W : World K G kp σ ρ (v :: vs) (d :: ds) H) (h : mtD d = some T) : L2.tyV K T v H := by
  obtain ⟨A, F, f⟩ := W
  have r := f.reps
  cases r with
  | cons p q i j k => exact rep_tyV p h
def MethD (X : Cx) (G : Gm) (kp : List Bool) (r : V → List V → Hp → VK → Prop) (m : WM) : Prop :=
  (∀ x es P P', (∀ a b, P a b → P' a b) → m x es P → m x es P') ∧
  ∀ σ ρ vs ds xv us x es H Q, us.length = es.length → World X.K G kp σ ρ (us ++ xv :: vs) (es ++ x :: ds) H → m x es (fun z x' => ∀ v H', World X.K G kp σ ρ (v :: xv :: vs) (z :: x' :: ds) H' → Q v H') → r xv us H Q
/-- o lent, then the arguments -/
def wMe (T : String) (m : WM) (wo : WB) (wa : WA) : WE := fun ρ Q => wo ρ fun x ox ρ1 => mtD x = some T ∧ wa ρ1 fun es ρ2 => m x es fun z x' => Q z (gb ox x' ρ2)
def wMe0 (T : String) (m : WM) (wo : WB) : WE := fun ρ Q => wo ρ fun x ox ρ1 => mtD x = some T ∧ m x [] fun z x' => Q z (gb ox x' ρ1)
/-- a name, lent behind the arguments -/
def wMn (T : String) (m : WM) (j : Nat) (wa : WA) : WE := fun ρ Q => mtD (ρ.getD j .gone) = some T ∧ wa ρ fun es ρ2 => m (ρ2.getD j .gone) es fun z x' => Q z (ρ2.set j x')
variable {o e : Expr} {es : List Expr} {apos cpos p : Pos} {name x : Str} {T id : String} {r : V → List V → Hp → VK → Prop} {m : WM} {wo : WB} {wa : WA} {j : Nat}
theorem mtD_there {d : D} {T : String} (h : mtD d = some T) : there d := by cases d <;> first | exact True.intro | cases h
theorem de_mn (pa : PlainAttrs T) (slot : Slot T name id) (hty : typeOf (.builtin id) = pure (.type "method_descriptor")) (hm : MtR X id r) (hM : MethD X G kp r m) (hg : ∀ es P, m .gone es P → False) (hj : X.N[j]? = some x) (hv : Vis X.env.scope x) (h : nm x = true) (ha : DA X G kp (e :: es) wa)
    (hbase : attributeBase (.Name x p) name X.env (eval (.Name x p) X.env) = eval (.Name x p) X.env := by rfl)
    (hfew : ((backTo cpos (starEach (e :: es) X.env)).all (fun x => !x.1) && (backToKw cpos (keywordEach [] X.env)).all (fun x => x.1.isSome)
      && decide ((e :: es).length + ([] : List Keyword).length + (if ([] : List Keyword).isEmpty then 0 else 1) < 30)) = true := by rfl)
    (hline : (apos.endLine == cpos.line) = true := by rfl) (hs : starEach (e :: es) X.env = (false, eval e X.env) :: starEach es X.env := by rfl) (hplain : (backTo cpos (starEach es X.env)).any (·.1) = false := by rfl) :
    DE X G kp (.Call (.Attribute (.Name x p) name apos) (e :: es) [] cpos) (wMn T m j wa) := by
  refine ⟨fun ρ P P' hp q => ⟨q.1, ha.mono _ _ _ (fun es r2 z => hM.1 _ _ _ _ (fun a b z => hp _ _ z) z) q.2⟩, pe_imp (pe_bm pa slot hty hm (pe_var hj hv (nm1 h) (nm2 h)) ha.run hbase hfew hline hs hplain) fun σ H Q ⟨ρ, vs, ds, W, h1, q⟩ => ?_⟩
  obtain ⟨xv, e1, W1⟩ := W.take (getD_there (mtD_there h1)) (mtD_there h1).ne
  refine ⟨xv, e1, W1.tyV h1, ρ, vs, ds, W, ha.mono _ _ _ (fun es r2 z us H2 l W2 => ?_) q⟩
  have ht : there (r2.getD j .gone) := by
    cases e : r2.getD j .gone <;> rw [e] at z <;> first | trivial | exact (hg _ _ z).elim
  obtain ⟨xv', e2, W3⟩ := W2.take (getD_there ht) ht.ne
  rw [e1] at e2; cases e2
  have W4 : World X.K G kp σ (r2.set j .gone) (us ++ xv :: vs) (es ++ r2.getD j .gone :: ds) H2 := World.tor W3 l
  refine hM.2 _ _ _ _ _ _ _ _ _ _ l W4 (hM.1 _ _ _ _ (fun y x' z u H3 W5 => z u H3 ?_) z)
  have W6 := W5.swap.give e1
  rw [List.set_set] at W6
  exact W6
/-! ### append, pop -/
def apF : WM := fun x es Q => match x, es with
  | .lst .own xs, [d] => xs.length < sizeLine ∧ Q .non (.lst .own (xs ++ [d]))
  | _, _ => False
theorem apF_of {x : D} {es : List D} {Q : D → D → Prop} (q : apF x es Q) : ∃ xs d, x = .lst .own xs ∧ es = [d] ∧ (xs.length < sizeLine ∧ Q .non (.lst .own (xs ++ [d]))) := by
  unfold apF at q
  split at q
  · exact ⟨_, _, rfl, rfl, q⟩
  · exact q.elim
theorem apD_ok : MethD X G kp rAppend apF := by
  refine ⟨fun x es P P' hp q => ?_, fun σ ρ vs ds xv us x es H Q l W q => ?_⟩
  · obtain ⟨xs, d, rfl, rfl, q⟩ := apF_of q
    exact ⟨q.1, hp _ _ q.2⟩
  · obtain ⟨xs, d, rfl, rfl, q⟩ := apF_of q
    match us, l, W with
    | [u], _, W =>
      obtain ⟨a, ws, ea, hw, lw, W2⟩ := World.append_ (us := []) (es := []) W rfl
      subst ea
      exact ⟨a, ws, u, rfl, rfl, hw, by rw [lw]; exact q.1, q.2 _ _ W2.non⟩
def popF : WM := fun x es Q => match x, es with
  | .lst .own xs, [] => ∃ d, xs[xs.length - 1]? = some d ∧ Q d (.lst .own xs.dropLast)
  | _, _ => False
theorem popF_of {x : D} {es : List D} {Q : D → D → Prop} (q : popF x es Q) : ∃ xs, x = .lst .own xs ∧ es = [] ∧ (∃ d, xs[xs.length - 1]? = some d ∧ Q d (.lst .own xs.dropLast)) := by
  unfold popF at q
  split at q
  · exact ⟨_, rfl, rfl, q⟩
  · exact q.elim
theorem Reps.popLast {K : PySem.W.Frag} {H : Hp} {F : AS} {us : List V} {es : List D} {d : D} {A : AS} (r : Reps K H F us es A) (h : es[es.length - 1]? = some d) : ∃ u, us[us.length - 1]? = some u ∧ Reps K H F (u :: us.dropLast) (d :: es.dropLast) A := by
  have l := r.length
  obtain ⟨hl, he⟩ := List.getElem?_eq_some_iff.mp h
  have hne : es ≠ [] := by intro e; rw [e] at hl; simp at hl
  have hne2 : us ≠ [] := by intro e; rw [e] at l; rw [← l] at hl; simp at hl
  have e1 := List.dropLast_concat_getLast hne
  have e2 := List.dropLast_concat_getLast hne2
  have ed : es.getLast hne = d := by rw [List.getLast_eq_getElem]; exact he
  refine ⟨us.getLast hne2, by rw [List.getLast_eq_getElem, List.getElem?_eq_getElem], ?_⟩
  rw [← e1, ← e2, ed] at r
  have q := Reps.rot (us := us.dropLast) (es := es.dropLast) (vs := []) (ds := []) (by simp [l]) r
  simpa using q
theorem popD_ok : MethD X G kp rPop popF := by
  refine ⟨fun x es P P' hp q => ?_, fun σ ρ vs ds xv us x es H Q l W q => ?_⟩
  · obtain ⟨xs, rfl, rfl, z⟩ := popF_of q
    obtain ⟨d, h1, h2⟩ := z
    exact ⟨d, h1, hp _ _ h2⟩
  · obtain ⟨xs, rfl, rfl, z⟩ := popF_of q
    obtain ⟨d, h1, q⟩ := z
    match us, l, W with
    | [], _, W =>
      obtain ⟨a, ws, ea, hw, lw, mk⟩ := World.relist (xs := []) (fs := []) W rfl
      subst ea
      have hy : ∃ y, ws[ws.length - 1]? = some y := by
        have := (List.getElem?_eq_some_iff.mp h1).1
        exact ⟨_, List.getElem?_eq_getElem (show ws.length - 1 < ws.length by omega)⟩
      obtain ⟨y, hy⟩ := hy
      refine ⟨a, ws, y, rfl, rfl, hw, hy, q _ _ (mk [y] [d] ws.dropLast xs.dropLast rfl (by simp [lw]) fun F B r => ?_)⟩
      obtain ⟨u, hu, r2⟩ := Reps.popLast r h1
      rw [List.nil_append, hy] at hu
      cases hu
      exact r2
theorem m_append {apos cpos p : Pos} (hj : X.N[j]? = some x) (hv : Vis X.env.scope x) (h : nm x = true) (ha : DA X G kp [e] wa) (hbase : attributeBase (.Name x p) "append" X.env (eval (.Name x p) X.env) = eval (.Name x p) X.env := by rfl)
    (hfew : ((backTo cpos (starEach [e] X.env)).all (fun x => !x.1) && (backToKw cpos (keywordEach [] X.env)).all (fun x => x.1.isSome)
      && decide (([e] : List Expr).length + ([] : List Keyword).length + (if ([] : List Keyword).isEmpty then 0 else 1) < 30)) = true := by rfl)
    (hline : (apos.endLine == cpos.line) = true := by rfl) (hs : starEach [e] X.env = (false, eval e X.env) :: starEach [] X.env := by rfl) :
    DE X G kp (.Call (.Attribute (.Name x p) "append" apos) [e] [] cpos) (wMn "list" apF j wa) :=
  de_mn F.plainAttrs_list F.slot_list_append F.type_list_append mt_append apD_ok (fun es P q => q) hj hv h ha hbase hfew hline hs
end
section
variable {X : Cx} {G : Gm} {kp : List Bool} {e : Expr} {es : List Expr} {pos p1 : Pos} {wr : WBs} {k : Nat}
def reprD (d : D) : Str := d.py.shown
/-- of that many signs at most -/
def rOk (d : D) (n : Nat) : Prop := d.py.showable = true ∧ d.py.shown.length ≤ n
def reprF (d : D) (Q : D → D → Prop) : Prop := shp d ∧ rOk d sizeLine ∧ Q (.str (reprD d)) d
end
/-! ### how long a text -/
theorem rOk.le {d : D} {m n : Nat} (h : rOk d m) (l : m ≤ n) : rOk d n := ⟨h.1, Nat.le_trans h.2 l⟩
section
variable {P : Program} {w : PySem.World} {A : Around} {E : Value → Shared → Prop} {s : Shared}
end
section
variable {X : Cx} {G : Gm} {kp : List Bool}
/-- sorted(set(xs)) -/
def ssF (d : D) (Q : D → D → Prop) : Prop := match d with
  | .lst m xs => ∃ ns : List Int, xs = ns.map D.int ∧ ns.length < 64 ∧ ∀ ms : List Int, ms.Pairwise (· < ·) → (∀ k, k ∈ ms ↔ k ∈ ns) → Q (.lst .own (ms.map D.int)) d
  | _ => False
/-- len(set(xs)) -/
def lsF (d : D) (Q : D → D → Prop) : Prop := match d with
  | .lst m xs => ∃ ns : List Int, xs = ns.map D.int ∧ ns.length < 4000 ∧ ∀ ms : List Int, ms.Nodup → (∀ k, k ∈ ms ↔ k ∈ ns) → Q (.int (ms.length : Nat)) d
  | _ => False
section
variable {k : Nat} {e : Expr} {wr : WBs} {p1 p2 q1 q2 : Pos}
end
end
section
variable {X : Cx} {G : Gm} {kp : List Bool}
variable {o e : Expr} {es : List Expr} {apos cpos p : Pos} {name x : Str} {T id : String} {r : V → List V → Hp → VK → Prop} {m : WM} {wo : WB} {wa : WA} {to : TE} {t : TA} {j : Nat}
def isTupD : D → Prop
  | .tup _ => True
  | _ => False
def wPm (m : WM) (wo : WB) (wa : WA) : WE := fun ρ Q => wo ρ fun x ox ρ1 => isTupD x ∧ wa ρ1 fun es ρ2 => m x es fun z x' => Q z (gb ox x' ρ2)
/-! ### count -/
def cntF : WM := fun x es Q => match x, es with
  | .tup xs, [d] => shp (.tup xs) ∧ shp d ∧ Q (.int ((xs.countP fun z => eqd z d : Nat) : Int)) (.tup xs)
  | _, _ => False
end
def pthD : List Nat → D → Option D
  | [], d => some d
  | i :: p, .tup es => (es[i]?).bind (pthD p)
  | i :: p, .lst .own es => (es[i]?).bind (pthD p)
  | _ :: _, _ => none
def putD : List Nat → D → D → D
  | [], _, z => z
  | i :: p, .tup es, z => .tup (es.set i (putD p (es.getD i .gone) z))
  | i :: p, .lst .own es, z => .lst .own (es.set i (putD p (es.getD i .gone) z))
  | _ :: _, d, _ => d
theorem set_self {α : Type} {xs : List α} {i : Nat} {x : α} (h : xs[i]? = some x) : xs.set i x = xs := by
  apply List.ext_getElem?
  intro j
  rw [List.getElem?_set]
  split
  · rename_i e; subst e
    split
    · exact h.symm
    · rename_i n; rw [List.getElem?_eq_none (by omega)]
  · rfl
section
variable {K : PySem.W.Frag} {F : AS} {H : Hp} {es : List D}
end
section
variable {K : PySem.W.Frag} {G : Gm} {kp : List Bool} {σ : Sl} {ρ : List D} {vs : List V} {ds es : List D} {H : Hp} {v : V} {d : D} {p : List Nat}
end
section
variable {X : Cx} {G : Gm} {kp : List Bool}
variable {o e : Expr} {es : List Expr} {apos cpos pos p1 : Pos} {name x : Str} {T id : String} {j : Nat} {p : List Nat}
end
section
variable {X : Cx} {G : Gm} {kp : List Bool}
variable {o e : Expr} {es : List Expr} {apos cpos pos p1 : Pos} {name x : Str} {T id : String} {j : Nat} {p : List Nat} {d : D}
def wPA (j : Nat) (p : List Nat) (d : D) : WE := fun ρ Q => ∃ es, pthD p (ρ.getD j .gone) = some (.lst .own es) ∧ es.length < sizeLine ∧ Q .non (ρ.set j (putD p (ρ.getD j .gone) (.lst .own (es ++ [d]))))
def wPC (j : Nat) (p : List Nat) : WE := fun ρ Q => ∃ es, pthD p (ρ.getD j .gone) = some (.lst .own es) ∧ Q .non (ρ.set j (putD p (ρ.getD j .gone) (.lst .own [])))
end
section
variable {X : Cx} {G : Gm} {kp : List Bool} {b : Expr} {p pos : Pos} {x : Str} {wb : WB} {j : Nat}
def wIxN (j : Nat) (wb : WB) : WE := fun ρ Q => there (ρ.getD j .gone) ∧ wb ρ fun y oy ρ2 => ixD (ρ2.getD j .gone) y fun z x' y' => Q z (gb oy y' (ρ2.set j x'))
end
def eqTx : W2 := fun x y Q => match x, y with
  | .str a, .str b => Q (.bl (decide (a = b))) x y
  | _, _ => eqD x y Q
def neTx : W2 := fun x y Q => match x, y with
  | .str a, .str b => Q (.bl (!decide (a = b))) x y
  | _, _ => neD x y Q
section
variable {X : Cx} {G : Gm} {kp : List Bool}
variable {a b : Expr} {wa wb : WB} {k : Nat} {pos : Pos}
end
section
variable {X : Cx} {G : Gm} {kp : List Bool} {e : Expr} {es : List Expr} {pos p1 : Pos} {wr : WBs} {k : Nat}
def minPF (d : D) (Q : D → D → Prop) : Prop := match d with
  | .lst m xs => ∃ ps : List (Int × Int), xs = ps.map enc2 ∧ 0 < ps.length ∧ ∀ p, p ∈ ps → (∀ q, q ∈ ps → le2 p q = true) → Q (enc2 p) (.lst m xs)
  | _ => False
end
section
variable {X : Cx} {G : Gm} {kp : List Bool} {e a : Expr} {es : List Expr} {pos p1 p2 p3 p4 : Pos} {wr : WBs} {wa : WB} {k : Nat}
def intF (d : D) (Q : D → D → Prop) : Prop := match d with
  | .int i => Q (.int i) (.int i)
  | .bl b => Q (.int (if b = true then 1 else 0)) (.bl b)
  | _ => False
theorem intF_ok : CallD X G kp (fun xs H Q => (∃ i, xs = [.int i] ∧ Q (.int i) H) ∨ ∃ k, xs = [.bl k] ∧ Q (.int (if k then 1 else 0)) H) (c1 intF) := by
  refine c1_ok (fun d P P' hp q => ?_) fun σ ρ vs ds u d H Q W q => ?_
  · cases d <;> first | exact q.elim | exact hp _ _ q
  · cases d <;> first | exact q.elim | skip
    · have e := W.isBl
      subst e
      exact .inr ⟨_, rfl, q _ H W.int⟩
    · have e := W.isInt
      subst e
      exact .inl ⟨_, rfl, q _ H W.int⟩
theorem k_int (hg : Gl X "int") (hm : X.mg "int" = none) (ha : DBs X G kp (e :: es) wr) (he : starEach (e :: es) X.env = (false, eval e X.env) :: starEach es X.env := by rfl) (hpl : (backTo pos (starEach es X.env)).any (·.1) = false := by rfl) : DE X G kp (.Call (.Name "int" p1) (e :: es) [] pos) (wCall (c1 intF) wr) := de_callTy call_int1 intF_ok hg hm boot_int ha (by decide) (by decide) he hpl
end
section
variable {prog : Program} {w : PySem.World} {A : Around} {E : Value → Shared → Prop} {s : Shared}
end
section
variable {X : Cx} {G : Gm} {kp : List Bool} {e a : Expr} {pos p1 p2 p3 p4 : Pos} {wa : WB} {k : Nat}
/-- a, b, c = x, y, z with plain local names -/
def wsP3 (i j l : Nat) (w : WA) : WS := fun E ρ => w ρ fun es r => match es with
  | [d, f, g] => E.nx (((r.set i d).set j f).set l g)
  | _ => False
def backD (x : D) (Q : D → D → Prop) : Prop := match x with
  | .lst m xs => Q (.lst .own (frzs xs).reverse) (.lst m (frzs xs))
  | .tup xs => Q (.tup (frzs xs).reverse) (.tup (frzs xs))
  | _ => False
def wBack (wa : WB) : WE := fun ρ Q => wa ρ fun x o r => backD x fun z x' => Q z (gb o x' r)
end
theorem solids_enc2 (xs : List (Int × Int)) : solids (xs.map enc2) = true := solids_map solid_enc2 xs
theorem eqd_lnil {m n : M} {ds : List D} : eqd (.lst m ds) (.lst n []) = decide (ds = []) := by
  simp only [eqd, D.py, PyData.eqv, pys]
  cases ds <;> simp [pys, PyData.eqvAll]
theorem eqd_tnil {ds : List D} : eqd (.tup ds) (.tup []) = decide (ds = []) := by
  simp only [eqd, D.py, PyData.eqv, pys]
  cases ds <;> simp [pys, PyData.eqvAll]
theorem okP_enc2 (p : Int × Int) : okP (enc2 p) 1 := okP_tup fun d hd => by
  simp only [List.mem_cons, List.not_mem_nil, or_false] at hd
  rcases hd with rfl | rfl <;> exact okP_int
theorem okP_encs {ps : List (Int × Int)} : ∀ d, d ∈ ps.map enc2 → okP d 1 := fun d hd => by
  obtain ⟨p, _, rfl⟩ := List.mem_map.mp hd
  exact okP_enc2 p
theorem shp_lenc {m : M} {ps : List (Int × Int)} : shp (.lst m (ps.map enc2)) = True := eq_true (shp_of (n := 2) (okP_lst okP_encs) (by decide))
theorem shp_tenc {ps : List (Int × Int)} : shp (.tup (ps.map enc2)) = True := eq_true (shp_of (n := 2) (okP_tup okP_encs) (by decide))
section
variable {K : PySem.W.Frag} {G : Gm} {kp kp1 : List Bool} {σ : Sl} {ρ ρ' : List D} {vs us ws : List V} {ds es fs : List D} {H H' : Hp} {v : V} {d : D} {i : Nat}
/-- the slots alone: the temporaries stand aside, and come back -/
theorem World.aside (W : World K G kp σ ρ vs ds H) : ∃ A F, World K ⟨H, A, F, G.T, σ, G.n⟩ kp1 σ ρ [] [] H ∧
    ∀ ρ' ws fs H', ws.length = fs.length → World K ⟨H, A, F, G.T, σ, G.n⟩ kp1 σ ρ' ws fs H' → World K G kp σ ρ' (ws ++ vs) (fs ++ ds) H' := by
  obtain ⟨A, F, f⟩ := W
  have lv := f.lv
  obtain ⟨B, C, r1, r2, h1, h2, h3⟩ := f.reps.split lv
  refine ⟨C, F, ⟨C, F, r2, rfl, f.ls, f.sn, f.non, fun a h => f.sep a (h2 a h), fun a h => f.own a (h2 a h), f.trk, fun a h => .inl h, fun a h => .inr (.inl h), fun a o e _ _ => e, fun a e => e, f.tab, fun _ _ => rfl⟩, fun ρ' ws fs H' lw W' => ?_⟩
  obtain ⟨A', F', g⟩ := W'
  have noF : ∀ a, Nw H a → ¬ F a := fun a e z => by
    obtain ⟨o, q, w⟩ := f.trk a z
    exact e.not q (not_tbl w)
  have noB : ∀ a, Nw H a → ¬ B a := fun a e z => by
    obtain ⟨o, q, w⟩ := f.own a (h1 a z)
    exact e.not q (not_tbl w)
  have stB : ∀ a o, H a = some o → B a → H' a = some o := fun a o e c => by
    obtain ⟨o', e', q⟩ := f.own a (h1 a c)
    rw [e] at e'; cases e'
    exact g.fr a o e (fun z => h3 a c z) (not_tbl q)
  have stF : ∀ a o, H a = some o → F a → H' a = some o := fun a o e c => by
    obtain ⟨o', e', q⟩ := f.trk a c
    rw [e] at e'; cases e'
    exact g.fr a o e (fun z => f.sep a (h2 a z) c) (not_tbl q)
  have agr : Agr B F H H' := fun a o e q => by
    rcases q with q | q | q
    · exact stB a o e q
    · exact stF a o e q
    · refine g.fr a o e (fun z => ?_) fun ps z => by rw [z] at q; exact q
      obtain ⟨o', e', q'⟩ := f.own a (h2 a z)
      rw [e] at e'; cases e'
      cases o <;> first | exact q.elim | exact q'.elim
  obtain ⟨A1, A2, s1, s2, k1, k2, k3⟩ := g.reps.split lw
  have farB : ∀ x, A' x → ¬ B x := fun x h q => (g.src x h).elim (fun z => h3 x q z) fun z => noB x z q
  refine ⟨fun x => A' x ∨ B x, fun x => F x ∨ F' x, ?_, by simp [lv, lw], g.ls, f.sn, g.non, fun a h q => ?_, fun a h => ?_, fun a h => ?_, fun a h => ?_, fun a h => ?_, fun a o e n nt => ?_, fun a e => f.al a (g.al a e), g.tab, f.kps⟩
  · rw [List.append_assoc, List.append_assoc]
    have m := (r1.agr agr fun x h => .inl h).join (s2.agr (fun _ _ e _ => e) fun x h => (.inr h : F x ∨ F' x)) fun x h q => farB x (k2 x q) h
    refine ((s1.agr (fun _ _ e _ => e) fun x h => .inr h).join m fun x h q => ?_).mono fun x h => ?_
    · exact q.elim (farB x (k1 x h)) (k3 x h)
    · exact h.elim (fun z => .inl (k1 x z)) fun z => z.elim .inr fun z => .inl (k2 x z)
  · rcases h with h | h
    · rcases q with q | q
      · exact (g.src a h).elim (fun z => f.sep a (h2 a z) q) fun z => noF a z q
      · exact g.sep a h q
    · rcases q with q | q
      · exact f.sep a (h1 a h) q
      · rcases g.srf a q with z | z | z
        · exact h3 a h z
        · exact f.sep a (h1 a h) z
        · exact noB a z h
  · rcases h with h | h
    · exact g.own a h
    · obtain ⟨o, e, q⟩ := f.own a (h1 a h)
      exact ⟨o, stB a o e h, q⟩
  · rcases h with h | h
    · obtain ⟨o, e, q⟩ := f.trk a h
      exact ⟨o, stF a o e h, q⟩
    · exact g.trk a h
  · rcases h with h | h
    · exact (g.src a h).elim (fun z => f.src a (h2 a z)) fun z => .inr (f.al a z)
    · exact f.src a (h1 a h)
  · rcases h with h | h
    · exact f.srf a h
    · rcases g.srf a h with z | z | z
      · exact (f.src a (h2 a z)).elim .inl fun z => .inr (.inr z)
      · exact f.srf a z
      · exact .inr (.inr (f.al a z))
  · refine g.fr a o (f.fr a o e n nt) (fun z => ?_) nt
    exact (f.src a (h2 a z)).elim n fun q => (q.not e nt).elim
/-- another heap, that keeps all but tables -/
theorem World.onto (W : World K G kp σ ρ vs ds H) (e : LamX.ExtN H H') (t : LamX.Tabs G.T H') : World K G kp σ ρ vs ds H' := by
  obtain ⟨A, F, f⟩ := W
  have keepA : ∀ a o, H a = some o → isOwn o → H' a = some o := fun a o h w => e a o h (not_tbl w)
  refine ⟨A, F, f.reps.agr (fun a o h q => ?_) (fun _ h => h), f.lv, f.ls, f.sn, f.non, f.sep, fun a h => ?_, fun a h => ?_, f.src, f.srf, fun a o h n nt => e a o (f.fr a o h n nt) nt, fun a h => f.al a fun o z => ?_, t, f.kps⟩
  · rcases q with q | q | q
    · obtain ⟨o', z, w⟩ := f.own a q
      rw [h] at z; cases z
      exact keepA a o h w
    · obtain ⟨o', z, w⟩ := f.trk a q
      rw [h] at z; cases z
      exact keepA a o h w
    · exact e a o h fun ps z => by rw [z] at q; exact q
  · obtain ⟨o, z, w⟩ := f.own a h
    exact ⟨o, keepA a o z w, w⟩
  · obtain ⟨o, z, w⟩ := f.trk a h
    exact ⟨o, keepA a o z w, w⟩
  · by_cases q : ∃ ps, o = .tbl ps
    · exact q
    · exact (h.not (e a o z fun ps w => q ⟨ps, w⟩) fun ps w => q ⟨ps, w⟩).elim
end
/-! ### raise -/
/-- a class of refusals, without an own __init__ -/
structure RCls (mg : Str → Option Value) (K : PySem.W.Frag) (x : Str) : Prop where
  g : mg x = some (.ref (He.ga K x))
  f : (He.Fa.exc x).ok K = true
section
variable {X : Cx} {G : Gm} {kp : List Bool} {Ex : XD} {x m : Str} {j : Nat} {p p2 p3 pos : Pos}
theorem ds_raise (hc : X.calm = true) (C : RCls X.mg X.K x) (hx : TakesD X G kp Ex) (hg : Gl X x) (hdb : (x == ("__debug__" : Str)) = false) : DS X G kp (.Raise (some (.Call (.Name x p) [.Constant (.str m) j p2] [] p3)) none pos) (fun _ ρ => Ex x [] ρ) := by
  obtain ⟨c1, c2, c3, c4⟩ := He.exc_ok C.f
  have mk := pmk_own (X := X) (j := j) (m := m) (p := p) (p2 := p2) (pos := p3) PySem.F.excBase_ValueError c1 C.g c2 (raises_own c3 c4) hg hdb
  exact ⟨fun A B ρ _ q => q, ps_imp (ps_raise (pos := pos) hc hx mk) fun E σ H ⟨ρ, vs, ds, W, q⟩ => ⟨ρ, vs, ds, x, [], W, ⟨rfl, fun _ => rfl, .inl rfl⟩, q⟩⟩
end
section
variable {X : Cx} {pins : List (Addr × Obj)} {σ : L2.St} {H HZ : Hp} {s s1 : Shared}
/-- the call of the name that holds the lambda, where no watcher stands around -/
theorem act_quiet {CXg : CXT} {Eg : XK} {Ng : List Str} {qg a : Str} {sg scope : Scope} {g f c' : Addr} {cdg pm ctv : Value} {params : Arguments} {body : Expr} {k i : Nat} {pn : List (Addr × Obj)} {xe : Value → Shared → Prop} {W : WX} {E : XK} {tb : TE} {p1 p2 : Pos}
    (I : Inv X pins σ H s) (lam : LamX.LamS X.env.scope scope)
    (there : s.heap.get? f = some (PySem.W.kla_obj "<lambda>" (X.env.qual ++ "<lambda>") params body scope (cloFrom X.env.cells scope.names []) pm c' ctv)) (fresh : H f = none) (noFrame : f ∉ frs X.stack)
    (none_ : bindArgs (PySem.W.kla_fn "<lambda>" (X.env.qual ++ "<lambda>") params body scope (cloFrom X.env.cells scope.names []) pm (.ref c') ctv) ⟨[], []⟩ = pure [])
    (takes : Takes ((cxOf CXg X.prog X.w X.K X.mg X.base Ng qg sg g cdg X.A X.stack s H Eg).tr pn xe) W) (lets : ∀ cls d σ' H', E cls d H' → W cls d σ' H')
    (room : Room (k + 1) (X.A.deeper (envOfC qg sg s.heap.objs.size g cdg))) (quiet : X.A.guards = some [])
    (run : ∀ (A : Around) (outer : List Env) (s : Shared) (H : Hp), A.guards = some [] → Room k (A.deeper (LamX.lamEnv X scope s.heap.objs.size f c')) → PE (LamX.lamCx X A outer s H E scope f c') body tb)
    (slot : Ng[i]? = some a) (seen : Vis sg a) (n1 : (a == ("__debug__" : Str)) = false) (n2 : (a == ("__classdict__" : Str)) = false) :
    PE ((cxOf CXg X.prog X.w X.K X.mg X.base Ng qg sg g cdg X.A X.stack s H Eg).tr pn xe) (.Call (.Name a p1) [] [] p2)
      (fun σZ HZ Q => σZ[i]? = some (some (.ref f)) ∧ HZ c' = some (LamX.CodeO c' (X.env.qual ++ "<lambda>")) ∧ tb σ HZ Q) := by
  refine ⟨fun pz sz σz hz Q IZ ⟨held, code, want⟩ => ?_⟩
  have look := (pe_var (pos := p1) (i := i) slot seen n1 n2).run pz sz σz hz (fun v h1 => v = .ref f ∧ h1 = hz) IZ ⟨.ref f, held, rfl, rfl⟩
  refine wpAny_Call_Name_kw (thn look fun u s1 ⟨v, h1, I1, rv, ⟨ev, eh⟩⟩ => ?_)
  subst ev
  rw [eh] at I1
  obtain rfl : u = Value.ref f := rv
  have still := I1.base.keep f _ there fresh noFrame fun z => nomatch (show f ∈ ([] : List Addr) from z)
  refine PySem.W.callWith_F0 ⟨_, _, _, _, still⟩ ?_
  obtain ⟨⟨oc, vs, t, hoc, hdc, hvc⟩, _, _⟩ := I1.hok c' _ code
  have inner : codeAny (model X.prog X.w) (X.A.deeper (envOfC qg sg s.heap.objs.size g cdg)) (.call (.ref f) ⟨[], []⟩) (CR (L2.CX X.prog X.w) (envOfC qg sg s.heap.objs.size g cdg :: X.stack) X.prog X.w hz s1 Q E) s1 := by
    refine PySem.W.kla_callFunE room.depth still rfl lam.co lam.gen rfl ⟨c', oc, vs, t, rfl, hoc, hdc, hvc⟩ ?_
    rw [none_]
    refine wpAny_pure (wpAny_newFunctionEnv (fun y hy => (lam.own y hy).2) (fun y hy => absurd hy (by simp)) (fun h₁ ns sb => ⟨I1.nolimit.fresh _ sb, ?_⟩) lam.kind)
    show codeAny _ _ (.expr body (LamX.lamEnv X scope s1.heap.objs.size f c')) _ _
    have kept : ∀ b o, s1.heap.get? b = some o → h₁.get? b = some o := fun b o e =>
      sb.extBut b o (Nat.ne_of_lt (Heap.lt_size e)) (Heap.get?_push_of_some _ e)
    have J := LamX.lam_start2 (E := E) (f := f) (c' := c') (tk := s1.toks + ([] : List (Str × Value)).length) I lam I1.env0 room.hd I1.base ns kept
    have body_ := (run (X.A.deeper (envOfC qg sg s.heap.objs.size g cdg)) _ s1 hz quiet (room.deeper _)).run [] _ _ hz Q J want
    refine PySem.W.kla_codeExpr (wpAny_mono body_ (fun v s' hq => ?_) fun _ _ hq => hq)
    obtain ⟨w', H', J', rv, q⟩ := hq
    exact ⟨w', H', J'.os, J'.bare, J'.base, J'.hok, rv, q⟩
  have out : Passes (L2.CX X.prog X.w) ((cxOf CXg X.prog X.w X.K X.mg X.base Ng qg sg g cdg X.A X.stack s H Eg).tr pn xe) E := passes_call takes lets
  refine wpAny_call (codeAny_mono inner fun r s' hq => ?_)
  match r, hq with
  | .error e, hq => exact out pz σz hz s1 e s' I1 hq
  | .ok (.ret u), hq => exact I1.after hq
end
section
variable {X : Cx}
/-- x(lambda: body), x a def that calls it -/
theorem pe_lamquiet {T : List (Addr × Str)} {TT : (XK → Hp → VK → Prop) → Hp → VK → Prop} {x a : Str} {g c P : Addr} {k : Nat} {pg params : Arguments} {bg : List Stmt} {sg scope : Scope} {kws : List (Str × V)} {fd : FuncData} {Ng : List Str}
    {body : Expr} {t : XK → TE} {p lpos pos : Pos} (hg : Gl X x) (hm : X.mg x = some (.ref g)) (F : FunD X.K x x pg bg sg [] kws g fd) (hb : L2.Binds X.K fd [a] []) (Sg : FnScope Ng [a] sg) (first : Ng[0]? = some a) (seen : Vis sg a)
    (gives : ∀ cdg, LamX.GivesTo X Ng x sg g cdg bg a (X.env.qual ++ "<lambda>") TT)
    (TB : LamX.TabB X.base X.mg c P) (code : X.env.code = .ref c) (tIn : (P, X.env.qual ++ "<lambda>") ∈ T) (tOne : ∀ p ∈ T, p.1 = P → p.2 = X.env.qual ++ "<lambda>") (room : Room (k + 2) X.A) (quiet : X.A.guards = some []) (lam : LamX.LamS X.env.scope scope) (noDef : defaultsOf params X.env = ([], []))
    (none_ : ∀ (q : Str) (cl : List (Str × Addr)) (pm cv ctv : Value), bindArgs (PySem.W.kla_fn "<lambda>" q params body scope cl pm cv ctv) ⟨[], []⟩ = pure [])
    (run : ∀ (A : Around) (outer : List Env) (s : Shared) (H : Hp) (E : XK) (f c' : Addr), A.guards = some [] → Room k (A.deeper (LamX.lamEnv X scope s.heap.objs.size f c')) → PE (LamX.lamCx X A outer s H E scope f c') body (t E))
    (n0 : (x == ("__debug__" : Str)) = false) (n1 : (a == ("__debug__" : Str)) = false) (n2 : (a == ("__classdict__" : Str)) = false) :
    PE X (.Call (.Name x p) [.Lambda params body scope lpos] [] pos) (LamX.tLam T TT t) := by
  obtain ⟨oc, od, dV, kV, doc, pm, an, cdv, ct, osl, rfl, lk, hcd, _, _⟩ := F.ex
  refine ⟨fun pins s σ H Q I ⟨tabs, want⟩ => ?_⟩
  refine wpAny_Call_Name_kw (ld_glob I hg hm ?_ n0)
  refine PySem.W.callWith_K (h₀ := X.base) I.ok.mod.kin F.kp ?_ (by rfl) (by rfl)
  show wpAny _ _ (spliced ((false, eval (.Lambda params body scope lpos) X.env) :: backTo pos (starEach [] X.env))) _ _ s
  refine Calls.spliced_cons (LamX.lam_make2 I TB code tIn tOne tabs noDef (lam.has I.ok) fun f c' pm' ctv h1 s' I1 grown tabs1 there fresh noFrame coded => ?_)
  refine Calls.spliced_nil ⟨I1.kIn, ?_⟩
  have ran : codeAny (model X.prog X.w) X.A (.call (.ref g) ⟨[.ref f], []⟩) (CR C8.CX0 X.stack X.prog X.w h1 s' Q C8.E0) s' := by
    refine LamX.run_ofS (N := Ng) (ps := [a]) (us := [.ref f]) (vs := [.ref f]) lk hcd Sg room I1.env0 (hb s' [.ref f] I1.kIn rfl) (.cons rfl .nil) rfl fun room' => ?_
    obtain ⟨t', ht', hq'⟩ := gives cdv f c' s' h1 Q (fun E H' Q' => t E σ H' Q') (fun W pn xe E p1 p2 tk hW => act_quiet (i := 0) I1 lam there fresh noFrame (none_ _ _ _ _ _) tk hW room' quiet (fun A outer s H gd r => run A outer s H E f c' gd r) first seen n1 n2) coded (want h1 grown tabs1)
    exact ⟨t', ht'.nox, hq'⟩
  refine wpAny_call (codeAny_mono ran fun r s2 hq => ?_)
  match r, hq with
  | .ok (.ret u), hq => exact I1.after hq
end
/-! ### over data -/
/-- the reading of a lambda's body -/
def tBody (K : PySem.W.Frag) (T : List (Addr × Str)) (n : Nat) (kp1 : List Bool) (wl : XD → WE) (E : XK) : TE := fun σ H Q => ∃ A F ρ Ex, World K ⟨H, A, F, T, σ, n⟩ kp1 σ ρ [] [] H ∧
  (∀ σ' cls d H' ρ' vs ds c ns, World K ⟨H, A, F, T, σ, n⟩ kp1 σ' ρ' vs ds H' → XIs K c ns cls d H' → Ex c ns ρ' → E cls d H') ∧ wl Ex ρ fun z ρ' => ∀ v H', World K ⟨H, A, F, T, σ, n⟩ kp1 σ ρ' [v] [z] H' → Q v H'
section
variable {X : Cx} {G : Gm} {kp kp1 : List Bool}
theorem body_run {T : List (Addr × Str)} {A : Around} {outer : List Env} {s : Shared} {H : Hp} {E : XK} {scope : Scope} {f c' : Addr} {body : Expr} {wl : XD → WE} {n : Nat}
    (hb : ∀ (G1 : Gm) (Ex : XD), G1.T = T → G1.n = n → TakesD (LamX.lamCx X A outer s H E scope f c') G1 kp1 Ex → DE (LamX.lamCx X A outer s H E scope f c') G1 kp1 body (wl Ex)) :
    PE (LamX.lamCx X A outer s H E scope f c') body (tBody X.K T n kp1 wl E) := by
  refine ⟨fun pins s1 σ H1 Q I ⟨A1, F1, ρ, Ex, W, hE, q⟩ => ?_⟩
  have tk : TakesD (LamX.lamCx X A outer s H E scope f c') ⟨H1, A1, F1, T, σ, n⟩ kp1 Ex := by
    refine Takes.imp (takes_of (E := E) rfl rfl rfl rfl) fun cls d σ' H' ⟨ρ', vs, ds, c, ns, W', x, e⟩ => hE σ' cls d H' ρ' vs ds c ns W' x e
  exact (hb _ Ex rfl rfl tk).run.run pins s1 σ H1 Q I ⟨ρ, [], [], W, q⟩
theorem all_true {n : Nat} {j : Nat} (h : j < n) : (List.replicate n true).getD j false = true := by
  rw [List.getD_eq_getElem?_getD, List.getElem?_replicate, if_pos h]
  rfl
end
section
variable {X : Cx} {G : Gm} {kp : List Bool}
def rCountL (K : PySem.W.Frag) : V → List V → Hp → VK → Prop := fun x xs H Q => ∃ y ds d, xs = [y] ∧ Dp K H x (.list ds) ∧ Dp K H y d ∧ SeqAt.shaped (.list ds) = true ∧ SeqAt.shaped d = true ∧ Q (.int ((ds.countP fun z => PyData.eqv z d : Nat) : Int)) H
theorem mt_countL (hu : X.A.units + 66 < cLine) : MtR X "list.count" (rCountL X.K) := by
  intro pins s σ H x xs v us Q I rx rxs h
  obtain ⟨y, ds, d, rfl, hx, hy, s1, s2, q⟩ := h
  cases hx with
  | lst hq ha =>
    cases rx
    cases rxs with
    | cons ry rt =>
      cases rt
      obtain ⟨its, r, pl, hz⟩ := I.list hq
      obtain ⟨as, rd⟩ := Dp.readsAll I _ _ _ ha r
      obtain ⟨bs, rb⟩ := Dp.reads I _ _ _ hy ry
      have l1 := SeqAt.canLay_of_shaped s1
      have l2 := SeqAt.canLay_of_shaped s2
      have d2 := SeqAt.depth_of_shaped s2
      have goal := PySem.SeqAt.count_list_data (prog := X.prog) (w := X.w) (A := X.A) (E := X.xe) (xs := ds) (d := d) (Q := EP X pins σ Q) pl.isList (by simpa using rd) rb (PyData.plainAll_of_canLay0 _ (by simpa [PyData.canLay0] using l1)) (PyData.plain_of_canLay0 _ l2) (by omega)
      exact goal ⟨.int _, H, I.tok _, ⟨_, rfl⟩, q⟩
def cntLF : WM := fun x es Q => match x, es with
  | .lst m xs, [d] => shp (.lst m xs) ∧ shp d ∧ Q (.int ((xs.countP fun z => eqd z d : Nat) : Int)) (.lst m xs)
  | _, _ => False
theorem cntLF_of {x : D} {es : List D} {Q : D → D → Prop} (q : cntLF x es Q) : ∃ m xs d, x = .lst m xs ∧ es = [d] ∧ (shp (.lst m xs) ∧ shp d ∧ Q (.int ((xs.countP fun z => eqd z d : Nat) : Int)) (.lst m xs)) := by
  unfold cntLF at q
  split at q
  · exact ⟨_, _, _, rfl, rfl, q⟩
  · exact q.elim
theorem cntL_ok : MethD X G kp (rCountL X.K) cntLF := by
  refine ⟨fun x es P P' hp q => ?_, fun σ ρ vs ds xv us x es H Q l W q => ?_⟩
  · obtain ⟨m, xs, d, rfl, rfl, q⟩ := cntLF_of q
    exact ⟨q.1, q.2.1, hp _ _ q.2.2⟩
  · obtain ⟨m, xs, d, rfl, rfl, z⟩ := cntLF_of q
    obtain ⟨h1, h2, q⟩ := z
    match us, l, W with
    | [u], _, W =>
      have hx := W.swap.dp h1
      have hy := W.dp h2
      have e : (D.lst m xs).py = .list (pys xs) := by rw [D.py]
      have e2 : ((pys xs).countP fun z => PyData.eqv z d.py) = xs.countP fun z => eqd z d := by
        rw [pys_map, List.countP_map]; rfl
      unfold shp at h1
      rw [e] at hx h1
      exact ⟨u, pys xs, d.py, rfl, hx, hy, h1, h2, by rw [e2]; exact q _ _ W.drop.int⟩
/-- where the first alike stands -/
def ixLF : WM := fun x es Q => match x, es with
  | .lst m xs, [d] => shp (.lst m xs) ∧ shp d ∧ ∃ j z, xs[j]? = some z ∧ eqd z d = true ∧ (∀ i z', i < j → xs[i]? = some z' → eqd z' d = false) ∧ Q (.int (j : Nat)) (.lst m xs)
  | _, _ => False
theorem ixLF_of {x : D} {es : List D} {Q : D → D → Prop} (q : ixLF x es Q) : ∃ m xs d, x = .lst m xs ∧ es = [d] ∧ (shp (.lst m xs) ∧ shp d ∧ ∃ j z, xs[j]? = some z ∧ eqd z d = true ∧ (∀ i z', i < j → xs[i]? = some z' → eqd z' d = false) ∧ Q (.int (j : Nat)) (.lst m xs)) := by
  unfold ixLF at q
  split at q
  · exact ⟨_, _, _, rfl, rfl, q⟩
  · exact q.elim
theorem ixL_ok : MethD X G kp (rIndexD X.K) ixLF := by
  refine ⟨fun x es P P' hp q => ?_, fun σ ρ vs ds xv us x es H Q l W q => ?_⟩
  · obtain ⟨m, xs, d, rfl, rfl, z⟩ := ixLF_of q
    obtain ⟨a, b, j, z, h1, h2, h3, q⟩ := z
    exact ⟨a, b, j, z, h1, h2, h3, hp _ _ q⟩
  · obtain ⟨m, xs, d, rfl, rfl, z⟩ := ixLF_of q
    obtain ⟨h1, h2, j, z, h3, h4, h5, q⟩ := z
    match us, l, W with
    | [u], _, W =>
      have hx := W.swap.dp h1
      have hy := W.dp h2
      obtain ⟨a, us, e1, _⟩ := W.swap.isLst
      subst e1
      have e : (D.lst m xs).py = .list (pys xs) := by rw [D.py]
      unfold shp at h1
      rw [e] at hx h1
      refine ⟨a, u, d.py, pys xs, j, z.py, rfl, rfl, hx, hy, h1, h2, by rw [pys_map, List.getElem?_map, h3]; rfl, h4, fun i z' hi hz => ?_, q _ _ W.drop.int⟩
      rw [pys_map, List.getElem?_map] at hz
      obtain ⟨z2, hz2, rfl⟩ := Option.map_eq_some_iff.mp hz
      exact h5 i z2 hi hz2
variable {a b e : Expr} {x y : Str} {wa wb : WB} {we : WA} {j k : Nat} {apos cpos p p1 p2 p3 pos : Pos}
theorem m_countL (hu : X.A.units + 66 < cLine) (hj : X.N[j]? = some x) (hv : Vis X.env.scope x) (h : nm x = true) (ha : DA X G kp [e] we) (hbase : attributeBase (.Name x p) "count" X.env (eval (.Name x p) X.env) = eval (.Name x p) X.env := by rfl)
    (hfew : ((backTo cpos (starEach [e] X.env)).all (fun x => !x.1) && (backToKw cpos (keywordEach [] X.env)).all (fun x => x.1.isSome)
      && decide (([e] : List Expr).length + ([] : List Keyword).length + (if ([] : List Keyword).isEmpty then 0 else 1) < 30)) = true := by rfl)
    (hline : (apos.endLine == cpos.line) = true := by rfl) (hs : starEach [e] X.env = (false, eval e X.env) :: starEach [] X.env := by rfl) :
    DE X G kp (.Call (.Attribute (.Name x p) "count" apos) [e] [] cpos) (wMn "list" cntLF j we) :=
  de_mn F.plainAttrs_list F.slot_list_count F.type_list_count (mt_countL hu) cntL_ok (fun es P q => q) hj hv h ha hbase hfew hline hs
theorem m_indexL (hu : X.A.units + 66 < cLine) (hj : X.N[j]? = some x) (hv : Vis X.env.scope x) (h : nm x = true) (ha : DA X G kp [e] we) (hbase : attributeBase (.Name x p) "index" X.env (eval (.Name x p) X.env) = eval (.Name x p) X.env := by rfl)
    (hfew : ((backTo cpos (starEach [e] X.env)).all (fun x => !x.1) && (backToKw cpos (keywordEach [] X.env)).all (fun x => x.1.isSome)
      && decide (([e] : List Expr).length + ([] : List Keyword).length + (if ([] : List Keyword).isEmpty then 0 else 1) < 30)) = true := by rfl)
    (hline : (apos.endLine == cpos.line) = true := by rfl) (hs : starEach [e] X.env = (false, eval e X.env) :: starEach [] X.env := by rfl) :
    DE X G kp (.Call (.Attribute (.Name x p) "index" apos) [e] [] cpos) (wMn "list" ixLF j we) :=
  de_mn F.plainAttrs_list F.slot_list_index F.type_list_index (mt_indexD (by omega)) ixL_ok (fun es P q => q) hj hv h ha hbase hfew hline hs
/-! ### comparisons where a refusal is in hand -/
theorem t_neU (hu : X.A.units + 66 < cLine) (ha : DB X G kp a wa) (hb : DB X G kp b wb) : DT X G kp (.Compare a [.NotEq] [b] pos) (wT (wOp neD wa wb)) := dt_cmp (op_neD (by omega)) neD_ok ha hb (nomark _)
theorem DE.of_le {e : Expr} {w w' : WE} (h : DE X G kp e w) (m : ∀ ρ P P', (∀ d r, P d r → P' d r) → w' ρ P → w' ρ P') (l : ∀ ρ Q, w' ρ Q → w ρ Q) : DE X G kp e w' :=
  ⟨m, pe_imp h.run fun σ H Q ⟨ρ, vs, ds, W, q⟩ => ⟨ρ, vs, ds, W, l _ _ q⟩⟩
end
/-! ### isinstance of the refusal in hand -/
def isEF (a : Addr) (t : V) (b : Bool) (d e : D) (Q : D → D → D → Prop) : Prop := match d, e with
  | .opq v, .opq u => v = .ref a ∧ u = t ∧ Q (.bl b) (.opq v) (.opq u)
  | _, _ => False
/-- name i holds the refusal a -/
def wIsE (i : Nat) (a : Addr) (b : Bool) : WE := fun ρ Q => ρ[i]? = some (.opq (.ref a)) ∧ Q (.bl b) ρ
section
variable {X0 : Cx} {G : Gm} {kp : List Bool} {a C : Addr} {oe : Obj} {pn : List (Addr × Obj)} {x y : Str} {i : Nat} {p1 p2 p3 pos : Pos}
/-- the class of refusals y, a module's name -/
theorem de_globR {X : Cx} {A : Addr} (hg : Gl X y) (hm : X.mg y = some (.ref A)) (hd : (y == ("__debug__" : Str)) = false) : DE X G kp (.Name y p3) (wC (.opq (.ref A))) := de_glob hg hm (v := .ref A) rfl (fun _ _ _ => .opq) hd
theorem relR {A : Addr} : ∀ u, RelV (.ref A) u → u = .ref A := fun _ h => h
theorem relT {t : String} : ∀ u, RelV (.ty t) u → u = .type t := fun _ h => h
end
theorem boot_ValueError : bootBuiltins "ValueError" = some (.type "ValueError") := by decide +kernel
/-- what is known of a class of refusals that is caught: by the class z, asked of the classes ys -/
structure XCls (K : PySem.W.Frag) (z : Str) (ys : List Str) (c : Str) : Prop where
  e : ExcC K (He.ga K c)
  m : PySem.W.exmOne K (.ref (He.ga K c)) (.ref (He.ga K z)) = some true
  v : PySem.W.kitOne K (.ref (He.ga K c)) (.type "ValueError") = some true
  k : ∀ y, y ∈ ys → PySem.W.kitOne K (.ref (He.ga K c)) (.ref (He.ga K y)) = some (decide (c = y))
def xclsB (K : PySem.W.Frag) (z : Str) (ys : List Str) (c : Str) : Bool :=
  decide (PySem.W.findIn K (.ref (He.ga K c)) "__getattribute__" = some (some (.builtin "BaseException.__getattribute__"))) &&
  (decide (PySem.W.findIn K (.ref (He.ga K c)) "__getattr__" = some none) && (decide (PySem.W.subIn K (.ref (He.ga K c)) (.type "BaseException") = some true) && (PySem.W.hasDictIn K (He.ga K c) &&
  (decide (PySem.W.findIn K (.ref (He.ga K c)) "__class__" = some (some (.builtin "object.__class__"))) && (decide (PySem.W.specialIn K (.builtin "object.__class__") "__get__" = some (some (.builtin "getset_descriptor.__get__"))) &&
  (decide (PySem.W.takesIn K (.builtin "object.__class__") = some true) && (decide (PySem.W.mroIn K (He.ga K c) (.type "object") = some true) &&
  (decide (PySem.W.exmOne K (.ref (He.ga K c)) (.ref (He.ga K z)) = some true) && (decide (PySem.W.kitOne K (.ref (He.ga K c)) (.type "ValueError") = some true) &&
  ys.all fun y => decide (PySem.W.kitOne K (.ref (He.ga K c)) (.ref (He.ga K y)) = some (decide (c = y))))))))))))
theorem xcls_of {K : PySem.W.Frag} {z : Str} {ys : List Str} {c : Str} (h : xclsB K z ys c = true) : XCls K z ys c := by
  unfold xclsB at h
  simp only [Bool.and_eq_true, decide_eq_true_eq, List.all_eq_true] at h
  obtain ⟨h1, h2, h3, h4, h5, h6, h7, h8, h9, h10, h11⟩ := h
  exact ⟨⟨h1, h2, h3, h4, h5, h6, h7, h8⟩, h9, h10, h11⟩
section
variable {K : PySem.W.Frag}
theorem reps_gone {H : Hp} {F : AS} : ∀ us : List V, Reps K H F us (List.replicate us.length .gone) M0
  | [] => .nil
  | u :: us => .cons (B := M0) (C := M0) .gone (reps_gone us) (fun _ h => h) (fun _ h => h) fun _ h => h.elim
/-- slots of which nothing is known -/
theorem World.blank {T : List (Addr × Str)} {H : Hp} {A F : AS} {vs0 : Sl} (σ : Sl) (en : Enter K T [] [] H A F) : World K ⟨H, A, F, T, vs0, σ.length⟩ [] σ (List.replicate σ.length .gone) [] [] H := by
  obtain ⟨r, sep, ow, tr, tb⟩ := en
  have e : (sv σ).length = σ.length := by simp [sv]
  have rg : Reps K H F (sv σ) (List.replicate σ.length .gone) M0 := by rw [← e]; exact reps_gone (sv σ)
  refine ⟨A, F, rg.mono fun _ h => h.elim, rfl, by simp, rfl, fun i hi => ?_, sep, ow, tr, fun a h => .inl h, fun a h => .inr (.inl h), fun _ _ e _ _ => e, fun _ e => e, tb, fun j hj => by simp at hj⟩
  have hl : i < σ.length := (List.getElem?_eq_some_iff.mp hi).1
  rw [List.getElem?_replicate, if_pos hl]
end
section
variable {X : Cx} {T : List (Addr × Str)} {ok : Str → Option Str}
end
/-! ### a def that catches, and is handed a lambda -/
/-- what the code of a def that makes lambdas must say -/
structure LamM (base : Heap) (mg : Str → Option Value) (T : List (Addr × Str)) (cdv : Value) (q : Str) : Prop where
  ex : ∃ c P, cdv = .ref c ∧ LamX.TabB base mg c P ∧ (P, q ++ "<lambda>") ∈ T ∧ ∀ p ∈ T, p.1 = P → p.2 = q ++ "<lambda>"
section
variable {X : Cx} {G : Gm} {kp : List Bool} {T : List (Addr × Str)} {ok : Str → Option Str} {x y : Str} {params : Arguments} {e : Expr} {es : List Expr} {scope : Scope} {S : SD} {wr : WBs} {ps : List Str} {j k : Nat} {p p1 p2 lpos pos : Pos}
end
theorem FunD.okL {P : Program} {w : PySem.World} {K : PySem.W.Frag} {mg : Str → Option Value} {base : Heap} {x qual : Str} {params : Arguments} {body : List Stmt} {scope : Scope} {kws : List (Str × V)} {f : Addr} {fd : FuncData} {N ps : List Str} {k : Nat} {S : SD} {T : List (Addr × Str)} {kp : List Bool} {wd : XD → WS}
    (F : FunD K x qual params body scope [] kws f fd) (Sc : FnScope N ps scope) (hkp : kp.length = ps.length) (hS : ∀ ds Q E, S ds Q E → ds.length = ps.length)
    (hw : ∀ ds Q E, S ds Q E → wd (fun c ns ρ => E c ns (outs kp ρ)) { nx := fun ρ => Q .non (outs kp ρ), rt := fun d ρ => Q d (outs kp ρ) } (ds ++ List.replicate (N.length - ps.length) .gone))
    (hbody : ∀ (A : Around) (outer : List Env) (s : Shared) (H : Hp) (E : XK) (G : Gm) (Ex : XD), Room k (FX P w K mg base N qual scope f fd.code A outer s H E).A → (FX P w K mg base N qual scope f fd.code A outer s H E).A.guards = some [] → PySem.W.codeIn K fd.code qual = true → G.T = T → G.n = N.length →
      TakesD (FX P w K mg base N qual scope f fd.code A outer s H E) G kp Ex → DSs (FX P w K mg base N qual scope f fd.code A outer s H E) G kp body (wd Ex)) : FnG P w K mg base (k + 1) f fd ps (spD K T S) := by
  obtain ⟨oc, od, dV, kV, doc, pm, an, cdv, ct, osl, rfl, lk, hcd, hv1, hv2⟩ := F.ex
  have hlN : ps.length ≤ N.length := by
    have := congrArg List.length Sc.pre
    rw [List.length_take] at this
    omega
  refine ⟨fun vs H Q E ⟨A, F, es, en, q⟩ => ?_, fun A outer s H args us vs Q E hr hgd he hb hv hsp => ?_⟩
  · rw [en.1.length]
    exact hS _ _ _ q
  · obtain ⟨A1, F1, es, en, q⟩ := hsp
    have lv : vs.length = ps.length := by rw [en.1.length]; exact hS _ _ _ q
    refine LamX.run_ofS lk hcd Sc hr he hb hv lv fun hr2 => ?_
    let G : Gm := ⟨H, A1, F1, T, vs.map some, N.length⟩
    let Ex : XD := fun c ns ρ => ∀ cls d H', World K ⟨H, A1, F1, T, vs.map some, 0⟩ [] [] [] vs (outs kp ρ) H' → XIs K c ns cls d H' → E cls d H'
    have fin : ∀ {vs2 : List V} {ds2 : List D} {σ : Sl} {ρ : List D} {H' : Hp}, World K G kp σ ρ vs2 ds2 H' → World K ⟨H, A1, F1, T, vs.map some, 0⟩ [] [] [] (vs2 ++ vs) (ds2 ++ outs kp ρ) H' := fun {vs2 ds2 σ ρ H'} W => World.end_ W (by rw [hkp, lv]) (by rw [lv]; exact hlN)
    have tk : TakesD (FX P w K mg base N qual scope f cdv A outer s H E) G kp Ex := by
      refine Takes.imp (takes_of (E := E) rfl rfl rfl rfl) fun c d σ H' h => ?_
      obtain ⟨ρ, vs2, ds2, c, ns, W, hx, hE⟩ := h
      refine hE _ _ _ ?_ hx
      have W1 : World K G kp σ ρ vs2 ds2 H' := W
      have W2 : World K G kp σ ρ [] [] H' := World.dropN (us := vs2) (es := ds2) (vs := []) (ds := []) (by simpa using W1) W1.lv
      exact fin W2
    have B := hbody A outer s H E G Ex hr2 (guards_deeper hgd) hcd rfl rfl tk
    refine ⟨_, B.run, ?_⟩
    have W0 : World K G kp (L2.start N vs) (es ++ List.replicate (N.length - ps.length) .gone) [] [] H := by
      refine World.begin_ en (by rw [lv]) (fun j hj => ?_) (by rw [lv]; exact hlN)
      by_cases hl : j < vs.length
      · exact hl
      · rw [List.getD_eq_getElem?_getD, List.getElem?_eq_none (by rw [hkp, ← lv]; omega)] at hj
        cases hj
    refine ⟨_, [], [], W0, B.mono _ _ _ ?_ (hw es _ _ q)⟩
    refine ⟨fun ρ z σ' H' W => ?_, fun d ρ z v σ' H' W => z v H' (fin W), fun _ z => z.elim, fun _ z => z.elim⟩
    exact z .non H' (fin W.non)
theorem lamM_of {K : PySem.W.Frag} {mg : Str → Option Value} {base : Heap} {x qual q : Str} {params : Arguments} {body : List Stmt} {scope : Scope} {kws : List (Str × V)} {fd : FuncData} {T : List (Addr × Str)} {p : He.Defn}
    (F : FunD K x qual params body scope [] kws (He.fAd K p) fd) (TB : LamX.TabB base mg (He.cT K p).1 (He.cT K p).2) (hm : ((He.cT K p).2, q ++ "<lambda>") ∈ T) (ho : ∀ z ∈ T, z.1 = (He.cT K p).2 → z.2 = q ++ "<lambda>") : LamM base mg T fd.code q := by
  obtain ⟨oc, od, dV, kV, doc, pm, an, cdv, ct, osl, e, lk, hcd, _, _⟩ := F.ex
  have ec : fd.code = cdv := by rw [e]
  obtain ⟨c, hc⟩ := He.codeIn_ref hcd
  have e2 : He.codeOf K p = c := He.codeOf_eq lk (ec.trans hc)
  have e3 : (He.cT K p).1 = c := e2
  refine ⟨c, (He.cT K p).2, ec.trans hc, e3 ▸ TB, hm, ho⟩
theorem mem_lookup2 {c t : Str} : ∀ {l : List (Str × Str)}, l.lookup c = some t → (c, t) ∈ l
  | [], h => by cases h
  | (a, b) :: r, h => by
    rw [List.lookup_cons] at h
    split at h
    · rename_i e
      cases h
      rw [beq_iff_eq.mp e]
      exact List.mem_cons_self
    · exact List.mem_cons_of_mem _ (mem_lookup2 h)
section
variable {K : PySem.W.Frag} {G : Gm} {kp : List Bool} {σ : Sl} {ρ : List D} {vs : List V} {ds : List D} {H : Hp} {p : Addr}
theorem World.newDct0 (W : World K G kp σ ρ vs ds H) (hp : H p = none) : World K G kp σ ρ (.ref p :: vs) (.dct .own [] [] :: ds) (upd H p (.dK [])) := by
  obtain ⟨A, F, f⟩ := W
  have r := f.reps
  have na : ¬ A p := fun z => by
    obtain ⟨u, e, _⟩ := f.own _ z
    rw [hp] at e; cases e
  refine ⟨fun x => x = p ∨ A x, F, f.laid hp _ ?_ (by have := f.lv; simp at this ⊢; exact this) fun x h => ?_⟩
  · exact .cons (B := fun x => x = p) (C := A) (.dOwn (B := M0) upd_same rfl rfl .nil fun x h => h.elim) (r.agr (agr_laid hp) fun _ h => h) (fun x h => .inl h) (fun x h => .inr h) fun x h q => na (h ▸ q)
  · exact h.elim (fun h => .inr ⟨h, trivial⟩) .inl
end
section
variable {X : Cx} {G : Gm} {kp : List Bool} {pos : Pos}
def wDct0 : WE := fun ρ Q => Q (.dct .own [] []) ρ
theorem de_dnew : DE X G kp (.Dict [] [] pos) wDct0 := ⟨fun ρ P P' hp q => hp _ _ q, pe_imp pe_dnewK fun σ H Q ⟨ρ, vs, ds, W, q⟩ => fun p hp => q _ _ (W.newDct0 hp)⟩
end
/-- items, what is held meanwhile, where it goes back to -/
abbrev WIL := List D → (List (List D) → List D → List (Option Nat) → List D → Prop) → Prop
section
variable {X : Cx} {G : Gm} {kp : List Bool} {e elt tg iter a b : Expr} {ifs : List Expr} {scope : Scope} {own : List (Str × Nat)} {pos p tpos : Pos} {sh : Bool} {wi : WIL} {g : WGs} {wt : WT} {we : WE} {wbs : WBs} {elts : List Expr} {kk : Nat}
def wiZN (w : WBs) : WIL := fun ρ Q => w ρ fun es os r => match es with
  | [x, y] => seqQ x fun xs x' => seqQ y fun ys y' => Q (pairs xs ys) [x', y'] os r
  | _ => False
def wLcN (wi : WIL) (g : WGs) (wt : WT) (we : WE) (own : List Nat) : WE := fun ρ Q => wi ρ fun items ds0 os r => items.length ≤ sizeLine ∧ lcL g wt we own (fun acc ρ' => Q (.lst .own acc) (gbs os ds0 (wipeD ρ' own))) items [] (wipeD r own)
end
/-! places by a name as targets in a row -/
section
variable {X : Cx} {G : Gm} {kp : List Bool} {e : Expr} {x : Str} {j : Nat} {apos cpos p : Pos} {wa : WA}
def popAtF : WM := fun x es Q => match x, es with
  | .lst .own xs, [.int i] => -(2 ^ 63) ≤ i ∧ i < 2 ^ 63 ∧ ∃ k d, ixN xs.length i = some k ∧ xs[k]? = some d ∧ Q d (.lst .own (xs.eraseIdx k))
  | _, _ => False
/-- extended by a list that is shared -/
def extF : WM := fun x es Q => match x, es with
  | .lst .own xs, [.lst .shr ys] => xs.length + ys.length ≤ sizeLine ∧ Q .non (.lst .own (xs ++ ys))
  | .lst .own xs, [.lst .own ys] => solids ys = true ∧ xs.length + ys.length ≤ sizeLine ∧ Q .non (.lst .own (xs ++ ys))
  | _, _ => False
/-! ### tuple(range(n)) -/
def wTrg (wa : WE) : WE := fun ρ Q => wa ρ fun d r => match d with
  | .int n => 0 ≤ n ∧ n ≤ 16777216 ∧ Q (.tup ((List.range n.toNat).map fun i => .int ((i : Nat) : Int))) r
  | _ => False
variable {p2 p3 pos : Pos} {we : WE}
end
/-- all that stood there stands -/
def Kp (h h' : Heap) : Prop := ∀ b o, h.get? b = some o → h'.get? b = some o
theorem Kp.trans {h h1 h2 : Heap} (a : Kp h h1) (b : Kp h1 h2) : Kp h h2 := fun c o e => b c o (a c o e)
section
variable {P : Program} {w : PySem.World} {env : Env} {h0 : Heap} {a b : Expr} {pos p1 p2 : Pos} {x y z : PyData}
end
/-! ### the reading of a key -/
abbrev WKy := List D → D → (PyData → Prop) → Prop
section
variable {X : Cx} {par n : Str} {scope : Scope} {a b : Expr} {pos p1 : Pos} {wa wb : WKy}
end
section
variable {P : Program} {w : PySem.World} {A : Around} {E : Value → Shared → Prop} {s : Shared} {l : Addr} {vs : List Value} {β : Type} {bs : List β} {R : Value → β → Prop}
/-- what collect gives: values that stand for bs -/
def Cols (P : Program) (w : PySem.World) (A : Around) (s : Shared) (l : Addr) (R : Value → β → Prop) (bs : List β) : Prop :=
  ∀ (Q : List Value → Shared → Prop) (E : Value → Shared → Prop), (∀ h' tk vs, Kp s.heap h' → PySem.W.EachIs R vs bs → Q vs { s with heap := h', toks := tk }) → wpAny (model P w) A (collect (.ref l)) Q E s
theorem kp_tail {h : Heap} {o : Obj} {f : Obj → Obj} : Kp h ((h.push o).update h.objs.size f) := fun b u e => (Heap.get?_update_other _ _ (Ne.symm (Nat.ne_of_lt (Heap.lt_size e)))).trans (Heap.get?_push_of_some _ e)
theorem cols_list (hl : s.heap.IsList l vs.toArray) (hz : vs.length ≤ sizeLine) (e : PySem.W.EachIs R vs bs) : Cols P w A s l R bs := fun Q E q =>
  collect_list hl (q _ s.toks vs kp_tail e) hz
theorem cols_tup (ht : IsTup s.heap l vs.toArray) (hz : vs.length ≤ sizeLine) (e : PySem.W.EachIs R vs bs) : Cols P w A s l R bs := fun Q E q => by
  obtain ⟨o, ho, hc, n, hd⟩ := id ht
  have sz : (([] : List Value).toArray ++ vs.toArray).size ≤ sizeLine + 1 := by
    rw [Array.size_append]
    simp only [List.size_toArray, List.length_nil]
    omega
  have here := fun (b : Obj) (t : Heap) (z : Obj) (y : t.get? l = some z) => Heap.get?_push_of_some (h := t) b y
  unfold collect
  refine wpAny_bind (wpAny_runValue (codeAny_builtin entry_proto_collect' ?_))
  show wpAny (model P w) _ (newList [] >>= fun q => again (.builtin "list.__iadd__" ⟨[q, .ref l], []⟩)) _ _ s
  refine wpAny_bind (wpAny_newList (wpAny_pure ⟨Code.quiet_builtin _ (by decide +kernel), codeAny_builtin entry_list_iadd' ?_⟩))
  show wpAny (model P w) _ (Builtin.List.listExtendWith (.ref s.heap.objs.size) (.ref l) (.ref s.heap.objs.size)) _ _ { s with heap := s.heap.push (seqObj "list" #[] 0) }
  unfold Builtin.List.listExtendWith
  refine wpAny_bind (wpAny_typeOf (T := "tuple") ⟨o, here _ _ _ ho, hc⟩ ?_)
  have tt : (Value.type "tuple" == Value.type "tuple") = true := by rfl
  rw [if_pos (by rw [tt]; simp)]
  refine wpAny_bind (listItems_at (here _ _ _ ho) hd (wpAny_bind (listItems_at (xs := #[]) (n := 0) (Heap.get?_push_size _ rfl) rfl ?_)))
  rw [if_neg (by simp)]
  refine wpAny_bind (listUpdate_at (xs := #[]) (n := 0) (Heap.get?_push_size _ rfl) rfl (wpAny_pure ?_) (Nat.zero_le _) sz)
  refine wpAny_bind (wpAny_load (get?_update_seq (Heap.get?_push_size _ rfl) _) ?_)
  refine wpAny_pure ?_
  have same : ((#[] : Array Value) ++ vs.toArray).toList = vs := by simp
  rw [same]
  exact q _ s.toks vs kp_tail e
end
/-! ### the lambda -/
/-- one parameter; captured names and globals beside -/
structure LamS1 (sc scope : Scope) (par : Str) : Prop where
  kind : scope.kind = .function
  co : scope.isCoroutine = false
  gen : scope.isGenerator = false
  par : scope.names.lookup par = some .local
  own : ∀ y ∈ scope.names, y.2 ≠ .cell
  free : ∀ y ∈ scope.names, y.2 = .free → sc.names.lookup y.1 = some .cell ∨ sc.names.lookup y.1 = some .free
/-- a key without lists -/
def NoL (z : PyData) : Prop := ∀ h u as, Reads h u z as → as = []
section
variable {X : Cx} {pins : List (Addr × Obj)} {σ : Sl} {H : Hp} {s : Shared} {par : Str} {scope : Scope} {params : Arguments} {body : Expr} {f c' : Addr} {pm ctv : Value} {wk : WKy}
theorem LamS1.has (L : LamS1 X.env.scope scope par) (ok : X.Ok) : ∀ y ∈ scope.names, y.2 = .free → ∃ c, X.env.cells.lookup y.1 = some c := fun y hy e =>
  ok.has _ (L.free y hy e)
end
/-- what is walked: a list's, a tuple's items, a dict's whole numbers -/
def srcQ (d : D) (P : List D → Prop) : Prop := match d with
  | .lst _ xs => P (frzs xs)
  | .tup xs => P (frzs xs)
  | .dct _ ks _ => ∃ is : List Int, (ks = is.map fun i => DK.k (.inl i)) ∧ P (is.map D.int)
  | _ => False
theorem zip_maps {α β : Type} : ∀ l : List (α × β), (l.map (·.1)).zip (l.map (·.2)) = l
  | [] => rfl
  | p :: r => by rw [List.map_cons, List.map_cons, List.zip_cons_cons, zip_maps r]
section
variable {X : Cx} {G : Gm} {kp : List Bool} {pins : List (Addr × Obj)} {σ : Sl} {ρ : List D} {u : V} {vs : List V} {d : D} {ds : List D} {H : Hp} {s : Shared} {P : List D → Prop}
/-- it may be collected, its items may be had -/
def SrcAt (X : Cx) (G : Gm) (kp : List Bool) (σ : Sl) (ρ : List D) (u : V) (vs : List V) (d : D) (ds : List D) (H : Hp) (s : Shared) (a : Addr) (l : List (V × D)) : Prop :=
  l.length ≤ sizeLine ∧ ((∀ p ∈ l, okP p.2 60) → ∀ A : Around, A.handled = none → Cols X.prog X.w A s a (fun (v : Value) (b : V × D) => RelV b.1 v ∧ ∃ as, Reads s.heap v b.2.py as) l) ∧
    ∀ l' : List (V × D), (∀ p ∈ l', p ∈ l) → World X.K G kp σ ρ (l'.map (·.1) ++ u :: vs) (l'.map (·.2) ++ frzK d :: ds) H
theorem each_of_vals (I : Inv X pins σ H s) {l : List (V × D)} {us : List Value} (r : Vals (l.map (·.1)) us) (ok : ∀ p ∈ l, okP p.2 60) (dp : ∀ p ∈ l, p.2.py.canLay0 = true → Dp X.K H p.1 p.2.py) : PySem.W.EachIs (fun (v : Value) (b : V × D) => RelV b.1 v ∧ ∃ as, Reads s.heap v b.2.py as) us l := by
  have e1 := vals_eachIs r
  refine PySem.W.EachIs.of_zip e1.length fun p hp => ?_
  have h1 := e1.zip p hp
  have hm := (List.of_mem_zip hp).2
  exact ⟨h1, Dp.reads I p.2.2.py p.2.1 p.1 (dp p.2 hm (ok p.2 hm).1) h1⟩
theorem World.src (I : Inv X pins σ H s) (W : World X.K G kp σ ρ (u :: vs) (d :: ds) H) (q : srcQ d P) : ∃ a l, u = .ref a ∧ P (l.map (·.2)) ∧ SrcAt X G kp σ ρ u vs d ds H s a l := by
  have lv := W.lv
  cases d <;> first | exact q.elim | skip
  · rename_i es
    have W1 : World X.K G kp σ ρ (u :: vs) (.tup (frzs es) :: ds) H := W.frzKids
    obtain ⟨A, F, f⟩ := W1
    have r := f.reps
    cases r with
    | cons a b i j k =>
      cases a with
      | tup t q0 =>
        rename_i ad us A1 _
        have rs := q0.solid (frzs_solid es)
        obtain ⟨l, g1, g2, g3⟩ := rs.mems
        refine ⟨_, l, rfl, by rw [g2]; exact q, ?_⟩
        obtain ⟨its, rv, pl, hz⟩ := I.tuple t.sq
        have lu := congrArg List.length g1
        rw [List.length_map] at lu
        have lw := rv.length
        have lz : l.length ≤ sizeLine := by omega
        refine ⟨lz, fun ok A0 hh => cols_tup pl (by omega) (each_of_vals I (by rw [g1]; exact rv) ok fun p hp cl => (g3 p hp).dp cl), fun l' hl' => ?_⟩
        refine ⟨A, F, f.rep A ?_ (by simp at lv ⊢; omega) fun _ h => h⟩
        rw [List.append_assoc, List.append_assoc]
        exact ((Reps.of_mems l' fun p hp => g3 p (hl' p hp)).join f.reps fun _ h => h.elim).mono fun x h => h.elim (fun z => z.elim) id
  · rename_i m es
    have W1 : World X.K G kp σ ρ (u :: vs) (.lst m (frzs es) :: ds) H := W.frzKids
    obtain ⟨a, us, rfl, t, _, ln, ⟨F0, r0⟩, mk⟩ := W1.lstX (frzs_solid es)
    obtain ⟨l, g1, g2, g3⟩ := r0.mems
    refine ⟨a, l, rfl, by rw [g2]; exact q, ?_⟩
    obtain ⟨its, rv, hl, hz⟩ := I.list t
    have lu : l.length = us.length := by rw [← g1, List.length_map]
    have lw := rv.length
    have lz : l.length ≤ sizeLine := by omega
    refine ⟨lz, fun ok A0 hh => cols_list hl.isList (by omega) (each_of_vals I (by rw [g1]; exact rv) ok fun p hp cl => (g3 p hp).dp cl), fun l' hl' => ?_⟩
    refine mk _ _ (fun F A rk r => ?_) (by simp at lv ⊢; omega)
    obtain ⟨l2, k1, k2, k3⟩ := rk.mems
    have e : l = l2 := by rw [← zip_maps l, ← zip_maps l2, g1, g2, k1, k2]
    subst e
    rw [List.append_assoc, List.append_assoc]
    exact ((Reps.of_mems l' fun p hp => k3 p (hl' p hp)).join r fun _ h => h.elim).mono fun x h => h.elim (fun z => z.elim) id
  · rename_i m ks es
    obtain ⟨is, hk, q⟩ := q
    have W1 : World X.K G kp σ ρ (u :: vs) (.dct m ks (frzs es) :: ds) H := W.frzKids
    obtain ⟨a, kvs, e1, e2, e3, _, _⟩ := W1.isDct (by rw [hk]; simp [DK.isK])
    have e4 : kvs.map (·.1) = is.map Sum.inl := by
      rw [hk, kks] at e3
      have e5 := congrArg (List.map fun (x : DK) => match x with | .k k => k | .n _ => Sum.inl 0) e3
      rw [List.map_map, List.map_map] at e5
      exact e5
    obtain ⟨z, lo, ws, rel, dd⟩ := dk_of I.hok e2
    obtain ⟨ep, hat⟩ := dd.dictAt
    have keys : ws.map (·.1) = is.map Sum.inl := rel.keys.symm.trans e4
    have len : ws.length = is.length := by have := congrArg List.length keys; simpa using this
    have lz : is.length ≤ sizeLine := by rw [← len, ← rel.length]; exact z
    have m2 : (is.map fun i => (V.int i, D.int i)).map (·.2) = is.map D.int := by rw [List.map_map]; rfl
    have m1 : (is.map fun i => (V.int i, D.int i)).map (·.1) = is.map V.int := by rw [List.map_map]; rfl
    refine ⟨a, is.map fun i => (V.int i, D.int i), e1, by rw [m2]; exact q, by rw [List.length_map]; exact lz, fun ok A0 hh Q E fin => ?_, fun l' hl' => ?_⟩
    · refine PySem.W.kdu_collect (A := A0) (PySem.W.kdl_dict (knd := mixKind X.prog X.w) (kvs := ws) (ep := ep) lo) hh hat (by rw [len]; exact lz) fun h' tk acc hk' hacc => fin h' tk _ hk' ?_
      have la : acc.toList.length = is.length := by rw [Array.length_toList, hacc.1, len]
      have ia : IntsAre acc.toList is := ints_each la fun j v e => by
        obtain ⟨k, x, q1, q2⟩ := hacc.2 j v (by rw [← Array.getElem?_toList]; exact e)
        have q3 : (ws.map (·.1))[j]? = some k := by rw [List.getElem?_map, q1]; rfl
        rw [keys, List.getElem?_map] at q3
        obtain ⟨y, q4, q5⟩ := Option.map_eq_some_iff.mp q3
        subst q5
        rcases keyIs_shape (show keyIs (Sum.inl y) v = true from q2) with ⟨i, t, ek, ev⟩ | ⟨z, t, ek, ev⟩
        · cases ek; exact ⟨y, t, q4, ev⟩
        · cases ek
      have go : ∀ {is : List Int} {us : List Value}, PySem.W.EachIs (fun (v : Value) (i : Int) => ∃ t, v = .int i t) us is → PySem.W.EachIs (fun (v : Value) (b : V × D) => RelV b.1 v ∧ ∃ as, Reads s.heap v b.2.py as) us (is.map fun i => (V.int i, D.int i)) := fun e => by
        induction e with
        | nil => exact .nil
        | cons h _ ih =>
          obtain ⟨t, rfl⟩ := h
          exact .cons ⟨⟨t, rfl⟩, [], .int _ _⟩ ih
      exact go (ints_each_ ia)
    · have allI : ∀ l' : List (V × D), (∀ p ∈ l', p ∈ is.map fun i => (V.int i, D.int i)) → World X.K G kp σ ρ (l'.map (·.1) ++ u :: vs) (l'.map (·.2) ++ .dct m ks (frzs es) :: ds) H := fun l' => by
        induction l' with
        | nil => exact fun _ => W1
        | cons p r ih =>
          intro hl
          have W2 := ih fun p hp => hl p (List.mem_cons_of_mem _ hp)
          obtain ⟨i, _, e⟩ := List.mem_map.mp (hl p List.mem_cons_self)
          subst e
          exact W2.int
      exact allI l' hl'
end
/-! ### the rule -/
def leK (kf : D → PyData) (x y : D) : Bool := PySem.W.dataLe false kf x y
structure KeysOk (xs : List D) (kf : D → PyData) (wk : D → (PyData → Prop) → Prop) : Prop where
  each : ∀ x ∈ xs, okP x 60 ∧ NoL (kf x) ∧ (kf x).depth ≤ 60 ∧ wk x (· = kf x)
  alike : PySem.W.AllAlike (xs.map kf)
  sorts : PySem.W.Sortable (xs.map kf)
def wSortK (wk : WKy) (wr : WBs) : WE := fun ρ Q => wr ρ fun es os r => match es with
  | [d] => srcQ d fun xs => ∃ kf, KeysOk xs kf (wk (gbs os [frzK d] r)) ∧ Q (.lst .own (xs.mergeSort (leK kf))) (gbs os [frzK d] r)
  | _ => False
section
variable {X : Cx} {G : Gm} {kp : List Bool} {e body : Expr} {params : Arguments} {scope : Scope} {par : Str} {wk : WKy} {wr : WBs} {k : Nat} {T : List (Addr × Str)} {p lpos kpos pos : Pos}
end
/-- a dict of whole numbers -/
def dI (m : M) (kvs : List (Int × D)) : D := .dct m (kvs.map fun p => DK.k (.inl p.1)) (kvs.map (·.2))
section
variable {β : Type}
end
/-! ### reads and writes -/
/-! ### update -/
section
variable {K : PySem.W.Frag} {G : Gm} {kp : List Bool} {σ : Sl} {ρ : List D} {vs xs : List V} {ds es fs : List D} {H : Hp} {v : V} {ks : List DK} {m : M}
end
section
variable {X : Cx} {G : Gm} {kp : List Bool} {e : Expr} {wa : WA} {j : Nat} {x : Str}
end
/-! ### {k: v} -/
section
variable {X : Cx} {G : Gm} {kp : List Bool} {ke ve : Expr} {wk wv : WE} {pos : Pos}
def wDct1 (wk wv : WE) : WE := fun ρ Q => wk ρ fun k r => wv r fun v r2 => match keyD k with
  | some k => Q (.dct .own [.k k] [v]) r2
  | none => False
end
section
variable {i : Nat} {ρ : List D} {Q : D → Option Nat → List D → Prop} {R : D → List D → Prop} {m : M} {kvs : List (Int × D)} {k : Int}
end
section
variable {X : Cx} {G : Gm} {kp : List Bool} {e elt tg iter : Expr} {ifs : List Expr} {scope : Scope} {own : List (Str × Nat)} {pos : Pos} {sh : Bool} {wi : WI} {g : WGs} {wt : WT} {we : WE}
end
section
variable {X : Cx} {G : Gm} {kp : List Bool} {e elt tg iter : Expr} {ifs : List Expr} {scope : Scope} {own : List (Str × Nat)} {pos : Pos} {sh : Bool} {wi : WIL} {g : WGs} {wt : WT} {we : WE}
end
variable {X : Cx} {G : Gm} {kp : List Bool} {a b : Expr} {wa wb : WB} {pos : Pos}
section
variable {K : PySem.W.Frag} {G : Gm} {kp : List Bool} {σ : Sl} {ρ : List D} {vs : List V} {ds : List D} {H : Hp} {v : V} {m : M} {kvs : List (Int × Int)}
end
/-! ### get -/
section
variable {X : Cx} {G : Gm} {kp : List Bool} {e e2 : Expr} {wa : WA} {j : Nat} {x : Str}
end
/-! ### setdefault -/
section
variable {X : Cx} {G : Gm} {kp : List Bool} {e e2 : Expr} {wa : WA} {j : Nat} {x : Str}
end
/-! ### dict(xs), dict(d) -/
section
variable {X : Cx} {G : Gm} {kp : List Bool} {e : Expr} {wr : WBs} {p1 pos : Pos}
end
section
variable {m : M} {kvs prs : List (Int × Int)} {k j : Int}
end
section
variable {prog : Program} {w : PySem.World} {A : Around} {E : Value → Shared → Prop} {s : Shared} {Q : Value → Shared → Prop} {Kt : Type} [DecidableEq Kt] {knd : KeyKind prog w Kt} {a : Addr} {ka : List (Kt × Value)}
end
section
variable {X : Cx} {G : Gm} {kp : List Bool} {a b : Expr} {wa wb : WB} {pos : Pos} {k : Nat}
end
section
variable {P : Program} {w : PySem.World}
/-- the value at an address is the key k -/
abbrev KeyAt (P : Program) (w : PySem.World) (h : Heap) (k : NestedKey) (b : Addr) : Prop := (nestedKind P w).is h k b
theorem KeyAt.beside {h h' : Heap} {k : NestedKey} {a b : Addr} {o : Obj} {es : Array (Int × Value)} {ep : Nat} {t : SetTable} (x : KeyAt P w h k b) (ho : h.get? a = some o) (hd : o.data = .set es ep t) (sb : Heap.SameBut a h h') : KeyAt P w h' k b :=
  ⟨NestedIs.at (fun c u us n e1 e2 => (sb.2 c fun z => by
    rw [z, ho] at e1
    rw [← Option.some.inj e1, hd] at e2
    cases e2).trans e1) _ _ x.1, x.2⟩
end
/-- the rows of a set's table: hash and member -/
def rowsN (w : PySem.World) (L : List (Addr × NestedKey)) : List (Int × Value) := L.map fun m => (m.2.hash w, Value.ref m.1)
def hashesN (w : PySem.World) (L : List (Addr × NestedKey)) : List Int := L.map fun m => m.2.hash w
/-- at a stands the set of the keys of L -/
structure SN (P : Program) (w : PySem.World) (h : Heap) (a : Addr) (L : List (Addr × NestedKey)) (es : Array (Int × Value)) (ep : Nat) (t : SetTable) : Prop where
  obj : ∃ o, h.get? a = some o ∧ o.ExactSet ∧ o.data = .set es ep t
  row : es.toList = rowsN w L
  tab : TabOk t (hashesN w L)
  once : (L.map (·.2)).Nodup
  key : ∀ m ∈ L, KeyAt P w h m.2 m.1
  led : w.params.followText "set-order" = true ∨ t.led = true
  room : L.length * 5 < t.mask * 3
  few : L.length < 64
section
variable {P : Program} {w : PySem.World} {A : Around} {E : Value → Shared → Prop} {s : Shared} {a : Addr} {L : List (Addr × NestedKey)} {es : Array (Int × Value)} {ep : Nat} {t : SetTable}
theorem SN.stays (R : SN P w s.heap a L es ep t) : ¬ t.gaveWay = true := by
  unfold SetTable.gaveWay
  rw [mask_odd R.tab.mok]
  decide
end
section
variable {P : Program} {w : PySem.World} {A : Around} {E : Value → Shared → Prop} {s : Shared} {a : Addr} {L : List (Addr × NestedKey)} {es : Array (Int × Value)} {ep : Nat} {t : SetTable}
end
section
variable {P : Program} {w : PySem.World} {A : Around} {E : Value → Shared → Prop} {s : Shared} {a : Addr} {L : List (Addr × NestedKey)} {es : Array (Int × Value)} {ep : Nat} {t : SetTable}
end
theorem nkDs_cons {d : D} {r : List D} {ks : List NestedKey} (h : nkDs (d :: r) = some ks) : ∃ k ks', nkD d = some k ∧ nkDs r = some ks' ∧ ks = k :: ks' := by
  rw [nkDs] at h
  cases e : nkD d with
  | none => rw [e] at h; cases h
  | some k =>
    rw [e] at h
    obtain ⟨ks', h1, h2⟩ := Option.map_eq_some_iff.mp h
    exact ⟨k, ks', rfl, h1, h2.symm⟩
mutual
theorem nk_is {h : Heap} : ∀ (d : D) (k : NestedKey) (u : Value) (as : List Addr), nkD d = some k → Reads h u d.py as → NestedIs h k u ∧ as = []
  | .non, _, _, _, e, r => by cases e; rw [D.py] at r; cases r; exact ⟨.none, rfl⟩
  | .int i, _, _, _, e, r => by cases e; rw [D.py] at r; cases r; exact ⟨.int _ _, rfl⟩
  | .str x, _, _, _, e, r => by cases e; rw [D.py] at r; cases r; exact ⟨.text _ _, rfl⟩
  | .tup ds, _, _, _, e, r => by
    rw [nkD] at e
    obtain ⟨ks, e1, rfl⟩ := Option.map_eq_some_iff.mp e
    rw [D.py] at r
    cases r with
    | tuple ho hc hd ra =>
      obtain ⟨x, rfl⟩ := nks_is ds ks _ _ e1 ra
      exact ⟨.tup ho hc hd x, rfl⟩
  | .gone, _, _, _, e, _ => by simp [nkD] at e
  | .bl _, _, _, _, e, _ => by simp [nkD] at e
  | .lst _ _, _, _, _, e, _ => by simp [nkD] at e
  | .dct _ _ _, _, _, _, e, _ => by simp [nkD] at e
  | .ndc _ _ _ _, _, _, _, e, _ => by simp [nkD] at e
  | .ldc _ _ _, _, _, _, e, _ => by simp [nkD] at e
  | .opq _, _, _, _, e, _ => by simp [nkD] at e
theorem nks_is {h : Heap} : ∀ (ds : List D) (ks : List NestedKey) (us : List Value) (as : List Addr), nkDs ds = some ks → ReadsAll h us (pys ds) as → NestedAll h ks us ∧ as = []
  | [], _, _, _, e, r => by rw [nkDs] at e; cases e; rw [pys] at r; cases r; exact ⟨.nil, rfl⟩
  | d :: ds, _, _, _, e, r => by
    obtain ⟨k, ks', e1, e2, rfl⟩ := nkDs_cons e
    rw [pys] at r
    cases r with
    | cons a b =>
      obtain ⟨x, rfl⟩ := nk_is d k _ _ e1 a
      obtain ⟨y, rfl⟩ := nks_is ds ks' _ _ e2 b
      exact ⟨.cons x y, rfl⟩
end
/-! ### the calls -/
/-- the set itself, without its members -/
def SN0 (P : Program) (w : PySem.World) (h : Heap) (a : Addr) (L : List (Addr × NestedKey)) : Prop :=
  ∃ (es : Array (Int × Value)) (ep : Nat) (t : SetTable), (∃ o, h.get? a = some o ∧ o.ExactSet ∧ o.data = .set es ep t) ∧ es.toList = rowsN w L ∧ TabOk t (hashesN w L) ∧ (L.map (·.2)).Nodup ∧ (w.params.followText "set-order" = true ∨ t.led = true) ∧ L.length * 5 < t.mask * 3 ∧ L.length < 64
theorem SN0.at_ {P : Program} {w : PySem.World} {h h' : Heap} {a : Addr} {L : List (Addr × NestedKey)} (x : SN0 P w h a L) (k : ∀ o, h.get? a = some o → h'.get? a = some o) : SN0 P w h' a L :=
  let ⟨es, ep, t, ⟨o, ho, r⟩, q⟩ := x
  ⟨es, ep, t, ⟨o, k o ho, r⟩, q⟩
section
variable {P : Program} {w : PySem.World} {A : Around} {E : Value → Shared → Prop} {s : Shared}
end
/-- a value beside its datum, as a row -/
def rowV (p : V × D) : Addr × NestedKey := ((match p.1 with | .ref a => a | _ => 0), (nkD p.2).getD .none)
/-- it may be a member -/
def memberV (K : PySem.W.Frag) (H : Hp) (p : V × D) : Prop := (∃ a, p.1 = .ref a) ∧ (∃ k, nkD p.2 = some k ∧ k.depth ≤ 8) ∧ Dp K H p.1 p.2.py ∧ p.2.py.depth ≤ 60
theorem memberV.key {X : Cx} {pins : List (Addr × Obj)} {σ : L2.St} {H : Hp} {s : Shared} {p : V × D} (m : memberV X.K H p) (I : Inv X pins σ H s) : KeyAt X.prog X.w s.heap (rowV p).2 (rowV p).1 ∧ p.1 = .ref (rowV p).1 ∧ ∃ as, Reads s.heap (.ref (rowV p).1) p.2.py as ∧ as = [] := by
  obtain ⟨⟨a, ea⟩, ⟨k, ek, dk⟩, dp, _⟩ := m
  obtain ⟨v, d⟩ := p
  simp only at ea ek dp
  subst ea
  obtain ⟨as, r⟩ := Dp.reads I d.py (.ref a) (.ref a) dp rfl
  obtain ⟨x, e⟩ := nk_is d k _ _ ek r
  have er : (rowV (V.ref a, d)).2 = k := by show (nkD d).getD .none = k; rw [ek]; rfl
  refine ⟨⟨?_, ?_⟩, rfl, as, r, e⟩
  · rw [er]; exact x
  · rw [er]; exact dk
section
variable {X : Cx} {G : Gm} {kp : List Bool}
end
variable {X : Cx} {pins : List (Addr × Obj)} {σ : L2.St} {H : Hp} {s : Shared} {a : Addr} {xs : List NRow}
theorem NDict.at_ {h h' : Heap} (x : NDict a xs h) (k : ∀ o, h.get? a = some o → h'.get? a = some o) : NDict a xs h' :=
  let ⟨h1, h2, h3, us, o, es, ep, rv, ho, r⟩ := x
  ⟨h1, h2, h3, us, o, es, ep, rv, k o ho, r⟩
/-! ### keys by what stands for them -/
/-! ### the call -/
end Bd
namespace Bd
open PySem PySem.Spec PyProof.Rows L2
/-! ### the states -/
section
variable {K : PySem.W.Frag} {G : Gm} {kp : List Bool} {σ : Sl} {ρ : List D} {vs : List V} {ds : List D} {H : Hp} {v u w : V} {kd d w0 : D} {ks es : List D}
end
/-! ### the method of a dict, whatever its keys -/
section
variable {X : Cx} {G : Gm} {kp : List Bool} {o e : Expr} {es : List Expr} {to : TE} {t : TA} {name : Str} {apos cpos : Pos} {id : String} {r : V → List V → Hp → VK → Prop}
end
/-! ### the two statements -/
section
variable {X : Cx} {G : Gm} {kp : List Bool} {ke : Expr} {sts : List Stmt} {wk : WE} {wr : WS} {j s t : Nat} {jx sx tx : Str} {jp sp apos cpos dp pos1 q1 q2 q3 q4 pos2 : Pos} {jj}
end
section
variable {X : Cx} {G : Gm} {kp : List Bool}
/-! ### d[k] -/
/-! ### sorted(d) -/
/-! ### three -/
def c3 (f : D → D → D → (D → Prop) → Prop) : WK := fun es Q => match es with
  | [d, e, g] => f d e g fun z => Q z [d, e, g]
  | _ => False
def int3 (a b c : D) (Q : Int → Int → Int → Prop) : Prop := match a with
  | .int i => (match b with
    | .int j => (match c with
      | .int k => Q i j k
      | _ => False)
    | _ => False)
  | _ => False
def max3F (a b c : D) (Q : D → Prop) : Prop := int3 a b c fun i j k => Q (.int (max (max i j) k))
def min3F (a b c : D) (Q : D → Prop) : Prop := int3 a b c fun i j k => Q (.int (min (min i j) k))
theorem W3 {K : PySem.W.Frag} {σ : Sl} {ρ : List D} {vs : List V} {ds : List D} {H : Hp} {x y z : V} {i j k : Int} (W : World K G kp σ ρ (x :: y :: z :: vs) (.int i :: .int j :: .int k :: ds) H) : x = .int i ∧ y = .int j ∧ z = .int k := ⟨W.isInt, W.drop.isInt, W.drop.drop.isInt⟩
end
section
variable {P : Program} {w : PySem.World} {A : Around} {E : Value → Shared → Prop} {s : Shared} {a : Addr} {T : List Str}
end
section
variable {P : Program} {w : PySem.World} {A : Around} {E : Value → Shared → Prop} {s : Shared} {a : Addr}
end
section
variable {X : Cx} {G : Gm} {kp : List Bool}
end
section
variable {α : Type} [DecidableEq α]
omit [DecidableEq α] in
variable {e : α → D}
omit [DecidableEq α] in
omit [DecidableEq α] in
end
theorem itN {c : Prop} {inst : Decidable c} {A B : Prop} (h : ¬c) (b : B) : @ite Prop c inst A B := by rw [if_neg h]; exact b
theorem itY {c : Prop} {inst : Decidable c} {A B : Prop} (h : c) (a : A) : @ite Prop c inst A B := by rw [if_pos h]; exact a
/-- mapped, by what the items are made of -/
theorem lcL_mapL {α : Type} {g : WGs} {we : WE} {own : List Nat} {Q : List D → List D → Prop} {ρ : List D} (it : α → List D) (f : α → D) : ∀ {L : List α} {acc : List D},
    (∀ a ∈ L, ∀ (K : D → List D → Prop), K (f a) ρ → g (it a) ρ fun ρ1 => we ρ1 fun d ρ3 => K d (wipeD ρ3 own)) → Q (acc ++ L.map f) ρ → lcL g wYes we own Q (L.map it) acc ρ
  | [], acc, _, q => by simpa [lcL] using q
  | a :: r, acc, hs, q => by
    refine hs a List.mem_cons_self (fun d ρ' => lcL g wYes we own Q (r.map it) (acc ++ [d]) ρ') ?_
    refine lcL_mapL it f (fun a' hm => hs a' (List.mem_cons_of_mem _ hm)) ?_
    simpa using q
theorem lcL_fmL {α : Type} {g : WGs} {wt : WT} {we : WE} {own : List Nat} {Q : List D → List D → Prop} {ρ : List D} (it : α → List D) (p : α → Bool) (f : α → D) : ∀ {L : List α} {acc : List D},
    (∀ a ∈ L, ∀ (K : D → List D → Prop) (K2 : List D → Prop), (p a = true → K (f a) ρ) → (p a = false → K2 ρ) → g (it a) ρ fun ρ1 => wt ρ1 fun b ρ2 => if b = true then we ρ2 fun d ρ3 => K d (wipeD ρ3 own) else K2 (wipeD ρ2 own)) →
    Q (acc ++ (L.filter p).map f) ρ → lcL g wt we own Q (L.map it) acc ρ
  | [], acc, _, q => by simpa [lcL] using q
  | a :: r, acc, hs, q => by
    refine hs a List.mem_cons_self (fun d ρ' => lcL g wt we own Q (r.map it) (acc ++ [d]) ρ') (fun ρ' => lcL g wt we own Q (r.map it) acc ρ') (fun hp => ?_) fun hp => ?_
    · refine lcL_fmL it p f (fun a' hm => hs a' (List.mem_cons_of_mem _ hm)) ?_
      rw [List.filter_cons_of_pos hp, List.map_cons] at q
      simpa using q
    · refine lcL_fmL it p f (fun a' hm => hs a' (List.mem_cons_of_mem _ hm)) ?_
      rw [List.filter_cons_of_neg (by simp [hp])] at q
      exact q
/-! ### a def called while a refusal is in hand -/
theorem marked {A : Around} {a : Addr} (h : A.handled = some (.ref a)) : A.mark (some (.ref a)) = A := by
  obtain ⟨⟩ := A
  cases h
  rfl
theorem hot_suite {P : Program} {w : PySem.World} {K : PySem.W.Frag} {mg : Str → Option Value} {base : Heap} {N : List Str} {qual : Str} {scope : Scope} {f : Addr} {cdv : Value} {A : Around} {outer : List Env} {s : Shared} {H : Hp} {a : Addr} {oe : Obj} {b : List Stmt} {t : TS}
    (hA : A.handled = some (.ref a)) (h : PSs ((cxOf C8.CX0 P w K mg base N qual scope f cdv A outer s H C8.E0).nox.suite a [(a, oe)]) b t) : PSs (L2H.cxH C8.CX0 P w K mg base N qual scope f cdv A outer s H C8.E0 (a, oe)) b t := by
  have e : (L2H.cxH C8.CX0 P w K mg base N qual scope f cdv A outer s H C8.E0 (a, oe)).nox = (cxOf C8.CX0 P w K mg base N qual scope f cdv A outer s H C8.E0).nox.suite a [(a, oe)] := by
    have m : (A.deeper (envOfC qual scope s.heap.objs.size f cdv)).mark (some (.ref a)) = A.deeper (envOfC qual scope s.heap.objs.size f cdv) := marked hA
    show ({ (cxOf C8.CX0 P w K mg base N qual scope f cdv A outer s H C8.E0) with calm := false, pn := [(a, oe)], xe := fun _ _ => False } : Cx) = { (cxOf C8.CX0 P w K mg base N qual scope f cdv A outer s H C8.E0) with A := (A.deeper (envOfC qual scope s.heap.objs.size f cdv)).mark (some (.ref a)), calm := false, pn := [(a, oe)], xe := fun _ _ => False }
    rw [m]
    rfl
  exact PSs.nox (e ▸ h)
theorem hot_end {P : Program} {w : PySem.World} {K : PySem.W.Frag} {mg : Str → Option Value} {base : Heap} {f : Addr} {nm1 qual : Str} {ar : Arguments} {body : List Stmt} {scope : Scope} {x1 x2 x3 x4 cdv x5 x6 : Value} {x7 x8 : Option Addr} {sl : Array (Option Value)} {N ps : List Str}
    (lk : K.lookup f = some ⟨x6, x8, .func (PySem.W.fnOf nm1 qual ar body scope x1 x2 x3 x4 x7 cdv x5), sl⟩) (hcd : PySem.W.codeIn K cdv qual = true) (S : FnScope N ps scope) {A : Around} {outer : List Env} {s : Shared} {H : Hp} {p : Addr × Obj} {args : Args} {us : List Value} {vs : List V} {Q : VK} {t : TS}
    (hd : A.depth < recursionLimit) (pin : L2H.PinOk outer H s p) (e0 : Env0 P w K mg base A outer s H) (hb : BindsTo s (PySem.W.fnOf nm1 qual ar body scope x1 x2 x3 x4 x7 cdv x5) args (ps.zip us)) (r : Vals vs us) (hl : vs.length = ps.length)
    (ht : PSs (L2H.cxH C8.CX0 P w K mg base N qual scope f cdv A outer s H C8.E0 p) body t) (hq : t { nx := fun _ H' => Q .non H', rt := Q } (L2.start N vs) H) : codeAny (model P w) A (.call (.ref f) args) (CR C8.CX0 outer P w H s Q C8.E0) s := by
  have kx : K.In s.heap := e0.mod.kin.keeps fun b o e => (e0.bs b o e).1
  have kinds : ∀ y ∈ ps.zip us, scope.names.lookup y.1 = some .local ∨ (scope.names.lookup y.1 = some .cell ∧ ((cellsFrom (s.heap.objs.size + 1) scope.names []).lookup y.1).isSome = true) := by
    rintro ⟨n, v⟩ hy
    exact (S.par n (List.of_mem_zip hy).1).elim .inl fun q => .inr ⟨q, PySem.W.cellsFrom_some _ _ _ (.inl q)⟩
  refine codeAny_call_function hd (kx _ _ lk) rfl S.co S.gen rfl (PySem.W.codeRec_of kx hcd) (hb _ _ _ _ (wpAny_newFunctionEnv_cells S.kind kinds fun env he s1 x => ?_))
  subst he
  have I := L2H.inv_startH (CX := C8.CX0) (E := C8.E0) S pin e0 hl r x
  refine ⟨(e0.mod.nolimit.keeps fun b o e => (e0.bs b o e).1).keeps x.toInCall.keep, codeAny_func (wpAny_mono (ht.run [] s1 (L2.start N vs) H _ I hq) (fun fl s' hs => ?_) fun _ _ hs => hs)⟩
  match fl, hs with
  | .ret u, ⟨v, σ', H', J, rv, q⟩ => exact ⟨v, H', J.os, J.bare, J.base, J.hok, rv, q⟩
  | .next, ⟨σ', H', J, q⟩ => exact ⟨V.non, H', J.os, J.bare, J.base, J.hok, rfl, q⟩
  | .brk, ⟨_, _, _, q⟩ => exact q.elim
  | .cont, ⟨_, _, _, q⟩ => exact q.elim
section
variable {X : Cx} {T : List (Addr × Str)} {ok : Str → Option Str} {a' : Addr} {oe : Obj} {pn : List (Addr × Obj)}
end
section
variable {X : Cx} {G : Gm} {kp kp1 : List Bool}
variable {T : List (Addr × Str)} {ok : Str → Option Str} {x y : Str} {params : Arguments} {e : Expr} {es : List Expr} {scope : Scope} {S : SD} {wr : WBs} {ps : List Str} {j k : Nat} {p p1 p2 lpos pos : Pos}
end
section
variable {X : Cx} {pins : List (Addr × Obj)} {σ : Sl} {H : Hp} {s : Shared}
end
section
variable {X : Cx} {G : Gm} {kp : List Bool} {e body : Expr} {scope : Scope} {par y : Str} {wk : WKy} {wr : WBs} {k : Nat} {p lpos kpos pos : Pos}
end
section
variable {X : Cx} {G : Gm} {kp : List Bool} {e : Expr} {x : Str} {j : Nat} {apos cpos p : Pos} {wa : WA}
end
/-- such keys, texts -/
inductive PKs : List (Option Expr) → List Expr → List ((Bool × Bool) × Str) → Prop
  | nil : PKs [] [] []
  | cons {ks vs l a b x k1 k2 k3 p1 p2 p3 pos cx} : PKs ks vs l → PKs (some (.Tuple [.Constant (.bool a) k1 p1, .Constant (.bool b) k2 p2] cx pos) :: ks) (.Constant (.str x) k3 p3 :: vs) (((a, b), x) :: l)
theorem PKs.all {ks vs l} (h : PKs ks vs l) : ks.all (·.isSome) = true ∧ ks.length = vs.length ∧ ks.length = l.length := by
  induction h with
  | nil => exact ⟨rfl, rfl, rfl⟩
  | cons _ ih => exact ⟨by rw [List.all_cons, ih.1]; rfl, by rw [List.length_cons, List.length_cons, ih.2.1], by rw [List.length_cons, List.length_cons, ih.2.2]⟩
section
variable {P : Program} {w : PySem.World} {A : Around} {E : Value → Shared → Prop} {s : Shared} {env : Env}
end
section
variable {X : Cx} {G : Gm} {kp : List Bool} {ks : List (Option Expr)} {vs : List Expr} {l : List ((Bool × Bool) × Str)} {sl : Expr} {wb : WE} {dpos pos : Pos}
def wPick (l : List ((Bool × Bool) × Str)) (wb : WE) : WE := fun ρ Q => wb ρ fun d r => ∃ a b x, d = .tup [.bl a, .bl b] ∧ l.lookup (a, b) = some x ∧ Q (.str x) r
end
/-! ### what a def of one row gives back -/
section
variable {X : Cx} {G : Gm} {kp : List Bool} {e tg : Expr} {wb : WB}
def wiSN (w : WB) : WIL := fun ρ Q => w ρ fun d o r => seqQ d fun xs x' => Q (ones xs) [x'] [o] r
end
section
variable {K : PySem.W.Frag} {F : AS} {H : Hp}
end
section
variable {X : Cx} {G : Gm} {kp : List Bool} {e : Expr} {wr : WBs} {p1 pos : Pos}
end
/-! ### walked -/
section
variable {X : Cx} {G : Gm} {kp : List Bool} {x : Str} {tg : Expr} {pos : Pos}
end
/-! ### read -/
section
variable {X : Cx} {G : Gm} {kp : List Bool}
end
/-! ### a list within, grown -/
section
variable {X : Cx} {G : Gm} {kp : List Bool} {x : Str} {ke e : Expr} {wk we : WE} {p pos apos cpos : Pos} {i : Nat}
end
/-- the ints a, a + c, .. -/
def rgS (a c : Int) (n : Nat) : List Int := (List.range n).map fun i => a + ((i : Nat) : Int) * c
def rgI (a b : Int) : List Int := rgS a 1 (b - a).toNat
section
variable {X : Cx} {G : Gm} {kp : List Bool} {e a b c : Expr} {we wa wb : WE} {p p2 p3 pos : Pos}
def wLrg1 (wa : WE) : WE := fun ρ Q => wa ρ fun x r => ∃ n, x = .int n ∧ RgOk 0 n ∧ Q (.lst .own ((rgI 0 n).map D.int)) r
def wLrg2 (wa wb : WE) : WE := fun ρ Q => wa ρ fun x r => wb r fun y r2 => ∃ i j, x = .int i ∧ y = .int j ∧ RgOk i j ∧ Q (.lst .own ((rgI i j).map D.int)) r2
def wTrg2 (wa wb : WE) : WE := fun ρ Q => wa ρ fun x r => wb r fun y r2 => ∃ i j, x = .int i ∧ y = .int j ∧ RgOk i j ∧ Q (.tup ((rgI i j).map D.int)) r2
theorem World.ints {G : Gm} {kp : List Bool} {K : PySem.W.Frag} {σ : Sl} {ρ : List D} {vs : List V} {ds : List D} {H : Hp} (W : World K G kp σ ρ vs ds H) (ns : List Int) : World K G kp σ ρ (ns.map V.int ++ vs) (ns.map D.int ++ ds) H := by
  obtain ⟨A, F, f⟩ := W
  refine ⟨fun x => M0 x ∨ A x, F, f.rep _ ?_ (by have := f.lv; simp at this ⊢; exact this) fun x h => h.elim (fun z => z.elim) fun z => z⟩
  rw [List.append_assoc, List.append_assoc]
  exact (reps_ints _).join f.reps fun _ h => h.elim
/-! ### by steps, of written numbers -/
def wTrg3 (i c : Int) (n : Nat) : WE := fun ρ Q => Q (.tup ((rgS i c n).map D.int)) ρ
end
/-- tuples laid one behind the other -/
inductive Grow : Hp → List (V × V) → List Addr → Hp → Prop
  | nil {H : Hp} : Grow H [] [] H
  | cons {H H2 : Hp} {p : V × V} {ps : List (V × V)} {T : Addr} {Ts : List Addr} {o : Obj} : H T = none → o.dict = none → Grow (upd H T (.frz o (.tup [p.1, p.2]))) ps Ts H2 → Grow H (p :: ps) (T :: Ts) H2
theorem Grow.stays {H H2 : Hp} {ps : List (V × V)} {Ts : List Addr} {a : Addr} {u : HO} (h : Grow H ps Ts H2) (e : H a = some u) : H2 a = some u := by
  induction h with
  | nil => exact e
  | cons hn _ _ ih => exact ih (by rw [upd_ne (fun z => by rw [z, hn] at e; cases e)]; exact e)
theorem World.grown {K : PySem.W.Frag} {G : Gm} {kp : List Bool} {σ : Sl} {ρ : List D} {vs : List V} {ds : List D} {H H2 : Hp} {ps : List (V × V)} {Ts : List Addr} (g : Grow H ps Ts H2) (W : World K G kp σ ρ vs ds H) : World K G kp σ ρ vs ds H2 := by
  induction g with
  | nil => exact W
  | cons hn _ _ ih => exact ih (W.laid hn)
theorem Grow.reps {K : PySem.W.Frag} {F : AS} {H H2 : Hp} {ps : List (V × V)} {Ts : List Addr} (g : Grow H ps Ts H2) : ∀ prs : List (Int × Int), ps = prs.map (fun p => (V.int p.1, V.int p.2)) → Reps K H2 F (Ts.map V.ref) (prs.map enc2) M0 := by
  induction g with
  | nil =>
    intro prs e
    cases prs with
    | nil => exact .nil
    | cons _ _ => cases e
  | cons hn ho g ih =>
    intro prs e
    cases prs with
    | nil => cases e
    | cons q prs =>
      obtain ⟨rfl, rfl⟩ := List.cons.inj e
      exact .cons (B := M0) (C := M0) (.tup (.inl ⟨_, g.stays upd_same, ho⟩) (reps_ints [q.1, q.2])) (ih prs rfl) (fun _ h => h) (fun _ h => h) fun _ h => h.elim
theorem SqL.grown {K : PySem.W.Frag} {H : Hp} {a T : Addr} {xs : List V} {o : HO} (h : SqL K H a xs) (hn : H T = none) : SqL K (upd H T o) a xs := by
  rcases h with h | h
  · refine .inl ?_
    rcases h with h | ⟨o', h⟩
    · exact .inl (by rw [upd_ne (fun e => by rw [e, hn] at h; cases h)]; exact h)
    · exact .inr ⟨o', by rw [upd_ne (fun e => by rw [e, hn] at h; cases h)]; exact h⟩
  · exact .inr h
def ZpI (h : Heap) (z TI TO i1 i2 a b S : Addr) (i : Nat) : Prop :=
  IsPair h TI (.ref i1) (.ref i2) ∧ h.IsListIter i1 a i ∧ h.IsListIter i2 b i ∧ (∃ o, h.get? TO = some o) ∧ ((IsZip h z TI TO .none ∧ ∃ x y, IsPair h TO x y) ∨ ∃ T f oT, IsZipHeld h z TI TO T f ∧ h.get? T = some oT ∧ T ≠ z ∧ T ≠ i1 ∧ T ≠ i2 ∧ T ≠ S)
section
variable {X : Cx} {pins : List (Addr × Obj)} {σ : Sl} {H0 : Hp} {A : Around} {S z TI TO i1 i2 a b : Addr} {xs ys : List V} {R : Result → Shared → Prop} {res : Value}
theorem ZpI.keep {h h' : Heap} {i : Nat} (D : ZipApart z TI TO i1 i2 a b) (sT : S ≠ TI) (sz : S ≠ z) (sO : S ≠ TO) (s1 : S ≠ i1) (s2 : S ≠ i2) (p : ZpI h z TI TO i1 i2 a b S i) (k : ∀ c o, c ≠ S → h.get? c = some o → h'.get? c = some o) : ZpI h' z TI TO i1 i2 a b S i := by
  obtain ⟨h1, h2, h3, ⟨oO, hO⟩, h4⟩ := p
  refine ⟨k _ _ sT.symm h1, h2.at fun o e => k _ o s1.symm e, h3.at fun o e => k _ o s2.symm e, ⟨oO, k _ _ sO.symm hO⟩, ?_⟩
  rcases h4 with ⟨hz, x, y, ht⟩ | ⟨T, f, oT, hz, hT, r1, r2, r3, r4⟩
  · exact .inl ⟨k _ _ sz.symm hz, x, y, k _ _ sO.symm ht⟩
  · exact .inr ⟨T, f, oT, k _ _ sz.symm hz, k _ _ r4 hT, r1, r2, r3, r4⟩
theorem ZpI.next {s : Shared} {i : Nat} {vs ws : Array Value} {x y : Value} {Q : Option Value → Shared → Prop} {E : Value → Shared → Prop} (D : ZipApart z TI TO i1 i2 a b) (hS : S < s.heap.objs.size) (p : ZpI s.heap z TI TO i1 i2 a b S i) (hl1 : s.heap.IsList a vs) (hl2 : s.heap.IsList b ws) (hx : vs[i]? = some x) (hy : ws[i]? = some y)
    (hQ : ∀ h', ZpI h' z TI TO i1 i2 a b S (i + 1) → IsPair h' s.heap.objs.size x y → h'.objs.size = s.heap.objs.size + 1 → (∀ c o, c ∉ [z, TI, TO, i1, i2] → s.heap.get? c = some o → h'.get? c = some o) → Q (some (.ref s.heap.objs.size)) { s with heap := h' }) :
    wpAny (model X.prog X.w) A (pyNext (.ref z)) Q E s := by
  obtain ⟨hTI, h1, h2, ⟨oO, hO⟩, hz⟩ := p
  have lt : ∀ {c o}, s.heap.get? c = some o → s.heap.objs.size ≠ c := fun e => Nat.ne_of_gt (Heap.lt_size e)
  have n1 : s.heap.objs.size ≠ i1 := let ⟨_, e, _⟩ := h1; lt e
  have n2 : s.heap.objs.size ≠ i2 := let ⟨_, e, _⟩ := h2; lt e
  rcases hz with ⟨hz, u, v, hTO⟩ | ⟨T, f, oT, hz, hT, r1, r2, r3, r4⟩
  · refine wpAny_pyNext_zip_item D hz hTI hTO h1 h2 hl1 hl2 hx hy fun h' a1 a2 a3 a4 a5 a6 hk => ?_
    exact hQ h' ⟨hk _ _ D.TIz D.TITO D.TIi1 D.TIi2 hTI, a3, a4, ⟨_, a2⟩, .inr ⟨s.heap.objs.size, false, _, a1, a5, lt hz, n1, n2, Nat.ne_of_gt hS⟩⟩ a5 a6 fun c o hc e => hk c o (fun x => hc (by simp [x])) (fun x => hc (by simp [x])) (fun x => hc (by simp [x])) (fun x => hc (by simp [x])) e
  · refine wpAny_pyNext_zip_item_held D hz hT hTI h1 h2 hl1 hl2 hx hy fun h' a1 a3 a4 a5 a6 hk => ?_
    exact hQ h' ⟨hk _ _ D.TIz D.TIi1 D.TIi2 hTI, a3, a4, ⟨_, hk _ _ D.TOz D.TOi1 D.TOi2 hO⟩, .inr ⟨T, true, oT, a1, hk _ _ r1 r2 r3 hT, r1, r2, r3, r4⟩⟩ a5 a6 fun c o hc e => hk c o (fun x => hc (by simp [x])) (fun x => hc (by simp [x])) (fun x => hc (by simp [x])) e
theorem ZpI.end_ {s : Shared} {i : Nat} {vs ws : Array Value} {Q : Option Value → Shared → Prop} {E : Value → Shared → Prop} (hh : A.handled = none) (D : ZipApart z TI TO i1 i2 a b) (p : ZpI s.heap z TI TO i1 i2 a b S i) (hl1 : s.heap.IsList a vs) (hl2 : s.heap.IsList b ws) (he : vs[i]? = none ∨ ws[i]? = none)
    (hQ : ∀ h', (∀ c o, c ∉ [z, TI, TO, i1, i2] → s.heap.get? c = some o → h'.get? c = some o) → Q none { s with heap := h' }) :
    wpAny (model X.prog X.w) A (pyNext (.ref z)) Q E s := by
  obtain ⟨hTI, h1, h2, ⟨oO, hO⟩, hz⟩ := p
  rcases hz with ⟨hz, u, v, hTO⟩ | ⟨T, f, oT, hz, hT, r1, r2, r3, r4⟩
  · exact wpAny_pyNext_zip_end hh D hz hTI hTO h1 h2 hl1 hl2 he fun h' hk => hQ h' fun c o hc e => hk c o (fun x => hc (by simp [x])) (fun x => hc (by simp [x])) (fun x => hc (by simp [x])) (fun x => hc (by simp [x])) e
  · exact wpAny_pyNext_zip_end_held hh D hz hT hTI h1 h2 hl1 hl2 he fun h' hk => hQ h' fun c o hc e => hk c o (fun x => hc (by simp [x])) (fun x => hc (by simp [x])) (fun x => hc (by simp [x])) e
end
theorem Grow.len {H H2 : Hp} {ps : List (V × V)} {Ts : List Addr} (h : Grow H ps Ts H2) : Ts.length = ps.length := by
  induction h with
  | nil => rfl
  | cons _ _ _ ih => simp [ih]
/-- list(zip(xs, ys)) -/
def zipLF : WK := fun es Q => match es with
  | [.lst m xs, .lst m2 ys] => ∃ ns ms : List Int, xs = ns.map D.int ∧ ys = ms.map D.int ∧ ns.length ≤ 100000 ∧ Q (.lst .own ((ns.zip ms).map enc2)) [.lst m (ns.map D.int), .lst m2 (ms.map D.int)]
  | _ => False
/-! ### repr of data with dicts -/
mutual
/-- data that is shown, dicts with numbers and texts as keys too -/
inductive Dq (K : PySem.W.Frag) (H : Hp) : V → PyData → Prop
  | non : Dq K H .non .none
  | bl (b : Bool) : Dq K H (.bl b) (.bool b)
  | int (i : Int) : Dq K H (.int i) (.int i)
  | str (x : Str) : Dq K H (.str x) (.str x)
  | lst {a : Addr} {vs : List V} {ds : List PyData} : SqL K H a vs → DqA K H vs ds → Dq K H (.ref a) (.list ds)
  | tup {a : Addr} {vs : List V} {ds : List PyData} : SqT K H a vs → DqA K H vs ds → Dq K H (.ref a) (.tuple ds)
  | dct {a : Addr} {kvs : List (Key × V)} {ds : List PyData} : Rd H a (.dK kvs) → DqA K H (kvs.map (·.2)) ds → Dq K H (.ref a) (.dict ((kvs.map fun p => DK.py (.k p.1)).zip ds))
inductive DqA (K : PySem.W.Frag) (H : Hp) : List V → List PyData → Prop
  | nil : DqA K H [] []
  | cons {v : V} {d : PyData} {vs : List V} {ds : List PyData} : Dq K H v d → DqA K H vs ds → DqA K H (v :: vs) (d :: ds)
end
theorem DqA.length {K : PySem.W.Frag} {H : Hp} : ∀ {vs : List V} {ds : List PyData}, DqA K H vs ds → vs.length = ds.length
  | _, _, .nil => rfl
  | _, _, .cons _ h => by rw [List.length_cons, List.length_cons, DqA.length h]
theorem key_read {h : Heap} {k : Key} {u : Value} (h1 : keyIs k u = true) : Reads h u (DK.py (.k k)) [] := by
  rcases keyIs_shape h1 with ⟨i, t, rfl, rfl⟩ | ⟨x, t, rfl, rfl⟩
  · exact .int i t
  · exact .str x t
theorem pairs_read {P : Program} {w : PySem.World} {h : Heap} : ∀ {kvs : List (Key × V)} {vs : List (Key × Value)} {es : List DictEntry}, KV kvs vs → Pairs (mixKind P w) es vs → ReadsAll h (es.map (·.key)) (kvs.map fun p => DK.py (.k p.1)) [] ∧ Vals (kvs.map (·.2)) (es.map (·.val))
  | _, _, _, .nil, .nil => ⟨.nil, .nil⟩
  | _, _, _, .cons ⟨e, r⟩ t, .cons hk hv hp => by
    obtain ⟨h1, h2⟩ := pairs_read (h := h) t hp
    refine ⟨?_, .cons (by have r2 := r; rw [← hv] at r2; exact r2) h2⟩
    have a := ReadsAll.cons (key_read (h := h) hk) h1
    rw [← e] at a
    exact a
section
variable {X : Cx} {pins : List (Addr × Obj)} {σ : Sl} {H : Hp} {s : Shared}
theorem sm_ne (I : Inv X pins σ H s) (sm : ∃ m, X.base.Ns sysModules m) {a : Addr} {o : Obj} (ho : s.heap.get? a = some o) (hd : ∀ es n, o.data ≠ .dict es n) : sysModules ≠ a := fun e => by
  obtain ⟨m, o2, es, ep, h1, h2, _⟩ := sm
  have h3 := I.bk _ _ h1
  rw [e, ho] at h3
  cases h3
  exact hd _ _ h2
mutual
theorem Dq.reads (I : Inv X pins σ H s) (sm : ∃ m, X.base.Ns sysModules m) : ∀ {v : V} {d : PyData}, Dq X.K H v d → ∀ u : Value, RelV v u → ∃ as, Reads s.heap u d as ∧ sysModules ∉ as
  | _, _, .non, _, r => by
    cases r
    exact ⟨_, Reads.none, by simp⟩
  | _, _, .bl b, _, r => by
    cases r
    exact ⟨_, Reads.bool b, by simp⟩
  | _, _, .int i, _, r => by
    obtain ⟨t, rfl⟩ := r
    exact ⟨_, Reads.int i t, by simp⟩
  | _, _, .str x, _, r => by
    obtain ⟨t, rfl⟩ := r
    exact ⟨_, Reads.str x t, by simp⟩
  | _, _, .lst hs ha, _, r => by
    cases r
    obtain ⟨its, rv, ⟨o, n, ho, hc, _, hd⟩, _⟩ := I.list hs
    obtain ⟨as, hr, hn⟩ := Dq.readsAll I sm ha its rv
    refine ⟨_, Reads.list ho hc hd hr, fun hm => ?_⟩
    rcases List.mem_cons.mp hm with e | e
    · exact sm_ne I sm ho (fun es n z => by rw [hd] at z; cases z) e
    · exact hn e
  | _, _, .tup hs ha, _, r => by
    cases r
    obtain ⟨its, rv, ⟨o, ho, hc, n, hd⟩, _⟩ := I.tuple hs
    obtain ⟨as, hr, hn⟩ := Dq.readsAll I sm ha its rv
    exact ⟨_, Reads.tuple ho hc hd hr, hn⟩
  | _, _, .dct (kvs := kvs) (ds := ds) hs ha, _, r => by
    cases r
    obtain ⟨z, lo, vs, rel, o, es, ep, ho, hx, hd, hk, hp, nd⟩ := dk_rd I.hok hs
    obtain ⟨k1, k2⟩ := pairs_read (h := s.heap) rel hp
    obtain ⟨as, hr, hn⟩ := Dq.readsAll I sm ha _ k2
    have l := ha.length
    rw [List.length_map] at l
    refine ⟨_, Reads.dict ho hx.1 hd (by rw [List.map_fst_zip (by rw [List.length_map]; omega)]; exact k1) (by rw [List.map_snd_zip (by rw [List.length_map]; omega)]; exact hr), fun hm => ?_⟩
    rcases List.mem_append.mp hm with e | e
    · rcases List.mem_cons.mp e with e | e
      · rw [e] at lo
        simp at lo
      · cases e
    · exact hn e
theorem Dq.readsAll (I : Inv X pins σ H s) (sm : ∃ m, X.base.Ns sysModules m) : ∀ {vs : List V} {ds : List PyData}, DqA X.K H vs ds → ∀ us : List Value, Vals vs us → ∃ as, ReadsAll s.heap us ds as ∧ sysModules ∉ as
  | _, _, .nil, _, r => by
    cases r
    exact ⟨_, ReadsAll.nil, by simp⟩
  | _, _, .cons h1 h2, _, r => by
    cases r with
    | cons r1 r2 =>
      obtain ⟨as, q1, n1⟩ := Dq.reads I sm h1 _ r1
      obtain ⟨bs, q2, n2⟩ := Dq.readsAll I sm h2 _ r2
      exact ⟨_, ReadsAll.cons q1 q2, fun hm => (List.mem_append.mp hm).elim n1 n2⟩
end
end
mutual
/-- what repr shows, dicts too -/
def canR : D → Bool
  | .non => true
  | .bl _ => true
  | .int _ => true
  | .str _ => true
  | .tup ds => canRs ds
  | .lst _ ds => canRs ds
  | .dct _ ks ds => ks.all DK.isK && canRs ds
  | _ => false
def canRs : List D → Bool
  | [] => true
  | d :: r => canR d && canRs r
end
section
variable {K : PySem.W.Frag} {H : Hp} {F : AS}
end
def reprOF (d : D) (Q : D → D → Prop) : Prop := canR d = true ∧ d.py.depth ≤ 64 ∧ rOk d sizeLine ∧ Q (.str (reprD d)) d
section
variable {X : Cx} {G : Gm} {kp : List Bool} {e : Expr} {es : List Expr} {pos p1 : Pos} {wr : WBs} {k : Nat}
end
/-- how many -/
def stpN (f c n : Nat) : Nat := if f < n then (n - f - 1) / c + 1 else 0
def stpL {α : Type} (f c : Nat) (xs : List α) : List α := (List.range (stpN f c xs.length)).filterMap fun m => xs[f + m * c]?
section
variable {prog : Program} {w : PySem.World} {A : Around} {E : Value → Shared → Prop} {s : Shared}
end
section
variable {X : Cx} {G : Gm} {kp : List Bool} {e a : Expr} {lo : Option Expr} {pos p1 p2 p3 p4 : Pos} {wa : WB} {k : Nat}
/-- t[a::c] -/
def stepD (f c : Nat) (x : D) (Q : D → D → Prop) : Prop := match x with
  | .tup xs => Q (.tup (stpL f c (frzs xs))) (.tup (frzs xs))
  | _ => False
def wStep (f c : Nat) (wa : WB) : WE := fun ρ Q => wa ρ fun x o r => stepD f c x fun z x' => Q z (gb o x' r)
end
section
variable {X : Cx} {G : Gm} {kp : List Bool}
def ssGF (d : D) (Q : D → D → Prop) : Prop := match d with
  | .lst m xs => ∃ ns : List Int, xs = ns.map D.int ∧ ns.length < 4000 ∧ (∀ ms : List Int, ms.Nodup → (∀ k, k ∈ ms ↔ k ∈ ns) → ms.length < 64) ∧ ∀ ms : List Int, ms.Pairwise (· < ·) → (∀ k, k ∈ ms ↔ k ∈ ns) → Q (.lst .own (ms.map D.int)) d
  | _ => False
variable {e : Expr} {wr : WBs} {p1 p2 q1 q2 : Pos}
end
/-! ### texts of signs -/
theorem solids_all : ∀ {ds : List D}, (∀ d ∈ ds, d.solid = true) → solids ds = true
  | [], _ => rfl
  | d :: r, h => by rw [solids, h d List.mem_cons_self, solids_all fun x hx => h x (List.mem_cons_of_mem _ hx)]; rfl
/-- a thing that is whole in itself, of a kind -/
def bad (d : D) : Prop := d.solid = true ∧ (tyD d).isSome = true
theorem nB_bad {d : D} (h : bad d) {i : Nat} {ρ : List D} {Q : D → Option Nat → List D → Prop} : nB d i ρ Q = Q d none ρ := by
  obtain ⟨h1, h2⟩ := h
  cases d
  case gone => cases h2
  case opq => cases h2
  case ndc => cases h2
  case ldc => cases h2
  case ext => cases h2
  case ins => cases h2
  case lst m es => cases m <;> first | rfl | (cases h1; done)
  case dct m ks es => cases m <;> first | rfl | (cases h1; done)
  case tup es =>
    rw [D.solid] at h1
    simp only [nB, h1, if_true]
  all_goals rfl
/-! ### small things -/
/-- one without parts -/
def atm (B : Int) : D → Bool
  | .non => true
  | .bl _ => true
  | .int i => decide (-B < i) && decide (i < B)
  | .str s => (D.str s).py.showable && decide ((D.str s).py.shown.length ≤ 81) && PyData.strOk s && PyData.strOk (reprD (.str s))
  | .dct .shr [] [] => true
  | .dct .shr [.k (.inr s)] [.int 1] => (s == ("a" : Str))
  | _ => false
def fin (B : Int) : Nat → D → Bool
  | n + 1, .tup ds => ds.all (fin B n)
  | n + 1, .lst .shr ds => ds.all (fin B n)
  | _, d => atm B d
def wt : Nat → D → Nat
  | n + 1, .tup ds => 3 + (ds.map fun d => wt n d + 2).sum
  | n + 1, .lst _ ds => 3 + (ds.map fun d => wt n d + 2).sum
  | _, _ => 81
section
variable {X : Cx}
variable {G : Gm} {kp : List Bool} {e : Expr} {es : List Expr} {pos p1 : Pos} {wr : WBs}
end
section
variable {X : Cx}
variable {G : Gm} {kp : List Bool}
variable {a b : Expr} {pos : Pos} {wa wb : WB}
end
section
variable {P : Program} {w : PySem.World} {A : Around} {E : Value → Shared → Prop} {s : Shared}
end
section
variable {X : Cx} {G : Gm} {kp : List Bool}
variable {e : Expr} {p1 p2 q1 q2 : Pos} {wr : WBs}
end
/-- a function object at f, as it was made -/
def CloO (f : Addr) (o : Obj) : HO := .ext fun h => h.get? f = some o
theorem cloO_ne {f : Addr} {o : Obj} (ps : Array Value) : CloO f o ≠ .tbl ps := fun z => by
  unfold CloO at z; cases z
section
variable {X : Cx} {pins : List (Addr × Obj)} {σ : L2.St} {H : Hp} {s : Shared}
/-- the function object of a lambda, made in the frame of X -/
abbrev cloObj (X : Cx) (params : Arguments) (body : Expr) (scope : Scope) (pm : Value) (c' : Addr) (ctv : Value) : Obj :=
  PySem.W.kla_obj "<lambda>" (X.env.qual ++ "<lambda>") params body scope (cloFrom X.env.cells scope.names []) pm c' ctv
end
section
variable {X : Cx} {pins : List (Addr × Obj)} {σ : L2.St} {H HZ : Hp} {s s1 : Shared}
/-- the lambda as a value -/
def tLamK (X : Cx) (T : List (Addr × Str)) (params : Arguments) (body : Expr) (scope : Scope) : TE := fun _ H Q => LamX.Tabs T H ∧ ∀ (f c' : Addr) (pm ctv : Value) (H1 : Hp), LamX.ExtN H H1 → LamX.Tabs T H1 → H f = none →
  H1 f = some (CloO f (cloObj X params body scope pm c' ctv)) → f ∉ frs X.stack → H1 c' = some (LamX.CodeO c' (X.env.qual ++ "<lambda>")) → Q (.ref f) H1
end
section
variable {K : PySem.W.Frag} {G : Gm} {kp kp1 : List Bool} {σ : Sl} {ρ ρ' : List D} {vs us ws : List V} {ds es fs : List D} {H H' : Hp} {v : V} {d : D} {i : Nat}
/-- from here on anew: what stands here stays, and the old state comes back -/
theorem Fits.restart {A F : AS} (f : Fits K G kp σ ρ vs ds H A F) : ∃ C : AS, World K ⟨H, C, F, G.T, σ, G.n⟩ kp σ ρ [] [] H ∧ (∀ a, C a → A a) ∧
    ∀ σ' ρ' ws fs H', ws.length = fs.length → World K ⟨H, C, F, G.T, σ, G.n⟩ kp σ' ρ' ws fs H' → World K G kp σ' ρ' (ws ++ vs) (fs ++ ds) H' := by
  have lv := f.lv
  obtain ⟨B, C, r1, r2, h1, h2, h3⟩ := f.reps.split lv
  refine ⟨C, ⟨C, F, r2, rfl, f.ls, f.sn, f.non, fun a h => f.sep a (h2 a h), fun a h => f.own a (h2 a h), f.trk, fun a h => .inl h, fun a h => .inr (.inl h), fun a o e _ _ => e, fun a e => e, f.tab, fun _ _ => rfl⟩, h2, fun σ' ρ' ws fs H' lw W' => ?_⟩
  obtain ⟨A', F', g⟩ := W'
  have noF : ∀ a, Nw H a → ¬ F a := fun a e z => by
    obtain ⟨o, q, w⟩ := f.trk a z
    exact e.not q (not_tbl w)
  have noB : ∀ a, Nw H a → ¬ B a := fun a e z => by
    obtain ⟨o, q, w⟩ := f.own a (h1 a z)
    exact e.not q (not_tbl w)
  have stB : ∀ a o, H a = some o → B a → H' a = some o := fun a o e c => by
    obtain ⟨o', e', q⟩ := f.own a (h1 a c)
    rw [e] at e'; cases e'
    exact g.fr a o e (fun z => h3 a c z) (not_tbl q)
  have stF : ∀ a o, H a = some o → F a → H' a = some o := fun a o e c => by
    obtain ⟨o', e', q⟩ := f.trk a c
    rw [e] at e'; cases e'
    exact g.fr a o e (fun z => f.sep a (h2 a z) c) (not_tbl q)
  have agr : Agr B F H H' := fun a o e q => by
    rcases q with q | q | q
    · exact stB a o e q
    · exact stF a o e q
    · refine g.fr a o e (fun z => ?_) fun ps z => by rw [z] at q; exact q
      obtain ⟨o', e', q'⟩ := f.own a (h2 a z)
      rw [e] at e'; cases e'
      cases o <;> first | exact q.elim | exact q'.elim
  obtain ⟨A1, A2, s1, s2, k1, k2, k3⟩ := g.reps.split lw
  have farB : ∀ x, A' x → ¬ B x := fun x h q => (g.src x h).elim (fun z => h3 x q z) fun z => noB x z q
  refine ⟨fun x => A' x ∨ B x, fun x => F x ∨ F' x, ?_, by simp [lv, lw], g.ls, g.sn, g.non, fun a h q => ?_, fun a h => ?_, fun a h => ?_, fun a h => ?_, fun a h => ?_, fun a o e n nt => ?_, fun a e => f.al a (g.al a e), g.tab, fun j hj => (g.kps j hj).trans (f.kps j hj)⟩
  · rw [List.append_assoc, List.append_assoc]
    have m := (r1.agr agr fun x h => .inl h).join (s2.agr (fun _ _ e _ => e) fun x h => (.inr h : F x ∨ F' x)) fun x h q => farB x (k2 x q) h
    refine ((s1.agr (fun _ _ e _ => e) fun x h => .inr h).join m fun x h q => ?_).mono fun x h => ?_
    · exact q.elim (farB x (k1 x h)) (k3 x h)
    · exact h.elim (fun z => .inl (k1 x z)) fun z => z.elim .inr fun z => .inl (k2 x z)
  · rcases h with h | h
    · rcases q with q | q
      · exact (g.src a h).elim (fun z => f.sep a (h2 a z) q) fun z => noF a z q
      · exact g.sep a h q
    · rcases q with q | q
      · exact f.sep a (h1 a h) q
      · rcases g.srf a q with z | z | z
        · exact h3 a h z
        · exact f.sep a (h1 a h) z
        · exact noB a z h
  · rcases h with h | h
    · exact g.own a h
    · obtain ⟨o, e, q⟩ := f.own a (h1 a h)
      exact ⟨o, stB a o e h, q⟩
  · rcases h with h | h
    · obtain ⟨o, e, q⟩ := f.trk a h
      exact ⟨o, stF a o e h, q⟩
    · exact g.trk a h
  · rcases h with h | h
    · exact (g.src a h).elim (fun z => f.src a (h2 a z)) fun z => .inr (f.al a z)
    · exact f.src a (h1 a h)
  · rcases h with h | h
    · exact f.srf a h
    · rcases g.srf a h with z | z | z
      · exact (f.src a (h2 a z)).elim .inl fun z => .inr (.inr z)
      · exact f.srf a z
      · exact .inr (.inr (f.al a z))
  · refine g.fr a o (f.fr a o e n nt) (fun z => ?_) nt
    exact (f.src a (h2 a z)).elim n fun q => (q.not e nt).elim
theorem Fits.onto {A F : AS} (f : Fits K G kp σ ρ vs ds H A F) (e : LamX.ExtN H H') (t : LamX.Tabs G.T H') : Fits K G kp σ ρ vs ds H' A F := by
  have keepA : ∀ a o, H a = some o → isOwn o → H' a = some o := fun a o h w => e a o h (not_tbl w)
  refine ⟨f.reps.agr (fun a o h q => ?_) (fun _ h => h), f.lv, f.ls, f.sn, f.non, f.sep, fun a h => ?_, fun a h => ?_, f.src, f.srf, fun a o h n nt => e a o (f.fr a o h n nt) nt, fun a h => f.al a fun o z => ?_, t, f.kps⟩
  · rcases q with q | q | q
    · obtain ⟨o', z, w⟩ := f.own a q
      rw [h] at z; cases z
      exact keepA a o h w
    · obtain ⟨o', z, w⟩ := f.trk a q
      rw [h] at z; cases z
      exact keepA a o h w
    · exact e a o h fun ps z => by rw [z] at q; exact q
  · obtain ⟨o, z, w⟩ := f.own a h
    exact ⟨o, keepA a o z w, w⟩
  · obtain ⟨o, z, w⟩ := f.trk a h
    exact ⟨o, keepA a o z w, w⟩
  · by_cases q : ∃ ps, o = .tbl ps
    · exact q
    · exact (h.not (e a o z fun ps w => q ⟨ps, w⟩) fun ps w => q ⟨ps, w⟩).elim
end
/-- a lambda made here stands at f -/
def Clo (X : Cx) (G : Gm) (f : Addr) (params : Arguments) (body : Expr) (scope : Scope) : Prop := ∃ (c' : Addr) (pm ctv : Value), G.H0 f = some (CloO f (cloObj X params body scope pm c' ctv)) ∧ ¬ G.A0 f ∧ G.H0 c' = some (LamX.CodeO c' (X.env.qual ++ "<lambda>")) ∧ ¬ G.A0 c'
theorem code_own {c : Addr} {q : Str} : ¬ isOwn (LamX.CodeO c q) := fun h => by
  have h : ∀ c' q', LamX.CodeO c q ≠ LamX.CodeO c' q' := h
  exact h c q rfl
section
variable {X : Cx} {G : Gm} {kp : List Bool} {T : List (Addr × Str)}
/-- what follows a lambda's making, told for every state from then on -/
theorem World.lam {σ : Sl} {ρ : List D} {vs : List V} {ds : List D} {H : Hp} {params : Arguments} {body : Expr} {scope : Scope} {Q : VK} (W : World X.K G kp σ ρ vs ds H)
    (q : ∀ (f : Addr) (H1 : Hp) (G1 : Gm), G1.T = G.T → G1.n = G.n → Clo X G1 f params body scope → (∀ f' p' b' s', Clo X G f' p' b' s' → Clo X G1 f' p' b' s' ∧ f' ≠ f) → World X.K G1 kp σ ρ [.ref f] [.opq (.ref f)] H1 →
      (∀ σ' ρ' ws fs H', ws.length = fs.length → World X.K G1 kp σ' ρ' ws fs H' → World X.K G kp σ' ρ' (ws ++ vs) (fs ++ ds) H') → Q (.ref f) H1) : tLamK X G.T params body scope σ H Q := by
  refine ⟨?_, fun f c' pm ctv H1 g t h0 hf nf hc => ?_⟩
  · obtain ⟨A, F, z⟩ := W
    exact z.tab
  obtain ⟨A, F, w⟩ := W
  obtain ⟨C, W1, sub, back⟩ := (w.onto g t).restart
  have fresh : ¬ C f := fun z => by
    obtain ⟨o, e, _⟩ := w.own f (sub f z)
    rw [h0] at e; cases e
  have notC : ¬ C c' := fun z => by
    obtain ⟨o, e, w2⟩ := (w.onto g t).own c' (sub c' z)
    rw [hc] at e; cases e
    exact code_own w2
  refine q f H1 ⟨H1, C, F, G.T, σ, G.n⟩ rfl rfl ⟨c', pm, ctv, hf, fresh, hc, notC⟩ (fun f' p' b' s' ⟨c2, pm2, ct2, k1, k2, k3, k4⟩ => ?_) W1.opq back
  have n1 : ∀ x o, G.H0 x = some o → (∀ ps, o ≠ .tbl ps) → ¬ G.A0 x → ¬ C x := fun x o e nt na z => by
    rcases w.src x (sub x z) with y | y
    · exact na y
    · exact y.not e nt
  refine ⟨⟨c2, pm2, ct2, g _ _ (w.fr _ _ k1 k2 cloO_ne) cloO_ne, n1 _ _ k1 cloO_ne k2, g _ _ (w.fr _ _ k3 k4 LamX.codeO_ne) LamX.codeO_ne, n1 _ _ k3 LamX.codeO_ne k4⟩, fun z => ?_⟩
  subst z
  have := w.fr _ _ k1 k2 cloO_ne
  rw [h0] at this; cases this
end
structure CL where
  f : Addr
  params : Arguments
  body : Expr
  scope : Scope
section
variable {X : Cx} {G G1 : Gm} {kp : List Bool} {T : List (Addr × Str)} {L : List CL} {params : Arguments} {body : Expr} {scope : Scope} {sts : List Stmt} {wr : Addr → WS} {i : Nat} {x : Str} {pos' lpos pos p apos cpos : Pos}
end
section
variable {X : Cx} {G : Gm} {kp kp1 : List Bool}
variable {T : List (Addr × Str)} {ok : Str → Option Str} {x y v : Str} {params : Arguments} {e : Expr} {es : List Expr} {scope : Scope} {S : SD} {wr : WBs} {ps : List Str} {i j k : Nat} {f : Addr} {p p1 p2 p3 pos : Pos}
/-- one of two readings -/
def wEither (w1 w2 : WE) : WE := fun ρ Q => w1 ρ Q ∨ w2 ρ Q
end
section
variable {X : Cx}
/-- the block's iterator is no thing of the frame around -/
def Outside (X : Cx) (pins : List (Addr × Obj)) (fp : List Addr) : Prop := ∀ b ∈ fp, (b ∈ X.ex ∨ X.s_0.heap.objs.size ≤ b) ∧ b ≠ X.env.locals ∧ (∀ x c, X.env.cells.lookup x = some c → c ≠ b) ∧ ∀ p ∈ X.pn ++ pins, p.1 ≠ b
end
section
variable {X : Cx}
end
section
variable {X : Cx} {G : Gm} {kp : List Bool}
end
/-- an element that may lean on the frame around -/
structure ElI (X : Cx) (G : Gm) (kp' : List Bool) (cs : Scope) (own : List Nat) (elt : Expr) (we : WE) : Prop where
  mono : ∀ ρ P P', (∀ d r, P d r → P' d r) → we ρ P → we ρ P'
  run : ∀ (pins : List (Addr × Obj)) (σ : L2.St) (s : Shared) (H : Hp) (C : Addr) (cl : List (Str × Addr)) (fp : List Addr), Inv X pins σ H s → Outside X pins fp → PE (X.blk s H cs (compEnvC cs cl C X.env) fp) elt (tDE X.K (G.at_ (wipe σ own)) kp' we)
section
variable {X : Cx} {G : Gm} {kp kp' : List Bool} {cs : Scope} {own : List Nat} {elt : Expr} {w1 w2 : WE}
theorem ElI.or (a : ElI X G kp' cs own elt w1) (b : ElI X G kp' cs own elt w2) : ElI X G kp' cs own elt (wEither w1 w2) :=
  ⟨fun ρ P P' hp q => q.imp (a.mono _ _ _ hp) (b.mono _ _ _ hp), fun pins σ s H C cl fp I o => ⟨fun pins' s' σ' H' Q I' ⟨ρ, vs, ds, W, q⟩ => q.elim (fun z => (a.run pins σ s H C cl fp I o).run pins' s' σ' H' Q I' ⟨ρ, vs, ds, W, z⟩) fun z => (b.run pins σ s H C cl fp I o).run pins' s' σ' H' Q I' ⟨ρ, vs, ds, W, z⟩⟩⟩
variable {T : List (Addr × Str)} {ok : Str → Option Str} {x y v : Str} {params : Arguments} {e : Expr} {es : List Expr} {scope : Scope} {S : SD} {wr : WBs} {ps : List Str} {i j k : Nat} {f : Addr} {p p1 p2 p3 pos : Pos}
end
section
variable {X : Cx} {G : Gm} {kp : List Bool} {k : Nat} {C f : Addr} {fd : FuncData} {ps : List Str} {S : SD} {Ex : XD} {x : Str} {p pos : Pos} {e : Expr} {es : List Expr} {wr : WBs}
theorem run_makeG {sp : Sp} {E : XK} {pins : List (Addr × Obj)} {σ : Sl} {H : Hp} {s : Shared} {Q : VK} {us : List Value} {vs : List V} (M : Mk X.K C f) (F : FnG X.prog X.w X.K X.mg X.base k f fd ps sp) (hr : Room (k + 1) X.A) (hgd : X.A.guards = some []) (hb : Binds X.K fd ps [])
    (hx : PassesAt (L2.CX X.prog X.w) X σ E) (I : Inv X pins σ H s) (r : Vals vs us)
    (h : ∀ x dx, H x = none → H dx = none → dx ≠ x → sp (.ref x :: vs) (upd (upd H dx (.own x)) x (.ins C dx [])) (fun v H2 => v = .non ∧ Q (.ref x) H2) E) :
    wpAny (model X.prog X.w) X.A (call (.ref C) us) (EP X pins σ Q) X.xe s := by
  have hq := h (s.heap.objs.size + 1) s.heap.objs.size (I.hok.fresh (Nat.le_succ _)) (I.hok.fresh (Nat.le_refl _)) (Nat.ne_of_lt (Nat.lt_succ_self _))
  have I2 := Inv.made (C := C) I
  have r2 : Vals (V.ref (s.heap.objs.size + 1) :: vs) (Value.ref (s.heap.objs.size + 1) :: us) := .cons rfl r
  have hl : (Value.ref (s.heap.objs.size + 1) :: us ++ []).length = ps.length := by
    have e := r2.length
    rw [F.len _ _ _ _ hq] at e
    rw [List.append_nil]
    exact e.symm
  have b := hb _ (Value.ref (s.heap.objs.size + 1) :: us) I2.kIn hl
  rw [List.append_nil] at b
  refine wpAny_call (make_map (f := f) I.kIn M.makes M.init (beq_iff_eq.mp M.fn) (codeAny_mono (F.run _ X.stack _ _ ⟨Value.ref (s.heap.objs.size + 1) :: us, []⟩ (Value.ref (s.heap.objs.size + 1) :: us) _ _ E (hr.make C us []) hgd
    (I2.env0.make C us []) b r2 hq) fun r s' hq' => ?_))
  match r, hq' with
  | .error e, hq' => exact hx pins _ _ e s' I2 hq'
  | .ok (.ret u), hq' =>
    obtain ⟨v, H', I3, rv, ev, q3⟩ := I2.after hq'
    subst ev
    exact ⟨rv, ⟨V.ref (s.heap.objs.size + 1), H', I3, rfl, q3⟩⟩
end
section
variable {X : Cx} {G : Gm} {kp kp' : List Bool} {cs : Scope} {own : List Nat} {elt : Expr} {w1 w2 : WE}
variable {T : List (Addr × Str)} {ok : Str → Option Str} {x y v : Str} {params : Arguments} {e : Expr} {es : List Expr} {scope : Scope} {S : SD} {wr : WBs} {ps : List Str} {i j k : Nat} {f : Addr} {p p1 p2 p3 pos : Pos}
end
section
variable {X : Cx} {pins : List (Addr × Obj)} {σ : L2.St} {H : Hp} {s : Shared} {a : Addr} {xs : List NRow} {w : PySem.World}
theorem NDictW.at_ {h h' : Heap} (x : NDictW w a xs h) (k : ∀ o, h.get? a = some o → h'.get? a = some o) : NDictW w a xs h' :=
  let ⟨h1, h2, h3, us, o, es, ep, rv, ho, r⟩ := x
  ⟨h1, h2, h3, us, o, es, ep, rv, k o ho, r⟩
end
section
variable {X : Cx} {pins : List (Addr × Obj)} {σ : L2.St} {H : Hp} {s : Shared}
end
/-! ### d[k] = v, a new key -/
/-- a dict of such keys, or an empty one -/
inductive IsNw (w : PySem.World) : D → List D → List D → Prop
  | nil : IsNw w (.dct .own [] []) [] []
  | nd {ks es : List D} : IsNw w (.ndc .own ks es (some (.of w))) ks es
section
variable {K : PySem.W.Frag} {G : Gm} {kp : List Bool} {σ : Sl} {ρ : List D} {vs : List V} {ds : List D} {H : Hp} {v u : V} {w : PySem.World} {kd x d : D} {ks es : List D}
end
section
variable {X : Cx} {G : Gm} {kp : List Bool} {x : Str} {i : Expr} {j : Nat} {pos : Pos}
theorem IsNw.there {w : PySem.World} {d : D} {ks es : List D} (h : IsNw w d ks es) : there d := by cases h <;> trivial
end
/-! ### d[k] -/
section
variable {X : Cx} {G : Gm} {kp : List Bool}
end
/-! ### what stands in the entries -/
section
variable {X : Cx} {pins : List (Addr × Obj)} {σ : L2.St} {H : Hp} {s : Shared} {d : Addr} {o : Obj} {xs : List NRow} {w : PySem.World}
end
section
variable {P : Program} {w w0 : PySem.World} {K : PySem.W.Frag} {tg : Expr} {d : Addr} {o : Obj} {es : Array DictEntry} {ep : Nat}
end
/-! ### over data -/
section
variable {K : PySem.W.Frag} {G : Gm} {kp : List Bool} {σ : Sl} {ρ : List D} {vs us : List V} {ds es : List D} {H : Hp} {v : V} {w : PySem.World} {ks : List D} {A F : AS}
theorem Fits.locked {a : Addr} {o : HO} {fs : List D} (f : Fits K G kp σ ρ vs ds H A F) (ha : A a) (ho : ∀ ps, o ≠ .tbl ps) (A' : AS) (r : Reps K (upd H a o) F (us ++ sv σ) (fs ++ ρ) A') (l : us.length = fs.length) (s : ∀ x, A' x → A x ∧ x ≠ a) : Fits K G kp σ ρ us fs (upd H a o) A' F where
  reps := r
  lv := l
  ls := f.ls
  sn := f.sn
  non := f.non
  sep := fun x h => f.sep x (s x h).1
  own := fun x h => by
    rw [upd_ne (s x h).2]; exact f.own x (s x h).1
  trk := fun x h => by
    have e : x ≠ a := fun z => f.sep a ha (z ▸ h)
    rw [upd_ne e]; exact f.trk x h
  src := fun x h => f.src x (s x h).1
  srf := f.srf
  fr := fun x u e n nt => by
    have ne : x ≠ a := by
      rintro rfl
      rcases f.src _ ha with q | q
      · exact n q
      · exact (q.not e nt).elim
    rw [upd_ne ne]
    exact f.fr x u e n nt
  al := fun x e => by
    by_cases h : x = a
    · subst h; exact (e.not upd_same ho).elim
    · exact f.al x fun u z => e u (by rw [upd_ne h]; exact z)
  tab := tabs_upd f.tab (f.own a ha)
  kps := f.kps
end
section
variable {X : Cx} {G : Gm} {kp : List Bool} {x : Str} {tg e : Expr} {pos p1 : Pos} {j : Nat} {sts : List Stmt} {ws : WS} {wr : WBs} {we : WE}
/-! ### list(d) -/
end
section
variable {X : Cx} {o : Expr} {p pos apos cpos : Pos} {td : TE}
variable {G : Gm} {kp : List Bool} {we : WE}
end
section
variable {X : Cx} {G : Gm} {kp : List Bool} {pos : Pos}
end
section
variable {ρ : List D} {w wa wb : WB} {we : WE} {wr : WA} {d x y : D} {ds xs ys : List D} {i : Nat} {k : Int}
end
section
variable {K : PySem.W.Frag} {G : Gm} {kp : List Bool} {σ : Sl} {ρ : List D} {vs : List V} {ds es : List D} {H : Hp} {a : Addr} {ks : List DK}
end
section
variable {X : Cx} {G : Gm} {kp : List Bool} {dx tx : Str} {ke : Expr} {wk : WE} {p p2 pl apos cpos apos2 cpos2 : Pos} {j t : Nat}
end
section
variable {X : Cx} {G : Gm} {kp : List Bool} {e a lo : Expr} {pos p1 p2 p3 p4 : Pos} {wa : WB} {wl : WE} {k : Nat}
end
section
variable {X : Cx} {G : Gm} {kp : List Bool} {a b : Expr} {wa wb : WB} {pos : Pos} {k : Nat}
end
/-! ### len(d.get(k, [])) -/
section
variable {X : Cx} {G : Gm} {kp : List Bool} {dx : Str} {ke : Expr} {wk : WE} {p pl apos cpos p1 cpos2 : Pos} {j k : Nat}
end
section
variable {K : PySem.W.Frag} {G : Gm} {kp : List Bool} {σ : Sl} {ρ : List D} {vs : List V} {ds es : List D} {H : Hp} {v : V} {is : List Int}
end
section
variable {X : Cx} {G : Gm} {kp : List Bool} {sts : List Stmt} {ws : WS}
end
/-- what __init__ does: the two are kept -/
def spTwo (C : Addr) : Sp := fun vs H Q _ => ∃ (a : Addr) (x y : V), vs = [.ref a, x, y] ∧ H a = some (exo a C none) ∧ ∀ dx, H dx = none → dx ≠ a → Q .non (upd (upd (upd H dx (exd dx [("many", x)])) a (exo a C (some dx))) dx (exd dx [("most", y), ("many", x)]))
/-- what the written part says of such a class -/
def oexB (K : PySem.W.Frag) (x : Str) : Bool :=
  (match K.lookup (He.ga K x) with
  | some ⟨.type "type", _, .cls cd, sl⟩ => (match cd.mro, sl.toList with
    | .ref C' :: bm, [_, _, _, _, some (.builtin n), _] => C' == He.ga K x && n == "ValueError.__new__" && !cd.hasDel && cd.hasDict && PySem.HandSPX.refsVE bm
    | _, _ => false)
  | _ => false) &&
  (decide (PySem.W.findIn K (.ref (He.ga K x)) "__setattr__" = some (some (.builtin "object.__setattr__"))) &&
  (decide (PySem.W.subIn K (.ref (He.ga K x)) (.type "BaseException") = some true) &&
  (decide (PySem.W.typeIn K (.ref (He.ga K x)) = some (.type "type")) &&
  (PySem.W.keepIn K (.ref (He.ga K x)) &&
  (decide (PySem.W.findIn K (.ref (He.ga K x)) "__init__" = some (some (.ref (He.ma K (He.ga K x) "__init__")))) &&
  (decide (PySem.W.typeIn K (.ref (He.ma K (He.ga K x) "__init__")) = some (.type "function")) &&
  (decide (PySem.W.findIn K (.ref (He.ga K x)) "many" = some none) &&
  decide (PySem.W.findIn K (.ref (He.ga K x)) "most" = some none))))))))
structure OexF (K : PySem.W.Frag) (x : Str) : Prop where
  T : OexC K (He.ga K x)
  ini : PySem.W.findIn K (.ref (He.ga K x)) "__init__" = some (some (.ref (He.ma K (He.ga K x) "__init__")))
  ty : PySem.W.typeIn K (.ref (He.ma K (He.ga K x) "__init__")) = some (.type "function")
  f1 : PySem.W.findIn K (.ref (He.ga K x)) "many" = some none
  f2 : PySem.W.findIn K (.ref (He.ga K x)) "most" = some none
theorem oex_of {K : PySem.W.Frag} {x : Str} (h : oexB K x = true) : OexF K x := by
  unfold oexB at h
  simp only [Bool.and_eq_true, decide_eq_true_eq] at h
  obtain ⟨h0, h1, h2, h3, h4, h5, h6, h7, h8⟩ := h
  refine ⟨⟨?_, h1, h2, h3, h4⟩, h5, h6, h7, h8⟩
  split at h0
  · rename_i dd cd sl ho
    split at h0
    · rename_i C' bm k0 k1 k2 k3 n k5 hm hs
      simp only [Bool.and_eq_true, beq_iff_eq, Bool.not_eq_true'] at h0
      obtain ⟨⟨⟨⟨rfl, rfl⟩, hdel⟩, hdict⟩, ht⟩ := h0
      obtain ⟨nm, bs, mro, ns, qn, hd, sn, sub, ab, col, del⟩ := cd
      dsimp only at hm hdel hdict
      subst hm hdel hdict
      have hsl : sl = #[k0, k1, k2, k3, some (.builtin "ValueError.__new__"), k5] := by
        obtain ⟨l⟩ := sl
        simp only at hs
        rw [hs]
      subst hsl
      exact ⟨nm, qn, ns, bs, bm, sn, sub, ab, col, dd, k0, k1, k2, k3, k5, ho, ht⟩
    · cases h0
  · cases h0
/-- such a class, with its __init__ -/
structure RTwo (P : Program) (w : PySem.World) (K : PySem.W.Frag) (mg : Str → Option Value) (base : Heap) (k : Nat) (x : Str) : Prop where
  g : mg x = some (.ref (He.ga K x))
  f : OexF K x
  F : ∃ fd, FnOk P w K mg base (L2.CX P w) k (He.ma K (He.ga K x) "__init__") fd ["self", "many", "most"] (spTwo (He.ga K x)) ∧ Binds K fd ["self", "many", "most"] []
section
variable {X : Cx} {G : Gm} {kp : List Bool} {Ex : XD} {x : Str} {j k : Nat} {p p3 pos : Pos} {e1 e2 : Expr} {wa : WA}
theorem heap_two {H : Hp} {a d : Addr} {o1 o2 o3 o4 o5 : HO} (ha : H a = none) (hda : d ≠ a) : upd (del (upd (upd (upd (upd H a o1) d o2) a o3) d o4) a) d o5 = upd H d o5 := by
  funext b
  by_cases hb : b = d
  · subst hb
    rw [upd_same, upd_same]
  · rw [upd_ne hb, upd_ne hb]
    by_cases hc : b = a
    · subst hc
      rw [del_same, ha]
    · rw [del_ne hc, upd_ne hb, upd_ne hc, upd_ne hb, upd_ne hc]
theorem ds_raise2 (hc : X.calm = true) (C : RTwo X.prog X.w X.K X.mg X.base j x) (hx : TakesD X G kp Ex) (hr : Room k X.A) (hj : j + 1 ≤ k) (hg : Gl X x) (ha : DA X G kp [e1, e2] wa) (hdb : (x == ("__debug__" : Str)) = false := by decide)
    (he : starEach [e1, e2] X.env = (false, eval e1 X.env) :: starEach [e2] X.env := by rfl) (hpl : (backTo p3 (starEach [e2] X.env)).any (·.1) = false := by rfl) :
    DS X G kp (.Raise (some (.Call (.Name x p) [e1, e2] [] p3)) none pos) (fun _ ρ => wa ρ fun es r => ∃ i i2 : Int, es = [.int i, .int i2] ∧ Ex x [i, i2] r) := by
  obtain ⟨fd, F, hb⟩ := C.F
  have mk := pmk_oex (X := X) (p := p) (pos := p3) C.f.T C.f.ini C.f.ty F (hr.mono hj) hb (dvs := []) .nil passL hg C.g ha.run hdb he hpl
  refine ⟨fun A B ρ _ q => q, ps_imp (ps_raise (pos := pos) hc hx mk) fun E σ H ⟨ρ, vs, ds, W, q⟩ => ?_⟩
  refine ⟨ρ, vs, ds, W, ha.mono _ _ _ (fun es r z us H1 l W1 => ?_) q⟩
  obtain ⟨i, i2, rfl, q⟩ := z
  match us, l, W1 with
  | [u, v], _, W1 =>
    have eu : u = .int i := W1.isInt
    have ev : v = .int i2 := (World.drop W1).isInt
    subst eu ev
    refine ⟨by simp, fun a hn => ⟨a, _, _, rfl, upd_same, fun dx h1 h2 => ?_⟩⟩
    have hd : H1 dx = none := by rw [upd_ne h2] at h1; exact h1
    refine ⟨rfl, dx, _, by rw [upd_ne (Ne.symm h2), upd_same], upd_same, hd, ?_⟩
    rw [heap_two hn h2]
    exact ⟨r, _, _, x, [i, i2], W1.laid hd, ⟨rfl, (fun z => nomatch z), .inr ⟨dx, rfl, upd_same⟩⟩, q⟩
end
section
variable {P : Program} {w : PySem.World} {K : PySem.W.Frag} {mg : Str → Option Value} {base : Heap}
/-- the two stored, one behind the other -/
theorem two_fn {x qual : Str} {params : Arguments} {scope : Scope} {kws : List (Str × V)} {f : Addr} {fd : FuncData} {p1 p2 p3 p4 p5 p6 p7 p8 : Pos}
    (F : FunD K "__init__" qual params [.Assign [.Attribute (.Name "self" p1) "many" p2] (.Name "many" p3) p4, .Assign [.Attribute (.Name "self" p5) "most" p6] (.Name "most" p7) p8] scope [] kws f fd)
    (S : FnScope ["self", "many", "most"] ["self", "many", "most"] scope) (O : OexF K x) (l0 : scope.names.lookup ("self" : Str) = some NameKind.local) (l1 : scope.names.lookup ("many" : Str) = some NameKind.local) (l2 : scope.names.lookup ("most" : Str) = some NameKind.local) :
    FnOk P w K mg base (L2.CX P w) 1 f fd ["self", "many", "most"] (spTwo (He.ga K x)) := by
  refine F.ok (k := 0) S (fun vs H Q E ⟨a, y, z, e, _⟩ => by rw [e]; rfl) fun cdv A outer s H vs Q E hr ⟨a, y, z, e, ea, q⟩ => ?_
  subst e
  refine ⟨_, pss_cons (ps_ost (pe_var (i := 0) rfl (.inl l0)) (pe_var (i := 1) rfl (.inl l1))) (pss_one (ps_ost (pe_var (i := 0) rfl (.inl l0)) (pe_var (i := 2) rfl (.inl l2)))), ?_⟩
  refine ⟨_, rfl, _, rfl, a, _, rfl, O.T, O.f1, .inl ⟨ea, fun dx h1 h2 => ⟨_, rfl, _, rfl, a, _, rfl, O.T, O.f2, .inr ⟨dx, _, upd_same, by rw [upd_ne h2, upd_same], (by show 1 ≤ 900; decide), q dx h1 h2⟩⟩⟩⟩
end
/-- what stood there at the entry, and is nobody's own, stands there still -/
theorem World.still {K : PySem.W.Frag} {G : Gm} {kp : List Bool} {σ : Sl} {ρ : List D} {vs : List V} {ds : List D} {H : Hp} {a : Addr} {fs : List (Str × V)} (W : World K G kp σ ρ vs ds H) (h : G.H0 a = some (.xd fs)) (n : ¬ G.A0 a) : H a = some (.xd fs) := by
  obtain ⟨A, F, f⟩ := W
  exact f.fr a _ h n fun ps z => by cases z
/-- e.n -/
def wXf (j : Nat) (a : Addr) (i : Int) : WE := fun ρ Q => ρ[j]? = some (.opq (.ref a)) ∧ Q (.int i) ρ
theorem de_xf {X : Cx} {G : Gm} {kp : List Bool} {a C dx : Addr} {oe : Obj} {pn : List (Addr × Obj)} {n x : Str} {j : Nat} {i : Int} {fs : List (Str × V)} {p pos : Pos} (T : XfC X.K C) (hno : PySem.W.findIn X.K (.ref C) n = some none) (hz : Zc (.ref C) (some dx) oe) (hf : ∃ vs, oe.data = .fields vs)
    (h0 : G.H0 dx = some (.xd fs)) (h1 : ¬ G.A0 dx) (hl : fs.lookup n = some (.int i)) (hj : X.N[j]? = some x) (hv : Vis (X.suite a ((a, oe) :: pn)).env.scope x) (h : nm x = true)
    (hb : attributeBase (.Name x p) n X.env (eval (.Name x p) X.env) = eval (.Name x p) X.env := by rfl) :
    DE (X.suite a ((a, oe) :: pn)) G kp (.Attribute (.Name x p) n pos) (wXf j a i) := by
  refine ⟨fun ρ P P' hp q => ⟨q.1, hp _ _ q.2⟩, pe_imp (pe_xf T hno hz hf (pe_var (i := j) hj hv (nm1 h) (nm2 h)) hb) fun σ H Q ⟨ρ, vs, ds, W, hρ, q⟩ => ?_⟩
  obtain ⟨v, e1, W1⟩ := W.take hρ (by intro z; cases z)
  have ev := W1.isOpq
  subst ev
  exact ⟨_, e1, rfl, rfl, dx, fs, .int i, rfl, W.still h0 h1, hl, q _ _ (W.push fun _ => .int)⟩
/-- the refusal's dict, when the def that names it was entered -/
def XG (ns : List Int) (d : Option Addr) (G : Gm) : Prop := (ns = [] ∧ d = none) ∨ ∃ dx, d = some dx ∧ G.H0 dx = some (.xd (fldsX ns)) ∧ ¬ G.A0 dx
/-- what the def that names a refusal promises: the words of ok -/
structure WhichM (P : Program) (w : PySem.World) (K : PySem.W.Frag) (mg : Str → Option Value) (base : Heap) (T : List (Addr × Str)) (x : Str) (ok : Str → List Int → Option D) : Prop where
  ex : ∃ (g : Addr) (fd : FuncData) (p : Str), mg x = some (.ref g) ∧ PySem.W.keepIn K (.ref g) = true ∧ Binds K fd [p] [] ∧
    ∀ (A : Around) (outer : List Env) (s : Shared) (H : Hp) (args : Args) (us : List Value) (a : Addr) (oe : Obj) (c : Str) (ns : List Int) (d : Option Addr) (t : D) (Q : VK), A.handled = some (.ref a) → A.depth < recursionLimit → A.units + 203 < cLine → L2H.PinOk outer H s (a, oe) → Env0 P w K mg base A outer s H → BindsTo s fd args ([p].zip us) → Vals [.ref a] us → Zc (.ref (He.ga K c)) d oe → (∃ vs, oe.data = .fields vs) → (ns = [] → d = none) → XF ns d H → ok c ns = some t →
      (∃ A1 F, Enter K T [] [] H A1 F ∧ ∀ v H', World K ⟨H, A1, F, T, [], 0⟩ [] [] [] [v] [t] H' → Q v H') → codeAny (model P w) A (.call (.ref g) args) (CR C8.CX0 outer P w H s Q C8.E0) s
theorem which_okM {P : Program} {w : PySem.World} {K : PySem.W.Frag} {mg : Str → Option Value} {base : Heap} {T : List (Addr × Str)} {x p : Str} {params : Arguments} {body : List Stmt} {scope : Scope} {kws : List (Str × V)} {g : Addr} {fd : FuncData} {N : List Str} {ok : Str → List Int → Option D} {ws : Str → List Int → Addr → WS}
    (F : FunD K x x params body scope [] kws g fd) (hm : mg x = some (.ref g)) (hb : Binds K fd [p] []) (S : FnScope N [p] scope)
    (hs : ∀ (cdv : Value) (A : Around) (outer : List Env) (s : Shared) (H : Hp) (a : Addr) (oe : Obj) (c : Str) (ns : List Int) (d : Option Addr) (t : D) (G : Gm), A.units + 200 < cLine → ok c ns = some t → Zc (.ref (He.ga K c)) d oe → (∃ vs, oe.data = .fields vs) → XG ns d G → DSs ((cxOf C8.CX0 P w K mg base N x scope g cdv A outer s H C8.E0).nox.suite a [(a, oe)]) G [] body (ws c ns a))
    (tells : ∀ c ns t, ok c ns = some t → ∀ (a : Addr) (R : D → List D → Prop), (∀ r, R (t) r) → ws c ns a { nx := fun _ => False, rt := R } ((List.replicate N.length .gone).set 0 (.opq (.ref a)))) : WhichM P w K mg base T x ok := by
  obtain ⟨oc, od, dV, kV, doc, pm, an, cdv, ct, osl, rfl, lk, hcd, _, _⟩ := F.ex
  refine ⟨g, _, p, hm, F.kp, hb, fun A outer s H args us a oe c ns d t Q hA hdp hun pin e0 hbt r hz hf hdn hxf hc ⟨A1, F1, en, hq⟩ => ?_⟩
  have hg : XG ns d ⟨H, A1, F1, T, ([] : List V).map some, N.length⟩ := by
    rcases hxf with h | ⟨dx, h1, h2⟩
    · exact .inl ⟨h, hdn h⟩
    · refine .inr ⟨dx, h1, h2, fun ha => ?_⟩
      obtain ⟨o, e1, e2⟩ := en.2.2.1 _ ha
      rw [h2] at e1
      cases e1
      exact e2
  have D := hs cdv A outer s H a oe c ns d t ⟨H, A1, F1, T, ([] : List V).map some, N.length⟩ (by omega) hc hz hf hg
  have lN : 1 ≤ N.length := by
    have := congrArg List.length S.pre
    rw [List.length_take] at this
    simp at this
    omega
  have ls : (L2.start N [V.ref a]).length = N.length := by
    unfold L2.start
    rw [List.length_append, List.length_map, List.length_replicate]
    simp
    omega
  refine hot_end (t := tDS K ⟨H, A1, F1, T, ([] : List V).map some, N.length⟩ [] (ws c ns a)) lk hcd S hdp pin e0 hbt r rfl (hot_suite hA D.run) ⟨(List.replicate N.length .gone).set 0 (.opq (.ref a)), [], [], ?_, D.mono _ _ _ ?_ (tells c ns t hc a (fun d _ => d = t) fun _ => rfl)⟩
  · have W0 : World K ⟨H, A1, F1, T, ([] : List V).map some, (L2.start N [V.ref a]).length⟩ [] (L2.start N [V.ref a]) (List.replicate (L2.start N [V.ref a]).length .gone) [] [] H := World.blank _ en
    have W1 : World K ⟨H, A1, F1, T, ([] : List V).map some, (L2.start N [V.ref a]).length⟩ [] ((L2.start N [V.ref a]).set 0 (some (.ref a))) ((List.replicate (L2.start N [V.ref a]).length .gone).set 0 (.opq (.ref a))) [] [] H := (W0.push fun _ => .opq).store rfl
    rw [ls] at W1
    exact W1
  · refine ⟨fun _ z => z.elim, fun d ρ' z v σ' H'' W' => ?_, fun _ z => z.elim, fun _ z => z.elim⟩
    subst z
    exact hq v H'' (World.end_ W' rfl (Nat.zero_le _))
section
variable {X : Cx} {T : List (Addr × Str)} {ok : Str → List Int → Option D} {a' : Addr} {oe : Obj} {pn : List (Addr × Obj)}
/-- which(e) within the suite -/
theorem pe_whichM {x e p : Str} {i : Nat} {p1 p2 pos : Pos} {g : Addr} {fd : FuncData} (hg : Gl (X.suite a' ((a', oe) :: pn)) x) (hdb : (x == ("__debug__" : Str)) = false) (hm : X.mg x = some (.ref g)) (hk : PySem.W.keepIn X.K (.ref g) = true) (hb : Binds X.K fd [p] [])
    (hr : X.A.depth < recursionLimit) (hu : X.A.units + 203 < cLine) (hi : X.N[i]? = some e) (hv : Vis X.env.scope e) (he : nm e = true)
    (run : ∀ (A : Around) (outer : List Env) (s : Shared) (H : Hp) (args : Args) (us : List Value) (a : Addr) (oe : Obj) (c : Str) (ns : List Int) (d : Option Addr) (t : D) (Q : VK), A.handled = some (.ref a) → A.depth < recursionLimit → A.units + 203 < cLine → L2H.PinOk outer H s (a, oe) → Env0 X.prog X.w X.K X.mg X.base A outer s H → BindsTo s fd args ([p].zip us) → Vals [.ref a] us → Zc (.ref (He.ga X.K c)) d oe → (∃ vs, oe.data = .fields vs) → (ns = [] → d = none) → XF ns d H → ok c ns = some t →
      (∃ A1 F, Enter X.K T [] [] H A1 F ∧ ∀ v H', World X.K ⟨H, A1, F, T, [], 0⟩ [] [] [] [v] [t] H' → Q v H') → codeAny (model X.prog X.w) A (.call (.ref g) args) (CR C8.CX0 outer X.prog X.w H s Q C8.E0) s)
    {c : Str} {ns : List Int} {d : Option Addr} {t : D} (hz : Zc (.ref (He.ga X.K c)) d oe) (hf : ∃ vs, oe.data = .fields vs) (hdn : ns = [] → d = none) (hc : ok c ns = some t) :
    PE (X.suite a' ((a', oe) :: pn)) (.Call (.Name x p1) [.Name e p2] [] pos) (fun σ H Q => σ[i]? = some (some (.ref a')) ∧ XF ns d H ∧ ∃ A1 F, Enter X.K T [] [] H A1 F ∧ ∀ v H', World X.K ⟨H, A1, F, T, [], 0⟩ [] [] [] [v] [t] H' → Q v H') := by
  refine ⟨fun pins s σ H Q I ⟨hσ, hxf, hq⟩ => ?_⟩
  have hn := nm1 he
  have pa : PA (X.suite a' ((a', oe) :: pn)) [.Name e p2] (tCons (tVar i) tNil) := pa_cons (pe_var hi hv (by simpa [nm] using (nm1 he)) (by
    have := nm2 he
    exact this)) pa_nil
  refine wpAny_Call_Name_kw (ld_glob I hg hm ?_ hdb)
  refine PySem.W.callWith_K (h₀ := X.base) I.ok.mod.kin hk (thn (pa.run pos pins s σ H (fun vs H1 => vs = [.ref a'] ∧ H1 = H) I ⟨.ref a', hσ, rfl, rfl⟩) fun us s1 ⟨vs, H1, I1, r, ev, eh⟩ => ⟨I1.kIn, ?_⟩) (by rfl) (by rfl)
  subst ev eh
  have l1 : us.length = ([p] : List Str).length := by rw [← r.length]; rfl
  have bt := hb s1 us I1.kIn (by rw [List.append_nil]; exact l1)
  rw [List.append_nil] at bt
  obtain ⟨g1, g2, g3, g4, g5⟩ := I1.pin (a', oe) (List.mem_append_left _ List.mem_cons_self)
  have pin : L2H.PinOk (X.suite a' ((a', oe) :: pn)).stack H1 s1 (a', oe) := ⟨g1, g2, fun hm => (List.mem_cons.mp (I1.stkSub a' hm)).elim g3 g4, g5⟩
  refine wpAny_call (codeAny_mono (run _ _ s1 H1 ⟨us, []⟩ us a' oe c ns d t Q rfl hr hu pin I1.env0 bt r hz hf hdn hxf hc hq) fun r1 s2 hq => ?_)
  match r1, hq with
  | .ok (.ret u), hq => exact I1.after hq
/-- what a def makes of a lambda's end: the answer within a list, or the words of a refusal -/
def TSaidM (K : PySem.W.Frag) (T : List (Addr × Str)) (ok : Str → List Int → Option D) : (XK → Hp → VK → Prop) → Hp → VK → Prop := fun tl H Q =>
  tl (fun cls d H' => ∃ c ns z A F, ok c ns = some z ∧ cls = .ref (He.ga K c) ∧ (ns = [] → d = none) ∧ XF ns d H' ∧ Enter K T [] [] H' A F ∧ ∀ v H'', World K ⟨H', A, F, T, [], 0⟩ [] [] [] [v] [z] H'' → Q v H'') H fun v H' => [v].length ≤ sizeLine ∧ ∀ p, H' p = none → Q (.ref p) (upd H' p (.lst [v]))
theorem said_givesM {Ng : List Str} {x a e z wh q p : Str} {sg : Scope} {g g2 : Addr} {fd2 : FuncData} {cdg : Value} {i : Nat} {ys : List Str} {p1 p2 p3 p4 p5 p6 p7 p8 p9 p10 p11 : Pos}
    (hz : sg.names.lookup z = some .globalImplicit) (hzm : X.mg z = some (.ref (He.ga X.K z))) (hzd : (z == ("__debug__" : Str)) = false) (h0 : ∀ f : Addr, (L2.start Ng [V.ref f])[0]? = some (some (V.ref f)))
    (hN : Ng.Nodup) (hi : Ng[i]? = some e) (hl : sg.names.lookup e = some .local) (hv : Vis sg e) (hne : nm e = true)
    (xs : ∀ c ns t, ok c ns = some t → XCls X.K z ys c) (hr : X.A.depth + 1 < recursionLimit) (hu : X.A.units + 206 < cLine)
    (hw : sg.names.lookup wh = some .globalImplicit) (hwd : (wh == ("__debug__" : Str)) = false) (hm : X.mg wh = some (.ref g2)) (hk : PySem.W.keepIn X.K (.ref g2) = true) (hb : Binds X.K fd2 [p] [])
    (run : ∀ (A : Around) (outer : List Env) (s : Shared) (H : Hp) (args : Args) (us : List Value) (a : Addr) (oe : Obj) (c : Str) (ns : List Int) (d : Option Addr) (t : D) (Q : VK), A.handled = some (.ref a) → A.depth < recursionLimit → A.units + 203 < cLine → L2H.PinOk outer H s (a, oe) → Env0 X.prog X.w X.K X.mg X.base A outer s H → BindsTo s fd2 args ([p].zip us) → Vals [.ref a] us → Zc (.ref (He.ga X.K c)) d oe → (∃ vs, oe.data = .fields vs) → (ns = [] → d = none) → XF ns d H → ok c ns = some t →
      (∃ A1 F, Enter X.K T [] [] H A1 F ∧ ∀ v H', World X.K ⟨H, A1, F, T, [], 0⟩ [] [] [] [v] [t] H' → Q v H') → codeAny (model X.prog X.w) A (.call (.ref g2) args) (CR C8.CX0 outer X.prog X.w H s Q C8.E0) s) :
    LamX.GivesTo X Ng x sg g cdg [.Try [.Return (some (.List [.Call (.Name a p1) [] [] p2] p3)) p4] [.ExceptHandler (some (.Name z p5)) (some e) [.Return (some (.Call (.Name wh p6) [.Name e p7] [] p8)) p9] p10] [] [] p11] a q (TSaidM X.K T ok) := by
  intro f c' s H Q tl act hc h
  have hgl : Gl (cxOf C8.CX0 X.prog X.w X.K X.mg X.base Ng x sg g cdg X.A X.stack s H C8.E0).nox z := hz
  have tr := ps_try_as (X := (cxOf C8.CX0 X.prog X.w X.K X.mg X.base Ng x sg g cdg X.A X.stack s H C8.E0).nox) (c := .ref (He.ga X.K z)) (i := i) (n := e) (np := p5) (pos := p11) (pos' := p10) (x := z) (body := [.Return (some (.List [.Call (.Name a p1) [] [] p2] p3)) p4]) (b₀ := .Return (some (.Call (.Name wh p6) [.Name e p7] [] p8)) p9) (suite := [])
    (Wout := fun _ _ _ _ => False)
    (tb := fun W En σ H => ∃ Ech : XK, (∀ cls d σ' H', Ech cls d H' → W cls d σ' H') ∧ σ[0]? = some (some (.ref f)) ∧ H c' = some (LamX.CodeO c' q) ∧ tl Ech H fun v H' => [v].length ≤ sizeLine ∧ ∀ p, H' p = none → En.rt (.ref p) (upd H' p (.lst [v])))
    (ts := fun a' cls d En σ H => ∃ c ns t A F, ok c ns = some t ∧ cls = .ref (He.ga X.K c) ∧ (ns = [] → d = none) ∧ XF ns d H ∧ Enter X.K T [] [] H A F ∧ (i < σ.length → σ[i]? = some (some (.ref a'))) ∧ ∀ v H'', World X.K ⟨H, A, F, T, [], 0⟩ [] [] [] [v] [t] H'' → En.rt v H'')
    rfl rfl hN hi hl ⟨hgl, hzd, .inl hzm⟩ LamX.takes0 (fun W pn xe tk _ => ?b) (fun a' oe cls d pn hzc hf => ?s)
  case b =>
    refine ⟨fun pins s' σ H' En I ⟨Ech, hW, h1, h2, h3⟩ => ?_⟩
    exact (pss_one (ps_ret (pos := p4) (pe_lst (pos := p3) (pa_cons (act W pn xe Ech p1 p2 tk hW) pa_nil)))).run pins s' σ H' En I ⟨h1, h2, h3⟩
  case s =>
    refine ⟨fun pins s' σ H' En I ⟨c, ns, t, A, F, hok, ec, ed, exf, en, hσ, hD⟩ => ?_⟩
    subst ec
    have len : σ.length = Ng.length := I.len
    have hin : i < σ.length := by
      rw [len]
      exact (List.getElem?_eq_some_iff.mp hi).1
    have pe := pe_whichM (X := (cxOf C8.CX0 X.prog X.w X.K X.mg X.base Ng x sg g cdg X.A X.stack s H C8.E0).nox) (a' := a') (oe := oe) (pn := pn) (T := T) (ok := ok) (x := wh) (e := e) (p1 := p6) (p2 := p7) (pos := p8) hw hwd hm hk hb hr (by show X.A.units + 3 + 203 < cLine; omega) hi hv hne run hzc hf ed hok
    exact (pss_one (ps_ret (pos := p9) pe)).run pins s' σ H' En I ⟨hσ hin, exf, A, F, en, fun v H'' W => hD v H'' W⟩
  refine ⟨_, pss_one tr, ?_⟩
  refine ⟨fun cls d H' => ∃ c ns t A F, ok c ns = some t ∧ cls = .ref (He.ga X.K c) ∧ (ns = [] → d = none) ∧ XF ns d H' ∧ Enter X.K T [] [] H' A F ∧ ∀ v H'', World X.K ⟨H', A, F, T, [], 0⟩ [] [] [] [v] [t] H'' → Q v H'', fun cls d σ' H' ⟨c, ns, t, A, F, hok, ec, ed, exf, en, hq⟩ => ?_, h0 f, hc, h⟩
  subst ec
  exact ⟨true, (xs c ns t hok).m, fun _ a' _ => ⟨c, ns, t, A, F, hok, rfl, ed, exf, en, fun hlt => List.getElem?_set_self (by simpa using hlt), hq⟩, fun z => Bool.noConfusion z⟩
end
def wSaidM (ok : Str → List Int → Option D) (wl : XD → WE) : WE := fun ρ Q => wl (fun c ns ρ' => ∃ z, ok c ns = some z ∧ Q z ρ') ρ fun d ρ' => Q (.lst .own [d]) ρ'
structure SaidM (P : Program) (w : PySem.World) (K : PySem.W.Frag) (mg : Str → Option Value) (base : Heap) (T : List (Addr × Str)) (x : Str) (ok : Str → List Int → Option D) : Prop where
  ex : ∃ (g : Addr) (fd : FuncData) (pg : Arguments) (bg : List Stmt) (sg : Scope) (kws : List (Str × V)) (Ng : List Str) (a : Str), FunD K x x pg bg sg [] kws g fd ∧ mg x = some (.ref g) ∧ L2.Binds K fd [a] [] ∧ FnScope Ng [a] sg ∧ Ng[0]? = some a ∧ Vis sg a ∧ (a == ("__debug__" : Str)) = false ∧ (a == ("__classdict__" : Str)) = false ∧
    ∀ (X : Cx), X.prog = P → X.w = w → X.K = K → X.mg = mg → X.base = base → X.A.units + 206 < cLine → X.A.depth + 1 < recursionLimit → ∀ (cdg : Value) (q : Str), LamX.GivesTo X Ng x sg g cdg bg a q (TSaidM K T ok)
section
variable {X : Cx} {G : Gm} {kp kp1 : List Bool}
theorem de_saidM {T : List (Addr × Str)} {ok : Str → List Int → Option D} {x a : Str} {g c P : Addr} {k : Nat} {pg params : Arguments} {bg : List Stmt} {sg scope : Scope} {kws : List (Str × V)} {fd : FuncData} {Ng : List Str}
    {body : Expr} {wl : XD → WE} {p lpos pos : Pos} (hg : Gl X x) (hm : X.mg x = some (.ref g)) (F : FunD X.K x x pg bg sg [] kws g fd) (hb : L2.Binds X.K fd [a] []) (Sg : FnScope Ng [a] sg) (first : Ng[0]? = some a) (seen : Vis sg a)
    (gives : ∀ cdg, LamX.GivesTo X Ng x sg g cdg bg a (X.env.qual ++ "<lambda>") (TSaidM X.K T ok)) (hT : G.T = T) (hn : G.n = X.N.length)
    (TB : LamX.TabB X.base X.mg c P) (code : X.env.code = .ref c) (tIn : (P, X.env.qual ++ "<lambda>") ∈ T) (tOne : ∀ p ∈ T, p.1 = P → p.2 = X.env.qual ++ "<lambda>") (room : Room (k + 2) X.A) (quiet : X.A.guards = some []) (lam : LamX.LamS X.env.scope scope) (noDef : defaultsOf params X.env = ([], []))
    (none_ : ∀ (q : Str) (cl : List (Str × Addr)) (pm cv ctv : Value), bindArgs (PySem.W.kla_fn "<lambda>" q params body scope cl pm cv ctv) ⟨[], []⟩ = pure [])
    (mono : ∀ Ex Ex' ρ P P', (∀ c ns r, Ex c ns r → Ex' c ns r) → (∀ d r, P d r → P' d r) → wl Ex ρ P → wl Ex' ρ P')
    (run : ∀ (A : Around) (outer : List Env) (s : Shared) (H : Hp) (E : XK) (f c' : Addr) (G1 : Gm) (Ex : XD), A.guards = some [] → Room k (A.deeper (LamX.lamEnv X scope s.heap.objs.size f c')) → G1.T = T → G1.n = G.n → TakesD (LamX.lamCx X A outer s H E scope f c') G1 (List.replicate G.n true) Ex →
      DE (LamX.lamCx X A outer s H E scope f c') G1 (List.replicate G.n true) body (wl Ex))
    (n0 : (x == ("__debug__" : Str)) = false) (n1 : (a == ("__debug__" : Str)) = false) (n2 : (a == ("__classdict__" : Str)) = false) :
    DE X G kp (.Call (.Name x p) [.Lambda params body scope lpos] [] pos) (wSaidM ok wl) := by
  subst hT
  refine ⟨fun ρ P P' hp q => mono _ _ _ _ _ (fun c ns r ⟨z, h1, h2⟩ => ⟨z, h1, hp _ _ h2⟩) (fun d r z => hp _ _ z) q, ?_⟩
  have pe := pe_lamquiet (X := X) (T := G.T) (TT := TSaidM X.K G.T ok) (p := p) (lpos := lpos) (pos := pos) hg hm F hb Sg first seen gives TB code tIn tOne room quiet lam noDef none_ (t := tBody X.K G.T G.n (List.replicate G.n true) wl)
    (fun A outer s H E f c' gd r => body_run fun G1 Ex e1 e2 tk => run A outer s H E f c' G1 Ex gd r e1 e2 tk) n0 n1 n2
  refine pe_imp pe fun σ H Q ⟨ρ, vs, ds, W, q⟩ => ⟨?_, fun H1 grown tabs => ?_⟩
  · obtain ⟨A, F, f⟩ := W
    exact f.tab
  have W1 := W.onto grown tabs
  obtain ⟨A, F, W2, back⟩ := W1.aside (kp1 := List.replicate G.n true)
  have same : ∀ {σ' : Sl} {ρ' : List D} {ws : List V} {fs : List D} {H' : Hp}, World X.K ⟨H1, A, F, G.T, σ, G.n⟩ (List.replicate G.n true) σ' ρ' ws fs H' → σ' = σ := fun {σ' ρ' ws fs H'} W' => by
    refine List.ext_getElem? fun j => ?_
    by_cases hj : j < G.n
    · exact W'.kps j (all_true hj)
    · rw [List.getElem?_eq_none (by rw [W'.sn]; show G.n ≤ j; omega), List.getElem?_eq_none (by rw [W2.sn]; show G.n ≤ j; omega)]
  refine ⟨A, F, ρ, _, W2, ?hE, mono _ _ _ _ _ (fun _ _ _ z => z) (fun z ρ' hq v H' W' => ?_) q⟩
  case hE =>
    rintro σ' cls d H' ρ' us es c ns W' ⟨e1, e2, e3⟩ ⟨z, hz, hq⟩
    have es' := same W'
    subst es'
    have W3 : World X.K ⟨H1, A, F, G.T, σ', G.n⟩ (List.replicate G.n true) σ' ρ' [] [] H' := World.dropN (us := us) (es := es) (vs := []) (ds := []) (by simpa using W') W'.lv
    have W4 : World X.K G kp σ' ρ' ([] ++ vs) ([] ++ ds) H' := back ρ' [] [] H' rfl W3
    obtain ⟨A2, F2, en, ret⟩ := W4.call (us := []) (es := []) rfl
    exact ⟨c, ns, z, A2, F2, hz, e1, e2, e3, en, fun v H'' W5 => hq v H'' (ret [v] [z] H'' rfl W5)⟩
  · refine ⟨show 1 ≤ sizeLine by decide, fun p hp => ?_⟩
    have W4 : World X.K G kp σ ρ' ([v] ++ vs) ([z] ++ ds) H' := back ρ' [v] [z] H' rfl W'
    exact hq (.ref p) _ (World.newLst (us := [v]) (es := [z]) W4 rfl hp)
variable {T : List (Addr × Str)} {ok : Str → List Int → Option D} {x y : Str} {params : Arguments} {e : Expr} {es : List Expr} {scope : Scope} {S : SD} {wr : WBs} {ps : List Str} {j k : Nat} {p p1 p2 lpos pos : Pos}
end
/-- e.n of a refusal of the class x0, with two numbers -/
def wXfM (x0 c : Str) (ns : List Int) (j : Nat) (a : Addr) (k : Nat) : WE := fun ρ Q => c = x0 ∧ (∃ i i2, ns = [i, i2]) ∧ ρ[j]? = some (.opq (.ref a)) ∧ Q (.int (ns.getD k 0)) ρ
theorem de_xfM {X : Cx} {G : Gm} {kp : List Bool} {a : Addr} {d : Option Addr} {oe : Obj} {pn : List (Addr × Obj)} {x0 c n x : Str} {ns : List Int} {j k : Nat} {p pos : Pos} (T : XfC X.K (He.ga X.K x0)) (hno : PySem.W.findIn X.K (.ref (He.ga X.K x0)) n = some none) (hz : Zc (.ref (He.ga X.K c)) d oe) (hf : ∃ vs, oe.data = .fields vs)
    (hg : XG ns d G) (hn : ∀ i i2 : Int, (fldsX [i, i2]).lookup n = some (.int ([i, i2].getD k 0))) (hj : X.N[j]? = some x) (hv : Vis (X.suite a ((a, oe) :: pn)).env.scope x) (h : nm x = true)
    (hb : attributeBase (.Name x p) n X.env (eval (.Name x p) X.env) = eval (.Name x p) X.env := by rfl) :
    DE (X.suite a ((a, oe) :: pn)) G kp (.Attribute (.Name x p) n pos) (wXfM x0 c ns j a k) := by
  refine ⟨fun ρ P P' hp q => ⟨q.1, q.2.1, q.2.2.1, hp _ _ q.2.2.2⟩, ⟨fun pins s σ H Q I ⟨ρ, vs, ds, W, hc, ⟨i, i2, hns⟩, hρ, q⟩ => ?_⟩⟩
  subst hc hns
  rcases hg with ⟨z, _⟩ | ⟨dx, hd, h0, h1⟩
  · cases z
  · subst hd
    exact (de_xf (G := G) (kp := kp) T hno hz hf h0 h1 (hn i i2) hj hv h hb).run.run pins s σ H Q I ⟨ρ, vs, ds, W, hρ, q⟩
theorem lk_many (i i2 : Int) : (fldsX [i, i2]).lookup ("many" : Str) = some (V.int ([i, i2].getD 0 0)) := rfl
theorem lk_most (i i2 : Int) : (fldsX [i, i2]).lookup ("most" : Str) = some (V.int ([i, i2].getD 1 0)) := rfl
def okM (x0 : Str) (ol : List (Str × Str)) (c : Str) (ns : List Int) : Option D := match ns with
  | [] => if c = x0 then none else (ol.lookup c).map fun z => .tup [.str z]
  | [m, n] => if c = x0 then (ol.lookup c).map fun z => .tup [.str z, .int m, .int n] else none
  | _ => none
theorem okM_mem {x0 : Str} {ol : List (Str × Str)} {c : Str} {ns : List Int} {t : D} (h : okM x0 ol c ns = some t) : ∃ z, (c, z) ∈ ol := by
  have go : ∀ {f : Str → D}, (ol.lookup c).map f = some t → ∃ z, (c, z) ∈ ol := fun {f} h => by
    obtain ⟨z, hz, _⟩ := Option.map_eq_some_iff.mp h
    exact ⟨z, Bd.mem_lookup2 hz⟩
  unfold okM at h
  split at h
  · split at h
    · cases h
    · exact go h
  · split at h
    · exact go h
    · cases h
  · cases h
/-- as rIsE; the refusal's dict, if it has one, stands -/
def rIsEM (K : PySem.W.Frag) (D a : Addr) (d : Option Addr) : List V → Hp → VK → Prop := fun xs H Q => rIsE K D a xs H Q ∧ (d = none ∨ ∃ (dx : Addr) (fs : List (Str × V)), d = some dx ∧ H dx = some (.xd fs))
theorem call_isEM {X : Cx} {a D : Addr} {d : Option Addr} {oe : Obj} {pn : List (Addr × Obj)} (C : ExcC X.K D) (hz : Zc (.ref D) d oe) (hf : ∃ vs, oe.data = .fields vs) : CallR (X.suite a ((a, oe) :: pn)) (.builtin "isinstance") (rIsEM X.K D a d) := by
  intro pins s σ H xs us Q I r ⟨⟨c, cv, b, ex, hcv, hk, q⟩, hd⟩
  subst ex
  match us, r with
  | [u, t], .cons ru (.cons rt .nil) =>
    have eu : u = Value.ref a := ru
    have et : t = cv := hcv t rt
    subst eu et
    have pin := (I.pin (a, oe) (List.mem_append_left _ List.mem_cons_self)).1
    obtain ⟨vs, hv⟩ := hf
    have nc : PySem.W.notCls oe := by
      unfold PySem.W.notCls
      rw [hv]
    have J : ∃ od, PySem.W.InstAt s.heap a oe D od := by
      rcases hd with hd | ⟨dx, fs, hd, hx⟩
      · refine ⟨none, pin, hz.1, nc, ?_⟩
        rw [hz.2, hd]
        trivial
      · have hx' : ObjOk X.prog X.w H s.heap dx (.xd fs) := I.hok dx _ hx
        obtain ⟨mA, hns, _⟩ := hx'
        obtain ⟨od, ho, _⟩ := lookIn_ns hns
        refine ⟨some od, pin, hz.1, nc, ?_⟩
        rw [hz.2, hd]
        exact ho
    obtain ⟨od, J⟩ := J
    have hcl : (PySem.W.clsIn X.K D).isSome = true := by
      have h := C.hd
      unfold PySem.W.hasDictIn at h
      cases e : PySem.W.clsIn X.K D with
      | none => rw [e] at h; cases h
      | some _ => rfl
    refine PySem.W.kia_one (PySem.W.kitx_exc hcl C.hg C.hk C.hs C.ha C.hn C.ht C.hm) I.kIn J hk (fun z => nomatch z) fun tk => ?_
    exact ⟨.bl b, H, I.kept (t' := tk) fun _ _ z => z, rfl, q⟩
section
variable {X0 : Cx} {G : Gm} {kp : List Bool} {a C : Addr} {d : Option Addr} {ns : List Int} {oe : Obj} {pn : List (Addr × Obj)} {x y : Str} {i : Nat} {p1 p2 p3 pos : Pos}
theorem isE_okM {t : V} {cv : Value} {b : Bool} (hg : XG ns d G) (ht : ∀ u, RelV t u → u = cv) (hk : PySem.W.kitOne X0.K (.ref C) cv = some b) : CallD (X0.suite a ((a, oe) :: pn)) G kp (rIsEM X0.K C a d) (c2 (isEF a t b)) := by
  refine c2_ok (fun d e P P' hp q => ?_) fun σ ρ vs ds u w d e H Q W q => ?_
  · cases d <;> cases e <;> first | exact q.elim | exact ⟨q.1, q.2.1, hp _ _ _ q.2.2⟩
  · cases d <;> cases e <;> first | exact q.elim | skip
    obtain ⟨rfl, rfl, q⟩ := q
    have e1 := W.swap.isOpq
    have e2 := W.isOpq
    refine ⟨⟨_, cv, b, by rw [e1, e2], ht, hk, q _ H ?_⟩, ?_⟩
    · first
        | exact W.bl
        | exact W.bool
    · rcases hg with ⟨_, h⟩ | ⟨dx, h, h0, h1⟩
      · exact .inl h
      · exact .inr ⟨dx, _, h, W.still h0 h1⟩
theorem de_isEM {t : V} {cv : Value} {b : Bool} (hxg : XG ns d G) (E : ExcC X0.K C) (hz : Zc (.ref C) d oe) (hf : ∃ vs, oe.data = .fields vs) (hg : Gl X0 "isinstance") (hm : X0.mg "isinstance" = none) (ht : ∀ u, RelV t u → u = cv) (hk : PySem.W.kitOne X0.K (.ref C) cv = some b)
    (hi : X0.N[i]? = some x) (hv : Vis X0.env.scope x) (hx : nm x = true) (hy : DE (X0.suite a ((a, oe) :: pn)) G kp (.Name y p3) (wC (.opq t))) :
    DE (X0.suite a ((a, oe) :: pn)) G kp (.Call (.Name "isinstance" p1) [.Name x p2, .Name y p3] [] pos) (wIsE i a b) := by
  have h := de_callB (p1 := p1) (pos := pos) (X := X0.suite a ((a, oe) :: pn)) (call_isEM E hz hf) (isE_okM (G := G) (kp := kp) hxg ht hk) hg hm boot_isinstance (dbs_cons (b_v (pos := p2) i hi hv hx) (dbs_cons (db_of hy) dbs_nil)) (by decide) (by decide) (by rfl) (by rfl)
  refine h.of_le (fun ρ P P' hp q => ⟨q.1, hp _ _ q.2⟩) fun ρ Q ⟨q1, q2⟩ => ?_
  have e : ρ.getD i .gone = .opq (.ref a) := by rw [List.getD_eq_getElem?_getD, q1]; rfl
  simp only [wCall, wBc, wBn, wB, wC, wN_eq, e, nB_opq, c2, isEF, gbs, gb]
  exact ⟨trivial, trivial, trivial, q2⟩
end
section
variable {X : Cx} {G : Gm} {kp : List Bool}
variable {o e : Expr} {wo : WB} {wa : WA} {apos cpos : Pos}
end
/-! ### str(n), int(text) -/
section
variable {X : Cx} {G : Gm} {kp : List Bool} {e a : Expr} {es : List Expr} {pos p1 : Pos} {wr : WBs}
end
variable {X : Cx} {G : Gm} {kp : List Bool} {e a b c d : Expr} {pos p1 : Pos} {we : WE} {wa wb wc wd : WB} {w2 w2' w2'' : W2} {r r' r'' : R2} {ta tb tc td : TE}
section
variable {K : PySem.W.Frag} {G : Gm} {kp : List Bool} {σ : Sl} {ρ : List D} {vs : List V} {ds : List D} {H : Hp} {A F B C : AS} {v : V} {d d' : D} {p : Addr}
end
section
variable {X : Cx} {G : Gm} {kp : List Bool} {x : Str} {e : Expr} {wa : WE} {p pos : Pos} {bmB : List Value} {B newId initId : String}
end
/-! ### isinstance of it -/
section
variable {X : Cx} {G : Gm} {kp : List Bool} {x y : Str} {i : Nat} {p1 p2 p3 pos : Pos}
end
section
variable {X : Cx} {e : Expr} {es : List Expr} {ta : TA} {p pos : Pos}
end
/-- a refusal kept that has a dict -/
def XoAt (K : PySem.W.Frag) (x : Str) (fs : List (Str × V)) (H : Hp) (v : V) : Prop := ∃ a dx, v = .ref a ∧ H a = some (exo a (He.ga K x) (some dx)) ∧ H dx = some (exd dx fs)
/-! ### the datum -/
/-- a refusal of the class x with the numbers ns, kept -/
def XP (x : Str) (ns : List Int) : PySem.W.Frag → Hp → V → Prop := fun K H v => (ns = [] ∧ ∃ a, v = .ref a ∧ H a = some (ExO (.ref (He.ga K x)) a)) ∨ (∃ m n, ns = [m, n] ∧ XoAt K x [("most", .int n), ("many", .int m)] H v)
section
variable {K : PySem.W.Frag} {G : Gm} {kp : List Bool} {σ : Sl} {ρ : List D} {vs : List V} {ds : List D} {H : Hp} {u v : V} {a dx : Addr}
end
section
variable {X : Cx} {G : Gm} {kp : List Bool} {x : Str} {e e1 e2 : Expr} {we : WE} {wb : WB} {wa : WA} {p p3 pos : Pos} {bmB : List Value} {B newId initId : String} {j k : Nat}
/-! ### isinstance -/
/-! ### e.many, e.most -/
end
theorem upd_self {H : Hp} {a : Addr} {o : HO} (h : H a = some o) : upd H a o = H := by
  funext b
  by_cases e : b = a
  · rw [e, upd_same, h]
  · rw [upd_ne e]
section
variable {K : PySem.W.Frag} {G : Gm} {kp : List Bool} {σ : Sl} {ρ : List D} {vs us us' xs xs' : List V} {ds es es' fs fs' : List D} {H H' : Hp} {A F : AS} {v w y : V} {d e : D} {a p : Addr} {i j : Nat} {pa : Option Addr} {c : Str} {ks : List Str}
/-- an instance rearranged, with temporaries ahead -/
theorem World.reins (W : World K G kp σ ρ (xs ++ v :: vs) (fs ++ .ins pa c ks es :: ds) H) (l : xs.length = fs.length) : ∃ a C dx gs, v = .ref a ∧ C = He.ga K c ∧ H a = some (.ins C dx gs) ∧ gs.map (·.1) = ks ∧ gs.length = es.length ∧ (∀ p, pa = some p → a = p) ∧
    ∀ (xs' : List V) (fs' : List D) (gs' : List (Str × V)) (es' : List D), xs'.length = fs'.length → (∀ F B, Reps K H F (xs ++ gs.map (·.2)) (fs ++ es) B → Reps K H F (xs' ++ gs'.map (·.2)) (fs' ++ es') B) →
      World K G kp σ ρ (xs' ++ v :: vs) (fs' ++ .ins pa c (gs'.map (·.1)) es' :: ds) (upd H a (.ins C dx gs')) := by
  obtain ⟨A, F, f⟩ := W
  have r := f.reps
  have lv := f.lv
  rw [List.append_assoc, List.append_assoc] at r
  obtain ⟨B1, C1, r1, r2, h1, h2, h3⟩ := r.split l
  cases r2 with
  | cons q b i j k =>
    rename_i B2 C2
    cases q with
    | ins hp z e hk ha q s =>
      rename_i a C dx gs B3
      have lq := q.length
      rw [List.length_map] at lq
      refine ⟨a, C, dx, gs, rfl, z, e, hk, lq, hp, fun xs' fs' gs' es' l' tr => ?_⟩
      have rj := tr F _ (r1.join q fun x p z => h3 x p (i x (s x z).1))
      have hA : A a := h2 a (i a ha)
      have hF : ¬ F a := f.sep a hA
      have nb : ¬ (B1 a ∨ B3 a) := fun z => z.elim (fun z => h3 a z (i a ha)) fun z => (s a z).2 rfl
      have ho := f.own a hA
      have rk := rj.agr (agr_upd (o := .ins C dx gs') nb hF ho) fun _ h => h
      obtain ⟨B, Cc, p1, p2, g1, g2, g3⟩ := rk.split l'
      have rest := b.agr (agr_upd (o := .ins C dx gs') (fun z => k a ha z) hF ho) fun _ h => h
      refine ⟨A, F, f.written hA (o := .ins C dx gs') trivial _ ?_ (by simp [l] at lv; simp [l']; exact lv) fun _ h => h⟩
      rw [List.append_assoc, List.append_assoc]
      have nr : ∀ x, (B1 x ∨ B3 x) → ¬ C2 x := fun x z q => z.elim (fun z => h3 x z (j x q)) fun z => k x (s x z).1 q
      refine (p1.join (C := fun x => (x = a ∨ Cc x) ∨ C2 x) (.cons (B := fun x => x = a ∨ Cc x) (C := C2) (.ins hp z upd_same rfl (.inl rfl) p2 fun x h => ⟨.inr h, fun z => nb (g2 a (z ▸ h))⟩) rest (fun x h => .inl h) (fun x h => .inr h) fun x h q => ?_) fun x h q => ?_).mono fun x h => ?_
      · rcases h with rfl | h
        · exact k _ ha q
        · exact nr x (g2 x h) q
      · rcases q with (rfl | q) | q
        · exact nb (g1 _ h)
        · exact g3 x h q
        · exact nr x (g1 x h) q
      · rcases h with h | (rfl | h) | h
        · exact (g1 x h).elim (h1 x) fun z => h2 x (i x (s x z).1)
        · exact hA
        · exact (g2 x h).elim (h1 x) fun z => h2 x (i x (s x z).1)
        · exact h2 x (j x h)
theorem ins_there : there (.ins pa c ks es) := True.intro
theorem Reps.opqAt : ∀ {us : List V} {es : List D} {A : AS} {j : Nat} {v : V}, Reps K H F us es A → es[j]? = some (.opq v) → us[j]? = some v
  | _, _, _, 0, v, .cons a b i j k, h => by
    simp at h
    subst h
    cases a
    rfl
  | _, _, _, j + 1, v, .cons a b i j' k, h => by
    simp at h ⊢
    exact Reps.opqAt b h
  | _, _, _, _, _, .nil, h => by simp at h
theorem Reps.takeOpq {us : List V} {es : List D} {A : AS} (r : Reps K H F us es A) (h : es[j]? = some d) (hv : us[j]? = some v) : Reps K H F (v :: us) (d :: es.set j (.opq v)) A := by
  obtain ⟨w, hw, q⟩ := r.pick h
  rw [hv] at hw
  cases hw
  cases q with
  | cons x y b1 b2 b3 =>
    refine .cons x ?_ b1 b2 b3
    have z := Reps.replace (i := j) (Reps.push y (.opq (v := v)))
    rw [set_self hv, List.set_set] at z
    exact z
/-- the attribute at place j taken out: its value is known -/
theorem World.fldTake (W : World K G kp σ ρ vs ds H) (h : ρ[i]? = some (.ins pa c ks es)) (hj : es[j]? = some d) :
    ∃ a C dx gs v, σ[i]? = some (some (.ref a)) ∧ C = He.ga K c ∧ H a = some (.ins C dx gs) ∧ gs.map (·.1) = ks ∧ (gs.map (·.2))[j]? = some v ∧
      World K G kp σ (ρ.set i (.ins pa c ks (es.set j (.opq v)))) (v :: vs) (d :: ds) H := by
  obtain ⟨v0, e0, W1⟩ := W.take h ins_there.ne
  obtain ⟨a, C, dx, gs, ea, hC, hH, hk, lg, hp, mk⟩ := World.reins (xs := []) (fs := []) W1 rfl
  subst ea
  have hj2 : j < (gs.map (·.2)).length := by
    rw [List.length_map, lg]
    exact (List.getElem?_eq_some_iff.mp hj).1
  obtain ⟨v, hv⟩ : ∃ v : V, (gs.map (·.2))[j]? = some v := ⟨_, List.getElem?_eq_getElem hj2⟩
  refine ⟨a, C, dx, gs, v, e0, hC, hH, hk, hv, ?_⟩
  have W2 := mk [v] [d] gs (es.set j (.opq v)) rfl fun F B r => Reps.takeOpq (us := gs.map (·.2)) (es := es) (by simpa using r) hj hv
  rw [upd_self hH, hk] at W2
  have W3 := (World.swap W2).give e0
  rw [List.set_set] at W3
  exact W3
/-- .. and put back -/
theorem World.fldGive (W : World K G kp σ ρ (v :: vs) (d :: ds) H) (h : ρ[i]? = some (.ins pa c ks es)) (hj : es[j]? = some (.opq v)) : World K G kp σ (ρ.set i (.ins pa c ks (es.set j d))) vs ds H := by
  obtain ⟨v0, e0, W1⟩ := W.take h ins_there.ne
  obtain ⟨a, C, dx, gs, ea, hC, hH, hk, lg, hp, mk⟩ := World.reins (xs := [v]) (fs := [d]) W1.swap rfl
  subst ea
  have W2 := mk [] [] gs (es.set j d) rfl fun F B r => by
    have hv := Reps.opqAt (j := j) r.tail hj
    have z := Reps.replace (i := j) r
    rw [set_self hv] at z
    exact z
  rw [upd_self hH, hk] at W2
  have W3 := World.give W2 e0
  rw [List.set_set] at W3
  exact W3
/-- the top put into the attribute at place j -/
theorem World.fldSet (W : World K G kp σ ρ (v :: vs) (d :: ds) H) (h : ρ[i]? = some (.ins pa c ks es)) (hj : j < ks.length) : ∃ a C dx gs g, σ[i]? = some (some (.ref a)) ∧ C = He.ga K c ∧ H a = some (.ins C dx gs) ∧ gs.map (·.1) = ks ∧ gs[j]? = some g ∧
    World K G kp σ (ρ.set i (.ins pa c ks (es.set j d))) vs ds (upd H a (.ins C dx (gs.set j (g.1, v)))) := by
  obtain ⟨v0, e0, W1⟩ := W.take h ins_there.ne
  obtain ⟨a, C, dx, gs, ea, hC, hH, hk, lg, hp, mk⟩ := World.reins (xs := [v]) (fs := [d]) W1.swap rfl
  subst ea
  have hj2 : j < gs.length := by rw [← List.length_map (f := (·.1)), hk]; exact hj
  refine ⟨a, C, dx, gs, gs[j], e0, hC, hH, hk, List.getElem?_eq_getElem hj2, ?_⟩
  have W2 := mk [] [] (gs.set j (gs[j].1, v)) (es.set j d) rfl fun F B r => by
    have z := Reps.replace (i := j) r
    rw [List.map_set]
    exact z
  have ek : (gs.set j (gs[j].1, v)).map (·.1) = ks := by
    rw [List.map_set, ← hk]
    exact set_self (by rw [List.getElem?_map, List.getElem?_eq_getElem hj2]; rfl)
  rw [ek] at W2
  have W3 := World.give W2 e0
  rw [List.set_set] at W3
  exact W3
/-- .. as a new attribute -/
theorem World.fldNew {f : Str} (W : World K G kp σ ρ (v :: vs) (d :: ds) H) (h : ρ[i]? = some (.ins pa c ks es)) : ∃ a C dx gs, σ[i]? = some (some (.ref a)) ∧ C = He.ga K c ∧ H a = some (.ins C dx gs) ∧ gs.map (·.1) = ks ∧
    World K G kp σ (ρ.set i (.ins pa c (ks ++ [f]) (es ++ [d]))) vs ds (upd H a (.ins C dx (gs ++ [(f, v)]))) := by
  obtain ⟨v0, e0, W1⟩ := W.take h ins_there.ne
  obtain ⟨a, C, dx, gs, ea, hC, hH, hk, lg, hp, mk⟩ := World.reins (xs := [v]) (fs := [d]) W1.swap rfl
  subst ea
  refine ⟨a, C, dx, gs, e0, hC, hH, hk, ?_⟩
  have W2 := mk [] [] (gs ++ [(f, v)]) (es ++ [d]) rfl fun F B r => by
    have z := Reps.tor (us := gs.map (·.2)) (es := es) (vs := []) (ds := []) (v := v) (d := d) (by rw [List.length_map]; exact lg) (by simpa using r)
    simpa using z
  rw [List.map_append, hk] at W2
  have W3 := World.give W2 e0
  rw [List.set_set] at W3
  exact W3
end
/-! ### names of attributes -/
/-- f stands at place j of ks, and nowhere ahead -/
def posF (ks : List Str) (f : Str) (j : Nat) : Bool := ks.idxOf f == j && decide (j < ks.length)
theorem idxOf_ne {a b : Str} {l : List Str} (h : a ≠ b) : (a :: l).idxOf b = l.idxOf b + 1 := by
  rw [List.idxOf_cons]
  have : (a == b) = false := beq_eq_false_iff_ne.mpr h
  rw [this]
  rfl
theorem lookup_of : ∀ {gs : List (Str × V)} {f : Str} {j : Nat} {v : V}, (gs.map (·.1)).idxOf f = j → (gs.map (·.2))[j]? = some v → (gs.map (·.1))[j]? = some f → gs.lookup f = some v
  | [], _, _, _, _, h, _ => by simp at h
  | (g, x) :: r, f, j, v, e, h, hf => by
    by_cases q : g = f
    · subst q
      have : j = 0 := by rw [← e]; simp
      subst this
      simp at h
      rw [List.lookup, beq_self_eq_true]
      exact congrArg some h
    · have hb : (f == g) = false := beq_eq_false_iff_ne.mpr fun z => q z.symm
      rw [List.lookup, hb]
      rw [List.map_cons, idxOf_ne q] at e
      subst e
      exact lookup_of rfl (by simpa using h) (by simpa using hf)
theorem posF_look {ks : List Str} {f : Str} {j : Nat} (h : posF ks f j = true) : ks.idxOf f = j ∧ j < ks.length ∧ ks[j]? = some f := by
  unfold posF at h
  rw [Bool.and_eq_true] at h
  have h1 : ks.idxOf f = j := by simpa using h.1
  have h2 : j < ks.length := by simpa using h.2
  refine ⟨h1, h2, ?_⟩
  subst h1
  rw [List.getElem?_eq_getElem h2]
  exact congrArg some (List.getElem_idxOf h2)
theorem putF_at : ∀ {gs : List (Str × V)} {f : Str} {j : Nat} {g : Str × V} {v : V}, (gs.map (·.1)).idxOf f = j → gs[j]? = some g → g.1 = f → putF f v gs = gs.set j (g.1, v)
  | [], _, _, _, _, _, h, _ => by simp at h
  | (k, x) :: r, f, j, g, v, e, h, hf => by
    by_cases q : k = f
    · subst q
      have : j = 0 := by rw [← e]; simp
      subst this
      simp at h
      subst h
      show (if k = k then _ else _) = _
      rw [if_pos rfl]
      rfl
    · rw [List.map_cons, idxOf_ne q] at e
      subst e
      show (if k = f then _ else _) = _
      rw [if_neg q, List.set_cons_succ, putF_at rfl (by simpa using h) hf]
theorem putF_new : ∀ {gs : List (Str × V)} {f : Str} {v : V}, f ∉ gs.map (·.1) → putF f v gs = gs ++ [(f, v)]
  | [], _, _, _ => rfl
  | (k, x) :: r, f, v, h => by
    rw [List.map_cons, List.mem_cons, not_or] at h
    show (if k = f then _ else _) = _
    rw [if_neg fun z => h.1 z.symm, putF_new h.2]
    rfl
theorem lookup_no : ∀ {gs : List (Str × V)} {f : Str}, f ∉ gs.map (·.1) → gs.lookup f = none
  | [], _, _ => rfl
  | (k, x) :: r, f, h => by
    rw [List.map_cons, List.mem_cons, not_or] at h
    have hb : (f == k) = false := beq_eq_false_iff_ne.mpr h.1
    rw [List.lookup, hb]
    exact lookup_no h.2
/-- what the text must say of a class and its attributes -/
structure InsC (K : PySem.W.Frag) (c : Str) (fs : List Str) : Prop where
  cls : Cls K (He.ga K c)
  noat : ∀ f ∈ fs, NoAttr K (He.ga K c) f
/-- an instance of the class with just these attributes -/
def isIns (d : D) (c : Str) (ks : List Str) (Q : Option Addr → List D → Prop) : Prop := match d with
  | .ins pa c' ks' es => c' = c ∧ ks' = ks ∧ Q pa es
  | _ => False
theorem isIns_of {d : D} {c : Str} {ks : List Str} {Q : Option Addr → List D → Prop} (h : isIns d c ks Q) : ∃ pa es, d = .ins pa c ks es ∧ Q pa es := by
  unfold isIns at h
  split at h
  · obtain ⟨rfl, rfl, q⟩ := h
    exact ⟨_, _, rfl, q⟩
  · exact h.elim
theorem isIns_mono {d : D} {c : Str} {ks : List Str} {P P' : Option Addr → List D → Prop} (h : ∀ a b, P a b → P' a b) (q : isIns d c ks P) : isIns d c ks P' := by
  obtain ⟨pa, es, rfl, q'⟩ := isIns_of q
  exact ⟨rfl, rfl, h _ _ q'⟩
theorem isIns_eq {pa : Option Addr} {c : Str} {ks : List Str} {es : List D} {Q : Option Addr → List D → Prop} : isIns (.ins pa c ks es) c ks Q = Q pa es := propext ⟨fun h => h.2.2, fun h => ⟨rfl, rfl, h⟩⟩
theorem getD_ins {ρ : List D} {i : Nat} {pa : Option Addr} {c : Str} {ks : List Str} {es : List D} (h : ρ.getD i .gone = .ins pa c ks es) : ρ[i]? = some (.ins pa c ks es) := by
  have := getD_there (ρ := ρ) (j := i) (by rw [h]; trivial)
  rw [h] at this
  exact this
section
variable {X : Cx} {G : Gm} {kp : List Bool} {e : Expr} {es : List Expr} {i j : Nat} {x c f : Str} {ks fs0 : List Str} {p pos : Pos} {we : WE} {wb : WB} {wa : WA} {w2 : W2} {r : R2}
/-- x.f by values -/
theorem pe_fl (C : InsC X.K c fs0) (hf : f ∈ fs0) (hk : posF ks f j = true) (hi : X.N[i]? = some x) (hv : Vis X.env.scope x) (h : nm x = true) (hb : attributeBase (.Name x p) f X.env (eval (.Name x p) X.env) = eval (.Name x p) X.env) :
    PE X (.Attribute (.Name x p) f pos) (fun σ H Q => ∃ a dx gs v, σ[i]? = some (some (.ref a)) ∧ H a = some (.ins (He.ga X.K c) dx gs) ∧ gs.map (·.1) = ks ∧ (gs.map (·.2))[j]? = some v ∧ Q v H) :=
  pe_imp (pe_fld (pe_var hi hv (nm1 h) (nm2 h)) hb) fun σ H Q ⟨a, dx, gs, v, h1, h2, h3, h4, q⟩ => ⟨.ref a, h1, a, _, dx, gs, v, rfl, h2, C.cls, C.noat f hf, lookup_of (by rw [h3]; exact (posF_look hk).1) h4 (by rw [h3]; exact (posF_look hk).2.2), q⟩
/-- x.f, handed on -/
def wFl (i : Nat) (c : Str) (ks : List Str) (j : Nat) : WE := fun ρ Q => isIns (ρ.getD i .gone) c ks fun pa es => there (es.getD j .gone) ∧ Q (es.getD j .gone).frz (ρ.set i (.ins pa c ks (es.set j (es.getD j .gone).frz)))
theorem de_fl (C : InsC X.K c fs0) (hf : f ∈ fs0) (hk : posF ks f j = true) (hi : X.N[i]? = some x) (hv : Vis X.env.scope x) (h : nm x = true) (hb : attributeBase (.Name x p) f X.env (eval (.Name x p) X.env) = eval (.Name x p) X.env := by rfl) :
    DE X G kp (.Attribute (.Name x p) f pos) (wFl i c ks j) := by
  refine ⟨fun ρ P P' hp q => isIns_mono (fun _ _ z => ⟨z.1, hp _ _ z.2⟩) q, pe_imp (pe_fl C hf hk hi hv h hb) fun σ H Q ⟨ρ, vs, ds, W, q⟩ => ?_⟩
  obtain ⟨pa, es, e, ht, q⟩ := isIns_of q
  have hρ := getD_ins e
  have hl := (List.getElem?_eq_some_iff.mp hρ).1
  obtain ⟨a, C', dx, gs, v, h1, rfl, h2, h3, h4, W1⟩ := W.fldTake hρ (getD_there ht)
  refine ⟨a, dx, gs, v, h1, h2, h3, h4, q v H ?_⟩
  have W2 := W1.frzTop
  have W3 : World X.K G kp σ _ (v :: v :: vs) (_ :: (es.getD j .gone).frz :: ds) H := W2.temps (us := v :: v :: vs) (es := (es.getD j .gone).frz :: (es.getD j .gone).frz :: ds) (fun F A r => by
    cases r with
    | cons p q i j k => exact Reps.push (.cons p q i j k) (p.solid (frz_solid _))) (by simpa using W2.lv)
  have W4 := W3.swap.fldGive (pa := pa) (c := c) (ks := ks) (es := es.set j (.opq v)) (i := i) (j := j) (List.getElem?_set_self hl) (List.getElem?_set_self (List.getElem?_eq_some_iff.mp (getD_there ht)).1)
  rw [List.set_set, List.set_set] at W4
  exact W4
/-- x.f op e, x.f lent -/
def wOpFl (w2 : W2) (i : Nat) (c : Str) (ks : List Str) (j : Nat) (wb : WB) : WE := fun ρ Q => isIns (ρ.getD i .gone) c ks fun pa es => there (es.getD j .gone) ∧ ∀ v, wb (ρ.set i (.ins pa c ks (es.set j (.opq v)))) fun y oy ρ2 => w2 (es.getD j .gone) y fun z d' y' =>
  isIns ((gb oy y' ρ2).getD i .gone) c ks fun pa2 es2 => es2[j]? = some (.opq v) ∧ Q z ((gb oy y' ρ2).set i (.ins pa2 c ks (es2.set j d')))
theorem wOpFl_mono (ho : OpD X G kp r w2) (hb : DB X G kp e wb) : ∀ ρ P P', (∀ d r, P d r → P' d r) → wOpFl w2 i c ks j wb ρ P → wOpFl w2 i c ks j wb ρ P' :=
  fun ρ P P' hp q => isIns_mono (fun _ _ z => ⟨z.1, fun v => hb.mono _ _ _ (fun y oy r2 z => ho.1 _ _ _ _ (fun _ _ _ z => isIns_mono (fun _ _ z => ⟨z.1, hp _ _ z.2⟩) z) z) (z.2 v)⟩) q
theorem wOpFl_conv (C : InsC X.K c fs0) (ho : OpD X G kp r w2) (hb : DB X G kp e wb) (σ : Sl) (H : Hp) (Q : VK) (q : tDE X.K G kp (wOpFl w2 i c ks j wb) σ H Q) :
    tOp r (fun σ H Q => ∃ a dx gs v, σ[i]? = some (some (.ref a)) ∧ H a = some (.ins (He.ga X.K c) dx gs) ∧ gs.map (·.1) = ks ∧ (gs.map (·.2))[j]? = some v ∧ Q v H) (tDB X.K G kp wb) σ H Q := by
  obtain ⟨ρ, vs, ds, W, q⟩ := q
  obtain ⟨pa, es, e, ht, q⟩ := isIns_of q
  have hρ := getD_ins e
  obtain ⟨a, C', dx, gs, v, h1, rfl, h2, h3, h4, W1⟩ := W.fldTake hρ (getD_there ht)
  refine ⟨a, dx, gs, v, h1, h2, h3, h4, _, _, _, W1, hb.mono _ _ _ (fun y oy ρ2 z yv H2 W2 hy => ?_) (q v)⟩
  refine ho.2 _ _ _ _ _ _ _ _ _ _ W2 (ho.1 _ _ _ _ (fun z d' y' z3 u H3 W3 => ?_) z)
  obtain ⟨pa2, es2, e2, hv2, z4⟩ := isIns_of z3
  have W4 := (World.swap W3).gb hy
  exact z4 u H3 (W4.swap.fldGive (getD_ins e2) hv2)
theorem dt_cmpFl {op : CmpOp} {b : Expr} {pos2 : Pos} (C : InsC X.K c fs0) (hf : f ∈ fs0) (hk : posF ks f j = true) (hi : X.N[i]? = some x) (hv : Vis X.env.scope x) (h : nm x = true) (ho : OpR X (compareOp op) r) (hw : OpD X G kp r w2) (hb : DB X G kp b wb) (hm : behindInMarks op b = false)
    (hbase : attributeBase (.Name x p) f X.env (eval (.Name x p) X.env) = eval (.Name x p) X.env := by rfl) : DT X G kp (.Compare (.Attribute (.Name x p) f pos) [op] [b] pos2) (wT (wOpFl w2 i c ks j wb)) := by
  have mo := wOpFl_mono (i := i) (c := c) (ks := ks) (j := j) hw hb
  refine ⟨fun ρ P P' hp q => mo ρ _ _ (fun d r z => isB_mono (fun b q => hp b r q) z) q, pt_imp (pt_cmpR ho (pe_fl C hf hk hi hv h hbase) hb.run hm) fun σ H Q q => ?_⟩
  refine wOpFl_conv C hw hb σ H _ ?_
  obtain ⟨ρ, vs, ds, W, q⟩ := q
  refine ⟨ρ, vs, ds, W, mo ρ _ _ (fun d r z v H' W' => ?_) q⟩
  cases d <;> first | exact z.elim | skip
  have e := W'.isBl
  subst e
  exact ⟨_, rfl, z H' W'.drop⟩
/-- x.f.m(..), a method of a built-in object -/
def wFlMe (T : String) (m : WM) (i : Nat) (c : Str) (ks : List Str) (j : Nat) (wa : WA) : WE := fun ρ Q => isIns (ρ.getD i .gone) c ks fun pa es => mtD (es.getD j .gone) = some T ∧ ∀ v, wa (ρ.set i (.ins pa c ks (es.set j (.opq v)))) fun as ρ2 => m (es.getD j .gone) as fun z d' =>
  isIns (ρ2.getD i .gone) c ks fun pa2 es2 => es2[j]? = some (.opq v) ∧ Q z (ρ2.set i (.ins pa2 c ks (es2.set j d')))
def wFlMe0 (T : String) (m : WM) (i : Nat) (c : Str) (ks : List Str) (j : Nat) : WE := fun ρ Q => isIns (ρ.getD i .gone) c ks fun pa es => mtD (es.getD j .gone) = some T ∧ m (es.getD j .gone) [] fun z d' => Q z (ρ.set i (.ins pa c ks (es.set j d')))
variable {apos cpos : Pos} {name : Str} {T id : String} {rm : V → List V → Hp → VK → Prop} {m : WM}
theorem de_flMe (C : InsC X.K c fs0) (hf : f ∈ fs0) (hk : posF ks f j = true) (hi : X.N[i]? = some x) (hv : Vis X.env.scope x) (h : nm x = true) (hb : attributeBase (.Name x p) f X.env (eval (.Name x p) X.env) = eval (.Name x p) X.env)
    (pa : PlainAttrs T) (slot : Slot T name id) (hty : typeOf (.builtin id) = pure (.type "method_descriptor")) (hm : MtR X id rm) (hM : MethD X G kp rm m) (ha : DA X G kp (e :: es) wa)
    (hbase : attributeBase (.Attribute (.Name x p) f pos) name X.env (eval (.Attribute (.Name x p) f pos) X.env) = eval (.Attribute (.Name x p) f pos) X.env)
    (hfew : ((backTo cpos (starEach (e :: es) X.env)).all (fun x => !x.1) && (backToKw cpos (keywordEach [] X.env)).all (fun x => x.1.isSome)
      && decide ((e :: es).length + ([] : List Keyword).length + (if ([] : List Keyword).isEmpty then 0 else 1) < 30)) = true)
    (hline : (apos.endLine == cpos.line) = true) (hs : starEach (e :: es) X.env = (false, eval e X.env) :: starEach es X.env) (hplain : (backTo cpos (starEach es X.env)).any (·.1) = false) :
    DE X G kp (.Call (.Attribute (.Attribute (.Name x p) f pos) name apos) (e :: es) [] cpos) (wFlMe T m i c ks j wa) := by
  refine ⟨fun ρ P P' hp q => isIns_mono (fun _ _ z => ⟨z.1, fun v => ha.mono _ _ _ (fun as r2 z => hM.1 _ _ _ _ (fun _ _ z => isIns_mono (fun _ _ z => ⟨z.1, hp _ _ z.2⟩) z) z) (z.2 v)⟩) q, pe_imp (pe_bm pa slot hty hm (pe_fl C hf hk hi hv h hb) ha.run hbase hfew hline hs hplain) fun σ H Q ⟨ρ, vs, ds, W, q⟩ => ?_⟩
  obtain ⟨pp, fs, e, ht, q⟩ := isIns_of q
  have hρ := getD_ins e
  obtain ⟨a, C', dx, gs, v, h1, rfl, h2, h3, h4, W1⟩ := W.fldTake hρ (getD_there (mtD_there ht))
  refine ⟨a, dx, gs, v, h1, h2, h3, h4, W1.tyV ht, _, _, _, W1, ha.mono _ _ _ (fun as r2 z us H2 l W2 => ?_) (q v)⟩
  refine hM.2 _ _ _ _ _ _ _ _ _ _ l W2 (hM.1 _ _ _ _ (fun y d' z u H3 W3 => ?_) z)
  obtain ⟨pa2, es2, e2, hv2, z4⟩ := isIns_of z
  exact z4 u H3 (W3.swap.fldGive (getD_ins e2) hv2)
theorem de_flMe0 (C : InsC X.K c fs0) (hf : f ∈ fs0) (hk : posF ks f j = true) (hi : X.N[i]? = some x) (hv : Vis X.env.scope x) (h : nm x = true) (hb : attributeBase (.Name x p) f X.env (eval (.Name x p) X.env) = eval (.Name x p) X.env)
    (pa : PlainAttrs T) (slot : Slot T name id) (hty : typeOf (.builtin id) = pure (.type "method_descriptor")) (hm : MtR X id rm) (hM : MethD X G kp rm m)
    (hbase : attributeBase (.Attribute (.Name x p) f pos) name X.env (eval (.Attribute (.Name x p) f pos) X.env) = eval (.Attribute (.Name x p) f pos) X.env) (hline : (apos.endLine == cpos.line) = true) :
    DE X G kp (.Call (.Attribute (.Attribute (.Name x p) f pos) name apos) [] [] cpos) (wFlMe0 T m i c ks j) := by
  refine ⟨fun ρ P P' hp q => isIns_mono (fun _ _ z => ⟨z.1, hM.1 _ _ _ _ (fun _ _ z => hp _ _ z) z.2⟩) q, pe_imp (pe_bm0 pa slot hty hm (pe_fl C hf hk hi hv h hb) hbase hline) fun σ H Q ⟨ρ, vs, ds, W, q⟩ => ?_⟩
  obtain ⟨pp, fs, e, ht, q⟩ := isIns_of q
  have hρ := getD_ins e
  have hl := (List.getElem?_eq_some_iff.mp hρ).1
  have hj := getD_there (mtD_there ht)
  obtain ⟨a, C', dx, gs, v, h1, rfl, h2, h3, h4, W1⟩ := W.fldTake hρ hj
  refine ⟨a, dx, gs, v, h1, h2, h3, h4, W1.tyV ht, ?_⟩
  refine hM.2 _ _ _ _ _ [] _ [] _ _ rfl W1 (hM.1 _ _ _ _ (fun y d' z u H3 W3 => z u H3 ?_) q)
  have W4 := W3.swap.fldGive (pa := pp) (c := c) (ks := ks) (es := fs.set j (.opq v)) (i := i) (j := j) (List.getElem?_set_self hl) (List.getElem?_set_self (List.getElem?_eq_some_iff.mp hj).1)
  rw [List.set_set, List.set_set] at W4
  exact W4
/-- x.f = e -/
def wsFlS (i : Nat) (c : Str) (ks : List Str) (j : Nat) (we : WE) : WS := fun E ρ => we ρ fun d r => isIns (r.getD i .gone) c ks fun pa es => E.nx (r.set i (.ins pa c ks (es.set j d)))
def wsFlN (i : Nat) (c : Str) (ks : List Str) (f : Str) (we : WE) : WS := fun E ρ => we ρ fun d r => isIns (r.getD i .gone) c ks fun pa es => E.nx (r.set i (.ins pa c (ks ++ [f]) (es ++ [d])))
theorem ds_flS {pos' : Pos} (C : InsC X.K c fs0) (hf : f ∈ fs0) (hk : posF ks f j = true) (hz : ks.length < 1000) (hi : X.N[i]? = some x) (hv : Vis X.env.scope x) (h : nm x = true) (he : DE X G kp e we) (hs : swapsWith e (some (.Attribute (.Name x p) f pos')) pos.line X.env = pure false := by rfl) :
    DS X G kp (.Assign [.Attribute (.Name x p) f pos'] e pos) (wsFlS i c ks j we) := by
  refine ⟨fun A B ρ hAB q => he.mono _ _ _ (fun d r z => isIns_mono (fun _ _ z => hAB.nx _ z) z) q, ps_imp (ps_fld (pe_var hi hv (nm1 h) (nm2 h)) he.run hs) fun E σ H ⟨ρ, vs, ds, W, q⟩ => ⟨ρ, vs, ds, W, he.mono _ _ _ (fun d r z v H' W' => ?_) q⟩⟩
  obtain ⟨pa, es, e, q⟩ := isIns_of z
  obtain ⟨a, C', dx, gs, g, h1, rfl, h2, h3, h4, W1⟩ := W'.fldSet (getD_ins e) (posF_look hk).2.1
  have lg : gs.length < 1000 := by rw [← List.length_map (f := (·.1)), h3]; exact hz
  have eg : g.1 = f := by
    have z := (posF_look hk).2.2
    rw [← h3, List.getElem?_map, h4] at z
    exact Option.some.inj z
  refine ⟨.ref a, h1, a, _, dx, gs, rfl, h2, C.cls, C.noat f hf, lg, ?_⟩
  rw [putF_at (by rw [h3]; exact (posF_look hk).1) h4 eg]
  exact q _ _ W1
theorem ds_flN {pos' : Pos} (C : InsC X.K c fs0) (hf : f ∈ fs0) (hk : f ∉ ks) (hz : ks.length < 1000) (hi : X.N[i]? = some x) (hv : Vis X.env.scope x) (h : nm x = true) (he : DE X G kp e we) (hs : swapsWith e (some (.Attribute (.Name x p) f pos')) pos.line X.env = pure false := by rfl) :
    DS X G kp (.Assign [.Attribute (.Name x p) f pos'] e pos) (wsFlN i c ks f we) := by
  refine ⟨fun A B ρ hAB q => he.mono _ _ _ (fun d r z => isIns_mono (fun _ _ z => hAB.nx _ z) z) q, ps_imp (ps_fld (pe_var hi hv (nm1 h) (nm2 h)) he.run hs) fun E σ H ⟨ρ, vs, ds, W, q⟩ => ⟨ρ, vs, ds, W, he.mono _ _ _ (fun d r z v H' W' => ?_) q⟩⟩
  obtain ⟨pa, es, e, q⟩ := isIns_of z
  obtain ⟨a, C', dx, gs, h1, rfl, h2, h3, W1⟩ := W'.fldNew (f := f) (getD_ins e)
  have lg : gs.length < 1000 := by rw [← List.length_map (f := (·.1)), h3]; exact hz
  refine ⟨.ref a, h1, a, _, dx, gs, rfl, h2, C.cls, C.noat f hf, lg, ?_⟩
  rw [putF_new (by rw [h3]; exact hk)]
  exact q _ _ W1
end
theorem nB_ins {pa : Option Addr} {c : Str} {ks : List Str} {es : List D} {i : Nat} {ρ : List D} {Q : D → Option Nat → List D → Prop} : nB (.ins pa c ks es) i ρ Q = Q (.ins pa c ks es) (some i) (ρ.set i .gone) := rfl
theorem nM_ins {pa : Option Addr} {c : Str} {ks : List Str} {es : List D} {i : Nat} {ρ : List D} {Q : D → List D → Prop} : nM (.ins pa c ks es) i ρ Q = Q (.ins pa c ks es) (ρ.set i .gone) := rfl
/-- a method of an own class: what it promises -/
structure MtC (P : Program) (w : PySem.World) (K : PySem.W.Frag) (mg : Str → Option Value) (base : Heap) (T : List (Addr × Str)) (k : Nat) (c m : Str) (ps : List Str) (S : SD) : Prop where
  ex : ∃ (f : Addr) (fd : FuncData), FnG P w K mg base k f fd ps (spD K T S) ∧ Cls K (He.ga K c) ∧ Meth K (He.ga K c) m f ∧ Binds K fd ps []
/-- an own class that is made -/
structure MkI (P : Program) (w : PySem.World) (K : PySem.W.Frag) (mg : Str → Option Value) (base : Heap) (T : List (Addr × Str)) (k : Nat) (c : Str) (ps : List Str) (S : SD) : Prop where
  ex : ∃ (f : Addr) (fd : FuncData), FnG P w K mg base k f fd ps (spD K T S) ∧ mg c = some (.ref (He.ga K c)) ∧ Mk K (He.ga K c) f ∧ Binds K fd ps []
section
variable {K : PySem.W.Frag} {G : Gm} {kp : List Bool} {σ : Sl} {ρ : List D} {vs us : List V} {ds es : List D} {H : Hp} {v : V} {d : D} {a p dx : Addr} {i : Nat} {pa : Option Addr} {c : Str} {ks : List Str}
theorem World.newIns (W : World K G kp σ ρ vs ds H) (hp : H p = none) : World K G kp σ ρ (.ref p :: vs) (.ins (some p) c [] [] :: ds) (upd H p (.ins (He.ga K c) dx [])) := by
  obtain ⟨A, F, f⟩ := W
  have na : ¬ A p := fun z => by
    obtain ⟨u, e, _⟩ := f.own _ z
    rw [hp] at e; cases e
  refine ⟨fun x => x = p ∨ A x, F, f.laid hp _ ?_ (by simpa using f.lv) fun x h => ?_⟩
  · exact .cons (B := fun x => x = p) (C := A) (.ins (fun _ e => Option.some.inj e) rfl upd_same rfl rfl (B := M0) .nil fun _ h => h.elim) (f.reps.agr (agr_laid hp) fun _ h => h) (fun x h => .inl h) (fun x h => .inr h) fun x h q => na (h ▸ q)
  · rcases h with h | h
    · exact .inr ⟨h, trivial⟩
    · exact .inl h
theorem World.atIns (W : World K G kp σ ρ vs ds H) (h : ρ[i]? = some (.ins pa c ks es)) : ∃ a dx gs, σ[i]? = some (some (.ref a)) ∧ H a = some (.ins (He.ga K c) dx gs) ∧ gs.map (·.1) = ks := by
  obtain ⟨v0, e0, W1⟩ := W.take h ins_there.ne
  obtain ⟨a, C, dx, gs, ea, hC, hH, hk, _⟩ := World.reins (xs := []) (fs := []) W1 rfl
  subst ea hC
  exact ⟨a, dx, gs, e0, hH, hk⟩
end
section
variable {X : Cx} {G : Gm} {kp : List Bool} {k : Nat} {S : SD} {Ex : XD} {x c m : Str} {p pos apos : Pos} {e : Expr} {es : List Expr} {wr : WBs} {ks ps : List Str} {i j : Nat} {T : List (Addr × Str)}
/-- o.m(..): o a name, lent behind the arguments -/
def wMeth (i : Nat) (c : Str) (ks : List Str) (S : SD) (Ex : XD) (wr : WBs) : WE := fun ρ Q => isIns (ρ.getD i .gone) c ks (fun _ _ => True) ∧ wr ρ fun es os r => isIns (r.getD i .gone) c ks fun pa ds =>
  S (.ins pa c ks ds :: es) (fun z es' => Q z (gbs (some i :: os) es' (r.set i .gone))) fun cn ns es' => Ex cn ns (gbs (some i :: os) es' (r.set i .gone))
theorem wMeth_monoX {Ex Ex' : XD} {ρ : List D} {P P' : D → List D → Prop} (hS : SMono S) (mr : ∀ ρ P P', (∀ d o r, P d o r → P' d o r) → wr ρ P → wr ρ P') (h1 : ∀ c ns r, Ex c ns r → Ex' c ns r) (h2 : ∀ d r, P d r → P' d r) (q : wMeth i c ks S Ex wr ρ P) : wMeth i c ks S Ex' wr ρ P' :=
  ⟨q.1, mr _ _ _ (fun es os r z => isIns_mono (fun _ _ z => hS _ _ _ _ _ (fun d r z => h2 _ _ z) (fun _ _ _ z => h1 _ _ _ z) z) z) q.2⟩
theorem wMeth_sp {σ : Sl} {ρ r : List D} {vs us : List V} {ds es : List D} {os : List (Option Nat)} {H : Hp} {a : Addr} {Q : VK} (hS : SMono S) (hT : G.T = T) (l : us.length = es.length) (W : World X.K G kp σ r (us ++ vs) (es ++ ds) H) (hl : Lent σ us os) (ha : σ[i]? = some (some (.ref a)))
    (q : isIns (r.getD i .gone) c ks fun pa ds' => S (.ins pa c ks ds' :: es) (fun z es' => ∀ v H', World X.K G kp σ (gbs (some i :: os) es' (r.set i .gone)) (v :: vs) (z :: ds) H' → Q v H') fun cn ns es' => Ex cn ns (gbs (some i :: os) es' (r.set i .gone))) :
    spD X.K T S (.ref a :: us) H Q fun cls d H' => ∃ ρ vs ds c ns, World X.K G kp σ ρ vs ds H' ∧ XIs X.K c ns cls d H' ∧ Ex c ns ρ := by
  obtain ⟨pa, ds', e, q⟩ := isIns_of q
  obtain ⟨v0, e0, W1⟩ := W.take (getD_ins e) ins_there.ne
  rw [ha] at e0
  cases e0
  exact sp_of (ρ := r) (us := .ref a :: us) (es := .ins pa c ks ds' :: es) (os := some i :: os) hS hT (by simpa using l) W1 ⟨fun _ z => by cases z; exact ha, hl⟩ q
theorem de_meth {pl : Sem Bool} (M : MtC X.prog X.w X.K X.mg X.base T j c m ps S) (hS : SMono S) (hr : Room k X.A) (hgd : X.A.guards = some []) (hx : TakesD X G kp Ex) (hT : G.T = T) (hj : j ≤ k) (hm : m ∉ ks) (hi : X.N[i]? = some x) (hv : Vis X.env.scope x) (h : nm x = true) (ha : DBs X G kp (e :: es) wr)
    (hst : starEach (e :: es) X.env = (false, eval e X.env) :: starEach es X.env := by rfl) (hpl : (backTo pos (starEach es X.env)).any (·.1) = false := by rfl)
    (ht : eval (.Call (.Attribute (.Name x p) m apos) (e :: es) [] pos) X.env = (do
      let ov ← eval (.Name x p) X.env
      standAt apos.atName
      let (f, first) ← holding [ov] (getMethod ov m pl)
      callWith pos f first (backTo pos (starEach (e :: es) X.env)) (backToKw pos (keywordEach [] X.env))) := by rfl) :
    DE X G kp (.Call (.Attribute (.Name x p) m apos) (e :: es) [] pos) (wMeth i c ks S Ex wr) := by
  obtain ⟨f, fd, F, Cl, Me, hb⟩ := M.ex
  refine ⟨fun ρ P P' hp q => wMeth_monoX hS ha.mono (fun _ _ _ z => z) hp q, ⟨fun pins s σ H Q I ⟨ρ, vs, ds, W, q1, q⟩ => ?_⟩⟩
  obtain ⟨pa, ds', e1, _⟩ := isIns_of q1
  obtain ⟨a, dx, gs, h1, h2, h3⟩ := W.atIns (getD_ins e1)
  refine PySem.W.methodCall_KW (pl := pl) (thn ((pe_var hi hv (nm1 h) (nm2 h)).run pins s σ H (fun v H1 => v = .ref a ∧ H1 = H) I ⟨.ref a, h1, rfl, rfl⟩) fun u s1 ⟨v, H1, I1, rx, ev, eh⟩ => ?_) ht
  subst ev eh
  obtain rfl : u = Value.ref a := rx
  refine getmeth_ok I1 h2 Cl Me (lookup_no (by rw [h3]; exact hm)) ?_
  refine PySem.W.callWith_K (first := [.ref a]) (h₀ := X.base) I.ok.mod.kin Me.kp (thn (ha.run.run pos pins s1 σ H1 (fun us H2 => spD X.K T S (.ref a :: us) H2 Q fun cls d H' => ∃ ρ vs ds c ns, World X.K G kp σ ρ vs ds H' ∧ XIs X.K c ns cls d H' ∧ Ex c ns ρ) I1 ⟨ρ, vs, ds, W, ha.mono _ _ _ (fun es os r z us H' l W' hl => wMeth_sp (ρ := ρ) hS hT l W' hl h1 z) q⟩) fun us s2 ⟨vs, H2, I2, r, q2⟩ => ⟨I2.kIn, ?_⟩) hst hpl
  exact run_G (us := .ref a :: us) (vs := .ref a :: vs) (F.mono hj) hr hgd hb (passAt (W := fun cls d σ H => ∃ ρ vs ds c ns, World X.K G kp σ ρ vs ds H ∧ XIs X.K c ns cls d H ∧ Ex c ns ρ) hx σ) I2 (.cons rfl r) q2
theorem de_meth0 {pl : Sem Bool} (M : MtC X.prog X.w X.K X.mg X.base T j c m ps S) (hS : SMono S) (hr : Room k X.A) (hgd : X.A.guards = some []) (hx : TakesD X G kp Ex) (hT : G.T = T) (hj : j ≤ k) (hm : m ∉ ks) (hi : X.N[i]? = some x) (hv : Vis X.env.scope x) (h : nm x = true)
    (ht : eval (.Call (.Attribute (.Name x p) m apos) [] [] pos) X.env = (do
      let ov ← eval (.Name x p) X.env
      standAt apos.atName
      let (f, first) ← holding [ov] (getMethod ov m pl)
      callWith pos f first (backTo pos (starEach [] X.env)) (backToKw pos (keywordEach [] X.env))) := by rfl) :
    DE X G kp (.Call (.Attribute (.Name x p) m apos) [] [] pos) (wMeth i c ks S Ex wBn) := by
  obtain ⟨f, fd, F, Cl, Me, hb⟩ := M.ex
  refine ⟨fun ρ P P' hp q => wMeth_monoX hS (fun ρ P P' hp q => hp _ _ _ q) (fun _ _ _ z => z) hp q, ⟨fun pins s σ H Q I ⟨ρ, vs, ds, W, q1, q⟩ => ?_⟩⟩
  obtain ⟨pa, ds', e1, _⟩ := isIns_of q1
  obtain ⟨a, dx, gs, h1, h2, h3⟩ := W.atIns (getD_ins e1)
  refine PySem.W.methodCall_KW (pl := pl) (thn ((pe_var hi hv (nm1 h) (nm2 h)).run pins s σ H (fun v H1 => v = .ref a ∧ H1 = H) I ⟨.ref a, h1, rfl, rfl⟩) fun u s1 ⟨v, H1, I1, rx, ev, eh⟩ => ?_) ht
  subst ev eh
  obtain rfl : u = Value.ref a := rx
  refine getmeth_ok I1 h2 Cl Me (lookup_no (by rw [h3]; exact hm)) ?_
  have q2 := wMeth_sp (X := X) (G := G) (kp := kp) (T := T) (ρ := ρ) (us := []) (es := []) (os := []) hS hT rfl (by simpa using W) trivial h1 q
  exact PySem.W.callWith_K0 (first := [.ref a]) I1.kIn Me.kp (run_G (us := [.ref a]) (vs := [.ref a]) (F.mono hj) hr hgd hb (passAt (W := fun cls d σ H => ∃ ρ vs ds c ns, World X.K G kp σ ρ vs ds H ∧ XIs X.K c ns cls d H ∧ Ex c ns ρ) hx σ) I1 (.cons rfl .nil) q2)
/-- C(..) -/
def wMkV (c : Str) (S : SD) (Ex : XD) (wr : WBs) : WE := fun ρ Q => wr ρ fun es os r => ∀ a : Addr, S (.ins (some a) c [] [] :: es) (fun z es' => ∃ d es1, es' = d :: es1 ∧ z = .non ∧ Q d (gbs os es1 r)) fun cn ns es' => Ex cn ns (gbs (none :: os) es' r)
theorem wMkV_monoX {Ex Ex' : XD} {ρ : List D} {P P' : D → List D → Prop} (hS : SMono S) (mr : ∀ ρ P P', (∀ d o r, P d o r → P' d o r) → wr ρ P → wr ρ P') (h1 : ∀ c ns r, Ex c ns r → Ex' c ns r) (h2 : ∀ d r, P d r → P' d r) (q : wMkV c S Ex wr ρ P) : wMkV c S Ex' wr ρ P' :=
  mr _ _ _ (fun es os r z a => hS _ _ _ _ _ (fun _ _ ⟨d, es1, e1, e2, z⟩ => ⟨d, es1, e1, e2, h2 _ _ z⟩) (fun _ _ _ z => h1 _ _ _ z) (z a)) q
theorem sp_ofM {σ : Sl} {r : List D} {vs us : List V} {ds es : List D} {os : List (Option Nat)} {H : Hp} {v0 : V} {d0 : D} {Q : VK} (hS : SMono S) (hT : G.T = T) (l : us.length = es.length) (W : World X.K G kp σ r (v0 :: (us ++ vs)) (d0 :: (es ++ ds)) H) (hl : Lent σ us os)
    (q : S (d0 :: es) (fun z es' => ∃ d es1, es' = d :: es1 ∧ z = .non ∧ ∀ H', World X.K G kp σ (gbs os es1 r) (v0 :: vs) (d :: ds) H' → Q v0 H') fun c ns es' => Ex c ns (gbs (none :: os) es' r)) :
    spD X.K T S (v0 :: us) H (fun v H2 => v = .non ∧ Q v0 H2) fun cls d H' => ∃ ρ vs ds c ns, World X.K G kp σ ρ vs ds H' ∧ XIs X.K c ns cls d H' ∧ Ex c ns ρ := by
  subst hT
  obtain ⟨A, F, en, back⟩ := World.call (us := v0 :: us) (es := d0 :: es) W (by simpa using l)
  refine ⟨A, F, d0 :: es, en, hS _ _ _ _ _ (fun z es' ⟨d, es1, e1, e2, q⟩ v H' W' => ?a) (fun c ns es' q cls d H' W' hx => ⟨gbs (none :: os) es' r, vs, ds, c, ns, ?b, hx, q⟩) q⟩
  case a =>
    subst e1 e2
    refine ⟨W'.isNon, q H' ?_⟩
    have lz : (v :: v0 :: us).length = (D.non :: d :: es1).length := W'.lv
    have l' : us.length = es1.length := by simpa using lz
    have W2 : World X.K G kp σ r (v :: v0 :: us ++ vs) (.non :: d :: es1 ++ ds) H' := back (v :: v0 :: us) (.non :: d :: es1) H' lz W'
    have W3 : World X.K G kp σ r (v0 :: (us ++ vs)) (d :: (es1 ++ ds)) H' := World.drop W2
    exact World.gbs l' (World.tor W3 l') hl
  case b =>
    have l' : (v0 :: us).length = es'.length := W'.lv
    exact World.gbs (os := none :: os) l' (back (v0 :: us) es' H' l' W') ⟨(fun _ z => nomatch z), hl⟩
theorem de_mkV (M : MkI X.prog X.w X.K X.mg X.base T j c ps S) (hS : SMono S) (hr : Room k X.A) (hgd : X.A.guards = some []) (hx : TakesD X G kp Ex) (hT : G.T = T) (hj : j + 1 ≤ k) (hg : Gl X c) (h : nm c = true)
    (ha : DBs X G kp (e :: es) wr) (he : starEach (e :: es) X.env = (false, eval e X.env) :: starEach es X.env := by rfl) (hpl : (backTo pos (starEach es X.env)).any (·.1) = false := by rfl) :
    DE X G kp (.Call (.Name c p) (e :: es) [] pos) (wMkV c S Ex wr) := by
  obtain ⟨f, fd, F, hm, Mk, hb⟩ := M.ex
  refine ⟨fun ρ P P' hp q => wMkV_monoX hS ha.mono (fun _ _ _ z => z) hp q, ⟨fun pins s σ H Q I h' => ?_⟩⟩
  obtain ⟨ρ, vs, ds, W, q⟩ := h'
  refine wpAny_Call_Name_kw (ld_glob I hg hm ?_ (nm1 h))
  refine PySem.W.callWith_K (h₀ := X.base) I.ok.mod.kin Mk.kp (thn (ha.run.run pos pins s σ H (fun us H1 => ∀ x dx, H1 x = none → H1 dx = none → dx ≠ x → spD X.K T S (.ref x :: us) (upd (upd H1 dx (.own x)) x (.ins (He.ga X.K c) dx [])) (fun v H2 => v = .non ∧ Q (.ref x) H2)
    fun cls d H' => ∃ ρ vs ds c ns, World X.K G kp σ ρ vs ds H' ∧ XIs X.K c ns cls d H' ∧ Ex c ns ρ) I ⟨ρ, vs, ds, W, ha.mono _ _ _ (fun es os r z us H' l W' hl x dx h1 h2 h3 => ?_) q⟩) fun us s1 ⟨vs, H1, I1, r, q⟩ => ⟨I1.kIn, ?_⟩) he hpl
  · have W2 := (W'.laid (o := .own x) h2).newIns (p := x) (c := c) (dx := dx) (by rw [upd_ne (Ne.symm h3)]; exact h1)
    exact sp_ofM hS hT l W2 hl (hS _ _ _ _ _ (fun z' es' ⟨d, es1, e1, e2, q⟩ => ⟨d, es1, e1, e2, fun H3 W3 => q _ _ W3⟩) (fun _ _ _ z => z) (z x))
  · exact run_makeG Mk F (hr.mono hj) hgd hb (passAt (W := fun cls d σ H => ∃ ρ vs ds c ns, World X.K G kp σ ρ vs ds H ∧ XIs X.K c ns cls d H ∧ Ex c ns ρ) hx σ) I1 r q
end
section
variable {X : Cx} {G : Gm} {kp : List Bool} {T : List (Addr × Str)} {ok : Str → List Int → Option D} {x y c m : Str} {params : Arguments} {e : Expr} {es : List Expr} {scope : Scope} {S : SD} {wr : WBs} {ps ks : List Str} {i j k : Nat} {p p1 p2 p3 lpos pos apos : Pos}
/-- said(lambda: o.m(..)) and the like: a body by its reading -/
theorem de_saidB {body : Expr} {wl : XD → WE} (C : SaidM X.prog X.w X.K X.mg X.base T x ok) (M : LamM X.base X.mg T X.env.code X.env.qual) (room : Room (k + 2) X.A) (quiet : X.A.guards = some []) (hT : G.T = T) (hn : G.n = X.N.length)
    (hg : Gl X x) (hx : nm x = true) (lam : LamX.LamS X.env.scope scope) (noDef : defaultsOf params X.env = ([], []))
    (none_ : ∀ (q : Str) (cl : List (Str × Addr)) (pm cv ctv : Value), bindArgs (PySem.W.kla_fn "<lambda>" q params body scope cl pm cv ctv) ⟨[], []⟩ = pure [])
    (mono : ∀ Ex Ex' ρ P P', (∀ c ns r, Ex c ns r → Ex' c ns r) → (∀ d r, P d r → P' d r) → wl Ex ρ P → wl Ex' ρ P')
    (run : ∀ (A : Around) (outer : List Env) (s : Shared) (H : Hp) (E : XK) (f c' : Addr) (G1 : Gm) (Ex : XD), A.guards = some [] → Room k (LamX.lamCx X A outer s H E scope f c').A → G1.T = T → G1.n = X.N.length → TakesD (LamX.lamCx X A outer s H E scope f c') G1 (List.replicate G.n true) Ex →
      DE (LamX.lamCx X A outer s H E scope f c') G1 (List.replicate G.n true) body (wl Ex)) :
    DE X G kp (.Call (.Name x p) [.Lambda params body scope lpos] [] pos) (wSaidM ok wl) := by
  obtain ⟨g, fd, pg, bg, sg, kws, Ng, a, Fk, hm, hb, Sg, first, seen, n1, n2, gives⟩ := C.ex
  obtain ⟨c, P, code, TB, tIn, tOne⟩ := M.ex
  exact de_saidM (T := T) (p := p) (lpos := lpos) (pos := pos) hg hm Fk hb Sg first seen (fun cdg => gives X rfl rfl rfl rfl rfl (by have := room.un; omega) (by have := room.dp; omega) cdg _) hT hn TB code tIn tOne room quiet lam noDef none_ mono (fun A outer s H E f c' G1 Ex gd rm e1 e2 tk => run A outer s H E f c' G1 Ex gd rm e1 (e2.trans hn) tk) (nm1 hx) n1 n2
theorem de_saidMt {pl : Around → List Env → Shared → Hp → XK → Addr → Addr → Sem Bool} (C : SaidM X.prog X.w X.K X.mg X.base T x ok) (M : LamM X.base X.mg T X.env.code X.env.qual) (F : MtC X.prog X.w X.K X.mg X.base T j c m ps S) (hS : SMono S) (room : Room (k + 2) X.A) (hj : j ≤ k) (quiet : X.A.guards = some []) (hT : G.T = T) (hn : G.n = X.N.length)
    (hg : Gl X x) (hx : nm x = true) (lam : LamX.LamS X.env.scope scope) (noDef : defaultsOf params X.env = ([], []))
    (none_ : ∀ (q : Str) (cl : List (Str × Addr)) (pm cv ctv : Value), bindArgs (PySem.W.kla_fn "<lambda>" q params (.Call (.Attribute (.Name y p3) m apos) (e :: es) [] p2) scope cl pm cv ctv) ⟨[], []⟩ = pure [])
    (hm : m ∉ ks) (hi : X.N[i]? = some y) (hv : ∀ (A : Around) (outer : List Env) (s : Shared) (H : Hp) (E : XK) (f c' : Addr), Vis (LamX.lamCx X A outer s H E scope f c').env.scope y) (hy : nm y = true)
    (args : ∀ (A : Around) (outer : List Env) (s : Shared) (H : Hp) (E : XK) (f c' : Addr) (G1 : Gm), G1.n = X.N.length → DBs (LamX.lamCx X A outer s H E scope f c') G1 (List.replicate G.n true) (e :: es) wr)
    (he : ∀ (A : Around) (outer : List Env) (s : Shared) (H : Hp) (E : XK) (f c' : Addr), starEach (e :: es) (LamX.lamCx X A outer s H E scope f c').env = (false, eval e (LamX.lamCx X A outer s H E scope f c').env) :: starEach es (LamX.lamCx X A outer s H E scope f c').env := by intros; rfl)
    (hpl : ∀ (A : Around) (outer : List Env) (s : Shared) (H : Hp) (E : XK) (f c' : Addr), (backTo p2 (starEach es (LamX.lamCx X A outer s H E scope f c').env)).any (·.1) = false := by intros; rfl)
    (ht : ∀ (A : Around) (outer : List Env) (s : Shared) (H : Hp) (E : XK) (f c' : Addr), eval (.Call (.Attribute (.Name y p3) m apos) (e :: es) [] p2) (LamX.lamCx X A outer s H E scope f c').env = (do
      let ov ← eval (.Name y p3) (LamX.lamCx X A outer s H E scope f c').env
      standAt apos.atName
      let (f1, first) ← holding [ov] (getMethod ov m (pl A outer s H E f c'))
      callWith p2 f1 first (backTo p2 (starEach (e :: es) (LamX.lamCx X A outer s H E scope f c').env)) (backToKw p2 (keywordEach [] (LamX.lamCx X A outer s H E scope f c').env))) := by intros; rfl) :
    DE X G kp (.Call (.Name x p) [.Lambda params (.Call (.Attribute (.Name y p3) m apos) (e :: es) [] p2) scope lpos] [] pos) (wSaidM ok fun Ex => wMeth i c ks S Ex wr) :=
  de_saidB C M room quiet hT hn hg hx lam noDef none_ (fun Ex Ex' ρ P P' h1 h2 q => wMeth_monoX hS (args X.A X.outer X.s_0 X.H_0 C8.E0 0 0 G hn).mono h1 h2 q) fun A outer s H E f c' G1 Ex gd rm e1 e2 tk =>
    de_meth (X := LamX.lamCx X A outer s H E scope f c') F hS rm gd tk e1 hj hm hi (hv A outer s H E f c') hy (args A outer s H E f c' G1 e2) (he A outer s H E f c') (hpl A outer s H E f c') (ht A outer s H E f c')
theorem de_saidMt0 {pl : Around → List Env → Shared → Hp → XK → Addr → Addr → Sem Bool} (C : SaidM X.prog X.w X.K X.mg X.base T x ok) (M : LamM X.base X.mg T X.env.code X.env.qual) (F : MtC X.prog X.w X.K X.mg X.base T j c m ps S) (hS : SMono S) (room : Room (k + 2) X.A) (hj : j ≤ k) (quiet : X.A.guards = some []) (hT : G.T = T) (hn : G.n = X.N.length)
    (hg : Gl X x) (hx : nm x = true) (lam : LamX.LamS X.env.scope scope) (noDef : defaultsOf params X.env = ([], []))
    (none_ : ∀ (q : Str) (cl : List (Str × Addr)) (pm cv ctv : Value), bindArgs (PySem.W.kla_fn "<lambda>" q params (.Call (.Attribute (.Name y p3) m apos) [] [] p2) scope cl pm cv ctv) ⟨[], []⟩ = pure [])
    (hm : m ∉ ks) (hi : X.N[i]? = some y) (hv : ∀ (A : Around) (outer : List Env) (s : Shared) (H : Hp) (E : XK) (f c' : Addr), Vis (LamX.lamCx X A outer s H E scope f c').env.scope y) (hy : nm y = true)
    (ht : ∀ (A : Around) (outer : List Env) (s : Shared) (H : Hp) (E : XK) (f c' : Addr), eval (.Call (.Attribute (.Name y p3) m apos) [] [] p2) (LamX.lamCx X A outer s H E scope f c').env = (do
      let ov ← eval (.Name y p3) (LamX.lamCx X A outer s H E scope f c').env
      standAt apos.atName
      let (f1, first) ← holding [ov] (getMethod ov m (pl A outer s H E f c'))
      callWith p2 f1 first (backTo p2 (starEach [] (LamX.lamCx X A outer s H E scope f c').env)) (backToKw p2 (keywordEach [] (LamX.lamCx X A outer s H E scope f c').env))) := by intros; rfl) :
    DE X G kp (.Call (.Name x p) [.Lambda params (.Call (.Attribute (.Name y p3) m apos) [] [] p2) scope lpos] [] pos) (wSaidM ok fun Ex => wMeth i c ks S Ex wBn) :=
  de_saidB C M room quiet hT hn hg hx lam noDef none_ (fun Ex Ex' ρ P P' h1 h2 q => wMeth_monoX hS (fun ρ P P' hp q => hp _ _ _ q) h1 h2 q) fun A outer s H E f c' G1 Ex gd rm e1 e2 tk =>
    de_meth0 (X := LamX.lamCx X A outer s H E scope f c') F hS rm gd tk e1 hj hm hi (hv A outer s H E f c') hy (ht A outer s H E f c')
theorem de_saidMk (C : SaidM X.prog X.w X.K X.mg X.base T x ok) (M : LamM X.base X.mg T X.env.code X.env.qual) (F : MkI X.prog X.w X.K X.mg X.base T j c ps S) (hS : SMono S) (room : Room (k + 2) X.A) (hj : j + 1 ≤ k) (quiet : X.A.guards = some []) (hT : G.T = T) (hn : G.n = X.N.length)
    (hg : Gl X x) (hx : nm x = true) (lam : LamX.LamS X.env.scope scope) (noDef : defaultsOf params X.env = ([], []))
    (none_ : ∀ (q : Str) (cl : List (Str × Addr)) (pm cv ctv : Value), bindArgs (PySem.W.kla_fn "<lambda>" q params (.Call (.Name c p1) (e :: es) [] p2) scope cl pm cv ctv) ⟨[], []⟩ = pure [])
    (hgy : ∀ (A : Around) (outer : List Env) (s : Shared) (H : Hp) (E : XK) (f c' : Addr), Gl (LamX.lamCx X A outer s H E scope f c') c) (hy : nm c = true)
    (args : ∀ (A : Around) (outer : List Env) (s : Shared) (H : Hp) (E : XK) (f c' : Addr) (G1 : Gm), G1.n = X.N.length → DBs (LamX.lamCx X A outer s H E scope f c') G1 (List.replicate G.n true) (e :: es) wr)
    (he : ∀ (A : Around) (outer : List Env) (s : Shared) (H : Hp) (E : XK) (f c' : Addr), starEach (e :: es) (LamX.lamCx X A outer s H E scope f c').env = (false, eval e (LamX.lamCx X A outer s H E scope f c').env) :: starEach es (LamX.lamCx X A outer s H E scope f c').env := by intros; rfl)
    (hpl : ∀ (A : Around) (outer : List Env) (s : Shared) (H : Hp) (E : XK) (f c' : Addr), (backTo p2 (starEach es (LamX.lamCx X A outer s H E scope f c').env)).any (·.1) = false := by intros; rfl) :
    DE X G kp (.Call (.Name x p) [.Lambda params (.Call (.Name c p1) (e :: es) [] p2) scope lpos] [] pos) (wSaidM ok fun Ex => wMkV c S Ex wr) :=
  de_saidB C M room quiet hT hn hg hx lam noDef none_ (fun Ex Ex' ρ P P' h1 h2 q => wMkV_monoX hS (args X.A X.outer X.s_0 X.H_0 C8.E0 0 0 G hn).mono h1 h2 q) fun A outer s H E f c' G1 Ex gd rm e1 e2 tk =>
    de_mkV (X := LamX.lamCx X A outer s H E scope f c') F hS rm gd tk e1 hj (hgy A outer s H E f c') hy (args A outer s H E f c' G1 e2) (he A outer s H E f c') (hpl A outer s H E f c')
end
end Bd
/-! K73: the text. -/
namespace K73
open PySem PySem.Spec PyProof.Rows L2 Bd
def top (i : Nat) : Stmt := PySem.Challenge.pw_bedlands_k73_registers_refuse.main.body.getD i (.Pass ⟨0, 0, 0, 0⟩)
abbrev s_law_cell : Stmt := top 100
abbrev N_law_cell : List Str := ["_law_script", "_law_k"]
theorem sc_law_cell : FnScope N_law_cell ["_law_script", "_law_k"] (defScope s_law_cell) := ⟨rfl, rfl, rfl, by decide +kernel, rfl, by decide +kernel, by decide +kernel⟩
theorem l_law_cell_0 : (defScope s_law_cell).names.lookup ("_law_script" : Str) = some NameKind.local := by decide +kernel
theorem l_law_cell_1 : (defScope s_law_cell).names.lookup ("_law_k" : Str) = some NameKind.local := by decide +kernel
abbrev s_law_mix : Stmt := top 101
abbrev N_law_mix : List Str := ["_law_cell_here", "_law_k", "_law_some", "_law_stir"]
theorem sc_law_mix : FnScope N_law_mix ["_law_cell_here", "_law_k"] (defScope s_law_mix) := ⟨rfl, rfl, rfl, by decide +kernel, rfl, by decide +kernel, by decide +kernel⟩
theorem l_law_mix_0 : (defScope s_law_mix).names.lookup ("_law_cell_here" : Str) = some NameKind.local := by decide +kernel
theorem l_law_mix_1 : (defScope s_law_mix).names.lookup ("_law_k" : Str) = some NameKind.local := by decide +kernel
theorem l_law_mix_2 : (defScope s_law_mix).names.lookup ("_law_some" : Str) = some NameKind.local := by decide +kernel
theorem l_law_mix_3 : (defScope s_law_mix).names.lookup ("_law_stir" : Str) = some NameKind.local := by decide +kernel
abbrev s_law_box : Stmt := top 102
abbrev N_law_box : List Str := ["_law_script", "_law_k", "_law_lap", "_law_cell_here", "_law_number", "_law_j"]
theorem sc_law_box : FnScope N_law_box ["_law_script", "_law_k", "_law_lap"] (defScope s_law_box) := ⟨rfl, rfl, rfl, by decide +kernel, rfl, by decide +kernel, by decide +kernel⟩
theorem l_law_box_0 : (defScope s_law_box).names.lookup ("_law_script" : Str) = some NameKind.local := by decide +kernel
theorem l_law_box_1 : (defScope s_law_box).names.lookup ("_law_k" : Str) = some NameKind.local := by decide +kernel
theorem l_law_box_2 : (defScope s_law_box).names.lookup ("_law_lap" : Str) = some NameKind.local := by decide +kernel
theorem l_law_box_3 : (defScope s_law_box).names.lookup ("_law_cell_here" : Str) = some NameKind.local := by decide +kernel
theorem l_law_box_4 : (defScope s_law_box).names.lookup ("_law_number" : Str) = some NameKind.local := by decide +kernel
theorem l_law_box_5 : (defScope s_law_box).names.lookup ("_law_j" : Str) = some NameKind.local := by decide +kernel
abbrev s_is_whole : Stmt := top 28
abbrev N_is_whole : List Str := ["thing", "low", "high"]
theorem sc_is_whole : FnScope N_is_whole ["thing", "low", "high"] (defScope s_is_whole) := ⟨rfl, rfl, rfl, by decide +kernel, rfl, by decide +kernel, by decide +kernel⟩
theorem l_is_whole_0 : (defScope s_is_whole).names.lookup ("thing" : Str) = some NameKind.local := by decide +kernel
theorem l_is_whole_1 : (defScope s_is_whole).names.lookup ("low" : Str) = some NameKind.local := by decide +kernel
theorem l_is_whole_2 : (defScope s_is_whole).names.lookup ("high" : Str) = some NameKind.local := by decide +kernel
abbrev s_is_field : Stmt := top 30
abbrev N_is_field : List Str := ["thing", "wide", "cells", "number"]
theorem sc_is_field : FnScope N_is_field ["thing"] (defScope s_is_field) := ⟨rfl, rfl, rfl, by decide +kernel, rfl, by decide +kernel, by decide +kernel⟩
theorem l_is_field_0 : (defScope s_is_field).names.lookup ("thing" : Str) = some NameKind.local := by decide +kernel
theorem l_is_field_1 : (defScope s_is_field).names.lookup ("wide" : Str) = some NameKind.local := by decide +kernel
theorem l_is_field_2 : (defScope s_is_field).names.lookup ("cells" : Str) = some NameKind.local := by decide +kernel
abbrev s_need_field : Stmt := top 31
abbrev N_need_field : List Str := ["field"]
theorem sc_need_field : FnScope N_need_field ["field"] (defScope s_need_field) := ⟨rfl, rfl, rfl, by decide +kernel, rfl, by decide +kernel, by decide +kernel⟩
theorem l_need_field_0 : (defScope s_need_field).names.lookup ("field" : Str) = some NameKind.local := by decide +kernel
abbrev s_need_pace : Stmt := top 48
abbrev N_need_pace : List Str := ["pace"]
theorem sc_need_pace : FnScope N_need_pace ["pace"] (defScope s_need_pace) := ⟨rfl, rfl, rfl, by decide +kernel, rfl, by decide +kernel, by decide +kernel⟩
theorem l_need_pace_0 : (defScope s_need_pace).names.lookup ("pace" : Str) = some NameKind.local := by decide +kernel
abbrev s_Register__init : Stmt := inClass (top 98) 0
abbrev N_Register__init : List Str := ["self", "field", "pace"]
theorem sc_Register__init : FnScope N_Register__init ["self", "field", "pace"] (defScope s_Register__init) := ⟨rfl, rfl, rfl, by decide +kernel, rfl, by decide +kernel, by decide +kernel⟩
theorem l_Register__init_0 : (defScope s_Register__init).names.lookup ("self" : Str) = some NameKind.local := by decide +kernel
theorem l_Register__init_1 : (defScope s_Register__init).names.lookup ("field" : Str) = some NameKind.local := by decide +kernel
theorem l_Register__init_2 : (defScope s_Register__init).names.lookup ("pace" : Str) = some NameKind.local := by decide +kernel
abbrev s_Register_case_now : Stmt := inClass (top 98) 7
abbrev N_Register_case_now : List Str := ["self", "tellings", "marks"]
theorem sc_Register_case_now : FnScope N_Register_case_now ["self"] (defScope s_Register_case_now) := ⟨rfl, rfl, rfl, by decide +kernel, rfl, by decide +kernel, by decide +kernel⟩
theorem l_Register_case_now_0 : (defScope s_Register_case_now).names.lookup ("self" : Str) = some NameKind.local := by decide +kernel
theorem l_Register_case_now_1 : (defScope s_Register_case_now).names.lookup ("tellings" : Str) = some NameKind.local := by decide +kernel
theorem l_Register_case_now_2 : (defScope s_Register_case_now).names.lookup ("marks" : Str) = some NameKind.local := by decide +kernel
abbrev s_Register_undo : Stmt := inClass (top 98) 6
abbrev N_Register_undo : List Str := ["self"]
theorem sc_Register_undo : FnScope N_Register_undo ["self"] (defScope s_Register_undo) := ⟨rfl, rfl, rfl, by decide +kernel, rfl, by decide +kernel, by decide +kernel⟩
theorem l_Register_undo_0 : (defScope s_Register_undo).names.lookup ("self" : Str) = some NameKind.local := by decide +kernel
abbrev s_is_cell : Stmt := top 32
abbrev N_is_cell : List Str := ["field", "thing"]
theorem sc_is_cell : FnScope N_is_cell ["field", "thing"] (defScope s_is_cell) := ⟨rfl, rfl, rfl, by decide +kernel, rfl, by decide +kernel, by decide +kernel⟩
theorem l_is_cell_0 : (defScope s_is_cell).names.lookup ("field" : Str) = some NameKind.local := by decide +kernel
theorem l_is_cell_1 : (defScope s_is_cell).names.lookup ("thing" : Str) = some NameKind.local := by decide +kernel
abbrev s_is_mark : Stmt := top 58
abbrev N_is_mark : List Str := ["field", "thing"]
theorem sc_is_mark : FnScope N_is_mark ["field", "thing"] (defScope s_is_mark) := ⟨rfl, rfl, rfl, by decide +kernel, rfl, by decide +kernel, by decide +kernel⟩
theorem l_is_mark_0 : (defScope s_is_mark).names.lookup ("field" : Str) = some NameKind.local := by decide +kernel
theorem l_is_mark_1 : (defScope s_is_mark).names.lookup ("thing" : Str) = some NameKind.local := by decide +kernel
abbrev s_is_rising : Stmt := top 29
abbrev N_is_rising : List Str := ["things", "one", "other"]
theorem sc_is_rising : FnScope N_is_rising ["things"] (defScope s_is_rising) := ⟨rfl, rfl, rfl, by decide +kernel, rfl, by decide +kernel, by decide +kernel⟩
theorem l_is_rising_0 : (defScope s_is_rising).names.lookup ("things" : Str) = some NameKind.local := by decide +kernel
abbrev s_are_cells : Stmt := top 36
abbrev N_are_cells : List Str := ["field", "thing", "cell"]
theorem sc_are_cells : FnScope N_are_cells ["field", "thing"] (defScope s_are_cells) := ⟨rfl, rfl, rfl, by decide +kernel, rfl, by decide +kernel, by decide +kernel⟩
theorem l_are_cells_1 : (defScope s_are_cells).names.lookup ("thing" : Str) = some NameKind.local := by decide +kernel
abbrev s_change_in : Stmt := top 45
abbrev N_change_in : List Str := ["field", "thing"]
theorem sc_change_in : FnScope N_change_in ["field", "thing"] (defScope s_change_in) := ⟨rfl, rfl, rfl, by decide +kernel, rfl, by decide +kernel, by decide +kernel⟩
theorem l_change_in_0 : (defScope s_change_in).names.lookup ("field" : Str) = some NameKind.local := by decide +kernel
theorem l_change_in_1 : (defScope s_change_in).names.lookup ("thing" : Str) = some NameKind.local := by decide +kernel
abbrev s_is_telling : Stmt := top 57
abbrev N_is_telling : List Str := ["field", "thing"]
theorem sc_is_telling : FnScope N_is_telling ["field", "thing"] (defScope s_is_telling) := ⟨rfl, rfl, rfl, by decide +kernel, rfl, by decide +kernel, by decide +kernel⟩
theorem l_is_telling_0 : (defScope s_is_telling).names.lookup ("field" : Str) = some NameKind.local := by decide +kernel
theorem l_is_telling_1 : (defScope s_is_telling).names.lookup ("thing" : Str) = some NameKind.local := by decide +kernel
abbrev s_is_case : Stmt := top 59
abbrev N_is_case : List Str := ["thing", "field", "pace", "tellings", "marks", "one"]
theorem sc_is_case : FnScope N_is_case ["thing"] (defScope s_is_case) := ⟨rfl, rfl, rfl, by decide +kernel, rfl, by decide +kernel, by decide +kernel⟩
theorem l_is_case_0 : (defScope s_is_case).names.lookup ("thing" : Str) = some NameKind.local := by decide +kernel
theorem l_is_case_1 : (defScope s_is_case).names.lookup ("field" : Str) = some NameKind.cell := by decide +kernel
theorem l_is_case_2 : (defScope s_is_case).names.lookup ("pace" : Str) = some NameKind.local := by decide +kernel
theorem l_is_case_3 : (defScope s_is_case).names.lookup ("tellings" : Str) = some NameKind.local := by decide +kernel
theorem l_is_case_4 : (defScope s_is_case).names.lookup ("marks" : Str) = some NameKind.local := by decide +kernel
abbrev s_need_case : Stmt := top 60
abbrev N_need_case : List Str := ["case"]
theorem sc_need_case : FnScope N_need_case ["case"] (defScope s_need_case) := ⟨rfl, rfl, rfl, by decide +kernel, rfl, by decide +kernel, by decide +kernel⟩
theorem l_need_case_0 : (defScope s_need_case).names.lookup ("case" : Str) = some NameKind.local := by decide +kernel
abbrev s_need_cell : Stmt := top 33
abbrev N_need_cell : List Str := ["field", "cell"]
theorem sc_need_cell : FnScope N_need_cell ["field", "cell"] (defScope s_need_cell) := ⟨rfl, rfl, rfl, by decide +kernel, rfl, by decide +kernel, by decide +kernel⟩
theorem l_need_cell_0 : (defScope s_need_cell).names.lookup ("field" : Str) = some NameKind.local := by decide +kernel
theorem l_need_cell_1 : (defScope s_need_cell).names.lookup ("cell" : Str) = some NameKind.local := by decide +kernel
abbrev s_need_day : Stmt := top 83
abbrev N_need_day : List Str := ["day"]
theorem sc_need_day : FnScope N_need_day ["day"] (defScope s_need_day) := ⟨rfl, rfl, rfl, by decide +kernel, rfl, by decide +kernel, by decide +kernel⟩
theorem l_need_day_0 : (defScope s_need_day).names.lookup ("day" : Str) = some NameKind.local := by decide +kernel
abbrev s_hangs : Stmt := top 93
abbrev N_hangs : List Str := ["case", "day", "cell", "some", "found", "place", "number", "choice"]
theorem sc_hangs : FnScope N_hangs ["case", "day", "cell"] (defScope s_hangs) := ⟨rfl, rfl, rfl, by decide +kernel, rfl, by decide +kernel, by decide +kernel⟩
theorem l_hangs_0 : (defScope s_hangs).names.lookup ("case" : Str) = some NameKind.local := by decide +kernel
theorem l_hangs_1 : (defScope s_hangs).names.lookup ("day" : Str) = some NameKind.local := by decide +kernel
theorem l_hangs_2 : (defScope s_hangs).names.lookup ("cell" : Str) = some NameKind.cell := by decide +kernel
abbrev s_Register_hangs_now : Stmt := inClass (top 98) 10
abbrev N_Register_hangs_now : List Str := ["self", "day", "cell"]
theorem sc_Register_hangs_now : FnScope N_Register_hangs_now ["self", "day", "cell"] (defScope s_Register_hangs_now) := ⟨rfl, rfl, rfl, by decide +kernel, rfl, by decide +kernel, by decide +kernel⟩
theorem l_Register_hangs_now_0 : (defScope s_Register_hangs_now).names.lookup ("self" : Str) = some NameKind.local := by decide +kernel
theorem l_Register_hangs_now_1 : (defScope s_Register_hangs_now).names.lookup ("day" : Str) = some NameKind.local := by decide +kernel
theorem l_Register_hangs_now_2 : (defScope s_Register_hangs_now).names.lookup ("cell" : Str) = some NameKind.local := by decide +kernel
abbrev s_holders : Stmt := top 92
abbrev N_holders : List Str := ["case", "day", "some", "cell", "field"]
theorem sc_holders : FnScope N_holders ["case", "day"] (defScope s_holders) := ⟨rfl, rfl, rfl, by decide +kernel, rfl, by decide +kernel, by decide +kernel⟩
theorem l_holders_0 : (defScope s_holders).names.lookup ("case" : Str) = some NameKind.local := by decide +kernel
theorem l_holders_1 : (defScope s_holders).names.lookup ("day" : Str) = some NameKind.local := by decide +kernel
abbrev s_Register_holders_now : Stmt := inClass (top 98) 9
abbrev N_Register_holders_now : List Str := ["self", "day"]
theorem sc_Register_holders_now : FnScope N_Register_holders_now ["self", "day"] (defScope s_Register_holders_now) := ⟨rfl, rfl, rfl, by decide +kernel, rfl, by decide +kernel, by decide +kernel⟩
theorem l_Register_holders_now_0 : (defScope s_Register_holders_now).names.lookup ("self" : Str) = some NameKind.local := by decide +kernel
theorem l_Register_holders_now_1 : (defScope s_Register_holders_now).names.lookup ("day" : Str) = some NameKind.local := by decide +kernel
abbrev s_TooMany__init : Stmt := inClass (top 22) 0
abbrev N_TooMany__init : List Str := ["self", "many", "most"]
theorem sc_TooMany__init : FnScope N_TooMany__init ["self", "many", "most"] (defScope s_TooMany__init) := ⟨rfl, rfl, rfl, by decide +kernel, rfl, by decide +kernel, by decide +kernel⟩
theorem l_TooMany__init_0 : (defScope s_TooMany__init).names.lookup ("self" : Str) = some NameKind.local := by decide +kernel
theorem l_TooMany__init_1 : (defScope s_TooMany__init).names.lookup ("many" : Str) = some NameKind.local := by decide +kernel
theorem l_TooMany__init_2 : (defScope s_TooMany__init).names.lookup ("most" : Str) = some NameKind.local := by decide +kernel
abbrev s_law_which : Stmt := top 106
abbrev N_law_which : List Str := ["_law_e", "_law_marks", "_law_names"]
theorem sc_law_which : FnScope N_law_which ["_law_e"] (defScope s_law_which) := ⟨rfl, rfl, rfl, by decide +kernel, rfl, by decide +kernel, by decide +kernel⟩
theorem l_law_which_0 : (defScope s_law_which).names.lookup ("_law_e" : Str) = some NameKind.local := by decide +kernel
theorem l_law_which_1 : (defScope s_law_which).names.lookup ("_law_marks" : Str) = some NameKind.local := by decide +kernel
theorem l_law_which_2 : (defScope s_law_which).names.lookup ("_law_names" : Str) = some NameKind.local := by decide +kernel
abbrev s_law_said : Stmt := top 107
abbrev N_law_said : List Str := ["_law_call", "_law_e"]
theorem sc_law_said : FnScope N_law_said ["_law_call"] (defScope s_law_said) := ⟨rfl, rfl, rfl, by decide +kernel, rfl, by decide +kernel, by decide +kernel⟩
theorem l_law_said_0 : (defScope s_law_said).names.lookup ("_law_call" : Str) = some NameKind.local := by decide +kernel
theorem l_law_said_1 : (defScope s_law_said).names.lookup ("_law_e" : Str) = some NameKind.local := by decide +kernel
abbrev s_law_asked_right : Stmt := top 110
abbrev N_law_asked_right : List Str := ["_law_office", "_law_field_here", "_law_bad", "_law_calls"]
theorem sc_law_asked_right : FnScope N_law_asked_right ["_law_office", "_law_field_here", "_law_bad"] (defScope s_law_asked_right) := ⟨rfl, rfl, rfl, by decide +kernel, rfl, by decide +kernel, by decide +kernel⟩
theorem l_law_asked_right_3 : (defScope s_law_asked_right).names.lookup ("_law_calls" : Str) = some NameKind.local := by decide +kernel
abbrev s_law_take : Stmt := top 103
abbrev N_law_take : List Str := ["_law_box_here", "_law_count", "_law_left", "_law_digit"]
theorem sc_law_take : FnScope N_law_take ["_law_box_here", "_law_count"] (defScope s_law_take) := ⟨rfl, rfl, rfl, by decide +kernel, rfl, by decide +kernel, by decide +kernel⟩
theorem l_law_take_0 : (defScope s_law_take).names.lookup ("_law_box_here" : Str) = some NameKind.local := by decide +kernel
theorem l_law_take_1 : (defScope s_law_take).names.lookup ("_law_count" : Str) = some NameKind.local := by decide +kernel
theorem l_law_take_2 : (defScope s_law_take).names.lookup ("_law_left" : Str) = some NameKind.local := by decide +kernel
theorem l_law_take_3 : (defScope s_law_take).names.lookup ("_law_digit" : Str) = some NameKind.local := by decide +kernel
abbrev s_law_field : Stmt := top 104
abbrev N_law_field : List Str := ["_law_box_here", "_law_most", "_law_wide", "_law_high", "_law_some", "_law_way", "_law_middle", "_law_cells", "_law_cell_here", "_law_row", "_law_side", "_law_number", "_law_turn"]
theorem sc_law_field : FnScope N_law_field ["_law_box_here", "_law_most"] (defScope s_law_field) := ⟨rfl, rfl, rfl, by decide +kernel, rfl, by decide +kernel, by decide +kernel⟩
theorem l_law_field_0 : (defScope s_law_field).names.lookup ("_law_box_here" : Str) = some NameKind.cell := by decide +kernel
theorem l_law_field_1 : (defScope s_law_field).names.lookup ("_law_most" : Str) = some NameKind.local := by decide +kernel
theorem l_law_field_2 : (defScope s_law_field).names.lookup ("_law_wide" : Str) = some NameKind.local := by decide +kernel
theorem l_law_field_3 : (defScope s_law_field).names.lookup ("_law_high" : Str) = some NameKind.local := by decide +kernel
theorem l_law_field_4 : (defScope s_law_field).names.lookup ("_law_some" : Str) = some NameKind.local := by decide +kernel
theorem l_law_field_5 : (defScope s_law_field).names.lookup ("_law_way" : Str) = some NameKind.local := by decide +kernel
theorem l_law_field_6 : (defScope s_law_field).names.lookup ("_law_middle" : Str) = some NameKind.local := by decide +kernel
theorem l_law_field_7 : (defScope s_law_field).names.lookup ("_law_cells" : Str) = some NameKind.local := by decide +kernel
theorem l_law_field_8 : (defScope s_law_field).names.lookup ("_law_cell_here" : Str) = some NameKind.local := by decide +kernel
theorem l_law_field_9 : (defScope s_law_field).names.lookup ("_law_row" : Str) = some NameKind.local := by decide +kernel
theorem l_law_field_10 : (defScope s_law_field).names.lookup ("_law_side" : Str) = some NameKind.local := by decide +kernel
theorem l_law_field_11 : (defScope s_law_field).names.lookup ("_law_number" : Str) = some NameKind.local := by decide +kernel
abbrev s_Register_become : Stmt := inClass (top 98) 1
abbrev N_Register_become : List Str := ["self", "tellings", "marks"]
theorem sc_Register_become : FnScope N_Register_become ["self", "tellings", "marks"] (defScope s_Register_become) := ⟨rfl, rfl, rfl, by decide +kernel, rfl, by decide +kernel, by decide +kernel⟩
theorem l_Register_become_0 : (defScope s_Register_become).names.lookup ("self" : Str) = some NameKind.local := by decide +kernel
theorem l_Register_become_1 : (defScope s_Register_become).names.lookup ("tellings" : Str) = some NameKind.local := by decide +kernel
theorem l_Register_become_2 : (defScope s_Register_become).names.lookup ("marks" : Str) = some NameKind.local := by decide +kernel
abbrev s_need_mark : Stmt := top 70
abbrev N_need_mark : List Str := ["field", "mark"]
theorem sc_need_mark : FnScope N_need_mark ["field", "mark"] (defScope s_need_mark) := ⟨rfl, rfl, rfl, by decide +kernel, rfl, by decide +kernel, by decide +kernel⟩
theorem l_need_mark_0 : (defScope s_need_mark).names.lookup ("field" : Str) = some NameKind.local := by decide +kernel
theorem l_need_mark_1 : (defScope s_need_mark).names.lookup ("mark" : Str) = some NameKind.local := by decide +kernel
abbrev s_with_one : Stmt := top 96
abbrev N_with_one : List Str := ["kept", "thing", "most"]
theorem sc_with_one : FnScope N_with_one ["kept", "thing", "most"] (defScope s_with_one) := ⟨rfl, rfl, rfl, by decide +kernel, rfl, by decide +kernel, by decide +kernel⟩
theorem l_with_one_0 : (defScope s_with_one).names.lookup ("kept" : Str) = some NameKind.local := by decide +kernel
theorem l_with_one_1 : (defScope s_with_one).names.lookup ("thing" : Str) = some NameKind.local := by decide +kernel
theorem l_with_one_2 : (defScope s_with_one).names.lookup ("most" : Str) = some NameKind.local := by decide +kernel
abbrev s_Register_see : Stmt := inClass (top 98) 3
abbrev N_Register_see : List Str := ["self", "mark", "tellings", "marks"]
theorem sc_Register_see : FnScope N_Register_see ["self", "mark"] (defScope s_Register_see) := ⟨rfl, rfl, rfl, by decide +kernel, rfl, by decide +kernel, by decide +kernel⟩
theorem l_Register_see_0 : (defScope s_Register_see).names.lookup ("self" : Str) = some NameKind.local := by decide +kernel
theorem l_Register_see_1 : (defScope s_Register_see).names.lookup ("mark" : Str) = some NameKind.local := by decide +kernel
theorem l_Register_see_2 : (defScope s_Register_see).names.lookup ("tellings" : Str) = some NameKind.local := by decide +kernel
theorem l_Register_see_3 : (defScope s_Register_see).names.lookup ("marks" : Str) = some NameKind.local := by decide +kernel
abbrev s_need_telling : Stmt := top 69
abbrev N_need_telling : List Str := ["field", "telling"]
theorem sc_need_telling : FnScope N_need_telling ["field", "telling"] (defScope s_need_telling) := ⟨rfl, rfl, rfl, by decide +kernel, rfl, by decide +kernel, by decide +kernel⟩
theorem l_need_telling_0 : (defScope s_need_telling).names.lookup ("field" : Str) = some NameKind.local := by decide +kernel
theorem l_need_telling_1 : (defScope s_need_telling).names.lookup ("telling" : Str) = some NameKind.local := by decide +kernel
abbrev s_Register_tell : Stmt := inClass (top 98) 2
abbrev N_Register_tell : List Str := ["self", "telling", "tellings", "marks"]
theorem sc_Register_tell : FnScope N_Register_tell ["self", "telling"] (defScope s_Register_tell) := ⟨rfl, rfl, rfl, by decide +kernel, rfl, by decide +kernel, by decide +kernel⟩
theorem l_Register_tell_0 : (defScope s_Register_tell).names.lookup ("self" : Str) = some NameKind.local := by decide +kernel
theorem l_Register_tell_1 : (defScope s_Register_tell).names.lookup ("telling" : Str) = some NameKind.local := by decide +kernel
theorem l_Register_tell_2 : (defScope s_Register_tell).names.lookup ("tellings" : Str) = some NameKind.local := by decide +kernel
theorem l_Register_tell_3 : (defScope s_Register_tell).names.lookup ("marks" : Str) = some NameKind.local := by decide +kernel
abbrev s_without_one : Stmt := top 97
abbrev N_without_one : List Str := ["kept", "thing", "one"]
theorem sc_without_one : FnScope N_without_one ["kept", "thing"] (defScope s_without_one) := ⟨rfl, rfl, rfl, by decide +kernel, rfl, by decide +kernel, by decide +kernel⟩
theorem l_without_one_0 : (defScope s_without_one).names.lookup ("kept" : Str) = some NameKind.local := by decide +kernel
theorem l_without_one_1 : (defScope s_without_one).names.lookup ("thing" : Str) = some NameKind.cell := by decide +kernel
abbrev s_Register_unsay : Stmt := inClass (top 98) 4
abbrev N_Register_unsay : List Str := ["self", "telling", "tellings", "marks"]
theorem sc_Register_unsay : FnScope N_Register_unsay ["self", "telling"] (defScope s_Register_unsay) := ⟨rfl, rfl, rfl, by decide +kernel, rfl, by decide +kernel, by decide +kernel⟩
theorem l_Register_unsay_0 : (defScope s_Register_unsay).names.lookup ("self" : Str) = some NameKind.local := by decide +kernel
theorem l_Register_unsay_1 : (defScope s_Register_unsay).names.lookup ("telling" : Str) = some NameKind.local := by decide +kernel
theorem l_Register_unsay_2 : (defScope s_Register_unsay).names.lookup ("tellings" : Str) = some NameKind.local := by decide +kernel
theorem l_Register_unsay_3 : (defScope s_Register_unsay).names.lookup ("marks" : Str) = some NameKind.local := by decide +kernel
abbrev s_Register_unsee : Stmt := inClass (top 98) 5
abbrev N_Register_unsee : List Str := ["self", "mark", "tellings", "marks"]
theorem sc_Register_unsee : FnScope N_Register_unsee ["self", "mark"] (defScope s_Register_unsee) := ⟨rfl, rfl, rfl, by decide +kernel, rfl, by decide +kernel, by decide +kernel⟩
theorem l_Register_unsee_0 : (defScope s_Register_unsee).names.lookup ("self" : Str) = some NameKind.local := by decide +kernel
theorem l_Register_unsee_1 : (defScope s_Register_unsee).names.lookup ("mark" : Str) = some NameKind.local := by decide +kernel
theorem l_Register_unsee_2 : (defScope s_Register_unsee).names.lookup ("tellings" : Str) = some NameKind.local := by decide +kernel
theorem l_Register_unsee_3 : (defScope s_Register_unsee).names.lookup ("marks" : Str) = some NameKind.local := by decide +kernel
abbrev s_law_full_right : Stmt := top 109
abbrev N_law_full_right : List Str := ["_law_office", "_law_field_here", "_law_bad", "_law_many", "_law_one", "_law_calls", "_law_marks", "_law_day"]
theorem sc_law_full_right : FnScope N_law_full_right ["_law_office", "_law_field_here", "_law_bad"] (defScope s_law_full_right) := ⟨rfl, rfl, rfl, by decide +kernel, rfl, by decide +kernel, by decide +kernel⟩
theorem l_law_full_right_0 : (defScope s_law_full_right).names.lookup ("_law_office" : Str) = some NameKind.cell := by decide +kernel
theorem l_law_full_right_1 : (defScope s_law_full_right).names.lookup ("_law_field_here" : Str) = some NameKind.local := by decide +kernel
theorem l_law_full_right_3 : (defScope s_law_full_right).names.lookup ("_law_many" : Str) = some NameKind.cell := by decide +kernel
theorem l_law_full_right_4 : (defScope s_law_full_right).names.lookup ("_law_one" : Str) = some NameKind.local := by decide +kernel
theorem l_law_full_right_5 : (defScope s_law_full_right).names.lookup ("_law_calls" : Str) = some NameKind.local := by decide +kernel
theorem l_law_full_right_6 : (defScope s_law_full_right).names.lookup ("_law_marks" : Str) = some NameKind.cell := by decide +kernel
abbrev s_law_made_right : Stmt := top 108
abbrev N_law_made_right : List Str := ["_law_field_here", "_law_pace", "_law_calls"]
theorem sc_law_made_right : FnScope N_law_made_right ["_law_field_here", "_law_pace"] (defScope s_law_made_right) := ⟨rfl, rfl, rfl, by decide +kernel, rfl, by decide +kernel, by decide +kernel⟩
theorem l_law_made_right_2 : (defScope s_law_made_right).names.lookup ("_law_calls" : Str) = some NameKind.local := by decide +kernel
abbrev s_law_odd : Stmt := top 105
abbrev N_law_odd : List Str := ["_law_box_here", "_law_some"]
theorem sc_law_odd : FnScope N_law_odd ["_law_box_here"] (defScope s_law_odd) := ⟨rfl, rfl, rfl, by decide +kernel, rfl, by decide +kernel, by decide +kernel⟩
theorem l_law_odd_0 : (defScope s_law_odd).names.lookup ("_law_box_here" : Str) = some NameKind.local := by decide +kernel
theorem l_law_odd_1 : (defScope s_law_odd).names.lookup ("_law_some" : Str) = some NameKind.local := by decide +kernel
abbrev s_law_right : Stmt := top 111
abbrev N_law_right : List Str := ["_law_box_here", "_law_field_here", "_law_pace", "_law_office", "_law_some", "_law_bad", "_law_turn"]
theorem sc_law_right : FnScope N_law_right ["_law_box_here"] (defScope s_law_right) := ⟨rfl, rfl, rfl, by decide +kernel, rfl, by decide +kernel, by decide +kernel⟩
theorem l_law_right_0 : (defScope s_law_right).names.lookup ("_law_box_here" : Str) = some NameKind.local := by decide +kernel
theorem l_law_right_1 : (defScope s_law_right).names.lookup ("_law_field_here" : Str) = some NameKind.local := by decide +kernel
theorem l_law_right_2 : (defScope s_law_right).names.lookup ("_law_pace" : Str) = some NameKind.local := by decide +kernel
theorem l_law_right_3 : (defScope s_law_right).names.lookup ("_law_office" : Str) = some NameKind.cell := by decide +kernel
theorem l_law_right_4 : (defScope s_law_right).names.lookup ("_law_some" : Str) = some NameKind.local := by decide +kernel
theorem l_law_right_5 : (defScope s_law_right).names.lookup ("_law_bad" : Str) = some NameKind.local := by decide +kernel
theorem l_law_right_6 : (defScope s_law_right).names.lookup ("_law_turn" : Str) = some NameKind.local := by decide +kernel
abbrev s_law : Stmt := top 112
abbrev N_law : List Str := ["_law_script", "_law_k", "_law_lap"]
theorem sc_law : FnScope N_law ["_law_script"] (defScope s_law) := ⟨rfl, rfl, rfl, by decide +kernel, rfl, by decide +kernel, by decide +kernel⟩
theorem l_law_0 : (defScope s_law).names.lookup ("_law_script" : Str) = some NameKind.local := by decide +kernel
theorem l_law_1 : (defScope s_law).names.lookup ("_law_k" : Str) = some NameKind.local := by decide +kernel
theorem l_law_2 : (defScope s_law).names.lookup ("_law_lap" : Str) = some NameKind.local := by decide +kernel
theorem m_CROWN : nm "CROWN" = true := by decide +kernel
theorem m_LAST_DAY : nm "LAST_DAY" = true := by decide +kernel
theorem m_MOST_CELLS : nm "MOST_CELLS" = true := by decide +kernel
theorem m_MOST_MARKS : nm "MOST_MARKS" = true := by decide +kernel
theorem m_MOST_PACE : nm "MOST_PACE" = true := by decide +kernel
theorem m_MOST_ROWS : nm "MOST_ROWS" = true := by decide +kernel
theorem m_MOST_TELLERS : nm "MOST_TELLERS" = true := by decide +kernel
theorem m_MOST_TELLINGS : nm "MOST_TELLINGS" = true := by decide +kernel
theorem m_MOST_WIDE : nm "MOST_WIDE" = true := by decide +kernel
theorem m_RIVER : nm "RIVER" = true := by decide +kernel
theorem m_Register : nm "Register" = true := by decide +kernel
theorem m_Register__init : nm "Register.__init__" = true := by decide +kernel
theorem m_Register_become : nm "Register.become" = true := by decide +kernel
theorem m_Register_case_now : nm "Register.case_now" = true := by decide +kernel
theorem m_Register_hangs_now : nm "Register.hangs_now" = true := by decide +kernel
theorem m_Register_holders_now : nm "Register.holders_now" = true := by decide +kernel
theorem m_Register_see : nm "Register.see" = true := by decide +kernel
theorem m_Register_tell : nm "Register.tell" = true := by decide +kernel
theorem m_Register_undo : nm "Register.undo" = true := by decide +kernel
theorem m_Register_unsay : nm "Register.unsay" = true := by decide +kernel
theorem m_Register_unsee : nm "Register.unsee" = true := by decide +kernel
theorem m_TooMany__init : nm "TooMany.__init__" = true := by decide +kernel
theorem m_law_asked_right : nm "_law_asked_right" = true := by decide +kernel
theorem m_law_bad : nm "_law_bad" = true := by decide +kernel
theorem m_law_box : nm "_law_box" = true := by decide +kernel
theorem m_law_box_here : nm "_law_box_here" = true := by decide +kernel
theorem m_law_calls : nm "_law_calls" = true := by decide +kernel
theorem m_law_cell : nm "_law_cell" = true := by decide +kernel
theorem m_law_cell_here : nm "_law_cell_here" = true := by decide +kernel
theorem m_law_cells : nm "_law_cells" = true := by decide +kernel
theorem m_law_count : nm "_law_count" = true := by decide +kernel
theorem m_law_day : nm "_law_day" = true := by decide +kernel
theorem m_law_digit : nm "_law_digit" = true := by decide +kernel
theorem m_law_e : nm "_law_e" = true := by decide +kernel
theorem m_law_field : nm "_law_field" = true := by decide +kernel
theorem m_law_field_here : nm "_law_field_here" = true := by decide +kernel
theorem m_law_full_right : nm "_law_full_right" = true := by decide +kernel
theorem m_law_high : nm "_law_high" = true := by decide +kernel
theorem m_law_j : nm "_law_j" = true := by decide +kernel
theorem m_law_k : nm "_law_k" = true := by decide +kernel
theorem m_law_lap : nm "_law_lap" = true := by decide +kernel
theorem m_law_left : nm "_law_left" = true := by decide +kernel
theorem m_law_made_right : nm "_law_made_right" = true := by decide +kernel
theorem m_law_many : nm "_law_many" = true := by decide +kernel
theorem m_law_marks : nm "_law_marks" = true := by decide +kernel
theorem m_law_middle : nm "_law_middle" = true := by decide +kernel
theorem m_law_mix : nm "_law_mix" = true := by decide +kernel
theorem m_law_most : nm "_law_most" = true := by decide +kernel
theorem m_law_names : nm "_law_names" = true := by decide +kernel
theorem m_law_number : nm "_law_number" = true := by decide +kernel
theorem m_law_odd : nm "_law_odd" = true := by decide +kernel
theorem m_law_office : nm "_law_office" = true := by decide +kernel
theorem m_law_one : nm "_law_one" = true := by decide +kernel
theorem m_law_pace : nm "_law_pace" = true := by decide +kernel
theorem m_law_right : nm "_law_right" = true := by decide +kernel
theorem m_law_row : nm "_law_row" = true := by decide +kernel
theorem m_law_said : nm "_law_said" = true := by decide +kernel
theorem m_law_script : nm "_law_script" = true := by decide +kernel
theorem m_law_side : nm "_law_side" = true := by decide +kernel
theorem m_law_some : nm "_law_some" = true := by decide +kernel
theorem m_law_stir : nm "_law_stir" = true := by decide +kernel
theorem m_law_take : nm "_law_take" = true := by decide +kernel
theorem m_law_way : nm "_law_way" = true := by decide +kernel
theorem m_law_which : nm "_law_which" = true := by decide +kernel
theorem m_law_wide : nm "_law_wide" = true := by decide +kernel
theorem m_are_cells : nm "are_cells" = true := by decide +kernel
theorem m_case : nm "case" = true := by decide +kernel
theorem m_cell : nm "cell" = true := by decide +kernel
theorem m_cells : nm "cells" = true := by decide +kernel
theorem m_change_in : nm "change_in" = true := by decide +kernel
theorem m_day : nm "day" = true := by decide +kernel
theorem m_field : nm "field" = true := by decide +kernel
theorem m_hangs : nm "hangs" = true := by decide +kernel
theorem m_high : nm "high" = true := by decide +kernel
theorem m_holders : nm "holders" = true := by decide +kernel
theorem m_is_case : nm "is_case" = true := by decide +kernel
theorem m_is_cell : nm "is_cell" = true := by decide +kernel
theorem m_is_field : nm "is_field" = true := by decide +kernel
theorem m_is_mark : nm "is_mark" = true := by decide +kernel
theorem m_is_rising : nm "is_rising" = true := by decide +kernel
theorem m_is_telling : nm "is_telling" = true := by decide +kernel
theorem m_is_whole : nm "is_whole" = true := by decide +kernel
theorem m_kept : nm "kept" = true := by decide +kernel
theorem m_law : nm "law" = true := by decide +kernel
theorem m_low : nm "low" = true := by decide +kernel
theorem m_mark : nm "mark" = true := by decide +kernel
theorem m_marks : nm "marks" = true := by decide +kernel
theorem m_most : nm "most" = true := by decide +kernel
theorem m_need_case : nm "need_case" = true := by decide +kernel
theorem m_need_cell : nm "need_cell" = true := by decide +kernel
theorem m_need_day : nm "need_day" = true := by decide +kernel
theorem m_need_field : nm "need_field" = true := by decide +kernel
theorem m_need_mark : nm "need_mark" = true := by decide +kernel
theorem m_need_pace : nm "need_pace" = true := by decide +kernel
theorem m_need_telling : nm "need_telling" = true := by decide +kernel
theorem m_number : nm "number" = true := by decide +kernel
theorem m_one : nm "one" = true := by decide +kernel
theorem m_other : nm "other" = true := by decide +kernel
theorem m_pace : nm "pace" = true := by decide +kernel
theorem m_self : nm "self" = true := by decide +kernel
theorem m_telling : nm "telling" = true := by decide +kernel
theorem m_tellings : nm "tellings" = true := by decide +kernel
theorem m_thing : nm "thing" = true := by decide +kernel
theorem m_things : nm "things" = true := by decide +kernel
theorem m_wide : nm "wide" = true := by decide +kernel
theorem m_with_one : nm "with_one" = true := by decide +kernel
theorem m_without_one : nm "without_one" = true := by decide +kernel
structure Hd (mg : Str → Option Value) : Prop where
  n_ValueError : mg "ValueError" = none
  n_abs : mg "abs" = none
  n_all : mg "all" = none
  n_bool : mg "bool" = none
  n_divmod : mg "divmod" = none
  n_int : mg "int" = none
  n_isinstance : mg "isinstance" = none
  n_len : mg "len" = none
  n_list : mg "list" = none
  n_max : mg "max" = none
  n_min : mg "min" = none
  n_range : mg "range" = none
  n_sorted : mg "sorted" = none
  n_str : mg "str" = none
  n_tuple : mg "tuple" = none
  n_zip : mg "zip" = none
  c_CROWN : ∃ t, mg "CROWN" = some (.int 9 t)
  c_LAST_DAY : ∃ t, mg "LAST_DAY" = some (.int 999 t)
  c_MOST_CELLS : ∃ t, mg "MOST_CELLS" = some (.int 16 t)
  c_MOST_MARKS : ∃ t, mg "MOST_MARKS" = some (.int 40 t)
  c_MOST_PACE : ∃ t, mg "MOST_PACE" = some (.int 9 t)
  c_MOST_ROWS : ∃ t, mg "MOST_ROWS" = some (.int 8 t)
  c_MOST_TELLERS : ∃ t, mg "MOST_TELLERS" = some (.int 9 t)
  c_MOST_TELLINGS : ∃ t, mg "MOST_TELLINGS" = some (.int 16 t)
  c_MOST_WIDE : ∃ t, mg "MOST_WIDE" = some (.int 8 t)
  c_RIVER : ∃ t, mg "RIVER" = some (.int 0 t)
def ks_Register : List Str := ["own_field", "own_pace", "own_state", "own_past"]
def ys_law_said : List Str := ["NoField", "NoCell", "NoCells", "NoNumber", "NoFronts", "NoStanding", "NoChange", "NoChanges", "NoDay", "NoPace", "NoSpans", "NoCase", "NoTelling", "NoMark", "NoText", "NoLine", "There", "Gone", "Nothing", "TooMany"]
def ol_law_said : List (Str × Str) := [("NoField", "field"), ("NoPace", "pace"), ("NoTelling", "telling"), ("NoMark", "mark"), ("There", "there"), ("Gone", "gone"), ("Nothing", "nothing"), ("NoDay", "day"), ("NoCell", "cell"), ("TooMany", "many")]
def ok_law_said (c : Str) (ns : List Int) : Option D := okM "TooMany" ol_law_said c ns
structure Hx (mg : Str → Option Value) (K : PySem.W.Frag) : Prop where
  r_Gone : RCls mg K "Gone"
  r_NoCell : RCls mg K "NoCell"
  r_NoDay : RCls mg K "NoDay"
  r_NoField : RCls mg K "NoField"
  r_NoMark : RCls mg K "NoMark"
  r_NoPace : RCls mg K "NoPace"
  r_NoTelling : RCls mg K "NoTelling"
  r_Nothing : RCls mg K "Nothing"
  r_There : RCls mg K "There"
  i_Register : InsC K "Register" ks_Register
  g_BedError : mg "BedError" = some (.ref (He.ga K "BedError"))
  g_Gone : mg "Gone" = some (.ref (He.ga K "Gone"))
  g_NoCase : mg "NoCase" = some (.ref (He.ga K "NoCase"))
  g_NoCell : mg "NoCell" = some (.ref (He.ga K "NoCell"))
  g_NoCells : mg "NoCells" = some (.ref (He.ga K "NoCells"))
  g_NoChange : mg "NoChange" = some (.ref (He.ga K "NoChange"))
  g_NoChanges : mg "NoChanges" = some (.ref (He.ga K "NoChanges"))
  g_NoDay : mg "NoDay" = some (.ref (He.ga K "NoDay"))
  g_NoField : mg "NoField" = some (.ref (He.ga K "NoField"))
  g_NoFronts : mg "NoFronts" = some (.ref (He.ga K "NoFronts"))
  g_NoLine : mg "NoLine" = some (.ref (He.ga K "NoLine"))
  g_NoMark : mg "NoMark" = some (.ref (He.ga K "NoMark"))
  g_NoNumber : mg "NoNumber" = some (.ref (He.ga K "NoNumber"))
  g_NoPace : mg "NoPace" = some (.ref (He.ga K "NoPace"))
  g_NoSpans : mg "NoSpans" = some (.ref (He.ga K "NoSpans"))
  g_NoStanding : mg "NoStanding" = some (.ref (He.ga K "NoStanding"))
  g_NoTelling : mg "NoTelling" = some (.ref (He.ga K "NoTelling"))
  g_NoText : mg "NoText" = some (.ref (He.ga K "NoText"))
  g_Nothing : mg "Nothing" = some (.ref (He.ga K "Nothing"))
  g_There : mg "There" = some (.ref (He.ga K "There"))
  g_TooMany : mg "TooMany" = some (.ref (He.ga K "TooMany"))
  x_law_said : ∀ c ns t, ok_law_said c ns = some t → XCls K "BedError" ys_law_said c
  xf_TooMany : XfC K (He.ga K "TooMany")
  xn_many : PySem.W.findIn K (.ref (He.ga K "TooMany")) "many" = some none
  xn_most : PySem.W.findIn K (.ref (He.ga K "TooMany")) "most" = some none
end K73
/-! Bd92: the look behind the top at all objects below a bound, instead of those that are reached in so many steps. -/
namespace Look
open PySem PySem.W He
section
variable {as : List Addr} {fa : List Fa} {fn : List DefD} {tf : List Defn} {ex : Frag → Bool}
def obsY (as : List Addr) (fa : List Fa) (fn : List DefD) (tf : List Defn) (ex : Frag → Bool) (g : Addr → Option Obj) : AlX :=
  match frT g as with
  | K => (obsT fa fn [] K, ex K && tabsB g tf K)
theorem looksY {w : World} {h : Heap} (e : obsY as fa fn tf ex h.get? = valX fn [] w) : SaysX fa fn [] tf ex w h (frT h.get? as) := by
  generalize hK : frT h.get? as = K
  have e0 : (obsT fa fn [] K, ex K && tabsB h.get? tf K) = valX fn [] w := by rw [← hK]; exact e
  have e2 := Bool.and_eq_true_iff.mp (congrArg Prod.snd e0 : (ex K && tabsB h.get? tf K) = true)
  have one : ∀ p ∈ tf, codeHdIn K (cT K p).1 (cT K p).2 = true ∧ ∃ o, h.get? (cT K p).2 = some o ∧ emptyTab o = true := by
    intro p hp
    have z := Bool.and_eq_true_iff.mp (List.all_eq_true.mp e2.2 p hp)
    refine ⟨z.1, ?_⟩
    have z2 := z.2
    revert z2
    cases h.get? (cT K p).2 with
    | none => intro z2; cases z2
    | some o => intro z2; exact ⟨o, rfl, z2⟩
  constructor
  · exact congrArg Prod.fst e0
  · exact e2.1
  · exact fun p hp => (one p hp).1
  · intro p hp
    obtain ⟨o, q, z⟩ := (one p hp).2
    subst hK
    exact frT_none q z
  · intro p hp
    obtain ⟨o, q, z⟩ := (one p hp).2
    rw [q, emptyTab_eq z]
def hookY (as : List Addr) (fa : List Fa) (fn : List DefD) (tf : List Defn) (ex : Frag → Bool) : Hook :=
  ⟨AlX, fun s => obsY as fa fn tf ex s.heap.get?, fun w => valX fn [] w, fun w h => ∃ K : Frag, K.In h ∧ SaysX fa fn [] tf ex w h K, fun _ _ e => ⟨_, frT_in, looksY e⟩,
    fun _ _ _ ⟨K, hK, c⟩ k => ⟨K, Frag.In.keeps hK k, ⟨c.t, c.more, c.hd, c.out, fun p hp => k _ _ (c.empty p hp)⟩⟩⟩
theorem obsY_eq {g : Addr → Option Obj} {s : Shared} (h : ∀ a, g a = s.heap.get? a) : obsY as fa fn tf ex g = (hookY as fa fn tf ex).obs s := by
  rw [show g = s.heap.get? from funext h] <;> rfl
end
section
open HandSHeadRun
variable {r : OpenRow} {q : Program} {H : Hook} {ob : SharedT → H.α} {M : Nat} {loose : List PySem.Str} {w : World}
/-- the run's equation, first part: what the top leaves -/
def RunL (r : OpenRow) (q : Program) (M : Nat) (loose : List PySem.Str) (w : World) : Prop :=
  ∀ os : OsState, (endF (stepQ (denQ tabQ) r.prog w) M r.prog w os).map (fun s => (looksF r.prog (boot_heap w.params) s.abs, seenQ q loose (importedModules r.prog.main.body) (fun s => xlAt q [] s && recOk r.toRowW.records s) s.abs)) = some (true, openGood q loose)
/-- the second part: what is looked at -/
def RunO (r : OpenRow) (H : Hook) (ob : SharedT → H.α) (M : Nat) (w : World) : Prop := ∀ os : OsState, (endF (stepQ (denQ tabQ) r.prog w) M r.prog w os).map ob = some (H.val w)
/-- the same from two runs -/
theorem run_two (h1 : RunL r q M loose w) (h2 : RunO r H ob M w) : RunEq r q H ob M loose w := by
  intro os
  have a := h1 os
  have b := h2 os
  revert a b
  cases endF (stepQ (denQ tabQ) r.prog w) M r.prog w os with
  | none => intro a; cases a
  | some s =>
    intro a b
    rw [Option.map_some, Option.some.injEq] at a b ⊢
    obtain ⟨a1, a2⟩ := Prod.mk.inj a
    rw [b, a1, a2]
end
end Look
namespace K73
open PySem PySem.Spec PyProof.Rows L2 Bd Look
def d_law_cell : He.DefD := ⟨("_law_cell", none), "_law_cell", "_law_cell", defArgs s_law_cell, defBody s_law_cell, defScope s_law_cell, [], []⟩
def d_law_mix : He.DefD := ⟨("_law_mix", none), "_law_mix", "_law_mix", defArgs s_law_mix, defBody s_law_mix, defScope s_law_mix, [], []⟩
def d_law_box : He.DefD := ⟨("_law_box", none), "_law_box", "_law_box", defArgs s_law_box, defBody s_law_box, defScope s_law_box, [], []⟩
def d_is_whole : He.DefD := ⟨("is_whole", none), "is_whole", "is_whole", defArgs s_is_whole, defBody s_is_whole, defScope s_is_whole, [], []⟩
def d_is_field : He.DefD := ⟨("is_field", none), "is_field", "is_field", defArgs s_is_field, defBody s_is_field, defScope s_is_field, [], []⟩
def d_need_field : He.DefD := ⟨("need_field", none), "need_field", "need_field", defArgs s_need_field, defBody s_need_field, defScope s_need_field, [], []⟩
def d_need_pace : He.DefD := ⟨("need_pace", none), "need_pace", "need_pace", defArgs s_need_pace, defBody s_need_pace, defScope s_need_pace, [], []⟩
def d_Register__init : He.DefD := ⟨("Register", some "__init__"), "__init__", "Register.__init__", defArgs s_Register__init, defBody s_Register__init, defScope s_Register__init, [], []⟩
def d_Register_case_now : He.DefD := ⟨("Register", some "case_now"), "case_now", "Register.case_now", defArgs s_Register_case_now, defBody s_Register_case_now, defScope s_Register_case_now, [], []⟩
def d_Register_undo : He.DefD := ⟨("Register", some "undo"), "undo", "Register.undo", defArgs s_Register_undo, defBody s_Register_undo, defScope s_Register_undo, [], []⟩
def d_is_cell : He.DefD := ⟨("is_cell", none), "is_cell", "is_cell", defArgs s_is_cell, defBody s_is_cell, defScope s_is_cell, [], []⟩
def d_is_mark : He.DefD := ⟨("is_mark", none), "is_mark", "is_mark", defArgs s_is_mark, defBody s_is_mark, defScope s_is_mark, [], []⟩
def d_is_rising : He.DefD := ⟨("is_rising", none), "is_rising", "is_rising", defArgs s_is_rising, defBody s_is_rising, defScope s_is_rising, [], []⟩
def d_are_cells : He.DefD := ⟨("are_cells", none), "are_cells", "are_cells", defArgs s_are_cells, defBody s_are_cells, defScope s_are_cells, [], []⟩
def d_change_in : He.DefD := ⟨("change_in", none), "change_in", "change_in", defArgs s_change_in, defBody s_change_in, defScope s_change_in, [], []⟩
def d_is_telling : He.DefD := ⟨("is_telling", none), "is_telling", "is_telling", defArgs s_is_telling, defBody s_is_telling, defScope s_is_telling, [], []⟩
def d_is_case : He.DefD := ⟨("is_case", none), "is_case", "is_case", defArgs s_is_case, defBody s_is_case, defScope s_is_case, [], []⟩
def d_need_case : He.DefD := ⟨("need_case", none), "need_case", "need_case", defArgs s_need_case, defBody s_need_case, defScope s_need_case, [], []⟩
def d_need_cell : He.DefD := ⟨("need_cell", none), "need_cell", "need_cell", defArgs s_need_cell, defBody s_need_cell, defScope s_need_cell, [], []⟩
def d_need_day : He.DefD := ⟨("need_day", none), "need_day", "need_day", defArgs s_need_day, defBody s_need_day, defScope s_need_day, [], []⟩
def d_hangs : He.DefD := ⟨("hangs", none), "hangs", "hangs", defArgs s_hangs, defBody s_hangs, defScope s_hangs, [], []⟩
def d_Register_hangs_now : He.DefD := ⟨("Register", some "hangs_now"), "hangs_now", "Register.hangs_now", defArgs s_Register_hangs_now, defBody s_Register_hangs_now, defScope s_Register_hangs_now, [], []⟩
def d_holders : He.DefD := ⟨("holders", none), "holders", "holders", defArgs s_holders, defBody s_holders, defScope s_holders, [], []⟩
def d_Register_holders_now : He.DefD := ⟨("Register", some "holders_now"), "holders_now", "Register.holders_now", defArgs s_Register_holders_now, defBody s_Register_holders_now, defScope s_Register_holders_now, [], []⟩
def d_TooMany__init : He.DefD := ⟨("TooMany", some "__init__"), "__init__", "TooMany.__init__", defArgs s_TooMany__init, defBody s_TooMany__init, defScope s_TooMany__init, [], []⟩
def d_law_which : He.DefD := ⟨("_law_which", none), "_law_which", "_law_which", defArgs s_law_which, defBody s_law_which, defScope s_law_which, [], []⟩
def d_law_said : He.DefD := ⟨("_law_said", none), "_law_said", "_law_said", defArgs s_law_said, defBody s_law_said, defScope s_law_said, [], []⟩
def d_law_asked_right : He.DefD := ⟨("_law_asked_right", none), "_law_asked_right", "_law_asked_right", defArgs s_law_asked_right, defBody s_law_asked_right, defScope s_law_asked_right, [], []⟩
def d_law_take : He.DefD := ⟨("_law_take", none), "_law_take", "_law_take", defArgs s_law_take, defBody s_law_take, defScope s_law_take, [], []⟩
def d_law_field : He.DefD := ⟨("_law_field", none), "_law_field", "_law_field", defArgs s_law_field, defBody s_law_field, defScope s_law_field, [], []⟩
def d_Register_become : He.DefD := ⟨("Register", some "become"), "become", "Register.become", defArgs s_Register_become, defBody s_Register_become, defScope s_Register_become, [], []⟩
def d_need_mark : He.DefD := ⟨("need_mark", none), "need_mark", "need_mark", defArgs s_need_mark, defBody s_need_mark, defScope s_need_mark, [], []⟩
def d_with_one : He.DefD := ⟨("with_one", none), "with_one", "with_one", defArgs s_with_one, defBody s_with_one, defScope s_with_one, [], []⟩
def d_Register_see : He.DefD := ⟨("Register", some "see"), "see", "Register.see", defArgs s_Register_see, defBody s_Register_see, defScope s_Register_see, [], []⟩
def d_need_telling : He.DefD := ⟨("need_telling", none), "need_telling", "need_telling", defArgs s_need_telling, defBody s_need_telling, defScope s_need_telling, [], []⟩
def d_Register_tell : He.DefD := ⟨("Register", some "tell"), "tell", "Register.tell", defArgs s_Register_tell, defBody s_Register_tell, defScope s_Register_tell, [], []⟩
def d_without_one : He.DefD := ⟨("without_one", none), "without_one", "without_one", defArgs s_without_one, defBody s_without_one, defScope s_without_one, [], []⟩
def d_Register_unsay : He.DefD := ⟨("Register", some "unsay"), "unsay", "Register.unsay", defArgs s_Register_unsay, defBody s_Register_unsay, defScope s_Register_unsay, [], []⟩
def d_Register_unsee : He.DefD := ⟨("Register", some "unsee"), "unsee", "Register.unsee", defArgs s_Register_unsee, defBody s_Register_unsee, defScope s_Register_unsee, [], []⟩
def d_law_full_right : He.DefD := ⟨("_law_full_right", none), "_law_full_right", "_law_full_right", defArgs s_law_full_right, defBody s_law_full_right, defScope s_law_full_right, [], []⟩
def d_law_made_right : He.DefD := ⟨("_law_made_right", none), "_law_made_right", "_law_made_right", defArgs s_law_made_right, defBody s_law_made_right, defScope s_law_made_right, [], []⟩
def d_law_odd : He.DefD := ⟨("_law_odd", none), "_law_odd", "_law_odd", defArgs s_law_odd, defBody s_law_odd, defScope s_law_odd, [], []⟩
def d_law_right : He.DefD := ⟨("_law_right", none), "_law_right", "_law_right", defArgs s_law_right, defBody s_law_right, defScope s_law_right, [], []⟩
def d_law : He.DefD := ⟨("law", none), "law", "law", defArgs s_law, defBody s_law, defScope s_law, [], []⟩
def fn : List He.DefD := [d_law_cell, d_law_mix, d_law_box, d_is_whole, d_is_field, d_need_field, d_need_pace, d_Register__init, d_Register_case_now, d_Register_undo, d_is_cell, d_is_mark, d_is_rising, d_are_cells, d_change_in, d_is_telling, d_is_case, d_need_case, d_need_cell, d_need_day, d_hangs, d_Register_hangs_now, d_holders, d_Register_holders_now, d_TooMany__init, d_law_which, d_law_said, d_law_asked_right, d_law_take, d_law_field, d_Register_become, d_need_mark, d_with_one, d_Register_see, d_need_telling, d_Register_tell, d_without_one, d_Register_unsay, d_Register_unsee, d_law_full_right, d_law_made_right, d_law_odd, d_law_right, d_law]
def fa : List He.Fa := ([.glo "_law_cell", .glo "_law_mix", .glo "_law_box", .glo "is_whole", .glo "is_field", .glo "need_field", .glo "need_pace", .glo "Register", .glo "Register", .glo "Register", .glo "is_cell", .glo "is_mark", .glo "is_rising", .glo "are_cells", .glo "change_in", .glo "is_telling"] : List He.Fa) ++ ([.glo "is_case", .glo "need_case", .glo "need_cell", .glo "need_day", .glo "hangs", .glo "Register", .glo "holders", .glo "Register", .glo "TooMany", .glo "_law_which", .glo "_law_said", .glo "_law_asked_right", .glo "_law_take", .glo "_law_field", .glo "Register", .glo "need_mark"] : List He.Fa) ++ ([.glo "with_one", .glo "Register", .glo "need_telling", .glo "Register", .glo "without_one", .glo "Register", .glo "Register", .glo "_law_full_right", .glo "_law_made_right", .glo "_law_odd", .glo "_law_right", .glo "law", .free "ValueError", .free "abs", .free "all", .free "bool"] : List He.Fa) ++ ([.free "divmod", .free "int", .free "isinstance", .free "len", .free "list", .free "max", .free "min", .free "range", .free "sorted", .free "str", .free "tuple", .free "zip", .int "CROWN" 9, .int "LAST_DAY" 999, .int "MOST_CELLS" 16, .int "MOST_MARKS" 40] : List He.Fa) ++ ([.int "MOST_PACE" 9, .int "MOST_ROWS" 8, .int "MOST_TELLERS" 9, .int "MOST_TELLINGS" 16, .int "MOST_WIDE" 8, .int "RIVER" 0, .mkr "Register", .meth "Register" "case_now", .meth "Register" "undo", .meth "Register" "hangs_now", .meth "Register" "holders_now", .meth "Register" "become", .meth "Register" "see", .meth "Register" "tell", .meth "Register" "unsay", .meth "Register" "unsee"] : List He.Fa) ++ ([.cls "Register", .noat "Register" "own_field", .noat "Register" "own_pace", .noat "Register" "own_state", .noat "Register" "own_past", .exc "Gone", .exc "NoCell", .exc "NoDay", .exc "NoField", .exc "NoMark", .exc "NoPace", .exc "NoTelling", .exc "Nothing", .exc "There", .glo "BedError", .glo "Gone"] : List He.Fa) ++ ([.glo "NoCase", .glo "NoCell", .glo "NoCells", .glo "NoChange", .glo "NoChanges", .glo "NoDay", .glo "NoField", .glo "NoFronts", .glo "NoLine", .glo "NoMark", .glo "NoNumber", .glo "NoPace", .glo "NoSpans", .glo "NoStanding", .glo "NoTelling", .glo "NoText"] : List He.Fa) ++ ([.glo "Nothing", .glo "There", .glo "TooMany"] : List He.Fa)
abbrev R : PySem.W.OpenRow := PySem.W.OpenLaw.row PySem.Challenge.rw_bedlands_k73_registers_refuse
abbrev hk : PySem.W.Hook := hookY (List.range 1000) fa fn [("_law_asked_right", none), ("_law_full_right", none), ("_law_made_right", none), ("_law_right", none)] (fun K => (ol_law_said.all fun p => xclsB K "BedError" ys_law_said p.1) && (oexB K "TooMany" && (xfB K (He.ga K "TooMany") && ((([(("_law_asked_right", none), ("_law_full_right", none)), (("_law_asked_right", none), ("_law_made_right", none)), (("_law_asked_right", none), ("_law_right", none)), (("_law_full_right", none), ("_law_asked_right", none)), (("_law_full_right", none), ("_law_made_right", none)), (("_law_full_right", none), ("_law_right", none)), (("_law_made_right", none), ("_law_asked_right", none)), (("_law_made_right", none), ("_law_full_right", none)), (("_law_made_right", none), ("_law_right", none)), (("_law_right", none), ("_law_asked_right", none)), (("_law_right", none), ("_law_full_right", none)), (("_law_right", none), ("_law_made_right", none))] : List (He.Defn × He.Defn)).all fun p => decide ((He.cT K p.1).2 ≠ (He.cT K p.2).2))))))
def ob (s : PySem.W.SharedT) : He.AlX := obsY (List.range 1000) fa fn [("_law_asked_right", none), ("_law_full_right", none), ("_law_made_right", none), ("_law_right", none)] (fun K => (ol_law_said.all fun p => xclsB K "BedError" ys_law_said p.1) && (oexB K "TooMany" && (xfB K (He.ga K "TooMany") && ((([(("_law_asked_right", none), ("_law_full_right", none)), (("_law_asked_right", none), ("_law_made_right", none)), (("_law_asked_right", none), ("_law_right", none)), (("_law_full_right", none), ("_law_asked_right", none)), (("_law_full_right", none), ("_law_made_right", none)), (("_law_full_right", none), ("_law_right", none)), (("_law_made_right", none), ("_law_asked_right", none)), (("_law_made_right", none), ("_law_full_right", none)), (("_law_made_right", none), ("_law_right", none)), (("_law_right", none), ("_law_asked_right", none)), (("_law_right", none), ("_law_full_right", none)), (("_law_right", none), ("_law_made_right", none))] : List (He.Defn × He.Defn)).all fun p => decide ((He.cT K p.1).2 ≠ (He.cT K p.2).2)))))) (HandSHeadRun.getT s)
theorem ob_eq (s : PySem.W.SharedT) : ob s = hk.obs s.abs := obsY_eq (HandSHeadRun.getT_eq s)
def loose : List Str := (["_wall", "__name__", "BedError", "NoField", "NoCell", "NoCells", "NoNumber", "NoFronts", "NoStanding", "NoChange", "NoChanges", "NoDay", "NoPace", "NoSpans", "NoCase", "NoTelling"] : List Str) ++ (["NoMark", "NoText", "NoLine", "There", "Gone", "Nothing", "TooMany", "MOST_WIDE", "MOST_ROWS", "RIVER", "CROWN", "is_whole", "is_rising", "is_field", "need_field", "is_cell"] : List Str) ++ (["need_cell", "beside", "are_cells", "lots_of", "steps", "nearest_of", "dry_cells", "LAST_DAY", "MOST_CELLS", "begun", "change_in", "MOST_PACE", "need_pace", "parting", "many_within", "crowd"] : List Str) ++ (["judged_by", "MOST_TELLERS", "MOST_TELLINGS", "MOST_MARKS", "is_telling", "is_mark", "is_case", "need_case", "matters_of", "sorts_of", "turns_of", "is_wet", "span_of", "spans_by", "verdicts_of", "need_telling"] : List Str) ++ (["need_mark", "shares_by", "still_land", "wet_lots", "fronts_of", "by_columns", "touching_order", "given_out", "gained", "turned", "need_day", "MOST_OPEN", "OPEN", "open_numbers", "choices", "field_by"] : List Str) ++ (["fields_of", "one_or_none", "holders", "hangs", "parts_at", "with_one", "without_one", "Register", "_law_cell", "_law_mix", "_law_box", "_law_take", "_law_field", "_law_odd", "_law_which", "_law_said"] : List Str) ++ (["_law_made_right", "_law_full_right", "_law_asked_right", "_law_right"] : List Str)
set_option maxHeartbeats 0 in
theorem run_l (w : PySem.World) : RunL R (PySem.W.view R.prog [112]) 8000 loose w := by
  intro os
  kernel_rfl
set_option maxHeartbeats 0 in
theorem run_o (w : PySem.World) : RunO R hk ob 8000 w := by
  intro os
  kernel_rfl
theorem run (w : PySem.World) : HandSHeadRun.RunEq R (PySem.W.view R.prog [112]) hk ob 8000 loose w := run_two (run_l w) (run_o w)
end K73
/-! SpT: plain laws of texts: figures, parts cut and joined again. -/
namespace Tx
open PySem TL
/-! ### cut and joined again, at one sign -/
/-- one sign as a text -/
def sg (c : Nat) : Str := ⟨#[c]⟩
/-! ### a text cut at its first sign -/
/-! ### slices -/
end Tx
namespace K73
open PySem PySem.Spec PyProof.Rows L2 Bd
def isWhole (d : D) (lo hi : Int) : Bool := match d with
  | .int t => decide (lo ≤ t) && decide (t ≤ hi)
  | _ => false
def S_is_whole : SD := fun es Q _ => ∃ (d : D) (lo hi : Int), es = [d, .int lo, .int hi] ∧ (tyD d).isSome = true ∧ Q (.bl (isWhole d lo hi)) es
theorem SM_is_whole : SMono S_is_whole := fun es P P' E E' hp he ⟨d, lo, hi, h0, h1, h2⟩ => ⟨d, lo, hi, h0, h1, hp _ _ h2⟩
theorem SL_is_whole (ds Q E) (h : S_is_whole ds Q E) : ds.length = ["", "", ""].length := by obtain ⟨_, _, _, rfl, _⟩ := h; rfl
def tl (xs : List Int) : D := .tup (xs.map D.int)
def S_is_rising : SD := fun es Q _ => ∃ (ks : _), es = [tl ks] ∧ ks.length ≤ 500000 ∧ Q (.bl (decide (ks.Pairwise (· < ·)))) es
theorem SM_is_rising : SMono S_is_rising := fun es P P' E E' hp he ⟨ks, h0, h1, h2⟩ => ⟨ks, h0, h1, hp _ _ h2⟩
theorem SL_is_rising (ds Q E) (h : S_is_rising ds Q E) : ds.length = ["things"].length := by obtain ⟨_, rfl, _⟩ := h; rfl
def fOk (w : Int) (cs : List Int) : Prop := 1 ≤ w ∧ w ≤ 8 ∧ (∃ r : Int, 1 ≤ r ∧ r ≤ 8 ∧ (cs.length : Int) = w * r) ∧ ∀ c ∈ cs, 0 ≤ c ∧ c ≤ 9
def cells (n : Nat) : List Int := (List.range n).map fun i => ((i : Nat) : Int)
/-- a field: w columns, the cells -/
def fld (w : Int) (cs : List Int) : D := .tup [.int w, .tup (cs.map D.int)]
def isF (d : D) : Prop := ∃ w cs, d = fld w cs ∧ fOk w cs
/-- a small thing, texts of any signs -/
def smN : Nat → D → Prop
  | n + 1, .tup ds => ds.length ≤ 500000 ∧ ∀ d ∈ ds, smN n d
  | n + 1, .lst .shr ds => ds.length ≤ 500000 ∧ ∀ d ∈ ds, smN n d
  | _, .non => True
  | _, .bl _ => True
  | _, .int _ => True
  | _, .str s => PyData.strOk s = true ∧ s.length ≤ 2000
  | _, .dct .shr _ _ => True
  | _, _ => False
def sm (d : D) : Prop := ∃ n, smN n d
/-- whether, as a truth -/
noncomputable def tF (p : Prop) : Bool := @decide p (Classical.propDecidable p)
def S_is_field : SD := fun es Q _ => ∃ d, es = [d] ∧ sm d ∧ Q (.bl (tF (isF d))) es
theorem SM_is_field : SMono S_is_field := fun es P P' E E' hp he ⟨d, h0, h1, h2⟩ => ⟨d, h0, h1, hp _ _ h2⟩
theorem SL_is_field (ds Q E) (h : S_is_field ds Q E) : ds.length = [""].length := by obtain ⟨_, rfl, _⟩ := h; rfl
def bad (d : D) : Prop := d.solid = true ∧ (tyD d).isSome = true
theorem nB_bad {d : D} (h : bad d) {i : Nat} {ρ : List D} {Q : D → Option Nat → List D → Prop} : nB d i ρ Q = Q d none ρ := by
  obtain ⟨h1, h2⟩ := h
  cases d with
  | gone => cases h2
  | tup es =>
    have e : solids es = true := h1
    simp only [nB, e, if_true]
  | lst m es => cases m <;> first | rfl | cases h1
  | dct m ks es => cases m <;> first | rfl | cases h1
  | ndc m ks es => cases h2
  | ldc => cases h2
  | ins => cases h2
  | _ => rfl
theorem tF_f {p : Prop} (h : ¬ p) : tF p = false := @decide_eq_false _ (Classical.propDecidable p) h
theorem tF_t {p : Prop} (h : p) : tF p = true := @decide_eq_true _ (Classical.propDecidable p) h
def S_need_field : SD := fun es Q E => ∃ d, es = [d] ∧ sm d ∧ (isF d → Q .non es) ∧ (¬ isF d → E "NoField" [] es)
theorem SM_need_field : SMono S_need_field := fun es P P' E E' hp he ⟨d, h0, h1, h2, h3⟩ => ⟨d, h0, h1, fun h => hp _ _ (h2 h), fun h => he _ _ _ (h3 h)⟩
theorem SL_need_field (ds Q E) (h : S_need_field ds Q E) : ds.length = [""].length := by obtain ⟨_, rfl, _⟩ := h; rfl
def S_is_cell : SD := fun es Q _ => ∃ w cs d, es = [fld w cs, d] ∧ fOk w cs ∧ bad d ∧ Q (.bl (isWhole d 0 ((cs.length : Int) - 1))) es
theorem SM_is_cell : SMono S_is_cell := fun es P P' E E' hp he ⟨w, cs, d, h0, h1, h2, h3⟩ => ⟨w, cs, d, h0, h1, h2, hp _ _ h3⟩
theorem SL_is_cell (ds Q E) (h : S_is_cell ds Q E) : ds.length = ["", ""].length := by obtain ⟨_, _, _, rfl, _⟩ := h; rfl
/-- the number of a thing, where it is one -/
def valI : D → Int
  | .int i => i
  | _ => 0
/-- whether a thing is a rising tuple of cells -/
def areB (n : Int) : D → Bool
  | .tup xs => xs.all (fun x => isWhole x 0 (n - 1)) && decide ((xs.map valI).Pairwise (· < ·))
  | _ => false
/-- what may stand there for cells -/
def oddC (d : D) : Prop := bad d ∧ ∀ xs, d = .tup xs → xs.length ≤ 500000 ∧ ∀ x ∈ xs, bad x
def S_are_cells : SD := fun es Q _ => ∃ (w : _) (cs : _) (d : _), es = [fld w cs, d] ∧ fOk w cs ∧ oddC d ∧ Q (.bl (areB cs.length d)) es
theorem SM_are_cells : SMono S_are_cells := fun es P P' E E' hp he ⟨w, cs, d, h0, h1, h2, h3⟩ => ⟨w, cs, d, h0, h1, h2, hp _ _ h3⟩
theorem SL_are_cells (ds Q E) (h : S_are_cells ds Q E) : ds.length = ["field", "thing"].length := by obtain ⟨_, _, _, rfl, _⟩ := h; rfl
/-- a change: its day, its sort, its cells -/
abbrev Chg := Int × Str × List Int
/-- a change -/
def cg (day : Int) (sort : Str) (ks : List Int) : D := .tup [.int day, .str sort, tl ks]
def cgC (c : Chg) : D := cg c.1 c.2.1 c.2.2
def okC (n : Int) (ks : List Int) : Prop := ks.Pairwise (· < ·) ∧ ∀ k ∈ ks, 0 ≤ k ∧ k < n
structure chOk (n : Int) (day : Int) (sort : Str) (ks : List Int) : Prop where
  day : 0 ≤ day ∧ day ≤ 999
  sort : sort = "leap" ∨ sort = "slow"
  cells : okC n ks
  some : 1 ≤ ks.length
  few : ks.length ≤ 16
def isCh (n : Int) (d : D) : Prop := ∃ c : Chg, d = cgC c ∧ chOk n c.1 c.2.1 c.2.2
def S_change_in : SD := fun es Q _ => ∃ w cs d, es = [fld w cs, d] ∧ fOk w cs ∧ sm d ∧ Q (.bl (tF (isCh cs.length d))) es
theorem SM_change_in : SMono S_change_in := fun es P P' E E' hp he ⟨w, cs, d, h0, h1, h2, h3⟩ => ⟨w, cs, d, h0, h1, h2, hp _ _ h3⟩
theorem SL_change_in (ds Q E) (h : S_change_in ds Q E) : ds.length = ["", ""].length := by obtain ⟨_, _, _, rfl, _⟩ := h; rfl
def S_need_pace : SD := fun es Q E => ∃ d, es = [d] ∧ sm d ∧ (isWhole d 1 9 = true → Q .non es) ∧ (isWhole d 1 9 = false → E "NoPace" [] es)
theorem SM_need_pace : SMono S_need_pace := fun es P P' E E' hp he ⟨d, h1, h2, h3, h4⟩ => ⟨d, h1, h2, fun z => hp _ _ (h3 z), fun z => he _ _ _ (h4 z)⟩
theorem SL_need_pace (ds Q E) (h : S_need_pace ds Q E) : ds.length = [""].length := by obtain ⟨_, rfl, _⟩ := h; rfl
/-- a telling: who told it, the change -/
abbrev Tlg := Int × Chg
def tgD (t : Tlg) : D := .tup [.int t.1, cgC t.2]
def tgOk (n : Int) (t : Tlg) : Prop := 1 ≤ t.1 ∧ t.1 ≤ 9 ∧ chOk n t.2.1 t.2.2.1 t.2.2.2
def isTg (n : Int) (d : D) : Prop := ∃ t : Tlg, d = tgD t ∧ tgOk n t
def S_is_telling : SD := fun es Q _ => ∃ w cs d, es = [fld w cs, d] ∧ fOk w cs ∧ sm d ∧ Q (.bl (tF (isTg cs.length d))) es
theorem SM_is_telling : SMono S_is_telling := fun es P P' E E' hp he ⟨w, cs, d, h0, h1, h2, h3⟩ => ⟨w, cs, d, h0, h1, h2, hp _ _ h3⟩
theorem SL_is_telling (ds Q E) (h : S_is_telling ds Q E) : ds.length = ["", ""].length := by obtain ⟨_, _, _, rfl, _⟩ := h; rfl
/-- a mark: its day, its cell, whether it was wet -/
abbrev Mrk := Int × Int × Bool
def mkD (k : Mrk) : D := .tup [.int k.1, .int k.2.1, .bl k.2.2]
def mkOk (n : Int) (k : Mrk) : Prop := 0 ≤ k.1 ∧ k.1 ≤ 999 ∧ 0 ≤ k.2.1 ∧ k.2.1 < n
def isMk (n : Int) (d : D) : Prop := ∃ k : Mrk, d = mkD k ∧ mkOk n k
def S_is_mark : SD := fun es Q _ => ∃ w cs d, es = [fld w cs, d] ∧ fOk w cs ∧ sm d ∧ Q (.bl (tF (isMk cs.length d))) es
theorem SM_is_mark : SMono S_is_mark := fun es P P' E E' hp he ⟨w, cs, d, h0, h1, h2, h3⟩ => ⟨w, cs, d, h0, h1, h2, hp _ _ h3⟩
theorem SL_is_mark (ds Q E) (h : S_is_mark ds Q E) : ds.length = ["", ""].length := by obtain ⟨_, _, _, rfl, _⟩ := h; rfl
def S_need_telling : SD := fun es Q E => ∃ w cs d, es = [fld w cs, d] ∧ fOk w cs ∧ sm d ∧ (isTg cs.length d → Q .non es) ∧ (¬ isTg cs.length d → E "NoTelling" [] es)
theorem SM_need_telling : SMono S_need_telling := fun es P P' E E' hp he ⟨w, cs, d, h0, hf, h1, h2, h3⟩ => ⟨w, cs, d, h0, hf, h1, fun h => hp _ _ (h2 h), fun h => he _ _ _ (h3 h)⟩
theorem SL_need_telling (ds Q E) (h : S_need_telling ds Q E) : ds.length = ["", ""].length := by obtain ⟨_, _, _, rfl, _⟩ := h; rfl
def S_need_mark : SD := fun es Q E => ∃ w cs d, es = [fld w cs, d] ∧ fOk w cs ∧ sm d ∧ (isMk cs.length d → Q .non es) ∧ (¬ isMk cs.length d → E "NoMark" [] es)
theorem SM_need_mark : SMono S_need_mark := fun es P P' E E' hp he ⟨w, cs, d, h0, hf, h1, h2, h3⟩ => ⟨w, cs, d, h0, hf, h1, fun h => hp _ _ (h2 h), fun h => he _ _ _ (h3 h)⟩
theorem SL_need_mark (ds Q E) (h : S_need_mark ds Q E) : ds.length = ["", ""].length := by obtain ⟨_, _, _, rfl, _⟩ := h; rfl
def S_law_cell : SD := fun es Q _ => ∃ (ns : List Int) (k : Int), es = [.lst .con (ns.map D.int), .int k] ∧ ns.length ≤ 63 ∧ 0 ≤ k ∧ k ≤ 100 ∧ ∀ c, Q (.int c) es
theorem SM_law_cell : SMono S_law_cell := fun es P P' E E' hp he ⟨ns, k, h1, h2, h3, h4, h5⟩ => ⟨ns, k, h1, h2, h3, h4, fun d => hp _ _ (h5 d)⟩
theorem SL_law_cell (ds Q E) (h : S_law_cell ds Q E) : ds.length = ["", ""].length := by obtain ⟨d, e, rfl, _⟩ := h; rfl
def S_law_mix : SD := fun es Q _ => ∃ c k : Int, es = [.int c, .int k] ∧ 0 ≤ k ∧ k ≤ 1000 ∧ ∀ m, 0 ≤ m → m < 1000000007 → Q (.int m) es
theorem SM_law_mix : SMono S_law_mix := fun es P P' E E' hp he ⟨c, k, h1, h2, h3, h4⟩ => ⟨c, k, h1, h2, h3, fun m a b => hp _ _ (h4 m a b)⟩
theorem SL_law_mix (ds Q E) (h : S_law_mix ds Q E) : ds.length = ["", ""].length := by obtain ⟨d, e, rfl, _⟩ := h; rfl
def box (a : Int) : D := .lst .own [.int a]
def S_law_box : SD := fun es Q _ => ∃ (ns : List Int) (k l : Int), es = [.lst .con (ns.map D.int), .int k, .int l] ∧ ns.length ≤ 63 ∧ 0 ≤ k ∧ k ≤ 100 ∧ 0 ≤ l ∧ l ≤ 1 ∧ ∀ a, Q (box a) es
theorem SM_law_box : SMono S_law_box := fun es P P' E E' hp he ⟨ns, k, l, h1, h2, h3, h4, h5, h6, h7⟩ => ⟨ns, k, l, h1, h2, h3, h4, h5, h6, fun d => hp _ _ (h7 d)⟩
theorem SL_law_box (ds Q E) (h : S_law_box ds Q E) : ds.length = ["", "", ""].length := by obtain ⟨d, e, f, rfl, _⟩ := h; rfl
def S_law_take : SD := fun es Q _ => ∃ a c : Int, es = [box a, .int c] ∧ 1 ≤ c ∧ c ≤ 2 ^ 40 ∧ ∀ a' d : Int, 0 ≤ d → d < c → Q (.int d) [box a', .int c]
theorem SM_law_take : SMono S_law_take := fun es P P' E E' hp he ⟨a, c, h1, h2, h3, h4⟩ => ⟨a, c, h1, h2, h3, fun a' d x y => hp _ _ (h4 a' d x y)⟩
theorem SL_law_take (ds Q E) (h : S_law_take ds Q E) : ds.length = ["", ""].length := by obtain ⟨d, e, rfl, _⟩ := h; rfl
def S_law_field : SD := fun es Q _ => ∃ (a : _) (m : _), es = [box a, .int m] ∧ 1 ≤ m ∧ m ≤ 8 ∧ ∀ a2 w cs, fOk w cs → Q (fld w cs) [box a2, .int m]
theorem SM_law_field : SMono S_law_field := fun es P P' E E' hp he ⟨a, m, h0, h1, h2, h3⟩ => ⟨a, m, h0, h1, h2, fun x0 x1 x2 y0 => hp _ _ (h3 x0 x1 x2 y0)⟩
theorem SL_law_field (ds Q E) (h : S_law_field ds Q E) : ds.length = ["box", "most"].length := by obtain ⟨_, _, rfl, _⟩ := h; rfl
def il (m : M) (xs : List Int) : D := .lst m (xs.map D.int)
def at_ (cs : List Int) (c : Int) : Int := cs.getD c.toNat 0
def csD (m1 m2 : M) (w : Int) (cs : List Int) (p : Int) (T : List Tlg) (K : List Mrk) : D := .tup [fld w cs, .int p, .lst m1 (T.map tgD), .lst m2 (K.map mkD)]
structure csOk (w : Int) (cs : List Int) (p : Int) (T : List Tlg) (K : List Mrk) : Prop where
  f : fOk w cs
  pace : 1 ≤ p ∧ p ≤ 9
  tl : T.length ≤ 16
  te : ∀ t ∈ T, tgOk cs.length t
  kl : K.length ≤ 40
  ke : ∀ k ∈ K, mkOk cs.length k
def mOS (m : M) : Prop := m = .own ∨ m = .shr
/-- what a register keeps now -/
def stD (m1 m2 : M) (s : List Tlg × List Mrk) : D := .tup [.lst m1 (s.1.map tgD), .lst m2 (s.2.map mkD)]
def paD (P : List (List Tlg × List Mrk)) : List D := P.map (stD .shr .shr)
def rgD (pa : Option Addr) (m1 m2 : M) (w : Int) (cs : List Int) (p : Int) (s : List Tlg × List Mrk) (P : List (List Tlg × List Mrk)) : D := .ins pa "Register" ks_Register [fld w cs, .int p, stD m1 m2 s, .lst .own (paD P)]
structure rgOk (w : Int) (cs : List Int) (p : Int) (s : List Tlg × List Mrk) (P : List (List Tlg × List Mrk)) : Prop where
  c : csOk w cs p s.1 s.2
  old : ∀ z ∈ P, csOk w cs p z.1 z.2
  few : P.length ≤ 300
def S_with_one : SD := fun es Q E => ∃ (m : M) (xs : List D) (d : D) (n : Nat), es = [.lst m xs, d, .int (n : Int)] ∧ mOS m ∧ solids xs = true ∧ shp (.lst m xs) ∧ shp d ∧ bad d ∧ xs.length ≤ 100 ∧ (isIn d xs = true → E "There" [] es) ∧ (isIn d xs = false → xs.length = n → E "TooMany" [(n : Int) + 1, n] es) ∧ (isIn d xs = false → xs.length ≠ n → Q (.lst .own (xs ++ [d])) es)
theorem SM_with_one : SMono S_with_one := fun es P P' E E' hp he ⟨m, xs, d, n, h0, h1, h2, h3, h4, h5, h6, x, y, z⟩ => ⟨m, xs, d, n, h0, h1, h2, h3, h4, h5, h6, fun h => he _ _ _ (x h), fun h k => he _ _ _ (y h k), fun h k => hp _ _ (z h k)⟩
theorem SL_with_one (ds Q E) (h : S_with_one ds Q E) : ds.length = ["", "", ""].length := by obtain ⟨_, _, _, _, rfl, _⟩ := h; rfl
def S_without_one : SD := fun es Q E => ∃ (m : M) (xs : List D) (d : D), es = [.lst m xs, d] ∧ mOS m ∧ solids xs = true ∧ shp (.lst m xs) ∧ (∀ x ∈ xs, shp x ∧ bad x) ∧ shp d ∧ bad d ∧ xs.length ≤ 100 ∧ (isIn d xs = false → E "Gone" [] es) ∧ (isIn d xs = true → Q (.lst .own (xs.filter fun x => !eqd x d)) [.lst .shr xs, d])
theorem SM_without_one : SMono S_without_one := fun es P P' E E' hp he ⟨m, xs, d, h0, h1, h2, h3, h4, h5, h6, h7, x, y⟩ => ⟨m, xs, d, h0, h1, h2, h3, h4, h5, h6, h7, fun h => he _ _ _ (x h), fun h => hp _ _ (y h)⟩
theorem SL_without_one (ds Q E) (h : S_without_one ds Q E) : ds.length = ["", ""].length := by obtain ⟨_, _, _, rfl, _⟩ := h; rfl
def S_Register__init : SD := fun es Q E => ∃ (pa : Option Addr) (d e : D), es = [.ins pa "Register" [] [], d, e] ∧ sm d ∧ sm e ∧ (¬ isF d → E "NoField" [] es) ∧ (isF d → isWhole e 1 9 = false → E "NoPace" [] es) ∧ (∀ w cs p, d = fld w cs → fOk w cs → e = .int p → 1 ≤ p → p ≤ 9 → Q .non [rgD pa .own .own w cs p ([], []) [], d, e])
theorem SM_Register__init : SMono S_Register__init := fun es P P' E E' hp he ⟨pa, d, e, h0, h1, h2, x, y, z⟩ => ⟨pa, d, e, h0, h1, h2, fun h => he _ _ _ (x h), fun h k => he _ _ _ (y h k), fun w cs p a b c d' e' => hp _ _ (z w cs p a b c d' e')⟩
theorem SL_Register__init (ds Q E) (h : S_Register__init ds Q E) : ds.length = ["", "", ""].length := by obtain ⟨_, _, _, rfl, _⟩ := h; rfl
def S_Register_become : SD := fun es Q _ => ∃ (pa : _) (m1 : _) (m2 : _) (w : _) (cs : _) (p : _) (s : _) (P : _) (a : _) (b : _) (s2 : List Tlg × List Mrk), es = [rgD pa m1 m2 w cs p s P, .lst a (s2.1.map tgD), .lst b (s2.2.map mkD)] ∧ mOS m1 ∧ mOS m2 ∧ mOS a ∧ mOS b ∧ rgOk w cs p s P ∧ Q .non [rgD pa .shr .shr w cs p s2 (P ++ [s]), .lst .shr (s2.1.map tgD), .lst .shr (s2.2.map mkD)]
/-- a deed with a thing: refused at its words, or done -/
def deedS (isX : Int → D → Prop) (no : Str) (R : (List Tlg × List Mrk) → D → (Str → List Int → Prop) → ((List Tlg × List Mrk) → Prop) → Prop) : SD := fun es Q E => ∃ (pa : Option Addr) (m1 m2 : M) (w : Int) (cs : List Int) (p : Int) (s : List Tlg × List Mrk) (P : List (List Tlg × List Mrk)) (d : D), es = [rgD pa m1 m2 w cs p s P, d] ∧ mOS m1 ∧ mOS m2 ∧ rgOk w cs p s P ∧ P.length ≤ 200 ∧ sm d ∧
  (¬ isX cs.length d → ∀ a b, mOS a → mOS b → E no [] [rgD pa a b w cs p s P, d]) ∧
  (isX cs.length d → R s d (fun c ns => ∀ a b, mOS a → mOS b → E c ns [rgD pa a b w cs p s P, d]) fun s2 => ∀ a b, mOS a → mOS b → Q .non [rgD pa a b w cs p s2 (P ++ [s]), d])
def RMono (R : (List Tlg × List Mrk) → D → (Str → List Int → Prop) → ((List Tlg × List Mrk) → Prop) → Prop) : Prop := ∀ s d A A' B B', (∀ c n, A c n → A' c n) → (∀ s, B s → B' s) → R s d A B → R s d A' B'
theorem deedS_mono {isX : Int → D → Prop} {no : Str} {R : (List Tlg × List Mrk) → D → (Str → List Int → Prop) → ((List Tlg × List Mrk) → Prop) → Prop} (hR : RMono R) : SMono (deedS isX no R) := fun es P P' E E' hp he ⟨pa, m1, m2, w, cs, p, s, Pa, d, h0, h1, h2, h3, h4, h5, x, y⟩ =>
  ⟨pa, m1, m2, w, cs, p, s, Pa, d, h0, h1, h2, h3, h4, h5, fun h a b ha hb => he _ _ _ (x h a b ha hb), fun h => hR _ _ _ _ _ _ (fun c n z a b ha hb => he _ _ _ (z a b ha hb)) (fun s z a b ha hb => hp _ _ (z a b ha hb)) (y h)⟩
def R_tell (s : List Tlg × List Mrk) (d : D) (A : Str → List Int → Prop) (B : (List Tlg × List Mrk) → Prop) : Prop := ∀ t, d = tgD t → (t ∈ s.1 → A "There" []) ∧ (t ∉ s.1 → s.1.length = 16 → A "TooMany" [17, 16]) ∧ (t ∉ s.1 → s.1.length < 16 → B (s.1 ++ [t], s.2))
def R_see (s : List Tlg × List Mrk) (d : D) (A : Str → List Int → Prop) (B : (List Tlg × List Mrk) → Prop) : Prop := ∀ t, d = mkD t → (t ∈ s.2 → A "There" []) ∧ (t ∉ s.2 → s.2.length = 40 → A "TooMany" [41, 40]) ∧ (t ∉ s.2 → s.2.length < 40 → B (s.1, s.2 ++ [t]))
def R_unsay (s : List Tlg × List Mrk) (d : D) (A : Str → List Int → Prop) (B : (List Tlg × List Mrk) → Prop) : Prop := ∀ t, d = tgD t → (t ∉ s.1 → A "Gone" []) ∧ (t ∈ s.1 → B (s.1.filter fun x => decide (x ≠ t), s.2))
def R_unsee (s : List Tlg × List Mrk) (d : D) (A : Str → List Int → Prop) (B : (List Tlg × List Mrk) → Prop) : Prop := ∀ t, d = mkD t → (t ∉ s.2 → A "Gone" []) ∧ (t ∈ s.2 → B (s.1, s.2.filter fun x => decide (x ≠ t)))
def S_Register_tell : SD := deedS isTg "NoTelling" R_tell
def S_Register_see : SD := deedS isMk "NoMark" R_see
def S_Register_unsay : SD := deedS isTg "NoTelling" R_unsay
def S_Register_unsee : SD := deedS isMk "NoMark" R_unsee
theorem SM_Register_tell : SMono S_Register_tell := deedS_mono fun s d A A' B B' ha hb h t e => ⟨fun z => ha _ _ ((h t e).1 z), fun z k => ha _ _ ((h t e).2.1 z k), fun z k => hb _ ((h t e).2.2 z k)⟩
theorem SM_Register_see : SMono S_Register_see := deedS_mono fun s d A A' B B' ha hb h t e => ⟨fun z => ha _ _ ((h t e).1 z), fun z k => ha _ _ ((h t e).2.1 z k), fun z k => hb _ ((h t e).2.2 z k)⟩
theorem SM_Register_unsay : SMono S_Register_unsay := deedS_mono fun s d A A' B B' ha hb h t e => ⟨fun z => ha _ _ ((h t e).1 z), fun z => hb _ ((h t e).2 z)⟩
theorem SM_Register_unsee : SMono S_Register_unsee := deedS_mono fun s d A A' B B' ha hb h t e => ⟨fun z => ha _ _ ((h t e).1 z), fun z => hb _ ((h t e).2 z)⟩
theorem SL_deed {isX no R} (ds Q E) (h : deedS isX no R ds Q E) : ds.length = ["", ""].length := by obtain ⟨_, _, _, _, _, _, _, _, _, rfl, _⟩ := h; rfl
theorem SL_Register_tell (ds Q E) (h : S_Register_tell ds Q E) : ds.length = ["", ""].length := SL_deed ds Q E h
theorem SL_Register_see (ds Q E) (h : S_Register_see ds Q E) : ds.length = ["", ""].length := SL_deed ds Q E h
theorem SL_Register_unsay (ds Q E) (h : S_Register_unsay ds Q E) : ds.length = ["", ""].length := SL_deed ds Q E h
theorem SL_Register_unsee (ds Q E) (h : S_Register_unsee ds Q E) : ds.length = ["", ""].length := SL_deed ds Q E h
def S_Register_undo : SD := fun es Q E => ∃ (pa : Option Addr) (m1 m2 : M) (w : Int) (cs : List Int) (p : Int) (s : List Tlg × List Mrk) (P : List (List Tlg × List Mrk)), es = [rgD pa m1 m2 w cs p s P] ∧ mOS m1 ∧ mOS m2 ∧ rgOk w cs p s P ∧ (P = [] → ∀ a b, mOS a → mOS b → E "Nothing" [] [rgD pa a b w cs p s P]) ∧ (∀ P0 s0, P = P0 ++ [s0] → ∀ a b, mOS a → mOS b → Q .non [rgD pa a b w cs p s0 P0])
theorem SM_Register_undo : SMono S_Register_undo := fun es P P' E E' hp he ⟨pa, m1, m2, w, cs, p, s, Pa, h0, h1, h2, h3, x, y⟩ => ⟨pa, m1, m2, w, cs, p, s, Pa, h0, h1, h2, h3, fun h a b ha hb => he _ _ _ (x h a b ha hb), fun P0 s0 h a b ha hb => hp _ _ (y P0 s0 h a b ha hb)⟩
theorem SL_Register_undo (ds Q E) (h : S_Register_undo ds Q E) : ds.length = [""].length := by obtain ⟨_, _, _, _, _, _, _, _, rfl, _⟩ := h; rfl
/-- told in order -/
def srtT (T : List Tlg) : List Tlg := T.mergeSort fun a b => leD (tgD a) (tgD b)
def srtK (K : List Mrk) : List Mrk := K.mergeSort fun a b => leD (mkD a) (mkD b)
def S_Register_case_now : SD := fun es Q _ => ∃ (pa : _) (m1 : _) (m2 : _) (w : _) (cs : _) (p : _) (s : _) (P : _), es = [rgD pa m1 m2 w cs p s P] ∧ mOS m1 ∧ mOS m2 ∧ rgOk w cs p s P ∧ Q (csD .own .own w cs p (srtT s.1) (srtK s.2)) [rgD pa .shr .shr w cs p s P]
def S_holders : SD := fun es _ E => ∃ (m1 : _) (m2 : _) (w : _) (cs : _) (p : _) (T : _) (K : _) (d : D), es = [csD m1 m2 w cs p T K, d] ∧ mOS m1 ∧ mOS m2 ∧ csOk w cs p T K ∧ sm d ∧ isWhole d 0 999 = false ∧ E "NoDay" [] [csD .shr .shr w cs p T K, d]
theorem SM_holders : SMono S_holders := fun es P P' E E' hp he ⟨m1, m2, w, cs, p, T, K, d, h0, h1, h2, h3, h4, h5, x⟩ => ⟨m1, m2, w, cs, p, T, K, d, h0, h1, h2, h3, h4, h5, he _ _ _ x⟩
theorem SL_holders (ds Q E) (h : S_holders ds Q E) : ds.length = ["", ""].length := by obtain ⟨_, _, _, _, _, _, _, _, rfl, _⟩ := h; rfl
def S_hangs : SD := fun es _ E => ∃ (m1 : _) (m2 : _) (w : _) (cs : _) (p : _) (T : _) (K : _) (d c : D), es = [csD m1 m2 w cs p T K, d, c] ∧ mOS m1 ∧ mOS m2 ∧ csOk w cs p T K ∧ sm d ∧ sm c ∧ (isWhole d 0 999 = true → isWhole c 0 ((cs.length : Int) - 1) = false) ∧ (isWhole d 0 999 = false → E "NoDay" [] [csD .shr .shr w cs p T K, d, c]) ∧ (isWhole d 0 999 = true → E "NoCell" [] [csD .shr .shr w cs p T K, d, c])
theorem SM_hangs : SMono S_hangs := fun es P P' E E' hp he ⟨m1, m2, w, cs, p, T, K, d, c, h0, h1, h2, h3, h4, h5, h6, x, y⟩ => ⟨m1, m2, w, cs, p, T, K, d, c, h0, h1, h2, h3, h4, h5, h6, fun h => he _ _ _ (x h), fun h => he _ _ _ (y h)⟩
theorem SL_hangs (ds Q E) (h : S_hangs ds Q E) : ds.length = ["", "", ""].length := by obtain ⟨_, _, _, _, _, _, _, _, _, rfl, _⟩ := h; rfl
def S_Register_holders_now : SD := fun es _ E => ∃ (pa : Option Addr) (m1 : _) (m2 : _) (w : _) (cs : _) (p : _) (s : _) (P : _) (d : D), es = [rgD pa m1 m2 w cs p s P, d] ∧ mOS m1 ∧ mOS m2 ∧ rgOk w cs p s P ∧ sm d ∧ isWhole d 0 999 = false ∧ E "NoDay" [] [rgD pa .shr .shr w cs p s P, d]
theorem SM_Register_holders_now : SMono S_Register_holders_now := fun es P P' E E' hp he ⟨pa, m1, m2, w, cs, p, T, K, d, h0, h1, h2, h3, h4, h5, x⟩ => ⟨pa, m1, m2, w, cs, p, T, K, d, h0, h1, h2, h3, h4, h5, he _ _ _ x⟩
theorem SL_Register_holders_now (ds Q E) (h : S_Register_holders_now ds Q E) : ds.length = ["", ""].length := by obtain ⟨_, _, _, _, _, _, _, _, _, rfl, _⟩ := h; rfl
def S_Register_hangs_now : SD := fun es _ E => ∃ (pa : Option Addr) (m1 : _) (m2 : _) (w : _) (cs : _) (p : _) (s : _) (P : _) (d c : D), es = [rgD pa m1 m2 w cs p s P, d, c] ∧ mOS m1 ∧ mOS m2 ∧ rgOk w cs p s P ∧ sm d ∧ sm c ∧ (isWhole d 0 999 = true → isWhole c 0 ((cs.length : Int) - 1) = false) ∧ (isWhole d 0 999 = false → E "NoDay" [] [rgD pa .shr .shr w cs p s P, d, c]) ∧ (isWhole d 0 999 = true → E "NoCell" [] [rgD pa .shr .shr w cs p s P, d, c])
theorem SM_Register_hangs_now : SMono S_Register_hangs_now := fun es P P' E E' hp he ⟨pa, m1, m2, w, cs, p, T, K, d, c, h0, h1, h2, h3, h4, h5, h6, x, y⟩ => ⟨pa, m1, m2, w, cs, p, T, K, d, c, h0, h1, h2, h3, h4, h5, h6, fun h => he _ _ _ (x h), fun h => he _ _ _ (y h)⟩
theorem SL_Register_hangs_now (ds Q E) (h : S_Register_hangs_now ds Q E) : ds.length = ["", "", ""].length := by obtain ⟨_, _, _, _, _, _, _, _, _, _, rfl, _⟩ := h; rfl
def S_is_case : SD := fun es Q _ => ∃ (m1 : _) (m2 : _) (w : _) (cs : _) (p : _) (T : _) (K : _), es = [csD m1 m2 w cs p T K] ∧ mOS m1 ∧ mOS m2 ∧ csOk w cs p T K ∧ Q (.bl true) [csD .shr .shr w cs p T K]
def S_need_case : SD := fun es Q _ => ∃ (m1 : _) (m2 : _) (w : _) (cs : _) (p : _) (T : _) (K : _), es = [csD m1 m2 w cs p T K] ∧ mOS m1 ∧ mOS m2 ∧ csOk w cs p T K ∧ Q .non [csD .shr .shr w cs p T K]
def S_need_day : SD := fun es Q E => ∃ d, es = [d] ∧ sm d ∧ (isWhole d 0 999 = true → Q .non es) ∧ (isWhole d 0 999 = false → E "NoDay" [] es)
theorem SM_need_day : SMono S_need_day := fun es P P' E E' hp he ⟨d, h1, h2, h3, h4⟩ => ⟨d, h1, h2, fun z => hp _ _ (h3 z), fun z => he _ _ _ (h4 z)⟩
theorem SL_need_day (ds Q E) (h : S_need_day ds Q E) : ds.length = [""].length := by obtain ⟨_, rfl, _⟩ := h; rfl
def S_need_cell : SD := fun es Q E => ∃ w cs d, es = [fld w cs, d] ∧ fOk w cs ∧ sm d ∧ (isWhole d 0 ((cs.length : Int) - 1) = true → Q .non es) ∧ (isWhole d 0 ((cs.length : Int) - 1) = false → E "NoCell" [] es)
theorem SM_need_cell : SMono S_need_cell := fun es P P' E E' hp he ⟨w, cs, d, h0, h1, h2, h3, h4⟩ => ⟨w, cs, d, h0, h1, h2, fun z => hp _ _ (h3 z), fun z => he _ _ _ (h4 z)⟩
theorem SL_need_cell (ds Q E) (h : S_need_cell ds Q E) : ds.length = ["", ""].length := by obtain ⟨_, _, _, rfl, _⟩ := h; rfl
def smB : Nat → D → Bool
  | n + 1, .tup ds => decide (ds.length ≤ 500000) && ds.all (smB n)
  | n + 1, .lst .shr ds => decide (ds.length ≤ 500000) && ds.all (smB n)
  | _, .non => true
  | _, .bl _ => true
  | _, .int _ => true
  | _, .str s => PyData.strOk s && decide (s.length ≤ 2000)
  | _, .dct .shr _ _ => true
  | _, _ => false
/-- an odd thing that is no telling and no mark -/
def noTM : D → Bool
  | .tup [.int _, .int _, .bl _] => false
  | .tup [.int _, .tup [.int _, .str _, .tup _]] => false
  | _ => true
def oddNo (d : D) : Bool := smB 3 d && noTM d
def S_law_odd : SD := fun es Q _ => ∃ (a : _), es = [box a] ∧ True ∧ ∀ a2 d, oddNo d = true → Q d [box a2]
def S_law_made_right : SD := fun es Q _ => ∃ (w : _) (cs : _) (p : Int), es = [fld w cs, .int p] ∧ fOk w cs ∧ 0 ≤ p ∧ Q (.bl true) es
/-- sixteen tellings, forty marks -/
def many : List Tlg := (List.range 17).map fun (i : Nat) => (1 + (i : Int) % 9, ((i : Int), "slow", [0]))
def marks : List Mrk := (List.range 41).map fun (i : Nat) => ((i : Int), 0, decide ((i : Int) % 2 = 0))
def stAt (j : Nat) : List Tlg × List Mrk := (many.take (min j 16), marks.take (j - 16))
def S_law_full_right : SD := fun es Q _ => ∃ (pa : _) (m1 : _) (m2 : _) (w : _) (cs : _) (p : _) (d : _), es = [rgD pa m1 m2 w cs p ([], []) [], fld w cs, d] ∧ mOS m1 ∧ mOS m2 ∧ fOk w cs ∧ 1 ≤ p ∧ p ≤ 9 ∧ sm d ∧ ¬ isTg cs.length d ∧ ¬ isMk cs.length d ∧ ∀ a b, mOS a → mOS b → Q (.bl true) [rgD pa a b w cs p (stAt 56) ((List.range 56).map stAt), fld w cs, d]
def S_law_asked_right : SD := fun es Q _ => ∃ (pa : _) (m1 : _) (m2 : _) (w : _) (cs : _) (p : _) (s : _) (P : _) (d : _), es = [rgD pa m1 m2 w cs p s P, fld w cs, d] ∧ mOS m1 ∧ mOS m2 ∧ rgOk w cs p s P ∧ ∀ a b, mOS a → mOS b → Q (.bl true) [rgD pa a b w cs p s P, fld w cs, d]
def S_law_right : SD := fun es Q _ => ∃ (a : _), es = [box a] ∧ True ∧ ∀ r, Q (.bl true) r
def S_law : SD := fun es Q _ => ∃ (ns : _), es = [.lst .con (List.map D.int ns)] ∧ List.length ns ≤ 63 ∧ ∀ (r : List D), Q (.bl true) r

theorem SM_Register_become : SMono S_Register_become := fun es P P' E E' hp he ⟨pa, m1, m2, w, cs, p, s, P, a, b, s2, h0, h1, h2, h3, h4, h5, h6⟩ => ⟨pa, m1, m2, w, cs, p, s, P, a, b, s2, h0, h1, h2, h3, h4, h5, hp _ _ h6⟩
theorem SM_Register_case_now : SMono S_Register_case_now := fun es P P' E E' hp he ⟨pa, m1, m2, w, cs, p, s, P, h0, h1, h2, h3, h4⟩ => ⟨pa, m1, m2, w, cs, p, s, P, h0, h1, h2, h3, hp _ _ h4⟩
theorem SM_is_case : SMono S_is_case := fun es P P' E E' hp he ⟨m1, m2, w, cs, p, T, K, h0, h1, h2, h3, h4⟩ => ⟨m1, m2, w, cs, p, T, K, h0, h1, h2, h3, hp _ _ h4⟩
theorem SM_need_case : SMono S_need_case := fun es P P' E E' hp he ⟨m1, m2, w, cs, p, T, K, h0, h1, h2, h3, h4⟩ => ⟨m1, m2, w, cs, p, T, K, h0, h1, h2, h3, hp _ _ h4⟩
theorem SM_law_odd : SMono S_law_odd := fun es P P' E E' hp he ⟨a, h0, h1, h2⟩ => ⟨a, h0, h1, fun x0 x1 y0 => hp _ _ (h2 x0 x1 y0)⟩
theorem SM_law_made_right : SMono S_law_made_right := fun es P P' E E' hp he ⟨w, cs, p, h0, h1, h2, h3⟩ => ⟨w, cs, p, h0, h1, h2, hp _ _ h3⟩
theorem SM_law_full_right : SMono S_law_full_right := fun es P P' E E' hp he ⟨pa, m1, m2, w, cs, p, d, h0, h1, h2, h3, h4, h5, h6, h7, h8, h9⟩ => ⟨pa, m1, m2, w, cs, p, d, h0, h1, h2, h3, h4, h5, h6, h7, h8, fun x0 x1 y0 y1 => hp _ _ (h9 x0 x1 y0 y1)⟩
theorem SM_law_asked_right : SMono S_law_asked_right := fun es P P' E E' hp he ⟨pa, m1, m2, w, cs, p, s, P, d, h0, h1, h2, h3, h4⟩ => ⟨pa, m1, m2, w, cs, p, s, P, d, h0, h1, h2, h3, fun x0 x1 y0 y1 => hp _ _ (h4 x0 x1 y0 y1)⟩
theorem SM_law_right : SMono S_law_right := fun es P P' E E' hp he ⟨a, h0, h1, h2⟩ => ⟨a, h0, h1, fun x0 => hp _ _ (h2 x0)⟩
theorem SL_Register_become (ds Q E) (h : S_Register_become ds Q E) : ds.length = ["self", "tellings", "marks"].length := by obtain ⟨_, _, _, _, _, _, _, _, _, _, _, rfl, _⟩ := h; rfl
theorem SL_Register_case_now (ds Q E) (h : S_Register_case_now ds Q E) : ds.length = ["self"].length := by obtain ⟨_, _, _, _, _, _, _, _, rfl, _⟩ := h; rfl
theorem SL_is_case (ds Q E) (h : S_is_case ds Q E) : ds.length = ["thing"].length := by obtain ⟨_, _, _, _, _, _, _, rfl, _⟩ := h; rfl
theorem SL_need_case (ds Q E) (h : S_need_case ds Q E) : ds.length = ["case"].length := by obtain ⟨_, _, _, _, _, _, _, rfl, _⟩ := h; rfl
theorem SL_law_odd (ds Q E) (h : S_law_odd ds Q E) : ds.length = ["box"].length := by obtain ⟨_, rfl, _⟩ := h; rfl
theorem SL_law_made_right (ds Q E) (h : S_law_made_right ds Q E) : ds.length = ["field", "pace"].length := by obtain ⟨_, _, _, rfl, _⟩ := h; rfl
theorem SL_law_full_right (ds Q E) (h : S_law_full_right ds Q E) : ds.length = ["office", "field", "bad"].length := by obtain ⟨_, _, _, _, _, _, _, rfl, _⟩ := h; rfl
theorem SL_law_asked_right (ds Q E) (h : S_law_asked_right ds Q E) : ds.length = ["office", "field", "bad"].length := by obtain ⟨_, _, _, _, _, _, _, _, _, rfl, _⟩ := h; rfl
theorem SL_law_right (ds Q E) (h : S_law_right ds Q E) : ds.length = ["box"].length := by obtain ⟨_, rfl, _⟩ := h; rfl
theorem SL_law (ds Q E) (h : S_law ds Q E) : ds.length = ["law_script"].length := by obtain ⟨_, rfl, _⟩ := h; rfl
def w_law_cell_1 (Ex : XD) : WS := wsR (wOp ixD (wN 0) (wN 1))
def w_law_cell_0 (Ex : XD) : WS := wsI (wT (wOp ltD (wN 1) (wB (wCall (c1 lenF) (wBc (wN 0) (wBn)))))) (w_law_cell_1 Ex) (wsN)
def w_law_cell_2 (Ex : XD) : WS := wsR (wC (.int 0))
def w_law_cell (Ex : XD) : WS := wsS (w_law_cell_0 Ex) (w_law_cell_2 Ex)
theorem b_law_cell {P : Program} {w : PySem.World} {K : PySem.W.Frag} {mg : Str → Option Value} {base : Heap} {T : List (Addr × Str)} {f : Addr} (h : Hd mg)  (cdv : Value) (A : Around) (outer : List Env) (s : Shared) (H : Hp) (E : XK) (G : Gm) (Ex : XD) (hr : Room 0 (FX P w K mg base N_law_cell "_law_cell" (defScope s_law_cell) f cdv A outer s H E).A) (hgd : (FX P w K mg base N_law_cell "_law_cell" (defScope s_law_cell) f cdv A outer s H E).A.guards = some []) (hcd : PySem.W.codeIn K cdv "_law_cell" = true) (hT : G.T = T) (hn : G.n = N_law_cell.length) (hx : TakesD (FX P w K mg base N_law_cell "_law_cell" (defScope s_law_cell) f cdv A outer s H E) G [true, true] Ex) : DSs (FX P w K mg base N_law_cell "_law_cell" (defScope s_law_cell) f cdv A outer s H E) G [true, true] (defBody s_law_cell) (w_law_cell Ex) :=
  dss_cons (show DS _ _ _ _ (w_law_cell_0 Ex) from ds_if (t_lt (b_v 1 rfl (.inl l_law_cell_1) m_law_k) (db_of (k_len (gl_of (by kernel_rfl)) h.n_len (dbs_cons (b_v 0 rfl (.inl l_law_cell_0) m_law_script) (dbs_nil))))) (dss_one (show DS _ _ _ _ (w_law_cell_1 Ex) from ds_ret (de_ix (b_v 0 rfl (.inl l_law_cell_0) m_law_script) (b_v 1 rfl (.inl l_law_cell_1) m_law_k)))) (dss_nil))
  (dss_one (show DS _ _ _ _ (w_law_cell_2 Ex) from ds_ret (de_int)))
def w_law_mix_0 (Ex : XD) : WS := wsA (wLst (wCons (wC (.int 48271)) (wCons (wC (.int 69621)) (wCons (wC (.int 16807)) (wCons (wC (.int 39373)) (wCons (wC (.int 30269)) (wCons (wC (.int 40014)) (wCons (wC (.int 40692)) (wCons (wC (.int 50021)) (wCons (wC (.int 61687)) (wCons (wC (.int 71993)) (wCons (wC (.int 83869)) (wCons (wC (.int 95561)) (wCons (wC (.int 30307)) (wNil))))))))))))))) (gN 2)
def w_law_mix_1 (Ex : XD) : WS := wsA (wOp mulD (wB (wOp addD (wB (wOp modD (wN 0) (wB (wC (.int 2147483647))))) (wB (wC (.int 12345))))) (wB (wOp ixD (wN 2) (wB (wOp modD (wN 1) (wB (wC (.int 13)))))))) (gN 3)
def w_law_mix_2 (Ex : XD) : WS := wsA (wOp addD (wB (wOp addD (wN 3) (wB (wOp mulD (wB (wC (.int 977))) (wN 1))))) (wB (wOp mulD (wB (wC (.int 7919))) (wB (wOp divD (wN 1) (wB (wC (.int 13)))))))) (gN 3)
def w_law_mix_3 (Ex : XD) : WS := wsA (wOp modD (wN 3) (wB (wC (.int 1000000007)))) (gN 3)
def w_law_mix_4 (Ex : XD) : WS := wsR (wOp divD (wB (wOp modD (wB (wOp addD (wB (wOp mulD (wN 3) (wN 3))) (wB (wOp mulD (wB (wC (.int 48271))) (wN 1))))) (wB (wC (.int 1000000007))))) (wB (wC (.int 7))))
def w_law_mix (Ex : XD) : WS := wsS (w_law_mix_0 Ex) (wsS (w_law_mix_1 Ex) (wsS (w_law_mix_2 Ex) (wsS (w_law_mix_3 Ex) (w_law_mix_4 Ex))))
theorem b_law_mix {P : Program} {w : PySem.World} {K : PySem.W.Frag} {mg : Str → Option Value} {base : Heap} {T : List (Addr × Str)} {f : Addr} (h : Hd mg)  (cdv : Value) (A : Around) (outer : List Env) (s : Shared) (H : Hp) (E : XK) (G : Gm) (Ex : XD) (hr : Room 0 (FX P w K mg base N_law_mix "_law_mix" (defScope s_law_mix) f cdv A outer s H E).A) (hgd : (FX P w K mg base N_law_mix "_law_mix" (defScope s_law_mix) f cdv A outer s H E).A.guards = some []) (hcd : PySem.W.codeIn K cdv "_law_mix" = true) (hT : G.T = T) (hn : G.n = N_law_mix.length) (hx : TakesD (FX P w K mg base N_law_mix "_law_mix" (defScope s_law_mix) f cdv A outer s H E) G [true, true] Ex) : DSs (FX P w K mg base N_law_mix "_law_mix" (defScope s_law_mix) f cdv A outer s H E) G [true, true] (defBody s_law_mix) (w_law_mix Ex) :=
  dss_cons (show DS _ _ _ _ (w_law_mix_0 Ex) from ds_set sc_law_mix.nd rfl (.inl l_law_mix_2) (de_lst (da_cons (de_int) (da_cons (de_int) (da_cons (de_int) (da_cons (de_int) (da_cons (de_int) (da_cons (de_int) (da_cons (de_int) (da_cons (de_int) (da_cons (de_int) (da_cons (de_int) (da_cons (de_int) (da_cons (de_int) (da_cons (de_int) (da_nil))))))))))))))) (by rfl) (by rfl) (.inl rfl))
  (dss_cons (show DS _ _ _ _ (w_law_mix_1 Ex) from ds_set sc_law_mix.nd rfl (.inl l_law_mix_3) (e_mul (db_of (e_add (db_of (e_mod (b_v 0 rfl (.inl l_law_mix_0) m_law_cell_here) (db_of (de_int)))) (db_of (de_int)))) (db_of (de_ix (b_v 2 rfl (.inl l_law_mix_2) m_law_some) (db_of (e_mod (b_v 1 rfl (.inl l_law_mix_1) m_law_k) (db_of (de_int))))))) (by rfl) (by rfl) (.inl rfl))
  (dss_cons (show DS _ _ _ _ (w_law_mix_2 Ex) from ds_set sc_law_mix.nd rfl (.inl l_law_mix_3) (e_add (db_of (e_add (b_v 3 rfl (.inl l_law_mix_3) m_law_stir) (db_of (e_mul (db_of (de_int)) (b_v 1 rfl (.inl l_law_mix_1) m_law_k))))) (db_of (e_mul (db_of (de_int)) (db_of (e_div (b_v 1 rfl (.inl l_law_mix_1) m_law_k) (db_of (de_int))))))) (by rfl) (by rfl) (.inl rfl))
  (dss_cons (show DS _ _ _ _ (w_law_mix_3 Ex) from ds_set sc_law_mix.nd rfl (.inl l_law_mix_3) (e_mod (b_v 3 rfl (.inl l_law_mix_3) m_law_stir) (db_of (de_int))) (by rfl) (by rfl) (.inl rfl))
  (dss_one (show DS _ _ _ _ (w_law_mix_4 Ex) from ds_ret (e_div (db_of (e_mod (db_of (e_add (db_of (e_mul (b_v 3 rfl (.inl l_law_mix_3) m_law_stir) (b_v 3 rfl (.inl l_law_mix_3) m_law_stir))) (db_of (e_mul (db_of (de_int)) (b_v 1 rfl (.inl l_law_mix_1) m_law_k))))) (db_of (de_int)))) (db_of (de_int))))))))
def w_law_box_0 (Ex : XD) : WS := wsA (wCallF S_law_cell Ex (wBc (wN 0) (wBc (wN 1) (wBn)))) (gN 3)
def w_law_box_2 (Ex : XD) : WS := wsR (wLst (wCons (wOp divD (wB (wCall (c1 absF) (wBc (wN 3) (wBn)))) (wB (wC (.int 2)))) (wNil)))
def w_law_box_1 (Ex : XD) : WS := wsI (wAnd (wT (wOp eqD (wB (wOp modD (wN 3) (wB (wC (.int 2))))) (wB (wC (.int 0))))) (wT (wOp eqD (wN 2) (wB (wC (.int 0)))))) (w_law_box_2 Ex) (wsN)
def w_law_box_3 (Ex : XD) : WS := wsA (wC (.int 0)) (gN 4)
def w_law_box_5 (Ex : XD) : WS := wsA (wOp addD (wB (wOp mulD (wN 4) (wB (wC (.int 142857143))))) (wB (wCallF S_law_mix Ex (wBc (wN 3) (wBc (wB (wOp addD (wB (wOp mulD (wB (wC (.int 90))) (wN 2))) (wN 5))) (wBn)))))) (gN 4)
def w_law_box_4 (Ex : XD) : WS := wsF (wiR1 (wCons (wC (.int 90)) (wNil))) (gi1 (gN 5)) (w_law_box_5 Ex)
def w_law_box_6 (Ex : XD) : WS := wsR (wLst (wCons (wV 4) (wNil)))
def w_law_box (Ex : XD) : WS := wsS (w_law_box_0 Ex) (wsS (w_law_box_1 Ex) (wsS (w_law_box_3 Ex) (wsS (w_law_box_4 Ex) (w_law_box_6 Ex))))
theorem b_law_box {P : Program} {w : PySem.World} {K : PySem.W.Frag} {mg : Str → Option Value} {base : Heap} {T : List (Addr × Str)} {f : Addr} (h : Hd mg) (c_law_cell : FnC P w K mg base T 1 "_law_cell" ["_law_script", "_law_k"] S_law_cell) (c_law_mix : FnC P w K mg base T 1 "_law_mix" ["_law_cell_here", "_law_k"] S_law_mix) (cdv : Value) (A : Around) (outer : List Env) (s : Shared) (H : Hp) (E : XK) (G : Gm) (Ex : XD) (hr : Room 1 (FX P w K mg base N_law_box "_law_box" (defScope s_law_box) f cdv A outer s H E).A) (hgd : (FX P w K mg base N_law_box "_law_box" (defScope s_law_box) f cdv A outer s H E).A.guards = some []) (hcd : PySem.W.codeIn K cdv "_law_box" = true) (hT : G.T = T) (hn : G.n = N_law_box.length) (hx : TakesD (FX P w K mg base N_law_box "_law_box" (defScope s_law_box) f cdv A outer s H E) G [true, true, true] Ex) : DSs (FX P w K mg base N_law_box "_law_box" (defScope s_law_box) f cdv A outer s H E) G [true, true, true] (defBody s_law_box) (w_law_box Ex) :=
  dss_cons (show DS _ _ _ _ (w_law_box_0 Ex) from ds_set sc_law_box.nd rfl (.inl l_law_box_3) (k_fn c_law_cell SM_law_cell hr hgd hx hT (by decide) (gl_of (by kernel_rfl)) m_law_cell (dbs_cons (b_v 0 rfl (.inl l_law_box_0) m_law_script) (dbs_cons (b_v 1 rfl (.inl l_law_box_1) m_law_k) (dbs_nil)))) (by rfl) (by rfl) (.inl rfl))
  (dss_cons (show DS _ _ _ _ (w_law_box_1 Ex) from ds_if (dt_w (dw_and (t_eq (db_of (e_mod (b_v 3 rfl (.inl l_law_box_3) m_law_cell_here) (db_of (de_int)))) (db_of (de_int)) hr) (dw_and1 (t_eq (b_v 2 rfl (.inl l_law_box_2) m_law_lap) (db_of (de_int)) hr)))) (dss_one (show DS _ _ _ _ (w_law_box_2 Ex) from ds_ret (de_lst (da_cons (e_div (db_of (k_abs (gl_of (by kernel_rfl)) h.n_abs (dbs_cons (b_v 3 rfl (.inl l_law_box_3) m_law_cell_here) (dbs_nil)))) (db_of (de_int))) (da_nil))))) (dss_nil))
  (dss_cons (show DS _ _ _ _ (w_law_box_3 Ex) from ds_set sc_law_box.nd rfl (.inl l_law_box_4) (de_int) (by rfl) (by rfl) (.inl rfl))
  (dss_cons (show DS _ _ _ _ (w_law_box_4 Ex) from ds_for (passes_of rfl) rfl (di_range1 (gl_of (by kernel_rfl)) h.n_range (da_cons (de_int) (da_nil))) (dgi_one (dg_name sc_law_box.nd rfl (.inl l_law_box_5) (by rfl) (.inl rfl))) (dss_one (show DS _ _ _ _ (w_law_box_5 Ex) from ds_set sc_law_box.nd rfl (.inl l_law_box_4) (e_add (db_of (e_mul (b_v 4 rfl (.inl l_law_box_4) m_law_number) (db_of (de_int)))) (db_of (k_fn c_law_mix SM_law_mix hr hgd hx hT (by decide) (gl_of (by kernel_rfl)) m_law_mix (dbs_cons (b_v 3 rfl (.inl l_law_box_3) m_law_cell_here) (dbs_cons (db_of (e_add (db_of (e_mul (db_of (de_int)) (b_v 2 rfl (.inl l_law_box_2) m_law_lap))) (b_v 5 rfl (.inl l_law_box_5) m_law_j))) (dbs_nil)))))) (by rfl) (by rfl) (.inl rfl))))
  (dss_one (show DS _ _ _ _ (w_law_box_6 Ex) from ds_ret (de_lst (da_cons (e_v 4 rfl (.inl l_law_box_4) m_law_number) (da_nil))))))))
def w_is_whole_0 (Ex : XD) : WS := wsR (wAndV (wCall (c2 isiF) (wBc (wN 0) (wBc (wB (wC (.opq (.ty "int")))) (wBn)))) (wAndV (wNotV (wB (wCall (c2 isiF) (wBc (wN 0) (wBc (wB (wC (.opq (.ty "bool")))) (wBn)))))) (wCh lteD lteD (wN 1) (wN 0) (wN 2))))
def w_is_whole (Ex : XD) : WS := w_is_whole_0 Ex
theorem b_is_whole {P : Program} {w : PySem.World} {K : PySem.W.Frag} {mg : Str → Option Value} {base : Heap} {T : List (Addr × Str)} {f : Addr} (h : Hd mg)  (cdv : Value) (A : Around) (outer : List Env) (s : Shared) (H : Hp) (E : XK) (G : Gm) (Ex : XD) (hr : Room 0 (FX P w K mg base N_is_whole "is_whole" (defScope s_is_whole) f cdv A outer s H E).A) (hgd : (FX P w K mg base N_is_whole "is_whole" (defScope s_is_whole) f cdv A outer s H E).A.guards = some []) (hcd : PySem.W.codeIn K cdv "is_whole" = true) (hT : G.T = T) (hn : G.n = N_is_whole.length) (hx : TakesD (FX P w K mg base N_is_whole "is_whole" (defScope s_is_whole) f cdv A outer s H E) G [true, true, true] Ex) : DSs (FX P w K mg base N_is_whole "is_whole" (defScope s_is_whole) f cdv A outer s H E) G [true, true, true] (defBody s_is_whole) (w_is_whole Ex) :=
  dss_one (show DS _ _ _ _ (w_is_whole_0 Ex) from ds_ret (de_and (k_isi (gl_of (by kernel_rfl)) h.n_isinstance (dbs_cons (b_v 0 rfl (.inl l_is_whole_0) m_thing) (dbs_cons (db_of (de_bltn (gl_of (by kernel_rfl)) h.n_int boot_int)) (dbs_nil)))) (de_and (de_not (db_of (k_isi (gl_of (by kernel_rfl)) h.n_isinstance (dbs_cons (b_v 0 rfl (.inl l_is_whole_0) m_thing) (dbs_cons (db_of (de_bltn (gl_of (by kernel_rfl)) h.n_bool boot_bool)) (dbs_nil)))))) (de_one (e_lele (b_v 1 rfl (.inl l_is_whole_1) m_low) (b_v 0 rfl (.inl l_is_whole_0) m_thing) (b_v 2 rfl (.inl l_is_whole_2) m_high))))))
def w_is_field_1 (Ex : XD) : WS := wsR (wC (.bl false))
def w_is_field_0 (Ex : XD) : WS := wsI (wOr (wNot (wTr (wB (wCall (c2 isiF) (wBc (wN 0) (wBc (wB (wC (.opq (.ty "tuple")))) (wBn))))))) (wOr (wT (wOp neD (wB (wCall (c1 lenF) (wBc (wN 0) (wBn)))) (wB (wC (.int 2))))) (wNot (wTr (wB (wCallF S_is_whole Ex (wBc (wB (wOp ixD (wN 0) (wB (wC (.int 0))))) (wBc (wB (wC (.int 1))) (wBc (wB (wC (.int 8))) (wBn)))))))))) (w_is_field_1 Ex) (wsN)
def w_is_field_2 (Ex : XD) : WS := wsA (wV 0) (gT (gsC (gN 1) (gsC (gN 2) (gsN))))
def w_is_field_4 (Ex : XD) : WS := wsR (wC (.bl false))
def w_is_field_3 (Ex : XD) : WS := wsI (wOr (wNot (wTr (wB (wCall (c2 isiF) (wBc (wN 2) (wBc (wB (wC (.opq (.ty "tuple")))) (wBn))))))) (wOr (wT (wOp neD (wB (wOp modD (wB (wCall (c1 lenF) (wBc (wN 2) (wBn)))) (wN 1))) (wB (wC (.int 0))))) (wNot (wT (wCh lteD lteD (wB (wC (.int 1))) (wB (wOp divD (wB (wCall (c1 lenF) (wBc (wN 2) (wBn)))) (wN 1))) (wB (wC (.int 8)))))))) (w_is_field_4 Ex) (wsN)
def w_is_field_5 (Ex : XD) : WS := wsR (wCall (c1 allF) (wBc (wB (wLc (wiS (wV 2)) (gi1 (gN 3)) (wYes) (wCallF S_is_whole noX (wBc (wN 3) (wBc (wB (wC (.int 0))) (wBc (wB (wC (.int 9))) (wBn))))) [3])) (wBn)))
def w_is_field (Ex : XD) : WS := wsS (w_is_field_0 Ex) (wsS (w_is_field_2 Ex) (wsS (w_is_field_3 Ex) (w_is_field_5 Ex)))
theorem b_is_field {P : Program} {w : PySem.World} {K : PySem.W.Frag} {mg : Str → Option Value} {base : Heap} {T : List (Addr × Str)} {f : Addr} (h : Hd mg) (c_is_whole : FnC P w K mg base T 1 "is_whole" ["thing", "low", "high"] S_is_whole) (cdv : Value) (A : Around) (outer : List Env) (s : Shared) (H : Hp) (E : XK) (G : Gm) (Ex : XD) (hr : Room 1 (FX P w K mg base N_is_field "is_field" (defScope s_is_field) f cdv A outer s H E).A) (hgd : (FX P w K mg base N_is_field "is_field" (defScope s_is_field) f cdv A outer s H E).A.guards = some []) (hcd : PySem.W.codeIn K cdv "is_field" = true) (hT : G.T = T) (hn : G.n = N_is_field.length) (hx : TakesD (FX P w K mg base N_is_field "is_field" (defScope s_is_field) f cdv A outer s H E) G [true] Ex) : DSs (FX P w K mg base N_is_field "is_field" (defScope s_is_field) f cdv A outer s H E) G [true] (defBody s_is_field) (w_is_field Ex) :=
  dss_cons (show DS _ _ _ _ (w_is_field_0 Ex) from ds_if (dt_w (dw_or (dt_not (dt_truth (db_of (k_isi (gl_of (by kernel_rfl)) h.n_isinstance (dbs_cons (b_v 0 rfl (.inl l_is_field_0) m_thing) (dbs_cons (db_of (de_bltn (gl_of (by kernel_rfl)) h.n_tuple boot_tuple)) (dbs_nil))))))) (dw_or (t_ne (db_of (k_len (gl_of (by kernel_rfl)) h.n_len (dbs_cons (b_v 0 rfl (.inl l_is_field_0) m_thing) (dbs_nil)))) (db_of (de_int)) hr) (dw_or1 (dt_not (dt_truth (db_of (k_fn c_is_whole SM_is_whole hr hgd hx hT (by decide) (gl_of (by kernel_rfl)) m_is_whole (dbs_cons (db_of (de_ix (b_v 0 rfl (.inl l_is_field_0) m_thing) (db_of (de_int)))) (dbs_cons (db_of (de_int)) (dbs_cons (db_of (e_gi (gl_of (by kernel_rfl)) m_MOST_WIDE h.c_MOST_WIDE)) (dbs_nil)))))))))))) (dss_one (show DS _ _ _ _ (w_is_field_1 Ex) from ds_ret (de_bl))) (dss_nil))
  (dss_cons (show DS _ _ _ _ (w_is_field_2 Ex) from ds_asg (e_v 0 rfl (.inl l_is_field_0) m_thing) (g_tup rfl (dgs_cons (dg_name sc_is_field.nd rfl (.inl l_is_field_1) (by rfl) (.inl rfl)) (dgs_cons (dg_name sc_is_field.nd rfl (.inl l_is_field_2) (by rfl) (.inl rfl)) (dgs_nil))) (ln_c (gg_N) (ln_c (gg_N) (ln_n)))))
  (dss_cons (show DS _ _ _ _ (w_is_field_3 Ex) from ds_if (dt_w (dw_or (dt_not (dt_truth (db_of (k_isi (gl_of (by kernel_rfl)) h.n_isinstance (dbs_cons (b_v 2 rfl (.inl l_is_field_2) m_cells) (dbs_cons (db_of (de_bltn (gl_of (by kernel_rfl)) h.n_tuple boot_tuple)) (dbs_nil))))))) (dw_or (t_ne (db_of (e_mod (db_of (k_len (gl_of (by kernel_rfl)) h.n_len (dbs_cons (b_v 2 rfl (.inl l_is_field_2) m_cells) (dbs_nil)))) (b_v 1 rfl (.inl l_is_field_1) m_wide))) (db_of (de_int)) hr) (dw_or1 (dt_not (t_lele (db_of (de_int)) (db_of (e_div (db_of (k_len (gl_of (by kernel_rfl)) h.n_len (dbs_cons (b_v 2 rfl (.inl l_is_field_2) m_cells) (dbs_nil)))) (b_v 1 rfl (.inl l_is_field_1) m_wide))) (db_of (e_gi (gl_of (by kernel_rfl)) m_MOST_ROWS h.c_MOST_ROWS)))))))) (dss_one (show DS _ _ _ _ (w_is_field_4 Ex) from ds_ret (de_bl))) (dss_nil))
  (dss_one (show DS _ _ _ _ (w_is_field_5 Ex) from ds_ret (k_all rfl (gl_of (by kernel_rfl)) h.n_all (dbs_cons (db_of (de_lc (own := [("number", 3)]) [true, true, true, false] rfl sc_is_field.nd (di_seq (e_v 2 rfl (.inl l_is_field_2) m_cells)) (blkOk_by (by kernel_rfl)) (by rfl) hn (by decide) (fun _ eT1 en1 _ _ _ _ _ => dgi_one (dg_name sc_is_field.nd rfl (.inl (by kernel_rfl)) (by rfl) (.inr (by kernel_rfl)))) (fun _ eT1 en1 _ _ _ _ _ => dts_nil) (fun _ eT1 en1 _ _ _ _ _ => k_fn c_is_whole SM_is_whole hr hgd takes_blk (eT1.trans hT) (by decide) (gl_of (by kernel_rfl)) m_is_whole (dbs_cons (b_v 3 rfl (.inl (by kernel_rfl)) m_number) (dbs_cons (db_of (e_gi (gl_of (by kernel_rfl)) m_RIVER h.c_RIVER)) (dbs_cons (db_of (e_gi (gl_of (by kernel_rfl)) m_CROWN h.c_CROWN)) (dbs_nil))))))) (dbs_nil)))))))
def w_need_field_1 (Ex : XD) : WS := (fun _ ρ => Ex "NoField" [] ρ)
def w_need_field_0 (Ex : XD) : WS := wsI (wNot (wTr (wB (wCallF S_is_field Ex (wBc (wN 0) (wBn)))))) (w_need_field_1 Ex) (wsN)
def w_need_field (Ex : XD) : WS := w_need_field_0 Ex
theorem b_need_field {P : Program} {w : PySem.World} {K : PySem.W.Frag} {mg : Str → Option Value} {base : Heap} {T : List (Addr × Str)} {f : Addr} (h : Hd mg) (xh : Hx mg K) (c_is_field : FnC P w K mg base T 2 "is_field" ["thing"] S_is_field) (cdv : Value) (A : Around) (outer : List Env) (s : Shared) (H : Hp) (E : XK) (G : Gm) (Ex : XD) (hr : Room 2 (FX P w K mg base N_need_field "need_field" (defScope s_need_field) f cdv A outer s H E).A) (hgd : (FX P w K mg base N_need_field "need_field" (defScope s_need_field) f cdv A outer s H E).A.guards = some []) (hcd : PySem.W.codeIn K cdv "need_field" = true) (hT : G.T = T) (hn : G.n = N_need_field.length) (hx : TakesD (FX P w K mg base N_need_field "need_field" (defScope s_need_field) f cdv A outer s H E) G [true] Ex) : DSs (FX P w K mg base N_need_field "need_field" (defScope s_need_field) f cdv A outer s H E) G [true] (defBody s_need_field) (w_need_field Ex) :=
  dss_one (show DS _ _ _ _ (w_need_field_0 Ex) from ds_if (dt_not (dt_truth (db_of (k_fn c_is_field SM_is_field hr hgd hx hT (by decide) (gl_of (by kernel_rfl)) m_is_field (dbs_cons (b_v 0 rfl (.inl l_need_field_0) m_field) (dbs_nil)))))) (dss_one (show DS _ _ _ _ (w_need_field_1 Ex) from ds_raise rfl xh.r_NoField hx (gl_of (by kernel_rfl)) (by decide))) (dss_nil))
def w_need_pace_1 (Ex : XD) : WS := (fun _ ρ => Ex "NoPace" [] ρ)
def w_need_pace_0 (Ex : XD) : WS := wsI (wNot (wTr (wB (wCallF S_is_whole Ex (wBc (wN 0) (wBc (wB (wC (.int 1))) (wBc (wB (wC (.int 9))) (wBn)))))))) (w_need_pace_1 Ex) (wsN)
def w_need_pace (Ex : XD) : WS := w_need_pace_0 Ex
theorem b_need_pace {P : Program} {w : PySem.World} {K : PySem.W.Frag} {mg : Str → Option Value} {base : Heap} {T : List (Addr × Str)} {f : Addr} (h : Hd mg) (xh : Hx mg K) (c_is_whole : FnC P w K mg base T 1 "is_whole" ["thing", "low", "high"] S_is_whole) (cdv : Value) (A : Around) (outer : List Env) (s : Shared) (H : Hp) (E : XK) (G : Gm) (Ex : XD) (hr : Room 1 (FX P w K mg base N_need_pace "need_pace" (defScope s_need_pace) f cdv A outer s H E).A) (hgd : (FX P w K mg base N_need_pace "need_pace" (defScope s_need_pace) f cdv A outer s H E).A.guards = some []) (hcd : PySem.W.codeIn K cdv "need_pace" = true) (hT : G.T = T) (hn : G.n = N_need_pace.length) (hx : TakesD (FX P w K mg base N_need_pace "need_pace" (defScope s_need_pace) f cdv A outer s H E) G [true] Ex) : DSs (FX P w K mg base N_need_pace "need_pace" (defScope s_need_pace) f cdv A outer s H E) G [true] (defBody s_need_pace) (w_need_pace Ex) :=
  dss_one (show DS _ _ _ _ (w_need_pace_0 Ex) from ds_if (dt_not (dt_truth (db_of (k_fn c_is_whole SM_is_whole hr hgd hx hT (by decide) (gl_of (by kernel_rfl)) m_is_whole (dbs_cons (b_v 0 rfl (.inl l_need_pace_0) m_pace) (dbs_cons (db_of (de_int)) (dbs_cons (db_of (e_gi (gl_of (by kernel_rfl)) m_MOST_PACE h.c_MOST_PACE)) (dbs_nil)))))))) (dss_one (show DS _ _ _ _ (w_need_pace_1 Ex) from ds_raise rfl xh.r_NoPace hx (gl_of (by kernel_rfl)) (by decide))) (dss_nil))
def w_Register__init_0 (Ex : XD) : WS := wsX (wCallF S_need_field Ex (wBc (wN 1) (wBn)))
def w_Register__init_1 (Ex : XD) : WS := wsX (wCallF S_need_pace Ex (wBc (wN 2) (wBn)))
def w_Register__init_2 (Ex : XD) : WS := wsFlN 0 "Register" [] "own_field" (wV 1)
def w_Register__init_3 (Ex : XD) : WS := wsFlN 0 "Register" ["own_field"] "own_pace" (wV 2)
def w_Register__init_4 (Ex : XD) : WS := wsFlN 0 "Register" ["own_field", "own_pace"] "own_state" (wTup (wCons (wLst (wNil)) (wCons (wLst (wNil)) (wNil))))
def w_Register__init_5 (Ex : XD) : WS := wsFlN 0 "Register" ["own_field", "own_pace", "own_state"] "own_past" (wLst (wNil))
def w_Register__init (Ex : XD) : WS := wsS (w_Register__init_0 Ex) (wsS (w_Register__init_1 Ex) (wsS (w_Register__init_2 Ex) (wsS (w_Register__init_3 Ex) (wsS (w_Register__init_4 Ex) (w_Register__init_5 Ex)))))
theorem b_Register__init {P : Program} {w : PySem.World} {K : PySem.W.Frag} {mg : Str → Option Value} {base : Heap} {T : List (Addr × Str)} {f : Addr} (h : Hd mg) (xh : Hx mg K) (c_need_field : FnC P w K mg base T 3 "need_field" ["field"] S_need_field) (c_need_pace : FnC P w K mg base T 2 "need_pace" ["pace"] S_need_pace) (cdv : Value) (A : Around) (outer : List Env) (s : Shared) (H : Hp) (E : XK) (G : Gm) (Ex : XD) (hr : Room 3 (FX P w K mg base N_Register__init "Register.__init__" (defScope s_Register__init) f cdv A outer s H E).A) (hgd : (FX P w K mg base N_Register__init "Register.__init__" (defScope s_Register__init) f cdv A outer s H E).A.guards = some []) (hcd : PySem.W.codeIn K cdv "Register.__init__" = true) (hT : G.T = T) (hn : G.n = N_Register__init.length) (hx : TakesD (FX P w K mg base N_Register__init "Register.__init__" (defScope s_Register__init) f cdv A outer s H E) G [true, true, true] Ex) : DSs (FX P w K mg base N_Register__init "Register.__init__" (defScope s_Register__init) f cdv A outer s H E) G [true, true, true] (defBody s_Register__init) (w_Register__init Ex) :=
  dss_cons (show DS _ _ _ _ (w_Register__init_0 Ex) from ds_expr (k_fn c_need_field SM_need_field hr hgd hx hT (by decide) (gl_of (by kernel_rfl)) m_need_field (dbs_cons (b_v 1 rfl (.inl l_Register__init_1) m_field) (dbs_nil))))
  (dss_cons (show DS _ _ _ _ (w_Register__init_1 Ex) from ds_expr (k_fn c_need_pace SM_need_pace hr hgd hx hT (by decide) (gl_of (by kernel_rfl)) m_need_pace (dbs_cons (b_v 2 rfl (.inl l_Register__init_2) m_pace) (dbs_nil))))
  (dss_cons (show DS _ _ _ _ (w_Register__init_2 Ex) from ds_flN xh.i_Register (by decide +kernel) (by decide +kernel) (by decide) rfl (.inl l_Register__init_0) m_self (e_v 1 rfl (.inl l_Register__init_1) m_field))
  (dss_cons (show DS _ _ _ _ (w_Register__init_3 Ex) from ds_flN xh.i_Register (by decide +kernel) (by decide +kernel) (by decide) rfl (.inl l_Register__init_0) m_self (e_v 2 rfl (.inl l_Register__init_2) m_pace))
  (dss_cons (show DS _ _ _ _ (w_Register__init_4 Ex) from ds_flN xh.i_Register (by decide +kernel) (by decide +kernel) (by decide) rfl (.inl l_Register__init_0) m_self (de_tup (da_cons (de_lst (da_nil)) (da_cons (de_lst (da_nil)) (da_nil)))))
  (dss_one (show DS _ _ _ _ (w_Register__init_5 Ex) from ds_flN xh.i_Register (by decide +kernel) (by decide +kernel) (by decide) rfl (.inl l_Register__init_0) m_self (de_lst (da_nil))))))))
def w_Register_case_now_0 (Ex : XD) : WS := wsA (wFl 0 "Register" ks_Register 2) (gT (gsC (gN 1) (gsC (gN 2) (gsN))))
def w_Register_case_now_1 (Ex : XD) : WS := wsR (wTup (wCons (wFl 0 "Register" ks_Register 0) (wCons (wFl 0 "Register" ks_Register 1) (wCons (wCall (c1 sortF) (wBc (wN 1) (wBn))) (wCons (wCall (c1 sortF) (wBc (wN 2) (wBn))) (wNil))))))
def w_Register_case_now (Ex : XD) : WS := wsS (w_Register_case_now_0 Ex) (w_Register_case_now_1 Ex)
theorem b_Register_case_now {P : Program} {w : PySem.World} {K : PySem.W.Frag} {mg : Str → Option Value} {base : Heap} {T : List (Addr × Str)} {f : Addr} (h : Hd mg) (xh : Hx mg K)  (cdv : Value) (A : Around) (outer : List Env) (s : Shared) (H : Hp) (E : XK) (G : Gm) (Ex : XD) (hr : Room 0 (FX P w K mg base N_Register_case_now "Register.case_now" (defScope s_Register_case_now) f cdv A outer s H E).A) (hgd : (FX P w K mg base N_Register_case_now "Register.case_now" (defScope s_Register_case_now) f cdv A outer s H E).A.guards = some []) (hcd : PySem.W.codeIn K cdv "Register.case_now" = true) (hT : G.T = T) (hn : G.n = N_Register_case_now.length) (hx : TakesD (FX P w K mg base N_Register_case_now "Register.case_now" (defScope s_Register_case_now) f cdv A outer s H E) G [true] Ex) : DSs (FX P w K mg base N_Register_case_now "Register.case_now" (defScope s_Register_case_now) f cdv A outer s H E) G [true] (defBody s_Register_case_now) (w_Register_case_now Ex) :=
  dss_cons (show DS _ _ _ _ (w_Register_case_now_0 Ex) from ds_asg (de_fl xh.i_Register (by decide +kernel) (by decide +kernel) rfl (.inl l_Register_case_now_0) m_self) (g_tup rfl (dgs_cons (dg_name sc_Register_case_now.nd rfl (.inl l_Register_case_now_1) (by rfl) (.inl rfl)) (dgs_cons (dg_name sc_Register_case_now.nd rfl (.inl l_Register_case_now_2) (by rfl) (.inl rfl)) (dgs_nil))) (ln_c (gg_N) (ln_c (gg_N) (ln_n)))))
  (dss_one (show DS _ _ _ _ (w_Register_case_now_1 Ex) from ds_ret (de_tup (da_cons (de_fl xh.i_Register (by decide +kernel) (by decide +kernel) rfl (.inl l_Register_case_now_0) m_self) (da_cons (de_fl xh.i_Register (by decide +kernel) (by decide +kernel) rfl (.inl l_Register_case_now_0) m_self) (da_cons (k_sorted rfl hr (gl_of (by kernel_rfl)) h.n_sorted (dbs_cons (b_v 1 rfl (.inl l_Register_case_now_1) m_tellings) (dbs_nil))) (da_cons (k_sorted rfl hr (gl_of (by kernel_rfl)) h.n_sorted (dbs_cons (b_v 2 rfl (.inl l_Register_case_now_2) m_marks) (dbs_nil))) (da_nil))))))))
def w_Register_undo_1 (Ex : XD) : WS := (fun _ ρ => Ex "Nothing" [] ρ)
def w_Register_undo_0 (Ex : XD) : WS := wsI (wT (wOpFl eqD 0 "Register" ks_Register 3 (wB (wLst (wNil))))) (w_Register_undo_1 Ex) (wsN)
def w_Register_undo_2 (Ex : XD) : WS := wsFlS 0 "Register" ks_Register 2 (wFlMe0 "list" popF 0 "Register" ks_Register 3)
def w_Register_undo (Ex : XD) : WS := wsS (w_Register_undo_0 Ex) (w_Register_undo_2 Ex)
theorem b_Register_undo {P : Program} {w : PySem.World} {K : PySem.W.Frag} {mg : Str → Option Value} {base : Heap} {T : List (Addr × Str)} {f : Addr} (h : Hd mg) (xh : Hx mg K)  (cdv : Value) (A : Around) (outer : List Env) (s : Shared) (H : Hp) (E : XK) (G : Gm) (Ex : XD) (hr : Room 0 (FX P w K mg base N_Register_undo "Register.undo" (defScope s_Register_undo) f cdv A outer s H E).A) (hgd : (FX P w K mg base N_Register_undo "Register.undo" (defScope s_Register_undo) f cdv A outer s H E).A.guards = some []) (hcd : PySem.W.codeIn K cdv "Register.undo" = true) (hT : G.T = T) (hn : G.n = N_Register_undo.length) (hx : TakesD (FX P w K mg base N_Register_undo "Register.undo" (defScope s_Register_undo) f cdv A outer s H E) G [true] Ex) : DSs (FX P w K mg base N_Register_undo "Register.undo" (defScope s_Register_undo) f cdv A outer s H E) G [true] (defBody s_Register_undo) (w_Register_undo Ex) :=
  dss_cons (show DS _ _ _ _ (w_Register_undo_0 Ex) from ds_if (dt_cmpFl xh.i_Register (by decide +kernel) (by decide +kernel) rfl (.inl l_Register_undo_0) m_self (op_eqD (hu64 hr)) eqD_ok (db_of (de_lst (da_nil))) (nomark _)) (dss_one (show DS _ _ _ _ (w_Register_undo_1 Ex) from ds_raise rfl xh.r_Nothing hx (gl_of (by kernel_rfl)) (by decide))) (dss_nil))
  (dss_one (show DS _ _ _ _ (w_Register_undo_2 Ex) from ds_flS xh.i_Register (by decide +kernel) (by decide +kernel) (by decide) rfl (.inl l_Register_undo_0) m_self (de_flMe0 xh.i_Register (by decide +kernel) (by decide +kernel) rfl (.inl l_Register_undo_0) m_self rfl F.plainAttrs_list F.slot_list_pop F.type_list_pop mt_pop popD_ok rfl rfl)))
def w_is_cell_0 (Ex : XD) : WS := wsR (wCallF S_is_whole Ex (wBc (wN 1) (wBc (wB (wC (.int 0))) (wBc (wB (wOp subD (wB (wCall (c1 lenF) (wBc (wB (wOp ixD (wN 0) (wB (wC (.int 1))))) (wBn)))) (wB (wC (.int 1))))) (wBn)))))
def w_is_cell (Ex : XD) : WS := w_is_cell_0 Ex
theorem b_is_cell {P : Program} {w : PySem.World} {K : PySem.W.Frag} {mg : Str → Option Value} {base : Heap} {T : List (Addr × Str)} {f : Addr} (h : Hd mg) (c_is_whole : FnC P w K mg base T 1 "is_whole" ["thing", "low", "high"] S_is_whole) (cdv : Value) (A : Around) (outer : List Env) (s : Shared) (H : Hp) (E : XK) (G : Gm) (Ex : XD) (hr : Room 1 (FX P w K mg base N_is_cell "is_cell" (defScope s_is_cell) f cdv A outer s H E).A) (hgd : (FX P w K mg base N_is_cell "is_cell" (defScope s_is_cell) f cdv A outer s H E).A.guards = some []) (hcd : PySem.W.codeIn K cdv "is_cell" = true) (hT : G.T = T) (hn : G.n = N_is_cell.length) (hx : TakesD (FX P w K mg base N_is_cell "is_cell" (defScope s_is_cell) f cdv A outer s H E) G [true, true] Ex) : DSs (FX P w K mg base N_is_cell "is_cell" (defScope s_is_cell) f cdv A outer s H E) G [true, true] (defBody s_is_cell) (w_is_cell Ex) :=
  dss_one (show DS _ _ _ _ (w_is_cell_0 Ex) from ds_ret (k_fn c_is_whole SM_is_whole hr hgd hx hT (by decide) (gl_of (by kernel_rfl)) m_is_whole (dbs_cons (b_v 1 rfl (.inl l_is_cell_1) m_thing) (dbs_cons (db_of (de_int)) (dbs_cons (db_of (e_sub (db_of (k_len (gl_of (by kernel_rfl)) h.n_len (dbs_cons (db_of (de_ix (b_v 0 rfl (.inl l_is_cell_0) m_field) (db_of (de_int)))) (dbs_nil)))) (db_of (de_int)))) (dbs_nil))))))
def w_is_mark_1 (Ex : XD) : WS := wsR (wC (.bl false))
def w_is_mark_0 (Ex : XD) : WS := wsI (wOr (wNot (wTr (wB (wCall (c2 isiF) (wBc (wN 1) (wBc (wB (wC (.opq (.ty "tuple")))) (wBn))))))) (wOr (wT (wOp neD (wB (wCall (c1 lenF) (wBc (wN 1) (wBn)))) (wB (wC (.int 3))))) (wNot (wTr (wB (wCallF S_is_whole Ex (wBc (wB (wOp ixD (wN 1) (wB (wC (.int 0))))) (wBc (wB (wC (.int 0))) (wBc (wB (wC (.int 999))) (wBn)))))))))) (w_is_mark_1 Ex) (wsN)
def w_is_mark_2 (Ex : XD) : WS := wsR (wAndV (wCallF S_is_cell Ex (wBc (wN 0) (wBc (wB (wOp ixD (wN 1) (wB (wC (.int 1))))) (wBn)))) (wCall (c2 isiF) (wBc (wB (wOp ixD (wN 1) (wB (wC (.int 2))))) (wBc (wB (wC (.opq (.ty "bool")))) (wBn)))))
def w_is_mark (Ex : XD) : WS := wsS (w_is_mark_0 Ex) (w_is_mark_2 Ex)
theorem b_is_mark {P : Program} {w : PySem.World} {K : PySem.W.Frag} {mg : Str → Option Value} {base : Heap} {T : List (Addr × Str)} {f : Addr} (h : Hd mg) (c_is_cell : FnC P w K mg base T 2 "is_cell" ["field", "thing"] S_is_cell) (c_is_whole : FnC P w K mg base T 1 "is_whole" ["thing", "low", "high"] S_is_whole) (cdv : Value) (A : Around) (outer : List Env) (s : Shared) (H : Hp) (E : XK) (G : Gm) (Ex : XD) (hr : Room 2 (FX P w K mg base N_is_mark "is_mark" (defScope s_is_mark) f cdv A outer s H E).A) (hgd : (FX P w K mg base N_is_mark "is_mark" (defScope s_is_mark) f cdv A outer s H E).A.guards = some []) (hcd : PySem.W.codeIn K cdv "is_mark" = true) (hT : G.T = T) (hn : G.n = N_is_mark.length) (hx : TakesD (FX P w K mg base N_is_mark "is_mark" (defScope s_is_mark) f cdv A outer s H E) G [true, true] Ex) : DSs (FX P w K mg base N_is_mark "is_mark" (defScope s_is_mark) f cdv A outer s H E) G [true, true] (defBody s_is_mark) (w_is_mark Ex) :=
  dss_cons (show DS _ _ _ _ (w_is_mark_0 Ex) from ds_if (dt_w (dw_or (dt_not (dt_truth (db_of (k_isi (gl_of (by kernel_rfl)) h.n_isinstance (dbs_cons (b_v 1 rfl (.inl l_is_mark_1) m_thing) (dbs_cons (db_of (de_bltn (gl_of (by kernel_rfl)) h.n_tuple boot_tuple)) (dbs_nil))))))) (dw_or (t_ne (db_of (k_len (gl_of (by kernel_rfl)) h.n_len (dbs_cons (b_v 1 rfl (.inl l_is_mark_1) m_thing) (dbs_nil)))) (db_of (de_int)) hr) (dw_or1 (dt_not (dt_truth (db_of (k_fn c_is_whole SM_is_whole hr hgd hx hT (by decide) (gl_of (by kernel_rfl)) m_is_whole (dbs_cons (db_of (de_ix (b_v 1 rfl (.inl l_is_mark_1) m_thing) (db_of (de_int)))) (dbs_cons (db_of (de_int)) (dbs_cons (db_of (e_gi (gl_of (by kernel_rfl)) m_LAST_DAY h.c_LAST_DAY)) (dbs_nil)))))))))))) (dss_one (show DS _ _ _ _ (w_is_mark_1 Ex) from ds_ret (de_bl))) (dss_nil))
  (dss_one (show DS _ _ _ _ (w_is_mark_2 Ex) from ds_ret (de_and (k_fn c_is_cell SM_is_cell hr hgd hx hT (by decide) (gl_of (by kernel_rfl)) m_is_cell (dbs_cons (b_v 0 rfl (.inl l_is_mark_0) m_field) (dbs_cons (db_of (de_ix (b_v 1 rfl (.inl l_is_mark_1) m_thing) (db_of (de_int)))) (dbs_nil)))) (de_one (k_isi (gl_of (by kernel_rfl)) h.n_isinstance (dbs_cons (db_of (de_ix (b_v 1 rfl (.inl l_is_mark_1) m_thing) (db_of (de_int)))) (dbs_cons (db_of (de_bltn (gl_of (by kernel_rfl)) h.n_bool boot_bool)) (dbs_nil))))))))
def w_is_rising_0 (Ex : XD) : WS := wsR (wCall (c1 allF) (wBc (wB (wLc (wiZ (wCons (wV 0) (wCons (wSl (wN 0) (wSo (wC (.int 1))) (wNo)) (wNil)))) (gsC (gN 1) (gsC (gN 2) (gsN))) (wYes) (wOp ltD (wN 1) (wN 2)) [1, 2])) (wBn)))
def w_is_rising (Ex : XD) : WS := w_is_rising_0 Ex
theorem b_is_rising {P : Program} {w : PySem.World} {K : PySem.W.Frag} {mg : Str → Option Value} {base : Heap} {T : List (Addr × Str)} {f : Addr} (h : Hd mg)  (cdv : Value) (A : Around) (outer : List Env) (s : Shared) (H : Hp) (E : XK) (G : Gm) (Ex : XD) (hr : Room 0 (FX P w K mg base N_is_rising "is_rising" (defScope s_is_rising) f cdv A outer s H E).A) (hgd : (FX P w K mg base N_is_rising "is_rising" (defScope s_is_rising) f cdv A outer s H E).A.guards = some []) (hcd : PySem.W.codeIn K cdv "is_rising" = true) (hT : G.T = T) (hn : G.n = N_is_rising.length) (hx : TakesD (FX P w K mg base N_is_rising "is_rising" (defScope s_is_rising) f cdv A outer s H E) G [true] Ex) : DSs (FX P w K mg base N_is_rising "is_rising" (defScope s_is_rising) f cdv A outer s H E) G [true] (defBody s_is_rising) (w_is_rising Ex) :=
  dss_one (show DS _ _ _ _ (w_is_rising_0 Ex) from ds_ret (k_all rfl (gl_of (by kernel_rfl)) h.n_all (dbs_cons (db_of (de_lc (own := [("one", 1), ("other", 2)]) [true, false, false] rfl sc_is_rising.nd (di_zip (gl_of (by kernel_rfl)) h.n_zip (da_cons (e_v 0 rfl (.inl l_is_rising_0) m_things) (da_cons (de_sl (b_v 0 rfl (.inl l_is_rising_0) m_things) (do_some (de_int)) (do_none)) (da_nil)))) (blkOk_by (by kernel_rfl)) (by rfl) hn (by decide) (fun _ eT1 en1 _ _ _ _ _ => gi_tup rfl (dgs_cons (dg_name sc_is_rising.nd rfl (.inl (by kernel_rfl)) (by rfl) (.inr (by kernel_rfl))) (dgs_cons (dg_name sc_is_rising.nd rfl (.inl (by kernel_rfl)) (by rfl) (.inr (by kernel_rfl))) (dgs_nil))) (ln_c (gg_N) (ln_c (gg_N) (ln_n)))) (fun _ eT1 en1 _ _ _ _ _ => dts_nil) (fun _ eT1 en1 _ _ _ _ _ => e_lt (b_v 1 rfl (.inl (by kernel_rfl)) m_one) (b_v 2 rfl (.inl (by kernel_rfl)) m_other)))) (dbs_nil))))
def w_are_cells_0 (Ex : XD) : WS := wsR (wAndV (wCall (c2 isiF) (wBc (wN 1) (wBc (wB (wC (.opq (.ty "tuple")))) (wBn)))) (wAndV (wCall (c1 allF) (wBc (wB (wLc (wiS (wV 1)) (gi1 (gN 2)) (wYes) (wCallF S_is_cell noX (wBc (wN 0) (wBc (wN 2) (wBn)))) [2])) (wBn))) (wCallF S_is_rising Ex (wBc (wN 1) (wBn)))))
def w_are_cells (Ex : XD) : WS := w_are_cells_0 Ex
theorem b_are_cells {P : Program} {w : PySem.World} {K : PySem.W.Frag} {mg : Str → Option Value} {base : Heap} {T : List (Addr × Str)} {f : Addr} (h : Hd mg) (c_is_cell : FnC P w K mg base T 2 "is_cell" ["field", "thing"] S_is_cell) (c_is_rising : FnC P w K mg base T 1 "is_rising" ["things"] S_is_rising) (cdv : Value) (A : Around) (outer : List Env) (s : Shared) (H : Hp) (E : XK) (G : Gm) (Ex : XD) (hr : Room 2 (FX P w K mg base N_are_cells "are_cells" (defScope s_are_cells) f cdv A outer s H E).A) (hgd : (FX P w K mg base N_are_cells "are_cells" (defScope s_are_cells) f cdv A outer s H E).A.guards = some []) (hcd : PySem.W.codeIn K cdv "are_cells" = true) (hT : G.T = T) (hn : G.n = N_are_cells.length) (hx : TakesD (FX P w K mg base N_are_cells "are_cells" (defScope s_are_cells) f cdv A outer s H E) G [true, true] Ex) : DSs (FX P w K mg base N_are_cells "are_cells" (defScope s_are_cells) f cdv A outer s H E) G [true, true] (defBody s_are_cells) (w_are_cells Ex) :=
  dss_one (show DS _ _ _ _ (w_are_cells_0 Ex) from ds_ret (de_and (k_isi (gl_of (by kernel_rfl)) h.n_isinstance (dbs_cons (b_v 1 rfl (.inl l_are_cells_1) m_thing) (dbs_cons (db_of (de_bltn (gl_of (by kernel_rfl)) h.n_tuple boot_tuple)) (dbs_nil)))) (de_and (k_all rfl (gl_of (by kernel_rfl)) h.n_all (dbs_cons (db_of (de_lc (own := [("cell", 2)]) [true, true, false] rfl sc_are_cells.nd (di_seq (e_v 1 rfl (.inl l_are_cells_1) m_thing)) (blkOk_by (by kernel_rfl)) (by rfl) hn (by decide) (fun _ eT1 en1 _ _ _ _ _ => dgi_one (dg_name sc_are_cells.nd rfl (.inl (by kernel_rfl)) (by rfl) (.inr (by kernel_rfl)))) (fun _ eT1 en1 _ _ _ _ _ => dts_nil) (fun _ eT1 en1 _ _ _ _ _ => k_fn c_is_cell SM_is_cell hr hgd takes_blk (eT1.trans hT) (by decide) (gl_of (by kernel_rfl)) m_is_cell (dbs_cons (b_v 0 rfl (.inr (.inl (by kernel_rfl))) m_field) (dbs_cons (b_v 2 rfl (.inl (by kernel_rfl)) m_cell) (dbs_nil)))))) (dbs_nil))) (de_one (k_fn c_is_rising SM_is_rising hr hgd hx hT (by decide) (gl_of (by kernel_rfl)) m_is_rising (dbs_cons (b_v 1 rfl (.inl l_are_cells_1) m_thing) (dbs_nil)))))))
def w_change_in_1 (Ex : XD) : WS := wsR (wC (.bl false))
def w_change_in_0 (Ex : XD) : WS := wsI (wOr (wNot (wTr (wB (wCall (c2 isiF) (wBc (wN 1) (wBc (wB (wC (.opq (.ty "tuple")))) (wBn))))))) (wOr (wT (wOp neD (wB (wCall (c1 lenF) (wBc (wN 1) (wBn)))) (wB (wC (.int 3))))) (wNot (wTr (wB (wCallF S_is_whole Ex (wBc (wB (wOp ixD (wN 1) (wB (wC (.int 0))))) (wBc (wB (wC (.int 0))) (wBc (wB (wC (.int 999))) (wBn)))))))))) (w_change_in_1 Ex) (wsN)
def w_change_in_3 (Ex : XD) : WS := wsR (wC (.bl false))
def w_change_in_2 (Ex : XD) : WS := wsI (wOr (wNot (wTr (wB (wCall (c2 isiF) (wBc (wB (wOp ixD (wN 1) (wB (wC (.int 1))))) (wBc (wB (wC (.opq (.ty "str")))) (wBn))))))) (wT (wOp (memD true) (wB (wOp ixD (wN 1) (wB (wC (.int 1))))) (wB (wTup (wCons (wC (.str "leap")) (wCons (wC (.str "slow")) (wNil)))))))) (w_change_in_3 Ex) (wsN)
def w_change_in_4 (Ex : XD) : WS := wsR (wAndV (wCallF S_are_cells Ex (wBc (wN 0) (wBc (wB (wOp ixD (wN 1) (wB (wC (.int 2))))) (wBn)))) (wCh lteD lteD (wB (wC (.int 1))) (wB (wCall (c1 lenF) (wBc (wB (wOp ixD (wN 1) (wB (wC (.int 2))))) (wBn)))) (wB (wC (.int 16)))))
def w_change_in (Ex : XD) : WS := wsS (w_change_in_0 Ex) (wsS (w_change_in_2 Ex) (w_change_in_4 Ex))
theorem b_change_in {P : Program} {w : PySem.World} {K : PySem.W.Frag} {mg : Str → Option Value} {base : Heap} {T : List (Addr × Str)} {f : Addr} (h : Hd mg) (c_are_cells : FnC P w K mg base T 3 "are_cells" ["field", "thing"] S_are_cells) (c_is_whole : FnC P w K mg base T 1 "is_whole" ["thing", "low", "high"] S_is_whole) (cdv : Value) (A : Around) (outer : List Env) (s : Shared) (H : Hp) (E : XK) (G : Gm) (Ex : XD) (hr : Room 3 (FX P w K mg base N_change_in "change_in" (defScope s_change_in) f cdv A outer s H E).A) (hgd : (FX P w K mg base N_change_in "change_in" (defScope s_change_in) f cdv A outer s H E).A.guards = some []) (hcd : PySem.W.codeIn K cdv "change_in" = true) (hT : G.T = T) (hn : G.n = N_change_in.length) (hx : TakesD (FX P w K mg base N_change_in "change_in" (defScope s_change_in) f cdv A outer s H E) G [true, true] Ex) : DSs (FX P w K mg base N_change_in "change_in" (defScope s_change_in) f cdv A outer s H E) G [true, true] (defBody s_change_in) (w_change_in Ex) :=
  dss_cons (show DS _ _ _ _ (w_change_in_0 Ex) from ds_if (dt_w (dw_or (dt_not (dt_truth (db_of (k_isi (gl_of (by kernel_rfl)) h.n_isinstance (dbs_cons (b_v 1 rfl (.inl l_change_in_1) m_thing) (dbs_cons (db_of (de_bltn (gl_of (by kernel_rfl)) h.n_tuple boot_tuple)) (dbs_nil))))))) (dw_or (t_ne (db_of (k_len (gl_of (by kernel_rfl)) h.n_len (dbs_cons (b_v 1 rfl (.inl l_change_in_1) m_thing) (dbs_nil)))) (db_of (de_int)) hr) (dw_or1 (dt_not (dt_truth (db_of (k_fn c_is_whole SM_is_whole hr hgd hx hT (by decide) (gl_of (by kernel_rfl)) m_is_whole (dbs_cons (db_of (de_ix (b_v 1 rfl (.inl l_change_in_1) m_thing) (db_of (de_int)))) (dbs_cons (db_of (de_int)) (dbs_cons (db_of (e_gi (gl_of (by kernel_rfl)) m_LAST_DAY h.c_LAST_DAY)) (dbs_nil)))))))))))) (dss_one (show DS _ _ _ _ (w_change_in_1 Ex) from ds_ret (de_bl))) (dss_nil))
  (dss_cons (show DS _ _ _ _ (w_change_in_2 Ex) from ds_if (dt_w (dw_or (dt_not (dt_truth (db_of (k_isi (gl_of (by kernel_rfl)) h.n_isinstance (dbs_cons (db_of (de_ix (b_v 1 rfl (.inl l_change_in_1) m_thing) (db_of (de_int)))) (dbs_cons (db_of (de_bltn (gl_of (by kernel_rfl)) h.n_str boot_str)) (dbs_nil))))))) (dw_or1 (t_ni (db_of (de_ix (b_v 1 rfl (.inl l_change_in_1) m_thing) (db_of (de_int)))) (db_of (de_tup (da_cons (de_str) (da_cons (de_str) (da_nil))))) hr (by rfl))))) (dss_one (show DS _ _ _ _ (w_change_in_3 Ex) from ds_ret (de_bl))) (dss_nil))
  (dss_one (show DS _ _ _ _ (w_change_in_4 Ex) from ds_ret (de_and (k_fn c_are_cells SM_are_cells hr hgd hx hT (by decide) (gl_of (by kernel_rfl)) m_are_cells (dbs_cons (b_v 0 rfl (.inl l_change_in_0) m_field) (dbs_cons (db_of (de_ix (b_v 1 rfl (.inl l_change_in_1) m_thing) (db_of (de_int)))) (dbs_nil)))) (de_one (e_lele (db_of (de_int)) (db_of (k_len (gl_of (by kernel_rfl)) h.n_len (dbs_cons (db_of (de_ix (b_v 1 rfl (.inl l_change_in_1) m_thing) (db_of (de_int)))) (dbs_nil)))) (db_of (e_gi (gl_of (by kernel_rfl)) m_MOST_CELLS h.c_MOST_CELLS))))))))
def w_is_telling_1 (Ex : XD) : WS := wsR (wC (.bl false))
def w_is_telling_0 (Ex : XD) : WS := wsI (wOr (wNot (wTr (wB (wCall (c2 isiF) (wBc (wN 1) (wBc (wB (wC (.opq (.ty "tuple")))) (wBn))))))) (wOr (wT (wOp neD (wB (wCall (c1 lenF) (wBc (wN 1) (wBn)))) (wB (wC (.int 2))))) (wNot (wTr (wB (wCallF S_is_whole Ex (wBc (wB (wOp ixD (wN 1) (wB (wC (.int 0))))) (wBc (wB (wC (.int 1))) (wBc (wB (wC (.int 9))) (wBn)))))))))) (w_is_telling_1 Ex) (wsN)
def w_is_telling_2 (Ex : XD) : WS := wsR (wCallF S_change_in Ex (wBc (wN 0) (wBc (wB (wOp ixD (wN 1) (wB (wC (.int 1))))) (wBn))))
def w_is_telling (Ex : XD) : WS := wsS (w_is_telling_0 Ex) (w_is_telling_2 Ex)
theorem b_is_telling {P : Program} {w : PySem.World} {K : PySem.W.Frag} {mg : Str → Option Value} {base : Heap} {T : List (Addr × Str)} {f : Addr} (h : Hd mg) (c_change_in : FnC P w K mg base T 4 "change_in" ["field", "thing"] S_change_in) (c_is_whole : FnC P w K mg base T 1 "is_whole" ["thing", "low", "high"] S_is_whole) (cdv : Value) (A : Around) (outer : List Env) (s : Shared) (H : Hp) (E : XK) (G : Gm) (Ex : XD) (hr : Room 4 (FX P w K mg base N_is_telling "is_telling" (defScope s_is_telling) f cdv A outer s H E).A) (hgd : (FX P w K mg base N_is_telling "is_telling" (defScope s_is_telling) f cdv A outer s H E).A.guards = some []) (hcd : PySem.W.codeIn K cdv "is_telling" = true) (hT : G.T = T) (hn : G.n = N_is_telling.length) (hx : TakesD (FX P w K mg base N_is_telling "is_telling" (defScope s_is_telling) f cdv A outer s H E) G [true, true] Ex) : DSs (FX P w K mg base N_is_telling "is_telling" (defScope s_is_telling) f cdv A outer s H E) G [true, true] (defBody s_is_telling) (w_is_telling Ex) :=
  dss_cons (show DS _ _ _ _ (w_is_telling_0 Ex) from ds_if (dt_w (dw_or (dt_not (dt_truth (db_of (k_isi (gl_of (by kernel_rfl)) h.n_isinstance (dbs_cons (b_v 1 rfl (.inl l_is_telling_1) m_thing) (dbs_cons (db_of (de_bltn (gl_of (by kernel_rfl)) h.n_tuple boot_tuple)) (dbs_nil))))))) (dw_or (t_ne (db_of (k_len (gl_of (by kernel_rfl)) h.n_len (dbs_cons (b_v 1 rfl (.inl l_is_telling_1) m_thing) (dbs_nil)))) (db_of (de_int)) hr) (dw_or1 (dt_not (dt_truth (db_of (k_fn c_is_whole SM_is_whole hr hgd hx hT (by decide) (gl_of (by kernel_rfl)) m_is_whole (dbs_cons (db_of (de_ix (b_v 1 rfl (.inl l_is_telling_1) m_thing) (db_of (de_int)))) (dbs_cons (db_of (de_int)) (dbs_cons (db_of (e_gi (gl_of (by kernel_rfl)) m_MOST_TELLERS h.c_MOST_TELLERS)) (dbs_nil)))))))))))) (dss_one (show DS _ _ _ _ (w_is_telling_1 Ex) from ds_ret (de_bl))) (dss_nil))
  (dss_one (show DS _ _ _ _ (w_is_telling_2 Ex) from ds_ret (k_fn c_change_in SM_change_in hr hgd hx hT (by decide) (gl_of (by kernel_rfl)) m_change_in (dbs_cons (b_v 0 rfl (.inl l_is_telling_0) m_field) (dbs_cons (db_of (de_ix (b_v 1 rfl (.inl l_is_telling_1) m_thing) (db_of (de_int)))) (dbs_nil))))))
def w_is_case_1 (Ex : XD) : WS := wsR (wC (.bl false))
def w_is_case_0 (Ex : XD) : WS := wsI (wOr (wNot (wTr (wB (wCall (c2 isiF) (wBc (wN 0) (wBc (wB (wC (.opq (.ty "tuple")))) (wBn))))))) (wOr (wT (wOp neD (wB (wCall (c1 lenF) (wBc (wN 0) (wBn)))) (wB (wC (.int 4))))) (wNot (wTr (wB (wCallF S_is_field Ex (wBc (wB (wOp ixD (wN 0) (wB (wC (.int 0))))) (wBn)))))))) (w_is_case_1 Ex) (wsN)
def w_is_case_2 (Ex : XD) : WS := wsA (wV 0) (gT (gsC (gN 1) (gsC (gN 2) (gsC (gN 3) (gsC (gN 4) (gsN))))))
def w_is_case_4 (Ex : XD) : WS := wsR (wC (.bl false))
def w_is_case_3 (Ex : XD) : WS := wsI (wOr (wNot (wTr (wB (wCallF S_is_whole Ex (wBc (wN 2) (wBc (wB (wC (.int 1))) (wBc (wB (wC (.int 9))) (wBn)))))))) (wOr (wNot (wTr (wB (wCall (c2 isiF) (wBc (wN 3) (wBc (wB (wC (.opq (.ty "list")))) (wBn))))))) (wNot (wTr (wB (wCall (c2 isiF) (wBc (wN 4) (wBc (wB (wC (.opq (.ty "list")))) (wBn))))))))) (w_is_case_4 Ex) (wsN)
def w_is_case_6 (Ex : XD) : WS := wsR (wC (.bl false))
def w_is_case_5 (Ex : XD) : WS := wsI (wOr (wT (wOp gtD (wB (wCall (c1 lenF) (wBc (wN 3) (wBn)))) (wB (wC (.int 16))))) (wT (wOp gtD (wB (wCall (c1 lenF) (wBc (wN 4) (wBn)))) (wB (wC (.int 40)))))) (w_is_case_6 Ex) (wsN)
def w_is_case_7 (Ex : XD) : WS := wsR (wAndV (wCall (c1 allF) (wBc (wB (wLc (wiS (wV 3)) (gi1 (gN 5)) (wYes) (wCallF S_is_telling noX (wBc (wN 1) (wBc (wN 5) (wBn)))) [5])) (wBn))) (wCall (c1 allF) (wBc (wB (wLc (wiS (wV 4)) (gi1 (gN 5)) (wYes) (wCallF S_is_mark noX (wBc (wN 1) (wBc (wN 5) (wBn)))) [5])) (wBn))))
def w_is_case (Ex : XD) : WS := wsS (w_is_case_0 Ex) (wsS (w_is_case_2 Ex) (wsS (w_is_case_3 Ex) (wsS (w_is_case_5 Ex) (w_is_case_7 Ex))))
theorem b_is_case {P : Program} {w : PySem.World} {K : PySem.W.Frag} {mg : Str → Option Value} {base : Heap} {T : List (Addr × Str)} {f : Addr} (h : Hd mg) (c_is_field : FnC P w K mg base T 2 "is_field" ["thing"] S_is_field) (c_is_mark : FnC P w K mg base T 3 "is_mark" ["field", "thing"] S_is_mark) (c_is_telling : FnC P w K mg base T 5 "is_telling" ["field", "thing"] S_is_telling) (c_is_whole : FnC P w K mg base T 1 "is_whole" ["thing", "low", "high"] S_is_whole) (cdv : Value) (A : Around) (outer : List Env) (s : Shared) (H : Hp) (E : XK) (G : Gm) (Ex : XD) (hr : Room 5 (FX P w K mg base N_is_case "is_case" (defScope s_is_case) f cdv A outer s H E).A) (hgd : (FX P w K mg base N_is_case "is_case" (defScope s_is_case) f cdv A outer s H E).A.guards = some []) (hcd : PySem.W.codeIn K cdv "is_case" = true) (hT : G.T = T) (hn : G.n = N_is_case.length) (hx : TakesD (FX P w K mg base N_is_case "is_case" (defScope s_is_case) f cdv A outer s H E) G [true] Ex) : DSs (FX P w K mg base N_is_case "is_case" (defScope s_is_case) f cdv A outer s H E) G [true] (defBody s_is_case) (w_is_case Ex) :=
  dss_cons (show DS _ _ _ _ (w_is_case_0 Ex) from ds_if (dt_w (dw_or (dt_not (dt_truth (db_of (k_isi (gl_of (by kernel_rfl)) h.n_isinstance (dbs_cons (b_v 0 rfl (.inl l_is_case_0) m_thing) (dbs_cons (db_of (de_bltn (gl_of (by kernel_rfl)) h.n_tuple boot_tuple)) (dbs_nil))))))) (dw_or (t_ne (db_of (k_len (gl_of (by kernel_rfl)) h.n_len (dbs_cons (b_v 0 rfl (.inl l_is_case_0) m_thing) (dbs_nil)))) (db_of (de_int)) hr) (dw_or1 (dt_not (dt_truth (db_of (k_fn c_is_field SM_is_field hr hgd hx hT (by decide) (gl_of (by kernel_rfl)) m_is_field (dbs_cons (db_of (de_ix (b_v 0 rfl (.inl l_is_case_0) m_thing) (db_of (de_int)))) (dbs_nil)))))))))) (dss_one (show DS _ _ _ _ (w_is_case_1 Ex) from ds_ret (de_bl))) (dss_nil))
  (dss_cons (show DS _ _ _ _ (w_is_case_2 Ex) from ds_asg (e_v 0 rfl (.inl l_is_case_0) m_thing) (g_tup rfl (dgs_cons (dg_name sc_is_case.nd rfl (.inr l_is_case_1) (by rfl) (.inl rfl)) (dgs_cons (dg_name sc_is_case.nd rfl (.inl l_is_case_2) (by rfl) (.inl rfl)) (dgs_cons (dg_name sc_is_case.nd rfl (.inl l_is_case_3) (by rfl) (.inl rfl)) (dgs_cons (dg_name sc_is_case.nd rfl (.inl l_is_case_4) (by rfl) (.inl rfl)) (dgs_nil))))) (ln_c (gg_N) (ln_c (gg_N) (ln_c (gg_N) (ln_c (gg_N) (ln_n)))))))
  (dss_cons (show DS _ _ _ _ (w_is_case_3 Ex) from ds_if (dt_w (dw_or (dt_not (dt_truth (db_of (k_fn c_is_whole SM_is_whole hr hgd hx hT (by decide) (gl_of (by kernel_rfl)) m_is_whole (dbs_cons (b_v 2 rfl (.inl l_is_case_2) m_pace) (dbs_cons (db_of (de_int)) (dbs_cons (db_of (e_gi (gl_of (by kernel_rfl)) m_MOST_PACE h.c_MOST_PACE)) (dbs_nil)))))))) (dw_or (dt_not (dt_truth (db_of (k_isi (gl_of (by kernel_rfl)) h.n_isinstance (dbs_cons (b_v 3 rfl (.inl l_is_case_3) m_tellings) (dbs_cons (db_of (de_bltn (gl_of (by kernel_rfl)) h.n_list boot_list)) (dbs_nil))))))) (dw_or1 (dt_not (dt_truth (db_of (k_isi (gl_of (by kernel_rfl)) h.n_isinstance (dbs_cons (b_v 4 rfl (.inl l_is_case_4) m_marks) (dbs_cons (db_of (de_bltn (gl_of (by kernel_rfl)) h.n_list boot_list)) (dbs_nil))))))))))) (dss_one (show DS _ _ _ _ (w_is_case_4 Ex) from ds_ret (de_bl))) (dss_nil))
  (dss_cons (show DS _ _ _ _ (w_is_case_5 Ex) from ds_if (dt_w (dw_or (t_gt (db_of (k_len (gl_of (by kernel_rfl)) h.n_len (dbs_cons (b_v 3 rfl (.inl l_is_case_3) m_tellings) (dbs_nil)))) (db_of (e_gi (gl_of (by kernel_rfl)) m_MOST_TELLINGS h.c_MOST_TELLINGS))) (dw_or1 (t_gt (db_of (k_len (gl_of (by kernel_rfl)) h.n_len (dbs_cons (b_v 4 rfl (.inl l_is_case_4) m_marks) (dbs_nil)))) (db_of (e_gi (gl_of (by kernel_rfl)) m_MOST_MARKS h.c_MOST_MARKS)))))) (dss_one (show DS _ _ _ _ (w_is_case_6 Ex) from ds_ret (de_bl))) (dss_nil))
  (dss_one (show DS _ _ _ _ (w_is_case_7 Ex) from ds_ret (de_and (k_all rfl (gl_of (by kernel_rfl)) h.n_all (dbs_cons (db_of (de_lc (own := [("one", 5)]) [true, true, true, true, true, false] rfl sc_is_case.nd (di_seq (e_v 3 rfl (.inl l_is_case_3) m_tellings)) (blkOk_by (by kernel_rfl)) (by rfl) hn (by decide) (fun _ eT1 en1 _ _ _ _ _ => dgi_one (dg_name sc_is_case.nd rfl (.inl (by kernel_rfl)) (by rfl) (.inr (by kernel_rfl)))) (fun _ eT1 en1 _ _ _ _ _ => dts_nil) (fun _ eT1 en1 _ _ _ _ _ => k_fn c_is_telling SM_is_telling hr hgd takes_blk (eT1.trans hT) (by decide) (gl_of (by kernel_rfl)) m_is_telling (dbs_cons (b_v 1 rfl (.inr (.inl (by kernel_rfl))) m_field) (dbs_cons (b_v 5 rfl (.inl (by kernel_rfl)) m_one) (dbs_nil)))))) (dbs_nil))) (de_one (k_all rfl (gl_of (by kernel_rfl)) h.n_all (dbs_cons (db_of (de_lc (own := [("one", 5)]) [true, true, true, true, true, false] rfl sc_is_case.nd (di_seq (e_v 4 rfl (.inl l_is_case_4) m_marks)) (blkOk_by (by kernel_rfl)) (by rfl) hn (by decide) (fun _ eT2 en2 _ _ _ _ _ => dgi_one (dg_name sc_is_case.nd rfl (.inl (by kernel_rfl)) (by rfl) (.inr (by kernel_rfl)))) (fun _ eT2 en2 _ _ _ _ _ => dts_nil) (fun _ eT2 en2 _ _ _ _ _ => k_fn c_is_mark SM_is_mark hr hgd takes_blk (eT2.trans hT) (by decide) (gl_of (by kernel_rfl)) m_is_mark (dbs_cons (b_v 1 rfl (.inr (.inl (by kernel_rfl))) m_field) (dbs_cons (b_v 5 rfl (.inl (by kernel_rfl)) m_one) (dbs_nil)))))) (dbs_nil))))))))))
def w_need_case_0 (Ex : XD) : WS := wsI (wNot (wTr (wB (wCallF S_is_case Ex (wBc (wN 0) (wBn)))))) ((fun _ _ => False)) (wsN)
def w_need_case (Ex : XD) : WS := w_need_case_0 Ex
theorem b_need_case {P : Program} {w : PySem.World} {K : PySem.W.Frag} {mg : Str → Option Value} {base : Heap} {T : List (Addr × Str)} {f : Addr} (h : Hd mg) (c_is_case : FnC P w K mg base T 6 "is_case" ["thing"] S_is_case) (cdv : Value) (A : Around) (outer : List Env) (s : Shared) (H : Hp) (E : XK) (G : Gm) (Ex : XD) (hr : Room 6 (FX P w K mg base N_need_case "need_case" (defScope s_need_case) f cdv A outer s H E).A) (hgd : (FX P w K mg base N_need_case "need_case" (defScope s_need_case) f cdv A outer s H E).A.guards = some []) (hcd : PySem.W.codeIn K cdv "need_case" = true) (hT : G.T = T) (hn : G.n = N_need_case.length) (hx : TakesD (FX P w K mg base N_need_case "need_case" (defScope s_need_case) f cdv A outer s H E) G [true] Ex) : DSs (FX P w K mg base N_need_case "need_case" (defScope s_need_case) f cdv A outer s H E) G [true] (defBody s_need_case) (w_need_case Ex) :=
  dss_one (show DS _ _ _ _ (w_need_case_0 Ex) from ds_if (dt_not (dt_truth (db_of (k_fn c_is_case SM_is_case hr hgd hx hT (by decide) (gl_of (by kernel_rfl)) m_is_case (dbs_cons (b_v 0 rfl (.inl l_need_case_0) m_case) (dbs_nil)))))) (dss_never) (dss_nil))
def w_need_cell_1 (Ex : XD) : WS := (fun _ ρ => Ex "NoCell" [] ρ)
def w_need_cell_0 (Ex : XD) : WS := wsI (wNot (wTr (wB (wCallF S_is_cell Ex (wBc (wN 0) (wBc (wN 1) (wBn))))))) (w_need_cell_1 Ex) (wsN)
def w_need_cell (Ex : XD) : WS := w_need_cell_0 Ex
theorem b_need_cell {P : Program} {w : PySem.World} {K : PySem.W.Frag} {mg : Str → Option Value} {base : Heap} {T : List (Addr × Str)} {f : Addr} (h : Hd mg) (xh : Hx mg K) (c_is_cell : FnC P w K mg base T 2 "is_cell" ["field", "thing"] S_is_cell) (cdv : Value) (A : Around) (outer : List Env) (s : Shared) (H : Hp) (E : XK) (G : Gm) (Ex : XD) (hr : Room 2 (FX P w K mg base N_need_cell "need_cell" (defScope s_need_cell) f cdv A outer s H E).A) (hgd : (FX P w K mg base N_need_cell "need_cell" (defScope s_need_cell) f cdv A outer s H E).A.guards = some []) (hcd : PySem.W.codeIn K cdv "need_cell" = true) (hT : G.T = T) (hn : G.n = N_need_cell.length) (hx : TakesD (FX P w K mg base N_need_cell "need_cell" (defScope s_need_cell) f cdv A outer s H E) G [true, true] Ex) : DSs (FX P w K mg base N_need_cell "need_cell" (defScope s_need_cell) f cdv A outer s H E) G [true, true] (defBody s_need_cell) (w_need_cell Ex) :=
  dss_one (show DS _ _ _ _ (w_need_cell_0 Ex) from ds_if (dt_not (dt_truth (db_of (k_fn c_is_cell SM_is_cell hr hgd hx hT (by decide) (gl_of (by kernel_rfl)) m_is_cell (dbs_cons (b_v 0 rfl (.inl l_need_cell_0) m_field) (dbs_cons (b_v 1 rfl (.inl l_need_cell_1) m_cell) (dbs_nil))))))) (dss_one (show DS _ _ _ _ (w_need_cell_1 Ex) from ds_raise rfl xh.r_NoCell hx (gl_of (by kernel_rfl)) (by decide))) (dss_nil))
def w_need_day_1 (Ex : XD) : WS := (fun _ ρ => Ex "NoDay" [] ρ)
def w_need_day_0 (Ex : XD) : WS := wsI (wNot (wTr (wB (wCallF S_is_whole Ex (wBc (wN 0) (wBc (wB (wC (.int 0))) (wBc (wB (wC (.int 999))) (wBn)))))))) (w_need_day_1 Ex) (wsN)
def w_need_day (Ex : XD) : WS := w_need_day_0 Ex
theorem b_need_day {P : Program} {w : PySem.World} {K : PySem.W.Frag} {mg : Str → Option Value} {base : Heap} {T : List (Addr × Str)} {f : Addr} (h : Hd mg) (xh : Hx mg K) (c_is_whole : FnC P w K mg base T 1 "is_whole" ["thing", "low", "high"] S_is_whole) (cdv : Value) (A : Around) (outer : List Env) (s : Shared) (H : Hp) (E : XK) (G : Gm) (Ex : XD) (hr : Room 1 (FX P w K mg base N_need_day "need_day" (defScope s_need_day) f cdv A outer s H E).A) (hgd : (FX P w K mg base N_need_day "need_day" (defScope s_need_day) f cdv A outer s H E).A.guards = some []) (hcd : PySem.W.codeIn K cdv "need_day" = true) (hT : G.T = T) (hn : G.n = N_need_day.length) (hx : TakesD (FX P w K mg base N_need_day "need_day" (defScope s_need_day) f cdv A outer s H E) G [true] Ex) : DSs (FX P w K mg base N_need_day "need_day" (defScope s_need_day) f cdv A outer s H E) G [true] (defBody s_need_day) (w_need_day Ex) :=
  dss_one (show DS _ _ _ _ (w_need_day_0 Ex) from ds_if (dt_not (dt_truth (db_of (k_fn c_is_whole SM_is_whole hr hgd hx hT (by decide) (gl_of (by kernel_rfl)) m_is_whole (dbs_cons (b_v 0 rfl (.inl l_need_day_0) m_day) (dbs_cons (db_of (de_int)) (dbs_cons (db_of (e_gi (gl_of (by kernel_rfl)) m_LAST_DAY h.c_LAST_DAY)) (dbs_nil)))))))) (dss_one (show DS _ _ _ _ (w_need_day_1 Ex) from ds_raise rfl xh.r_NoDay hx (gl_of (by kernel_rfl)) (by decide))) (dss_nil))
def w_hangs_0 (Ex : XD) : WS := wsX (wCallF S_need_case Ex (wBc (wN 0) (wBn)))
def w_hangs_1 (Ex : XD) : WS := wsX (wCallF S_need_day Ex (wBc (wN 1) (wBn)))
def w_hangs_2 (Ex : XD) : WS := wsX (wCallF S_need_cell Ex (wBc (wB (wOp ixD (wN 0) (wB (wC (.int 0))))) (wBc (wN 2) (wBn))))
def w_hangs (Ex : XD) : WS := wsS (w_hangs_0 Ex) (wsS (w_hangs_1 Ex) (wsS (w_hangs_2 Ex) ((fun _ _ => False))))
theorem b_hangs {P : Program} {w : PySem.World} {K : PySem.W.Frag} {mg : Str → Option Value} {base : Heap} {T : List (Addr × Str)} {f : Addr} (h : Hd mg) (c_need_case : FnC P w K mg base T 7 "need_case" ["case"] S_need_case) (c_need_cell : FnC P w K mg base T 3 "need_cell" ["field", "cell"] S_need_cell) (c_need_day : FnC P w K mg base T 2 "need_day" ["day"] S_need_day) (cdv : Value) (A : Around) (outer : List Env) (s : Shared) (H : Hp) (E : XK) (G : Gm) (Ex : XD) (hr : Room 7 (FX P w K mg base N_hangs "hangs" (defScope s_hangs) f cdv A outer s H E).A) (hgd : (FX P w K mg base N_hangs "hangs" (defScope s_hangs) f cdv A outer s H E).A.guards = some []) (hcd : PySem.W.codeIn K cdv "hangs" = true) (hT : G.T = T) (hn : G.n = N_hangs.length) (hx : TakesD (FX P w K mg base N_hangs "hangs" (defScope s_hangs) f cdv A outer s H E) G [true, true, true] Ex) : DSs (FX P w K mg base N_hangs "hangs" (defScope s_hangs) f cdv A outer s H E) G [true, true, true] (defBody s_hangs) (w_hangs Ex) :=
  dss_cons (show DS _ _ _ _ (w_hangs_0 Ex) from ds_expr (k_fn c_need_case SM_need_case hr hgd hx hT (by decide) (gl_of (by kernel_rfl)) m_need_case (dbs_cons (b_v 0 rfl (.inl l_hangs_0) m_case) (dbs_nil))))
  (dss_cons (show DS _ _ _ _ (w_hangs_1 Ex) from ds_expr (k_fn c_need_day SM_need_day hr hgd hx hT (by decide) (gl_of (by kernel_rfl)) m_need_day (dbs_cons (b_v 1 rfl (.inl l_hangs_1) m_day) (dbs_nil))))
  (dss_cons (show DS _ _ _ _ (w_hangs_2 Ex) from ds_expr (k_fn c_need_cell SM_need_cell hr hgd hx hT (by decide) (gl_of (by kernel_rfl)) m_need_cell (dbs_cons (db_of (de_ix (b_v 0 rfl (.inl l_hangs_0) m_case) (db_of (de_int)))) (dbs_cons (b_v 2 rfl (.inr (.inl l_hangs_2)) m_cell) (dbs_nil)))))
  (dss_never)))
def w_Register_hangs_now_0 (Ex : XD) : WS := wsR (wCallF S_hangs Ex (wBc (wB (wMeth 0 "Register" ks_Register S_Register_case_now Ex wBn)) (wBc (wN 1) (wBc (wN 2) (wBn)))))
def w_Register_hangs_now (Ex : XD) : WS := w_Register_hangs_now_0 Ex
theorem b_Register_hangs_now {P : Program} {w : PySem.World} {K : PySem.W.Frag} {mg : Str → Option Value} {base : Heap} {T : List (Addr × Str)} {f : Addr} (h : Hd mg) (c_Register_case_now : MtC P w K mg base T 1 "Register" "case_now" ["self"] S_Register_case_now) (c_hangs : FnC P w K mg base T 8 "hangs" ["case", "day", "cell"] S_hangs) (cdv : Value) (A : Around) (outer : List Env) (s : Shared) (H : Hp) (E : XK) (G : Gm) (Ex : XD) (hr : Room 8 (FX P w K mg base N_Register_hangs_now "Register.hangs_now" (defScope s_Register_hangs_now) f cdv A outer s H E).A) (hgd : (FX P w K mg base N_Register_hangs_now "Register.hangs_now" (defScope s_Register_hangs_now) f cdv A outer s H E).A.guards = some []) (hcd : PySem.W.codeIn K cdv "Register.hangs_now" = true) (hT : G.T = T) (hn : G.n = N_Register_hangs_now.length) (hx : TakesD (FX P w K mg base N_Register_hangs_now "Register.hangs_now" (defScope s_Register_hangs_now) f cdv A outer s H E) G [true, true, true] Ex) : DSs (FX P w K mg base N_Register_hangs_now "Register.hangs_now" (defScope s_Register_hangs_now) f cdv A outer s H E) G [true, true, true] (defBody s_Register_hangs_now) (w_Register_hangs_now Ex) :=
  dss_one (show DS _ _ _ _ (w_Register_hangs_now_0 Ex) from ds_ret (k_fn c_hangs SM_hangs hr hgd hx hT (by decide) (gl_of (by kernel_rfl)) m_hangs (dbs_cons (db_of (de_meth0 c_Register_case_now SM_Register_case_now hr hgd hx hT (by decide) (by decide +kernel) rfl (.inl l_Register_hangs_now_0) m_self)) (dbs_cons (b_v 1 rfl (.inl l_Register_hangs_now_1) m_day) (dbs_cons (b_v 2 rfl (.inl l_Register_hangs_now_2) m_cell) (dbs_nil))))))
def w_holders_0 (Ex : XD) : WS := wsX (wCallF S_need_case Ex (wBc (wN 0) (wBn)))
def w_holders_1 (Ex : XD) : WS := wsX (wCallF S_need_day Ex (wBc (wN 1) (wBn)))
def w_holders (Ex : XD) : WS := wsS (w_holders_0 Ex) (wsS (w_holders_1 Ex) ((fun _ _ => False)))
theorem b_holders {P : Program} {w : PySem.World} {K : PySem.W.Frag} {mg : Str → Option Value} {base : Heap} {T : List (Addr × Str)} {f : Addr} (h : Hd mg) (c_need_case : FnC P w K mg base T 7 "need_case" ["case"] S_need_case) (c_need_day : FnC P w K mg base T 2 "need_day" ["day"] S_need_day) (cdv : Value) (A : Around) (outer : List Env) (s : Shared) (H : Hp) (E : XK) (G : Gm) (Ex : XD) (hr : Room 7 (FX P w K mg base N_holders "holders" (defScope s_holders) f cdv A outer s H E).A) (hgd : (FX P w K mg base N_holders "holders" (defScope s_holders) f cdv A outer s H E).A.guards = some []) (hcd : PySem.W.codeIn K cdv "holders" = true) (hT : G.T = T) (hn : G.n = N_holders.length) (hx : TakesD (FX P w K mg base N_holders "holders" (defScope s_holders) f cdv A outer s H E) G [true, true] Ex) : DSs (FX P w K mg base N_holders "holders" (defScope s_holders) f cdv A outer s H E) G [true, true] (defBody s_holders) (w_holders Ex) :=
  dss_cons (show DS _ _ _ _ (w_holders_0 Ex) from ds_expr (k_fn c_need_case SM_need_case hr hgd hx hT (by decide) (gl_of (by kernel_rfl)) m_need_case (dbs_cons (b_v 0 rfl (.inl l_holders_0) m_case) (dbs_nil))))
  (dss_cons (show DS _ _ _ _ (w_holders_1 Ex) from ds_expr (k_fn c_need_day SM_need_day hr hgd hx hT (by decide) (gl_of (by kernel_rfl)) m_need_day (dbs_cons (b_v 1 rfl (.inl l_holders_1) m_day) (dbs_nil))))
  (dss_never))
def w_Register_holders_now_0 (Ex : XD) : WS := wsR (wCallF S_holders Ex (wBc (wB (wMeth 0 "Register" ks_Register S_Register_case_now Ex wBn)) (wBc (wN 1) (wBn))))
def w_Register_holders_now (Ex : XD) : WS := w_Register_holders_now_0 Ex
theorem b_Register_holders_now {P : Program} {w : PySem.World} {K : PySem.W.Frag} {mg : Str → Option Value} {base : Heap} {T : List (Addr × Str)} {f : Addr} (h : Hd mg) (c_Register_case_now : MtC P w K mg base T 1 "Register" "case_now" ["self"] S_Register_case_now) (c_holders : FnC P w K mg base T 8 "holders" ["case", "day"] S_holders) (cdv : Value) (A : Around) (outer : List Env) (s : Shared) (H : Hp) (E : XK) (G : Gm) (Ex : XD) (hr : Room 8 (FX P w K mg base N_Register_holders_now "Register.holders_now" (defScope s_Register_holders_now) f cdv A outer s H E).A) (hgd : (FX P w K mg base N_Register_holders_now "Register.holders_now" (defScope s_Register_holders_now) f cdv A outer s H E).A.guards = some []) (hcd : PySem.W.codeIn K cdv "Register.holders_now" = true) (hT : G.T = T) (hn : G.n = N_Register_holders_now.length) (hx : TakesD (FX P w K mg base N_Register_holders_now "Register.holders_now" (defScope s_Register_holders_now) f cdv A outer s H E) G [true, true] Ex) : DSs (FX P w K mg base N_Register_holders_now "Register.holders_now" (defScope s_Register_holders_now) f cdv A outer s H E) G [true, true] (defBody s_Register_holders_now) (w_Register_holders_now Ex) :=
  dss_one (show DS _ _ _ _ (w_Register_holders_now_0 Ex) from ds_ret (k_fn c_holders SM_holders hr hgd hx hT (by decide) (gl_of (by kernel_rfl)) m_holders (dbs_cons (db_of (de_meth0 c_Register_case_now SM_Register_case_now hr hgd hx hT (by decide) (by decide +kernel) rfl (.inl l_Register_holders_now_0) m_self)) (dbs_cons (b_v 1 rfl (.inl l_Register_holders_now_1) m_day) (dbs_nil)))))
def w_law_which_0 (c : Str) (ns : List Int) (a : Addr) : WS := wsA (wLst (wCons (wIsE 0 a (decide (c = "NoField"))) (wCons (wIsE 0 a (decide (c = "NoCell"))) (wCons (wIsE 0 a (decide (c = "NoCells"))) (wCons (wIsE 0 a (decide (c = "NoNumber"))) (wNil)))))) (gN 1)
def w_law_which_1 (c : Str) (ns : List Int) (a : Addr) : WS := wsA (wOp addD (wN 1) (wB (wLst (wCons (wIsE 0 a (decide (c = "NoFronts"))) (wCons (wIsE 0 a (decide (c = "NoStanding"))) (wCons (wIsE 0 a (decide (c = "NoChange"))) (wNil))))))) (gN 1)
def w_law_which_2 (c : Str) (ns : List Int) (a : Addr) : WS := wsA (wOp addD (wN 1) (wB (wLst (wCons (wIsE 0 a (decide (c = "NoChanges"))) (wCons (wIsE 0 a (decide (c = "NoDay"))) (wCons (wIsE 0 a (decide (c = "NoPace"))) (wCons (wIsE 0 a (decide (c = "NoSpans"))) (wNil)))))))) (gN 1)
def w_law_which_3 (c : Str) (ns : List Int) (a : Addr) : WS := wsA (wOp addD (wN 1) (wB (wLst (wCons (wIsE 0 a (decide (c = "NoCase"))) (wCons (wIsE 0 a (decide (c = "NoTelling"))) (wCons (wIsE 0 a (decide (c = "NoMark"))) (wCons (wIsE 0 a (decide (c = "NoText"))) (wNil)))))))) (gN 1)
def w_law_which_4 (c : Str) (ns : List Int) (a : Addr) : WS := wsA (wOp addD (wN 1) (wB (wLst (wCons (wIsE 0 a (decide (c = "NoLine"))) (wCons (wIsE 0 a (decide (c = "There"))) (wCons (wIsE 0 a (decide (c = "Gone"))) (wCons (wIsE 0 a (decide (c = "Nothing"))) (wNil)))))))) (gN 1)
def w_law_which_5 (c : Str) (ns : List Int) (a : Addr) : WS := wsA (wOp addD (wN 1) (wB (wLst (wCons (wIsE 0 a (decide (c = "TooMany"))) (wNil))))) (gN 1)
def w_law_which_7 (c : Str) (ns : List Int) (a : Addr) : WS := wsR (wTup (wCons (wC (.str "other")) (wNil)))
def w_law_which_6 (c : Str) (ns : List Int) (a : Addr) : WS := wsI (wOr (wNot (wTr (wB (wIsE 0 a true)))) (wT (wOp neD (wB (wMn "list" cntLF 1 (wCons (wC (.bl true)) (wNil)))) (wB (wC (.int 1)))))) (w_law_which_7 c ns a) (wsN)
def w_law_which_9 (c : Str) (ns : List Int) (a : Addr) : WS := wsR (wTup (wCons (wC (.str "many")) (wCons (wXfM "TooMany" c ns 0 a 0) (wCons (wXfM "TooMany" c ns 0 a 1) (wNil)))))
def w_law_which_8 (c : Str) (ns : List Int) (a : Addr) : WS := wsI (wTr (wB (wOp ixD (wN 1) (wB (wC (.int 19)))))) (w_law_which_9 c ns a) (wsN)
def w_law_which_10 (c : Str) (ns : List Int) (a : Addr) : WS := wsA (wLst (wCons (wC (.str "field")) (wCons (wC (.str "cell")) (wCons (wC (.str "cells")) (wCons (wC (.str "number")) (wCons (wC (.str "fronts")) (wCons (wC (.str "standing")) (wCons (wC (.str "change")) (wCons (wC (.str "changes")) (wCons (wC (.str "day")) (wCons (wC (.str "pace")) (wCons (wC (.str "spans")) (wNil))))))))))))) (gN 2)
def w_law_which_11 (c : Str) (ns : List Int) (a : Addr) : WS := wsA (wOp addD (wN 2) (wB (wLst (wCons (wC (.str "case")) (wCons (wC (.str "telling")) (wCons (wC (.str "mark")) (wCons (wC (.str "text")) (wCons (wC (.str "line")) (wCons (wC (.str "there")) (wCons (wC (.str "gone")) (wCons (wC (.str "nothing")) (wNil)))))))))))) (gN 2)
def w_law_which_12 (c : Str) (ns : List Int) (a : Addr) : WS := wsR (wTup (wCons (wOp ixD (wN 2) (wB (wMn "list" ixLF 1 (wCons (wC (.bl true)) (wNil))))) (wNil)))
def w_law_which (c : Str) (ns : List Int) (a : Addr) : WS := wsS (w_law_which_0 c ns a) (wsS (w_law_which_1 c ns a) (wsS (w_law_which_2 c ns a) (wsS (w_law_which_3 c ns a) (wsS (w_law_which_4 c ns a) (wsS (w_law_which_5 c ns a) (wsS (w_law_which_6 c ns a) (wsS (w_law_which_8 c ns a) (wsS (w_law_which_10 c ns a) (wsS (w_law_which_11 c ns a) (w_law_which_12 c ns a))))))))))
theorem b_law_which {P : Program} {w : PySem.World} {K : PySem.W.Frag} {mg : Str → Option Value} {base : Heap} (h : Hd mg) (xh : Hx mg K) {c : Str} {ns : List Int} {d : Option Addr} {t : D} (hc : ok_law_said c ns = some t) (g : Addr) (cdg : Value) (A : Around) (outer : List Env) (s : Shared) (H : Hp) (a : Addr) (oe : Obj) (hz : Zc (.ref (He.ga K c)) d oe) (hf : ∃ vs, oe.data = .fields vs) (hu : A.units + 200 < cLine) (G : Gm) (hg : XG ns d G) : DSs ((cxOf C8.CX0 P w K mg base N_law_which "_law_which" (defScope s_law_which) g cdg A outer s H C8.E0).nox.suite a [(a, oe)]) G [] (defBody s_law_which) (w_law_which c ns a) := by
  have xe := xh.x_law_said c ns t hc
  have hu : ((cxOf C8.CX0 P w K mg base N_law_which "_law_which" (defScope s_law_which) g cdg A outer s H C8.E0).nox.suite a [(a, oe)]).A.units + 66 < cLine := by show A.units + 3 + 66 < cLine; omega
  exact dss_cons (show DS _ _ _ _ (w_law_which_0 c ns a) from ds_set sc_law_which.nd rfl (.inl l_law_which_1) (de_lst (da_cons (de_isEM hg xe.e hz hf (gl_of (by kernel_rfl)) h.n_isinstance relR (xe.k "NoField" (by decide +kernel)) rfl (.inl l_law_which_0) m_law_e (de_globR (gl_of (by kernel_rfl)) xh.g_NoField (by decide))) (da_cons (de_isEM hg xe.e hz hf (gl_of (by kernel_rfl)) h.n_isinstance relR (xe.k "NoCell" (by decide +kernel)) rfl (.inl l_law_which_0) m_law_e (de_globR (gl_of (by kernel_rfl)) xh.g_NoCell (by decide))) (da_cons (de_isEM hg xe.e hz hf (gl_of (by kernel_rfl)) h.n_isinstance relR (xe.k "NoCells" (by decide +kernel)) rfl (.inl l_law_which_0) m_law_e (de_globR (gl_of (by kernel_rfl)) xh.g_NoCells (by decide))) (da_cons (de_isEM hg xe.e hz hf (gl_of (by kernel_rfl)) h.n_isinstance relR (xe.k "NoNumber" (by decide +kernel)) rfl (.inl l_law_which_0) m_law_e (de_globR (gl_of (by kernel_rfl)) xh.g_NoNumber (by decide))) (da_nil)))))) (by rfl) (by rfl) (.inl rfl))
    (dss_cons (show DS _ _ _ _ (w_law_which_1 c ns a) from ds_set sc_law_which.nd rfl (.inl l_law_which_1) (e_add (b_v 1 rfl (.inl l_law_which_1) m_law_marks) (db_of (de_lst (da_cons (de_isEM hg xe.e hz hf (gl_of (by kernel_rfl)) h.n_isinstance relR (xe.k "NoFronts" (by decide +kernel)) rfl (.inl l_law_which_0) m_law_e (de_globR (gl_of (by kernel_rfl)) xh.g_NoFronts (by decide))) (da_cons (de_isEM hg xe.e hz hf (gl_of (by kernel_rfl)) h.n_isinstance relR (xe.k "NoStanding" (by decide +kernel)) rfl (.inl l_law_which_0) m_law_e (de_globR (gl_of (by kernel_rfl)) xh.g_NoStanding (by decide))) (da_cons (de_isEM hg xe.e hz hf (gl_of (by kernel_rfl)) h.n_isinstance relR (xe.k "NoChange" (by decide +kernel)) rfl (.inl l_law_which_0) m_law_e (de_globR (gl_of (by kernel_rfl)) xh.g_NoChange (by decide))) (da_nil))))))) (by rfl) (by rfl) (.inl rfl))
    (dss_cons (show DS _ _ _ _ (w_law_which_2 c ns a) from ds_set sc_law_which.nd rfl (.inl l_law_which_1) (e_add (b_v 1 rfl (.inl l_law_which_1) m_law_marks) (db_of (de_lst (da_cons (de_isEM hg xe.e hz hf (gl_of (by kernel_rfl)) h.n_isinstance relR (xe.k "NoChanges" (by decide +kernel)) rfl (.inl l_law_which_0) m_law_e (de_globR (gl_of (by kernel_rfl)) xh.g_NoChanges (by decide))) (da_cons (de_isEM hg xe.e hz hf (gl_of (by kernel_rfl)) h.n_isinstance relR (xe.k "NoDay" (by decide +kernel)) rfl (.inl l_law_which_0) m_law_e (de_globR (gl_of (by kernel_rfl)) xh.g_NoDay (by decide))) (da_cons (de_isEM hg xe.e hz hf (gl_of (by kernel_rfl)) h.n_isinstance relR (xe.k "NoPace" (by decide +kernel)) rfl (.inl l_law_which_0) m_law_e (de_globR (gl_of (by kernel_rfl)) xh.g_NoPace (by decide))) (da_cons (de_isEM hg xe.e hz hf (gl_of (by kernel_rfl)) h.n_isinstance relR (xe.k "NoSpans" (by decide +kernel)) rfl (.inl l_law_which_0) m_law_e (de_globR (gl_of (by kernel_rfl)) xh.g_NoSpans (by decide))) (da_nil)))))))) (by rfl) (by rfl) (.inl rfl))
    (dss_cons (show DS _ _ _ _ (w_law_which_3 c ns a) from ds_set sc_law_which.nd rfl (.inl l_law_which_1) (e_add (b_v 1 rfl (.inl l_law_which_1) m_law_marks) (db_of (de_lst (da_cons (de_isEM hg xe.e hz hf (gl_of (by kernel_rfl)) h.n_isinstance relR (xe.k "NoCase" (by decide +kernel)) rfl (.inl l_law_which_0) m_law_e (de_globR (gl_of (by kernel_rfl)) xh.g_NoCase (by decide))) (da_cons (de_isEM hg xe.e hz hf (gl_of (by kernel_rfl)) h.n_isinstance relR (xe.k "NoTelling" (by decide +kernel)) rfl (.inl l_law_which_0) m_law_e (de_globR (gl_of (by kernel_rfl)) xh.g_NoTelling (by decide))) (da_cons (de_isEM hg xe.e hz hf (gl_of (by kernel_rfl)) h.n_isinstance relR (xe.k "NoMark" (by decide +kernel)) rfl (.inl l_law_which_0) m_law_e (de_globR (gl_of (by kernel_rfl)) xh.g_NoMark (by decide))) (da_cons (de_isEM hg xe.e hz hf (gl_of (by kernel_rfl)) h.n_isinstance relR (xe.k "NoText" (by decide +kernel)) rfl (.inl l_law_which_0) m_law_e (de_globR (gl_of (by kernel_rfl)) xh.g_NoText (by decide))) (da_nil)))))))) (by rfl) (by rfl) (.inl rfl))
    (dss_cons (show DS _ _ _ _ (w_law_which_4 c ns a) from ds_set sc_law_which.nd rfl (.inl l_law_which_1) (e_add (b_v 1 rfl (.inl l_law_which_1) m_law_marks) (db_of (de_lst (da_cons (de_isEM hg xe.e hz hf (gl_of (by kernel_rfl)) h.n_isinstance relR (xe.k "NoLine" (by decide +kernel)) rfl (.inl l_law_which_0) m_law_e (de_globR (gl_of (by kernel_rfl)) xh.g_NoLine (by decide))) (da_cons (de_isEM hg xe.e hz hf (gl_of (by kernel_rfl)) h.n_isinstance relR (xe.k "There" (by decide +kernel)) rfl (.inl l_law_which_0) m_law_e (de_globR (gl_of (by kernel_rfl)) xh.g_There (by decide))) (da_cons (de_isEM hg xe.e hz hf (gl_of (by kernel_rfl)) h.n_isinstance relR (xe.k "Gone" (by decide +kernel)) rfl (.inl l_law_which_0) m_law_e (de_globR (gl_of (by kernel_rfl)) xh.g_Gone (by decide))) (da_cons (de_isEM hg xe.e hz hf (gl_of (by kernel_rfl)) h.n_isinstance relR (xe.k "Nothing" (by decide +kernel)) rfl (.inl l_law_which_0) m_law_e (de_globR (gl_of (by kernel_rfl)) xh.g_Nothing (by decide))) (da_nil)))))))) (by rfl) (by rfl) (.inl rfl))
    (dss_cons (show DS _ _ _ _ (w_law_which_5 c ns a) from ds_set sc_law_which.nd rfl (.inl l_law_which_1) (e_add (b_v 1 rfl (.inl l_law_which_1) m_law_marks) (db_of (de_lst (da_cons (de_isEM hg xe.e hz hf (gl_of (by kernel_rfl)) h.n_isinstance relR (xe.k "TooMany" (by decide +kernel)) rfl (.inl l_law_which_0) m_law_e (de_globR (gl_of (by kernel_rfl)) xh.g_TooMany (by decide))) (da_nil))))) (by rfl) (by rfl) (.inl rfl))
    (dss_cons (show DS _ _ _ _ (w_law_which_6 c ns a) from ds_if (dt_w (dw_or (dt_not (dt_truth (db_of (de_isEM hg xe.e hz hf (gl_of (by kernel_rfl)) h.n_isinstance relT xe.v rfl (.inl l_law_which_0) m_law_e (de_bltn (gl_of (by kernel_rfl)) h.n_ValueError boot_ValueError))))) (dw_or1 (t_neU hu (db_of (m_countL hu rfl (.inl l_law_which_1) m_law_marks (da_cons (de_bl) (da_nil)))) (db_of (de_int)))))) (dss_one (show DS _ _ _ _ (w_law_which_7 c ns a) from ds_ret (de_tup (da_cons (de_str) (da_nil))))) (dss_nil))
    (dss_cons (show DS _ _ _ _ (w_law_which_8 c ns a) from ds_if (dt_truth (db_of (de_ix (b_v 1 rfl (.inl l_law_which_1) m_law_marks) (db_of (de_int))))) (dss_one (show DS _ _ _ _ (w_law_which_9 c ns a) from ds_ret (de_tup (da_cons (de_str) (da_cons (de_xfM xh.xf_TooMany xh.xn_many hz hf hg lk_many rfl (.inl l_law_which_0) m_law_e) (da_cons (de_xfM xh.xf_TooMany xh.xn_most hz hf hg lk_most rfl (.inl l_law_which_0) m_law_e) (da_nil))))))) (dss_nil))
    (dss_cons (show DS _ _ _ _ (w_law_which_10 c ns a) from ds_set sc_law_which.nd rfl (.inl l_law_which_2) (de_lst (da_cons (de_str) (da_cons (de_str) (da_cons (de_str) (da_cons (de_str) (da_cons (de_str) (da_cons (de_str) (da_cons (de_str) (da_cons (de_str) (da_cons (de_str) (da_cons (de_str) (da_cons (de_str) (da_nil))))))))))))) (by rfl) (by rfl) (.inl rfl))
    (dss_cons (show DS _ _ _ _ (w_law_which_11 c ns a) from ds_set sc_law_which.nd rfl (.inl l_law_which_2) (e_add (b_v 2 rfl (.inl l_law_which_2) m_law_names) (db_of (de_lst (da_cons (de_str) (da_cons (de_str) (da_cons (de_str) (da_cons (de_str) (da_cons (de_str) (da_cons (de_str) (da_cons (de_str) (da_cons (de_str) (da_nil)))))))))))) (by rfl) (by rfl) (.inl rfl))
    (dss_one (show DS _ _ _ _ (w_law_which_12 c ns a) from ds_ret (de_tup (da_cons (de_ix (b_v 2 rfl (.inl l_law_which_2) m_law_names) (db_of (m_indexL hu rfl (.inl l_law_which_1) m_law_marks (da_cons (de_bl) (da_nil))))) (da_nil))))))))))))))
def w_law_asked_right_0 (Ex : XD) : WS := wsA (wLst (wCons (wSaidM ok_law_said (fun Ex => wMeth 0 "Register" ks_Register S_Register_holders_now Ex (wBc (wB (wC (.int 1000))) (wBn)))) (wNil))) (gN 3)
def w_law_asked_right_1 (Ex : XD) : WS := wsX (wMn "list" apF 3 (wCons (wSaidM ok_law_said (fun Ex => wMeth 0 "Register" ks_Register S_Register_hangs_now Ex (wBc (wB (wC (.bl true))) (wBc (wB (wCall (c1 lenF) (wBc (wB (wOp ixD (wN 1) (wB (wC (.int 1))))) (wBn)))) (wBn))))) (wNil)))
def w_law_asked_right_2 (Ex : XD) : WS := wsX (wMn "list" apF 3 (wCons (wSaidM ok_law_said (fun Ex => wMeth 0 "Register" ks_Register S_Register_hangs_now Ex (wBc (wB (wC (.int 5))) (wBc (wB (wCall (c1 lenF) (wBc (wB (wOp ixD (wN 1) (wB (wC (.int 1))))) (wBn)))) (wBn))))) (wNil)))
def w_law_asked_right_3 (Ex : XD) : WS := wsX (wMn "list" apF 3 (wCons (wSaidM ok_law_said (fun Ex => wMeth 0 "Register" ks_Register S_Register_hangs_now Ex (wBc (wB (wC (.int 5))) (wBc (wB (wNeg (wC (.int 1)))) (wBn))))) (wNil)))
def w_law_asked_right_4 (Ex : XD) : WS := wsX (wMn "list" apF 3 (wCons (wSaidM ok_law_said (fun Ex => wMeth 0 "Register" ks_Register S_Register_holders_now Ex (wBc (wB (wC (.str "5"))) (wBn)))) (wNil)))
def w_law_asked_right_5 (Ex : XD) : WS := wsR (wOp eqD (wN 3) (wB (wLst (wCons (wTup (wCons (wC (.str "day")) (wNil))) (wCons (wTup (wCons (wC (.str "day")) (wNil))) (wCons (wTup (wCons (wC (.str "cell")) (wNil))) (wCons (wTup (wCons (wC (.str "cell")) (wNil))) (wCons (wTup (wCons (wC (.str "day")) (wNil))) (wNil)))))))))
def w_law_asked_right (Ex : XD) : WS := wsS (w_law_asked_right_0 Ex) (wsS (w_law_asked_right_1 Ex) (wsS (w_law_asked_right_2 Ex) (wsS (w_law_asked_right_3 Ex) (wsS (w_law_asked_right_4 Ex) (w_law_asked_right_5 Ex)))))
theorem b_law_asked_right {P : Program} {w : PySem.World} {K : PySem.W.Frag} {mg : Str → Option Value} {base : Heap} {T : List (Addr × Str)} {f : Addr} (h : Hd mg) (c_Register_hangs_now : MtC P w K mg base T 9 "Register" "hangs_now" ["self", "day", "cell"] S_Register_hangs_now) (c_Register_holders_now : MtC P w K mg base T 9 "Register" "holders_now" ["self", "day"] S_Register_holders_now) (cK : SaidM P w K mg base T "_law_said" ok_law_said) (cdv : Value) (cM : ∀ A outer s H E, LamM base mg T cdv (FX P w K mg base N_law_asked_right "_law_asked_right" (defScope s_law_asked_right) f cdv A outer s H E).env.qual) (A : Around) (outer : List Env) (s : Shared) (H : Hp) (E : XK) (G : Gm) (Ex : XD) (hr : Room 11 (FX P w K mg base N_law_asked_right "_law_asked_right" (defScope s_law_asked_right) f cdv A outer s H E).A) (hgd : (FX P w K mg base N_law_asked_right "_law_asked_right" (defScope s_law_asked_right) f cdv A outer s H E).A.guards = some []) (hcd : PySem.W.codeIn K cdv "_law_asked_right" = true) (hT : G.T = T) (hn : G.n = N_law_asked_right.length) (hx : TakesD (FX P w K mg base N_law_asked_right "_law_asked_right" (defScope s_law_asked_right) f cdv A outer s H E) G [true, true, true] Ex) : DSs (FX P w K mg base N_law_asked_right "_law_asked_right" (defScope s_law_asked_right) f cdv A outer s H E) G [true, true, true] (defBody s_law_asked_right) (w_law_asked_right Ex) :=
  dss_cons (show DS _ _ _ _ (w_law_asked_right_0 Ex) from ds_set sc_law_asked_right.nd rfl (.inl l_law_asked_right_3) (de_lst (da_cons (de_saidMt cK (cM A outer s H E) c_Register_holders_now SM_Register_holders_now hr (by decide) hgd hT hn (gl_of (by kernel_rfl)) m_law_said (LamX.lamS_by (by kernel_rfl)) (by rfl) (fun _ _ _ _ _ => by first | rfl | kernel_rfl) (by decide +kernel) rfl (fun _ _ _ _ _ _ _ => (.inr (.inr (by kernel_rfl)))) m_law_office (fun _ _ _ _ _ _ _ _ _ => dbs_cons (db_of (de_int)) (dbs_nil))) (da_nil))) (by rfl) (by rfl) (.inl rfl))
  (dss_cons (show DS _ _ _ _ (w_law_asked_right_1 Ex) from ds_expr (m_append rfl (.inl l_law_asked_right_3) m_law_calls (da_cons (de_saidMt cK (cM A outer s H E) c_Register_hangs_now SM_Register_hangs_now hr (by decide) hgd hT hn (gl_of (by kernel_rfl)) m_law_said (LamX.lamS_by (by kernel_rfl)) (by rfl) (fun _ _ _ _ _ => by first | rfl | kernel_rfl) (by decide +kernel) rfl (fun _ _ _ _ _ _ _ => (.inr (.inr (by kernel_rfl)))) m_law_office (fun _ _ _ _ _ _ _ _ _ => dbs_cons (db_of (de_bl)) (dbs_cons (db_of (k_len (gl_of (by kernel_rfl)) h.n_len (dbs_cons (db_of (de_ix (b_v 1 rfl (.inr (.inr (by kernel_rfl))) m_law_field_here) (db_of (de_int)))) (dbs_nil)))) (dbs_nil)))) (da_nil))))
  (dss_cons (show DS _ _ _ _ (w_law_asked_right_2 Ex) from ds_expr (m_append rfl (.inl l_law_asked_right_3) m_law_calls (da_cons (de_saidMt cK (cM A outer s H E) c_Register_hangs_now SM_Register_hangs_now hr (by decide) hgd hT hn (gl_of (by kernel_rfl)) m_law_said (LamX.lamS_by (by kernel_rfl)) (by rfl) (fun _ _ _ _ _ => by first | rfl | kernel_rfl) (by decide +kernel) rfl (fun _ _ _ _ _ _ _ => (.inr (.inr (by kernel_rfl)))) m_law_office (fun _ _ _ _ _ _ _ _ _ => dbs_cons (db_of (de_int)) (dbs_cons (db_of (k_len (gl_of (by kernel_rfl)) h.n_len (dbs_cons (db_of (de_ix (b_v 1 rfl (.inr (.inr (by kernel_rfl))) m_law_field_here) (db_of (de_int)))) (dbs_nil)))) (dbs_nil)))) (da_nil))))
  (dss_cons (show DS _ _ _ _ (w_law_asked_right_3 Ex) from ds_expr (m_append rfl (.inl l_law_asked_right_3) m_law_calls (da_cons (de_saidMt cK (cM A outer s H E) c_Register_hangs_now SM_Register_hangs_now hr (by decide) hgd hT hn (gl_of (by kernel_rfl)) m_law_said (LamX.lamS_by (by kernel_rfl)) (by rfl) (fun _ _ _ _ _ => by first | rfl | kernel_rfl) (by decide +kernel) rfl (fun _ _ _ _ _ _ _ => (.inr (.inr (by kernel_rfl)))) m_law_office (fun _ _ _ _ _ _ _ _ _ => dbs_cons (db_of (de_int)) (dbs_cons (db_of (de_neg (de_int))) (dbs_nil)))) (da_nil))))
  (dss_cons (show DS _ _ _ _ (w_law_asked_right_4 Ex) from ds_expr (m_append rfl (.inl l_law_asked_right_3) m_law_calls (da_cons (de_saidMt cK (cM A outer s H E) c_Register_holders_now SM_Register_holders_now hr (by decide) hgd hT hn (gl_of (by kernel_rfl)) m_law_said (LamX.lamS_by (by kernel_rfl)) (by rfl) (fun _ _ _ _ _ => by first | rfl | kernel_rfl) (by decide +kernel) rfl (fun _ _ _ _ _ _ _ => (.inr (.inr (by kernel_rfl)))) m_law_office (fun _ _ _ _ _ _ _ _ _ => dbs_cons (db_of (de_str)) (dbs_nil))) (da_nil))))
  (dss_one (show DS _ _ _ _ (w_law_asked_right_5 Ex) from ds_ret (e_eq (b_v 3 rfl (.inl l_law_asked_right_3) m_law_calls) (db_of (de_lst (da_cons (de_tup (da_cons (de_str) (da_nil))) (da_cons (de_tup (da_cons (de_str) (da_nil))) (da_cons (de_tup (da_cons (de_str) (da_nil))) (da_cons (de_tup (da_cons (de_str) (da_nil))) (da_cons (de_tup (da_cons (de_str) (da_nil))) (da_nil)))))))) hr)))))))
def w_law_take_0 (Ex : XD) : WS := wsA (wCall (c2 divF) (wBc (wB (wOp ixD (wN 0) (wB (wC (.int 0))))) (wBc (wN 1) (wBn)))) (gT (gsC (gN 2) (gsC (gN 3) (gsN))))
def w_law_take_1 (Ex : XD) : WS := wsA (wV 2) (gSn 0 (wC (.int 0)))
def w_law_take_2 (Ex : XD) : WS := wsR (wMv 3)
def w_law_take (Ex : XD) : WS := wsS (w_law_take_0 Ex) (wsS (w_law_take_1 Ex) (w_law_take_2 Ex))
theorem b_law_take {P : Program} {w : PySem.World} {K : PySem.W.Frag} {mg : Str → Option Value} {base : Heap} {T : List (Addr × Str)} {f : Addr} (h : Hd mg)  (cdv : Value) (A : Around) (outer : List Env) (s : Shared) (H : Hp) (E : XK) (G : Gm) (Ex : XD) (hr : Room 0 (FX P w K mg base N_law_take "_law_take" (defScope s_law_take) f cdv A outer s H E).A) (hgd : (FX P w K mg base N_law_take "_law_take" (defScope s_law_take) f cdv A outer s H E).A.guards = some []) (hcd : PySem.W.codeIn K cdv "_law_take" = true) (hT : G.T = T) (hn : G.n = N_law_take.length) (hx : TakesD (FX P w K mg base N_law_take "_law_take" (defScope s_law_take) f cdv A outer s H E) G [true, true] Ex) : DSs (FX P w K mg base N_law_take "_law_take" (defScope s_law_take) f cdv A outer s H E) G [true, true] (defBody s_law_take) (w_law_take Ex) :=
  dss_cons (show DS _ _ _ _ (w_law_take_0 Ex) from ds_asg (k_divmod (gl_of (by kernel_rfl)) h.n_divmod (dbs_cons (db_of (de_ix (b_v 0 rfl (.inl l_law_take_0) m_law_box_here) (db_of (de_int)))) (dbs_cons (b_v 1 rfl (.inl l_law_take_1) m_law_count) (dbs_nil)))) (g_tup rfl (dgs_cons (dg_name sc_law_take.nd rfl (.inl l_law_take_2) (by rfl) (.inl rfl)) (dgs_cons (dg_name sc_law_take.nd rfl (.inl l_law_take_3) (by rfl) (.inl rfl)) (dgs_nil))) (ln_c (gg_N) (ln_c (gg_N) (ln_n)))))
  (dss_cons (show DS _ _ _ _ (w_law_take_1 Ex) from ds_asg (e_v 2 rfl (.inl l_law_take_2) m_law_left) (dg_subN rfl (.inl l_law_take_0) m_law_box_here (de_int)))
  (dss_one (show DS _ _ _ _ (w_law_take_2 Ex) from ds_ret (e_m 3 rfl (.inl l_law_take_3) m_law_digit))))
def w_law_field_0 (Ex : XD) : WS := wsP 2 3 (wCons (wOp addD (wB (wC (.int 1))) (wB (wCallF S_law_take Ex (wBc (wN 0) (wBc (wN 1) (wBn)))))) (wCons (wOp addD (wB (wC (.int 1))) (wB (wCallF S_law_take Ex (wBc (wN 0) (wBc (wN 1) (wBn)))))) (wNil)))
def w_law_field_1 (Ex : XD) : WS := wsP 4 5 (wCons (wLc (wiR1 (wCons (wC (.int 4)) (wNil))) (gi1 (gN 12)) (wYes) (wOp addD (wB (wC (.int 1))) (wB (wCallF S_law_take noX (wBc (wN 0) (wBc (wB (wC (.int 9))) (wBn)))))) [12]) (wCons (wCallF S_law_take Ex (wBc (wN 0) (wBc (wB (wC (.int 4))) (wBn)))) (wNil)))
def w_law_field_2 (Ex : XD) : WS := wsP 6 7 (wCons (wCallF S_law_take Ex (wBc (wN 0) (wBc (wN 3) (wBn)))) (wCons (wLst (wNil)) (wNil)))
def w_law_field_4 (Ex : XD) : WS := wsP 9 10 (wCons (wOp divD (wN 8) (wN 2)) (wCons (wCall (c1 intF) (wBc (wB (wOp gteD (wB (wOp mulD (wB (wC (.int 2))) (wB (wOp modD (wN 8) (wN 2))))) (wN 2))) (wBn))) (wNil)))
def w_law_field_5 (Ex : XD) : WS := wsA (wOp ixD (wB (wLst (wCons (wOp ixD (wN 4) (wB (wOp addD (wN 10) (wB (wOp mulD (wB (wC (.int 2))) (wB (wCall (c1 intF) (wBc (wB (wOp gtD (wN 9) (wN 6))) (wBn))))))))) (wCons (wC (.int 0)) (wNil))))) (wB (wCall (c1 intF) (wBc (wB (wOp eqD (wN 9) (wN 6))) (wBn))))) (gN 11)
def w_law_field_7 (Ex : XD) : WS := wsA (wOp ixD (wB (wLst (wCons (wC (.int 0)) (wCons (wC (.int 0)) (wCons (wOp ixD (wN 4) (wB (wC (.int 0)))) (wCons (wOp ixD (wN 4) (wB (wC (.int 1)))) (wCons (wOp addD (wB (wC (.int 1))) (wB (wCallF S_law_take Ex (wBc (wN 0) (wBc (wB (wC (.int 9))) (wBn)))))) (wNil)))))))) (wB (wCallF S_law_take Ex (wBc (wN 0) (wBc (wB (wC (.int 5))) (wBn)))))) (gN 11)
def w_law_field_6 (Ex : XD) : WS := wsI (wOr (wT (wOp eqD (wN 5) (wB (wC (.int 0))))) (wT (wOp eqD (wB (wCallF S_law_take Ex (wBc (wN 0) (wBc (wB (wC (.int 7))) (wBn))))) (wB (wC (.int 6)))))) (w_law_field_7 Ex) (wsN)
def w_law_field_8 (Ex : XD) : WS := wsX (wMn "list" apF 7 (wCons (wV 11) (wNil)))
def w_law_field_3 (Ex : XD) : WS := wsF (wiR1 (wCons (wOp mulD (wN 2) (wN 3)) (wNil))) (gi1 (gN 8)) (wsS (w_law_field_4 Ex) (wsS (w_law_field_5 Ex) (wsS (w_law_field_6 Ex) (w_law_field_8 Ex))))
def w_law_field_9 (Ex : XD) : WS := wsR (wTup (wCons (wV 2) (wCons (wCall (c1 tupF) (wBc (wN 7) (wBn))) (wNil))))
def w_law_field (Ex : XD) : WS := wsS (w_law_field_0 Ex) (wsS (w_law_field_1 Ex) (wsS (w_law_field_2 Ex) (wsS (w_law_field_3 Ex) (w_law_field_9 Ex))))
theorem b_law_field {P : Program} {w : PySem.World} {K : PySem.W.Frag} {mg : Str → Option Value} {base : Heap} {T : List (Addr × Str)} {f : Addr} (h : Hd mg) (c_law_take : FnC P w K mg base T 1 "_law_take" ["_law_box_here", "_law_count"] S_law_take) (cdv : Value) (A : Around) (outer : List Env) (s : Shared) (H : Hp) (E : XK) (G : Gm) (Ex : XD) (hr : Room 1 (FX P w K mg base N_law_field "_law_field" (defScope s_law_field) f cdv A outer s H E).A) (hgd : (FX P w K mg base N_law_field "_law_field" (defScope s_law_field) f cdv A outer s H E).A.guards = some []) (hcd : PySem.W.codeIn K cdv "_law_field" = true) (hT : G.T = T) (hn : G.n = N_law_field.length) (hx : TakesD (FX P w K mg base N_law_field "_law_field" (defScope s_law_field) f cdv A outer s H E) G [true, true] Ex) : DSs (FX P w K mg base N_law_field "_law_field" (defScope s_law_field) f cdv A outer s H E) G [true, true] (defBody s_law_field) (w_law_field Ex) :=
  dss_cons (show DS _ _ _ _ (w_law_field_0 Ex) from ds_par rfl sc_law_field.nd rfl rfl (by decide) l_law_field_2 l_law_field_3 (da_cons (e_add (db_of (de_int)) (db_of (k_fn c_law_take SM_law_take hr hgd hx hT (by decide) (gl_of (by kernel_rfl)) m_law_take (dbs_cons (b_v 0 rfl (.inr (.inl l_law_field_0)) m_law_box_here) (dbs_cons (b_v 1 rfl (.inl l_law_field_1) m_law_most) (dbs_nil)))))) (da_cons (e_add (db_of (de_int)) (db_of (k_fn c_law_take SM_law_take hr hgd hx hT (by decide) (gl_of (by kernel_rfl)) m_law_take (dbs_cons (b_v 0 rfl (.inr (.inl l_law_field_0)) m_law_box_here) (dbs_cons (b_v 1 rfl (.inl l_law_field_1) m_law_most) (dbs_nil)))))) (da_nil))) (by kernel_rfl))
  (dss_cons (show DS _ _ _ _ (w_law_field_1 Ex) from ds_par rfl sc_law_field.nd rfl rfl (by decide) l_law_field_4 l_law_field_5 (da_cons (de_lc (own := [("_law_turn", 12)]) [true, true, true, true, true, true, true, true, true, true, true, true, false] rfl sc_law_field.nd (di_range1 (gl_of (by kernel_rfl)) h.n_range (da_cons (de_int) (da_nil))) (blkOk_by (by kernel_rfl)) (by rfl) hn (by decide) (fun _ eT1 en1 _ _ _ _ _ => dgi_one (dg_name sc_law_field.nd rfl (.inl (by kernel_rfl)) (by rfl) (.inr (by kernel_rfl)))) (fun _ eT1 en1 _ _ _ _ _ => dts_nil) (fun _ eT1 en1 _ _ _ _ _ => e_add (db_of (de_int)) (db_of (k_fn c_law_take SM_law_take hr hgd takes_blk (eT1.trans hT) (by decide) (gl_of (by kernel_rfl)) m_law_take (dbs_cons (b_v 0 rfl (.inr (.inl (by kernel_rfl))) m_law_box_here) (dbs_cons (db_of (de_int)) (dbs_nil))))))) (da_cons (k_fn c_law_take SM_law_take hr hgd hx hT (by decide) (gl_of (by kernel_rfl)) m_law_take (dbs_cons (b_v 0 rfl (.inr (.inl l_law_field_0)) m_law_box_here) (dbs_cons (db_of (de_int)) (dbs_nil)))) (da_nil))) (by kernel_rfl))
  (dss_cons (show DS _ _ _ _ (w_law_field_2 Ex) from ds_par rfl sc_law_field.nd rfl rfl (by decide) l_law_field_6 l_law_field_7 (da_cons (k_fn c_law_take SM_law_take hr hgd hx hT (by decide) (gl_of (by kernel_rfl)) m_law_take (dbs_cons (b_v 0 rfl (.inr (.inl l_law_field_0)) m_law_box_here) (dbs_cons (b_v 3 rfl (.inl l_law_field_3) m_law_high) (dbs_nil)))) (da_cons (de_lst (da_nil)) (da_nil))) (by kernel_rfl))
  (dss_cons (show DS _ _ _ _ (w_law_field_3 Ex) from ds_for (passes_of rfl) rfl (di_range1 (gl_of (by kernel_rfl)) h.n_range (da_cons (e_mul (b_v 2 rfl (.inl l_law_field_2) m_law_wide) (b_v 3 rfl (.inl l_law_field_3) m_law_high)) (da_nil))) (dgi_one (dg_name sc_law_field.nd rfl (.inl l_law_field_8) (by rfl) (.inl rfl))) (dss_cons (show DS _ _ _ _ (w_law_field_4 Ex) from ds_par rfl sc_law_field.nd rfl rfl (by decide) l_law_field_9 l_law_field_10 (da_cons (e_div (b_v 8 rfl (.inl l_law_field_8) m_law_cell_here) (b_v 2 rfl (.inl l_law_field_2) m_law_wide)) (da_cons (k_int (gl_of (by kernel_rfl)) h.n_int (dbs_cons (db_of (e_ge (db_of (e_mul (db_of (de_int)) (db_of (e_mod (b_v 8 rfl (.inl l_law_field_8) m_law_cell_here) (b_v 2 rfl (.inl l_law_field_2) m_law_wide))))) (b_v 2 rfl (.inl l_law_field_2) m_law_wide))) (dbs_nil))) (da_nil))) (by kernel_rfl))
  (dss_cons (show DS _ _ _ _ (w_law_field_5 Ex) from ds_set sc_law_field.nd rfl (.inl l_law_field_11) (de_ix (db_of (de_lst (da_cons (de_ix (b_v 4 rfl (.inl l_law_field_4) m_law_some) (db_of (e_add (b_v 10 rfl (.inl l_law_field_10) m_law_side) (db_of (e_mul (db_of (de_int)) (db_of (k_int (gl_of (by kernel_rfl)) h.n_int (dbs_cons (db_of (e_gt (b_v 9 rfl (.inl l_law_field_9) m_law_row) (b_v 6 rfl (.inl l_law_field_6) m_law_middle))) (dbs_nil))))))))) (da_cons (de_int) (da_nil))))) (db_of (k_int (gl_of (by kernel_rfl)) h.n_int (dbs_cons (db_of (e_eq (b_v 9 rfl (.inl l_law_field_9) m_law_row) (b_v 6 rfl (.inl l_law_field_6) m_law_middle) hr)) (dbs_nil))))) (by rfl) (by rfl) (.inl rfl))
  (dss_cons (show DS _ _ _ _ (w_law_field_6 Ex) from ds_if (dt_w (dw_or (t_eq (b_v 5 rfl (.inl l_law_field_5) m_law_way) (db_of (de_int)) hr) (dw_or1 (t_eq (db_of (k_fn c_law_take SM_law_take hr hgd hx hT (by decide) (gl_of (by kernel_rfl)) m_law_take (dbs_cons (b_v 0 rfl (.inr (.inl l_law_field_0)) m_law_box_here) (dbs_cons (db_of (de_int)) (dbs_nil))))) (db_of (de_int)) hr)))) (dss_one (show DS _ _ _ _ (w_law_field_7 Ex) from ds_set sc_law_field.nd rfl (.inl l_law_field_11) (de_ix (db_of (de_lst (da_cons (de_int) (da_cons (de_int) (da_cons (de_ix (b_v 4 rfl (.inl l_law_field_4) m_law_some) (db_of (de_int))) (da_cons (de_ix (b_v 4 rfl (.inl l_law_field_4) m_law_some) (db_of (de_int))) (da_cons (e_add (db_of (de_int)) (db_of (k_fn c_law_take SM_law_take hr hgd hx hT (by decide) (gl_of (by kernel_rfl)) m_law_take (dbs_cons (b_v 0 rfl (.inr (.inl l_law_field_0)) m_law_box_here) (dbs_cons (db_of (de_int)) (dbs_nil)))))) (da_nil)))))))) (db_of (k_fn c_law_take SM_law_take hr hgd hx hT (by decide) (gl_of (by kernel_rfl)) m_law_take (dbs_cons (b_v 0 rfl (.inr (.inl l_law_field_0)) m_law_box_here) (dbs_cons (db_of (de_int)) (dbs_nil)))))) (by rfl) (by rfl) (.inl rfl))) (dss_nil))
  (dss_one (show DS _ _ _ _ (w_law_field_8 Ex) from ds_expr (m_append rfl (.inl l_law_field_7) m_law_cells (da_cons (e_v 11 rfl (.inl l_law_field_11) m_law_number) (da_nil)))))))))
  (dss_one (show DS _ _ _ _ (w_law_field_9 Ex) from ds_ret (de_tup (da_cons (e_v 2 rfl (.inl l_law_field_2) m_law_wide) (da_cons (k_tuple (gl_of (by kernel_rfl)) h.n_tuple (dbs_cons (b_v 7 rfl (.inl l_law_field_7) m_law_cells) (dbs_nil))) (da_nil)))))))))
def w_Register_become_0 (Ex : XD) : WS := wsX (wFlMe "list" apF 0 "Register" ks_Register 3 (wCons (wFl 0 "Register" ks_Register 2) (wNil)))
def w_Register_become_1 (Ex : XD) : WS := wsFlS 0 "Register" ks_Register 2 (wTup (wCons (wV 1) (wCons (wV 2) (wNil))))
def w_Register_become (Ex : XD) : WS := wsS (w_Register_become_0 Ex) (w_Register_become_1 Ex)
theorem b_Register_become {P : Program} {w : PySem.World} {K : PySem.W.Frag} {mg : Str → Option Value} {base : Heap} {T : List (Addr × Str)} {f : Addr} (h : Hd mg) (xh : Hx mg K)  (cdv : Value) (A : Around) (outer : List Env) (s : Shared) (H : Hp) (E : XK) (G : Gm) (Ex : XD) (hr : Room 0 (FX P w K mg base N_Register_become "Register.become" (defScope s_Register_become) f cdv A outer s H E).A) (hgd : (FX P w K mg base N_Register_become "Register.become" (defScope s_Register_become) f cdv A outer s H E).A.guards = some []) (hcd : PySem.W.codeIn K cdv "Register.become" = true) (hT : G.T = T) (hn : G.n = N_Register_become.length) (hx : TakesD (FX P w K mg base N_Register_become "Register.become" (defScope s_Register_become) f cdv A outer s H E) G [true, true, true] Ex) : DSs (FX P w K mg base N_Register_become "Register.become" (defScope s_Register_become) f cdv A outer s H E) G [true, true, true] (defBody s_Register_become) (w_Register_become Ex) :=
  dss_cons (show DS _ _ _ _ (w_Register_become_0 Ex) from ds_expr (de_flMe xh.i_Register (by decide +kernel) (by decide +kernel) rfl (.inl l_Register_become_0) m_self rfl F.plainAttrs_list F.slot_list_append F.type_list_append mt_append apD_ok (da_cons (de_fl xh.i_Register (by decide +kernel) (by decide +kernel) rfl (.inl l_Register_become_0) m_self) (da_nil)) rfl rfl rfl rfl rfl))
  (dss_one (show DS _ _ _ _ (w_Register_become_1 Ex) from ds_flS xh.i_Register (by decide +kernel) (by decide +kernel) (by decide) rfl (.inl l_Register_become_0) m_self (de_tup (da_cons (e_v 1 rfl (.inl l_Register_become_1) m_tellings) (da_cons (e_v 2 rfl (.inl l_Register_become_2) m_marks) (da_nil))))))
def w_need_mark_1 (Ex : XD) : WS := (fun _ ρ => Ex "NoMark" [] ρ)
def w_need_mark_0 (Ex : XD) : WS := wsI (wNot (wTr (wB (wCallF S_is_mark Ex (wBc (wN 0) (wBc (wN 1) (wBn))))))) (w_need_mark_1 Ex) (wsN)
def w_need_mark (Ex : XD) : WS := w_need_mark_0 Ex
theorem b_need_mark {P : Program} {w : PySem.World} {K : PySem.W.Frag} {mg : Str → Option Value} {base : Heap} {T : List (Addr × Str)} {f : Addr} (h : Hd mg) (xh : Hx mg K) (c_is_mark : FnC P w K mg base T 3 "is_mark" ["field", "thing"] S_is_mark) (cdv : Value) (A : Around) (outer : List Env) (s : Shared) (H : Hp) (E : XK) (G : Gm) (Ex : XD) (hr : Room 3 (FX P w K mg base N_need_mark "need_mark" (defScope s_need_mark) f cdv A outer s H E).A) (hgd : (FX P w K mg base N_need_mark "need_mark" (defScope s_need_mark) f cdv A outer s H E).A.guards = some []) (hcd : PySem.W.codeIn K cdv "need_mark" = true) (hT : G.T = T) (hn : G.n = N_need_mark.length) (hx : TakesD (FX P w K mg base N_need_mark "need_mark" (defScope s_need_mark) f cdv A outer s H E) G [true, true] Ex) : DSs (FX P w K mg base N_need_mark "need_mark" (defScope s_need_mark) f cdv A outer s H E) G [true, true] (defBody s_need_mark) (w_need_mark Ex) :=
  dss_one (show DS _ _ _ _ (w_need_mark_0 Ex) from ds_if (dt_not (dt_truth (db_of (k_fn c_is_mark SM_is_mark hr hgd hx hT (by decide) (gl_of (by kernel_rfl)) m_is_mark (dbs_cons (b_v 0 rfl (.inl l_need_mark_0) m_field) (dbs_cons (b_v 1 rfl (.inl l_need_mark_1) m_mark) (dbs_nil))))))) (dss_one (show DS _ _ _ _ (w_need_mark_1 Ex) from ds_raise rfl xh.r_NoMark hx (gl_of (by kernel_rfl)) (by decide))) (dss_nil))
def w_with_one_1 (Ex : XD) : WS := (fun _ ρ => Ex "There" [] ρ)
def w_with_one_0 (Ex : XD) : WS := wsI (wT (wOp (memD false) (wN 1) (wN 0))) (w_with_one_1 Ex) (wsN)
def w_with_one_3 (Ex : XD) : WS := (fun _ ρ => (wCons (wOp addD (wN 2) (wB (wC (.int 1)))) (wCons (wV 2) (wNil))) ρ fun es r => ∃ i i2 : Int, es = [.int i, .int i2] ∧ Ex "TooMany" [i, i2] r)
def w_with_one_2 (Ex : XD) : WS := wsI (wT (wOp eqD (wB (wCall (c1 lenF) (wBc (wN 0) (wBn)))) (wN 2))) (w_with_one_3 Ex) (wsN)
def w_with_one_4 (Ex : XD) : WS := wsR (wOp addD (wN 0) (wB (wLst (wCons (wV 1) (wNil)))))
def w_with_one (Ex : XD) : WS := wsS (w_with_one_0 Ex) (wsS (w_with_one_2 Ex) (w_with_one_4 Ex))
theorem b_with_one {P : Program} {w : PySem.World} {K : PySem.W.Frag} {mg : Str → Option Value} {base : Heap} {T : List (Addr × Str)} {f : Addr} (h : Hd mg) (xh : Hx mg K) (c_TooMany__init : RTwo P w K mg base 1 "TooMany") (cdv : Value) (A : Around) (outer : List Env) (s : Shared) (H : Hp) (E : XK) (G : Gm) (Ex : XD) (hr : Room 2 (FX P w K mg base N_with_one "with_one" (defScope s_with_one) f cdv A outer s H E).A) (hgd : (FX P w K mg base N_with_one "with_one" (defScope s_with_one) f cdv A outer s H E).A.guards = some []) (hcd : PySem.W.codeIn K cdv "with_one" = true) (hT : G.T = T) (hn : G.n = N_with_one.length) (hx : TakesD (FX P w K mg base N_with_one "with_one" (defScope s_with_one) f cdv A outer s H E) G [true, true, true] Ex) : DSs (FX P w K mg base N_with_one "with_one" (defScope s_with_one) f cdv A outer s H E) G [true, true, true] (defBody s_with_one) (w_with_one Ex) :=
  dss_cons (show DS _ _ _ _ (w_with_one_0 Ex) from ds_if (t_in (b_v 1 rfl (.inl l_with_one_1) m_thing) (b_v 0 rfl (.inl l_with_one_0) m_kept) hr (by rfl)) (dss_one (show DS _ _ _ _ (w_with_one_1 Ex) from ds_raise rfl xh.r_There hx (gl_of (by kernel_rfl)) (by decide))) (dss_nil))
  (dss_cons (show DS _ _ _ _ (w_with_one_2 Ex) from ds_if (t_eq (db_of (k_len (gl_of (by kernel_rfl)) h.n_len (dbs_cons (b_v 0 rfl (.inl l_with_one_0) m_kept) (dbs_nil)))) (b_v 2 rfl (.inl l_with_one_2) m_most) hr) (dss_one (show DS _ _ _ _ (w_with_one_3 Ex) from ds_raise2 rfl c_TooMany__init hx hr (by decide) (gl_of (by kernel_rfl)) (da_cons (e_add (b_v 2 rfl (.inl l_with_one_2) m_most) (db_of (de_int))) (da_cons (e_v 2 rfl (.inl l_with_one_2) m_most) (da_nil))))) (dss_nil))
  (dss_one (show DS _ _ _ _ (w_with_one_4 Ex) from ds_ret (e_add (b_v 0 rfl (.inl l_with_one_0) m_kept) (db_of (de_lst (da_cons (e_v 1 rfl (.inl l_with_one_1) m_thing) (da_nil))))))))
def w_Register_see_0 (Ex : XD) : WS := wsX (wCallF S_need_mark Ex (wBc (wB (wFl 0 "Register" ks_Register 0)) (wBc (wN 1) (wBn))))
def w_Register_see_1 (Ex : XD) : WS := wsA (wFl 0 "Register" ks_Register 2) (gT (gsC (gN 2) (gsC (gN 3) (gsN))))
def w_Register_see_2 (Ex : XD) : WS := wsX (wMeth 0 "Register" ks_Register S_Register_become Ex (wBc (wN 2) (wBc (wB (wCallF S_with_one Ex (wBc (wN 3) (wBc (wN 1) (wBc (wB (wC (.int 40))) (wBn)))))) (wBn))))
def w_Register_see (Ex : XD) : WS := wsS (w_Register_see_0 Ex) (wsS (w_Register_see_1 Ex) (w_Register_see_2 Ex))
theorem b_Register_see {P : Program} {w : PySem.World} {K : PySem.W.Frag} {mg : Str → Option Value} {base : Heap} {T : List (Addr × Str)} {f : Addr} (h : Hd mg) (xh : Hx mg K) (c_Register_become : MtC P w K mg base T 1 "Register" "become" ["self", "tellings", "marks"] S_Register_become) (c_need_mark : FnC P w K mg base T 4 "need_mark" ["field", "mark"] S_need_mark) (c_with_one : FnC P w K mg base T 3 "with_one" ["kept", "thing", "most"] S_with_one) (cdv : Value) (A : Around) (outer : List Env) (s : Shared) (H : Hp) (E : XK) (G : Gm) (Ex : XD) (hr : Room 4 (FX P w K mg base N_Register_see "Register.see" (defScope s_Register_see) f cdv A outer s H E).A) (hgd : (FX P w K mg base N_Register_see "Register.see" (defScope s_Register_see) f cdv A outer s H E).A.guards = some []) (hcd : PySem.W.codeIn K cdv "Register.see" = true) (hT : G.T = T) (hn : G.n = N_Register_see.length) (hx : TakesD (FX P w K mg base N_Register_see "Register.see" (defScope s_Register_see) f cdv A outer s H E) G [true, true] Ex) : DSs (FX P w K mg base N_Register_see "Register.see" (defScope s_Register_see) f cdv A outer s H E) G [true, true] (defBody s_Register_see) (w_Register_see Ex) :=
  dss_cons (show DS _ _ _ _ (w_Register_see_0 Ex) from ds_expr (k_fn c_need_mark SM_need_mark hr hgd hx hT (by decide) (gl_of (by kernel_rfl)) m_need_mark (dbs_cons (db_of (de_fl xh.i_Register (by decide +kernel) (by decide +kernel) rfl (.inl l_Register_see_0) m_self)) (dbs_cons (b_v 1 rfl (.inl l_Register_see_1) m_mark) (dbs_nil)))))
  (dss_cons (show DS _ _ _ _ (w_Register_see_1 Ex) from ds_asg (de_fl xh.i_Register (by decide +kernel) (by decide +kernel) rfl (.inl l_Register_see_0) m_self) (g_tup rfl (dgs_cons (dg_name sc_Register_see.nd rfl (.inl l_Register_see_2) (by rfl) (.inl rfl)) (dgs_cons (dg_name sc_Register_see.nd rfl (.inl l_Register_see_3) (by rfl) (.inl rfl)) (dgs_nil))) (ln_c (gg_N) (ln_c (gg_N) (ln_n)))))
  (dss_one (show DS _ _ _ _ (w_Register_see_2 Ex) from ds_expr (de_meth c_Register_become SM_Register_become hr hgd hx hT (by decide) (by decide +kernel) rfl (.inl l_Register_see_0) m_self (dbs_cons (b_v 2 rfl (.inl l_Register_see_2) m_tellings) (dbs_cons (db_of (k_fn c_with_one SM_with_one hr hgd hx hT (by decide) (gl_of (by kernel_rfl)) m_with_one (dbs_cons (b_v 3 rfl (.inl l_Register_see_3) m_marks) (dbs_cons (b_v 1 rfl (.inl l_Register_see_1) m_mark) (dbs_cons (db_of (e_gi (gl_of (by kernel_rfl)) m_MOST_MARKS h.c_MOST_MARKS)) (dbs_nil)))))) (dbs_nil)))))))
def w_need_telling_1 (Ex : XD) : WS := (fun _ ρ => Ex "NoTelling" [] ρ)
def w_need_telling_0 (Ex : XD) : WS := wsI (wNot (wTr (wB (wCallF S_is_telling Ex (wBc (wN 0) (wBc (wN 1) (wBn))))))) (w_need_telling_1 Ex) (wsN)
def w_need_telling (Ex : XD) : WS := w_need_telling_0 Ex
theorem b_need_telling {P : Program} {w : PySem.World} {K : PySem.W.Frag} {mg : Str → Option Value} {base : Heap} {T : List (Addr × Str)} {f : Addr} (h : Hd mg) (xh : Hx mg K) (c_is_telling : FnC P w K mg base T 5 "is_telling" ["field", "thing"] S_is_telling) (cdv : Value) (A : Around) (outer : List Env) (s : Shared) (H : Hp) (E : XK) (G : Gm) (Ex : XD) (hr : Room 5 (FX P w K mg base N_need_telling "need_telling" (defScope s_need_telling) f cdv A outer s H E).A) (hgd : (FX P w K mg base N_need_telling "need_telling" (defScope s_need_telling) f cdv A outer s H E).A.guards = some []) (hcd : PySem.W.codeIn K cdv "need_telling" = true) (hT : G.T = T) (hn : G.n = N_need_telling.length) (hx : TakesD (FX P w K mg base N_need_telling "need_telling" (defScope s_need_telling) f cdv A outer s H E) G [true, true] Ex) : DSs (FX P w K mg base N_need_telling "need_telling" (defScope s_need_telling) f cdv A outer s H E) G [true, true] (defBody s_need_telling) (w_need_telling Ex) :=
  dss_one (show DS _ _ _ _ (w_need_telling_0 Ex) from ds_if (dt_not (dt_truth (db_of (k_fn c_is_telling SM_is_telling hr hgd hx hT (by decide) (gl_of (by kernel_rfl)) m_is_telling (dbs_cons (b_v 0 rfl (.inl l_need_telling_0) m_field) (dbs_cons (b_v 1 rfl (.inl l_need_telling_1) m_telling) (dbs_nil))))))) (dss_one (show DS _ _ _ _ (w_need_telling_1 Ex) from ds_raise rfl xh.r_NoTelling hx (gl_of (by kernel_rfl)) (by decide))) (dss_nil))
def w_Register_tell_0 (Ex : XD) : WS := wsX (wCallF S_need_telling Ex (wBc (wB (wFl 0 "Register" ks_Register 0)) (wBc (wN 1) (wBn))))
def w_Register_tell_1 (Ex : XD) : WS := wsA (wFl 0 "Register" ks_Register 2) (gT (gsC (gN 2) (gsC (gN 3) (gsN))))
def w_Register_tell_2 (Ex : XD) : WS := wsX (wMeth 0 "Register" ks_Register S_Register_become Ex (wBc (wB (wCallF S_with_one Ex (wBc (wN 2) (wBc (wN 1) (wBc (wB (wC (.int 16))) (wBn)))))) (wBc (wN 3) (wBn))))
def w_Register_tell (Ex : XD) : WS := wsS (w_Register_tell_0 Ex) (wsS (w_Register_tell_1 Ex) (w_Register_tell_2 Ex))
theorem b_Register_tell {P : Program} {w : PySem.World} {K : PySem.W.Frag} {mg : Str → Option Value} {base : Heap} {T : List (Addr × Str)} {f : Addr} (h : Hd mg) (xh : Hx mg K) (c_Register_become : MtC P w K mg base T 1 "Register" "become" ["self", "tellings", "marks"] S_Register_become) (c_need_telling : FnC P w K mg base T 6 "need_telling" ["field", "telling"] S_need_telling) (c_with_one : FnC P w K mg base T 3 "with_one" ["kept", "thing", "most"] S_with_one) (cdv : Value) (A : Around) (outer : List Env) (s : Shared) (H : Hp) (E : XK) (G : Gm) (Ex : XD) (hr : Room 6 (FX P w K mg base N_Register_tell "Register.tell" (defScope s_Register_tell) f cdv A outer s H E).A) (hgd : (FX P w K mg base N_Register_tell "Register.tell" (defScope s_Register_tell) f cdv A outer s H E).A.guards = some []) (hcd : PySem.W.codeIn K cdv "Register.tell" = true) (hT : G.T = T) (hn : G.n = N_Register_tell.length) (hx : TakesD (FX P w K mg base N_Register_tell "Register.tell" (defScope s_Register_tell) f cdv A outer s H E) G [true, true] Ex) : DSs (FX P w K mg base N_Register_tell "Register.tell" (defScope s_Register_tell) f cdv A outer s H E) G [true, true] (defBody s_Register_tell) (w_Register_tell Ex) :=
  dss_cons (show DS _ _ _ _ (w_Register_tell_0 Ex) from ds_expr (k_fn c_need_telling SM_need_telling hr hgd hx hT (by decide) (gl_of (by kernel_rfl)) m_need_telling (dbs_cons (db_of (de_fl xh.i_Register (by decide +kernel) (by decide +kernel) rfl (.inl l_Register_tell_0) m_self)) (dbs_cons (b_v 1 rfl (.inl l_Register_tell_1) m_telling) (dbs_nil)))))
  (dss_cons (show DS _ _ _ _ (w_Register_tell_1 Ex) from ds_asg (de_fl xh.i_Register (by decide +kernel) (by decide +kernel) rfl (.inl l_Register_tell_0) m_self) (g_tup rfl (dgs_cons (dg_name sc_Register_tell.nd rfl (.inl l_Register_tell_2) (by rfl) (.inl rfl)) (dgs_cons (dg_name sc_Register_tell.nd rfl (.inl l_Register_tell_3) (by rfl) (.inl rfl)) (dgs_nil))) (ln_c (gg_N) (ln_c (gg_N) (ln_n)))))
  (dss_one (show DS _ _ _ _ (w_Register_tell_2 Ex) from ds_expr (de_meth c_Register_become SM_Register_become hr hgd hx hT (by decide) (by decide +kernel) rfl (.inl l_Register_tell_0) m_self (dbs_cons (db_of (k_fn c_with_one SM_with_one hr hgd hx hT (by decide) (gl_of (by kernel_rfl)) m_with_one (dbs_cons (b_v 2 rfl (.inl l_Register_tell_2) m_tellings) (dbs_cons (b_v 1 rfl (.inl l_Register_tell_1) m_telling) (dbs_cons (db_of (e_gi (gl_of (by kernel_rfl)) m_MOST_TELLINGS h.c_MOST_TELLINGS)) (dbs_nil)))))) (dbs_cons (b_v 3 rfl (.inl l_Register_tell_3) m_marks) (dbs_nil)))))))
def w_without_one_1 (Ex : XD) : WS := (fun _ ρ => Ex "Gone" [] ρ)
def w_without_one_0 (Ex : XD) : WS := wsI (wT (wOp (memD true) (wN 1) (wN 0))) (w_without_one_1 Ex) (wsN)
def w_without_one_2 (Ex : XD) : WS := wsR (wLc (wiS (wV 0)) (gi1 (gN 2)) (wT (wOp neD (wN 2) (wN 1))) (wV 2) [2])
def w_without_one (Ex : XD) : WS := wsS (w_without_one_0 Ex) (w_without_one_2 Ex)
theorem b_without_one {P : Program} {w : PySem.World} {K : PySem.W.Frag} {mg : Str → Option Value} {base : Heap} {T : List (Addr × Str)} {f : Addr} (h : Hd mg) (xh : Hx mg K)  (cdv : Value) (A : Around) (outer : List Env) (s : Shared) (H : Hp) (E : XK) (G : Gm) (Ex : XD) (hr : Room 0 (FX P w K mg base N_without_one "without_one" (defScope s_without_one) f cdv A outer s H E).A) (hgd : (FX P w K mg base N_without_one "without_one" (defScope s_without_one) f cdv A outer s H E).A.guards = some []) (hcd : PySem.W.codeIn K cdv "without_one" = true) (hT : G.T = T) (hn : G.n = N_without_one.length) (hx : TakesD (FX P w K mg base N_without_one "without_one" (defScope s_without_one) f cdv A outer s H E) G [true, true] Ex) : DSs (FX P w K mg base N_without_one "without_one" (defScope s_without_one) f cdv A outer s H E) G [true, true] (defBody s_without_one) (w_without_one Ex) :=
  dss_cons (show DS _ _ _ _ (w_without_one_0 Ex) from ds_if (t_ni (b_v 1 rfl (.inr (.inl l_without_one_1)) m_thing) (b_v 0 rfl (.inl l_without_one_0) m_kept) hr (by rfl)) (dss_one (show DS _ _ _ _ (w_without_one_1 Ex) from ds_raise rfl xh.r_Gone hx (gl_of (by kernel_rfl)) (by decide))) (dss_nil))
  (dss_one (show DS _ _ _ _ (w_without_one_2 Ex) from ds_ret (de_lc (own := [("one", 2)]) [true, true, false] rfl sc_without_one.nd (di_seq (e_v 0 rfl (.inl l_without_one_0) m_kept)) (blkOk_by (by kernel_rfl)) (by rfl) hn (by decide) (fun _ eT1 en1 _ _ _ _ _ => dgi_one (dg_name sc_without_one.nd rfl (.inl (by kernel_rfl)) (by rfl) (.inr (by kernel_rfl)))) (fun _ eT1 en1 _ _ _ _ _ => dts_one (t_ne (b_v 2 rfl (.inl (by kernel_rfl)) m_one) (b_v 1 rfl (.inr (.inl (by kernel_rfl))) m_thing) hr)) (fun _ eT1 en1 _ _ _ _ _ => e_v 2 rfl (.inl (by kernel_rfl)) m_one))))
def w_Register_unsay_0 (Ex : XD) : WS := wsX (wCallF S_need_telling Ex (wBc (wB (wFl 0 "Register" ks_Register 0)) (wBc (wN 1) (wBn))))
def w_Register_unsay_1 (Ex : XD) : WS := wsA (wFl 0 "Register" ks_Register 2) (gT (gsC (gN 2) (gsC (gN 3) (gsN))))
def w_Register_unsay_2 (Ex : XD) : WS := wsX (wMeth 0 "Register" ks_Register S_Register_become Ex (wBc (wB (wCallF S_without_one Ex (wBc (wN 2) (wBc (wN 1) (wBn))))) (wBc (wN 3) (wBn))))
def w_Register_unsay (Ex : XD) : WS := wsS (w_Register_unsay_0 Ex) (wsS (w_Register_unsay_1 Ex) (w_Register_unsay_2 Ex))
theorem b_Register_unsay {P : Program} {w : PySem.World} {K : PySem.W.Frag} {mg : Str → Option Value} {base : Heap} {T : List (Addr × Str)} {f : Addr} (h : Hd mg) (xh : Hx mg K) (c_Register_become : MtC P w K mg base T 1 "Register" "become" ["self", "tellings", "marks"] S_Register_become) (c_need_telling : FnC P w K mg base T 6 "need_telling" ["field", "telling"] S_need_telling) (c_without_one : FnC P w K mg base T 1 "without_one" ["kept", "thing"] S_without_one) (cdv : Value) (A : Around) (outer : List Env) (s : Shared) (H : Hp) (E : XK) (G : Gm) (Ex : XD) (hr : Room 6 (FX P w K mg base N_Register_unsay "Register.unsay" (defScope s_Register_unsay) f cdv A outer s H E).A) (hgd : (FX P w K mg base N_Register_unsay "Register.unsay" (defScope s_Register_unsay) f cdv A outer s H E).A.guards = some []) (hcd : PySem.W.codeIn K cdv "Register.unsay" = true) (hT : G.T = T) (hn : G.n = N_Register_unsay.length) (hx : TakesD (FX P w K mg base N_Register_unsay "Register.unsay" (defScope s_Register_unsay) f cdv A outer s H E) G [true, true] Ex) : DSs (FX P w K mg base N_Register_unsay "Register.unsay" (defScope s_Register_unsay) f cdv A outer s H E) G [true, true] (defBody s_Register_unsay) (w_Register_unsay Ex) :=
  dss_cons (show DS _ _ _ _ (w_Register_unsay_0 Ex) from ds_expr (k_fn c_need_telling SM_need_telling hr hgd hx hT (by decide) (gl_of (by kernel_rfl)) m_need_telling (dbs_cons (db_of (de_fl xh.i_Register (by decide +kernel) (by decide +kernel) rfl (.inl l_Register_unsay_0) m_self)) (dbs_cons (b_v 1 rfl (.inl l_Register_unsay_1) m_telling) (dbs_nil)))))
  (dss_cons (show DS _ _ _ _ (w_Register_unsay_1 Ex) from ds_asg (de_fl xh.i_Register (by decide +kernel) (by decide +kernel) rfl (.inl l_Register_unsay_0) m_self) (g_tup rfl (dgs_cons (dg_name sc_Register_unsay.nd rfl (.inl l_Register_unsay_2) (by rfl) (.inl rfl)) (dgs_cons (dg_name sc_Register_unsay.nd rfl (.inl l_Register_unsay_3) (by rfl) (.inl rfl)) (dgs_nil))) (ln_c (gg_N) (ln_c (gg_N) (ln_n)))))
  (dss_one (show DS _ _ _ _ (w_Register_unsay_2 Ex) from ds_expr (de_meth c_Register_become SM_Register_become hr hgd hx hT (by decide) (by decide +kernel) rfl (.inl l_Register_unsay_0) m_self (dbs_cons (db_of (k_fn c_without_one SM_without_one hr hgd hx hT (by decide) (gl_of (by kernel_rfl)) m_without_one (dbs_cons (b_v 2 rfl (.inl l_Register_unsay_2) m_tellings) (dbs_cons (b_v 1 rfl (.inl l_Register_unsay_1) m_telling) (dbs_nil))))) (dbs_cons (b_v 3 rfl (.inl l_Register_unsay_3) m_marks) (dbs_nil)))))))
def w_Register_unsee_0 (Ex : XD) : WS := wsX (wCallF S_need_mark Ex (wBc (wB (wFl 0 "Register" ks_Register 0)) (wBc (wN 1) (wBn))))
def w_Register_unsee_1 (Ex : XD) : WS := wsA (wFl 0 "Register" ks_Register 2) (gT (gsC (gN 2) (gsC (gN 3) (gsN))))
def w_Register_unsee_2 (Ex : XD) : WS := wsX (wMeth 0 "Register" ks_Register S_Register_become Ex (wBc (wN 2) (wBc (wB (wCallF S_without_one Ex (wBc (wN 3) (wBc (wN 1) (wBn))))) (wBn))))
def w_Register_unsee (Ex : XD) : WS := wsS (w_Register_unsee_0 Ex) (wsS (w_Register_unsee_1 Ex) (w_Register_unsee_2 Ex))
theorem b_Register_unsee {P : Program} {w : PySem.World} {K : PySem.W.Frag} {mg : Str → Option Value} {base : Heap} {T : List (Addr × Str)} {f : Addr} (h : Hd mg) (xh : Hx mg K) (c_Register_become : MtC P w K mg base T 1 "Register" "become" ["self", "tellings", "marks"] S_Register_become) (c_need_mark : FnC P w K mg base T 4 "need_mark" ["field", "mark"] S_need_mark) (c_without_one : FnC P w K mg base T 1 "without_one" ["kept", "thing"] S_without_one) (cdv : Value) (A : Around) (outer : List Env) (s : Shared) (H : Hp) (E : XK) (G : Gm) (Ex : XD) (hr : Room 4 (FX P w K mg base N_Register_unsee "Register.unsee" (defScope s_Register_unsee) f cdv A outer s H E).A) (hgd : (FX P w K mg base N_Register_unsee "Register.unsee" (defScope s_Register_unsee) f cdv A outer s H E).A.guards = some []) (hcd : PySem.W.codeIn K cdv "Register.unsee" = true) (hT : G.T = T) (hn : G.n = N_Register_unsee.length) (hx : TakesD (FX P w K mg base N_Register_unsee "Register.unsee" (defScope s_Register_unsee) f cdv A outer s H E) G [true, true] Ex) : DSs (FX P w K mg base N_Register_unsee "Register.unsee" (defScope s_Register_unsee) f cdv A outer s H E) G [true, true] (defBody s_Register_unsee) (w_Register_unsee Ex) :=
  dss_cons (show DS _ _ _ _ (w_Register_unsee_0 Ex) from ds_expr (k_fn c_need_mark SM_need_mark hr hgd hx hT (by decide) (gl_of (by kernel_rfl)) m_need_mark (dbs_cons (db_of (de_fl xh.i_Register (by decide +kernel) (by decide +kernel) rfl (.inl l_Register_unsee_0) m_self)) (dbs_cons (b_v 1 rfl (.inl l_Register_unsee_1) m_mark) (dbs_nil)))))
  (dss_cons (show DS _ _ _ _ (w_Register_unsee_1 Ex) from ds_asg (de_fl xh.i_Register (by decide +kernel) (by decide +kernel) rfl (.inl l_Register_unsee_0) m_self) (g_tup rfl (dgs_cons (dg_name sc_Register_unsee.nd rfl (.inl l_Register_unsee_2) (by rfl) (.inl rfl)) (dgs_cons (dg_name sc_Register_unsee.nd rfl (.inl l_Register_unsee_3) (by rfl) (.inl rfl)) (dgs_nil))) (ln_c (gg_N) (ln_c (gg_N) (ln_n)))))
  (dss_one (show DS _ _ _ _ (w_Register_unsee_2 Ex) from ds_expr (de_meth c_Register_become SM_Register_become hr hgd hx hT (by decide) (by decide +kernel) rfl (.inl l_Register_unsee_0) m_self (dbs_cons (b_v 2 rfl (.inl l_Register_unsee_2) m_tellings) (dbs_cons (db_of (k_fn c_without_one SM_without_one hr hgd hx hT (by decide) (gl_of (by kernel_rfl)) m_without_one (dbs_cons (b_v 3 rfl (.inl l_Register_unsee_3) m_marks) (dbs_cons (b_v 1 rfl (.inl l_Register_unsee_1) m_mark) (dbs_nil))))) (dbs_nil)))))))
def w_law_full_right_0 (Ex : XD) : WS := wsA (wLc (wiR1 (wCons (wC (.int 17)) (wNil))) (gi1 (gN 7)) (wYes) (wTup (wCons (wOp addD (wB (wC (.int 1))) (wB (wOp modD (wN 7) (wB (wC (.int 9)))))) (wCons (wTup (wCons (wV 7) (wCons (wC (.str "slow")) (wCons (wTup (wCons (wC (.int 0)) (wNil))) (wNil))))) (wNil)))) [7]) (gN 3)
def w_law_full_right_2 (Ex : XD) : WS := wsX (wMeth 0 "Register" ks_Register S_Register_tell Ex (wBc (wN 4) (wBn)))
def w_law_full_right_1 (Ex : XD) : WS := wsF (wiS (wSl (wN 3) (wNo) (wSo (wC (.int 16))))) (gi1 (gN 4)) (w_law_full_right_2 Ex)
def w_law_full_right_3 (Ex : XD) : WS := wsA (wLst (wCons (wSaidM ok_law_said (fun Ex => wMeth 0 "Register" ks_Register S_Register_tell Ex (wBc (wB (wOp ixD (wN 3) (wB (wC (.int 16))))) (wBn)))) (wNil))) (gN 5)
def w_law_full_right_4 (Ex : XD) : WS := wsX (wMn "list" apF 5 (wCons (wSaidM ok_law_said (fun Ex => wMeth 0 "Register" ks_Register S_Register_tell Ex (wBc (wB (wOp ixD (wN 3) (wB (wC (.int 3))))) (wBn)))) (wNil)))
def w_law_full_right_5 (Ex : XD) : WS := wsX (wMn "list" apF 5 (wCons (wSaidM ok_law_said (fun Ex => wMeth 0 "Register" ks_Register S_Register_tell Ex (wBc (wN 2) (wBn)))) (wNil)))
def w_law_full_right_6 (Ex : XD) : WS := wsX (wMn "list" apF 5 (wCons (wSaidM ok_law_said (fun Ex => wMeth 0 "Register" ks_Register S_Register_unsay Ex (wBc (wB (wOp ixD (wN 3) (wB (wC (.int 16))))) (wBn)))) (wNil)))
def w_law_full_right_7 (Ex : XD) : WS := wsX (wMn "list" apF 5 (wCons (wSaidM ok_law_said (fun Ex => wMeth 0 "Register" ks_Register S_Register_unsay Ex (wBc (wN 2) (wBn)))) (wNil)))
def w_law_full_right_9 (Ex : XD) : WS := wsR (wC (.bl false))
def w_law_full_right_8 (Ex : XD) : WS := wsI (wT (wOp neD (wN 5) (wB (wLst (wCons (wTup (wCons (wC (.str "many")) (wCons (wC (.int 17)) (wCons (wC (.int 16)) (wNil))))) (wCons (wTup (wCons (wC (.str "there")) (wNil))) (wCons (wTup (wCons (wC (.str "telling")) (wNil))) (wCons (wTup (wCons (wC (.str "gone")) (wNil))) (wCons (wTup (wCons (wC (.str "telling")) (wNil))) (wNil)))))))))) (w_law_full_right_9 Ex) (wsN)
def w_law_full_right_10 (Ex : XD) : WS := wsA (wLc (wiR1 (wCons (wC (.int 41)) (wNil))) (gi1 (gN 7)) (wYes) (wTup (wCons (wV 7) (wCons (wC (.int 0)) (wCons (wOp eqD (wB (wOp modD (wN 7) (wB (wC (.int 2))))) (wB (wC (.int 0)))) (wNil))))) [7]) (gN 6)
def w_law_full_right_12 (Ex : XD) : WS := wsX (wMeth 0 "Register" ks_Register S_Register_see Ex (wBc (wN 4) (wBn)))
def w_law_full_right_11 (Ex : XD) : WS := wsF (wiS (wSl (wN 6) (wNo) (wSo (wC (.int 40))))) (gi1 (gN 4)) (w_law_full_right_12 Ex)
def w_law_full_right_13 (Ex : XD) : WS := wsA (wLst (wCons (wSaidM ok_law_said (fun Ex => wMeth 0 "Register" ks_Register S_Register_see Ex (wBc (wB (wOp ixD (wN 6) (wB (wC (.int 40))))) (wBn)))) (wNil))) (gN 5)
def w_law_full_right_14 (Ex : XD) : WS := wsX (wMn "list" apF 5 (wCons (wSaidM ok_law_said (fun Ex => wMeth 0 "Register" ks_Register S_Register_see Ex (wBc (wB (wOp ixD (wN 6) (wB (wC (.int 7))))) (wBn)))) (wNil)))
def w_law_full_right_15 (Ex : XD) : WS := wsX (wMn "list" apF 5 (wCons (wSaidM ok_law_said (fun Ex => wMeth 0 "Register" ks_Register S_Register_see Ex (wBc (wN 2) (wBn)))) (wNil)))
def w_law_full_right_16 (Ex : XD) : WS := wsX (wMn "list" apF 5 (wCons (wSaidM ok_law_said (fun Ex => wMeth 0 "Register" ks_Register S_Register_unsee Ex (wBc (wB (wOp ixD (wN 6) (wB (wC (.int 40))))) (wBn)))) (wNil)))
def w_law_full_right_17 (Ex : XD) : WS := wsX (wMn "list" apF 5 (wCons (wSaidM ok_law_said (fun Ex => wMeth 0 "Register" ks_Register S_Register_unsee Ex (wBc (wN 2) (wBn)))) (wNil)))
def w_law_full_right_19 (Ex : XD) : WS := wsR (wC (.bl false))
def w_law_full_right_18 (Ex : XD) : WS := wsI (wT (wOp neD (wN 5) (wB (wLst (wCons (wTup (wCons (wC (.str "many")) (wCons (wC (.int 41)) (wCons (wC (.int 40)) (wNil))))) (wCons (wTup (wCons (wC (.str "there")) (wNil))) (wCons (wTup (wCons (wC (.str "mark")) (wNil))) (wCons (wTup (wCons (wC (.str "gone")) (wNil))) (wCons (wTup (wCons (wC (.str "mark")) (wNil))) (wNil)))))))))) (w_law_full_right_19 Ex) (wsN)
def w_law_full_right_20 (Ex : XD) : WS := wsR (wOp eqD (wB (wMeth 0 "Register" ks_Register S_Register_case_now Ex wBn)) (wB (wTup (wCons (wV 1) (wCons (wOp ixD (wB (wMeth 0 "Register" ks_Register S_Register_case_now Ex wBn)) (wB (wC (.int 1)))) (wCons (wCall (c1 sortF) (wBc (wB (wSl (wN 3) (wNo) (wSo (wC (.int 16))))) (wBn))) (wCons (wSl (wN 6) (wNo) (wSo (wC (.int 40)))) (wNil))))))))
def w_law_full_right (Ex : XD) : WS := wsS (w_law_full_right_0 Ex) (wsS (w_law_full_right_1 Ex) (wsS (w_law_full_right_3 Ex) (wsS (w_law_full_right_4 Ex) (wsS (w_law_full_right_5 Ex) (wsS (w_law_full_right_6 Ex) (wsS (w_law_full_right_7 Ex) (wsS (w_law_full_right_8 Ex) (wsS (w_law_full_right_10 Ex) (wsS (w_law_full_right_11 Ex) (wsS (w_law_full_right_13 Ex) (wsS (w_law_full_right_14 Ex) (wsS (w_law_full_right_15 Ex) (wsS (w_law_full_right_16 Ex) (wsS (w_law_full_right_17 Ex) (wsS (w_law_full_right_18 Ex) (w_law_full_right_20 Ex))))))))))))))))
theorem b_law_full_right {P : Program} {w : PySem.World} {K : PySem.W.Frag} {mg : Str → Option Value} {base : Heap} {T : List (Addr × Str)} {f : Addr} (h : Hd mg) (c_Register_case_now : MtC P w K mg base T 1 "Register" "case_now" ["self"] S_Register_case_now) (c_Register_see : MtC P w K mg base T 5 "Register" "see" ["self", "mark"] S_Register_see) (c_Register_tell : MtC P w K mg base T 7 "Register" "tell" ["self", "telling"] S_Register_tell) (c_Register_unsay : MtC P w K mg base T 7 "Register" "unsay" ["self", "telling"] S_Register_unsay) (c_Register_unsee : MtC P w K mg base T 5 "Register" "unsee" ["self", "mark"] S_Register_unsee) (cK : SaidM P w K mg base T "_law_said" ok_law_said) (cdv : Value) (cM : ∀ A outer s H E, LamM base mg T cdv (FX P w K mg base N_law_full_right "_law_full_right" (defScope s_law_full_right) f cdv A outer s H E).env.qual) (A : Around) (outer : List Env) (s : Shared) (H : Hp) (E : XK) (G : Gm) (Ex : XD) (hr : Room 9 (FX P w K mg base N_law_full_right "_law_full_right" (defScope s_law_full_right) f cdv A outer s H E).A) (hgd : (FX P w K mg base N_law_full_right "_law_full_right" (defScope s_law_full_right) f cdv A outer s H E).A.guards = some []) (hcd : PySem.W.codeIn K cdv "_law_full_right" = true) (hT : G.T = T) (hn : G.n = N_law_full_right.length) (hx : TakesD (FX P w K mg base N_law_full_right "_law_full_right" (defScope s_law_full_right) f cdv A outer s H E) G [true, true, true] Ex) : DSs (FX P w K mg base N_law_full_right "_law_full_right" (defScope s_law_full_right) f cdv A outer s H E) G [true, true, true] (defBody s_law_full_right) (w_law_full_right Ex) :=
  dss_cons (show DS _ _ _ _ (w_law_full_right_0 Ex) from ds_set sc_law_full_right.nd rfl (.inr l_law_full_right_3) (de_lc (own := [("_law_day", 7)]) [true, true, true, true, true, true, true, false] rfl sc_law_full_right.nd (di_range1 (gl_of (by kernel_rfl)) h.n_range (da_cons (de_int) (da_nil))) (blkOk_by (by kernel_rfl)) (by rfl) hn (by decide) (fun _ eT1 en1 _ _ _ _ _ => dgi_one (dg_name sc_law_full_right.nd rfl (.inl (by kernel_rfl)) (by rfl) (.inr (by kernel_rfl)))) (fun _ eT1 en1 _ _ _ _ _ => dts_nil) (fun _ eT1 en1 _ _ _ _ _ => de_tup (da_cons (e_add (db_of (de_int)) (db_of (e_mod (b_v 7 rfl (.inl (by kernel_rfl)) m_law_day) (db_of (de_int))))) (da_cons (de_tup (da_cons (e_v 7 rfl (.inl (by kernel_rfl)) m_law_day) (da_cons (de_str) (da_cons (de_tup (da_cons (de_int) (da_nil))) (da_nil))))) (da_nil))))) (by rfl) (by rfl) (.inl rfl))
  (dss_cons (show DS _ _ _ _ (w_law_full_right_1 Ex) from ds_for (passes_of rfl) rfl (di_seq (de_sl (b_v 3 rfl (.inr (.inl l_law_full_right_3)) m_law_many) (do_none) (do_some (de_int)))) (dgi_one (dg_name sc_law_full_right.nd rfl (.inl l_law_full_right_4) (by rfl) (.inl rfl))) (dss_one (show DS _ _ _ _ (w_law_full_right_2 Ex) from ds_expr (de_meth c_Register_tell SM_Register_tell hr hgd hx hT (by decide) (by decide +kernel) rfl (.inr (.inl l_law_full_right_0)) m_law_office (dbs_cons (b_v 4 rfl (.inl l_law_full_right_4) m_law_one) (dbs_nil))))))
  (dss_cons (show DS _ _ _ _ (w_law_full_right_3 Ex) from ds_set sc_law_full_right.nd rfl (.inl l_law_full_right_5) (de_lst (da_cons (de_saidMt cK (cM A outer s H E) c_Register_tell SM_Register_tell hr (by decide) hgd hT hn (gl_of (by kernel_rfl)) m_law_said (LamX.lamS_by (by kernel_rfl)) (by rfl) (fun _ _ _ _ _ => by first | rfl | kernel_rfl) (by decide +kernel) rfl (fun _ _ _ _ _ _ _ => (.inr (.inr (by kernel_rfl)))) m_law_office (fun _ _ _ _ _ _ _ _ _ => dbs_cons (db_of (de_ix (b_v 3 rfl (.inr (.inr (by kernel_rfl))) m_law_many) (db_of (de_int)))) (dbs_nil))) (da_nil))) (by rfl) (by rfl) (.inl rfl))
  (dss_cons (show DS _ _ _ _ (w_law_full_right_4 Ex) from ds_expr (m_append rfl (.inl l_law_full_right_5) m_law_calls (da_cons (de_saidMt cK (cM A outer s H E) c_Register_tell SM_Register_tell hr (by decide) hgd hT hn (gl_of (by kernel_rfl)) m_law_said (LamX.lamS_by (by kernel_rfl)) (by rfl) (fun _ _ _ _ _ => by first | rfl | kernel_rfl) (by decide +kernel) rfl (fun _ _ _ _ _ _ _ => (.inr (.inr (by kernel_rfl)))) m_law_office (fun _ _ _ _ _ _ _ _ _ => dbs_cons (db_of (de_ix (b_v 3 rfl (.inr (.inr (by kernel_rfl))) m_law_many) (db_of (de_int)))) (dbs_nil))) (da_nil))))
  (dss_cons (show DS _ _ _ _ (w_law_full_right_5 Ex) from ds_expr (m_append rfl (.inl l_law_full_right_5) m_law_calls (da_cons (de_saidMt cK (cM A outer s H E) c_Register_tell SM_Register_tell hr (by decide) hgd hT hn (gl_of (by kernel_rfl)) m_law_said (LamX.lamS_by (by kernel_rfl)) (by rfl) (fun _ _ _ _ _ => by first | rfl | kernel_rfl) (by decide +kernel) rfl (fun _ _ _ _ _ _ _ => (.inr (.inr (by kernel_rfl)))) m_law_office (fun _ _ _ _ _ _ _ _ _ => dbs_cons (b_v 2 rfl (.inr (.inr (by kernel_rfl))) m_law_bad) (dbs_nil))) (da_nil))))
  (dss_cons (show DS _ _ _ _ (w_law_full_right_6 Ex) from ds_expr (m_append rfl (.inl l_law_full_right_5) m_law_calls (da_cons (de_saidMt cK (cM A outer s H E) c_Register_unsay SM_Register_unsay hr (by decide) hgd hT hn (gl_of (by kernel_rfl)) m_law_said (LamX.lamS_by (by kernel_rfl)) (by rfl) (fun _ _ _ _ _ => by first | rfl | kernel_rfl) (by decide +kernel) rfl (fun _ _ _ _ _ _ _ => (.inr (.inr (by kernel_rfl)))) m_law_office (fun _ _ _ _ _ _ _ _ _ => dbs_cons (db_of (de_ix (b_v 3 rfl (.inr (.inr (by kernel_rfl))) m_law_many) (db_of (de_int)))) (dbs_nil))) (da_nil))))
  (dss_cons (show DS _ _ _ _ (w_law_full_right_7 Ex) from ds_expr (m_append rfl (.inl l_law_full_right_5) m_law_calls (da_cons (de_saidMt cK (cM A outer s H E) c_Register_unsay SM_Register_unsay hr (by decide) hgd hT hn (gl_of (by kernel_rfl)) m_law_said (LamX.lamS_by (by kernel_rfl)) (by rfl) (fun _ _ _ _ _ => by first | rfl | kernel_rfl) (by decide +kernel) rfl (fun _ _ _ _ _ _ _ => (.inr (.inr (by kernel_rfl)))) m_law_office (fun _ _ _ _ _ _ _ _ _ => dbs_cons (b_v 2 rfl (.inr (.inr (by kernel_rfl))) m_law_bad) (dbs_nil))) (da_nil))))
  (dss_cons (show DS _ _ _ _ (w_law_full_right_8 Ex) from ds_if (t_ne (b_v 5 rfl (.inl l_law_full_right_5) m_law_calls) (db_of (de_lst (da_cons (de_tup (da_cons (de_str) (da_cons (de_int) (da_cons (de_int) (da_nil))))) (da_cons (de_tup (da_cons (de_str) (da_nil))) (da_cons (de_tup (da_cons (de_str) (da_nil))) (da_cons (de_tup (da_cons (de_str) (da_nil))) (da_cons (de_tup (da_cons (de_str) (da_nil))) (da_nil)))))))) hr) (dss_one (show DS _ _ _ _ (w_law_full_right_9 Ex) from ds_ret (de_bl))) (dss_nil))
  (dss_cons (show DS _ _ _ _ (w_law_full_right_10 Ex) from ds_set sc_law_full_right.nd rfl (.inr l_law_full_right_6) (de_lc (own := [("_law_day", 7)]) [true, true, true, true, true, true, true, false] rfl sc_law_full_right.nd (di_range1 (gl_of (by kernel_rfl)) h.n_range (da_cons (de_int) (da_nil))) (blkOk_by (by kernel_rfl)) (by rfl) hn (by decide) (fun _ eT2 en2 _ _ _ _ _ => dgi_one (dg_name sc_law_full_right.nd rfl (.inl (by kernel_rfl)) (by rfl) (.inr (by kernel_rfl)))) (fun _ eT2 en2 _ _ _ _ _ => dts_nil) (fun _ eT2 en2 _ _ _ _ _ => de_tup (da_cons (e_v 7 rfl (.inl (by kernel_rfl)) m_law_day) (da_cons (de_int) (da_cons (e_eq (db_of (e_mod (b_v 7 rfl (.inl (by kernel_rfl)) m_law_day) (db_of (de_int)))) (db_of (de_int)) hr) (da_nil)))))) (by rfl) (by rfl) (.inl rfl))
  (dss_cons (show DS _ _ _ _ (w_law_full_right_11 Ex) from ds_for (passes_of rfl) rfl (di_seq (de_sl (b_v 6 rfl (.inr (.inl l_law_full_right_6)) m_law_marks) (do_none) (do_some (de_int)))) (dgi_one (dg_name sc_law_full_right.nd rfl (.inl l_law_full_right_4) (by rfl) (.inl rfl))) (dss_one (show DS _ _ _ _ (w_law_full_right_12 Ex) from ds_expr (de_meth c_Register_see SM_Register_see hr hgd hx hT (by decide) (by decide +kernel) rfl (.inr (.inl l_law_full_right_0)) m_law_office (dbs_cons (b_v 4 rfl (.inl l_law_full_right_4) m_law_one) (dbs_nil))))))
  (dss_cons (show DS _ _ _ _ (w_law_full_right_13 Ex) from ds_set sc_law_full_right.nd rfl (.inl l_law_full_right_5) (de_lst (da_cons (de_saidMt cK (cM A outer s H E) c_Register_see SM_Register_see hr (by decide) hgd hT hn (gl_of (by kernel_rfl)) m_law_said (LamX.lamS_by (by kernel_rfl)) (by rfl) (fun _ _ _ _ _ => by first | rfl | kernel_rfl) (by decide +kernel) rfl (fun _ _ _ _ _ _ _ => (.inr (.inr (by kernel_rfl)))) m_law_office (fun _ _ _ _ _ _ _ _ _ => dbs_cons (db_of (de_ix (b_v 6 rfl (.inr (.inr (by kernel_rfl))) m_law_marks) (db_of (de_int)))) (dbs_nil))) (da_nil))) (by rfl) (by rfl) (.inl rfl))
  (dss_cons (show DS _ _ _ _ (w_law_full_right_14 Ex) from ds_expr (m_append rfl (.inl l_law_full_right_5) m_law_calls (da_cons (de_saidMt cK (cM A outer s H E) c_Register_see SM_Register_see hr (by decide) hgd hT hn (gl_of (by kernel_rfl)) m_law_said (LamX.lamS_by (by kernel_rfl)) (by rfl) (fun _ _ _ _ _ => by first | rfl | kernel_rfl) (by decide +kernel) rfl (fun _ _ _ _ _ _ _ => (.inr (.inr (by kernel_rfl)))) m_law_office (fun _ _ _ _ _ _ _ _ _ => dbs_cons (db_of (de_ix (b_v 6 rfl (.inr (.inr (by kernel_rfl))) m_law_marks) (db_of (de_int)))) (dbs_nil))) (da_nil))))
  (dss_cons (show DS _ _ _ _ (w_law_full_right_15 Ex) from ds_expr (m_append rfl (.inl l_law_full_right_5) m_law_calls (da_cons (de_saidMt cK (cM A outer s H E) c_Register_see SM_Register_see hr (by decide) hgd hT hn (gl_of (by kernel_rfl)) m_law_said (LamX.lamS_by (by kernel_rfl)) (by rfl) (fun _ _ _ _ _ => by first | rfl | kernel_rfl) (by decide +kernel) rfl (fun _ _ _ _ _ _ _ => (.inr (.inr (by kernel_rfl)))) m_law_office (fun _ _ _ _ _ _ _ _ _ => dbs_cons (b_v 2 rfl (.inr (.inr (by kernel_rfl))) m_law_bad) (dbs_nil))) (da_nil))))
  (dss_cons (show DS _ _ _ _ (w_law_full_right_16 Ex) from ds_expr (m_append rfl (.inl l_law_full_right_5) m_law_calls (da_cons (de_saidMt cK (cM A outer s H E) c_Register_unsee SM_Register_unsee hr (by decide) hgd hT hn (gl_of (by kernel_rfl)) m_law_said (LamX.lamS_by (by kernel_rfl)) (by rfl) (fun _ _ _ _ _ => by first | rfl | kernel_rfl) (by decide +kernel) rfl (fun _ _ _ _ _ _ _ => (.inr (.inr (by kernel_rfl)))) m_law_office (fun _ _ _ _ _ _ _ _ _ => dbs_cons (db_of (de_ix (b_v 6 rfl (.inr (.inr (by kernel_rfl))) m_law_marks) (db_of (de_int)))) (dbs_nil))) (da_nil))))
  (dss_cons (show DS _ _ _ _ (w_law_full_right_17 Ex) from ds_expr (m_append rfl (.inl l_law_full_right_5) m_law_calls (da_cons (de_saidMt cK (cM A outer s H E) c_Register_unsee SM_Register_unsee hr (by decide) hgd hT hn (gl_of (by kernel_rfl)) m_law_said (LamX.lamS_by (by kernel_rfl)) (by rfl) (fun _ _ _ _ _ => by first | rfl | kernel_rfl) (by decide +kernel) rfl (fun _ _ _ _ _ _ _ => (.inr (.inr (by kernel_rfl)))) m_law_office (fun _ _ _ _ _ _ _ _ _ => dbs_cons (b_v 2 rfl (.inr (.inr (by kernel_rfl))) m_law_bad) (dbs_nil))) (da_nil))))
  (dss_cons (show DS _ _ _ _ (w_law_full_right_18 Ex) from ds_if (t_ne (b_v 5 rfl (.inl l_law_full_right_5) m_law_calls) (db_of (de_lst (da_cons (de_tup (da_cons (de_str) (da_cons (de_int) (da_cons (de_int) (da_nil))))) (da_cons (de_tup (da_cons (de_str) (da_nil))) (da_cons (de_tup (da_cons (de_str) (da_nil))) (da_cons (de_tup (da_cons (de_str) (da_nil))) (da_cons (de_tup (da_cons (de_str) (da_nil))) (da_nil)))))))) hr) (dss_one (show DS _ _ _ _ (w_law_full_right_19 Ex) from ds_ret (de_bl))) (dss_nil))
  (dss_one (show DS _ _ _ _ (w_law_full_right_20 Ex) from ds_ret (e_eq (db_of (de_meth0 c_Register_case_now SM_Register_case_now hr hgd hx hT (by decide) (by decide +kernel) rfl (.inr (.inl l_law_full_right_0)) m_law_office)) (db_of (de_tup (da_cons (e_v 1 rfl (.inl l_law_full_right_1) m_law_field_here) (da_cons (de_ix (db_of (de_meth0 c_Register_case_now SM_Register_case_now hr hgd hx hT (by decide) (by decide +kernel) rfl (.inr (.inl l_law_full_right_0)) m_law_office)) (db_of (de_int))) (da_cons (k_sorted rfl hr (gl_of (by kernel_rfl)) h.n_sorted (dbs_cons (db_of (de_sl (b_v 3 rfl (.inr (.inl l_law_full_right_3)) m_law_many) (do_none) (do_some (de_int)))) (dbs_nil))) (da_cons (de_sl (b_v 6 rfl (.inr (.inl l_law_full_right_6)) m_law_marks) (do_none) (do_some (de_int))) (da_nil))))))) hr))))))))))))))))))
def w_law_made_right_0 (Ex : XD) : WS := wsA (wLst (wCons (wSaidM ok_law_said (fun Ex => wMkV "Register" S_Register__init Ex (wBc (wB (wTup (wCons (wC (.int 0)) (wCons (wTup (wNil)) (wNil))))) (wBc (wB (wC (.int 0))) (wBn))))) (wNil))) (gN 2)
def w_law_made_right_1 (Ex : XD) : WS := wsX (wMn "list" apF 2 (wCons (wSaidM ok_law_said (fun Ex => wMkV "Register" S_Register__init Ex (wBc (wN 0) (wBc (wB (wOp ixD (wB (wLst (wCons (wC (.int 0)) (wCons (wC (.int 10)) (wCons (wC (.bl true)) (wCons (wC .non) (wNil))))))) (wB (wOp modD (wN 1) (wB (wC (.int 4))))))) (wBn))))) (wNil)))
def w_law_made_right_2 (Ex : XD) : WS := wsR (wOp eqD (wN 2) (wB (wLst (wCons (wTup (wCons (wC (.str "field")) (wNil))) (wCons (wTup (wCons (wC (.str "pace")) (wNil))) (wNil))))))
def w_law_made_right (Ex : XD) : WS := wsS (w_law_made_right_0 Ex) (wsS (w_law_made_right_1 Ex) (w_law_made_right_2 Ex))
theorem b_law_made_right {P : Program} {w : PySem.World} {K : PySem.W.Frag} {mg : Str → Option Value} {base : Heap} {T : List (Addr × Str)} {f : Addr} (h : Hd mg) (c_Register__init : MkI P w K mg base T 4 "Register" ["self", "field", "pace"] S_Register__init) (cK : SaidM P w K mg base T "_law_said" ok_law_said) (cdv : Value) (cM : ∀ A outer s H E, LamM base mg T cdv (FX P w K mg base N_law_made_right "_law_made_right" (defScope s_law_made_right) f cdv A outer s H E).env.qual) (A : Around) (outer : List Env) (s : Shared) (H : Hp) (E : XK) (G : Gm) (Ex : XD) (hr : Room 7 (FX P w K mg base N_law_made_right "_law_made_right" (defScope s_law_made_right) f cdv A outer s H E).A) (hgd : (FX P w K mg base N_law_made_right "_law_made_right" (defScope s_law_made_right) f cdv A outer s H E).A.guards = some []) (hcd : PySem.W.codeIn K cdv "_law_made_right" = true) (hT : G.T = T) (hn : G.n = N_law_made_right.length) (hx : TakesD (FX P w K mg base N_law_made_right "_law_made_right" (defScope s_law_made_right) f cdv A outer s H E) G [true, true] Ex) : DSs (FX P w K mg base N_law_made_right "_law_made_right" (defScope s_law_made_right) f cdv A outer s H E) G [true, true] (defBody s_law_made_right) (w_law_made_right Ex) :=
  dss_cons (show DS _ _ _ _ (w_law_made_right_0 Ex) from ds_set sc_law_made_right.nd rfl (.inl l_law_made_right_2) (de_lst (da_cons (de_saidMk cK (cM A outer s H E) c_Register__init SM_Register__init hr (by decide) hgd hT hn (gl_of (by kernel_rfl)) m_law_said (LamX.lamS_by (by kernel_rfl)) (by rfl) (fun _ _ _ _ _ => by first | rfl | kernel_rfl) (fun _ _ _ _ _ _ _ => gl_of (by kernel_rfl)) m_Register (fun _ _ _ _ _ _ _ _ _ => dbs_cons (db_of (de_tup (da_cons (de_int) (da_cons (de_tup (da_nil)) (da_nil))))) (dbs_cons (db_of (de_int)) (dbs_nil)))) (da_nil))) (by rfl) (by rfl) (.inl rfl))
  (dss_cons (show DS _ _ _ _ (w_law_made_right_1 Ex) from ds_expr (m_append rfl (.inl l_law_made_right_2) m_law_calls (da_cons (de_saidMk cK (cM A outer s H E) c_Register__init SM_Register__init hr (by decide) hgd hT hn (gl_of (by kernel_rfl)) m_law_said (LamX.lamS_by (by kernel_rfl)) (by rfl) (fun _ _ _ _ _ => by first | rfl | kernel_rfl) (fun _ _ _ _ _ _ _ => gl_of (by kernel_rfl)) m_Register (fun _ _ _ _ _ _ _ _ _ => dbs_cons (b_v 0 rfl (.inr (.inr (by kernel_rfl))) m_law_field_here) (dbs_cons (db_of (de_ix (db_of (de_lst (da_cons (de_int) (da_cons (de_int) (da_cons (de_bl) (da_cons (de_non) (da_nil))))))) (db_of (e_mod (b_v 1 rfl (.inr (.inr (by kernel_rfl))) m_law_pace) (db_of (de_int)))))) (dbs_nil)))) (da_nil))))
  (dss_one (show DS _ _ _ _ (w_law_made_right_2 Ex) from ds_ret (e_eq (b_v 2 rfl (.inl l_law_made_right_2) m_law_calls) (db_of (de_lst (da_cons (de_tup (da_cons (de_str) (da_nil))) (da_cons (de_tup (da_cons (de_str) (da_nil))) (da_nil))))) hr))))
def w_law_odd_0 (Ex : XD) : WS := wsA (wLst (wCons (wC .non) (wCons (wC (.bl true)) (wCons (wC (.bl false)) (wCons (wC (.int 0)) (wCons (wC (.int 1)) (wCons (wNeg (wC (.int 1))) (wCons (wC (.int 7)) (wCons (wC (.int 1000)) (wCons (wOp powD (wB (wC (.int 10))) (wB (wC (.int 19)))) (wCons (wC (.str "")) (wCons (wC (.str "a")) (wCons (wC (.str "leap")) (wCons (wC (.str "slow")) (wCons (wC (.str "1")) (wCons (wTup (wNil)) (wCons (wLst (wNil)) (wCons (wDct0) (wCons (wTup (wCons (wC (.int 0)) (wNil))) (wCons (wLst (wCons (wC (.int 0)) (wNil))) (wNil))))))))))))))))))))) (gN 1)
def w_law_odd_1 (Ex : XD) : WS := wsA (wOp addD (wN 1) (wB (wLst (wCons (wTup (wCons (wC (.int 0)) (wCons (wC (.int 0)) (wNil)))) (wCons (wTup (wCons (wC (.int 1)) (wCons (wTup (wCons (wC (.int 0)) (wNil))) (wNil)))) (wCons (wTup (wCons (wC (.int 0)) (wCons (wC (.str "slow")) (wCons (wTup (wCons (wC (.int 0)) (wNil))) (wNil))))) (wCons (wTup (wCons (wTup (wNil)) (wCons (wTup (wNil)) (wNil)))) (wCons (wLst (wCons (wTup (wNil)) (wNil))) (wCons (wTup (wCons (wTup (wCons (wC (.int 0)) (wCons (wC (.int 0)) (wNil)))) (wNil))) (wCons (wTup (wCons (wC .non) (wCons (wC .non) (wNil)))) (wCons (wC (.str "\n")) (wCons (wTup (wCons (wC (.int 1)) (wCons (wTup (wNil)) (wNil)))) (wNil))))))))))))) (gN 1)
def w_law_odd_2 (Ex : XD) : WS := wsR (wOp ixD (wN 1) (wB (wCallF S_law_take Ex (wBc (wN 0) (wBc (wB (wC (.int 28))) (wBn))))))
def w_law_odd (Ex : XD) : WS := wsS (w_law_odd_0 Ex) (wsS (w_law_odd_1 Ex) (w_law_odd_2 Ex))
theorem b_law_odd {P : Program} {w : PySem.World} {K : PySem.W.Frag} {mg : Str → Option Value} {base : Heap} {T : List (Addr × Str)} {f : Addr} (h : Hd mg) (c_law_take : FnC P w K mg base T 1 "_law_take" ["_law_box_here", "_law_count"] S_law_take) (cdv : Value) (A : Around) (outer : List Env) (s : Shared) (H : Hp) (E : XK) (G : Gm) (Ex : XD) (hr : Room 1 (FX P w K mg base N_law_odd "_law_odd" (defScope s_law_odd) f cdv A outer s H E).A) (hgd : (FX P w K mg base N_law_odd "_law_odd" (defScope s_law_odd) f cdv A outer s H E).A.guards = some []) (hcd : PySem.W.codeIn K cdv "_law_odd" = true) (hT : G.T = T) (hn : G.n = N_law_odd.length) (hx : TakesD (FX P w K mg base N_law_odd "_law_odd" (defScope s_law_odd) f cdv A outer s H E) G [true] Ex) : DSs (FX P w K mg base N_law_odd "_law_odd" (defScope s_law_odd) f cdv A outer s H E) G [true] (defBody s_law_odd) (w_law_odd Ex) :=
  dss_cons (show DS _ _ _ _ (w_law_odd_0 Ex) from ds_set sc_law_odd.nd rfl (.inl l_law_odd_1) (de_lst (da_cons (de_non) (da_cons (de_bl) (da_cons (de_bl) (da_cons (de_int) (da_cons (de_int) (da_cons (de_neg (de_int)) (da_cons (de_int) (da_cons (de_int) (da_cons (e_pow (db_of (de_int)) (db_of (de_int))) (da_cons (de_str) (da_cons (de_str) (da_cons (de_str) (da_cons (de_str) (da_cons (de_str) (da_cons (de_tup (da_nil)) (da_cons (de_lst (da_nil)) (da_cons (de_dnew) (da_cons (de_tup (da_cons (de_int) (da_nil))) (da_cons (de_lst (da_cons (de_int) (da_nil))) (da_nil))))))))))))))))))))) (by rfl) (by rfl) (.inl rfl))
  (dss_cons (show DS _ _ _ _ (w_law_odd_1 Ex) from ds_set sc_law_odd.nd rfl (.inl l_law_odd_1) (e_add (b_v 1 rfl (.inl l_law_odd_1) m_law_some) (db_of (de_lst (da_cons (de_tup (da_cons (de_int) (da_cons (de_int) (da_nil)))) (da_cons (de_tup (da_cons (de_int) (da_cons (de_tup (da_cons (de_int) (da_nil))) (da_nil)))) (da_cons (de_tup (da_cons (de_int) (da_cons (de_str) (da_cons (de_tup (da_cons (de_int) (da_nil))) (da_nil))))) (da_cons (de_tup (da_cons (de_tup (da_nil)) (da_cons (de_tup (da_nil)) (da_nil)))) (da_cons (de_lst (da_cons (de_tup (da_nil)) (da_nil))) (da_cons (de_tup (da_cons (de_tup (da_cons (de_int) (da_cons (de_int) (da_nil)))) (da_nil))) (da_cons (de_tup (da_cons (de_non) (da_cons (de_non) (da_nil)))) (da_cons (de_str) (da_cons (de_tup (da_cons (de_int) (da_cons (de_tup (da_nil)) (da_nil)))) (da_nil))))))))))))) (by rfl) (by rfl) (.inl rfl))
  (dss_one (show DS _ _ _ _ (w_law_odd_2 Ex) from ds_ret (de_ix (b_v 1 rfl (.inl l_law_odd_1) m_law_some) (db_of (k_fn c_law_take SM_law_take hr hgd hx hT (by decide) (gl_of (by kernel_rfl)) m_law_take (dbs_cons (b_v 0 rfl (.inl l_law_odd_0) m_law_box_here) (dbs_cons (db_of (de_int)) (dbs_nil)))))))))
def w_law_right_0 (Ex : XD) : WS := wsP 1 2 (wCons (wCallF S_law_field Ex (wBc (wN 0) (wBc (wB (wC (.int 4))) (wBn)))) (wCons (wOp addD (wB (wC (.int 1))) (wB (wCallF S_law_take Ex (wBc (wN 0) (wBc (wB (wC (.int 9))) (wBn)))))) (wNil)))
def w_law_right_1 (Ex : XD) : WS := wsA (wMkV "Register" S_Register__init Ex (wBc (wN 1) (wBc (wN 2) (wBn)))) (gN 3)
def w_law_right_2 (Ex : XD) : WS := wsA (wLst (wCons (wCallF S_law_odd Ex (wBc (wN 0) (wBn))) (wCons (wTup (wCons (wC (.int 1)) (wCons (wTup (wCons (wC (.int 1000)) (wCons (wC (.str "slow")) (wCons (wTup (wCons (wC (.int 0)) (wNil))) (wNil))))) (wNil)))) (wCons (wTup (wCons (wC (.int 0)) (wCons (wCall (c1 lenF) (wBc (wB (wOp ixD (wN 1) (wB (wC (.int 1))))) (wBn))) (wCons (wC (.bl true)) (wNil))))) (wCons (wTup (wCons (wC (.int 10)) (wCons (wTup (wCons (wC (.int 1)) (wCons (wC (.str "leap")) (wCons (wTup (wCons (wC (.int 0)) (wNil))) (wNil))))) (wNil)))) (wNil)))))) (gN 4)
def w_law_right_3 (Ex : XD) : WS := wsA (wOp ixD (wN 4) (wB (wCallF S_law_take Ex (wBc (wN 0) (wBc (wB (wC (.int 4))) (wBn)))))) (gN 5)
def w_law_right_5 (Ex : XD) : WS := wsR (wC (.bl false))
def w_law_right_4 (Ex : XD) : WS := wsI (wOr (wT (wOp neD (wB (wSaidM ok_law_said (fun Ex => wMeth 3 "Register" ks_Register S_Register_undo Ex (wBn)))) (wB (wTup (wCons (wC (.str "nothing")) (wNil)))))) (wNot (wTr (wB (wCallF S_law_made_right Ex (wBc (wN 1) (wBc (wN 2) (wBn)))))))) (w_law_right_5 Ex) (wsN)
def w_law_right_7 (Ex : XD) : WS := wsR (wC (.bl false))
def w_law_right_6 (Ex : XD) : WS := wsI (wOr (wNot (wTr (wB (wCallF S_law_full_right Ex (wBc (wN 3) (wBc (wN 1) (wBc (wN 5) (wBn)))))))) (wNot (wTr (wB (wCallF S_law_asked_right Ex (wBc (wN 3) (wBc (wN 1) (wBc (wN 5) (wBn))))))))) (w_law_right_7 Ex) (wsN)
def w_law_right_10 (Ex : XD) : WS := wsR (wC (.bl false))
def w_law_right_9 (Ex : XD) : WS := wsI (wT (wOp neD (wB (wSaidM ok_law_said (fun Ex => wMeth 3 "Register" ks_Register S_Register_undo Ex (wBn)))) (wB (wLst (wCons (wC .non) (wNil)))))) (w_law_right_10 Ex) (wsN)
def w_law_right_8 (Ex : XD) : WS := wsF (wiR1 (wCons (wC (.int 56)) (wNil))) (gi1 (gN 6)) (w_law_right_9 Ex)
def w_law_right_11 (Ex : XD) : WS := wsR (wAndV (wOp eqD (wB (wSaidM ok_law_said (fun Ex => wMeth 3 "Register" ks_Register S_Register_undo Ex (wBn)))) (wB (wTup (wCons (wC (.str "nothing")) (wNil))))) (wOp eqD (wB (wMeth 3 "Register" ks_Register S_Register_case_now Ex wBn)) (wB (wTup (wCons (wV 1) (wCons (wV 2) (wCons (wLst (wNil)) (wCons (wLst (wNil)) (wNil)))))))))
def w_law_right (Ex : XD) : WS := wsS (w_law_right_0 Ex) (wsS (w_law_right_1 Ex) (wsS (w_law_right_2 Ex) (wsS (w_law_right_3 Ex) (wsS (w_law_right_4 Ex) (wsS (w_law_right_6 Ex) (wsS (w_law_right_8 Ex) (w_law_right_11 Ex)))))))
theorem b_law_right {P : Program} {w : PySem.World} {K : PySem.W.Frag} {mg : Str → Option Value} {base : Heap} {T : List (Addr × Str)} {f : Addr} (h : Hd mg) (c_Register__init : MkI P w K mg base T 4 "Register" ["self", "field", "pace"] S_Register__init) (c_Register_case_now : MtC P w K mg base T 1 "Register" "case_now" ["self"] S_Register_case_now) (c_Register_undo : MtC P w K mg base T 1 "Register" "undo" ["self"] S_Register_undo) (c_law_asked_right : FnC P w K mg base T 12 "_law_asked_right" ["_law_office", "_law_field_here", "_law_bad"] S_law_asked_right) (c_law_field : FnC P w K mg base T 2 "_law_field" ["_law_box_here", "_law_most"] S_law_field) (c_law_full_right : FnC P w K mg base T 10 "_law_full_right" ["_law_office", "_law_field_here", "_law_bad"] S_law_full_right) (c_law_made_right : FnC P w K mg base T 8 "_law_made_right" ["_law_field_here", "_law_pace"] S_law_made_right) (c_law_odd : FnC P w K mg base T 2 "_law_odd" ["_law_box_here"] S_law_odd) (c_law_take : FnC P w K mg base T 1 "_law_take" ["_law_box_here", "_law_count"] S_law_take) (cK : SaidM P w K mg base T "_law_said" ok_law_said) (cdv : Value) (cM : ∀ A outer s H E, LamM base mg T cdv (FX P w K mg base N_law_right "_law_right" (defScope s_law_right) f cdv A outer s H E).env.qual) (A : Around) (outer : List Env) (s : Shared) (H : Hp) (E : XK) (G : Gm) (Ex : XD) (hr : Room 14 (FX P w K mg base N_law_right "_law_right" (defScope s_law_right) f cdv A outer s H E).A) (hgd : (FX P w K mg base N_law_right "_law_right" (defScope s_law_right) f cdv A outer s H E).A.guards = some []) (hcd : PySem.W.codeIn K cdv "_law_right" = true) (hT : G.T = T) (hn : G.n = N_law_right.length) (hx : TakesD (FX P w K mg base N_law_right "_law_right" (defScope s_law_right) f cdv A outer s H E) G [true] Ex) : DSs (FX P w K mg base N_law_right "_law_right" (defScope s_law_right) f cdv A outer s H E) G [true] (defBody s_law_right) (w_law_right Ex) :=
  dss_cons (show DS _ _ _ _ (w_law_right_0 Ex) from ds_par rfl sc_law_right.nd rfl rfl (by decide) l_law_right_1 l_law_right_2 (da_cons (k_fn c_law_field SM_law_field hr hgd hx hT (by decide) (gl_of (by kernel_rfl)) m_law_field (dbs_cons (b_v 0 rfl (.inl l_law_right_0) m_law_box_here) (dbs_cons (db_of (de_int)) (dbs_nil)))) (da_cons (e_add (db_of (de_int)) (db_of (k_fn c_law_take SM_law_take hr hgd hx hT (by decide) (gl_of (by kernel_rfl)) m_law_take (dbs_cons (b_v 0 rfl (.inl l_law_right_0) m_law_box_here) (dbs_cons (db_of (de_int)) (dbs_nil)))))) (da_nil))) (by kernel_rfl))
  (dss_cons (show DS _ _ _ _ (w_law_right_1 Ex) from ds_set sc_law_right.nd rfl (.inr l_law_right_3) (de_mkV c_Register__init SM_Register__init hr hgd hx hT (by decide) (gl_of (by kernel_rfl)) m_Register (dbs_cons (b_v 1 rfl (.inl l_law_right_1) m_law_field_here) (dbs_cons (b_v 2 rfl (.inl l_law_right_2) m_law_pace) (dbs_nil)))) (by rfl) (by rfl) (.inl rfl))
  (dss_cons (show DS _ _ _ _ (w_law_right_2 Ex) from ds_set sc_law_right.nd rfl (.inl l_law_right_4) (de_lst (da_cons (k_fn c_law_odd SM_law_odd hr hgd hx hT (by decide) (gl_of (by kernel_rfl)) m_law_odd (dbs_cons (b_v 0 rfl (.inl l_law_right_0) m_law_box_here) (dbs_nil))) (da_cons (de_tup (da_cons (de_int) (da_cons (de_tup (da_cons (de_int) (da_cons (de_str) (da_cons (de_tup (da_cons (de_int) (da_nil))) (da_nil))))) (da_nil)))) (da_cons (de_tup (da_cons (de_int) (da_cons (k_len (gl_of (by kernel_rfl)) h.n_len (dbs_cons (db_of (de_ix (b_v 1 rfl (.inl l_law_right_1) m_law_field_here) (db_of (de_int)))) (dbs_nil))) (da_cons (de_bl) (da_nil))))) (da_cons (de_tup (da_cons (de_int) (da_cons (de_tup (da_cons (de_int) (da_cons (de_str) (da_cons (de_tup (da_cons (de_int) (da_nil))) (da_nil))))) (da_nil)))) (da_nil)))))) (by rfl) (by rfl) (.inl rfl))
  (dss_cons (show DS _ _ _ _ (w_law_right_3 Ex) from ds_set sc_law_right.nd rfl (.inl l_law_right_5) (de_ix (b_v 4 rfl (.inl l_law_right_4) m_law_some) (db_of (k_fn c_law_take SM_law_take hr hgd hx hT (by decide) (gl_of (by kernel_rfl)) m_law_take (dbs_cons (b_v 0 rfl (.inl l_law_right_0) m_law_box_here) (dbs_cons (db_of (de_int)) (dbs_nil)))))) (by rfl) (by rfl) (.inl rfl))
  (dss_cons (show DS _ _ _ _ (w_law_right_4 Ex) from ds_if (dt_w (dw_or (t_ne (db_of (de_saidMt0 cK (cM A outer s H E) c_Register_undo SM_Register_undo hr (by decide) hgd hT hn (gl_of (by kernel_rfl)) m_law_said (LamX.lamS_by (by kernel_rfl)) (by rfl) (fun _ _ _ _ _ => by first | rfl | kernel_rfl) (by decide +kernel) rfl (fun _ _ _ _ _ _ _ => (.inr (.inr (by kernel_rfl)))) m_law_office)) (db_of (de_tup (da_cons (de_str) (da_nil)))) hr) (dw_or1 (dt_not (dt_truth (db_of (k_fn c_law_made_right SM_law_made_right hr hgd hx hT (by decide) (gl_of (by kernel_rfl)) m_law_made_right (dbs_cons (b_v 1 rfl (.inl l_law_right_1) m_law_field_here) (dbs_cons (b_v 2 rfl (.inl l_law_right_2) m_law_pace) (dbs_nil)))))))))) (dss_one (show DS _ _ _ _ (w_law_right_5 Ex) from ds_ret (de_bl))) (dss_nil))
  (dss_cons (show DS _ _ _ _ (w_law_right_6 Ex) from ds_if (dt_w (dw_or (dt_not (dt_truth (db_of (k_fn c_law_full_right SM_law_full_right hr hgd hx hT (by decide) (gl_of (by kernel_rfl)) m_law_full_right (dbs_cons (b_v 3 rfl (.inr (.inl l_law_right_3)) m_law_office) (dbs_cons (b_v 1 rfl (.inl l_law_right_1) m_law_field_here) (dbs_cons (b_v 5 rfl (.inl l_law_right_5) m_law_bad) (dbs_nil)))))))) (dw_or1 (dt_not (dt_truth (db_of (k_fn c_law_asked_right SM_law_asked_right hr hgd hx hT (by decide) (gl_of (by kernel_rfl)) m_law_asked_right (dbs_cons (b_v 3 rfl (.inr (.inl l_law_right_3)) m_law_office) (dbs_cons (b_v 1 rfl (.inl l_law_right_1) m_law_field_here) (dbs_cons (b_v 5 rfl (.inl l_law_right_5) m_law_bad) (dbs_nil))))))))))) (dss_one (show DS _ _ _ _ (w_law_right_7 Ex) from ds_ret (de_bl))) (dss_nil))
  (dss_cons (show DS _ _ _ _ (w_law_right_8 Ex) from ds_for (passes_of rfl) rfl (di_range1 (gl_of (by kernel_rfl)) h.n_range (da_cons (de_int) (da_nil))) (dgi_one (dg_name sc_law_right.nd rfl (.inl l_law_right_6) (by rfl) (.inl rfl))) (dss_one (show DS _ _ _ _ (w_law_right_9 Ex) from ds_if (t_ne (db_of (de_saidMt0 cK (cM A outer s H E) c_Register_undo SM_Register_undo hr (by decide) hgd hT hn (gl_of (by kernel_rfl)) m_law_said (LamX.lamS_by (by kernel_rfl)) (by rfl) (fun _ _ _ _ _ => by first | rfl | kernel_rfl) (by decide +kernel) rfl (fun _ _ _ _ _ _ _ => (.inr (.inr (by kernel_rfl)))) m_law_office)) (db_of (de_lst (da_cons (de_non) (da_nil)))) hr) (dss_one (show DS _ _ _ _ (w_law_right_10 Ex) from ds_ret (de_bl))) (dss_nil))))
  (dss_one (show DS _ _ _ _ (w_law_right_11 Ex) from ds_ret (de_and (e_eq (db_of (de_saidMt0 cK (cM A outer s H E) c_Register_undo SM_Register_undo hr (by decide) hgd hT hn (gl_of (by kernel_rfl)) m_law_said (LamX.lamS_by (by kernel_rfl)) (by rfl) (fun _ _ _ _ _ => by first | rfl | kernel_rfl) (by decide +kernel) rfl (fun _ _ _ _ _ _ _ => (.inr (.inr (by kernel_rfl)))) m_law_office)) (db_of (de_tup (da_cons (de_str) (da_nil)))) hr) (de_one (e_eq (db_of (de_meth0 c_Register_case_now SM_Register_case_now hr hgd hx hT (by decide) (by decide +kernel) rfl (.inr (.inl l_law_right_3)) m_law_office)) (db_of (de_tup (da_cons (e_v 1 rfl (.inl l_law_right_1) m_law_field_here) (da_cons (e_v 2 rfl (.inl l_law_right_2) m_law_pace) (da_cons (de_lst (da_nil)) (da_cons (de_lst (da_nil)) (da_nil))))))) hr)))))))))))
def w_law_3 (Ex : XD) : WS := wsR (wC (.bl false))
def w_law_2 (Ex : XD) : WS := wsI (wNot (wTr (wB (wCallF S_law_right Ex (wBc (wB (wCallF S_law_box Ex (wBc (wN 0) (wBc (wN 1) (wBc (wN 2) (wBn)))))) (wBn)))))) (w_law_3 Ex) (wsN)
def w_law_1 (Ex : XD) : WS := wsF (wiR1 (wCons (wC (.int 2)) (wNil))) (gi1 (gN 2)) (w_law_2 Ex)
def w_law_0 (Ex : XD) : WS := wsF (wiR1 (wCons (wCall (c2 max2F) (wBc (wB (wC (.int 1))) (wBc (wB (wCall (c2 min2F) (wBc (wB (wCall (c1 lenF) (wBc (wN 0) (wBn)))) (wBc (wB (wC (.int 3))) (wBn))))) (wBn)))) (wNil))) (gi1 (gN 1)) (w_law_1 Ex)
def w_law_4 (Ex : XD) : WS := wsR (wC (.bl true))
def w_law (Ex : XD) : WS := wsS (w_law_0 Ex) (w_law_4 Ex)
theorem b_law {P : Program} {w : PySem.World} {K : PySem.W.Frag} {mg : Str → Option Value} {base : Heap} {T : List (Addr × Str)} {f : Addr} (h : Hd mg) (c_law_box : FnC P w K mg base T 2 "_law_box" ["_law_script", "_law_k", "_law_lap"] S_law_box) (c_law_right : FnC P w K mg base T 15 "_law_right" ["_law_box_here"] S_law_right) (cdv : Value) (A : Around) (outer : List Env) (s : Shared) (H : Hp) (E : XK) (G : Gm) (Ex : XD) (hr : Room 15 (FX P w K mg base N_law "law" (defScope s_law) f cdv A outer s H E).A) (hgd : (FX P w K mg base N_law "law" (defScope s_law) f cdv A outer s H E).A.guards = some []) (hcd : PySem.W.codeIn K cdv "law" = true) (hT : G.T = T) (hn : G.n = N_law.length) (hx : TakesD (FX P w K mg base N_law "law" (defScope s_law) f cdv A outer s H E) G [true] Ex) : DSs (FX P w K mg base N_law "law" (defScope s_law) f cdv A outer s H E) G [true] (defBody s_law) (w_law Ex) :=
  dss_cons (show DS _ _ _ _ (w_law_0 Ex) from ds_for (passes_of rfl) rfl (di_range1 (gl_of (by kernel_rfl)) h.n_range (da_cons (k_max2 rfl (gl_of (by kernel_rfl)) h.n_max (dbs_cons (db_of (de_int)) (dbs_cons (db_of (k_min2 rfl (gl_of (by kernel_rfl)) h.n_min (dbs_cons (db_of (k_len (gl_of (by kernel_rfl)) h.n_len (dbs_cons (b_v 0 rfl (.inl l_law_0) m_law_script) (dbs_nil)))) (dbs_cons (db_of (de_int)) (dbs_nil))))) (dbs_nil)))) (da_nil))) (dgi_one (dg_name sc_law.nd rfl (.inl l_law_1) (by rfl) (.inl rfl))) (dss_one (show DS _ _ _ _ (w_law_1 Ex) from ds_for (passes_of rfl) rfl (di_range1 (gl_of (by kernel_rfl)) h.n_range (da_cons (de_int) (da_nil))) (dgi_one (dg_name sc_law.nd rfl (.inl l_law_2) (by rfl) (.inl rfl))) (dss_one (show DS _ _ _ _ (w_law_2 Ex) from ds_if (dt_not (dt_truth (db_of (k_fn c_law_right SM_law_right hr hgd hx hT (by decide) (gl_of (by kernel_rfl)) m_law_right (dbs_cons (db_of (k_fn c_law_box SM_law_box hr hgd hx hT (by decide) (gl_of (by kernel_rfl)) m_law_box (dbs_cons (b_v 0 rfl (.inl l_law_0) m_law_script) (dbs_cons (b_v 1 rfl (.inl l_law_1) m_law_k) (dbs_cons (b_v 2 rfl (.inl l_law_2) m_law_lap) (dbs_nil)))))) (dbs_nil)))))) (dss_one (show DS _ _ _ _ (w_law_3 Ex) from ds_ret (de_bl))) (dss_nil))))))
  (dss_one (show DS _ _ _ _ (w_law_4 Ex) from ds_ret (de_bl)))
local macro_rules
  | `(tactic| simp? [$xs,*] $[$l:location]?) => `(tactic| simp only [wsR, wsX, wsA, wsI, wsN, wsRN, wsBk, wsCt, wsP, wsS, wsF, wsW, wAndV, wOrV, wNotV, wIf, wNeg, wCall, wBc, wBn, wCons, wNil, wTup, wLst, wOp, wCh, Bd.wT, wTr, wMn, wMe, wMe0, apF, popF, mtD, wPm, isTupD, cntF, ssF, lsF, wPA, wPC, reprF, wIxN, popAtF, extF, wTrg, wLcN, wiZN, wsP3, wDct0, frzs_enc2, solids_enc2, solid_enc2, wBack, backD, intF, minPF, wAnd, wOr, Bd.wNot, wYes, wSl, wSo, wNo, wN_eq, wV_eq, wM_eq, getD0, getDs, nB_non, nB_bl, nB_int, nB_str, nB_opq, nB_own, nB_shr, nB_con, nB_down, nB_dshr, nB_dcon, nB_tup, nB_nown, nB_nshr, nB_ncon, nE_nown, nE_nshr, nE_ncon, nM_nown, nM_nshr, nM_ncon, nE_non, nE_bl, nE_int, nE_str, nE_opq, nE_own, nE_shr, nE_con, nE_down, nE_dshr, nE_dcon, nE_tup, nM_non, nM_bl, nM_int, nM_str, nM_opq, nM_own, nM_shr, nM_con, nM_down, nM_dshr, nM_dcon, nM_tup, wB, wC, c1, c2, isiF, lenF, sumF, maxF, minF, max2F, min2F, absF, divF, listF, tupF, sortF, allF, anyF, addD, mulD, Bd.intD, intD0, isB, truW, gb, gbs, outs, gN, gi1, gsC, gsN, gT, gS, gSn, evL, takeL, wBL, th_lst, th_dct, th_tup, th_int, th_bl, th_str, th_non, th_opq, setD, ixD, slD, isD, wCallF, wLc, wiS, wiZ, wiE, wiR1, wiR2, wiR3, seqQ, solids, D.solid, ints_solid, ints_frz, frzs, D.frz, List.set_cons_zero, List.set_cons_succ, if_true, if_false, Bool.false_eq_true, true_and, and_true, ite_true, ite_false, List.cons_append, List.nil_append, wipeD, reduceIte, List.length_cons, List.length_nil, reduceCtorEq, tyN_bool, tyN_int, tyN_str, tyN_tuple, tyN_list, tyN_dict, tyS_non, tyS_bl, tyS_int, tyS_str, tyS_tup, tyS_lst, tyS_dct, isi_non_bool, isi_non_int, isi_non_str, isi_non_tuple, isi_non_list, isi_non_dict, isi_bl_bool, isi_bl_int, isi_bl_str, isi_bl_tuple, isi_bl_list, isi_bl_dict, isi_int_bool, isi_int_int, isi_int_str, isi_int_tuple, isi_int_list, isi_int_dict, isi_str_bool, isi_str_int, isi_str_str, isi_str_tuple, isi_str_list, isi_str_dict, isi_tup_bool, isi_tup_int, isi_tup_str, isi_tup_tuple, isi_tup_list, isi_tup_dict, isi_lst_bool, isi_lst_int, isi_lst_str, isi_lst_tuple, isi_lst_list, isi_lst_dict, isi_dct_bool, isi_dct_int, isi_dct_str, isi_dct_tuple, isi_dct_list, isi_dct_dict, List.length_map, Bool.not_true, Bool.not_false, eqD, neD, eqTx, neTx, dec_if, dec_ifn, Bool.not_not, at0, at1, at2, ix0, ix1, ix2, Bd.ints_map, Bd.bls_map, Option.some.injEq, exists_eq_left', memD_lst, memD_tup, memD_str, isIn_nil, isIn_cons, isIn_ints, scal_int, scal_str, scal_bl, scal_non, scals_nil, scals_cons, scals_ints, shp_l1i, shp_l2i, shp_l3i, shp_t1i, shp_t2i, shp_t3i, dec_or, dec_orf, Bool.and_self, shp_non, shp_bl, shp_int, shp_tints, shp_lints, shp_tnil, shp_lnil, eqd_int, eqd_str, eqd_bl, eqd_non, eqd_tints, eqd_lints, eqd_lnil, eqd_tnil, shp_lenc, shp_tenc, List.map_eq_nil_iff, dI, wSortK, wDct1, c3, min3F, max3F, int3, wPick, wiSN, zipLF, reprOF, wStep, stepD, ssGF, wLrg1, wLrg2, wTrg2, wTrg3, $xs,*] $[$l]?)
local macro_rules
  | `(tactic| simp?! [$xs,*] $[$l:location]?) => `(tactic| simp (config := { maxSteps := 5000000 }) only [wsR, wsX, wsA, wsI, wsN, wsRN, wsBk, wsCt, wsP, wsS, wsF, wsW, wAndV, wOrV, wNotV, wIf, wNeg, wCall, wBc, wBn, wCons, wNil, wTup, wLst, wOp, wCh, Bd.wT, wTr, wMn, wMe, wMe0, apF, popF, mtD, wPm, isTupD, cntF, ssF, lsF, wPA, wPC, reprF, wIxN, popAtF, extF, wTrg, wLcN, wiZN, wsP3, wDct0, frzs_enc2, solids_enc2, solid_enc2, wBack, backD, intF, minPF, wAnd, wOr, Bd.wNot, wYes, wSl, wSo, wNo, wN_eq, wV_eq, wM_eq, getD0, getDs, nB_non, nB_bl, nB_int, nB_str, nB_opq, nB_own, nB_shr, nB_con, nB_down, nB_dshr, nB_dcon, nB_tup, nB_nown, nB_nshr, nB_ncon, nE_nown, nE_nshr, nE_ncon, nM_nown, nM_nshr, nM_ncon, nE_non, nE_bl, nE_int, nE_str, nE_opq, nE_own, nE_shr, nE_con, nE_down, nE_dshr, nE_dcon, nE_tup, nM_non, nM_bl, nM_int, nM_str, nM_opq, nM_own, nM_shr, nM_con, nM_down, nM_dshr, nM_dcon, nM_tup, wB, wC, c1, c2, isiF, lenF, sumF, maxF, minF, max2F, min2F, absF, divF, listF, tupF, sortF, allF, anyF, addD, mulD, Bd.intD, intD0, isB, truW, gb, gbs, outs, gN, gi1, gsC, gsN, gT, gS, gSn, evL, takeL, wBL, th_lst, th_dct, th_tup, th_int, th_bl, th_str, th_non, th_opq, setD, ixD, slD, isD, wCallF, wLc, wiS, wiZ, wiE, wiR1, wiR2, wiR3, seqQ, solids, D.solid, ints_solid, ints_frz, frzs, D.frz, List.set_cons_zero, List.set_cons_succ, if_true, if_false, Bool.false_eq_true, true_and, and_true, ite_true, ite_false, List.cons_append, List.nil_append, wipeD, reduceIte, List.length_cons, List.length_nil, reduceCtorEq, tyN_bool, tyN_int, tyN_str, tyN_tuple, tyN_list, tyN_dict, tyS_non, tyS_bl, tyS_int, tyS_str, tyS_tup, tyS_lst, tyS_dct, isi_non_bool, isi_non_int, isi_non_str, isi_non_tuple, isi_non_list, isi_non_dict, isi_bl_bool, isi_bl_int, isi_bl_str, isi_bl_tuple, isi_bl_list, isi_bl_dict, isi_int_bool, isi_int_int, isi_int_str, isi_int_tuple, isi_int_list, isi_int_dict, isi_str_bool, isi_str_int, isi_str_str, isi_str_tuple, isi_str_list, isi_str_dict, isi_tup_bool, isi_tup_int, isi_tup_str, isi_tup_tuple, isi_tup_list, isi_tup_dict, isi_lst_bool, isi_lst_int, isi_lst_str, isi_lst_tuple, isi_lst_list, isi_lst_dict, isi_dct_bool, isi_dct_int, isi_dct_str, isi_dct_tuple, isi_dct_list, isi_dct_dict, List.length_map, Bool.not_true, Bool.not_false, eqD, neD, eqTx, neTx, dec_if, dec_ifn, Bool.not_not, at0, at1, at2, ix0, ix1, ix2, Bd.ints_map, Bd.bls_map, Option.some.injEq, exists_eq_left', memD_lst, memD_tup, memD_str, isIn_nil, isIn_cons, isIn_ints, scal_int, scal_str, scal_bl, scal_non, scals_nil, scals_cons, scals_ints, shp_l1i, shp_l2i, shp_l3i, shp_t1i, shp_t2i, shp_t3i, dec_or, dec_orf, Bool.and_self, shp_non, shp_bl, shp_int, shp_tints, shp_lints, shp_tnil, shp_lnil, eqd_int, eqd_str, eqd_bl, eqd_non, eqd_tints, eqd_lints, eqd_lnil, eqd_tnil, shp_lenc, shp_tenc, List.map_eq_nil_iff, dI, wSortK, wDct1, c3, min3F, max3F, int3, wPick, wiSN, zipLF, reprOF, wStep, stepD, ssGF, wLrg1, wLrg2, wTrg2, wTrg3, $xs,*] $[$l]?)
theorem r_is_whole : Tells S_is_whole [true, true, true] 0 w_is_whole := by
  rintro ds Q E ⟨d, lo, hi, rfl, h1, h2⟩
  show w_is_whole _ _ [d, .int lo, .int hi]
  unfold w_is_whole w_is_whole_0
  cases d
  case gone => cases h1
  case opq => cases h1
  case int i =>
    simp? []
    simp only [isWhole] at h2
    by_cases h : lo ≤ i
    · simp only [h, decide_true, if_true, Bool.true_and] at h2 ⊢; exact h2
    · simp only [h, decide_false, Bool.false_eq_true, if_false, Bool.false_and] at h2 ⊢; exact h2
  case lst m es =>
    cases m <;> (simp? []; exact h2)
  case dct m ks es =>
    cases m <;> (simp? []; exact h2)
  case tup es =>
    simp only [wsR, wAndV, wCall, wBc, wN_eq, getD0, nB_tup]
    cases hs : solids es <;> (simp? []; exact h2)
  case ndc m ks es => cases h1
  case ldc o kvs es => cases h1
  case ext => cases h1
  case ins => cases h1
  all_goals (simp? []; exact h2)
theorem rising_of : ∀ (x : Int) (r : List Int), (∀ z ∈ (x :: r).zip r, z.1 < z.2) → (x :: r).Pairwise (· < ·)
  | x, [], _ => List.pairwise_singleton ..
  | x, y :: r, h => by
    have h1 : x < y := h (x, y) (by simp)
    have h2 := rising_of y r fun z hz => h z (by rw [List.zip_cons_cons]; exact List.mem_cons_of_mem _ hz)
    refine List.pairwise_cons.mpr ⟨fun a ha => ?_, h2⟩
    rcases List.mem_cons.mp ha with rfl | ha
    · exact h1
    · have := (List.pairwise_cons.mp h2).1 a ha
      omega
theorem rising_to : ∀ (x : Int) (r : List Int), (x :: r).Pairwise (· < ·) → ∀ z ∈ (x :: r).zip r, z.1 < z.2
  | _, [], _, z, hz => by simp at hz
  | x, y :: r, h, z, hz => by
    rw [List.zip_cons_cons] at hz
    have hp := List.pairwise_cons.mp h
    rcases List.mem_cons.mp hz with rfl | hz
    · exact hp.1 y List.mem_cons_self
    · exact rising_to y r hp.2 z hz
theorem rising_all (ks : List Int) : ((ks.zip (ks.drop 1)).map fun z => decide (z.1 < z.2)).all id = decide (ks.Pairwise (· < ·)) := by
  rw [Bool.eq_iff_iff, List.all_eq_true, decide_eq_true_iff]
  constructor
  · intro h
    cases ks with
    | nil => exact .nil
    | cons x r => exact rising_of x r fun z hz => of_decide_eq_true (h _ (List.mem_map.mpr ⟨z, hz, rfl⟩))
  · intro h b hb
    obtain ⟨z, hz, rfl⟩ := List.mem_map.mp hb
    cases ks with
    | nil => simp at hz
    | cons x r => exact decide_eq_true (rising_to x r h z hz)
theorem r_is_rising : Tells S_is_rising [true] 2 w_is_rising := by
  rintro ds Q E ⟨ks, rfl, hl, h2⟩
  show w_is_rising _ _ [tl ks, .gone, .gone]
  have big : (1000002 : Nat) ≤ sizeLine := by decide
  unfold w_is_rising w_is_rising_0 tl
  have hc : Bd.cutD (List.map D.int ks) (some 1) none = (ks.drop 1).map D.int := by
    rw [cut_from (by decide), ← List.map_drop]; rfl
  simp? [hc]
  have ep : pairs (ks.map D.int) ((ks.drop 1).map D.int) = (ks.zip (ks.drop 1)).map fun z => [D.int z.1, D.int z.2] := by
    unfold pairs
    rw [List.zip_map, List.map_map]
    rfl
  rw [ep]
  refine ⟨by rw [List.length_map, List.length_zip]; omega, ?_⟩
  refine lcL_mapL (fun z : Int × Int => [D.int z.1, D.int z.2]) (fun z => .bl (decide (z.1 < z.2))) (fun z hz K hK => ?_) ?_
  · simp? []
    exact hK
  have ef : ((ks.zip (ks.drop 1)).map fun z => D.bl (decide (z.1 < z.2))) = ((ks.zip (ks.drop 1)).map fun z => decide (z.1 < z.2)).map D.bl := by
    rw [List.map_map]; rfl
  rw [List.nil_append, ef]
  simp? []
  rw [rising_all]
  exact h2
theorem whole_of {i lo hi : Int} (h : lo ≤ i) (h2 : i ≤ hi) : isWhole (.int i) lo hi = true := by
  simp only [isWhole, Bool.and_eq_true, decide_eq_true_eq]; exact ⟨h, h2⟩
theorem whole_all {lo hi : Int} {ks : List Int} (h : ∀ k ∈ ks, lo ≤ k ∧ k ≤ hi) : (ks.map D.int).all (fun x => isWhole x lo hi) = true := List.all_eq_true.mpr fun x hx => by
  obtain ⟨k, hk, rfl⟩ := List.mem_map.mp hx
  exact whole_of (h k hk).1 (h k hk).2
/-- a field is a tuple of two -/
theorem isF_tup {d : D} (h : isF d) : ∃ i xs, d = .tup [.int i, .tup xs] ∧ 1 ≤ i ∧ i ≤ 8 ∧ xs.all (fun x => isWhole x 0 9) = true ∧ ∃ r : Int, 1 ≤ r ∧ r ≤ 8 ∧ (xs.length : Int) = i * r := by
  obtain ⟨w, cs, rfl, h1, h2, ⟨r, r1, r8, e⟩, h4⟩ := h
  refine ⟨w, cs.map D.int, rfl, h1, h2, whole_all h4, r, r1, r8, by rw [List.length_map]; exact e⟩
theorem isF_b {a b : D} (h : ∀ xs, b ≠ .tup xs) : ¬ isF (.tup [a, b]) := fun h2 => by
  obtain ⟨i, xs, e, _⟩ := isF_tup h2
  simp only [D.tup.injEq, List.cons.injEq, and_true] at e
  exact h _ e.2
theorem wInt {d : D} {lo hi : Int} (h : isWhole d lo hi = true) : ∃ i, d = .int i ∧ lo ≤ i ∧ i ≤ hi := by
  cases d <;> first | (simp [isWhole] at h; done) | skip
  rename_i i
  simp only [isWhole, Bool.and_eq_true, decide_eq_true_eq] at h
  exact ⟨i, rfl, h⟩
theorem wInts {lo hi : Int} : ∀ {xs : List D}, xs.all (fun x => isWhole x lo hi) = true → ∃ ks : List Int, xs = ks.map D.int ∧ ∀ k ∈ ks, lo ≤ k ∧ k ≤ hi
  | [], _ => ⟨[], rfl, fun _ h => by cases h⟩
  | x :: r, h => by
    rw [List.all_cons, Bool.and_eq_true] at h
    obtain ⟨i, rfl, hi⟩ := wInt h.1
    obtain ⟨ks, rfl, hk⟩ := wInts h.2
    refine ⟨i :: ks, rfl, fun k hkm => ?_⟩
    rcases List.mem_cons.mp hkm with rfl | hkm
    · exact hi
    · exact hk k hkm
theorem isF_iff {i : Int} {xs : List D} (h1 : 1 ≤ i) (h2 : i ≤ 8) : isF (.tup [.int i, .tup xs]) ↔ xs.all (fun x => isWhole x 0 9) = true ∧ ((xs.length : Int) % i = 0 ∧ 1 ≤ (xs.length : Int) / i ∧ (xs.length : Int) / i ≤ 8) := by
  constructor
  · intro h
    obtain ⟨i', xs', e, h1', h2', ha, r, r1, r8, e2⟩ := isF_tup h
    simp only [D.tup.injEq, List.cons.injEq, D.int.injEq, and_true] at e
    obtain ⟨rfl, rfl⟩ := e
    refine ⟨ha, ?_⟩
    rw [e2, Int.mul_emod_right, Int.mul_ediv_cancel_left _ (by omega)]
    exact ⟨rfl, r1, r8⟩
  · rintro ⟨ha, hm, h3, h4⟩
    obtain ⟨ks, rfl, hk⟩ := wInts ha
    rw [List.length_map] at hm h3 h4
    refine ⟨i, ks, rfl, h1, h2, ⟨(ks.length : Int) / i, h3, h4, ?_⟩, hk⟩
    have := Int.mul_ediv_add_emod (ks.length : Int) i
    rw [hm] at this
    omega
theorem isF_no {d : D} (h : ∀ a b, d ≠ .tup [a, b]) : ¬ isF d := fun h2 => by
  obtain ⟨i, xs, e, _⟩ := isF_tup h2
  exact h _ _ e
theorem isF_w {a b : D} (h : isWhole a 1 8 = false) : ¬ isF (.tup [a, b]) := fun h9 => by
  obtain ⟨i, xs, e, h1, h2, _⟩ := isF_tup h9
  simp only [D.tup.injEq, List.cons.injEq, and_true] at e
  obtain ⟨rfl, rfl⟩ := e
  rw [whole_of h1 h2] at h
  cases h
theorem len2 {xs : List D} (h : xs.length = 2) : ∃ a b, xs = [a, b] := by
  match xs, h with
  | [a, b], _ => exact ⟨a, b, rfl⟩
theorem smN_bad : ∀ (n : Nat) (d : D), smN n d → Bd.bad d := by
  intro n
  induction n with
  | zero =>
    intro d h
    cases d with
    | lst m ds => cases m <;> first | exact h.elim | exact ⟨rfl, rfl⟩
    | dct m ks ds => cases m <;> first | exact h.elim | exact ⟨rfl, rfl⟩
    | _ => first | exact ⟨rfl, rfl⟩ | exact False.elim h
  | succ n ih =>
    intro d h
    cases d with
    | tup ds =>
      refine ⟨?_, rfl⟩
      rw [D.solid]
      exact solids_all fun x hx => (ih x (h.2 x hx)).1
    | lst m ds => cases m <;> first | exact ⟨rfl, rfl⟩ | exact False.elim h
    | dct m ks ds => cases m <;> first | exact ⟨rfl, rfl⟩ | exact False.elim h
    | _ => first | exact ⟨rfl, rfl⟩ | exact False.elim h
theorem sm.b {d : D} (h : sm d) : bad d := by
  obtain ⟨n, h⟩ := h
  exact smN_bad n d h
theorem frz1 {d : D} (h : d.solid = true) : d.frz = d := by
  have := frzs_of_solid [d] (by rw [solids, h]; rfl)
  rw [frzs] at this
  exact (List.cons.inj this).1
theorem sm.frz {d : D} (h : sm d) : d.frz = d := frz1 h.b.1
theorem sm.mem {xs : List D} (h : sm (.tup xs)) : (∀ x ∈ xs, sm x) ∧ xs.length ≤ 500000 := by
  obtain ⟨n, h⟩ := h
  cases n with
  | zero => exact False.elim h
  | succ n => exact ⟨fun x hx => ⟨n, h.2 x hx⟩, h.1⟩
set_option maxHeartbeats 1000000 in
theorem r_is_field : Tells S_is_field [true] 3 w_is_field := by
  rintro ds Q E ⟨d, rfl, hd, h2⟩
  show w_is_field _ _ [d, .gone, .gone, .gone]
  generalize (fun (c : Str) (ns : List Int) ρ => E c ns (outs [true] ρ)) = Ex
  have q0 : ¬ isF d → Q (.bl false) [d] := fun h => by rw [tF_f h] at h2; exact h2
  have q1 : isF d → Q (.bl true) [d] := fun h => by rw [tF_t h] at h2; exact h2
  clear h2
  have hb := hd.b
  have big : (1000002 : Nat) ≤ sizeLine := by decide
  unfold w_is_field w_is_field_0
  cases d
  case tup xs =>
    have hs : solids xs = true := by have := hb.1; rwa [D.solid] at this
    have fx := frzs_of_solid xs hs
    by_cases hl : xs.length = 2
    · obtain ⟨a, b, rfl⟩ := len2 hl
      have sa := hd.mem.1 a (by simp)
      have sb := hd.mem.1 b (by simp)
      have ba := sa.b
      have bb := sb.b
      simp? [ba.1, bb.1, sa.frz, sb.frz]
      refine ⟨a, 1, 8, rfl, ba.2, ?_⟩
      cases eW : isWhole a 1 8 with
      | false =>
        simp? []
        unfold w_is_field_1
        simp? []
        exact q0 (isF_w eW)
      | true =>
        obtain ⟨i, rfl, i1, i8⟩ := wInt eW
        simp? []
        unfold w_is_field_2
        simp? [bb.1, sb.frz]
        unfold w_is_field_3
        cases b
        case tup cs =>
          have hsc : solids cs = true := by have := bb.1; rwa [D.solid] at this
          have fc := frzs_of_solid cs hsc
          simp? [hsc, fc]
          refine ⟨by omega, ?_⟩
          have iff := isF_iff (xs := cs) i1 i8
          by_cases c1 : ((cs.length : Nat) : Int) % i = 0
          · rw [if_pos c1]
            refine ⟨divW 20 (by omega) (by omega) (by decide), ?_⟩
            by_cases c2 : 1 ≤ ((cs.length : Nat) : Int) / i
            · rw [if_pos c2]
              by_cases c3 : ((cs.length : Nat) : Int) / i ≤ 8
              · rw [if_pos c3]
                unfold w_is_field_5
                have lc := sb.mem.2
                simp? [hsc, fc]
                unfold ones
                refine ⟨by rw [List.length_map]; omega, ?_⟩
                refine lcL_mapL (fun x : D => [x]) (fun x => .bl (isWhole x 0 9)) (fun x hxm K hK => ?_) ?_
                · have bx := (sb.mem.1 x hxm).b
                  simp? [nB_bad bx]
                  exact ⟨x, 0, 9, rfl, bx.2, hK⟩
                have ef : (cs.map fun x => D.bl (isWhole x 0 9)) = (cs.map fun x => isWhole x 0 9).map D.bl := by rw [List.map_map]; rfl
                rw [List.nil_append, ef]
                simp? []
                have ea : (cs.map fun x => isWhole x 0 9).all id = cs.all fun x => isWhole x 0 9 := by rw [List.all_map]; rfl
                rw [ea]
                cases eA : cs.all fun x => isWhole x 0 9 with
                | true => exact q1 (iff.mpr ⟨eA, c1, c2, c3⟩)
                | false => exact q0 fun h => by rw [(iff.mp h).1] at eA; cases eA
              · rw [if_neg c3]
                unfold w_is_field_4
                exact q0 fun h => c3 (iff.mp h).2.2.2
            · rw [if_neg c2]
              unfold w_is_field_4
              exact q0 fun h => c2 (iff.mp h).2.2.1
          · rw [if_neg c1]
            unfold w_is_field_4
            exact q0 fun h => c1 (iff.mp h).2.1
        case gone => cases bb.2
        case opq => cases bb.2
        case ldc => cases bb.2
        case ext => cases bb.2
        case ins => cases bb.2
        case ndc => cases bb.2
        case lst m es => cases m <;> (simp? []; unfold w_is_field_4; simp? []; exact q0 (isF_b fun _ h => nomatch h))
        case dct m ks es => cases m <;> (simp? []; unfold w_is_field_4; simp? []; exact q0 (isF_b fun _ h => nomatch h))
        all_goals (simp? []; unfold w_is_field_4; simp? []; exact q0 (isF_b fun _ h => nomatch h))
    · have hne : ¬ (((xs.length : Nat) : Int) = 2) := by omega
      simp? [hs, hne]
      unfold w_is_field_1
      simp? []
      exact q0 (isF_no fun a b e => by
        have := congrArg (fun d => match d with | D.tup ys => ys.length | _ => 0) e
        exact hl this)
  case gone => cases hb.2
  case opq => cases hb.2
  case ldc => cases hb.2
  case ext => cases hb.2
  case ins => cases hb.2
  case ndc => cases hb.2
  case lst m es => cases m <;> (simp? []; unfold w_is_field_1; simp? []; exact q0 (isF_no fun _ _ h => nomatch h))
  case dct m ks es => cases m <;> (simp? []; unfold w_is_field_1; simp? []; exact q0 (isF_no fun _ _ h => nomatch h))
  all_goals (simp? []; unfold w_is_field_1; simp? []; exact q0 (isF_no fun _ _ h => nomatch h))
theorem tF_cases (p : Prop) : (tF p = true ∧ p) ∨ (tF p = false ∧ ¬ p) := by
  by_cases h : p
  · exact .inl ⟨tF_t h, h⟩
  · exact .inr ⟨tF_f h, h⟩
theorem r_need_field : Tells S_need_field [true] 0 w_need_field := by
  rintro ds Q E ⟨d, rfl, hd, h2, h3⟩
  show w_need_field _ _ [d]
  unfold w_need_field w_need_field_0
  simp? [nB_bad hd.b]
  refine ⟨d, rfl, hd, ?_⟩
  simp? []
  rcases tF_cases (isF d) with ⟨e, h⟩ | ⟨e, h⟩
  · rw [e]
    exact h2 h
  · rw [e]
    unfold w_need_field_1
    exact h3 h
theorem r_is_cell : Tells S_is_cell [true, true] 0 w_is_cell := by
  rintro ds Q E ⟨w, cs, d, rfl, hf, hb, h2⟩
  show w_is_cell _ _ [fld w cs, d]
  unfold w_is_cell w_is_cell_0 fld
  simp? [nB_bad hb]
  refine ⟨d, 0, (cs.length : Int) - 1, rfl, hb.2, ?_⟩
  simp? []
  exact h2
theorem valI_ints (ks : List Int) : (ks.map D.int).map valI = ks := by
  rw [List.map_map]
  exact List.map_id'' (fun _ => rfl) ks
theorem whole_int {d : D} {n : Int} (h : isWhole d 0 n = true) : ∃ i, d = .int i ∧ 0 ≤ i ∧ i ≤ n := by
  cases d <;> first | (simp [isWhole] at h; done) | skip
  rename_i i
  simp only [isWhole, Bool.and_eq_true, decide_eq_true_eq] at h
  exact ⟨i, rfl, h⟩
theorem whole_ints {n : Int} : ∀ {xs : List D}, xs.all (fun x => isWhole x 0 n) = true → ∃ ks : List Int, xs = ks.map D.int ∧ ∀ k ∈ ks, 0 ≤ k ∧ k ≤ n
  | [], _ => ⟨[], rfl, fun _ h => by cases h⟩
  | x :: r, h => by
    rw [List.all_cons, Bool.and_eq_true] at h
    obtain ⟨i, rfl, hi⟩ := whole_int h.1
    obtain ⟨ks, rfl, hk⟩ := whole_ints h.2
    refine ⟨i :: ks, rfl, fun k hkm => ?_⟩
    rcases List.mem_cons.mp hkm with rfl | hkm
    · exact hi
    · exact hk k hkm
theorem r_are_cells : Tells S_are_cells [true, true] 1 w_are_cells := by
  rintro ds Q E ⟨w, cs, d, rfl, hf, ho, h2⟩
  show w_are_cells _ _ [fld w cs, d, .gone]
  have big : (1000002 : Nat) ≤ sizeLine := by decide
  unfold w_are_cells w_are_cells_0
  obtain ⟨hb, hx⟩ := ho
  cases d
  case tup xs =>
    obtain ⟨l100, hx⟩ := hx xs rfl
    unfold fld
    have hs : solids xs = true := by have := hb.1; rwa [D.solid] at this
    simp? [hs, frzs_of_solid xs hs]
    unfold ones
    refine ⟨by rw [List.length_map]; omega, ?_⟩
    refine lcL_mapL (fun x : D => [x]) (fun x => .bl (isWhole x 0 ((cs.length : Int) - 1))) (fun x hxm K hK => ?_) ?_
    · have hbx := hx x hxm
      simp? [nB_bad hbx]
      refine ⟨w, cs, x, rfl, hf, hbx, ?_⟩
      simp? [fld]
      exact hK
    have ef : (xs.map fun x => D.bl (isWhole x 0 ((cs.length : Int) - 1))) = (xs.map fun x => isWhole x 0 ((cs.length : Int) - 1)).map D.bl := by rw [List.map_map]; rfl
    rw [List.nil_append, ef]
    simp? []
    have ea : (xs.map fun x => isWhole x 0 ((cs.length : Int) - 1)).all id = xs.all fun x => isWhole x 0 ((cs.length : Int) - 1) := by rw [List.all_map]; rfl
    rw [ea]
    simp only [areB] at h2
    cases c : xs.all fun x => isWhole x 0 ((cs.length : Int) - 1) with
    | false =>
      rw [c] at h2
      simp? []
      exact h2
    | true =>
      rw [c] at h2
      obtain ⟨ks, rfl, hk⟩ := whole_ints c
      rw [valI_ints] at h2
      simp? [frzs_of_solid _ (ints_solid ks)]
      refine ⟨ks, rfl, by simpa using l100, ?_⟩
      simp? [tl]
      exact h2
  case gone => cases hb.2
  case opq => cases hb.2
  case ldc => cases hb.2
  case ext => cases hb.2
  case ins => cases hb.2
  case lst m es => cases m <;> (simp? []; exact h2)
  case dct m ks es => cases m <;> (simp? []; exact h2)
  case ndc m ks es => cases hb.2
  all_goals (simp? []; exact h2)
def wordB (s : Str) : Bool := decide (s = "leap") || decide (s = "slow")
theorem wordB_iff {s : Str} : wordB s = true ↔ s = "leap" ∨ s = "slow" := by
  unfold wordB
  rw [Bool.or_eq_true, decide_eq_true_iff, decide_eq_true_iff]
theorem isCh_tup {n : Int} {d : D} (h : isCh n d) : ∃ i s xs, d = .tup [.int i, .str s, .tup xs] ∧ 0 ≤ i ∧ i ≤ 999 ∧ wordB s = true ∧ areB n (.tup xs) = true ∧ 1 ≤ xs.length ∧ xs.length ≤ 16 := by
  obtain ⟨⟨i, s, ks⟩, rfl, hc⟩ := h
  refine ⟨i, s, ks.map D.int, rfl, hc.day.1, hc.day.2, wordB_iff.mpr hc.sort, ?_, by rw [List.length_map]; exact hc.some, by rw [List.length_map]; exact hc.few⟩
  show ((ks.map D.int).all (fun x => isWhole x 0 (n - 1)) && decide (((ks.map D.int).map valI).Pairwise (· < ·))) = true
  rw [valI_ints, Bool.and_eq_true]
  exact ⟨whole_all fun k hk => by have := hc.cells.2 k hk; omega, decide_eq_true hc.cells.1⟩
theorem isCh_3 {n : Int} {xs : List D} (h : xs.length ≠ 3) : ¬ isCh n (.tup xs) := fun h2 => by
  obtain ⟨i, s, ys, e, _⟩ := isCh_tup h2
  cases e
  exact h rfl
theorem isCh_a {n : Int} {a b c : D} (h : isWhole a 0 999 = false) : ¬ isCh n (.tup [a, b, c]) := fun h9 => by
  obtain ⟨i, s, ys, e, h1, h2, _⟩ := isCh_tup h9
  simp only [D.tup.injEq, List.cons.injEq, and_true] at e
  obtain ⟨rfl, rfl, rfl⟩ := e
  rw [whole_of h1 h2] at h
  cases h
theorem isCh_b {n : Int} {a b c : D} (h : ∀ s, b ≠ .str s) : ¬ isCh n (.tup [a, b, c]) := fun h2 => by
  obtain ⟨i, s, ys, e, _⟩ := isCh_tup h2
  simp only [D.tup.injEq, List.cons.injEq, and_true] at e
  exact h _ e.2.1
theorem isCh_c {n : Int} {a b c : D} (h : ¬ (areB n c = true ∧ ∃ xs, c = .tup xs ∧ 1 ≤ xs.length ∧ xs.length ≤ 16)) : ¬ isCh n (.tup [a, b, c]) := fun h2 => by
  obtain ⟨i, s', ys, e, _, _, _, h4, h5, h6⟩ := isCh_tup h2
  simp only [D.tup.injEq, List.cons.injEq, and_true] at e
  obtain ⟨rfl, rfl, rfl⟩ := e
  exact h ⟨h4, _, rfl, h5, h6⟩
theorem areB_ints {n : Int} {xs : List D} (h : areB n (.tup xs) = true) : ∃ ks : List Int, xs = ks.map D.int ∧ okC n ks := by
  have h : (xs.all (fun x => isWhole x 0 (n - 1)) && decide ((xs.map valI).Pairwise (· < ·))) = true := h
  rw [Bool.and_eq_true] at h
  obtain ⟨ks, rfl, hk⟩ := wInts h.1
  rw [valI_ints] at h
  exact ⟨ks, rfl, of_decide_eq_true h.2, fun k hkm => by have := hk k hkm; omega⟩
theorem isCh_mk {n i : Int} {s : Str} {xs : List D} (h1 : 0 ≤ i) (h2 : i ≤ 999) (h3 : wordB s = true) (h4 : areB n (.tup xs) = true) (h5 : 1 ≤ xs.length) (h6 : xs.length ≤ 16) : isCh n (.tup [.int i, .str s, .tup xs]) := by
  obtain ⟨ks, rfl, hk⟩ := areB_ints h4
  rw [List.length_map] at h5 h6
  exact ⟨(i, s, ks), rfl, ⟨h1, h2⟩, wordB_iff.mp h3, hk, h5, h6⟩
theorem isCh_no {n : Int} {d : D} (h : ∀ a b c, d ≠ .tup [a, b, c]) : ¬ isCh n d := fun h2 => by
  obtain ⟨i, s, ys, e, _⟩ := isCh_tup h2
  exact h _ _ _ e
theorem isCh_s {n : Int} {a c : D} {s : Str} (h : wordB s = false) : ¬ isCh n (.tup [a, .str s, c]) := fun h2 => by
  obtain ⟨i, s', ys, e, _, _, h3, _⟩ := isCh_tup h2
  simp only [D.tup.injEq, List.cons.injEq, and_true, D.str.injEq] at e
  obtain ⟨rfl, rfl, rfl⟩ := e
  rw [h3] at h
  cases h
theorem len3 {xs : List D} (h : xs.length = 3) : ∃ a b c, xs = [a, b, c] := by
  match xs, h with
  | [a, b, c], _ => exact ⟨a, b, c, rfl⟩
theorem sm_str {s : Str} (h : sm (.str s)) : PyData.strOk s = true ∧ s.length ≤ 2000 := by
  obtain ⟨n, h⟩ := h
  cases n <;> exact h
theorem sh_str {s : Str} (h : bad (.str s)) (h2 : sm (.str s)) : shp (.str s) := by
  unfold shp SeqAt.shaped
  rw [D.py, PyData.canLay0, (sm_str h2).1]
  rfl
theorem sm.meml {m : M} {xs : List D} (h : sm (.lst m xs)) : m = .shr ∧ (∀ x ∈ xs, sm x) ∧ xs.length ≤ 500000 := by
  obtain ⟨n, h⟩ := h
  cases n with
  | zero => cases m <;> exact False.elim h
  | succ n =>
    cases m with
    | shr => exact ⟨rfl, fun x hx => ⟨n, h.2 x hx⟩, h.1⟩
    | own => exact False.elim h
    | con => exact False.elim h
set_option maxHeartbeats 1000000 in
theorem r_change_in : Tells S_change_in [true, true] 0 w_change_in := by
  rintro ds Q E ⟨w, cs, d, rfl, hf, hd, h2⟩
  show w_change_in _ _ [fld w cs, d]
  generalize (fun (c : Str) (ns : List Int) ρ => E c ns (outs [true, true] ρ)) = Ex
  have q0 : ¬ isCh cs.length d → Q (.bl false) [fld w cs, d] := fun h => by rw [tF_f h] at h2; exact h2
  have q1 : isCh cs.length d → Q (.bl true) [fld w cs, d] := fun h => by rw [tF_t h] at h2; exact h2
  clear h2
  have hb := hd.b
  have big : (1000002 : Nat) ≤ sizeLine := by decide
  unfold w_change_in w_change_in_0 fld
  cases d
  case tup xs =>
    have hs : solids xs = true := by have := hb.1; rwa [D.solid] at this
    by_cases hl : xs.length = 3
    · obtain ⟨a, b, c, rfl⟩ := len3 hl
      have sa := hd.mem.1 a (by simp)
      have sb := hd.mem.1 b (by simp)
      have sc := hd.mem.1 c (by simp)
      have ba := sa.b
      have bb := sb.b
      have bc := sc.b
      simp? [ba.1, bb.1, bc.1, sa.frz, sb.frz, sc.frz]
      refine ⟨a, 0, 999, rfl, ba.2, ?_⟩
      cases eW : isWhole a 0 999 with
      | false =>
        simp? []
        unfold w_change_in_1
        simp? []
        exact q0 (isCh_a eW)
      | true =>
        obtain ⟨i, rfl, i1, i8⟩ := wInt eW
        simp? []
        unfold w_change_in_2
        cases b
        case str s =>
          have ss := sh_str bb sb
          simp? [ba.1, bb.1, bc.1, sb.frz, sc.frz, ss]
          refine ⟨by decide, ?_⟩
          by_cases hw : ("leap" : Str) = s ∨ ("slow" : Str) = s
          · rw [if_pos hw]
            have hw2 : wordB s = true := wordB_iff.mpr (hw.elim (fun h => .inl h.symm) fun h => .inr h.symm)
            unfold w_change_in_4
            simp? [bc.1, sc.frz]
            have oc : oddC c := ⟨bc, fun ys e => by
              subst e
              exact ⟨sc.mem.2, fun x hx => (sc.mem.1 x hx).b⟩⟩
            refine ⟨w, cs, c, rfl, hf, oc, ?_⟩
            cases eA : areB (cs.length : Int) c with
            | false =>
              simp? [fld]
              exact q0 (isCh_c fun h => by rw [h.1] at eA; cases eA)
            | true =>
              cases c <;> first | (cases eA; done) | skip
              rename_i ys
              have sy : solids ys = true := by have := bc.1; rwa [D.solid] at this
              have fy := frzs_of_solid ys sy
              simp? [fld, sy, fy]
              by_cases c1 : (1 : Int) ≤ (ys.length : Nat)
              · rw [if_pos c1]
                by_cases c2 : ((ys.length : Nat) : Int) ≤ 16
                · rw [decide_eq_true c2]
                  exact q1 (isCh_mk i1 i8 hw2 eA (by omega) (by omega))
                · rw [decide_eq_false c2]
                  exact q0 (isCh_c fun h => by
                    obtain ⟨_, zs, e, h1, h2⟩ := h
                    cases e
                    omega)
              · rw [if_neg c1]
                exact q0 (isCh_c fun h => by
                  obtain ⟨_, zs, e, h1, h2⟩ := h
                  cases e
                  omega)
          · rw [if_neg hw]
            unfold w_change_in_3
            have hw2 : wordB s = false := by
              cases e : wordB s with
              | false => rfl
              | true => exact absurd ((wordB_iff.mp e).elim (fun h => .inl h.symm) fun h => .inr h.symm) hw
            exact q0 (isCh_s hw2)
        case gone => cases bb.2
        case opq => cases bb.2
        case ldc => cases bb.2
        case ext => cases bb.2
        case ins => cases bb.2
        case ndc => cases bb.2
        case lst m es => obtain ⟨rfl, _⟩ := sb.meml; simp? [bc.1, sc.frz]; unfold w_change_in_3; simp? []; exact q0 (isCh_b fun _ h => nomatch h)
        case dct m ks es => cases m <;> first | (cases bb.1; done) | (simp? [bc.1, sc.frz]; unfold w_change_in_3; simp? []; exact q0 (isCh_b fun _ h => nomatch h))
        case tup es => have := bb.1; rw [D.solid] at this; simp? [this, bc.1, sc.frz, sb.frz]; unfold w_change_in_3; simp? []; exact q0 (isCh_b fun _ h => nomatch h)
        all_goals (simp? [bc.1, sc.frz]; unfold w_change_in_3; simp? []; exact q0 (isCh_b fun _ h => nomatch h))
    · have hne : ¬ (((xs.length : Nat) : Int) = 3) := by omega
      simp? [hs, hne]
      unfold w_change_in_1
      simp? []
      exact q0 (isCh_3 hl)
  case gone => cases hb.2
  case opq => cases hb.2
  case ldc => cases hb.2
  case ext => cases hb.2
  case ins => cases hb.2
  case ndc => cases hb.2
  case lst m es => cases m <;> (simp? []; unfold w_change_in_1; simp? []; exact q0 (isCh_no fun _ _ _ h => nomatch h))
  case dct m ks es => cases m <;> (simp? []; unfold w_change_in_1; simp? []; exact q0 (isCh_no fun _ _ _ h => nomatch h))
  all_goals (simp? []; unfold w_change_in_1; simp? []; exact q0 (isCh_no fun _ _ _ h => nomatch h))
theorem r_need_pace : Tells S_need_pace [true] 0 w_need_pace := by
  rintro ds Q E ⟨d, rfl, hd, h3, h4⟩
  show w_need_pace _ _ [d]
  have hb := hd.b
  unfold w_need_pace w_need_pace_0
  simp? [nB_bad hb]
  refine ⟨d, 1, 9, rfl, hb.2, ?_⟩
  cases e : isWhole d 1 9 with
  | true => simp? []; exact h3 e
  | false => simp? []; unfold w_need_pace_1; exact h4 e
theorem isTg_2 {n : Int} {xs : List D} (h : xs.length ≠ 2) : ¬ isTg n (.tup xs) := fun ⟨t, e, _⟩ => by
  cases e
  exact h rfl
theorem isTg_iff {n : Int} {a b : D} : isTg n (.tup [a, b]) ↔ isWhole a 1 9 = true ∧ isCh n b := by
  constructor
  · rintro ⟨t, e, h1, h2, h3⟩
    simp only [tgD, D.tup.injEq, List.cons.injEq, and_true] at e
    obtain ⟨rfl, rfl⟩ := e
    exact ⟨whole_of h1 h2, t.2, rfl, h3⟩
  · rintro ⟨h1, c, rfl, hc⟩
    obtain ⟨i, rfl, i1, i9⟩ := wInt h1
    exact ⟨(i, c), rfl, i1, i9, hc⟩
theorem isTg_no {n : Int} {d : D} (h : ∀ a b, d ≠ .tup [a, b]) : ¬ isTg n d := fun ⟨t, e, _⟩ => h _ _ e
theorem r_is_telling : Tells S_is_telling [true, true] 0 w_is_telling := by
  rintro ds Q E ⟨w, cs, d, rfl, hf, hd, h2⟩
  show w_is_telling _ _ [fld w cs, d]
  generalize (fun (c : Str) (ns : List Int) ρ => E c ns (outs [true, true] ρ)) = Ex
  have q0 : ¬ isTg cs.length d → Q (.bl false) [fld w cs, d] := fun h => by rw [tF_f h] at h2; exact h2
  have hb := hd.b
  have big : (1000002 : Nat) ≤ sizeLine := by decide
  unfold w_is_telling w_is_telling_0 fld
  cases d
  case tup xs =>
    have hs : solids xs = true := by have := hb.1; rwa [D.solid] at this
    by_cases hl : xs.length = 2
    · obtain ⟨a, b, rfl⟩ := len2 hl
      have sa := hd.mem.1 a (by simp)
      have sb := hd.mem.1 b (by simp)
      have ba := sa.b
      have bb := sb.b
      simp? [ba.1, bb.1, sa.frz, sb.frz]
      refine ⟨a, 1, 9, rfl, ba.2, ?_⟩
      cases eW : isWhole a 1 9 with
      | false =>
        simp? []
        unfold w_is_telling_1
        simp? []
        exact q0 fun h => by rw [(isTg_iff.mp h).1] at eW; cases eW
      | true =>
        simp? []
        unfold w_is_telling_2
        simp? [ba.1, bb.1, sa.frz, sb.frz]
        refine ⟨w, cs, b, rfl, hf, sb, ?_⟩
        simp? [fld]
        have e : tF (isTg cs.length (.tup [a, b])) = tF (isCh cs.length b) := by
          by_cases h : isCh cs.length b
          · rw [tF_t h, tF_t (isTg_iff.mpr ⟨eW, h⟩)]
          · rw [tF_f h, tF_f fun h3 => h (isTg_iff.mp h3).2]
        rw [e] at h2
        exact h2
    · have hne : ¬ (((xs.length : Nat) : Int) = 2) := by omega
      simp? [hs, hne]
      unfold w_is_telling_1
      simp? []
      exact q0 (isTg_2 hl)
  case gone => cases hb.2
  case opq => cases hb.2
  case ldc => cases hb.2
  case ext => cases hb.2
  case ins => cases hb.2
  case ndc => cases hb.2
  case lst m es => cases m <;> (simp? []; unfold w_is_telling_1; simp? []; exact q0 (isTg_no fun _ _ h => nomatch h))
  case dct m ks es => cases m <;> (simp? []; unfold w_is_telling_1; simp? []; exact q0 (isTg_no fun _ _ h => nomatch h))
  all_goals (simp? []; unfold w_is_telling_1; simp? []; exact q0 (isTg_no fun _ _ h => nomatch h))
theorem isMk_3 {n : Int} {xs : List D} (h : xs.length ≠ 3) : ¬ isMk n (.tup xs) := fun ⟨t, e, _⟩ => by
  cases e
  exact h rfl
theorem isMk_iff {n : Int} {a b c : D} : isMk n (.tup [a, b, c]) ↔ isWhole a 0 999 = true ∧ isWhole b 0 (n - 1) = true ∧ ∃ t, c = .bl t := by
  constructor
  · rintro ⟨k, e, h1, h2, h3, h4⟩
    simp only [mkD, D.tup.injEq, List.cons.injEq, and_true] at e
    obtain ⟨rfl, rfl, rfl⟩ := e
    exact ⟨whole_of h1 h2, whole_of h3 (by omega), _, rfl⟩
  · rintro ⟨h1, h2, t, rfl⟩
    obtain ⟨i, rfl, i0, i9⟩ := wInt h1
    obtain ⟨j, rfl, j0, j9⟩ := wInt h2
    exact ⟨(i, j, t), rfl, i0, i9, j0, by show j < n; omega⟩
theorem isMk_no {n : Int} {d : D} (h : ∀ a b c, d ≠ .tup [a, b, c]) : ¬ isMk n d := fun ⟨t, e, _⟩ => h _ _ _ e
theorem isi_bool {d : D} (h : bad d) : isiD d "bool" = true ↔ ∃ t, d = .bl t := by
  cases d <;> first | (cases h.2; done) | simp [isiD]
set_option maxHeartbeats 1000000 in
theorem r_is_mark : Tells S_is_mark [true, true] 0 w_is_mark := by
  rintro ds Q E ⟨w, cs, d, rfl, hf, hd, h2⟩
  show w_is_mark _ _ [fld w cs, d]
  generalize (fun (c : Str) (ns : List Int) ρ => E c ns (outs [true, true] ρ)) = Ex
  have q0 : ¬ isMk cs.length d → Q (.bl false) [fld w cs, d] := fun h => by rw [tF_f h] at h2; exact h2
  have hb := hd.b
  have big : (1000002 : Nat) ≤ sizeLine := by decide
  unfold w_is_mark w_is_mark_0 fld
  cases d
  case tup xs =>
    have hs : solids xs = true := by have := hb.1; rwa [D.solid] at this
    by_cases hl : xs.length = 3
    · obtain ⟨a, b, c, rfl⟩ := len3 hl
      have sa := hd.mem.1 a (by simp)
      have sb := hd.mem.1 b (by simp)
      have sc := hd.mem.1 c (by simp)
      have ba := sa.b
      have bb := sb.b
      have bc := sc.b
      simp? [ba.1, bb.1, bc.1, sa.frz, sb.frz, sc.frz]
      refine ⟨a, 0, 999, rfl, ba.2, ?_⟩
      cases eW : isWhole a 0 999 with
      | false =>
        simp? []
        unfold w_is_mark_1
        simp? []
        exact q0 fun h => by rw [(isMk_iff.mp h).1] at eW; cases eW
      | true =>
        simp? []
        unfold w_is_mark_2
        simp? [ba.1, bb.1, bc.1, sa.frz, sb.frz, sc.frz]
        refine ⟨w, cs, b, rfl, hf, bb, ?_⟩
        cases eC : isWhole b 0 ((cs.length : Int) - 1) with
        | false =>
          simp? [fld]
          exact q0 fun h => by rw [(isMk_iff.mp h).2.1] at eC; cases eC
        | true =>
          simp? [fld, ba.1, bb.1, bc.1, sc.frz]
          refine ⟨bc.2, ?_⟩
          have e : tF (isMk cs.length (.tup [a, b, c])) = isiD c "bool" := by
            cases h : isiD c "bool" with
            | true => exact tF_t (isMk_iff.mpr ⟨eW, eC, (isi_bool bc).mp h⟩)
            | false => exact tF_f fun h3 => by rw [(isi_bool bc).mpr (isMk_iff.mp h3).2.2] at h; cases h
          rw [e] at h2
          exact h2
    · have hne : ¬ (((xs.length : Nat) : Int) = 3) := by omega
      simp? [hs, hne]
      unfold w_is_mark_1
      simp? []
      exact q0 (isMk_3 hl)
  case gone => cases hb.2
  case opq => cases hb.2
  case ldc => cases hb.2
  case ext => cases hb.2
  case ins => cases hb.2
  case ndc => cases hb.2
  case lst m es => cases m <;> (simp? []; unfold w_is_mark_1; simp? []; exact q0 (isMk_no fun _ _ _ h => nomatch h))
  case dct m ks es => cases m <;> (simp? []; unfold w_is_mark_1; simp? []; exact q0 (isMk_no fun _ _ _ h => nomatch h))
  all_goals (simp? []; unfold w_is_mark_1; simp? []; exact q0 (isMk_no fun _ _ _ h => nomatch h))
theorem r_need_telling : Tells S_need_telling [true, true] 0 w_need_telling := by
  rintro ds Q E ⟨w, cs, d, rfl, hf, hd, h2, h3⟩
  show w_need_telling _ _ [fld w cs, d]
  unfold w_need_telling w_need_telling_0 fld
  simp? [nB_bad hd.b]
  refine ⟨w, cs, d, rfl, hf, hd, ?_⟩
  simp? [fld]
  rcases tF_cases (isTg cs.length d) with ⟨e, h⟩ | ⟨e, h⟩
  · rw [e]
    exact h2 h
  · rw [e]
    unfold w_need_telling_1
    exact h3 h
theorem r_need_mark : Tells S_need_mark [true, true] 0 w_need_mark := by
  rintro ds Q E ⟨w, cs, d, rfl, hf, hd, h2, h3⟩
  show w_need_mark _ _ [fld w cs, d]
  unfold w_need_mark w_need_mark_0 fld
  simp? [nB_bad hd.b]
  refine ⟨w, cs, d, rfl, hf, hd, ?_⟩
  simp? [fld]
  rcases tF_cases (isMk cs.length d) with ⟨e, h⟩ | ⟨e, h⟩
  · rw [e]
    exact h2 h
  · rw [e]
    unfold w_need_mark_1
    exact h3 h
theorem r_law_cell : Tells S_law_cell [true, true] 0 w_law_cell := by
  rintro ds Q E ⟨ns, k, rfl, h1, h2, h3, h4⟩
  show w_law_cell _ _ [.lst .con (ns.map D.int), .int k]
  unfold w_law_cell w_law_cell_0
  simp? []
  by_cases hk : k < (ns.length : Int)
  · rw [if_pos hk]
    unfold w_law_cell_1
    simp? []
    rw [atI_ints h2 hk]
    exact ⟨_, rfl, h4 _⟩
  · rw [if_neg hk]
    unfold w_law_cell_2
    simp? []
    exact h4 _
theorem r_law_mix : Tells S_law_mix [true, true] 2 w_law_mix := by
  rintro ds Q E ⟨c, k, rfl, h1, h2, h3⟩
  show w_law_mix _ _ [.int c, .int k, .gone, .gone]
  unfold w_law_mix w_law_mix_0
  simp? []
  refine ⟨by decide, ?_⟩
  rw [show [D.int 48271, D.int 69621, D.int 16807, D.int 39373, D.int 30269, D.int 40014, D.int 40692, D.int 50021, D.int 61687, D.int 71993, D.int 83869, D.int 95561, D.int 30307] = ([48271, 69621, 16807, 39373, 30269, 40014, 40692, 50021, 61687, 71993, 83869, 95561, 30307] : List Int).map D.int from rfl]
  generalize hns : ([48271, 69621, 16807, 39373, 30269, 40014, 40692, 50021, 61687, 71993, 83869, 95561, 30307] : List Int) = ns
  have hl : ns.length = 13 := by rw [← hns]; rfl
  have hall : ∀ j ∈ ns, 0 ≤ j ∧ j < 100000 := by rw [← hns]; decide
  unfold w_law_mix_1
  simp? []
  refine ⟨by decide, by decide, ?_⟩
  rw [atI_ints (ns := ns) (k := k % 13) (by omega) (by omega)]
  have hv : 0 ≤ ns.getD (k % 13).toNat 0 ∧ ns.getD (k % 13).toNat 0 < 100000 := by
    rw [List.getD_eq_getElem?_getD, List.getElem?_eq_getElem (by omega)]
    exact hall _ (List.getElem_mem _)
  generalize ns.getD (k % 13).toNat 0 = v at hv
  refine ⟨_, rfl, ?_⟩
  simp? []
  refine ⟨mulW 40 40 (by omega) (by omega) (by omega) (by omega) (by decide), ?_⟩
  have hm0 : 0 ≤ (c % 2147483647 + 12345) * v := Int.mul_nonneg (by omega) (by omega)
  generalize (c % 2147483647 + 12345) * v = m at hm0
  unfold w_law_mix_2
  simp? []
  refine ⟨mulW 40 40 (by omega) (by omega) (by omega) (by omega) (by decide), divW 10 (by decide) (by decide) (by decide), mulW 40 40 (by omega) (by omega) (by omega) (by omega) (by decide), ?_⟩
  unfold w_law_mix_3
  simp? []
  refine ⟨by decide, ?_⟩
  generalize hq : (m + 977 * k + 7919 * (k / 13)) % 1000000007 = q
  unfold w_law_mix_4
  simp? []
  refine ⟨mulW 40 40 (by omega) (by omega) (by omega) (by omega) (by decide), mulW 40 40 (by omega) (by omega) (by omega) (by omega) (by decide), by decide, divW 10 (by decide) (by decide) (by decide), ?_⟩
  exact h3 _ (by omega) (by omega)
/-- what a loop over range(n) walks -/
theorem rg_item {n i : Nat} {its : List D} (h : (rgL 0 n)[i]? = some its) : its = [.int (i : Int)] ∧ i < n := by
  unfold rgL at h
  rw [List.getElem?_map] at h
  obtain ⟨j, hj, rfl⟩ := Option.map_eq_some_iff.mp h
  obtain ⟨g1, g2⟩ := List.getElem?_eq_some_iff.mp hj
  rw [List.getElem_range] at g2
  rw [List.length_range] at g1
  subst g2
  exact ⟨by rw [Int.zero_add], g1⟩
theorem r_law_box : Tells S_law_box [true, true, true] 3 w_law_box := by
  rintro ds Q E ⟨ns, k, l, rfl, h1, h2, h3, h4, h5, h6⟩
  show w_law_box _ _ [.lst .con (ns.map D.int), .int k, .int l, .gone, .gone, .gone]
  generalize (fun (c : Str) (ns : List Int) ρ => E c ns (outs [true, true, true] ρ)) = Ex
  unfold w_law_box w_law_box_0
  simp? []
  refine ⟨ns, k, rfl, h1, h2, h3, fun c => ?_⟩
  simp? []
  have rest : wsS (w_law_box_3 Ex) (wsS (w_law_box_4 Ex) (w_law_box_6 Ex)) { nx := fun ρ => Q D.non (outs [true, true, true] ρ), rt := fun d ρ => Q d (outs [true, true, true] ρ) } [D.lst M.con (List.map D.int ns), D.int k, D.int l, D.int c, D.gone, D.gone] := by
    unfold w_law_box_3
    simp? []
    unfold w_law_box_4
    simp? []
    refine ⟨by decide, by decide, ?_⟩
    refine forL_inv (fun i ρ => ∃ (n : Int) (d1 : D), ρ = [D.lst M.con (List.map D.int ns), D.int k, D.int l, .int c, .int n, d1] ∧ 0 ≤ n ∧ n < 2 ^ (31 * i)) ⟨0, .gone, rfl, by decide, by decide⟩ ?_ ?_
    · rintro i its ρ K hi ⟨n, d1, rfl, hn0, hn1⟩ hk
      obtain ⟨rfl, hi2⟩ := rg_item hi
      have hi3 : i < 90 := hi2
      have b1 := two_le (i := 31 * i) (j := 3000) (by omega)
      simp? []
      unfold w_law_box_5
      simp? []
      refine ⟨mulW 3000 40 (by omega) (by omega) (by decide) (by decide) (by decide), mulW 40 40 (by omega) (by omega) (by omega) (by omega) (by decide), c, _, rfl, by omega, by omega, fun m hm0 hm1 => ?_⟩
      simp? []
      refine hk _ ⟨_, _, rfl, by omega, ?_⟩
      have e : (2 : Int) ^ (31 * (i + 1)) = 2 ^ (31 * i) * 2147483648 := by rw [Nat.mul_add, Int.pow_add]; rfl
      rw [e]
      omega
    · rintro ρ ⟨n, d1, rfl, hn0, hn1⟩
      unfold w_law_box_6
      simp? []
      refine ⟨by decide, ?_⟩
      exact h6 n
  unfold w_law_box_1
  simp? []
  refine ⟨by decide, ?_⟩
  by_cases e1 : c % 2 = 0
  · rw [if_pos e1]
    by_cases e2 : l = 0
    · rw [if_pos e2]
      unfold w_law_box_2
      simp? []
      refine ⟨divW 10 (by decide) (by decide) (by decide), by decide, ?_⟩
      exact h6 _
    · rw [if_neg e2]
      exact rest
  · rw [if_neg e1]
    exact rest
theorem r_law_take : Tells S_law_take [true, true] 2 w_law_take := by
  rintro ds Q E ⟨a, c, rfl, h1, h2, h3⟩
  show w_law_take _ _ [box a, .int c, .gone, .gone]
  unfold w_law_take w_law_take_0 box
  simp? []
  refine ⟨⟨by omega, (divW (i := 0) 50 (by omega) (by omega) (by decide)).2⟩, ?_⟩
  unfold w_law_take_1
  simp? []
  unfold w_law_take_2
  simp? []
  exact h3 _ _ (Int.emod_nonneg _ (by omega)) (Int.emod_lt_of_pos _ (by omega))
theorem at_get {cs : List Int} {c : Int} (h0 : 0 ≤ c) (h1 : c < (cs.length : Int)) : atI (cs.map D.int) c = some (.int (at_ cs c)) := atI_ints h0 h1
theorem at_mem {cs : List Int} {c : Int} (h0 : 0 ≤ c) (h1 : c < (cs.length : Int)) : at_ cs c ∈ cs := by
  unfold at_
  rw [List.getD_eq_getElem?_getD, List.getElem?_eq_getElem (by omega)]
  exact List.getElem_mem _
theorem four {xs : List Int} {j : Int} (hl : xs.length = 4) (hx : ∀ x ∈ xs, 1 ≤ x ∧ x ≤ 9) (h0 : 0 ≤ j) (h3 : j < 4) : ∃ v, atI (xs.map D.int) j = some (.int v) ∧ 1 ≤ v ∧ v ≤ 9 :=
  ⟨at_ xs j, at_get h0 (by omega), hx _ (at_mem h0 (by omega))⟩
theorem lf_number {Ex : XD} {KK : DEnds} {a w mid c row side way : Int} {xs : List Int} {d1 d3 d7 d11 d12 : D} (hl : xs.length = 4) (hx : ∀ x ∈ xs, 1 ≤ x ∧ x ≤ 9) (hs : side = 0 ∨ side = 1)
    (q : ∀ v, 0 ≤ v → v ≤ 9 → KK.nx [box a, d1, .int w, d3, il .own xs, .int way, .int mid, d7, .int c, .int row, .int side, .int v, d12]) :
    w_law_field_5 Ex KK [box a, d1, .int w, d3, il .own xs, .int way, .int mid, d7, .int c, .int row, .int side, d11, d12] := by
  unfold w_law_field_5 il box
  have hb : ∀ p : Prop, [Decidable p] → 0 ≤ side + 2 * (if p then 1 else 0) ∧ side + 2 * (if p then 1 else 0) < 4 := fun p _ => by
    split <;> omega
  simp? []
  refine ⟨by split <;> exact mulW 2 2 (by decide) (by decide) (by decide) (by decide) (by decide), ?_⟩
  obtain ⟨v, ev, v1, v9⟩ := four hl hx (hb (decide (mid < row) = true)).1 (hb (decide (mid < row) = true)).2
  refine ⟨_, ev, by decide, ?_⟩
  by_cases c : row = mid
  · rw [if_pos (decide_eq_true c)]
    refine ⟨_, rfl, ?_⟩
    simp? []
    exact q 0 (by omega) (by omega)
  · rw [if_neg (by rw [decide_eq_false c]; decide)]
    refine ⟨_, rfl, ?_⟩
    simp? []
    exact q v (by omega) v9
theorem lf_other {Ex : XD} {KK : DEnds} {a way v : Int} {xs : List Int} {d1 d2 d3 d6 d7 d8 d9 d10 d12 : D} (hl : xs.length = 4) (hx : ∀ x ∈ xs, 1 ≤ x ∧ x ≤ 9) (v0 : 0 ≤ v) (v9 : v ≤ 9)
    (q : ∀ a v, 0 ≤ v → v ≤ 9 → KK.nx [box a, d1, d2, d3, il .own xs, .int way, d6, d7, d8, d9, d10, .int v, d12]) :
    w_law_field_6 Ex KK [box a, d1, d2, d3, il .own xs, .int way, d6, d7, d8, d9, d10, .int v, d12] := by
  have seven : ∀ a : Int, w_law_field_7 Ex KK [box a, d1, d2, d3, il .own xs, .int way, d6, d7, d8, d9, d10, .int v, d12] := fun a => by
    unfold il box
    unfold w_law_field_7
    obtain ⟨x0, e0, p0, q0⟩ := four (j := 0) hl hx (by omega) (by omega)
    obtain ⟨x1, e1, p1, q1⟩ := four (j := 1) hl hx (by omega) (by omega)
    simp?! [e0, e1]
    refine ⟨a, 9, rfl, by decide, by decide, fun a t t0 t1 => ?_⟩
    simp? [box]
    refine ⟨by decide, a, 5, rfl, by decide, by decide, fun a u u0 u1 => ?_⟩
    simp? [box]
    have hu : u = 0 ∨ u = 1 ∨ u = 2 ∨ u = 3 ∨ u = 4 := by omega
    obtain ⟨z, ez, z0, z9⟩ : ∃ z : Int, atI [D.int 0, D.int 0, D.int x0, D.int x1, D.int (1 + t)] u = some (.int z) ∧ 0 ≤ z ∧ z ≤ 9 := by
      rcases hu with rfl | rfl | rfl | rfl | rfl
      · exact ⟨0, rfl, by omega, by omega⟩
      · exact ⟨0, rfl, by omega, by omega⟩
      · exact ⟨x0, rfl, by omega, by omega⟩
      · exact ⟨x1, rfl, by omega, by omega⟩
      · exact ⟨1 + t, rfl, by omega, by omega⟩
    refine ⟨_, ez, ?_⟩
    simp? []
    exact q _ z z0 z9
  unfold w_law_field_6
  simp? [il, box]
  by_cases c : way = 0
  · refine itY c ?_
    exact seven a
  · refine itN c ?_
    refine ⟨a, 7, rfl, by decide, by decide, fun a t t0 t1 => ?_⟩
    simp? [box]
    by_cases c : t = 6
    · refine itY c ?_
      exact seven a
    · refine itN c ?_
      exact q a v v0 v9
theorem lf_cell {Ex : XD} {KK : DEnds} {a w h mid way : Int} {c : Nat} {xs cs : List Int} {d1 d9 d10 d11 d12 : D} (hl : xs.length = 4) (hx : ∀ x ∈ xs, 1 ≤ x ∧ x ≤ 9) (w1 : 1 ≤ w) (w8 : w ≤ 8) (c64 : c < 64) (cl : cs.length = c)
    (q : ∀ (a v : Int) (d9 d10 d11 : D), 0 ≤ v → v ≤ 9 → KK.nx [box a, d1, .int w, .int h, il .own xs, .int way, .int mid, il .own (cs ++ [v]), .int (c : Int), d9, d10, d11, d12]) :
    wsS (w_law_field_4 Ex) (wsS (w_law_field_5 Ex) (wsS (w_law_field_6 Ex) (w_law_field_8 Ex))) KK [box a, d1, .int w, .int h, il .own xs, .int way, .int mid, il .own cs, .int (c : Int), d9, d10, d11, d12] := by
  have big : (1000002 : Nat) ≤ sizeLine := by decide
  have lw : w.natAbs.log2 < 9000 := by
    have : w.natAbs ≤ 8 := by omega
    exact Nat.lt_of_le_of_lt (Nat.log2_le_self _) (by omega)
  unfold w_law_field_4
  simp? []
  have m0 := Int.emod_nonneg (c : Int) (show w ≠ 0 by omega)
  have m1 := Int.emod_lt_of_pos (c : Int) (show 0 < w by omega)
  refine ⟨⟨by omega, lw⟩, by omega, mulW 4 4 (by decide) (by decide) (by omega) (by omega) (by decide), ?_⟩
  refine lf_number (Ex := Ex) hl hx (by split <;> simp) fun v v0 v9 => ?_
  show w_law_field_6 Ex _ _
  refine lf_other (Ex := Ex) hl hx v0 v9 fun a v v0 v9 => ?_
  unfold w_law_field_8 il
  simp? []
  refine ⟨by omega, ?_⟩
  have := q a v (.int ((c : Int) / w)) (.int (if decide (w ≤ 2 * ((c : Int) % w)) = true then 1 else 0)) (.int v) v0 v9
  unfold il at this
  rw [List.map_append] at this
  exact this
theorem lf_some {Ex : XD} {KK : DEnds} {a : Int} {d1 d2 d3 d4 d5 d6 d7 d8 d9 d10 d11 : D} (q : ∀ (a : Int) (xs : List Int) (v : Int), xs.length = 4 → (∀ x ∈ xs, 1 ≤ x ∧ x ≤ 9) → 0 ≤ v → v < 4 → KK.nx [box a, d1, d2, d3, il .own xs, .int v, d6, d7, d8, d9, d10, d11, .gone]) :
    w_law_field_1 Ex KK [box a, d1, d2, d3, d4, d5, d6, d7, d8, d9, d10, d11, .gone] := by
  have big : (1000002 : Nat) ≤ sizeLine := by decide
  unfold w_law_field_1
  simp? []
  refine ⟨by decide, by decide, by decide, ?_⟩
  refine lcL_inv (fun i acc ρ => ∃ (a : Int) (xs : List Int), acc = xs.map D.int ∧ xs.length = i ∧ (∀ x ∈ xs, 1 ≤ x ∧ x ≤ 9) ∧ ρ = [box a, d1, d2, d3, d4, d5, d6, d7, d8, d9, d10, d11, .gone]) ⟨a, [], rfl, rfl, (fun _ h => by cases h), rfl⟩ ?_ ?_
  · rintro i its acc ρ K hi ⟨a, xs, rfl, hl, hx, rfl⟩ hk
    obtain ⟨rfl, hi2⟩ := rg_item hi
    unfold box
    simp? []
    refine ⟨a, 9, rfl, by decide, by decide, fun a t t0 t1 => ?_⟩
    simp? [box]
    refine hk _ _ ⟨a, xs ++ [1 + t], by rw [List.map_append]; rfl, by simp [hl], fun x hx2 => ?_, rfl⟩
    rcases List.mem_append.mp hx2 with h | h
    · exact hx x h
    · rw [List.mem_singleton] at h; subst h; omega
  · rintro acc ρ ⟨a, xs, rfl, hl, hx, rfl⟩
    unfold box
    simp? []
    refine ⟨a, 4, rfl, by decide, by decide, fun a v v0 v1 => ?_⟩
    simp? [box]
    exact q a xs v hl hx v0 v1
theorem r_law_field : Tells S_law_field [true, true] 11 w_law_field := by
  rintro ds Q E ⟨a, m, rfl, m1, m8, h2⟩
  have big : (1000002 : Nat) ≤ sizeLine := by decide
  show w_law_field _ _ [box a, .int m, .gone, .gone, .gone, .gone, .gone, .gone, .gone, .gone, .gone, .gone, .gone]
  generalize (fun (c : Str) (ns : List Int) ρ => E c ns (outs [true, true] ρ)) = Ex
  unfold w_law_field w_law_field_0 box
  simp? []
  refine ⟨a, m, rfl, by omega, by omega, fun a w w0 w1 => ?_⟩
  simp? [box]
  refine ⟨a, m, rfl, by omega, by omega, fun a hh h0 h1 => ?_⟩
  simp? [box]
  refine lf_some (Ex := Ex) fun a xs way hl hx v0 v3 => ?_
  unfold w_law_field_2 box il
  simp? []
  refine ⟨a, 1 + hh, rfl, by omega, by omega, fun a mid mi0 mi1 => ?_⟩
  simp? [box]
  unfold w_law_field_3
  simp? []
  have hm : CMulW (1 + w) (1 + hh) := mulW 4 4 (by omega) (by omega) (by omega) (by omega) (by decide)
  have mz : 0 ≤ (1 + w) * (1 + hh) ∧ (1 + w) * (1 + hh) ≤ 64 := by
    constructor
    · exact Int.mul_nonneg (by omega) (by omega)
    · calc (1 + w) * (1 + hh) ≤ 8 * 8 := Int.mul_le_mul (by omega) (by omega) (by omega) (by omega)
        _ = 64 := by decide
  refine ⟨Nat.zero_le _, hm, by omega, by omega, ?_⟩
  refine forL_inv (fun i ρ => ∃ (a : Int) (cs : List Int) (d8 d9 d10 d11 : D), cs.length = i ∧ (∀ x ∈ cs, 0 ≤ x ∧ x ≤ 9) ∧ ρ = [box a, .int m, .int (1 + w), .int (1 + hh), il .own xs, .int way, .int mid, il .own cs, d8, d9, d10, d11, .gone]) ⟨a, [], _, _, _, _, rfl, (fun _ h => by cases h), rfl⟩ ?_ ?_
  · rintro i its ρ K hi ⟨a, cs, d8, d9, d10, d11, hc, hx2, rfl⟩ hk
    obtain ⟨rfl, hi2⟩ := rg_item hi
    simp? []
    refine lf_cell (Ex := Ex) (h := 1 + hh) hl hx (by omega) (by omega) (by omega) hc fun a v d9 d10 d11 v0 v9 => ?_
    refine hk _ ⟨a, cs ++ [v], _, _, _, _, by simp [hc], fun x hx3 => ?_, rfl⟩
    rcases List.mem_append.mp hx3 with h | h
    · exact hx2 x h
    · rw [List.mem_singleton] at h; subst h; omega
  · rintro ρ ⟨a, cs, d8, d9, d10, d11, hc, hx2, rfl⟩
    have hc2 : (cs.length : Int) = (1 + w) * (1 + hh) := by
      rw [hc]; unfold rgL
      rw [List.length_map, List.length_range]; omega
    unfold w_law_field_9 il
    simp? []
    refine ⟨by decide, ?_⟩
    exact h2 a (1 + w) cs ⟨by omega, by omega, ⟨1 + hh, by omega, by omega, hc2⟩, hx2⟩
theorem okP_2 {a b : D} {n : Nat} (ha : okP a n) (hb : okP b n) : okP (.tup [a, b]) (n + 1) := okP_tup fun d hd => by
  simp only [List.mem_cons, List.not_mem_nil, or_false] at hd
  rcases hd with rfl | rfl
  · exact ha
  · exact hb
theorem okP_3 {a b c : D} {n : Nat} (ha : okP a n) (hb : okP b n) (hc : okP c n) : okP (.tup [a, b, c]) (n + 1) := okP_tup fun d hd => by
  simp only [List.mem_cons, List.not_mem_nil, or_false] at hd
  rcases hd with rfl | rfl | rfl
  · exact ha
  · exact hb
  · exact hc
theorem okP_tl {xs : List Int} {n : Nat} : okP (.tup (xs.map D.int)) (n + 1) := okP_tup okP_ints
theorem okP_word {s : Str} {n : Nat} (h : s = "leap" ∨ s = "slow") : okP (.str s) n := by
  rcases h with rfl | rfl <;> exact ⟨by rw [D.py, PyData.canLay0]; kernel_rfl, by simp [D.py, PyData.depth]⟩
theorem okP_cg {day : Int} {sort : Str} {ks : List Int} {n : Nat} (h : sort = "leap" ∨ sort = "slow") : okP (cg day sort ks) (n + 2) := okP_3 okP_int (okP_word h) okP_tl
theorem okP_tg {n : Int} {t : Tlg} (h : tgOk n t) : okP (tgD t) 4 := okP_2 (n := 3) ⟨rfl, by simp [D.py, PyData.depth]⟩ (okP_cg (n := 1) h.2.2.sort)
theorem shp_tgs {m : M} {n : Int} {T : List Tlg} (h : ∀ t ∈ T, tgOk n t) : shp (.lst m (T.map tgD)) := shp_of (n := 5) (okP_lst fun d hd => by
  obtain ⟨t, ht, rfl⟩ := List.mem_map.mp hd
  exact okP_tg (h t ht)) (by decide)
theorem okP_mk {k : Mrk} {n : Nat} : okP (mkD k) (n + 1) := okP_3 (n := n) ⟨rfl, by simp [D.py, PyData.depth]⟩ ⟨rfl, by simp [D.py, PyData.depth]⟩ ⟨rfl, by simp [D.py, PyData.depth]⟩
theorem cs_shp {m1 m2 : M} {w p : Int} {cs : List Int} {T : List Tlg} {K : List Mrk} (h : csOk w cs p T K) : shp (csD m1 m2 w cs p T K) := shp_of (n := 6) (okP_tup fun d hd => by
  simp only [List.mem_cons, List.not_mem_nil, or_false] at hd
  rcases hd with rfl | rfl | rfl | rfl
  · exact okP_2 (n := 4) ⟨rfl, by simp [D.py, PyData.depth]⟩ okP_tl
  · exact ⟨rfl, by simp [D.py, PyData.depth]⟩
  · exact okP_lst fun d hd => by
      obtain ⟨t, ht, rfl⟩ := List.mem_map.mp hd
      exact okP_tg (h.te t ht)
  · exact okP_lst fun d hd => by
      obtain ⟨t, ht, rfl⟩ := List.mem_map.mp hd
      exact okP_mk) (by decide)
theorem fOk.pos {w : Int} {cs : List Int} (h : fOk w cs) : 1 ≤ cs.length ∧ cs.length ≤ 64 := by
  obtain ⟨h1, h2, ⟨r, h3, h4, h5⟩, h6⟩ := h
  have hw : w = 1 ∨ w = 2 ∨ w = 3 ∨ w = 4 ∨ w = 5 ∨ w = 6 ∨ w = 7 ∨ w = 8 := by omega
  rcases hw with rfl | rfl | rfl | rfl | rfl | rfl | rfl | rfl <;> omega
theorem tg_frz (t : Tlg) : (tgD t).frz = tgD t := by
  unfold tgD cgC cg tl
  simp only [D.frz, frzs, ints_frz]
theorem tgs_frz : ∀ T : List Tlg, frzs (T.map tgD) = T.map tgD
  | [] => rfl
  | t :: r => by rw [List.map_cons, frzs, tg_frz, tgs_frz r]
theorem mks_frz : ∀ K : List Mrk, frzs (K.map mkD) = K.map mkD
  | [] => rfl
  | t :: r => by rw [List.map_cons, frzs, mks_frz r]; rfl
theorem ls_len {s : Str} (h : s = "leap" ∨ s = "slow") : s.length = 4 := by
  rcases h with rfl | rfl <;> decide +kernel
theorem ls_sok {s : Str} (h : s = "leap" ∨ s = "slow") : PyData.strOk s = true := by
  rcases h with rfl | rfl <;> decide +kernel
theorem sm_int {i : Int} : sm (.int i) := ⟨0, trivial⟩
theorem smN_up : ∀ (n m : Nat) (d : D), n ≤ m → smN n d → smN m d := by
  intro n
  induction n with
  | zero =>
    intro m d _ h
    cases d with
    | lst k ds => cases k <;> exact False.elim h
    | dct k ks ds => cases k <;> first | (cases m <;> exact h) | exact False.elim h
    | _ => first | (cases m <;> exact h) | exact False.elim h
  | succ n ih =>
    intro m d hm h
    obtain ⟨k, rfl⟩ : ∃ k, m = k + 1 := ⟨m - 1, by omega⟩
    cases d with
    | tup ds => exact ⟨h.1, fun x hx => ih k x (by omega) (h.2 x hx)⟩
    | lst k2 ds => cases k2 <;> first | exact ⟨h.1, fun x hx => ih k x (by omega) (h.2 x hx)⟩ | exact False.elim h
    | dct k2 ks ds => cases k2 <;> first | exact h | exact False.elim h
    | _ => first | exact h | exact False.elim h
theorem sm_up : ∀ (ds : List D), (∀ d ∈ ds, sm d) → ∃ n, ∀ d ∈ ds, smN n d
  | [], _ => ⟨0, fun _ h => nomatch h⟩
  | d :: r, h => by
    obtain ⟨a, ha⟩ := h d List.mem_cons_self
    obtain ⟨b, hb⟩ := sm_up r fun x hx => h x (List.mem_cons_of_mem _ hx)
    refine ⟨max a b, fun x hx => ?_⟩
    rcases List.mem_cons.mp hx with rfl | hx
    · exact smN_up _ _ _ (Nat.le_max_left _ _) ha
    · exact smN_up _ _ _ (Nat.le_max_right _ _) (hb x hx)
theorem sm_tup {ds : List D} (l : ds.length ≤ 500000) (h : ∀ d ∈ ds, sm d) : sm (.tup ds) := by
  obtain ⟨n, hn⟩ := sm_up ds h
  exact ⟨n + 1, l, hn⟩
theorem sm_ints {xs : List Int} (l : xs.length ≤ 500000) : sm (.tup (xs.map D.int)) := sm_tup (by rw [List.length_map]; exact l) fun d hd => by
  obtain ⟨i, _, rfl⟩ := List.mem_map.mp hd
  exact sm_int
theorem sm_s {s : Str} (h : PyData.strOk s = true) (l : s.length ≤ 2000) : sm (.str s) := ⟨0, h, l⟩
theorem sm_cg {c : Chg} (h : PyData.strOk c.2.1 = true) (l : c.2.1.length ≤ 2000) (l2 : c.2.2.length ≤ 500000) : sm (cgC c) := sm_tup (by simp) fun d hd => by
  simp only [List.mem_cons, List.not_mem_nil, or_false] at hd
  rcases hd with rfl | rfl | rfl
  · exact sm_int
  · exact sm_s h l
  · exact sm_ints l2
theorem chOk.sm {n : Int} {c : Chg} (h : chOk n c.1 c.2.1 c.2.2) : sm (cgC c) := sm_cg (ls_sok h.sort) (by have := ls_len h.sort; omega) (by have := h.few; omega)
theorem tgOk.sm {n : Int} {t : Tlg} (h : tgOk n t) : sm (tgD t) := sm_tup (by simp) fun d hd => by
  simp only [List.mem_cons, List.not_mem_nil, or_false] at hd
  rcases hd with rfl | rfl
  · exact sm_int
  · exact h.2.2.sm
theorem sm_bl {b : Bool} : sm (.bl b) := ⟨0, trivial⟩
theorem mk_sm {k : Mrk} : sm (mkD k) := sm_tup (by simp) fun d hd => by
  simp only [List.mem_cons, List.not_mem_nil, or_false] at hd
  rcases hd with rfl | rfl | rfl
  · exact sm_int
  · exact sm_int
  · exact sm_bl
theorem sm_fld {w : Int} {cs : List Int} (h : cs.length ≤ 500000) : sm (fld w cs) := sm_tup (by simp) fun d hd => by
  simp only [List.mem_cons, List.not_mem_nil, or_false] at hd
  rcases hd with rfl | rfl
  · exact sm_int
  · exact sm_ints h
theorem m_oo : (M.own != M.own) = false := rfl
theorem m_so : (M.shr != M.own) = true := rfl
theorem all_true {β : Type} (l : List β) : (l.map fun _ => true).all id = true := by
  induction l with
  | nil => rfl
  | cons x r ih => rw [List.map_cons, List.all_cons, ih]; rfl
theorem fOk.len {w : Int} {cs : List Int} (h : fOk w cs) : 1 ≤ cs.length ∧ cs.length ≤ 64 := by
  obtain ⟨h1, h8, ⟨r, r1, r8, e⟩, _⟩ := h
  have := Int.mul_le_mul h8 r8 (by omega) (by omega)
  have := Int.mul_le_mul h1 r1 (by omega) (by omega)
  omega
local macro_rules
  | `(tactic| simp? [$xs,*] $[$l:location]?) => `(tactic| simp only [wsR, wsX, wsA, wsI, wsN, wsRN, wsBk, wsCt, wsP, wsS, wsF, wsW, wAndV, wOrV, wNotV, wIf, wNeg, wCall, wBc, wBn, wCons, wNil, wTup, wLst, wOp, wCh, Bd.wT, wTr, wMn, wMe, wMe0, apF, popF, mtD, wPm, isTupD, cntF, ssF, lsF, wPA, wPC, reprF, wIxN, popAtF, extF, wTrg, wLcN, wiZN, wsP3, wDct0, frzs_enc2, solids_enc2, solid_enc2, wBack, backD, intF, minPF, wAnd, wOr, Bd.wNot, wYes, wSl, wSo, wNo, wN_eq, wV_eq, wM_eq, getD0, getDs, nB_non, nB_bl, nB_int, nB_str, nB_opq, nB_own, nB_shr, nB_con, nB_down, nB_dshr, nB_dcon, nB_tup, nB_nown, nB_nshr, nB_ncon, nE_nown, nE_nshr, nE_ncon, nM_nown, nM_nshr, nM_ncon, nE_non, nE_bl, nE_int, nE_str, nE_opq, nE_own, nE_shr, nE_con, nE_down, nE_dshr, nE_dcon, nE_tup, nM_non, nM_bl, nM_int, nM_str, nM_opq, nM_own, nM_shr, nM_con, nM_down, nM_dshr, nM_dcon, nM_tup, wB, wC, c1, c2, isiF, lenF, sumF, maxF, minF, max2F, min2F, absF, divF, listF, tupF, sortF, allF, anyF, addD, mulD, Bd.intD, intD0, isB, truW, gb, gbs, outs, gN, gi1, gsC, gsN, gT, gS, gSn, evL, takeL, wBL, th_lst, th_dct, th_tup, th_int, th_bl, th_str, th_non, th_opq, setD, ixD, slD, isD, wCallF, wLc, wiS, wiZ, wiE, wiR1, wiR2, wiR3, seqQ, solids, D.solid, ints_solid, ints_frz, frzs, D.frz, List.set_cons_zero, List.set_cons_succ, if_true, if_false, Bool.false_eq_true, true_and, and_true, ite_true, ite_false, List.cons_append, List.nil_append, wipeD, reduceIte, List.length_cons, List.length_nil, reduceCtorEq, tyN_bool, tyN_int, tyN_str, tyN_tuple, tyN_list, tyN_dict, tyS_non, tyS_bl, tyS_int, tyS_str, tyS_tup, tyS_lst, tyS_dct, isi_non_bool, isi_non_int, isi_non_str, isi_non_tuple, isi_non_list, isi_non_dict, isi_bl_bool, isi_bl_int, isi_bl_str, isi_bl_tuple, isi_bl_list, isi_bl_dict, isi_int_bool, isi_int_int, isi_int_str, isi_int_tuple, isi_int_list, isi_int_dict, isi_str_bool, isi_str_int, isi_str_str, isi_str_tuple, isi_str_list, isi_str_dict, isi_tup_bool, isi_tup_int, isi_tup_str, isi_tup_tuple, isi_tup_list, isi_tup_dict, isi_lst_bool, isi_lst_int, isi_lst_str, isi_lst_tuple, isi_lst_list, isi_lst_dict, isi_dct_bool, isi_dct_int, isi_dct_str, isi_dct_tuple, isi_dct_list, isi_dct_dict, List.length_map, Bool.not_true, Bool.not_false, eqD, neD, eqTx, neTx, dec_if, dec_ifn, Bool.not_not, at0, at1, at2, ix0, ix1, ix2, Bd.ints_map, Bd.bls_map, Option.some.injEq, exists_eq_left', memD_lst, memD_tup, memD_str, isIn_nil, isIn_cons, isIn_ints, scal_int, scal_str, scal_bl, scal_non, scals_nil, scals_cons, scals_ints, shp_l1i, shp_l2i, shp_l3i, shp_t1i, shp_t2i, shp_t3i, dec_or, dec_orf, Bool.and_self, shp_non, shp_bl, shp_int, shp_tints, shp_lints, shp_tnil, shp_lnil, eqd_int, eqd_str, eqd_bl, eqd_non, eqd_tints, eqd_lints, eqd_lnil, eqd_tnil, shp_lenc, shp_tenc, List.map_eq_nil_iff, dI, wSortK, wDct1, c3, min3F, max3F, int3, wPick, wiSN, zipLF, reprOF, wStep, stepD, ssGF, wLrg1, wLrg2, wTrg2, wTrg3, wFl, wOpFl, wFlMe, wFlMe0, wsFlS, wsFlN, wMeth, wMkV, wSaidM, isIns_eq, nB_ins, nM_ins, $xs,*] $[$l]?)
local macro_rules
  | `(tactic| simp?! [$xs,*] $[$l:location]?) => `(tactic| simp (config := { maxSteps := 5000000 }) only [wsR, wsX, wsA, wsI, wsN, wsRN, wsBk, wsCt, wsP, wsS, wsF, wsW, wAndV, wOrV, wNotV, wIf, wNeg, wCall, wBc, wBn, wCons, wNil, wTup, wLst, wOp, wCh, Bd.wT, wTr, wMn, wMe, wMe0, apF, popF, mtD, wPm, isTupD, cntF, ssF, lsF, wPA, wPC, reprF, wIxN, popAtF, extF, wTrg, wLcN, wiZN, wsP3, wDct0, frzs_enc2, solids_enc2, solid_enc2, wBack, backD, intF, minPF, wAnd, wOr, Bd.wNot, wYes, wSl, wSo, wNo, wN_eq, wV_eq, wM_eq, getD0, getDs, nB_non, nB_bl, nB_int, nB_str, nB_opq, nB_own, nB_shr, nB_con, nB_down, nB_dshr, nB_dcon, nB_tup, nB_nown, nB_nshr, nB_ncon, nE_nown, nE_nshr, nE_ncon, nM_nown, nM_nshr, nM_ncon, nE_non, nE_bl, nE_int, nE_str, nE_opq, nE_own, nE_shr, nE_con, nE_down, nE_dshr, nE_dcon, nE_tup, nM_non, nM_bl, nM_int, nM_str, nM_opq, nM_own, nM_shr, nM_con, nM_down, nM_dshr, nM_dcon, nM_tup, wB, wC, c1, c2, isiF, lenF, sumF, maxF, minF, max2F, min2F, absF, divF, listF, tupF, sortF, allF, anyF, addD, mulD, Bd.intD, intD0, isB, truW, gb, gbs, outs, gN, gi1, gsC, gsN, gT, gS, gSn, evL, takeL, wBL, th_lst, th_dct, th_tup, th_int, th_bl, th_str, th_non, th_opq, setD, ixD, slD, isD, wCallF, wLc, wiS, wiZ, wiE, wiR1, wiR2, wiR3, seqQ, solids, D.solid, ints_solid, ints_frz, frzs, D.frz, List.set_cons_zero, List.set_cons_succ, if_true, if_false, Bool.false_eq_true, true_and, and_true, ite_true, ite_false, List.cons_append, List.nil_append, wipeD, reduceIte, List.length_cons, List.length_nil, reduceCtorEq, tyN_bool, tyN_int, tyN_str, tyN_tuple, tyN_list, tyN_dict, tyS_non, tyS_bl, tyS_int, tyS_str, tyS_tup, tyS_lst, tyS_dct, isi_non_bool, isi_non_int, isi_non_str, isi_non_tuple, isi_non_list, isi_non_dict, isi_bl_bool, isi_bl_int, isi_bl_str, isi_bl_tuple, isi_bl_list, isi_bl_dict, isi_int_bool, isi_int_int, isi_int_str, isi_int_tuple, isi_int_list, isi_int_dict, isi_str_bool, isi_str_int, isi_str_str, isi_str_tuple, isi_str_list, isi_str_dict, isi_tup_bool, isi_tup_int, isi_tup_str, isi_tup_tuple, isi_tup_list, isi_tup_dict, isi_lst_bool, isi_lst_int, isi_lst_str, isi_lst_tuple, isi_lst_list, isi_lst_dict, isi_dct_bool, isi_dct_int, isi_dct_str, isi_dct_tuple, isi_dct_list, isi_dct_dict, List.length_map, Bool.not_true, Bool.not_false, eqD, neD, eqTx, neTx, dec_if, dec_ifn, Bool.not_not, at0, at1, at2, ix0, ix1, ix2, Bd.ints_map, Bd.bls_map, Option.some.injEq, exists_eq_left', memD_lst, memD_tup, memD_str, isIn_nil, isIn_cons, isIn_ints, scal_int, scal_str, scal_bl, scal_non, scals_nil, scals_cons, scals_ints, shp_l1i, shp_l2i, shp_l3i, shp_t1i, shp_t2i, shp_t3i, dec_or, dec_orf, Bool.and_self, shp_non, shp_bl, shp_int, shp_tints, shp_lints, shp_tnil, shp_lnil, eqd_int, eqd_str, eqd_bl, eqd_non, eqd_tints, eqd_lints, eqd_lnil, eqd_tnil, shp_lenc, shp_tenc, List.map_eq_nil_iff, dI, wSortK, wDct1, c3, min3F, max3F, int3, wPick, wiSN, zipLF, reprOF, wStep, stepD, ssGF, wLrg1, wLrg2, wTrg2, wTrg3, wFl, wOpFl, wFlMe, wFlMe0, wsFlS, wsFlN, wMeth, wMkV, wSaidM, isIns_eq, nB_ins, nM_ins, $xs,*] $[$l]?)
theorem nE_bad {d : D} (h : bad d) {i : Nat} {ρ : List D} {Q : D → List D → Prop} (hr : ρ[i]? = some d) : nE d i ρ Q = Q d ρ := by
  obtain ⟨h1, h2⟩ := h
  have s := set_same hr
  have f := frz_of_solid d h1
  cases d with
  | gone => cases h2
  | tup es =>
    rw [D.frz] at f
    injection f with f
    simp only [nE, f, s]
  | lst m es => cases m <;> first | rfl | cases h1
  | dct m ks es => cases m <;> first | rfl | cases h1
  | ndc m ks es => cases h2
  | ldc => cases h2
  | ins => cases h2
  | _ => rfl
theorem r_with_one : Tells S_with_one [true, true, true] 0 w_with_one := by
  rintro ds Q E ⟨m, xs, d, n, rfl, hm, hs, h1, h2, h3, h4, hT, hM, hQ⟩
  have big : (1000 : Nat) ≤ sizeLine := by decide
  show w_with_one _ _ [.lst m xs, d, .int (n : Int)]
  generalize hEx : (fun (c : Str) (ns : List Int) ρ => E c ns (outs [true, true, true] ρ)) = Ex
  have fx : frzs xs = xs := frzs_of_solid _ hs
  have fd : d.frz = d := frz_of_solid _ h3.1
  have hT' : isIn d xs = true → Ex "There" [] [.lst m xs, d, .int (n : Int)] := fun h => by rw [← hEx]; exact hT h
  have hM' : isIn d xs = false → xs.length = n → Ex "TooMany" [(n : Int) + 1, n] [.lst m xs, d, .int (n : Int)] := fun h k => by rw [← hEx]; exact hM h k
  unfold w_with_one w_with_one_0
  rcases hm with rfl | rfl
  all_goals
    simp? [nB_bad h3, h1, h2]
    cases e : isIn d xs with
    | true =>
      simp? []
      unfold w_with_one_1
      exact hT' e
    | false =>
      simp? []
      unfold w_with_one_2
      simp? []
      by_cases k : xs.length = n
      · have k' : ((xs.length : Nat) : Int) = (n : Int) := by omega
        simp? [k']
        unfold w_with_one_3
        simp? []
        exact ⟨_, _, rfl, hM' e k⟩
      · have k' : ¬ (((xs.length : Nat) : Int) = (n : Int)) := by omega
        simp? [k']
        unfold w_with_one_4
        simp? [fd, fx]
        rw [nE_bad h3 rfl]
        refine ⟨by omega, by decide, by decide, by omega, ?_⟩
        simp? [fd]
        exact hQ e k
theorem r_without_one : Tells S_without_one [true, true] 1 w_without_one := by
  rintro ds Q E ⟨m, xs, d, rfl, hm, hs, h1, hx, h2, h3, h4, hG, hQ⟩
  have big : (1000 : Nat) ≤ sizeLine := by decide
  show w_without_one _ _ [.lst m xs, d, .gone]
  generalize hEx : (fun (c : Str) (ns : List Int) ρ => E c ns (outs [true, true] ρ)) = Ex
  have fx : frzs xs = xs := frzs_of_solid _ hs
  have fd : d.frz = d := frz_of_solid _ h3.1
  have hG' : isIn d xs = false → Ex "Gone" [] [.lst m xs, d, .gone] := fun h => by rw [← hEx]; exact hG h
  unfold w_without_one w_without_one_0
  rcases hm with rfl | rfl
  all_goals
    simp? [nB_bad h3, h1, h2]
    cases e : isIn d xs with
    | false =>
      simp? []
      unfold w_without_one_1
      exact hG' e
    | true =>
      simp? []
      unfold w_without_one_2
      simp? [fx]
      refine ⟨by rw [ones, List.length_map]; omega, ?_⟩
      refine lcL_fmL (fun x : D => [x]) (fun x => !eqd x d) (fun x => x) ?_ ?_
      · intro x hxm K K2 h1 h2'
        have bx := (hx x hxm).2
        have sx := (hx x hxm).1
        simp? [nB_bad bx, nB_bad h3, sx, h2]
        cases e2 : !eqd x d with
        | true =>
          simp? []
          rw [nE_bad bx rfl]
          simp? []
          exact h1 e2
        | false =>
          simp? []
          exact h2' e2
      · simp? []
        rw [List.map_id']
        exact hQ e
theorem r_need_day : Tells S_need_day [true] 0 w_need_day := by
  rintro ds Q E ⟨d, rfl, hd, h3, h4⟩
  show w_need_day _ _ [d]
  have hb := hd.b
  unfold w_need_day w_need_day_0
  simp? [nB_bad hb]
  refine ⟨d, 0, 999, rfl, hb.2, ?_⟩
  cases e : isWhole d 0 999 with
  | true => simp? []; exact h3 e
  | false => simp? []; unfold w_need_day_1; exact h4 e
theorem r_need_cell : Tells S_need_cell [true, true] 0 w_need_cell := by
  rintro ds Q E ⟨w, cs, d, rfl, hf, hd, h3, h4⟩
  show w_need_cell _ _ [fld w cs, d]
  have hb := hd.b
  unfold w_need_cell w_need_cell_0 fld
  simp? [nB_bad hb]
  refine ⟨w, cs, d, rfl, hf, hb, ?_⟩
  cases e : isWhole d 0 ((cs.length : Int) - 1) with
  | true => simp? [fld]; exact h3 e
  | false => simp? [fld]; unfold w_need_cell_1; exact h4 e
theorem bls_tr {β : Type} (l : List β) : bls? (l.map fun _ => D.bl true) = some (l.map fun _ => true) := by
  rw [show (l.map fun _ => D.bl true) = (l.map fun _ => true).map D.bl by rw [List.map_map]; rfl]
  exact bls_map _
theorem case_last {Ex : XD} {KK : DEnds} {w p : Int} {cs : List Int} {T : List Tlg} {K : List Mrk} {d5 : D} (h : csOk w cs p T K) (q : KK.rt (.bl true) [csD .shr .shr w cs p T K, fld w cs, .int p, .lst .shr (T.map tgD), .lst .shr (K.map mkD), .gone]) :
    w_is_case_7 Ex KK [csD .shr .shr w cs p T K, fld w cs, .int p, .lst .shr (T.map tgD), .lst .shr (K.map mkD), .gone] := by
  have big : (1000 : Nat) ≤ sizeLine := by decide
  have tl := h.tl
  have kl := h.kl
  unfold w_is_case_7 fld
  simp? [tgs_frz, mks_frz, ones_map]
  refine ⟨by omega, ?_⟩
  refine lcL_mapL (fun t : Tlg => [tgD t]) (fun _ => .bl true) ?_ ?_
  · intro t ht K hK
    have e : isTg cs.length (tgD t) := ⟨t, rfl, h.te t ht⟩
    simp? [tgD, cgC, cg, K73.tl]
    refine ⟨w, cs, tgD t, rfl, h.f, (h.te t ht).sm, ?_⟩
    simp? [tgD, cgC, cg, K73.tl, fld]
    have e2 : tF (isTg cs.length (tgD t)) = true := tF_t e
    simp only [tgD, cgC, cg, K73.tl] at e2
    rw [e2]
    exact hK
  · rw [List.nil_append]
    refine ⟨_, bls_tr T, ?_⟩
    rw [all_true]
    simp? [truW, tgs_frz, mks_frz, ones_map]
    refine ⟨by omega, ?_⟩
    refine lcL_mapL (fun k : Mrk => [mkD k]) (fun _ => .bl true) ?_ ?_
    · intro k hk K hK
      have e : isMk cs.length (mkD k) := ⟨k, rfl, h.ke k hk⟩
      simp? [mkD]
      refine ⟨w, cs, mkD k, rfl, h.f, mk_sm, ?_⟩
      simp? [mkD, fld]
      have e2 : tF (isMk cs.length (mkD k)) = true := tF_t e
      simp only [mkD] at e2
      rw [e2]
      exact hK
    · rw [List.nil_append]
      refine ⟨_, bls_tr K, ?_⟩
      rw [all_true]
      exact q
theorem case_rest {Ex : XD} {KK : DEnds} {w p : Int} {cs : List Int} {T : List Tlg} {K : List Mrk} (h : csOk w cs p T K) (q : KK.rt (.bl true) [csD .shr .shr w cs p T K, fld w cs, .int p, .lst .shr (T.map tgD), .lst .shr (K.map mkD), .gone]) :
    wsS (w_is_case_2 Ex) (wsS (w_is_case_3 Ex) (wsS (w_is_case_5 Ex) (w_is_case_7 Ex))) KK [csD .shr .shr w cs p T K, .gone, .gone, .gone, .gone, .gone] := by
  have tl := h.tl
  have kl := h.kl
  obtain ⟨p1, p9⟩ := h.pace
  unfold w_is_case_2 csD fld
  simp? [tgs_frz, mks_frz]
  unfold w_is_case_3
  simp? []
  refine ⟨.int p, 1, 9, rfl, rfl, ?_⟩
  have e1 : isWhole (.int p) 1 9 = true := by simp [isWhole, p1, p9]
  simp? [e1]
  unfold w_is_case_5
  simp? []
  rw [if_neg (by omega), if_neg (by omega)]
  exact case_last (d5 := .gone) h q
theorem sm_fOk {w : Int} {cs : List Int} (hf : fOk w cs) : sm (fld w cs) := sm_fld (by have := hf.len; omega)
theorem r_is_case : Tells S_is_case [true] 5 w_is_case := by
  rintro ds Q E ⟨m1, m2, w, cs, p, T, K, rfl, h1, h2, h, h3⟩
  show w_is_case _ _ [csD m1 m2 w cs p T K, .gone, .gone, .gone, .gone, .gone]
  generalize (fun (c : Str) (ns : List Int) ρ => E c ns (outs [true] ρ)) = Ex
  unfold w_is_case w_is_case_0 csD fld
  rcases h1 with rfl | rfl <;> rcases h2 with rfl | rfl
  all_goals
    simp? [m_oo, m_so, Bool.and_true, Bool.and_false, Bool.true_and, Bool.false_and]
    refine ⟨fld w cs, rfl, sm_fOk h.f, ?_⟩
    have e2 : tF (isF (fld w cs)) = true := tF_t ⟨w, cs, rfl, h.f⟩
    rw [e2]
    simp? [fld, tgs_frz, mks_frz]
    exact case_rest h h3
theorem r_need_case : Tells S_need_case [true] 0 w_need_case := by
  rintro ds Q E ⟨m1, m2, w, cs, p, T, K, rfl, h1, h2, h, h3⟩
  show w_need_case _ _ [csD m1 m2 w cs p T K]
  generalize (fun (c : Str) (ns : List Int) ρ => E c ns (outs [true] ρ)) = Ex
  unfold w_need_case w_need_case_0 csD fld
  rcases h1 with rfl | rfl <;> rcases h2 with rfl | rfl
  all_goals
    simp? [m_oo, m_so, Bool.and_true, Bool.and_false, Bool.true_and, Bool.false_and]
    refine ⟨_, _, w, cs, p, T, K, rfl, by simp [mOS], by simp [mOS], h, ?_⟩
    simp? [csD, fld, truW]
    exact h3
/-! the register's own -/
theorem r_Register_become : Tells S_Register_become [true, true, true] 0 w_Register_become := by
  rintro ds Q E ⟨pa, m1, m2, w, cs, p, s, P, a, b, s2, rfl, h1, h2, h3, h4, h, hQ⟩
  have big : (1000 : Nat) ≤ sizeLine := by decide
  have few := h.few
  show w_Register_become _ _ [rgD pa m1 m2 w cs p s P, .lst a (s2.1.map tgD), .lst b (s2.2.map mkD)]
  generalize (fun (c : Str) (ns : List Int) ρ => E c ns (outs [true, true, true] ρ)) = Ex
  unfold w_Register_become w_Register_become_0 rgD fld stD
  rcases h1 with rfl | rfl <;> rcases h2 with rfl | rfl <;> rcases h3 with rfl | rfl <;> rcases h4 with rfl | rfl
  all_goals
    simp? [tgs_frz, mks_frz]
    refine fun v => ⟨by rw [paD, List.length_map]; omega, rfl, ?_⟩
    unfold w_Register_become_1
    simp? [tgs_frz, mks_frz]
    refine ⟨by omega, ?_⟩
    simp only [rgD, paD, List.map_append, List.map_cons, List.map_nil, stD, fld] at hQ
    exact hQ
theorem r_Register__init : Tells S_Register__init [true, true, true] 0 w_Register__init := by
  rintro ds Q E ⟨pa, d, e, rfl, hd, he, hF, hP, hQ⟩
  have big : (1000 : Nat) ≤ sizeLine := by decide
  show w_Register__init _ _ [.ins pa "Register" [] [], d, e]
  generalize hEx : (fun (c : Str) (ns : List Int) ρ => E c ns (outs [true, true, true] ρ)) = Ex
  have hF' : ¬ isF d → Ex "NoField" [] [.ins pa "Register" [] [], d, e] := fun h => by rw [← hEx]; exact hF h
  have hP' : isF d → isWhole e 1 9 = false → Ex "NoPace" [] [.ins pa "Register" [] [], d, e] := fun h k => by rw [← hEx]; exact hP h k
  have bd := hd.b
  have be := he.b
  unfold w_Register__init w_Register__init_0
  simp? [nB_bad bd]
  refine ⟨d, rfl, hd, fun hf => ?_, fun hf => hF' hf⟩
  unfold w_Register__init_1
  simp? [nB_bad be]
  refine ⟨e, rfl, he, fun hw => ?_, fun hw => hP' hf hw⟩
  obtain ⟨w, cs, rfl, hfo⟩ := hf
  obtain ⟨p, rfl⟩ : ∃ p, e = .int p := by
    cases e <;> first | exact ⟨_, rfl⟩ | cases hw
  have hp : 1 ≤ p ∧ p ≤ 9 := by simpa [isWhole] using hw
  unfold w_Register__init_2 fld
  simp? []
  unfold w_Register__init_3
  simp? []
  unfold w_Register__init_4
  simp? []
  refine ⟨by omega, ?_⟩
  unfold w_Register__init_5
  simp? []
  refine ⟨by omega, by omega, by omega, ?_⟩
  exact hQ w cs p rfl hfo rfl hp.1 hp.2
theorem stD_okP {w : Int} {cs : List Int} {p : Int} {s : List Tlg × List Mrk} (h : csOk w cs p s.1 s.2) : okP (stD .shr .shr s) 6 := okP_tup fun d hd => by
  simp only [List.mem_cons, List.not_mem_nil, or_false] at hd
  rcases hd with rfl | rfl
  · exact okP_lst fun d hd => by
      obtain ⟨t, ht, rfl⟩ := List.mem_map.mp hd
      exact okP_tg (h.te t ht)
  · exact okP_lst fun d hd => by
      obtain ⟨k, hk, rfl⟩ := List.mem_map.mp hd
      exact okP_mk
theorem pa_shp {w : Int} {cs : List Int} {p : Int} {P : List (List Tlg × List Mrk)} (h : ∀ z ∈ P, csOk w cs p z.1 z.2) : shp (.lst .own (paD P)) := shp_of (n := 7) (okP_lst fun d hd => by
  obtain ⟨s, hs, rfl⟩ := List.mem_map.mp hd
  exact stD_okP (h s hs)) (by decide)
theorem r_Register_undo : Tells S_Register_undo [true] 0 w_Register_undo := by
  rintro ds Q E ⟨pa, m1, m2, w, cs, p, s, P, rfl, h1, h2, h, hN, hQ⟩
  have big : (1000 : Nat) ≤ sizeLine := by decide
  show w_Register_undo _ _ [rgD pa m1 m2 w cs p s P]
  generalize hEx : (fun (c : Str) (ns : List Int) ρ => E c ns (outs [true] ρ)) = Ex
  have hN' : P = [] → Ex "Nothing" [] [rgD pa m1 m2 w cs p s P] := fun e => by rw [← hEx]; exact hN e m1 m2 h1 h2
  have sh := pa_shp h.old
  unfold w_Register_undo w_Register_undo_0 rgD
  simp? [sh]
  refine fun v => ⟨by omega, rfl, ?_⟩
  by_cases hP : P = []
  · subst hP
    refine itY rfl ?_
    unfold w_Register_undo_1
    exact hN' rfl
  · refine itN (fun z => hP (List.map_eq_nil_iff.mp z)) ?_
    obtain ⟨P0, s0, rfl⟩ : ∃ P0 s0, P = P0 ++ [s0] := ⟨P.dropLast, P.getLast hP, (List.dropLast_concat_getLast hP).symm⟩
    have e : paD (P0 ++ [s0]) = paD P0 ++ [stD .shr .shr s0] := by simp [paD]
    rw [e]
    unfold w_Register_undo_2
    simp? []
    refine ⟨stD .shr .shr s0, by simp, ?_⟩
    rw [List.dropLast_concat]
    exact hQ P0 s0 rfl .shr .shr (.inr rfl) (.inr rfl)
/-! told in order -/
theorem tgD_py (t : Tlg) : (tgD t).py = .tuple [.int t.1, .tuple [.int t.2.1, .str t.2.2.1, .tuple (t.2.2.2.map PyData.int)]] := by
  simp only [tgD, cgC, cg, K73.tl, D.py, pys]
  rw [pys_map, List.map_map]
  rfl
theorem mkD_py (k : Mrk) : (mkD k).py = .tuple [.int k.1, .int k.2.1, .bool k.2.2] := by
  simp only [mkD, D.py, pys]
theorem tgs_alike {L : List Tlg} : alikeD (L.map tgD) := fun d hd d' hd' => by
  obtain ⟨x, hx, rfl⟩ := List.mem_map.mp hd
  obtain ⟨c, _, rfl⟩ := List.mem_map.mp hx
  obtain ⟨x', hx', rfl⟩ := List.mem_map.mp hd'
  obtain ⟨c', _, rfl⟩ := List.mem_map.mp hx'
  rw [tgD_py, tgD_py]
  simp [PySem.W.alike, PySem.W.alikeAll, PySem.W.alike_ints]
theorem tgs_sortable {L : List Tlg} : sortableD (L.map tgD) := .inl fun d hd => by
  obtain ⟨x, hx, rfl⟩ := List.mem_map.mp hd
  obtain ⟨c, _, rfl⟩ := List.mem_map.mp hx
  exact ⟨_, _, tgD_py c⟩
theorem tgs_okd {n : Int} {L : List Tlg} (h : ∀ t ∈ L, tgOk n t) : Okd (L.map tgD) := fun d hd => by
  obtain ⟨t, ht, rfl⟩ := List.mem_map.mp hd
  exact ⟨(okP_tg (h t ht)).1, Nat.le_trans (okP_tg (h t ht)).2 (by decide)⟩
theorem mks_alike {L : List Mrk} : alikeD (L.map mkD) := fun d hd d' hd' => by
  obtain ⟨x, hx, rfl⟩ := List.mem_map.mp hd
  obtain ⟨c, _, rfl⟩ := List.mem_map.mp hx
  obtain ⟨x', hx', rfl⟩ := List.mem_map.mp hd'
  obtain ⟨c', _, rfl⟩ := List.mem_map.mp hx'
  rw [mkD_py, mkD_py]
  simp [PySem.W.alike, PySem.W.alikeAll]
theorem mks_sortable {L : List Mrk} : sortableD (L.map mkD) := .inl fun d hd => by
  obtain ⟨x, hx, rfl⟩ := List.mem_map.mp hd
  obtain ⟨c, _, rfl⟩ := List.mem_map.mp hx
  exact ⟨_, _, mkD_py c⟩
theorem mks_okd {L : List Mrk} : Okd (L.map mkD) := fun d hd => by
  obtain ⟨t, ht, rfl⟩ := List.mem_map.mp hd
  exact ⟨(okP_mk (n := 4)).1, Nat.le_trans (okP_mk (n := 4)).2 (by decide)⟩
theorem tgs_sort (T : List Tlg) : (T.map tgD).mergeSort leD = (srtT T).map tgD := (PySem.W.sort_maps tgD fun _ _ _ _ => rfl).symm
theorem mks_sort (K : List Mrk) : (K.map mkD).mergeSort leD = (srtK K).map mkD := (PySem.W.sort_maps mkD fun _ _ _ _ => rfl).symm
theorem r_Register_case_now : Tells S_Register_case_now [true] 2 w_Register_case_now := by
  rintro ds Q E ⟨pa, m1, m2, w, cs, p, s, P, rfl, h1, h2, h, hQ⟩
  have big : (1000 : Nat) ≤ sizeLine := by decide
  show w_Register_case_now _ _ [rgD pa m1 m2 w cs p s P, .gone, .gone]
  generalize (fun (c : Str) (ns : List Int) ρ => E c ns (outs [true] ρ)) = Ex
  unfold w_Register_case_now w_Register_case_now_0 rgD fld stD
  rcases h1 with rfl | rfl <;> rcases h2 with rfl | rfl
  all_goals
    simp? [tgs_frz, mks_frz]
    unfold w_Register_case_now_1
    simp? [tgs_frz, mks_frz]
    rw [tgs_sort, mks_sort]
    exact ⟨tgs_alike, tgs_sortable, tgs_okd h.c.te, mks_alike, mks_sortable, mks_okd, by omega, hQ⟩
theorem eqd_tg (a b : Tlg) : eqd (tgD a) (tgD b) = decide (a = b) := by
  have h := eqd_tints (xs := a.2.2.2) (ys := b.2.2.2)
  unfold eqd at h ⊢
  rw [tgD_py, tgD_py]
  rw [D.py, D.py, pys_map, pys_map, List.map_map, List.map_map] at h
  have e : (D.py ∘ D.int) = PyData.int := by funext i; simp [D.py]
  rw [e] at h
  simp only [PyData.eqv, PyData.eqvAll] at h ⊢
  rw [h]
  obtain ⟨a1, a2, a3, a4⟩ := a
  obtain ⟨b1, b2, b3, b4⟩ := b
  apply Bool.eq_iff_iff.mpr
  simp
theorem eqd_mk (a b : Mrk) : eqd (mkD a) (mkD b) = decide (a = b) := by
  obtain ⟨a1, a2, a3⟩ := a
  obtain ⟨b1, b2, b3⟩ := b
  unfold eqd
  simp only [mkD, D.py, pys, PyData.eqv, PyData.eqvAll]
  by_cases h1 : a1 = b1 <;> by_cases h2 : a2 = b2 <;> by_cases h3 : a3 = b3 <;> simp [h1, h2, h3]
theorem isIn_tg (t : Tlg) (T : List Tlg) : isIn (tgD t) (T.map tgD) = decide (t ∈ T) := by
  unfold isIn
  rw [List.any_map]
  induction T with
  | nil => rfl
  | cons x r ih =>
    rw [List.any_cons, ih]
    show (eqd (tgD x) (tgD t) || _) = _
    rw [eqd_tg]
    by_cases h : x = t
    · simp [h]
    · have h' : ¬ t = x := fun z => h z.symm
      simp [h, h']
theorem isIn_mk (t : Mrk) (T : List Mrk) : isIn (mkD t) (T.map mkD) = decide (t ∈ T) := by
  unfold isIn
  rw [List.any_map]
  induction T with
  | nil => rfl
  | cons x r ih =>
    rw [List.any_cons, ih]
    show (eqd (mkD x) (mkD t) || _) = _
    rw [eqd_mk]
    by_cases h : x = t
    · simp [h]
    · have h' : ¬ t = x := fun z => h z.symm
      simp [h, h']
theorem tgs_solid (T : List Tlg) : solids (T.map tgD) = true := by
  have := frzs_solid (T.map tgD)
  rwa [tgs_frz] at this
theorem mks_solid (T : List Mrk) : solids (T.map mkD) = true := by
  have := frzs_solid (T.map mkD)
  rwa [mks_frz] at this
theorem shp_mks {m : M} {K : List Mrk} : shp (.lst m (K.map mkD)) := shp_of (n := 5) (okP_lst fun d hd => by
  obtain ⟨k, hk, rfl⟩ := List.mem_map.mp hd
  exact okP_mk) (by decide)
theorem tg_shp {n : Int} {t : Tlg} (h : tgOk n t) : shp (tgD t) := shp_of (n := 4) (okP_tg h) (by decide)
theorem mk_shp {k : Mrk} : shp (mkD k) := shp_of (n := 4) okP_mk (by decide)
theorem tell_tail {Ex : XD} {KK : DEnds} {pa : Option Addr} {w : Int} {cs : List Int} {p : Int} {s : List Tlg × List Mrk} {P : List (List Tlg × List Mrk)} {t : Tlg} (h : rgOk w cs p s P) (few : P.length ≤ 200) (ht : tgOk cs.length t)
    (q1 : t ∈ s.1 → Ex "There" [] [rgD pa .shr .shr w cs p s P, tgD t, .lst .shr (s.1.map tgD), .lst .shr (s.2.map mkD)])
    (q2 : t ∉ s.1 → s.1.length = 16 → Ex "TooMany" [17, 16] [rgD pa .shr .shr w cs p s P, tgD t, .lst .shr (s.1.map tgD), .lst .shr (s.2.map mkD)])
    (q3 : t ∉ s.1 → s.1.length ≠ 16 → KK.nx [rgD pa .shr .shr w cs p (s.1 ++ [t], s.2) (P ++ [s]), tgD t, .lst .shr (s.1.map tgD), .lst .shr (s.2.map mkD)]) :
    w_Register_tell_2 Ex KK [rgD pa .shr .shr w cs p s P, tgD t, .lst .shr (s.1.map tgD), .lst .shr (s.2.map mkD)] := by
  have tl := h.c.tl
  have hb := ht.sm.b
  unfold w_Register_tell_2 rgD
  simp? [nB_bad hb]
  refine ⟨.shr, s.1.map tgD, tgD t, 16, rfl, .inr rfl, tgs_solid _, shp_tgs h.c.te, tg_shp ht, hb, by rw [List.length_map]; omega, fun e => ?_, fun e k => ?_, fun e k => ?_⟩
  · rw [isIn_tg] at e
    exact q1 (of_decide_eq_true e)
  · rw [isIn_tg] at e
    exact q2 (of_decide_eq_false e) (by rw [List.length_map] at k; exact k)
  · rw [isIn_tg] at e
    simp? [nB_bad hb]
    refine ⟨pa, .shr, .shr, w, cs, p, s, P, .own, .shr, (s.1 ++ [t], s.2), by simp [rgD], .inr rfl, .inr rfl, .inl rfl, .inr rfl, h, ?_⟩
    exact q3 (of_decide_eq_false e) (by rw [List.length_map] at k; exact k)
theorem r_Register_tell : Tells S_Register_tell [true, true] 2 w_Register_tell := by
  rintro ds Q E ⟨pa, m1, m2, w, cs, p, s, P, d, rfl, h1, h2, h, few, hd, hN, hR⟩
  have big : (1000 : Nat) ≤ sizeLine := by decide
  have hb := hd.b
  have tl := h.c.tl
  show w_Register_tell _ _ [rgD pa m1 m2 w cs p s P, d, .gone, .gone]
  generalize hEx : (fun (c : Str) (ns : List Int) ρ => E c ns (outs [true, true] ρ)) = Ex
  unfold w_Register_tell w_Register_tell_0 rgD fld
  simp? [nB_bad hb]
  refine ⟨w, cs, d, rfl, h.c.f, hd, fun hT => ?_, fun hT => ?_⟩
  · simp? [nB_bad hb]
    have hR := hR hT
    obtain ⟨t, rfl, ht⟩ := hT
    obtain ⟨r1, r2, r3⟩ := hR t rfl
    unfold w_Register_tell_1 stD
    rcases h1 with rfl | rfl <;> rcases h2 with rfl | rfl
    all_goals
      simp? [tgs_frz, mks_frz]
      subst hEx
      exact tell_tail h few ht (fun z => r1 z .shr .shr (.inr rfl) (.inr rfl)) (fun z k => r2 z k .shr .shr (.inr rfl) (.inr rfl)) fun z k => r3 z (by omega) .shr .shr (.inr rfl) (.inr rfl)
  · subst hEx
    exact hN hT m1 m2 h1 h2
theorem see_tail {Ex : XD} {KK : DEnds} {pa : Option Addr} {w : Int} {cs : List Int} {p : Int} {s : List Tlg × List Mrk} {P : List (List Tlg × List Mrk)} {t : Mrk} (h : rgOk w cs p s P) (few : P.length ≤ 200) (ht : mkOk cs.length t)
    (q1 : t ∈ s.2 → Ex "There" [] [rgD pa .shr .shr w cs p s P, mkD t, .lst .shr (s.1.map tgD), .lst .shr (s.2.map mkD)])
    (q2 : t ∉ s.2 → s.2.length = 40 → Ex "TooMany" [41, 40] [rgD pa .shr .shr w cs p s P, mkD t, .lst .shr (s.1.map tgD), .lst .shr (s.2.map mkD)])
    (q3 : t ∉ s.2 → s.2.length ≠ 40 → KK.nx [rgD pa .shr .shr w cs p (s.1, s.2 ++ [t]) (P ++ [s]), mkD t, .lst .shr (s.1.map tgD), .lst .shr (s.2.map mkD)]) :
    w_Register_see_2 Ex KK [rgD pa .shr .shr w cs p s P, mkD t, .lst .shr (s.1.map tgD), .lst .shr (s.2.map mkD)] := by
  have tl := h.c.kl
  have hb := (mk_sm (k := t)).b
  unfold w_Register_see_2 rgD
  simp? [nB_bad hb]
  refine ⟨.shr, s.2.map mkD, mkD t, 40, rfl, .inr rfl, mks_solid _, shp_mks, mk_shp, hb, by rw [List.length_map]; omega, fun e => ?_, fun e k => ?_, fun e k => ?_⟩
  · rw [isIn_mk] at e
    exact q1 (of_decide_eq_true e)
  · rw [isIn_mk] at e
    exact q2 (of_decide_eq_false e) (by rw [List.length_map] at k; exact k)
  · rw [isIn_mk] at e
    simp? [nB_bad hb]
    refine ⟨pa, .shr, .shr, w, cs, p, s, P, .shr, .own, (s.1, s.2 ++ [t]), by simp [rgD], .inr rfl, .inr rfl, .inr rfl, .inl rfl, h, ?_⟩
    exact q3 (of_decide_eq_false e) (by rw [List.length_map] at k; exact k)
theorem r_Register_see : Tells S_Register_see [true, true] 2 w_Register_see := by
  rintro ds Q E ⟨pa, m1, m2, w, cs, p, s, P, d, rfl, h1, h2, h, few, hd, hN, hR⟩
  have big : (1000 : Nat) ≤ sizeLine := by decide
  have hb := hd.b
  have tl := h.c.kl
  show w_Register_see _ _ [rgD pa m1 m2 w cs p s P, d, .gone, .gone]
  generalize hEx : (fun (c : Str) (ns : List Int) ρ => E c ns (outs [true, true] ρ)) = Ex
  unfold w_Register_see w_Register_see_0 rgD fld
  simp? [nB_bad hb]
  refine ⟨w, cs, d, rfl, h.c.f, hd, fun hT => ?_, fun hT => ?_⟩
  · simp? [nB_bad hb]
    have hR := hR hT
    obtain ⟨t, rfl, ht⟩ := hT
    obtain ⟨r1, r2, r3⟩ := hR t rfl
    unfold w_Register_see_1 stD
    rcases h1 with rfl | rfl <;> rcases h2 with rfl | rfl
    all_goals
      simp? [tgs_frz, mks_frz]
      subst hEx
      exact see_tail h few ht (fun z => r1 z .shr .shr (.inr rfl) (.inr rfl)) (fun z k => r2 z k .shr .shr (.inr rfl) (.inr rfl)) fun z k => r3 z (by omega) .shr .shr (.inr rfl) (.inr rfl)
  · subst hEx
    exact hN hT m1 m2 h1 h2
theorem unsay_tail {Ex : XD} {KK : DEnds} {pa : Option Addr} {w : Int} {cs : List Int} {p : Int} {s : List Tlg × List Mrk} {P : List (List Tlg × List Mrk)} {t : Tlg} (h : rgOk w cs p s P) (few : P.length ≤ 200) (ht : tgOk cs.length t)
    (q1 : t ∉ s.1 → Ex "Gone" [] [rgD pa .shr .shr w cs p s P, tgD t, .lst .shr (s.1.map tgD), .lst .shr (s.2.map mkD)])
    (q3 : t ∈ s.1 → KK.nx [rgD pa .shr .shr w cs p (s.1.filter (fun x => decide (x ≠ t)), s.2) (P ++ [s]), tgD t, .lst .shr (s.1.map tgD), .lst .shr (s.2.map mkD)]) :
    w_Register_unsay_2 Ex KK [rgD pa .shr .shr w cs p s P, tgD t, .lst .shr (s.1.map tgD), .lst .shr (s.2.map mkD)] := by
  have tl := h.c.tl
  have hb := ht.sm.b
  unfold w_Register_unsay_2 rgD
  simp? [nB_bad hb]
  refine ⟨.shr, s.1.map tgD, tgD t, rfl, .inr rfl, tgs_solid _, shp_tgs h.c.te, fun x hx => ?_, tg_shp ht, hb, by rw [List.length_map]; omega, fun e => ?_, fun e => ?_⟩
  · obtain ⟨z, hz, rfl⟩ := List.mem_map.mp hx
    exact ⟨tg_shp (h.c.te z hz), (h.c.te z hz).sm.b⟩
  · rw [isIn_tg] at e
    exact q1 (of_decide_eq_false e)
  · rw [isIn_tg] at e
    have ef : (s.1.map tgD).filter (fun x => !eqd x (tgD t)) = (s.1.filter fun x => decide (x ≠ t)).map tgD := by
      rw [List.filter_map]
      congr 1
      refine List.filter_congr fun x _ => ?_
      show (!eqd (tgD x) (tgD t)) = _
      rw [eqd_tg]
      simp
    rw [ef]
    simp? [nB_bad hb]
    refine ⟨pa, .shr, .shr, w, cs, p, s, P, .own, .shr, (s.1.filter (fun x => decide (x ≠ t)), s.2), by simp [rgD], .inr rfl, .inr rfl, .inl rfl, .inr rfl, h, ?_⟩
    exact q3 (of_decide_eq_true e)
theorem r_Register_unsay : Tells S_Register_unsay [true, true] 2 w_Register_unsay := by
  rintro ds Q E ⟨pa, m1, m2, w, cs, p, s, P, d, rfl, h1, h2, h, few, hd, hN, hR⟩
  have big : (1000 : Nat) ≤ sizeLine := by decide
  have hb := hd.b
  show w_Register_unsay _ _ [rgD pa m1 m2 w cs p s P, d, .gone, .gone]
  generalize hEx : (fun (c : Str) (ns : List Int) ρ => E c ns (outs [true, true] ρ)) = Ex
  unfold w_Register_unsay w_Register_unsay_0 rgD fld
  simp? [nB_bad hb]
  refine ⟨w, cs, d, rfl, h.c.f, hd, fun hT => ?_, fun hT => ?_⟩
  · simp? [nB_bad hb]
    have hR := hR hT
    obtain ⟨t, rfl, ht⟩ := hT
    obtain ⟨r1, r3⟩ := hR t rfl
    unfold w_Register_unsay_1 stD
    rcases h1 with rfl | rfl <;> rcases h2 with rfl | rfl
    all_goals
      simp? [tgs_frz, mks_frz]
      subst hEx
      exact unsay_tail h few ht (fun z => r1 z .shr .shr (.inr rfl) (.inr rfl)) fun z => r3 z .shr .shr (.inr rfl) (.inr rfl)
  · subst hEx
    exact hN hT m1 m2 h1 h2
theorem unsee_tail {Ex : XD} {KK : DEnds} {pa : Option Addr} {w : Int} {cs : List Int} {p : Int} {s : List Tlg × List Mrk} {P : List (List Tlg × List Mrk)} {t : Mrk} (h : rgOk w cs p s P) (few : P.length ≤ 200) (ht : mkOk cs.length t)
    (q1 : t ∉ s.2 → Ex "Gone" [] [rgD pa .shr .shr w cs p s P, mkD t, .lst .shr (s.1.map tgD), .lst .shr (s.2.map mkD)])
    (q3 : t ∈ s.2 → KK.nx [rgD pa .shr .shr w cs p (s.1, s.2.filter (fun x => decide (x ≠ t))) (P ++ [s]), mkD t, .lst .shr (s.1.map tgD), .lst .shr (s.2.map mkD)]) :
    w_Register_unsee_2 Ex KK [rgD pa .shr .shr w cs p s P, mkD t, .lst .shr (s.1.map tgD), .lst .shr (s.2.map mkD)] := by
  have tl := h.c.kl
  have hb := (mk_sm (k := t)).b
  unfold w_Register_unsee_2 rgD
  simp? [nB_bad hb]
  refine ⟨.shr, s.2.map mkD, mkD t, rfl, .inr rfl, mks_solid _, shp_mks, fun x hx => ?_, mk_shp, hb, by rw [List.length_map]; omega, fun e => ?_, fun e => ?_⟩
  · obtain ⟨z, hz, rfl⟩ := List.mem_map.mp hx
    exact ⟨mk_shp, mk_sm.b⟩
  · rw [isIn_mk] at e
    exact q1 (of_decide_eq_false e)
  · rw [isIn_mk] at e
    have ef : (s.2.map mkD).filter (fun x => !eqd x (mkD t)) = (s.2.filter fun x => decide (x ≠ t)).map mkD := by
      rw [List.filter_map]
      congr 1
      refine List.filter_congr fun x _ => ?_
      show (!eqd (mkD x) (mkD t)) = _
      rw [eqd_mk]
      simp
    rw [ef]
    simp? [nB_bad hb]
    refine ⟨pa, .shr, .shr, w, cs, p, s, P, .shr, .own, (s.1, s.2.filter (fun x => decide (x ≠ t))), by simp [rgD], .inr rfl, .inr rfl, .inr rfl, .inl rfl, h, ?_⟩
    exact q3 (of_decide_eq_true e)
theorem r_Register_unsee : Tells S_Register_unsee [true, true] 2 w_Register_unsee := by
  rintro ds Q E ⟨pa, m1, m2, w, cs, p, s, P, d, rfl, h1, h2, h, few, hd, hN, hR⟩
  have big : (1000 : Nat) ≤ sizeLine := by decide
  have hb := hd.b
  show w_Register_unsee _ _ [rgD pa m1 m2 w cs p s P, d, .gone, .gone]
  generalize hEx : (fun (c : Str) (ns : List Int) ρ => E c ns (outs [true, true] ρ)) = Ex
  unfold w_Register_unsee w_Register_unsee_0 rgD fld
  simp? [nB_bad hb]
  refine ⟨w, cs, d, rfl, h.c.f, hd, fun hT => ?_, fun hT => ?_⟩
  · simp? [nB_bad hb]
    have hR := hR hT
    obtain ⟨t, rfl, ht⟩ := hT
    obtain ⟨r1, r3⟩ := hR t rfl
    unfold w_Register_unsee_1 stD
    rcases h1 with rfl | rfl <;> rcases h2 with rfl | rfl
    all_goals
      simp? [tgs_frz, mks_frz]
      subst hEx
      exact unsee_tail h few ht (fun z => r1 z .shr .shr (.inr rfl) (.inr rfl)) fun z => r3 z .shr .shr (.inr rfl) (.inr rfl)
  · subst hEx
    exact hN hT m1 m2 h1 h2
theorem r_holders : Tells S_holders [true, true] 3 w_holders := by
  rintro ds Q E ⟨m1, m2, w, cs, p, T, K, d, rfl, h1, h2, h, hd, hw, hE⟩
  have hb := hd.b
  show w_holders _ _ [csD m1 m2 w cs p T K, d, .gone, .gone, .gone]
  generalize hEx : (fun (c : Str) (ns : List Int) ρ => E c ns (outs [true, true] ρ)) = Ex
  have hE' : Ex "NoDay" [] [csD .shr .shr w cs p T K, d, .gone, .gone, .gone] := by rw [← hEx]; exact hE
  unfold w_holders w_holders_0 csD fld
  rcases h1 with rfl | rfl <;> rcases h2 with rfl | rfl
  all_goals
    simp? [m_oo, m_so, Bool.and_true, Bool.and_false, Bool.true_and, Bool.false_and]
    refine ⟨_, _, w, cs, p, T, K, rfl, by simp [mOS], by simp [mOS], h, ?_⟩
    unfold w_holders_1
    simp? [nB_bad hb, csD, fld]
    exact ⟨d, rfl, hd, fun z => by (rw [z] at hw; cases hw), fun _ => hE'⟩
theorem r_hangs : Tells S_hangs [true, true, true] 5 w_hangs := by
  rintro ds Q E ⟨m1, m2, w, cs, p, T, K, d, c, rfl, h1, h2, h, hd, hc, hw, hE1, hE2⟩
  have hb := hd.b
  have cb := hc.b
  show w_hangs _ _ [csD m1 m2 w cs p T K, d, c, .gone, .gone, .gone, .gone, .gone]
  generalize hEx : (fun (c : Str) (ns : List Int) ρ => E c ns (outs [true, true, true] ρ)) = Ex
  have hE1' : isWhole d 0 999 = false → Ex "NoDay" [] [csD .shr .shr w cs p T K, d, c, .gone, .gone, .gone, .gone, .gone] := fun z => by rw [← hEx]; exact hE1 z
  have hE2' : isWhole d 0 999 = true → Ex "NoCell" [] [csD .shr .shr w cs p T K, d, c, .gone, .gone, .gone, .gone, .gone] := fun z => by rw [← hEx]; exact hE2 z
  unfold w_hangs w_hangs_0 csD fld
  rcases h1 with rfl | rfl <;> rcases h2 with rfl | rfl
  all_goals
    simp? [m_oo, m_so, Bool.and_true, Bool.and_false, Bool.true_and, Bool.false_and]
    refine ⟨_, _, w, cs, p, T, K, rfl, by simp [mOS], by simp [mOS], h, ?_⟩
    unfold w_hangs_1
    simp? [nB_bad hb, csD, fld]
    refine ⟨d, rfl, hd, fun z => ?_, fun z => hE1' z⟩
    unfold w_hangs_2
    simp? [nB_bad hb, nB_bad cb, csD, fld, tgs_frz, mks_frz]
    exact ⟨w, cs, c, rfl, h.f, hc, fun y => by (rw [hw z] at y; cases y), fun _ => hE2' z⟩
theorem srt_ok {w : Int} {cs : List Int} {p : Int} {T : List Tlg} {K : List Mrk} (h : csOk w cs p T K) : csOk w cs p (srtT T) (srtK K) :=
  ⟨h.f, h.pace, by unfold srtT; rw [List.length_mergeSort]; exact h.tl, fun t ht => h.te t (List.mem_mergeSort.mp ht), by unfold srtK; rw [List.length_mergeSort]; exact h.kl, fun t ht => h.ke t (List.mem_mergeSort.mp ht)⟩
theorem r_Register_holders_now : Tells S_Register_holders_now [true, true] 0 w_Register_holders_now := by
  rintro ds Q E ⟨pa, m1, m2, w, cs, p, s, P, d, rfl, h1, h2, h, hd, hw, hE⟩
  have hb := hd.b
  show w_Register_holders_now _ _ [rgD pa m1 m2 w cs p s P, d]
  generalize hEx : (fun (c : Str) (ns : List Int) ρ => E c ns (outs [true, true] ρ)) = Ex
  have hE' : Ex "NoDay" [] [rgD pa .shr .shr w cs p s P, d] := by rw [← hEx]; exact hE
  unfold w_Register_holders_now w_Register_holders_now_0 rgD
  simp? []
  refine ⟨pa, m1, m2, w, cs, p, s, P, by simp [rgD], h1, h2, h, ?_⟩
  simp? [nB_bad hb, rgD]
  exact ⟨_, _, w, cs, p, _, _, d, rfl, .inl rfl, .inl rfl, srt_ok h.c, hd, hw, hE'⟩
theorem r_Register_hangs_now : Tells S_Register_hangs_now [true, true, true] 0 w_Register_hangs_now := by
  rintro ds Q E ⟨pa, m1, m2, w, cs, p, s, P, d, c, rfl, h1, h2, h, hd, hc, hw, hE1, hE2⟩
  have hb := hd.b
  have cb := hc.b
  show w_Register_hangs_now _ _ [rgD pa m1 m2 w cs p s P, d, c]
  generalize hEx : (fun (c : Str) (ns : List Int) ρ => E c ns (outs [true, true, true] ρ)) = Ex
  have hE1' : isWhole d 0 999 = false → Ex "NoDay" [] [rgD pa .shr .shr w cs p s P, d, c] := fun z => by rw [← hEx]; exact hE1 z
  have hE2' : isWhole d 0 999 = true → Ex "NoCell" [] [rgD pa .shr .shr w cs p s P, d, c] := fun z => by rw [← hEx]; exact hE2 z
  unfold w_Register_hangs_now w_Register_hangs_now_0 rgD
  simp? []
  refine ⟨pa, m1, m2, w, cs, p, s, P, by simp [rgD], h1, h2, h, ?_⟩
  simp? [nB_bad hb, nB_bad cb, rgD]
  exact ⟨_, _, w, cs, p, _, _, d, c, rfl, .inl rfl, .inl rfl, srt_ok h.c, hd, hc, hw, fun z => hE1' z, fun z => hE2' z⟩
theorem ok_one {c t : Str} (h : ol_law_said.lookup c = some t) (hn : c ≠ "TooMany") : ok_law_said c [] = some (.tup [.str t]) := by
  unfold ok_law_said okM
  show (if c = "TooMany" then none else (ol_law_said.lookup c).map _) = _
  rw [if_neg hn, h]
  rfl
theorem ok_two {m n : Int} : ok_law_said "TooMany" [m, n] = some (.tup [.str "many", .int m, .int n]) := rfl
theorem tgD_inj {a b : Tlg} (h : tgD a = tgD b) : a = b := by
  obtain ⟨a1, a2, a3, a4⟩ := a
  obtain ⟨b1, b2, b3, b4⟩ := b
  simp only [tgD, cgC, cg, K73.tl, D.tup.injEq, List.cons.injEq, D.int.injEq, D.str.injEq, and_true] at h
  obtain ⟨rfl, rfl, rfl, h4⟩ := h
  have : a4 = b4 := (List.map_inj_right fun x y e => by injection e).mp h4
  rw [this]
theorem mkD_inj {a b : Mrk} (h : mkD a = mkD b) : a = b := by
  obtain ⟨a1, a2, a3⟩ := a
  obtain ⟨b1, b2, b3⟩ := b
  simp only [mkD, D.tup.injEq, List.cons.injEq, D.int.injEq, D.bl.injEq, and_true] at h
  obtain ⟨rfl, rfl, rfl⟩ := h
  rfl
theorem cut_take (xs : List D) (n : Nat) : Bd.cutD xs none (some (n : Int)) = xs.take n := by
  have e : HT.sIx xs.length xs.length (some (n : Int)) = min n xs.length := by
    show (if (n : Int) < 0 then ((n : Int) + (xs.length : Int)).toNat else min (n : Int).toNat xs.length) = _
    rw [if_neg (by omega)]
    rfl
  unfold Bd.cutD
  rw [e, HT.sIx_none, List.drop_zero, Nat.sub_zero]
  by_cases h : n ≤ xs.length
  · rw [Nat.min_eq_left h]
  · rw [Nat.min_eq_right (by omega), List.take_of_length_le (Nat.le_refl _), List.take_of_length_le (by omega)]
theorem rgL_nat (n : Nat) : rgL 0 n = (List.range n).map fun (i : Nat) => [D.int (i : Int)] := by simp [rgL]
theorem manyD : many.map tgD = (List.range 17).map fun (i : Nat) => tgD (1 + (i : Int) % 9, ((i : Int), "slow", [0])) := by
  unfold many
  rw [List.map_map]
  rfl
theorem marksD : marks.map mkD = (List.range 41).map fun (i : Nat) => mkD ((i : Int), 0, decide ((i : Int) % 2 = 0)) := by
  unfold marks
  rw [List.map_map]
  rfl
theorem f_many {Ex : XD} {KK : DEnds} {d0 d1 d2 d3 d4 d5 d6 : D} (q : KK.nx [d0, d1, d2, .lst .own (many.map tgD), d4, d5, d6, .gone]) : w_law_full_right_0 Ex KK [d0, d1, d2, d3, d4, d5, d6, .gone] := by
  have big : (1000 : Nat) ≤ sizeLine := by decide
  unfold w_law_full_right_0
  simp? []
  refine ⟨by decide, by decide, by rw [show Int.toNat 17 = 17 from rfl, rgL_nat, List.length_map, List.length_range]; omega, ?_⟩
  rw [show Int.toNat 17 = 17 from rfl, rgL_nat]
  refine lcL_mapL (fun (i : Nat) => [D.int (i : Int)]) (fun (i : Nat) => tgD (1 + (i : Int) % 9, ((i : Int), "slow", [0]))) ?_ ?_
  · intro i hi K hK
    simp? []
    exact ⟨by decide, by omega, by omega, by omega, hK⟩
  · simp? []
    rw [← manyD]
    exact q
theorem f_marks {Ex : XD} {KK : DEnds} {d0 d1 d2 d3 d4 d5 d6 : D} (q : KK.nx [d0, d1, d2, d3, d4, d5, .lst .own (marks.map mkD), .gone]) : w_law_full_right_10 Ex KK [d0, d1, d2, d3, d4, d5, d6, .gone] := by
  have big : (1000 : Nat) ≤ sizeLine := by decide
  unfold w_law_full_right_10
  simp? []
  refine ⟨by decide, by decide, by rw [show Int.toNat 41 = 41 from rfl, rgL_nat, List.length_map, List.length_range]; omega, ?_⟩
  rw [show Int.toNat 41 = 41 from rfl, rgL_nat]
  refine lcL_mapL (fun (i : Nat) => [D.int (i : Int)]) (fun (i : Nat) => mkD ((i : Int), 0, decide ((i : Int) % 2 = 0))) ?_ ?_
  · intro i hi K hK
    simp? []
    exact ⟨by decide, by omega, hK⟩
  · simp? []
    rw [← marksD]
    exact q
theorem many_ok {n : Nat} (h : 1 ≤ n) : ∀ t ∈ many, tgOk (n : Int) t := fun t ht => by
  obtain ⟨i, hi, rfl⟩ := List.mem_map.mp ht
  have hi' := List.mem_range.mp hi
  refine ⟨by dsimp only; omega, by dsimp only; omega, ⟨by constructor <;> dsimp only <;> omega, .inr rfl, ⟨by simp, fun k hk => ?_⟩, by simp, by simp⟩⟩
  rw [List.mem_singleton] at hk
  subst hk
  omega
theorem marks_ok {n : Nat} (h : 1 ≤ n) : ∀ t ∈ marks, mkOk (n : Int) t := fun t ht => by
  obtain ⟨i, hi, rfl⟩ := List.mem_map.mp ht
  have hi' := List.mem_range.mp hi
  exact ⟨by dsimp only; omega, by dsimp only; omega, by dsimp only; omega, by dsimp only; omega⟩
theorem st_ok {w p : Int} {cs : List Int} (hf : fOk w cs) (hp : 1 ≤ p ∧ p ≤ 9) (j : Nat) (hj : j ≤ 56) : csOk w cs p (stAt j).1 (stAt j).2 :=
  ⟨hf, hp, by simp [stAt]; omega, fun t ht => many_ok hf.pos.1 t (List.mem_of_mem_take ht), by simp [stAt]; omega, fun t ht => marks_ok hf.pos.1 t (List.mem_of_mem_take ht)⟩
theorem rg_ok {w p : Int} {cs : List Int} (hf : fOk w cs) (hp : 1 ≤ p ∧ p ≤ 9) (j : Nat) (hj : j ≤ 56) : rgOk w cs p (stAt j) ((List.range j).map stAt) :=
  ⟨st_ok hf hp j hj, fun z hz => by
    obtain ⟨i, hi, rfl⟩ := List.mem_map.mp hz
    exact st_ok hf hp i (by have := List.mem_range.mp hi; omega), by simp; omega⟩
theorem rg_succ (j : Nat) : (List.range (j + 1)).map stAt = (List.range j).map stAt ++ [stAt j] := by rw [List.range_succ, List.map_append]; rfl
theorem many_fresh : ∀ i, i < 17 → (many.getD i (0, 0, "", [])) ∉ many.take i := by decide +kernel
theorem marks_fresh : ∀ i, i < 41 → (marks.getD i (0, 0, false)) ∉ marks.take i := by decide +kernel
theorem st_tell {j : Nat} (h : j < 16) : stAt (j + 1) = ((stAt j).1 ++ [many.getD j (0, 0, "", [])], (stAt j).2) := by
  have l : j < many.length := by simp [many]; omega
  unfold stAt
  rw [show min (j + 1) 16 = j + 1 by omega, show min j 16 = j by omega, show j + 1 - 16 = 0 by omega, show j - 16 = 0 by omega, List.take_succ, List.getD_eq_getElem?_getD, List.getElem?_eq_getElem l]
  rfl
theorem st_see {j : Nat} (h : j < 40) : stAt (16 + j + 1) = ((stAt (16 + j)).1, (stAt (16 + j)).2 ++ [marks.getD j (0, 0, false)]) := by
  have l : j < marks.length := by simp [marks]; omega
  unfold stAt
  rw [show min (16 + j + 1) 16 = 16 by omega, show min (16 + j) 16 = 16 by omega, show 16 + j + 1 - 16 = j + 1 by omega, show 16 + j - 16 = j by omega, List.take_succ (l := marks), List.getD_eq_getElem?_getD, List.getElem?_eq_getElem l]
  rfl
theorem ones_get {α : Type} {f : α → D} {l : List α} {i : Nat} {its : List D} (h : (ones (l.map f))[i]? = some its) : ∃ x, l[i]? = some x ∧ its = [f x] := by
  rw [ones_map, List.getElem?_map] at h
  obtain ⟨x, hx, e⟩ := Option.map_eq_some_iff.mp h
  exact ⟨x, hx, e.symm⟩
theorem f_tells {Ex : XD} {KK : DEnds} {pa : Option Addr} {w p : Int} {cs : List Int} {d d4 d5 d6 : D} {a b : M} (ha : mOS a) (hb : mOS b) (hf : fOk w cs) (hp : 1 ≤ p ∧ p ≤ 9)
    (q : ∀ a b d4, mOS a → mOS b → KK.nx [rgD pa a b w cs p (stAt 16) ((List.range 16).map stAt), fld w cs, d, .lst .own (many.map tgD), d4, d5, d6, .gone]) :
    w_law_full_right_1 Ex KK [rgD pa a b w cs p ([], []) [], fld w cs, d, .lst .own (many.map tgD), d4, d5, d6, .gone] := by
  have big : (1000 : Nat) ≤ sizeLine := by decide
  unfold w_law_full_right_1
  simp? [tgs_frz]
  rw [show (16 : Int) = ((16 : Nat) : Int) from rfl, cut_take, ← List.map_take, tgs_frz]
  refine forL_inv (fun i ρ => ∃ a b d4, mOS a ∧ mOS b ∧ ρ = [rgD pa a b w cs p (stAt i) ((List.range i).map stAt), fld w cs, d, .lst .own (many.map tgD), d4, d5, d6, .gone]) ⟨a, b, d4, ha, hb, rfl⟩ ?_ ?_
  · rintro i its ρ K hi ⟨a, b, d4, ha, hb, rfl⟩ hk
    obtain ⟨t, ht, rfl⟩ := ones_get hi
    have hi16 : i < 16 := by
      have := (List.getElem?_eq_some_iff.mp ht).1
      simp [many] at this
      omega
    have et : many.getD i (0, 0, "", []) = t := by
      rw [List.getElem?_take] at ht
      rw [if_pos hi16] at ht
      rw [List.getD_eq_getElem?_getD, ht]
      rfl
    have tok : tgOk cs.length t := many_ok hf.pos.1 t (by
      rw [← et, List.getD_eq_getElem?_getD, List.getElem?_eq_getElem (show i < many.length by simp [many]; omega)]
      exact List.getElem_mem _)
    have fr := many_fresh i (by omega)
    rw [et] at fr
    have e1 : (stAt i).1 = many.take i := by unfold stAt; rw [show min i 16 = i by omega]
    simp? []
    unfold w_law_full_right_2 rgD
    simp? [nB_bad tok.sm.b]
    refine ⟨pa, a, b, w, cs, p, stAt i, (List.range i).map stAt, tgD t, by simp [rgD], ha, hb, rg_ok hf hp i (by omega), by simp; omega, tok.sm, fun z => absurd ⟨t, rfl, tok⟩ z, fun _ t' e => ?_⟩
    obtain rfl := tgD_inj e
    refine ⟨fun z => absurd (e1 ▸ z) fr, fun z k => ?_, fun z k a b ha hb => ?_⟩
    · exfalso
      rw [e1] at k
      simp [many] at k
      omega
    · simp? []
      refine hk _ ⟨a, b, tgD t, ha, hb, ?_⟩
      rw [st_tell hi16, et, rg_succ]
  · rintro ρ ⟨a, b, d4, ha, hb, rfl⟩
    have e : (ones ((many.take 16).map tgD)).length = 16 := by rw [ones_map]; simp [many]
    rw [e]
    exact q a b d4 ha hb
theorem f_sees {Ex : XD} {KK : DEnds} {pa : Option Addr} {w p : Int} {cs : List Int} {d d3 d4 d5 : D} {a b : M} (ha : mOS a) (hb : mOS b) (hf : fOk w cs) (hp : 1 ≤ p ∧ p ≤ 9)
    (q : ∀ a b d4, mOS a → mOS b → KK.nx [rgD pa a b w cs p (stAt 56) ((List.range 56).map stAt), fld w cs, d, d3, d4, d5, .lst .own (marks.map mkD), .gone]) :
    w_law_full_right_11 Ex KK [rgD pa a b w cs p (stAt 16) ((List.range 16).map stAt), fld w cs, d, d3, d4, d5, .lst .own (marks.map mkD), .gone] := by
  have big : (1000 : Nat) ≤ sizeLine := by decide
  unfold w_law_full_right_11
  simp? [mks_frz]
  rw [show (40 : Int) = ((40 : Nat) : Int) from rfl, cut_take, ← List.map_take, mks_frz]
  refine forL_inv (fun i ρ => ∃ a b d4, mOS a ∧ mOS b ∧ ρ = [rgD pa a b w cs p (stAt (16 + i)) ((List.range (16 + i)).map stAt), fld w cs, d, d3, d4, d5, .lst .own (marks.map mkD), .gone]) ⟨a, b, d4, ha, hb, rfl⟩ ?_ ?_
  · rintro i its ρ K hi ⟨a, b, d4, ha, hb, rfl⟩ hk
    obtain ⟨t, ht, rfl⟩ := ones_get hi
    have hi40 : i < 40 := by
      have := (List.getElem?_eq_some_iff.mp ht).1
      simp [marks] at this
      omega
    have et : marks.getD i (0, 0, false) = t := by
      rw [List.getElem?_take] at ht
      rw [if_pos hi40] at ht
      rw [List.getD_eq_getElem?_getD, ht]
      rfl
    have tok : mkOk cs.length t := marks_ok hf.pos.1 t (by
      rw [← et, List.getD_eq_getElem?_getD, List.getElem?_eq_getElem (show i < marks.length by simp [marks]; omega)]
      exact List.getElem_mem _)
    have fr := marks_fresh i (by omega)
    rw [et] at fr
    have e1 : (stAt (16 + i)).2 = marks.take i := by unfold stAt; rw [show 16 + i - 16 = i by omega]
    simp? []
    unfold w_law_full_right_12 rgD
    simp? [nB_bad (mk_sm (k := t)).b]
    refine ⟨pa, a, b, w, cs, p, stAt (16 + i), (List.range (16 + i)).map stAt, mkD t, by simp [rgD], ha, hb, rg_ok hf hp (16 + i) (by omega), by simp; omega, mk_sm, fun z => absurd ⟨t, rfl, tok⟩ z, fun _ t' e => ?_⟩
    obtain rfl := mkD_inj e
    refine ⟨fun z => absurd (e1 ▸ z) fr, fun z k => ?_, fun z k a b ha hb => ?_⟩
    · exfalso
      rw [e1] at k
      simp [marks] at k
      omega
    · simp? []
      refine hk _ ⟨a, b, mkD t, ha, hb, ?_⟩
      rw [← Nat.add_assoc, st_see hi40, et, rg_succ]
  · rintro ρ ⟨a, b, d4, ha, hb, rfl⟩
    have e : (ones ((marks.take 40).map mkD)).length = 40 := by rw [ones_map]; simp [marks]
    rw [e]
    exact q a b d4 ha hb
theorem tell_bad {pa : Option Addr} {w p : Int} {cs : List Int} {d : D} {a b : M} {j : Nat} {P : D → List D → Prop} {E : XD} (ha : mOS a) (hb : mOS b) (hf : fOk w cs) (hp : 1 ≤ p ∧ p ≤ 9) (hj : j ≤ 56) (hd : sm d) (hT : ¬ isTg cs.length d) (q : ∀ a b, mOS a → mOS b → E "NoTelling" [] [rgD pa a b w cs p (stAt j) ((List.range j).map stAt), d]) : S_Register_tell [rgD pa a b w cs p (stAt j) ((List.range j).map stAt), d] P E :=
  ⟨pa, a, b, w, cs, p, stAt j, (List.range j).map stAt, d, rfl, ha, hb, rg_ok hf hp j hj, by simp; omega, hd, fun _ => q, fun z => absurd z hT⟩
theorem tell_there {pa : Option Addr} {w p : Int} {cs : List Int} {a b : M} {j : Nat} {P : D → List D → Prop} {E : XD} {t : Tlg} (ha : mOS a) (hb : mOS b) (hf : fOk w cs) (hp : 1 ≤ p ∧ p ≤ 9) (hj : j ≤ 56) (ht : tgOk cs.length t) (hm : t ∈ (stAt j).1) (q : ∀ a b, mOS a → mOS b → E "There" [] [rgD pa a b w cs p (stAt j) ((List.range j).map stAt), tgD t]) : S_Register_tell [rgD pa a b w cs p (stAt j) ((List.range j).map stAt), tgD t] P E :=
  ⟨pa, a, b, w, cs, p, stAt j, (List.range j).map stAt, tgD t, rfl, ha, hb, rg_ok hf hp j hj, by simp; omega, ht.sm, fun z => absurd ⟨t, rfl, ht⟩ z, fun _ t' e => by
    obtain rfl := tgD_inj e
    exact ⟨fun _ => q, fun z => absurd hm z, fun z => absurd hm z⟩⟩
theorem tell_many {pa : Option Addr} {w p : Int} {cs : List Int} {a b : M} {j : Nat} {P : D → List D → Prop} {E : XD} {t : Tlg} (ha : mOS a) (hb : mOS b) (hf : fOk w cs) (hp : 1 ≤ p ∧ p ≤ 9) (hj : j ≤ 56) (ht : tgOk cs.length t) (hm : t ∉ (stAt j).1) (hl : (stAt j).1.length = 16) (q : ∀ a b, mOS a → mOS b → E "TooMany" [17, 16] [rgD pa a b w cs p (stAt j) ((List.range j).map stAt), tgD t]) : S_Register_tell [rgD pa a b w cs p (stAt j) ((List.range j).map stAt), tgD t] P E :=
  ⟨pa, a, b, w, cs, p, stAt j, (List.range j).map stAt, tgD t, rfl, ha, hb, rg_ok hf hp j hj, by simp; omega, ht.sm, fun z => absurd ⟨t, rfl, ht⟩ z, fun _ t' e => by
    obtain rfl := tgD_inj e
    exact ⟨fun z => absurd z hm, fun _ _ => q, fun _ k => by omega⟩⟩
theorem unsay_bad {pa : Option Addr} {w p : Int} {cs : List Int} {d : D} {a b : M} {j : Nat} {P : D → List D → Prop} {E : XD} (ha : mOS a) (hb : mOS b) (hf : fOk w cs) (hp : 1 ≤ p ∧ p ≤ 9) (hj : j ≤ 56) (hd : sm d) (hT : ¬ isTg cs.length d) (q : ∀ a b, mOS a → mOS b → E "NoTelling" [] [rgD pa a b w cs p (stAt j) ((List.range j).map stAt), d]) : S_Register_unsay [rgD pa a b w cs p (stAt j) ((List.range j).map stAt), d] P E :=
  ⟨pa, a, b, w, cs, p, stAt j, (List.range j).map stAt, d, rfl, ha, hb, rg_ok hf hp j hj, by simp; omega, hd, fun _ => q, fun z => absurd z hT⟩
theorem unsay_gone {pa : Option Addr} {w p : Int} {cs : List Int} {a b : M} {j : Nat} {P : D → List D → Prop} {E : XD} {t : Tlg} (ha : mOS a) (hb : mOS b) (hf : fOk w cs) (hp : 1 ≤ p ∧ p ≤ 9) (hj : j ≤ 56) (ht : tgOk cs.length t) (hm : t ∉ (stAt j).1) (q : ∀ a b, mOS a → mOS b → E "Gone" [] [rgD pa a b w cs p (stAt j) ((List.range j).map stAt), tgD t]) : S_Register_unsay [rgD pa a b w cs p (stAt j) ((List.range j).map stAt), tgD t] P E :=
  ⟨pa, a, b, w, cs, p, stAt j, (List.range j).map stAt, tgD t, rfl, ha, hb, rg_ok hf hp j hj, by simp; omega, ht.sm, fun z => absurd ⟨t, rfl, ht⟩ z, fun _ t' e => by
    obtain rfl := tgD_inj e
    exact ⟨fun _ => q, fun z => absurd z hm⟩⟩
theorem see_bad {pa : Option Addr} {w p : Int} {cs : List Int} {d : D} {a b : M} {j : Nat} {P : D → List D → Prop} {E : XD} (ha : mOS a) (hb : mOS b) (hf : fOk w cs) (hp : 1 ≤ p ∧ p ≤ 9) (hj : j ≤ 56) (hd : sm d) (hT : ¬ isMk cs.length d) (q : ∀ a b, mOS a → mOS b → E "NoMark" [] [rgD pa a b w cs p (stAt j) ((List.range j).map stAt), d]) : S_Register_see [rgD pa a b w cs p (stAt j) ((List.range j).map stAt), d] P E :=
  ⟨pa, a, b, w, cs, p, stAt j, (List.range j).map stAt, d, rfl, ha, hb, rg_ok hf hp j hj, by simp; omega, hd, fun _ => q, fun z => absurd z hT⟩
theorem see_there {pa : Option Addr} {w p : Int} {cs : List Int} {a b : M} {j : Nat} {P : D → List D → Prop} {E : XD} {t : Mrk} (ha : mOS a) (hb : mOS b) (hf : fOk w cs) (hp : 1 ≤ p ∧ p ≤ 9) (hj : j ≤ 56) (ht : mkOk cs.length t) (hm : t ∈ (stAt j).2) (q : ∀ a b, mOS a → mOS b → E "There" [] [rgD pa a b w cs p (stAt j) ((List.range j).map stAt), mkD t]) : S_Register_see [rgD pa a b w cs p (stAt j) ((List.range j).map stAt), mkD t] P E :=
  ⟨pa, a, b, w, cs, p, stAt j, (List.range j).map stAt, mkD t, rfl, ha, hb, rg_ok hf hp j hj, by simp; omega, mk_sm, fun z => absurd ⟨t, rfl, ht⟩ z, fun _ t' e => by
    obtain rfl := mkD_inj e
    exact ⟨fun _ => q, fun z => absurd hm z, fun z => absurd hm z⟩⟩
theorem see_many {pa : Option Addr} {w p : Int} {cs : List Int} {a b : M} {j : Nat} {P : D → List D → Prop} {E : XD} {t : Mrk} (ha : mOS a) (hb : mOS b) (hf : fOk w cs) (hp : 1 ≤ p ∧ p ≤ 9) (hj : j ≤ 56) (ht : mkOk cs.length t) (hm : t ∉ (stAt j).2) (hl : (stAt j).2.length = 40) (q : ∀ a b, mOS a → mOS b → E "TooMany" [41, 40] [rgD pa a b w cs p (stAt j) ((List.range j).map stAt), mkD t]) : S_Register_see [rgD pa a b w cs p (stAt j) ((List.range j).map stAt), mkD t] P E :=
  ⟨pa, a, b, w, cs, p, stAt j, (List.range j).map stAt, mkD t, rfl, ha, hb, rg_ok hf hp j hj, by simp; omega, mk_sm, fun z => absurd ⟨t, rfl, ht⟩ z, fun _ t' e => by
    obtain rfl := mkD_inj e
    exact ⟨fun z => absurd z hm, fun _ _ => q, fun _ k => by omega⟩⟩
theorem unsee_bad {pa : Option Addr} {w p : Int} {cs : List Int} {d : D} {a b : M} {j : Nat} {P : D → List D → Prop} {E : XD} (ha : mOS a) (hb : mOS b) (hf : fOk w cs) (hp : 1 ≤ p ∧ p ≤ 9) (hj : j ≤ 56) (hd : sm d) (hT : ¬ isMk cs.length d) (q : ∀ a b, mOS a → mOS b → E "NoMark" [] [rgD pa a b w cs p (stAt j) ((List.range j).map stAt), d]) : S_Register_unsee [rgD pa a b w cs p (stAt j) ((List.range j).map stAt), d] P E :=
  ⟨pa, a, b, w, cs, p, stAt j, (List.range j).map stAt, d, rfl, ha, hb, rg_ok hf hp j hj, by simp; omega, hd, fun _ => q, fun z => absurd z hT⟩
theorem unsee_gone {pa : Option Addr} {w p : Int} {cs : List Int} {a b : M} {j : Nat} {P : D → List D → Prop} {E : XD} {t : Mrk} (ha : mOS a) (hb : mOS b) (hf : fOk w cs) (hp : 1 ≤ p ∧ p ≤ 9) (hj : j ≤ 56) (ht : mkOk cs.length t) (hm : t ∉ (stAt j).2) (q : ∀ a b, mOS a → mOS b → E "Gone" [] [rgD pa a b w cs p (stAt j) ((List.range j).map stAt), mkD t]) : S_Register_unsee [rgD pa a b w cs p (stAt j) ((List.range j).map stAt), mkD t] P E :=
  ⟨pa, a, b, w, cs, p, stAt j, (List.range j).map stAt, mkD t, rfl, ha, hb, rg_ok hf hp j hj, by simp; omega, mk_sm, fun z => absurd ⟨t, rfl, ht⟩ z, fun _ t' e => by
    obtain rfl := mkD_inj e
    exact ⟨fun _ => q, fun z => absurd z hm⟩⟩
theorem watI_nat {ds : List D} {j : Nat} (h : j < ds.length) : atI ds (j : Int) = ds[j]? := by
  unfold atI
  rw [ix_nat (by omega) (by omega)]
  simp
theorem mk_frz (t : Mrk) : (mkD t).frz = mkD t := by
  have := mks_frz [t]
  simpa [frzs] using this
theorem at_map {α : Type} (f : α → D) (l : List α) (x : α) {i : Nat} (h : l[i]? = some x) : atI (l.map f) (i : Int) = some (f x) := by
  rw [watI_nat (by rw [List.length_map]; exact (List.getElem?_eq_some_iff.mp h).1), List.getElem?_map, h]
  rfl
theorem f_3 {Ex : XD} {KK : DEnds} {R : WS} {pa : Option Addr} {w p : Int} {cs : List Int} {d d4 d5 d6 : D} {a b : M} (ha : mOS a) (hb : mOS b) (hf : fOk w cs) (hp : 1 ≤ p ∧ p ≤ 9) (hd : sm d) (hT : ¬ isTg cs.length d)
    (q : ∀ a b, mOS a → mOS b → R KK [rgD pa a b w cs p (stAt 16) ((List.range 16).map stAt), fld w cs, d, .lst .own (many.map tgD), d4, .lst .own [.tup [.str "many", .int 17, .int 16], .tup [.str "there"], .tup [.str "telling"], .tup [.str "gone"], .tup [.str "telling"]], d6, .gone]) :
    wsS (w_law_full_right_3 Ex) (wsS (w_law_full_right_4 Ex) (wsS (w_law_full_right_5 Ex) (wsS (w_law_full_right_6 Ex) (wsS (w_law_full_right_7 Ex) R)))) KK [rgD pa a b w cs p (stAt 16) ((List.range 16).map stAt), fld w cs, d, .lst .own (many.map tgD), d4, d5, d6, .gone] := by
  have big : (1000 : Nat) ≤ sizeLine := by decide
  have bd := hd.b
  have m16 : many[16]? = some ((8, (16, "slow", [0])) : Tlg) := by decide +kernel
  have m3 : many[3]? = some ((4, (3, "slow", [0])) : Tlg) := by decide +kernel
  have a16 := at_map tgD many _ m16
  have a3 := at_map tgD many _ m3
  have t16 := many_ok hf.pos.1 _ (List.mem_of_getElem? m16)
  have t3 := many_ok hf.pos.1 _ (List.mem_of_getElem? m3)
  have n16 : ((8, (16, "slow", [0])) : Tlg) ∉ (stAt 16).1 := by decide +kernel
  have i3 : ((4, (3, "slow", [0])) : Tlg) ∈ (stAt 16).1 := by decide +kernel
  have l16 : (stAt 16).1.length = 16 := by decide +kernel
  unfold w_law_full_right_3 rgD
  simp? [tgs_frz]
  refine ⟨_, a16, ?_⟩
  rw [tg_frz]
  refine tell_many ha hb hf hp (by decide) t16 n16 l16 fun a b ha hb => ⟨_, ok_two, by omega, ?_⟩
  unfold w_law_full_right_4 rgD
  simp? [tgs_frz]
  refine ⟨_, a3, ?_⟩
  rw [tg_frz]
  refine tell_there ha hb hf hp (by decide) t3 i3 fun a b ha hb => ⟨_, ok_one (t := "there") (by decide +kernel) (by decide), ?_⟩
  simp? []
  refine ⟨by omega, ?_⟩
  unfold w_law_full_right_5 rgD
  simp? [tgs_frz, nB_bad bd]
  refine tell_bad ha hb hf hp (by decide) hd hT fun a b ha hb => ⟨_, ok_one (t := "telling") (by decide +kernel) (by decide), ?_⟩
  simp? []
  refine ⟨by omega, ?_⟩
  unfold w_law_full_right_6 rgD
  simp? [tgs_frz]
  refine ⟨_, a16, ?_⟩
  rw [tg_frz]
  refine unsay_gone ha hb hf hp (by decide) t16 n16 fun a b ha hb => ⟨_, ok_one (t := "gone") (by decide +kernel) (by decide), ?_⟩
  simp? []
  refine ⟨by omega, ?_⟩
  unfold w_law_full_right_7 rgD
  simp? [tgs_frz, nB_bad bd]
  refine unsay_bad ha hb hf hp (by decide) hd hT fun a b ha hb => ⟨_, ok_one (t := "telling") (by decide +kernel) (by decide), ?_⟩
  simp? []
  refine ⟨by omega, ?_⟩
  exact q a b ha hb
theorem eqd_same {d : D} (h : shp d) : eqd d d = true := SeqAt.eqv_refl _ (shaped_lay h)
theorem f_8 {Ex : XD} {KK : DEnds} {d0 d1 d2 d3 d4 d6 d7 : D} (q : KK.nx [d0, d1, d2, d3, d4, .lst .own [.tup [.str "many", .int 17, .int 16], .tup [.str "there"], .tup [.str "telling"], .tup [.str "gone"], .tup [.str "telling"]], d6, d7]) :
    w_law_full_right_8 Ex KK [d0, d1, d2, d3, d4, .lst .own [.tup [.str "many", .int 17, .int 16], .tup [.str "there"], .tup [.str "telling"], .tup [.str "gone"], .tup [.str "telling"]], d6, d7] := by
  have big : (1000 : Nat) ≤ sizeLine := by decide
  have s : shp (.lst .own [.tup [.str "many", .int 17, .int 16], .tup [.str "there"], .tup [.str "telling"], .tup [.str "gone"], .tup [.str "telling"]]) := by unfold shp; decide +kernel
  unfold w_law_full_right_8
  simp? [eqd_same s]
  exact ⟨by omega, by omega, by omega, by omega, by omega, by omega, s, s, q⟩
theorem f_13 {Ex : XD} {KK : DEnds} {R : WS} {pa : Option Addr} {w p : Int} {cs : List Int} {d d3 d4 d5 : D} {a b : M} (ha : mOS a) (hb : mOS b) (hf : fOk w cs) (hp : 1 ≤ p ∧ p ≤ 9) (hd : sm d) (hT : ¬ isMk cs.length d)
    (q : ∀ a b, mOS a → mOS b → R KK [rgD pa a b w cs p (stAt 56) ((List.range 56).map stAt), fld w cs, d, d3, d4, .lst .own [.tup [.str "many", .int 41, .int 40], .tup [.str "there"], .tup [.str "mark"], .tup [.str "gone"], .tup [.str "mark"]], .lst .own (marks.map mkD), .gone]) :
    wsS (w_law_full_right_13 Ex) (wsS (w_law_full_right_14 Ex) (wsS (w_law_full_right_15 Ex) (wsS (w_law_full_right_16 Ex) (wsS (w_law_full_right_17 Ex) R)))) KK [rgD pa a b w cs p (stAt 56) ((List.range 56).map stAt), fld w cs, d, d3, d4, d5, .lst .own (marks.map mkD), .gone] := by
  have big : (1000 : Nat) ≤ sizeLine := by decide
  have bd := hd.b
  have m16 : marks[40]? = some ((40, 0, true) : Mrk) := by decide +kernel
  have m3 : marks[7]? = some ((7, 0, false) : Mrk) := by decide +kernel
  have a16 := at_map mkD marks _ m16
  have a3 := at_map mkD marks _ m3
  have t16 := marks_ok hf.pos.1 _ (List.mem_of_getElem? m16)
  have t3 := marks_ok hf.pos.1 _ (List.mem_of_getElem? m3)
  have n16 : ((40, 0, true) : Mrk) ∉ (stAt 56).2 := by decide +kernel
  have i3 : ((7, 0, false) : Mrk) ∈ (stAt 56).2 := by decide +kernel
  have l16 : (stAt 56).2.length = 40 := by decide +kernel
  unfold w_law_full_right_13 rgD
  simp? [mks_frz]
  refine ⟨_, a16, ?_⟩
  rw [mk_frz]
  refine see_many ha hb hf hp (by decide) t16 n16 l16 fun a b ha hb => ⟨_, ok_two, by omega, ?_⟩
  unfold w_law_full_right_14 rgD
  simp? [mks_frz]
  refine ⟨_, a3, ?_⟩
  rw [mk_frz]
  refine see_there ha hb hf hp (by decide) t3 i3 fun a b ha hb => ⟨_, ok_one (t := "there") (by decide +kernel) (by decide), ?_⟩
  simp? []
  refine ⟨by omega, ?_⟩
  unfold w_law_full_right_15 rgD
  simp? [mks_frz, nB_bad bd]
  refine see_bad ha hb hf hp (by decide) hd hT fun a b ha hb => ⟨_, ok_one (t := "mark") (by decide +kernel) (by decide), ?_⟩
  simp? []
  refine ⟨by omega, ?_⟩
  unfold w_law_full_right_16 rgD
  simp? [mks_frz]
  refine ⟨_, a16, ?_⟩
  rw [mk_frz]
  refine unsee_gone ha hb hf hp (by decide) t16 n16 fun a b ha hb => ⟨_, ok_one (t := "gone") (by decide +kernel) (by decide), ?_⟩
  simp? []
  refine ⟨by omega, ?_⟩
  unfold w_law_full_right_17 rgD
  simp? [mks_frz, nB_bad bd]
  refine unsee_bad ha hb hf hp (by decide) hd hT fun a b ha hb => ⟨_, ok_one (t := "mark") (by decide +kernel) (by decide), ?_⟩
  simp? []
  refine ⟨by omega, ?_⟩
  exact q a b ha hb
theorem f_18 {Ex : XD} {KK : DEnds} {d0 d1 d2 d3 d4 d6 d7 : D} (q : KK.nx [d0, d1, d2, d3, d4, .lst .own [.tup [.str "many", .int 41, .int 40], .tup [.str "there"], .tup [.str "mark"], .tup [.str "gone"], .tup [.str "mark"]], d6, d7]) :
    w_law_full_right_18 Ex KK [d0, d1, d2, d3, d4, .lst .own [.tup [.str "many", .int 41, .int 40], .tup [.str "there"], .tup [.str "mark"], .tup [.str "gone"], .tup [.str "mark"]], d6, d7] := by
  have big : (1000 : Nat) ≤ sizeLine := by decide
  have s : shp (.lst .own [.tup [.str "many", .int 41, .int 40], .tup [.str "there"], .tup [.str "mark"], .tup [.str "gone"], .tup [.str "mark"]]) := by unfold shp; decide +kernel
  unfold w_law_full_right_18
  simp? [eqd_same s]
  exact ⟨by omega, by omega, by omega, by omega, by omega, by omega, s, s, q⟩
theorem srt_marks : srtK (marks.take 40) = marks.take 40 := List.mergeSort_of_pairwise (by decide +kernel)
theorem f_20 {Ex : XD} {KK : DEnds} {pa : Option Addr} {w p : Int} {cs : List Int} {d d4 d5 : D} {a b : M} (ha : mOS a) (hb : mOS b) (hf : fOk w cs) (hp : 1 ≤ p ∧ p ≤ 9)
    (q : ∀ a b d3 d4 d5 d6 d7, mOS a → mOS b → KK.rt (.bl true) [rgD pa a b w cs p (stAt 56) ((List.range 56).map stAt), fld w cs, d, d3, d4, d5, d6, d7]) :
    w_law_full_right_20 Ex KK [rgD pa a b w cs p (stAt 56) ((List.range 56).map stAt), fld w cs, d, .lst .own (many.map tgD), d4, d5, .lst .own (marks.map mkD), .gone] := by
  have big : (1000 : Nat) ≤ sizeLine := by decide
  have r56 := rg_ok hf hp 56 (by decide)
  have mem16 : ∀ t ∈ many.take 16, tgOk cs.length t := fun t ht => many_ok hf.pos.1 t (List.mem_of_mem_take ht)
  have okd16 := tgs_okd mem16
  unfold w_law_full_right_20
  simp? [rgD]
  refine ⟨pa, a, b, w, cs, p, stAt 56, (List.range 56).map stAt, by simp [rgD], ha, hb, r56, ?_⟩
  simp? [rgD, fld]
  refine ⟨pa, .shr, .shr, w, cs, p, stAt 56, (List.range 56).map stAt, by simp [rgD, fld], .inr rfl, .inr rfl, r56, ?_⟩
  simp? [rgD, fld, csD, tgs_frz, mks_frz]
  rw [show (16 : Int) = ((16 : Nat) : Int) from rfl, show (40 : Int) = ((40 : Nat) : Int) from rfl, cut_take, cut_take, ← List.map_take, ← List.map_take, tgs_frz, tgs_sort]
  have e56 : stAt 56 = (many.take 16, marks.take 40) := rfl
  have q' := q .shr .shr (.lst .own (many.map tgD)) d4 d5 (.lst .own (marks.map mkD)) .gone (.inr rfl) (.inr rfl)
  unfold rgD fld at q'
  have sh : shp (csD .own .own w cs p (srtT (stAt 56).1) (srtK (stAt 56).2)) := cs_shp (srt_ok r56.c)
  have e2 : csD .own .own w cs p (srtT (stAt 56).1) (srtK (stAt 56).2) = D.tup [D.tup [D.int w, D.tup (List.map D.int cs)], D.int p, D.lst M.own (List.map tgD (srtT (List.take 16 many))), D.lst M.own (List.map mkD (List.take 40 marks))] := by
    rw [e56]
    simp only [csD, fld, srt_marks]
  have e3 : D.tup [D.tup [D.int w, D.tup (List.map D.int cs)], D.int p, D.lst M.own (List.map tgD (srtT (stAt 56).1)), D.lst M.own (List.map mkD (srtK (stAt 56).2))] = csD .own .own w cs p (srtT (stAt 56).1) (srtK (stAt 56).2) := by simp only [csD, fld]
  rw [e3, ← e2, eqd_same sh]
  exact ⟨tgs_alike, tgs_sortable, okd16, by omega, sh, sh, q'⟩
theorem r_law_full_right : Tells S_law_full_right [true, true, true] 5 w_law_full_right := by
  rintro ds Q E ⟨pa, m1, m2, w, cs, p, d, rfl, h1, h2, hf, p1, p9, hd, hT, hM, hQ⟩
  show w_law_full_right _ _ [rgD pa m1 m2 w cs p ([], []) [], fld w cs, d, .gone, .gone, .gone, .gone, .gone]
  generalize (fun (c : Str) (ns : List Int) ρ => E c ns (outs [true, true, true] ρ)) = Ex
  unfold w_law_full_right
  refine f_many (Ex := Ex) ?_
  refine f_tells (Ex := Ex) h1 h2 hf ⟨p1, p9⟩ fun a b d4 ha hb => ?_
  refine f_3 (Ex := Ex) ha hb hf ⟨p1, p9⟩ hd hT fun a b ha hb => ?_
  refine f_8 (Ex := Ex) ?_
  refine f_marks (Ex := Ex) ?_
  refine f_sees (Ex := Ex) ha hb hf ⟨p1, p9⟩ fun a b d4 ha hb => ?_
  refine f_13 (Ex := Ex) ha hb hf ⟨p1, p9⟩ hd hM fun a b ha hb => ?_
  refine f_18 (Ex := Ex) ?_
  refine f_20 (Ex := Ex) ha hb hf ⟨p1, p9⟩ fun a b _ _ _ _ _ ha hb => ?_
  exact hQ a b ha hb
/-- the classes asked, of which one is that in hand -/
def wbits (c : Str) : List Bool := ys_law_said.map fun y => decide (c = y)
def wwords : List Str := ["field", "cell", "cells", "number", "fronts", "standing", "change", "changes", "day", "pace", "spans", "case", "telling", "mark", "text", "line", "there", "gone", "nothing"]
theorem wshp_lbl {m : M} {bs : List Bool} : shp (.lst m (bs.map D.bl)) = True := eq_true (shp_of (n := 1) (okP_lst fun d hd => by
  obtain ⟨b, _, rfl⟩ := List.mem_map.mp hd
  exact okP_bl) (by decide))
theorem get0x {a : D} {l : List D} : (a :: l)[0]? = some a := rfl
theorem wcnt_bl (bs : List Bool) : (bs.map D.bl).countP (fun z => eqd z (.bl true)) = bs.countP id := by
  rw [List.countP_map]
  congr 1
  funext b
  simp [eqd_bl]
theorem wfb (bs : List Bool) : frzs (bs.map D.bl) = bs.map D.bl := by
  rw [frzs_eq_map, List.map_map]
  apply List.map_congr_left
  intro b _
  show D.frz (.bl b) = .bl b
  simp [D.frz]
theorem which_head {c : Str} {ns : List Int} {a' : Addr} {KK : DEnds} (h1 : (wbits c).countP id = 1) (q : wsS (w_law_which_8 c ns a') (wsS (w_law_which_10 c ns a') (wsS (w_law_which_11 c ns a') (w_law_which_12 c ns a'))) KK [.opq (.ref a'), .lst .own ((wbits c).map D.bl), .gone]) : w_law_which c ns a' KK [.opq (.ref a'), .gone, .gone] := by
  have big : (100 : Nat) ≤ sizeLine := by decide
  unfold w_law_which w_law_which_0
  simp? [wIsE, get0x]
  refine ⟨by omega, ?_⟩
  unfold w_law_which_1
  simp? [wIsE, get0x]
  refine ⟨by omega, by decide, by decide, by omega, ?_⟩
  unfold w_law_which_2
  simp? [wIsE, get0x]
  refine ⟨by omega, by decide, by decide, by omega, ?_⟩
  unfold w_law_which_3
  simp? [wIsE, get0x]
  refine ⟨by omega, by decide, by decide, by omega, ?_⟩
  unfold w_law_which_4
  simp? [wIsE, get0x]
  refine ⟨by omega, by decide, by decide, by omega, ?_⟩
  unfold w_law_which_5
  simp? [wIsE, get0x]
  refine ⟨by omega, by decide, by decide, by omega, ?_⟩
  rw [show [D.bl (decide (c = "NoField")), D.bl (decide (c = "NoCell")), D.bl (decide (c = "NoCells")), D.bl (decide (c = "NoNumber")), D.bl (decide (c = "NoFronts")), D.bl (decide (c = "NoStanding")), D.bl (decide (c = "NoChange")), D.bl (decide (c = "NoChanges")), D.bl (decide (c = "NoDay")), D.bl (decide (c = "NoPace")), D.bl (decide (c = "NoSpans")), D.bl (decide (c = "NoCase")), D.bl (decide (c = "NoTelling")), D.bl (decide (c = "NoMark")), D.bl (decide (c = "NoText")), D.bl (decide (c = "NoLine")), D.bl (decide (c = "There")), D.bl (decide (c = "Gone")), D.bl (decide (c = "Nothing")), D.bl (decide (c = "TooMany"))] = (wbits c).map D.bl from rfl]
  generalize wbits c = bs at *
  unfold w_law_which_6
  simp? [wIsE, get0x, cntLF, wshp_lbl, wcnt_bl, h1]
  rw [if_pos (by decide)]
  exact q
/-- a refusal without numbers -/
theorem which_one {c t : Str} {ns : List Int} {j : Nat} (h1 : (wbits c).countP id = 1) (h2 : (wbits c)[j]? = some true) (h3 : ∀ i, i < j → (wbits c)[i]? = some false) (h4 : wwords[j]? = some t) (h5 : (wbits c)[19]? = some false) (a' : Addr) (R : D → List D → Prop) (hR : ∀ r, R (.tup [.str t]) r) : w_law_which c ns a' { nx := fun _ => False, rt := R } [.opq (.ref a'), .gone, .gone] := by
  have big : (100 : Nat) ≤ sizeLine := by decide
  refine which_head h1 ?_
  have hlb : (wbits c).length = 20 := by simp [wbits, ys_law_said]
  generalize wbits c = bs at *
  have fb := wfb bs
  unfold w_law_which_8
  simp? []
  refine ⟨.bl false, by rw [show (19 : Int) = ((19 : Nat) : Int) from rfl, watI_nat (by simp; omega), List.getElem?_map, h5]; rfl, ?_⟩
  simp? [fb]
  unfold w_law_which_10
  simp? []
  refine ⟨by omega, ?_⟩
  unfold w_law_which_11
  simp? []
  refine ⟨by omega, by decide, by decide, by omega, ?_⟩
  rw [show [D.str "field", D.str "cell", D.str "cells", D.str "number", D.str "fronts", D.str "standing", D.str "change", D.str "changes", D.str "day", D.str "pace", D.str "spans", D.str "case", D.str "telling", D.str "mark", D.str "text", D.str "line", D.str "there", D.str "gone", D.str "nothing"] = wwords.map D.str from rfl]
  unfold w_law_which_12
  have hj : j < 20 := by
    have := (List.getElem?_eq_some_iff.mp h2).1
    omega
  simp? [ixLF, wshp_lbl]
  refine ⟨j, .bl true, by rw [List.getElem?_map, h2]; rfl, by simp [eqd_bl], fun i z' hi hz => ?_, ?_⟩
  · rw [List.getElem?_map, h3 i hi] at hz
    cases hz
    simp [eqd_bl]
  · refine ⟨.str t, ?_, ?_⟩
    · rw [watI_nat (by rw [List.length_map]; exact (List.getElem?_eq_some_iff.mp h4).1), List.getElem?_map, h4]
      rfl
    · simp? []
      exact ⟨by omega, hR _⟩
theorem which_many (m n : Int) (a' : Addr) (R : D → List D → Prop) (hR : ∀ r, R (.tup [.str "many", .int m, .int n]) r) : w_law_which "TooMany" [m, n] a' { nx := fun _ => False, rt := R } [.opq (.ref a'), .gone, .gone] := by
  have big : (100 : Nat) ≤ sizeLine := by decide
  refine which_head (by decide +kernel) ?_
  have h5 : (wbits "TooMany")[19]? = some true := by decide +kernel
  have hlb : (wbits "TooMany").length = 20 := by simp [wbits, ys_law_said]
  generalize wbits "TooMany" = bs at *
  have fb := wfb bs
  unfold w_law_which_8
  simp? []
  refine ⟨.bl true, by rw [show (19 : Int) = ((19 : Nat) : Int) from rfl, watI_nat (by simp; omega), List.getElem?_map, h5]; rfl, ?_⟩
  simp? [fb]
  unfold w_law_which_9
  simp? [wXfM, get0x]
  exact ⟨⟨_, _, rfl⟩, ⟨_, _, rfl⟩, by omega, hR _⟩
theorem r_law_which : ∀ c ns t, ok_law_said c ns = some t → ∀ (a' : Addr) (R : D → List D → Prop), (∀ r, R t r) → w_law_which c ns a' { nx := fun _ => False, rt := R } ((List.replicate N_law_which.length .gone).set 0 (.opq (.ref a'))) := by
  intro c ns t h a' R hR
  have hm : ∃ z, (c, z) ∈ ol_law_said := okM_mem h
  obtain ⟨z, hm⟩ := hm
  simp only [ol_law_said, List.mem_cons, List.not_mem_nil, or_false, Prod.mk.injEq] at hm
  unfold ok_law_said okM at h
  match ns, h with
  | [], h =>
    rcases hm with ⟨rfl, rfl⟩ | ⟨rfl, rfl⟩ | ⟨rfl, rfl⟩ | ⟨rfl, rfl⟩ | ⟨rfl, rfl⟩ | ⟨rfl, rfl⟩ | ⟨rfl, rfl⟩ | ⟨rfl, rfl⟩ | ⟨rfl, rfl⟩ | ⟨rfl, rfl⟩
    · have e : D.tup [.str "field"] = t := by
        rw [if_neg (by decide)] at h
        exact Option.some.inj h
      subst e
      exact which_one (j := 0) (by decide +kernel) (by decide +kernel) (by decide +kernel) (by decide +kernel) (by decide +kernel) a' R hR
    · have e : D.tup [.str "pace"] = t := by
        rw [if_neg (by decide)] at h
        exact Option.some.inj h
      subst e
      exact which_one (j := 9) (by decide +kernel) (by decide +kernel) (by decide +kernel) (by decide +kernel) (by decide +kernel) a' R hR
    · have e : D.tup [.str "telling"] = t := by
        rw [if_neg (by decide)] at h
        exact Option.some.inj h
      subst e
      exact which_one (j := 12) (by decide +kernel) (by decide +kernel) (by decide +kernel) (by decide +kernel) (by decide +kernel) a' R hR
    · have e : D.tup [.str "mark"] = t := by
        rw [if_neg (by decide)] at h
        exact Option.some.inj h
      subst e
      exact which_one (j := 13) (by decide +kernel) (by decide +kernel) (by decide +kernel) (by decide +kernel) (by decide +kernel) a' R hR
    · have e : D.tup [.str "there"] = t := by
        rw [if_neg (by decide)] at h
        exact Option.some.inj h
      subst e
      exact which_one (j := 16) (by decide +kernel) (by decide +kernel) (by decide +kernel) (by decide +kernel) (by decide +kernel) a' R hR
    · have e : D.tup [.str "gone"] = t := by
        rw [if_neg (by decide)] at h
        exact Option.some.inj h
      subst e
      exact which_one (j := 17) (by decide +kernel) (by decide +kernel) (by decide +kernel) (by decide +kernel) (by decide +kernel) a' R hR
    · have e : D.tup [.str "nothing"] = t := by
        rw [if_neg (by decide)] at h
        exact Option.some.inj h
      subst e
      exact which_one (j := 18) (by decide +kernel) (by decide +kernel) (by decide +kernel) (by decide +kernel) (by decide +kernel) a' R hR
    · have e : D.tup [.str "day"] = t := by
        rw [if_neg (by decide)] at h
        exact Option.some.inj h
      subst e
      exact which_one (j := 8) (by decide +kernel) (by decide +kernel) (by decide +kernel) (by decide +kernel) (by decide +kernel) a' R hR
    · have e : D.tup [.str "cell"] = t := by
        rw [if_neg (by decide)] at h
        exact Option.some.inj h
      subst e
      exact which_one (j := 1) (by decide +kernel) (by decide +kernel) (by decide +kernel) (by decide +kernel) (by decide +kernel) a' R hR
    · rw [if_pos rfl] at h
      cases h
  | [m, n], h =>
    rcases hm with ⟨rfl, rfl⟩ | ⟨rfl, rfl⟩ | ⟨rfl, rfl⟩ | ⟨rfl, rfl⟩ | ⟨rfl, rfl⟩ | ⟨rfl, rfl⟩ | ⟨rfl, rfl⟩ | ⟨rfl, rfl⟩ | ⟨rfl, rfl⟩ | ⟨rfl, rfl⟩
    · rw [if_neg (by decide)] at h
      cases h
    · rw [if_neg (by decide)] at h
      cases h
    · rw [if_neg (by decide)] at h
      cases h
    · rw [if_neg (by decide)] at h
      cases h
    · rw [if_neg (by decide)] at h
      cases h
    · rw [if_neg (by decide)] at h
      cases h
    · rw [if_neg (by decide)] at h
      cases h
    · rw [if_neg (by decide)] at h
      cases h
    · rw [if_neg (by decide)] at h
      cases h
    · have e : D.tup [.str "many", .int m, .int n] = t := by
        rw [if_pos rfl] at h
        exact Option.some.inj h
      subst e
      exact which_many m n a' R hR
theorem smB_ok : ∀ (n : Nat) (d : D), smB n d = true → smN n d
  | n + 1, .tup ds, h => by
    simp only [smB, Bool.and_eq_true, decide_eq_true_eq, List.all_eq_true] at h
    exact ⟨h.1, fun d hd => smB_ok n d (h.2 d hd)⟩
  | n + 1, .lst .shr ds, h => by
    simp only [smB, Bool.and_eq_true, decide_eq_true_eq, List.all_eq_true] at h
    exact ⟨h.1, fun d hd => smB_ok n d (h.2 d hd)⟩
  | n + 1, .lst .own ds, h => by cases h
  | n + 1, .lst .con ds, h => by cases h
  | 0, .tup ds, h => by cases h
  | 0, .lst _ ds, h => by cases h
  | 0, .non, h => trivial
  | n + 1, .non, h => trivial
  | 0, .bl _, h => trivial
  | n + 1, .bl _, h => trivial
  | 0, .int _, h => trivial
  | n + 1, .int _, h => trivial
  | 0, .str s, h => by simpa [smB, smN] using h
  | n + 1, .str s, h => by simpa [smB, smN] using h
  | 0, .dct .shr _ _, h => trivial
  | n + 1, .dct .shr _ _, h => trivial
  | 0, .dct .own _ _, h => by cases h
  | n + 1, .dct .own _ _, h => by cases h
  | 0, .dct .con _ _, h => by cases h
  | n + 1, .dct .con _ _, h => by cases h
  | 0, .gone, h => by cases h
  | n + 1, .gone, h => by cases h
  | 0, .ndc .., h => by cases h
  | n + 1, .ndc .., h => by cases h
  | 0, .ldc .., h => by cases h
  | n + 1, .ldc .., h => by cases h
  | 0, .opq .., h => by cases h
  | n + 1, .opq .., h => by cases h
  | 0, .ext .., h => by cases h
  | n + 1, .ext .., h => by cases h
  | 0, .ins .., h => by cases h
  | n + 1, .ins .., h => by cases h
theorem odd_sm {d : D} (h : oddNo d = true) : sm d := ⟨3, smB_ok 3 d (by unfold oddNo at h; exact (Bool.and_eq_true_iff.mp h).1)⟩
theorem odd_tg {d : D} (h : oddNo d = true) {n : Int} : ¬ isTg n d := by
  rintro ⟨t, rfl, _⟩
  have := (Bool.and_eq_true_iff.mp (show (smB 3 _ && noTM _) = true from h)).2
  cases this
theorem odd_mk {d : D} (h : oddNo d = true) {n : Int} : ¬ isMk n d := by
  rintro ⟨t, rfl, _⟩
  have := (Bool.and_eq_true_iff.mp (show (smB 3 _ && noTM _) = true from h)).2
  cases this
theorem r_law_odd : Tells S_law_odd [true] 1 w_law_odd := by
  rintro ds Q E ⟨a, rfl, _, h2⟩
  have big : (1000 : Nat) ≤ sizeLine := by decide
  show w_law_odd _ _ [box a, .gone]
  generalize (fun (c : Str) (ns : List Int) ρ => E c ns (outs [true] ρ)) = Ex
  unfold w_law_odd w_law_odd_0 box
  simp? []
  refine ⟨⟨by decide, by decide, by decide⟩, by decide, by decide, by decide, by decide, ?_⟩
  unfold w_law_odd_1
  simp? []
  repeat (refine ⟨by decide, ?_⟩)
  unfold w_law_odd_2
  simp? []
  refine ⟨a, 28, rfl, by decide, by decide, fun a t t0 t1 => ?_⟩
  simp? [box]
  have e10 : (10 : Int) ^ Int.toNat 19 = 10000000000000000000 := by decide
  rw [e10]
  have ht : t = 0 ∨ t = 1 ∨ t = 2 ∨ t = 3 ∨ t = 4 ∨ t = 5 ∨ t = 6 ∨ t = 7 ∨ t = 8 ∨ t = 9 ∨ t = 10 ∨ t = 11 ∨ t = 12 ∨ t = 13 ∨ t = 14 ∨ t = 15 ∨ t = 16 ∨ t = 17 ∨ t = 18 ∨ t = 19 ∨ t = 20 ∨ t = 21 ∨ t = 22 ∨ t = 23 ∨ t = 24 ∨ t = 25 ∨ t = 26 ∨ t = 27 := by omega
  rcases ht with rfl | rfl | rfl | rfl | rfl | rfl | rfl | rfl | rfl | rfl | rfl | rfl | rfl | rfl | rfl | rfl | rfl | rfl | rfl | rfl | rfl | rfl | rfl | rfl | rfl | rfl | rfl | rfl
  all_goals exact ⟨_, rfl, h2 a _ (by decide +kernel)⟩
theorem r_law_made_right : Tells S_law_made_right [true, true] 1 w_law_made_right := by
  rintro ds Q E ⟨w, cs, p, rfl, hf, p0, h2⟩
  have big : (1000 : Nat) ≤ sizeLine := by decide
  show w_law_made_right _ _ [fld w cs, .int p, .gone]
  generalize (fun (c : Str) (ns : List Int) ρ => E c ns (outs [true, true] ρ)) = Ex
  unfold w_law_made_right w_law_made_right_0 fld
  simp? []
  refine ⟨by omega, by omega, fun a => ?_⟩
  have nF : ¬ isF (D.tup [.int 0, .tup []]) := by
    rintro ⟨w, cs, e, hf⟩
    simp only [fld, D.tup.injEq, List.cons.injEq, D.int.injEq, and_true] at e
    have := hf.1
    omega
  have s0 : sm (D.tup [.int 0, .tup []]) := ⟨3, smB_ok 3 _ (by decide +kernel)⟩
  refine ⟨some a, _, _, rfl, s0, sm_int, fun _ => ⟨_, ok_one (t := "field") (by decide +kernel) (by decide), by omega, ?_⟩, fun z => absurd z nF, fun w cs p e hf => absurd ⟨w, cs, e, hf⟩ nF⟩
  have hp : ∃ i : Nat, i < 4 ∧ p % 4 = (i : Int) := ⟨(p % 4).toNat, by omega, by omega⟩
  obtain ⟨i, hi, ei⟩ := hp
  unfold w_law_made_right_1
  simp? [ei]
  have hat : ∃ d : D, atI [D.int 0, .int 10, .bl true, .non] (i : Int) = some d ∧ d.frz = d ∧ sm d ∧ isWhole d 1 9 = false := by
    match i, hi with
    | 0, _ => exact ⟨_, rfl, rfl, sm_int, rfl⟩
    | 1, _ => exact ⟨_, rfl, rfl, sm_int, rfl⟩
    | 2, _ => exact ⟨_, rfl, rfl, sm_bl, rfl⟩
    | 3, _ => exact ⟨_, rfl, rfl, ⟨0, trivial⟩, rfl⟩
  obtain ⟨d, e1, e2, e3, e4⟩ := hat
  refine ⟨by omega, by decide, d, e1, fun a => ?_⟩
  rw [e2]
  refine ⟨some a, _, _, rfl, sm_fOk hf, e3, fun z => absurd ⟨w, cs, rfl, hf⟩ z, fun _ _ => ⟨_, ok_one (t := "pace") (by decide +kernel) (by decide), ?_⟩, fun w2 cs2 p2 _ _ e' h1 h9 => ?_⟩
  · simp? []
    refine ⟨by omega, ?_⟩
    have s : shp (.lst .own [.tup [.str "field"], .tup [.str "pace"]]) := by unfold shp; decide +kernel
    unfold w_law_made_right_2
    simp? [eqd_same s]
    exact ⟨by omega, by omega, by omega, s, s, h2⟩
  · subst e'
    simp [isWhole, h1] at e4
    omega
theorem hold_bad {pa : Option Addr} {w p : Int} {cs : List Int} {s : List Tlg × List Mrk} {Pa : List (List Tlg × List Mrk)} {d : D} {a b : M} {P : D → List D → Prop} {E : XD} (ha : mOS a) (hb : mOS b) (h : rgOk w cs p s Pa) (hd : sm d) (hw : isWhole d 0 999 = false) (q : E "NoDay" [] [rgD pa .shr .shr w cs p s Pa, d]) : S_Register_holders_now [rgD pa a b w cs p s Pa, d] P E :=
  ⟨pa, a, b, w, cs, p, s, Pa, d, rfl, ha, hb, h, hd, hw, q⟩
theorem r_law_asked_right : Tells S_law_asked_right [true, true, true] 1 w_law_asked_right := by
  rintro ds Q E ⟨pa, m1, m2, w, cs, p, s, P, d, rfl, h1, h2, h, hQ⟩
  have big : (1000 : Nat) ≤ sizeLine := by decide
  show w_law_asked_right _ _ [rgD pa m1 m2 w cs p s P, fld w cs, d, .gone]
  generalize (fun (c : Str) (ns : List Int) ρ => E c ns (outs [true, true, true] ρ)) = Ex
  unfold w_law_asked_right w_law_asked_right_0 rgD
  simp? []
  refine hold_bad h1 h2 h sm_int rfl ⟨_, ok_one (t := "day") (by decide +kernel) (by decide), by omega, ?_⟩
  unfold w_law_asked_right_1 rgD fld
  simp? []
  refine ⟨pa, .shr, .shr, w, cs, p, s, P, .bl true, .int cs.length, by simp [rgD, fld], .inr rfl, .inr rfl, h, sm_bl, sm_int, fun z => (by cases z), fun _ => ⟨_, ok_one (t := "day") (by decide +kernel) (by decide), ?_⟩, fun z => (by cases z)⟩
  simp? []
  refine ⟨by omega, ?_⟩
  unfold w_law_asked_right_2 rgD fld
  simp? []
  refine ⟨pa, .shr, .shr, w, cs, p, s, P, .int 5, .int cs.length, by simp [rgD, fld], .inr rfl, .inr rfl, h, sm_int, sm_int, fun _ => by simp [isWhole] <;> omega, fun z => (by cases z), fun _ => ⟨_, ok_one (t := "cell") (by decide +kernel) (by decide), ?_⟩⟩
  simp? []
  refine ⟨by omega, ?_⟩
  unfold w_law_asked_right_3 rgD fld
  simp? []
  refine ⟨pa, .shr, .shr, w, cs, p, s, P, .int 5, .int (-1), by simp [rgD, fld], .inr rfl, .inr rfl, h, sm_int, sm_int, fun _ => by simp [isWhole], fun z => (by cases z), fun _ => ⟨_, ok_one (t := "cell") (by decide +kernel) (by decide), ?_⟩⟩
  simp? []
  refine ⟨by omega, ?_⟩
  unfold w_law_asked_right_4 rgD fld
  simp? []
  refine ⟨pa, .shr, .shr, w, cs, p, s, P, .str "5", by simp [rgD, fld], .inr rfl, .inr rfl, h, sm_s (by decide +kernel) (by decide +kernel), rfl, ⟨_, ok_one (t := "day") (by decide +kernel) (by decide), ?_⟩⟩
  simp? []
  refine ⟨by omega, ?_⟩
  have sh : shp (.lst .own [.tup [.str "day"], .tup [.str "day"], .tup [.str "cell"], .tup [.str "cell"], .tup [.str "day"]]) := by unfold shp; decide +kernel
  unfold w_law_asked_right_5
  simp? [eqd_same sh]
  exact ⟨by omega, by omega, by omega, by omega, by omega, by omega, sh, sh, hQ .shr .shr (.inr rfl) (.inr rfl)⟩
theorem gbs_none {es ρ : List D} : gbs [none] es ρ = ρ := by
  cases es with
  | nil => rfl
  | cons x t => cases t <;> rfl
theorem r_law : Tells S_law [true] 2 w_law := by
  rintro ds Q E ⟨ns, rfl, h1, h3⟩
  show w_law _ _ [.lst .con (ns.map D.int), .gone, .gone]
  generalize (fun (c : Str) (ns : List Int) ρ => E c ns (outs [true] ρ)) = Ex
  unfold w_law w_law_0
  simp? []
  refine ⟨by omega, by omega, ?_⟩
  refine forL_inv (fun i ρ => ∃ d1 d2 : D, ρ = [.lst .con (ns.map D.int), d1, d2]) ⟨_, _, rfl⟩ ?_ ?_
  · rintro i its ρ K hi ⟨d1, d2, rfl⟩ hk
    obtain ⟨rfl, hi2⟩ := rg_item hi
    simp? []
    unfold w_law_1
    simp? []
    refine ⟨by decide, by decide, ?_⟩
    refine forL_inv (fun j ρ => ∃ d2 : D, ρ = [.lst .con (ns.map D.int), .int i, d2]) ⟨_, rfl⟩ ?_ ?_
    · rintro j its ρ K2 hj ⟨d2, rfl⟩ hk2
      obtain ⟨rfl, hj2⟩ := rg_item hj
      simp? []
      unfold w_law_2
      simp? []
      refine ⟨ns, i, j, rfl, h1, by omega, by omega, by omega, by omega, fun a => ?_⟩
      simp? [box]
      refine ⟨a, rfl, trivial, fun a' => ?_⟩
      simp? []
      rw [gbs_none]
      exact hk2 _ ⟨_, rfl⟩
    · rintro ρ ⟨d2, rfl⟩
      exact hk _ ⟨_, _, rfl⟩
  · rintro ρ ⟨d1, d2, rfl⟩
    unfold w_law_4
    simp? []
    exact h3 _
theorem fld_inj {w w' : Int} {cs cs' : List Int} (h : fld w cs = fld w' cs') : w' = w ∧ cs' = cs := by
  simp only [fld, D.tup.injEq, List.cons.injEq, D.int.injEq, and_true] at h
  exact ⟨h.1.symm, ((List.map_inj_right fun x y e => by injection e).mp h.2).symm⟩
theorem q_2 {Ex : XD} {KK : DEnds} {a w : Int} {cs : List Int} {d2 d3 d4 d5 d6 : D}
    (q : ∀ a d, oddNo d = true → KK.nx [box a, fld w cs, d2, d3, .lst .own [d, tgD (1, (1000, "slow", [0])), mkD (0, cs.length, true), tgD (10, (1, "leap", [0]))], d5, d6]) :
    w_law_right_2 Ex KK [box a, fld w cs, d2, d3, d4, d5, d6] := by
  have big : (1000 : Nat) ≤ sizeLine := by decide
  unfold w_law_right_2 box fld
  simp? []
  refine ⟨a, rfl, trivial, fun a d hd => ?_⟩
  simp? []
  refine ⟨by omega, by omega, by omega, by omega, by omega, by omega, by omega, by omega, ?_⟩
  exact q a d hd
theorem q_3 {Ex : XD} {KK : DEnds} {a w : Int} {cs : List Int} {d d2 d3 d5 d6 : D} (hd : oddNo d = true)
    (q : ∀ a d d4, sm d → ¬ isTg cs.length d → ¬ isMk cs.length d → KK.nx [box a, fld w cs, d2, d3, d4, d, d6]) :
    w_law_right_3 Ex KK [box a, fld w cs, d2, d3, .lst .own [d, tgD (1, (1000, "slow", [0])), mkD (0, cs.length, true), tgD (10, (1, "leap", [0]))], d5, d6] := by
  have big : (1000 : Nat) ≤ sizeLine := by decide
  unfold w_law_right_3 box
  simp? []
  refine ⟨a, 4, rfl, by decide, by decide, fun a t t0 t1 => ?_⟩
  simp? [box]
  have key : ∃ d0 : D, atI [d, tgD (1, (1000, "slow", [0])), mkD (0, cs.length, true), tgD (10, (1, "leap", [0]))] t = some d0 ∧ d0.frz = d0 ∧ sm d0 ∧ ¬ isTg cs.length d0 ∧ ¬ isMk cs.length d0 := by
    have ht : t = 0 ∨ t = 1 ∨ t = 2 ∨ t = 3 := by omega
    rcases ht with rfl | rfl | rfl | rfl
    · exact ⟨_, rfl, frz_of_solid _ (odd_sm hd).b.1, odd_sm hd, odd_tg hd, odd_mk hd⟩
    · refine ⟨_, rfl, tg_frz _, ⟨3, smB_ok 3 _ (by decide +kernel)⟩, ?_, ?_⟩
      · rintro ⟨t, e, ht⟩
        obtain rfl := tgD_inj e
        have := ht.2.2.day.2
        simp at this
      · rintro ⟨k, e, _⟩
        simp [tgD, mkD] at e
    · refine ⟨_, rfl, mk_frz _, mk_sm, ?_, ?_⟩
      · rintro ⟨t, e, _⟩
        simp [tgD, mkD] at e
      · rintro ⟨k, e, hk⟩
        obtain rfl := mkD_inj e
        have := hk.2.2.2
        simp at this
    · refine ⟨_, rfl, tg_frz _, ⟨3, smB_ok 3 _ (by decide +kernel)⟩, ?_, ?_⟩
      · rintro ⟨t, e, ht⟩
        obtain rfl := tgD_inj e
        have := ht.2.1
        simp at this
      · rintro ⟨k, e, _⟩
        simp [tgD, mkD] at e
  obtain ⟨d0, e1, e2, e3, e4, e5⟩ := key
  refine ⟨d0, e1, ?_⟩
  rw [e2]
  exact q a d0 _ e3 e4 e5
theorem undo_no {pa : Option Addr} {w p : Int} {cs : List Int} {a b : M} {P : D → List D → Prop} {E : XD} (ha : mOS a) (hb : mOS b) (hf : fOk w cs) (hp : 1 ≤ p ∧ p ≤ 9) (q : ∀ a b, mOS a → mOS b → E "Nothing" [] [rgD pa a b w cs p ([], []) []]) : S_Register_undo [rgD pa a b w cs p ([], []) []] P E :=
  ⟨pa, a, b, w, cs, p, ([], []), [], rfl, ha, hb, rg_ok hf hp 0 (by decide), fun _ => q, fun P0 s0 e => by simp at e⟩
theorem undo_one {pa : Option Addr} {w p : Int} {cs : List Int} {a b : M} {j : Nat} {P : D → List D → Prop} {E : XD} (ha : mOS a) (hb : mOS b) (hf : fOk w cs) (hp : 1 ≤ p ∧ p ≤ 9) (hj : j + 1 ≤ 56) (q : ∀ a b, mOS a → mOS b → P .non [rgD pa a b w cs p (stAt j) ((List.range j).map stAt)]) :
    S_Register_undo [rgD pa a b w cs p (stAt (j + 1)) ((List.range (j + 1)).map stAt)] P E :=
  ⟨pa, a, b, w, cs, p, stAt (j + 1), (List.range (j + 1)).map stAt, rfl, ha, hb, rg_ok hf hp (j + 1) hj, fun z => by simp at z, fun P0 s0 e => by
    rw [rg_succ] at e
    obtain ⟨rfl, e2⟩ := List.append_inj' e rfl
    obtain rfl := (List.cons.inj e2).1
    exact q⟩
theorem q_4 {Ex : XD} {KK : DEnds} {pa : Option Addr} {w p : Int} {cs : List Int} {d0 d4 d5 d6 : D} {a b : M} (ha : mOS a) (hb : mOS b) (hf : fOk w cs) (hp : 1 ≤ p ∧ p ≤ 9)
    (q : ∀ a b, mOS a → mOS b → KK.nx [d0, fld w cs, .int p, rgD pa a b w cs p ([], []) [], d4, d5, d6]) :
    w_law_right_4 Ex KK [d0, fld w cs, .int p, rgD pa a b w cs p ([], []) [], d4, d5, d6] := by
  have big : (1000 : Nat) ≤ sizeLine := by decide
  have sn : shp (.tup [.str "nothing"]) := by unfold shp; decide +kernel
  unfold w_law_right_4 rgD fld
  simp? []
  refine undo_no ha hb hf hp fun a b ha hb => ⟨_, ok_one (t := "nothing") (by decide +kernel) (by decide), ?_⟩
  refine ⟨by omega, sn, sn, ?_⟩
  rw [eqd_same sn]
  simp? []
  refine ⟨w, cs, p, rfl, hf, by omega, ?_⟩
  simp? [truW]
  exact q a b ha hb
theorem q_6 {Ex : XD} {KK : DEnds} {pa : Option Addr} {w p : Int} {cs : List Int} {d d0 d4 d6 : D} {a b : M} (ha : mOS a) (hb : mOS b) (hf : fOk w cs) (hp : 1 ≤ p ∧ p ≤ 9) (hd : sm d) (hT : ¬ isTg cs.length d) (hM : ¬ isMk cs.length d)
    (q : ∀ a b, mOS a → mOS b → KK.nx [d0, fld w cs, .int p, rgD pa a b w cs p (stAt 56) ((List.range 56).map stAt), d4, d, d6]) :
    w_law_right_6 Ex KK [d0, fld w cs, .int p, rgD pa a b w cs p ([], []) [], d4, d, d6] := by
  have big : (1000 : Nat) ≤ sizeLine := by decide
  have bd := hd.b
  unfold w_law_right_6 rgD fld
  simp? [nB_bad bd]
  refine ⟨pa, a, b, w, cs, p, d, rfl, ha, hb, hf, hp.1, hp.2, hd, hT, hM, fun a b ha hb => ?_⟩
  generalize hst : stAt 56 = st
  generalize hpa : (List.range 56).map stAt = Pa
  have r56 : rgOk w cs p st Pa := by rw [← hst, ← hpa]; exact rg_ok hf hp 56 (by decide)
  simp? [truW, rgD, fld, nB_bad bd]
  refine ⟨pa, a, b, w, cs, p, st, Pa, d, rfl, ha, hb, r56, fun a b ha hb => ?_⟩
  simp? [truW]
  rw [← hst, ← hpa]
  exact q a b ha hb
theorem q_8 {Ex : XD} {KK : DEnds} {pa : Option Addr} {w p : Int} {cs : List Int} {d0 d1 d2 d4 d5 d6 : D} {a b : M} (ha : mOS a) (hb : mOS b) (hf : fOk w cs) (hp : 1 ≤ p ∧ p ≤ 9)
    (q : ∀ a b d6, mOS a → mOS b → KK.nx [d0, d1, d2, rgD pa a b w cs p ([], []) [], d4, d5, d6]) :
    w_law_right_8 Ex KK [d0, d1, d2, rgD pa a b w cs p (stAt 56) ((List.range 56).map stAt), d4, d5, d6] := by
  have big : (1000 : Nat) ≤ sizeLine := by decide
  have sn : shp (.lst .own [.non]) := by unfold shp; decide +kernel
  unfold w_law_right_8
  simp? []
  refine ⟨by decide, by decide, ?_⟩
  refine forL_inv (fun i ρ => ∃ a b d6, mOS a ∧ mOS b ∧ ρ = [d0, d1, d2, rgD pa a b w cs p (stAt (56 - i)) ((List.range (56 - i)).map stAt), d4, d5, d6]) ⟨a, b, d6, ha, hb, rfl⟩ ?_ ?_
  · rintro i its ρ K hi ⟨a, b, d6, ha, hb, rfl⟩ hk
    obtain ⟨rfl, hi2⟩ := rg_item (n := Int.toNat 56) hi
    have hi56 : i < 56 := hi2
    obtain ⟨j, hj⟩ : ∃ j, 56 - i = j + 1 := ⟨56 - i - 1, by omega⟩
    rw [hj]
    simp? []
    unfold w_law_right_9 rgD
    simp? []
    refine undo_one ha hb hf hp (by omega) fun a b ha hb => ?_
    generalize hst : stAt j = st
    generalize hpa : (List.range j).map stAt = Pa
    simp? []
    refine ⟨by omega, sn, sn, ?_⟩
    rw [eqd_same sn]
    simp? []
    refine hk _ ⟨a, b, .int (i : Int), ha, hb, ?_⟩
    rw [show 56 - (i + 1) = j by omega, hst, hpa]
  · rintro ρ ⟨a, b, d6, ha, hb, rfl⟩
    have e : (rgL 0 (Int.toNat 56)).length = 56 := by simp [rgL]
    rw [e]
    exact q a b d6 ha hb
theorem q_11 {Ex : XD} {KK : DEnds} {pa : Option Addr} {w p : Int} {cs : List Int} {d0 d4 d5 d6 : D} {a b : M} (ha : mOS a) (hb : mOS b) (hf : fOk w cs) (hp : 1 ≤ p ∧ p ≤ 9)
    (q : ∀ r, KK.rt (.bl true) r) :
    w_law_right_11 Ex KK [d0, fld w cs, .int p, rgD pa a b w cs p ([], []) [], d4, d5, d6] := by
  have big : (1000 : Nat) ≤ sizeLine := by decide
  have sn : shp (.tup [.str "nothing"]) := by unfold shp; decide +kernel
  have r0 : rgOk w cs p ([], []) [] := rg_ok hf hp 0 (by decide)
  have sc : shp (csD .own .own w cs p [] []) := cs_shp r0.c
  unfold w_law_right_11 rgD fld
  simp? []
  refine undo_no ha hb hf hp fun a b ha hb => ⟨_, ok_one (t := "nothing") (by decide +kernel) (by decide), ?_⟩
  refine ⟨by omega, sn, sn, ?_⟩
  rw [eqd_same sn]
  simp? [truW, rgD, fld]
  refine ⟨pa, a, b, w, cs, p, ([], []), [], by simp [rgD, fld], ha, hb, r0, ?_⟩
  simp? [rgD, fld]
  have e0 : csD .own .own w cs p (srtT []) (srtK []) = csD .own .own w cs p [] [] := by simp [srtT, srtK]
  have e1 : D.tup [D.tup [D.int w, D.tup (List.map D.int cs)], D.int p, D.lst M.own [], D.lst M.own []] = csD .own .own w cs p [] [] := by simp [csD, fld]
  rw [e0, e1, eqd_same sc]
  exact ⟨by omega, by omega, by omega, sc, sc, q _⟩
theorem r_law_right : Tells S_law_right [true] 6 w_law_right := by
  rintro ds Q E ⟨a, rfl, _, hQ⟩
  have big : (1000 : Nat) ≤ sizeLine := by decide
  show w_law_right _ _ [box a, .gone, .gone, .gone, .gone, .gone, .gone]
  generalize (fun (c : Str) (ns : List Int) ρ => E c ns (outs [true] ρ)) = Ex
  unfold w_law_right w_law_right_0 box
  simp? []
  refine ⟨a, 4, rfl, by decide, by decide, fun a w cs hf => ?_⟩
  simp? [box]
  refine ⟨a, 9, rfl, by decide, by decide, fun a p0 pl ph => ?_⟩
  simp? [box]
  have hp : 1 ≤ 1 + p0 ∧ 1 + p0 ≤ 9 := by omega
  generalize 1 + p0 = p at hp
  unfold w_law_right_1 fld
  simp? []
  intro ad
  refine ⟨some ad, fld w cs, .int p, rfl, sm_fOk hf, sm_int, fun z => absurd ⟨w, cs, rfl, hf⟩ z, fun _ z => ?_, fun w' cs' p' e1 _ e2 _ _ => ?_⟩
  · simp [isWhole, hp] at z
  obtain ⟨rfl, rfl⟩ := fld_inj e1
  cases e2
  refine ⟨_, _, rfl, rfl, ?_⟩
  refine q_2 (Ex := Ex) fun a d hd => ?_
  refine q_3 (Ex := Ex) hd fun a d d4 h1 h2 h3 => ?_
  refine q_4 (Ex := Ex) (.inl rfl) (.inl rfl) hf hp fun a1 b1 ha hb => ?_
  refine q_6 (Ex := Ex) ha hb hf hp h1 h2 h3 fun a1 b1 ha hb => ?_
  refine q_8 (Ex := Ex) ha hb hf hp fun a1 b1 d6 ha hb => ?_
  exact q_11 (Ex := Ex) ha hb hf hp fun r => hQ _
theorem ok_law_cell {P : Program} {w : PySem.World} {K : PySem.W.Frag} {mg : Str → Option Value} {base : Heap} {T : List (Addr × Str)} {f : Addr} {fd : FuncData} (h : Hd mg)  (F : FunD K "_law_cell" "_law_cell" (defArgs s_law_cell) (defBody s_law_cell) (defScope s_law_cell) [] [] f fd) : FnG P w K mg base 1 f fd ["_law_script", "_law_k"] (spD K T S_law_cell) :=
  Bd.FunD.okG F sc_law_cell rfl SL_law_cell r_law_cell (b_law_cell h )
theorem fc_law_cell {P : Program} {w : PySem.World} {K : PySem.W.Frag} {mg : Str → Option Value} {base : Heap} {T : List (Addr × Str)} {f : Addr} {fd : FuncData} (h : Hd mg)  (F : FunD K "_law_cell" "_law_cell" (defArgs s_law_cell) (defBody s_law_cell) (defScope s_law_cell) [] [] f fd) (hm : mg "_law_cell" = some (.ref f)) : FnC P w K mg base T 1 "_law_cell" ["_law_script", "_law_k"] S_law_cell :=
  ⟨_, _, ok_law_cell h  F, hm, F.kp, F.bindsN fun _ _ _ _ _ _ us hl => match us, hl with | [_, _], _ => rfl⟩
theorem ok_law_mix {P : Program} {w : PySem.World} {K : PySem.W.Frag} {mg : Str → Option Value} {base : Heap} {T : List (Addr × Str)} {f : Addr} {fd : FuncData} (h : Hd mg)  (F : FunD K "_law_mix" "_law_mix" (defArgs s_law_mix) (defBody s_law_mix) (defScope s_law_mix) [] [] f fd) : FnG P w K mg base 1 f fd ["_law_cell_here", "_law_k"] (spD K T S_law_mix) :=
  Bd.FunD.okG F sc_law_mix rfl SL_law_mix r_law_mix (b_law_mix h )
theorem fc_law_mix {P : Program} {w : PySem.World} {K : PySem.W.Frag} {mg : Str → Option Value} {base : Heap} {T : List (Addr × Str)} {f : Addr} {fd : FuncData} (h : Hd mg)  (F : FunD K "_law_mix" "_law_mix" (defArgs s_law_mix) (defBody s_law_mix) (defScope s_law_mix) [] [] f fd) (hm : mg "_law_mix" = some (.ref f)) : FnC P w K mg base T 1 "_law_mix" ["_law_cell_here", "_law_k"] S_law_mix :=
  ⟨_, _, ok_law_mix h  F, hm, F.kp, F.bindsN fun _ _ _ _ _ _ us hl => match us, hl with | [_, _], _ => rfl⟩
theorem ok_law_box {P : Program} {w : PySem.World} {K : PySem.W.Frag} {mg : Str → Option Value} {base : Heap} {T : List (Addr × Str)} {f : Addr} {fd : FuncData} (h : Hd mg) (c_law_cell : FnC P w K mg base T 1 "_law_cell" ["_law_script", "_law_k"] S_law_cell) (c_law_mix : FnC P w K mg base T 1 "_law_mix" ["_law_cell_here", "_law_k"] S_law_mix) (F : FunD K "_law_box" "_law_box" (defArgs s_law_box) (defBody s_law_box) (defScope s_law_box) [] [] f fd) : FnG P w K mg base 2 f fd ["_law_script", "_law_k", "_law_lap"] (spD K T S_law_box) :=
  Bd.FunD.okG F sc_law_box rfl SL_law_box r_law_box (b_law_box h c_law_cell c_law_mix)
theorem fc_law_box {P : Program} {w : PySem.World} {K : PySem.W.Frag} {mg : Str → Option Value} {base : Heap} {T : List (Addr × Str)} {f : Addr} {fd : FuncData} (h : Hd mg) (c_law_cell : FnC P w K mg base T 1 "_law_cell" ["_law_script", "_law_k"] S_law_cell) (c_law_mix : FnC P w K mg base T 1 "_law_mix" ["_law_cell_here", "_law_k"] S_law_mix) (F : FunD K "_law_box" "_law_box" (defArgs s_law_box) (defBody s_law_box) (defScope s_law_box) [] [] f fd) (hm : mg "_law_box" = some (.ref f)) : FnC P w K mg base T 2 "_law_box" ["_law_script", "_law_k", "_law_lap"] S_law_box :=
  ⟨_, _, ok_law_box h c_law_cell c_law_mix F, hm, F.kp, F.bindsN fun _ _ _ _ _ _ us hl => match us, hl with | [_, _, _], _ => rfl⟩
theorem ok_is_whole {P : Program} {w : PySem.World} {K : PySem.W.Frag} {mg : Str → Option Value} {base : Heap} {T : List (Addr × Str)} {f : Addr} {fd : FuncData} (h : Hd mg)  (F : FunD K "is_whole" "is_whole" (defArgs s_is_whole) (defBody s_is_whole) (defScope s_is_whole) [] [] f fd) : FnG P w K mg base 1 f fd ["thing", "low", "high"] (spD K T S_is_whole) :=
  Bd.FunD.okG F sc_is_whole rfl SL_is_whole r_is_whole (b_is_whole h )
theorem fc_is_whole {P : Program} {w : PySem.World} {K : PySem.W.Frag} {mg : Str → Option Value} {base : Heap} {T : List (Addr × Str)} {f : Addr} {fd : FuncData} (h : Hd mg)  (F : FunD K "is_whole" "is_whole" (defArgs s_is_whole) (defBody s_is_whole) (defScope s_is_whole) [] [] f fd) (hm : mg "is_whole" = some (.ref f)) : FnC P w K mg base T 1 "is_whole" ["thing", "low", "high"] S_is_whole :=
  ⟨_, _, ok_is_whole h  F, hm, F.kp, F.bindsN fun _ _ _ _ _ _ us hl => match us, hl with | [_, _, _], _ => rfl⟩
theorem ok_is_field {P : Program} {w : PySem.World} {K : PySem.W.Frag} {mg : Str → Option Value} {base : Heap} {T : List (Addr × Str)} {f : Addr} {fd : FuncData} (h : Hd mg) (c_is_whole : FnC P w K mg base T 1 "is_whole" ["thing", "low", "high"] S_is_whole) (F : FunD K "is_field" "is_field" (defArgs s_is_field) (defBody s_is_field) (defScope s_is_field) [] [] f fd) : FnG P w K mg base 2 f fd ["thing"] (spD K T S_is_field) :=
  Bd.FunD.okG F sc_is_field rfl SL_is_field r_is_field (b_is_field h c_is_whole)
theorem fc_is_field {P : Program} {w : PySem.World} {K : PySem.W.Frag} {mg : Str → Option Value} {base : Heap} {T : List (Addr × Str)} {f : Addr} {fd : FuncData} (h : Hd mg) (c_is_whole : FnC P w K mg base T 1 "is_whole" ["thing", "low", "high"] S_is_whole) (F : FunD K "is_field" "is_field" (defArgs s_is_field) (defBody s_is_field) (defScope s_is_field) [] [] f fd) (hm : mg "is_field" = some (.ref f)) : FnC P w K mg base T 2 "is_field" ["thing"] S_is_field :=
  ⟨_, _, ok_is_field h c_is_whole F, hm, F.kp, F.bindsN fun _ _ _ _ _ _ us hl => match us, hl with | [_], _ => rfl⟩
theorem ok_need_field {P : Program} {w : PySem.World} {K : PySem.W.Frag} {mg : Str → Option Value} {base : Heap} {T : List (Addr × Str)} {f : Addr} {fd : FuncData} (h : Hd mg) (xh : Hx mg K) (c_is_field : FnC P w K mg base T 2 "is_field" ["thing"] S_is_field) (F : FunD K "need_field" "need_field" (defArgs s_need_field) (defBody s_need_field) (defScope s_need_field) [] [] f fd) : FnG P w K mg base 3 f fd ["field"] (spD K T S_need_field) :=
  Bd.FunD.okG F sc_need_field rfl SL_need_field r_need_field (b_need_field h xh c_is_field)
theorem fc_need_field {P : Program} {w : PySem.World} {K : PySem.W.Frag} {mg : Str → Option Value} {base : Heap} {T : List (Addr × Str)} {f : Addr} {fd : FuncData} (h : Hd mg) (xh : Hx mg K) (c_is_field : FnC P w K mg base T 2 "is_field" ["thing"] S_is_field) (F : FunD K "need_field" "need_field" (defArgs s_need_field) (defBody s_need_field) (defScope s_need_field) [] [] f fd) (hm : mg "need_field" = some (.ref f)) : FnC P w K mg base T 3 "need_field" ["field"] S_need_field :=
  ⟨_, _, ok_need_field h xh c_is_field F, hm, F.kp, F.bindsN fun _ _ _ _ _ _ us hl => match us, hl with | [_], _ => rfl⟩
theorem ok_need_pace {P : Program} {w : PySem.World} {K : PySem.W.Frag} {mg : Str → Option Value} {base : Heap} {T : List (Addr × Str)} {f : Addr} {fd : FuncData} (h : Hd mg) (xh : Hx mg K) (c_is_whole : FnC P w K mg base T 1 "is_whole" ["thing", "low", "high"] S_is_whole) (F : FunD K "need_pace" "need_pace" (defArgs s_need_pace) (defBody s_need_pace) (defScope s_need_pace) [] [] f fd) : FnG P w K mg base 2 f fd ["pace"] (spD K T S_need_pace) :=
  Bd.FunD.okG F sc_need_pace rfl SL_need_pace r_need_pace (b_need_pace h xh c_is_whole)
theorem fc_need_pace {P : Program} {w : PySem.World} {K : PySem.W.Frag} {mg : Str → Option Value} {base : Heap} {T : List (Addr × Str)} {f : Addr} {fd : FuncData} (h : Hd mg) (xh : Hx mg K) (c_is_whole : FnC P w K mg base T 1 "is_whole" ["thing", "low", "high"] S_is_whole) (F : FunD K "need_pace" "need_pace" (defArgs s_need_pace) (defBody s_need_pace) (defScope s_need_pace) [] [] f fd) (hm : mg "need_pace" = some (.ref f)) : FnC P w K mg base T 2 "need_pace" ["pace"] S_need_pace :=
  ⟨_, _, ok_need_pace h xh c_is_whole F, hm, F.kp, F.bindsN fun _ _ _ _ _ _ us hl => match us, hl with | [_], _ => rfl⟩
theorem fc_Register__init {P : Program} {w : PySem.World} {K : PySem.W.Frag} {mg : Str → Option Value} {base : Heap} {T : List (Addr × Str)} {f : Addr} {fd : FuncData} (h : Hd mg) (xh : Hx mg K) (c_need_field : FnC P w K mg base T 3 "need_field" ["field"] S_need_field) (c_need_pace : FnC P w K mg base T 2 "need_pace" ["pace"] S_need_pace) (F : FunD K "__init__" "Register.__init__" (defArgs s_Register__init) (defBody s_Register__init) (defScope s_Register__init) [] [] f fd) (hm : mg "Register" = some (.ref (He.ga K "Register"))) (M : Mk K (He.ga K "Register") f) : MkI P w K mg base T 4 "Register" ["self", "field", "pace"] S_Register__init :=
  ⟨_, _, Bd.FunD.okG F sc_Register__init rfl SL_Register__init r_Register__init (b_Register__init h xh c_need_field c_need_pace), hm, M, F.bindsN fun _ _ _ _ _ _ us hl => match us, hl with | [_, _, _], _ => rfl⟩
theorem fc_Register_case_now {P : Program} {w : PySem.World} {K : PySem.W.Frag} {mg : Str → Option Value} {base : Heap} {T : List (Addr × Str)} {f : Addr} {fd : FuncData} (h : Hd mg) (xh : Hx mg K)  (F : FunD K "case_now" "Register.case_now" (defArgs s_Register_case_now) (defBody s_Register_case_now) (defScope s_Register_case_now) [] [] f fd) (Cl : Cls K (He.ga K "Register")) (M : Meth K (He.ga K "Register") "case_now" f) : MtC P w K mg base T 1 "Register" "case_now" ["self"] S_Register_case_now :=
  ⟨_, _, Bd.FunD.okG F sc_Register_case_now rfl SL_Register_case_now r_Register_case_now (b_Register_case_now h xh ), Cl, M, F.bindsN fun _ _ _ _ _ _ us hl => match us, hl with | [_], _ => rfl⟩
theorem fc_Register_undo {P : Program} {w : PySem.World} {K : PySem.W.Frag} {mg : Str → Option Value} {base : Heap} {T : List (Addr × Str)} {f : Addr} {fd : FuncData} (h : Hd mg) (xh : Hx mg K)  (F : FunD K "undo" "Register.undo" (defArgs s_Register_undo) (defBody s_Register_undo) (defScope s_Register_undo) [] [] f fd) (Cl : Cls K (He.ga K "Register")) (M : Meth K (He.ga K "Register") "undo" f) : MtC P w K mg base T 1 "Register" "undo" ["self"] S_Register_undo :=
  ⟨_, _, Bd.FunD.okG F sc_Register_undo rfl SL_Register_undo r_Register_undo (b_Register_undo h xh ), Cl, M, F.bindsN fun _ _ _ _ _ _ us hl => match us, hl with | [_], _ => rfl⟩
theorem ok_is_cell {P : Program} {w : PySem.World} {K : PySem.W.Frag} {mg : Str → Option Value} {base : Heap} {T : List (Addr × Str)} {f : Addr} {fd : FuncData} (h : Hd mg) (c_is_whole : FnC P w K mg base T 1 "is_whole" ["thing", "low", "high"] S_is_whole) (F : FunD K "is_cell" "is_cell" (defArgs s_is_cell) (defBody s_is_cell) (defScope s_is_cell) [] [] f fd) : FnG P w K mg base 2 f fd ["field", "thing"] (spD K T S_is_cell) :=
  Bd.FunD.okG F sc_is_cell rfl SL_is_cell r_is_cell (b_is_cell h c_is_whole)
theorem fc_is_cell {P : Program} {w : PySem.World} {K : PySem.W.Frag} {mg : Str → Option Value} {base : Heap} {T : List (Addr × Str)} {f : Addr} {fd : FuncData} (h : Hd mg) (c_is_whole : FnC P w K mg base T 1 "is_whole" ["thing", "low", "high"] S_is_whole) (F : FunD K "is_cell" "is_cell" (defArgs s_is_cell) (defBody s_is_cell) (defScope s_is_cell) [] [] f fd) (hm : mg "is_cell" = some (.ref f)) : FnC P w K mg base T 2 "is_cell" ["field", "thing"] S_is_cell :=
  ⟨_, _, ok_is_cell h c_is_whole F, hm, F.kp, F.bindsN fun _ _ _ _ _ _ us hl => match us, hl with | [_, _], _ => rfl⟩
theorem ok_is_mark {P : Program} {w : PySem.World} {K : PySem.W.Frag} {mg : Str → Option Value} {base : Heap} {T : List (Addr × Str)} {f : Addr} {fd : FuncData} (h : Hd mg) (c_is_cell : FnC P w K mg base T 2 "is_cell" ["field", "thing"] S_is_cell) (c_is_whole : FnC P w K mg base T 1 "is_whole" ["thing", "low", "high"] S_is_whole) (F : FunD K "is_mark" "is_mark" (defArgs s_is_mark) (defBody s_is_mark) (defScope s_is_mark) [] [] f fd) : FnG P w K mg base 3 f fd ["field", "thing"] (spD K T S_is_mark) :=
  Bd.FunD.okG F sc_is_mark rfl SL_is_mark r_is_mark (b_is_mark h c_is_cell c_is_whole)
theorem fc_is_mark {P : Program} {w : PySem.World} {K : PySem.W.Frag} {mg : Str → Option Value} {base : Heap} {T : List (Addr × Str)} {f : Addr} {fd : FuncData} (h : Hd mg) (c_is_cell : FnC P w K mg base T 2 "is_cell" ["field", "thing"] S_is_cell) (c_is_whole : FnC P w K mg base T 1 "is_whole" ["thing", "low", "high"] S_is_whole) (F : FunD K "is_mark" "is_mark" (defArgs s_is_mark) (defBody s_is_mark) (defScope s_is_mark) [] [] f fd) (hm : mg "is_mark" = some (.ref f)) : FnC P w K mg base T 3 "is_mark" ["field", "thing"] S_is_mark :=
  ⟨_, _, ok_is_mark h c_is_cell c_is_whole F, hm, F.kp, F.bindsN fun _ _ _ _ _ _ us hl => match us, hl with | [_, _], _ => rfl⟩
theorem ok_is_rising {P : Program} {w : PySem.World} {K : PySem.W.Frag} {mg : Str → Option Value} {base : Heap} {T : List (Addr × Str)} {f : Addr} {fd : FuncData} (h : Hd mg)  (F : FunD K "is_rising" "is_rising" (defArgs s_is_rising) (defBody s_is_rising) (defScope s_is_rising) [] [] f fd) : FnG P w K mg base 1 f fd ["things"] (spD K T S_is_rising) :=
  Bd.FunD.okG F sc_is_rising rfl SL_is_rising r_is_rising (b_is_rising h )
theorem fc_is_rising {P : Program} {w : PySem.World} {K : PySem.W.Frag} {mg : Str → Option Value} {base : Heap} {T : List (Addr × Str)} {f : Addr} {fd : FuncData} (h : Hd mg)  (F : FunD K "is_rising" "is_rising" (defArgs s_is_rising) (defBody s_is_rising) (defScope s_is_rising) [] [] f fd) (hm : mg "is_rising" = some (.ref f)) : FnC P w K mg base T 1 "is_rising" ["things"] S_is_rising :=
  ⟨_, _, ok_is_rising h  F, hm, F.kp, F.bindsN fun _ _ _ _ _ _ us hl => match us, hl with | [_], _ => rfl⟩
theorem ok_are_cells {P : Program} {w : PySem.World} {K : PySem.W.Frag} {mg : Str → Option Value} {base : Heap} {T : List (Addr × Str)} {f : Addr} {fd : FuncData} (h : Hd mg) (c_is_cell : FnC P w K mg base T 2 "is_cell" ["field", "thing"] S_is_cell) (c_is_rising : FnC P w K mg base T 1 "is_rising" ["things"] S_is_rising) (F : FunD K "are_cells" "are_cells" (defArgs s_are_cells) (defBody s_are_cells) (defScope s_are_cells) [] [] f fd) : FnG P w K mg base 3 f fd ["field", "thing"] (spD K T S_are_cells) :=
  Bd.FunD.okG F sc_are_cells rfl SL_are_cells r_are_cells (b_are_cells h c_is_cell c_is_rising)
theorem fc_are_cells {P : Program} {w : PySem.World} {K : PySem.W.Frag} {mg : Str → Option Value} {base : Heap} {T : List (Addr × Str)} {f : Addr} {fd : FuncData} (h : Hd mg) (c_is_cell : FnC P w K mg base T 2 "is_cell" ["field", "thing"] S_is_cell) (c_is_rising : FnC P w K mg base T 1 "is_rising" ["things"] S_is_rising) (F : FunD K "are_cells" "are_cells" (defArgs s_are_cells) (defBody s_are_cells) (defScope s_are_cells) [] [] f fd) (hm : mg "are_cells" = some (.ref f)) : FnC P w K mg base T 3 "are_cells" ["field", "thing"] S_are_cells :=
  ⟨_, _, ok_are_cells h c_is_cell c_is_rising F, hm, F.kp, F.bindsN fun _ _ _ _ _ _ us hl => match us, hl with | [_, _], _ => rfl⟩
theorem ok_change_in {P : Program} {w : PySem.World} {K : PySem.W.Frag} {mg : Str → Option Value} {base : Heap} {T : List (Addr × Str)} {f : Addr} {fd : FuncData} (h : Hd mg) (c_are_cells : FnC P w K mg base T 3 "are_cells" ["field", "thing"] S_are_cells) (c_is_whole : FnC P w K mg base T 1 "is_whole" ["thing", "low", "high"] S_is_whole) (F : FunD K "change_in" "change_in" (defArgs s_change_in) (defBody s_change_in) (defScope s_change_in) [] [] f fd) : FnG P w K mg base 4 f fd ["field", "thing"] (spD K T S_change_in) :=
  Bd.FunD.okG F sc_change_in rfl SL_change_in r_change_in (b_change_in h c_are_cells c_is_whole)
theorem fc_change_in {P : Program} {w : PySem.World} {K : PySem.W.Frag} {mg : Str → Option Value} {base : Heap} {T : List (Addr × Str)} {f : Addr} {fd : FuncData} (h : Hd mg) (c_are_cells : FnC P w K mg base T 3 "are_cells" ["field", "thing"] S_are_cells) (c_is_whole : FnC P w K mg base T 1 "is_whole" ["thing", "low", "high"] S_is_whole) (F : FunD K "change_in" "change_in" (defArgs s_change_in) (defBody s_change_in) (defScope s_change_in) [] [] f fd) (hm : mg "change_in" = some (.ref f)) : FnC P w K mg base T 4 "change_in" ["field", "thing"] S_change_in :=
  ⟨_, _, ok_change_in h c_are_cells c_is_whole F, hm, F.kp, F.bindsN fun _ _ _ _ _ _ us hl => match us, hl with | [_, _], _ => rfl⟩
theorem ok_is_telling {P : Program} {w : PySem.World} {K : PySem.W.Frag} {mg : Str → Option Value} {base : Heap} {T : List (Addr × Str)} {f : Addr} {fd : FuncData} (h : Hd mg) (c_change_in : FnC P w K mg base T 4 "change_in" ["field", "thing"] S_change_in) (c_is_whole : FnC P w K mg base T 1 "is_whole" ["thing", "low", "high"] S_is_whole) (F : FunD K "is_telling" "is_telling" (defArgs s_is_telling) (defBody s_is_telling) (defScope s_is_telling) [] [] f fd) : FnG P w K mg base 5 f fd ["field", "thing"] (spD K T S_is_telling) :=
  Bd.FunD.okG F sc_is_telling rfl SL_is_telling r_is_telling (b_is_telling h c_change_in c_is_whole)
theorem fc_is_telling {P : Program} {w : PySem.World} {K : PySem.W.Frag} {mg : Str → Option Value} {base : Heap} {T : List (Addr × Str)} {f : Addr} {fd : FuncData} (h : Hd mg) (c_change_in : FnC P w K mg base T 4 "change_in" ["field", "thing"] S_change_in) (c_is_whole : FnC P w K mg base T 1 "is_whole" ["thing", "low", "high"] S_is_whole) (F : FunD K "is_telling" "is_telling" (defArgs s_is_telling) (defBody s_is_telling) (defScope s_is_telling) [] [] f fd) (hm : mg "is_telling" = some (.ref f)) : FnC P w K mg base T 5 "is_telling" ["field", "thing"] S_is_telling :=
  ⟨_, _, ok_is_telling h c_change_in c_is_whole F, hm, F.kp, F.bindsN fun _ _ _ _ _ _ us hl => match us, hl with | [_, _], _ => rfl⟩
theorem ok_is_case {P : Program} {w : PySem.World} {K : PySem.W.Frag} {mg : Str → Option Value} {base : Heap} {T : List (Addr × Str)} {f : Addr} {fd : FuncData} (h : Hd mg) (c_is_field : FnC P w K mg base T 2 "is_field" ["thing"] S_is_field) (c_is_mark : FnC P w K mg base T 3 "is_mark" ["field", "thing"] S_is_mark) (c_is_telling : FnC P w K mg base T 5 "is_telling" ["field", "thing"] S_is_telling) (c_is_whole : FnC P w K mg base T 1 "is_whole" ["thing", "low", "high"] S_is_whole) (F : FunD K "is_case" "is_case" (defArgs s_is_case) (defBody s_is_case) (defScope s_is_case) [] [] f fd) : FnG P w K mg base 6 f fd ["thing"] (spD K T S_is_case) :=
  Bd.FunD.okG F sc_is_case rfl SL_is_case r_is_case (b_is_case h c_is_field c_is_mark c_is_telling c_is_whole)
theorem fc_is_case {P : Program} {w : PySem.World} {K : PySem.W.Frag} {mg : Str → Option Value} {base : Heap} {T : List (Addr × Str)} {f : Addr} {fd : FuncData} (h : Hd mg) (c_is_field : FnC P w K mg base T 2 "is_field" ["thing"] S_is_field) (c_is_mark : FnC P w K mg base T 3 "is_mark" ["field", "thing"] S_is_mark) (c_is_telling : FnC P w K mg base T 5 "is_telling" ["field", "thing"] S_is_telling) (c_is_whole : FnC P w K mg base T 1 "is_whole" ["thing", "low", "high"] S_is_whole) (F : FunD K "is_case" "is_case" (defArgs s_is_case) (defBody s_is_case) (defScope s_is_case) [] [] f fd) (hm : mg "is_case" = some (.ref f)) : FnC P w K mg base T 6 "is_case" ["thing"] S_is_case :=
  ⟨_, _, ok_is_case h c_is_field c_is_mark c_is_telling c_is_whole F, hm, F.kp, F.bindsN fun _ _ _ _ _ _ us hl => match us, hl with | [_], _ => rfl⟩
theorem ok_need_case {P : Program} {w : PySem.World} {K : PySem.W.Frag} {mg : Str → Option Value} {base : Heap} {T : List (Addr × Str)} {f : Addr} {fd : FuncData} (h : Hd mg) (c_is_case : FnC P w K mg base T 6 "is_case" ["thing"] S_is_case) (F : FunD K "need_case" "need_case" (defArgs s_need_case) (defBody s_need_case) (defScope s_need_case) [] [] f fd) : FnG P w K mg base 7 f fd ["case"] (spD K T S_need_case) :=
  Bd.FunD.okG F sc_need_case rfl SL_need_case r_need_case (b_need_case h c_is_case)
theorem fc_need_case {P : Program} {w : PySem.World} {K : PySem.W.Frag} {mg : Str → Option Value} {base : Heap} {T : List (Addr × Str)} {f : Addr} {fd : FuncData} (h : Hd mg) (c_is_case : FnC P w K mg base T 6 "is_case" ["thing"] S_is_case) (F : FunD K "need_case" "need_case" (defArgs s_need_case) (defBody s_need_case) (defScope s_need_case) [] [] f fd) (hm : mg "need_case" = some (.ref f)) : FnC P w K mg base T 7 "need_case" ["case"] S_need_case :=
  ⟨_, _, ok_need_case h c_is_case F, hm, F.kp, F.bindsN fun _ _ _ _ _ _ us hl => match us, hl with | [_], _ => rfl⟩
theorem ok_need_cell {P : Program} {w : PySem.World} {K : PySem.W.Frag} {mg : Str → Option Value} {base : Heap} {T : List (Addr × Str)} {f : Addr} {fd : FuncData} (h : Hd mg) (xh : Hx mg K) (c_is_cell : FnC P w K mg base T 2 "is_cell" ["field", "thing"] S_is_cell) (F : FunD K "need_cell" "need_cell" (defArgs s_need_cell) (defBody s_need_cell) (defScope s_need_cell) [] [] f fd) : FnG P w K mg base 3 f fd ["field", "cell"] (spD K T S_need_cell) :=
  Bd.FunD.okG F sc_need_cell rfl SL_need_cell r_need_cell (b_need_cell h xh c_is_cell)
theorem fc_need_cell {P : Program} {w : PySem.World} {K : PySem.W.Frag} {mg : Str → Option Value} {base : Heap} {T : List (Addr × Str)} {f : Addr} {fd : FuncData} (h : Hd mg) (xh : Hx mg K) (c_is_cell : FnC P w K mg base T 2 "is_cell" ["field", "thing"] S_is_cell) (F : FunD K "need_cell" "need_cell" (defArgs s_need_cell) (defBody s_need_cell) (defScope s_need_cell) [] [] f fd) (hm : mg "need_cell" = some (.ref f)) : FnC P w K mg base T 3 "need_cell" ["field", "cell"] S_need_cell :=
  ⟨_, _, ok_need_cell h xh c_is_cell F, hm, F.kp, F.bindsN fun _ _ _ _ _ _ us hl => match us, hl with | [_, _], _ => rfl⟩
theorem ok_need_day {P : Program} {w : PySem.World} {K : PySem.W.Frag} {mg : Str → Option Value} {base : Heap} {T : List (Addr × Str)} {f : Addr} {fd : FuncData} (h : Hd mg) (xh : Hx mg K) (c_is_whole : FnC P w K mg base T 1 "is_whole" ["thing", "low", "high"] S_is_whole) (F : FunD K "need_day" "need_day" (defArgs s_need_day) (defBody s_need_day) (defScope s_need_day) [] [] f fd) : FnG P w K mg base 2 f fd ["day"] (spD K T S_need_day) :=
  Bd.FunD.okG F sc_need_day rfl SL_need_day r_need_day (b_need_day h xh c_is_whole)
theorem fc_need_day {P : Program} {w : PySem.World} {K : PySem.W.Frag} {mg : Str → Option Value} {base : Heap} {T : List (Addr × Str)} {f : Addr} {fd : FuncData} (h : Hd mg) (xh : Hx mg K) (c_is_whole : FnC P w K mg base T 1 "is_whole" ["thing", "low", "high"] S_is_whole) (F : FunD K "need_day" "need_day" (defArgs s_need_day) (defBody s_need_day) (defScope s_need_day) [] [] f fd) (hm : mg "need_day" = some (.ref f)) : FnC P w K mg base T 2 "need_day" ["day"] S_need_day :=
  ⟨_, _, ok_need_day h xh c_is_whole F, hm, F.kp, F.bindsN fun _ _ _ _ _ _ us hl => match us, hl with | [_], _ => rfl⟩
theorem ok_hangs {P : Program} {w : PySem.World} {K : PySem.W.Frag} {mg : Str → Option Value} {base : Heap} {T : List (Addr × Str)} {f : Addr} {fd : FuncData} (h : Hd mg) (c_need_case : FnC P w K mg base T 7 "need_case" ["case"] S_need_case) (c_need_cell : FnC P w K mg base T 3 "need_cell" ["field", "cell"] S_need_cell) (c_need_day : FnC P w K mg base T 2 "need_day" ["day"] S_need_day) (F : FunD K "hangs" "hangs" (defArgs s_hangs) (defBody s_hangs) (defScope s_hangs) [] [] f fd) : FnG P w K mg base 8 f fd ["case", "day", "cell"] (spD K T S_hangs) :=
  Bd.FunD.okG F sc_hangs rfl SL_hangs r_hangs (b_hangs h c_need_case c_need_cell c_need_day)
theorem fc_hangs {P : Program} {w : PySem.World} {K : PySem.W.Frag} {mg : Str → Option Value} {base : Heap} {T : List (Addr × Str)} {f : Addr} {fd : FuncData} (h : Hd mg) (c_need_case : FnC P w K mg base T 7 "need_case" ["case"] S_need_case) (c_need_cell : FnC P w K mg base T 3 "need_cell" ["field", "cell"] S_need_cell) (c_need_day : FnC P w K mg base T 2 "need_day" ["day"] S_need_day) (F : FunD K "hangs" "hangs" (defArgs s_hangs) (defBody s_hangs) (defScope s_hangs) [] [] f fd) (hm : mg "hangs" = some (.ref f)) : FnC P w K mg base T 8 "hangs" ["case", "day", "cell"] S_hangs :=
  ⟨_, _, ok_hangs h c_need_case c_need_cell c_need_day F, hm, F.kp, F.bindsN fun _ _ _ _ _ _ us hl => match us, hl with | [_, _, _], _ => rfl⟩
theorem fc_Register_hangs_now {P : Program} {w : PySem.World} {K : PySem.W.Frag} {mg : Str → Option Value} {base : Heap} {T : List (Addr × Str)} {f : Addr} {fd : FuncData} (h : Hd mg) (c_Register_case_now : MtC P w K mg base T 1 "Register" "case_now" ["self"] S_Register_case_now) (c_hangs : FnC P w K mg base T 8 "hangs" ["case", "day", "cell"] S_hangs) (F : FunD K "hangs_now" "Register.hangs_now" (defArgs s_Register_hangs_now) (defBody s_Register_hangs_now) (defScope s_Register_hangs_now) [] [] f fd) (Cl : Cls K (He.ga K "Register")) (M : Meth K (He.ga K "Register") "hangs_now" f) : MtC P w K mg base T 9 "Register" "hangs_now" ["self", "day", "cell"] S_Register_hangs_now :=
  ⟨_, _, Bd.FunD.okG F sc_Register_hangs_now rfl SL_Register_hangs_now r_Register_hangs_now (b_Register_hangs_now h c_Register_case_now c_hangs), Cl, M, F.bindsN fun _ _ _ _ _ _ us hl => match us, hl with | [_, _, _], _ => rfl⟩
theorem ok_holders {P : Program} {w : PySem.World} {K : PySem.W.Frag} {mg : Str → Option Value} {base : Heap} {T : List (Addr × Str)} {f : Addr} {fd : FuncData} (h : Hd mg) (c_need_case : FnC P w K mg base T 7 "need_case" ["case"] S_need_case) (c_need_day : FnC P w K mg base T 2 "need_day" ["day"] S_need_day) (F : FunD K "holders" "holders" (defArgs s_holders) (defBody s_holders) (defScope s_holders) [] [] f fd) : FnG P w K mg base 8 f fd ["case", "day"] (spD K T S_holders) :=
  Bd.FunD.okG F sc_holders rfl SL_holders r_holders (b_holders h c_need_case c_need_day)
theorem fc_holders {P : Program} {w : PySem.World} {K : PySem.W.Frag} {mg : Str → Option Value} {base : Heap} {T : List (Addr × Str)} {f : Addr} {fd : FuncData} (h : Hd mg) (c_need_case : FnC P w K mg base T 7 "need_case" ["case"] S_need_case) (c_need_day : FnC P w K mg base T 2 "need_day" ["day"] S_need_day) (F : FunD K "holders" "holders" (defArgs s_holders) (defBody s_holders) (defScope s_holders) [] [] f fd) (hm : mg "holders" = some (.ref f)) : FnC P w K mg base T 8 "holders" ["case", "day"] S_holders :=
  ⟨_, _, ok_holders h c_need_case c_need_day F, hm, F.kp, F.bindsN fun _ _ _ _ _ _ us hl => match us, hl with | [_, _], _ => rfl⟩
theorem fc_Register_holders_now {P : Program} {w : PySem.World} {K : PySem.W.Frag} {mg : Str → Option Value} {base : Heap} {T : List (Addr × Str)} {f : Addr} {fd : FuncData} (h : Hd mg) (c_Register_case_now : MtC P w K mg base T 1 "Register" "case_now" ["self"] S_Register_case_now) (c_holders : FnC P w K mg base T 8 "holders" ["case", "day"] S_holders) (F : FunD K "holders_now" "Register.holders_now" (defArgs s_Register_holders_now) (defBody s_Register_holders_now) (defScope s_Register_holders_now) [] [] f fd) (Cl : Cls K (He.ga K "Register")) (M : Meth K (He.ga K "Register") "holders_now" f) : MtC P w K mg base T 9 "Register" "holders_now" ["self", "day"] S_Register_holders_now :=
  ⟨_, _, Bd.FunD.okG F sc_Register_holders_now rfl SL_Register_holders_now r_Register_holders_now (b_Register_holders_now h c_Register_case_now c_holders), Cl, M, F.bindsN fun _ _ _ _ _ _ us hl => match us, hl with | [_, _], _ => rfl⟩
theorem fc_TooMany__init {P : Program} {w : PySem.World} {K : PySem.W.Frag} {mg : Str → Option Value} {base : Heap} {fd : FuncData} (F : FunD K "__init__" "TooMany.__init__" (defArgs s_TooMany__init) (defBody s_TooMany__init) (defScope s_TooMany__init) [] [] (He.ma K (He.ga K "TooMany") "__init__") fd) (hm : mg "TooMany" = some (.ref (He.ga K "TooMany"))) (O : OexF K "TooMany") : RTwo P w K mg base 1 "TooMany" :=
  ⟨hm, O, fd, two_fn F sc_TooMany__init O l_TooMany__init_0 l_TooMany__init_1 l_TooMany__init_2, F.bindsN fun _ _ _ _ _ _ us hl => match us, hl with | [_, _, _], _ => rfl⟩
theorem wc_law_which {P : Program} {w : PySem.World} {K : PySem.W.Frag} {mg : Str → Option Value} {base : Heap} {T : List (Addr × Str)} {g : Addr} {fd : FuncData} (h : Hd mg) (xh : Hx mg K) (F : FunD K "_law_which" "_law_which" (defArgs s_law_which) (defBody s_law_which) (defScope s_law_which) [] [] g fd) (hm : mg "_law_which" = some (.ref g)) : WhichM P w K mg base T "_law_which" ok_law_said :=
  which_okM F hm (F.bindsN fun _ _ _ _ _ _ us hl => match us, hl with | [_], _ => rfl) sc_law_which (fun cdv A outer s H a oe c ns d t G hu hc hz hf hg => b_law_which h xh hc g cdv A outer s H a oe hz hf hu G hg) r_law_which
theorem kc_law_said {P : Program} {w : PySem.World} {K : PySem.W.Frag} {mg : Str → Option Value} {base : Heap} {T : List (Addr × Str)} {g : Addr} {fd : FuncData} (xh : Hx mg K) (WC : WhichM P w K mg base T "_law_which" ok_law_said) (F : FunD K "_law_said" "_law_said" (defArgs s_law_said) (defBody s_law_said) (defScope s_law_said) [] [] g fd) (hm : mg "_law_said" = some (.ref g)) : SaidM P w K mg base T "_law_said" ok_law_said := by
  obtain ⟨g2, fd2, p2, hm2, hk2, hb2, run⟩ := WC.ex
  refine ⟨g, fd, _, _, _, [], N_law_said, "_law_call", F, hm, F.bindsN fun _ _ _ _ _ _ us hl => match us, hl with | [_], _ => rfl, sc_law_said, rfl, .inl l_law_said_0, by decide, by decide, fun X e1 e2 e3 e4 e5 hu hd cdg q => ?_⟩
  subst e1 e2 e3 e4 e5
  exact said_givesM (i := 1) (e := "_law_e") (z := "BedError") (wh := "_law_which") (ys := ys_law_said) (by decide +kernel) xh.g_BedError (by decide) (fun _ => rfl) sc_law_said.nd rfl l_law_said_1 (.inl l_law_said_1) m_law_e xh.x_law_said hd hu (by decide +kernel) (by decide) hm2 hk2 hb2 run
theorem ok_law_asked_right {P : Program} {w : PySem.World} {K : PySem.W.Frag} {mg : Str → Option Value} {base : Heap} {T : List (Addr × Str)} {f : Addr} {fd : FuncData} (h : Hd mg) (c_Register_hangs_now : MtC P w K mg base T 9 "Register" "hangs_now" ["self", "day", "cell"] S_Register_hangs_now) (c_Register_holders_now : MtC P w K mg base T 9 "Register" "holders_now" ["self", "day"] S_Register_holders_now) (cK : SaidM P w K mg base T "_law_said" ok_law_said) (cM : ∀ A outer s H E, LamM base mg T fd.code (FX P w K mg base N_law_asked_right "_law_asked_right" (defScope s_law_asked_right) f fd.code A outer s H E).env.qual) (F : FunD K "_law_asked_right" "_law_asked_right" (defArgs s_law_asked_right) (defBody s_law_asked_right) (defScope s_law_asked_right) [] [] f fd) : FnG P w K mg base 12 f fd ["_law_office", "_law_field_here", "_law_bad"] (spD K T S_law_asked_right) :=
  FunD.okL F sc_law_asked_right rfl SL_law_asked_right r_law_asked_right (b_law_asked_right h c_Register_hangs_now c_Register_holders_now cK fd.code cM)
theorem fc_law_asked_right {P : Program} {w : PySem.World} {K : PySem.W.Frag} {mg : Str → Option Value} {base : Heap} {T : List (Addr × Str)} {f : Addr} {fd : FuncData} (h : Hd mg) (c_Register_hangs_now : MtC P w K mg base T 9 "Register" "hangs_now" ["self", "day", "cell"] S_Register_hangs_now) (c_Register_holders_now : MtC P w K mg base T 9 "Register" "holders_now" ["self", "day"] S_Register_holders_now) (cK : SaidM P w K mg base T "_law_said" ok_law_said) (cM : ∀ A outer s H E, LamM base mg T fd.code (FX P w K mg base N_law_asked_right "_law_asked_right" (defScope s_law_asked_right) f fd.code A outer s H E).env.qual) (F : FunD K "_law_asked_right" "_law_asked_right" (defArgs s_law_asked_right) (defBody s_law_asked_right) (defScope s_law_asked_right) [] [] f fd) (hm : mg "_law_asked_right" = some (.ref f)) : FnC P w K mg base T 12 "_law_asked_right" ["_law_office", "_law_field_here", "_law_bad"] S_law_asked_right :=
  ⟨_, _, ok_law_asked_right h c_Register_hangs_now c_Register_holders_now cK cM F, hm, F.kp, F.bindsN fun _ _ _ _ _ _ us hl => match us, hl with | [_, _, _], _ => rfl⟩
theorem ok_law_take {P : Program} {w : PySem.World} {K : PySem.W.Frag} {mg : Str → Option Value} {base : Heap} {T : List (Addr × Str)} {f : Addr} {fd : FuncData} (h : Hd mg)  (F : FunD K "_law_take" "_law_take" (defArgs s_law_take) (defBody s_law_take) (defScope s_law_take) [] [] f fd) : FnG P w K mg base 1 f fd ["_law_box_here", "_law_count"] (spD K T S_law_take) :=
  Bd.FunD.okG F sc_law_take rfl SL_law_take r_law_take (b_law_take h )
theorem fc_law_take {P : Program} {w : PySem.World} {K : PySem.W.Frag} {mg : Str → Option Value} {base : Heap} {T : List (Addr × Str)} {f : Addr} {fd : FuncData} (h : Hd mg)  (F : FunD K "_law_take" "_law_take" (defArgs s_law_take) (defBody s_law_take) (defScope s_law_take) [] [] f fd) (hm : mg "_law_take" = some (.ref f)) : FnC P w K mg base T 1 "_law_take" ["_law_box_here", "_law_count"] S_law_take :=
  ⟨_, _, ok_law_take h  F, hm, F.kp, F.bindsN fun _ _ _ _ _ _ us hl => match us, hl with | [_, _], _ => rfl⟩
theorem ok_law_field {P : Program} {w : PySem.World} {K : PySem.W.Frag} {mg : Str → Option Value} {base : Heap} {T : List (Addr × Str)} {f : Addr} {fd : FuncData} (h : Hd mg) (c_law_take : FnC P w K mg base T 1 "_law_take" ["_law_box_here", "_law_count"] S_law_take) (F : FunD K "_law_field" "_law_field" (defArgs s_law_field) (defBody s_law_field) (defScope s_law_field) [] [] f fd) : FnG P w K mg base 2 f fd ["_law_box_here", "_law_most"] (spD K T S_law_field) :=
  Bd.FunD.okG F sc_law_field rfl SL_law_field r_law_field (b_law_field h c_law_take)
theorem fc_law_field {P : Program} {w : PySem.World} {K : PySem.W.Frag} {mg : Str → Option Value} {base : Heap} {T : List (Addr × Str)} {f : Addr} {fd : FuncData} (h : Hd mg) (c_law_take : FnC P w K mg base T 1 "_law_take" ["_law_box_here", "_law_count"] S_law_take) (F : FunD K "_law_field" "_law_field" (defArgs s_law_field) (defBody s_law_field) (defScope s_law_field) [] [] f fd) (hm : mg "_law_field" = some (.ref f)) : FnC P w K mg base T 2 "_law_field" ["_law_box_here", "_law_most"] S_law_field :=
  ⟨_, _, ok_law_field h c_law_take F, hm, F.kp, F.bindsN fun _ _ _ _ _ _ us hl => match us, hl with | [_, _], _ => rfl⟩
theorem fc_Register_become {P : Program} {w : PySem.World} {K : PySem.W.Frag} {mg : Str → Option Value} {base : Heap} {T : List (Addr × Str)} {f : Addr} {fd : FuncData} (h : Hd mg) (xh : Hx mg K)  (F : FunD K "become" "Register.become" (defArgs s_Register_become) (defBody s_Register_become) (defScope s_Register_become) [] [] f fd) (Cl : Cls K (He.ga K "Register")) (M : Meth K (He.ga K "Register") "become" f) : MtC P w K mg base T 1 "Register" "become" ["self", "tellings", "marks"] S_Register_become :=
  ⟨_, _, Bd.FunD.okG F sc_Register_become rfl SL_Register_become r_Register_become (b_Register_become h xh ), Cl, M, F.bindsN fun _ _ _ _ _ _ us hl => match us, hl with | [_, _, _], _ => rfl⟩
theorem ok_need_mark {P : Program} {w : PySem.World} {K : PySem.W.Frag} {mg : Str → Option Value} {base : Heap} {T : List (Addr × Str)} {f : Addr} {fd : FuncData} (h : Hd mg) (xh : Hx mg K) (c_is_mark : FnC P w K mg base T 3 "is_mark" ["field", "thing"] S_is_mark) (F : FunD K "need_mark" "need_mark" (defArgs s_need_mark) (defBody s_need_mark) (defScope s_need_mark) [] [] f fd) : FnG P w K mg base 4 f fd ["field", "mark"] (spD K T S_need_mark) :=
  Bd.FunD.okG F sc_need_mark rfl SL_need_mark r_need_mark (b_need_mark h xh c_is_mark)
theorem fc_need_mark {P : Program} {w : PySem.World} {K : PySem.W.Frag} {mg : Str → Option Value} {base : Heap} {T : List (Addr × Str)} {f : Addr} {fd : FuncData} (h : Hd mg) (xh : Hx mg K) (c_is_mark : FnC P w K mg base T 3 "is_mark" ["field", "thing"] S_is_mark) (F : FunD K "need_mark" "need_mark" (defArgs s_need_mark) (defBody s_need_mark) (defScope s_need_mark) [] [] f fd) (hm : mg "need_mark" = some (.ref f)) : FnC P w K mg base T 4 "need_mark" ["field", "mark"] S_need_mark :=
  ⟨_, _, ok_need_mark h xh c_is_mark F, hm, F.kp, F.bindsN fun _ _ _ _ _ _ us hl => match us, hl with | [_, _], _ => rfl⟩
theorem ok_with_one {P : Program} {w : PySem.World} {K : PySem.W.Frag} {mg : Str → Option Value} {base : Heap} {T : List (Addr × Str)} {f : Addr} {fd : FuncData} (h : Hd mg) (xh : Hx mg K) (c_TooMany__init : RTwo P w K mg base 1 "TooMany") (F : FunD K "with_one" "with_one" (defArgs s_with_one) (defBody s_with_one) (defScope s_with_one) [] [] f fd) : FnG P w K mg base 3 f fd ["kept", "thing", "most"] (spD K T S_with_one) :=
  Bd.FunD.okG F sc_with_one rfl SL_with_one r_with_one (b_with_one h xh c_TooMany__init)
theorem fc_with_one {P : Program} {w : PySem.World} {K : PySem.W.Frag} {mg : Str → Option Value} {base : Heap} {T : List (Addr × Str)} {f : Addr} {fd : FuncData} (h : Hd mg) (xh : Hx mg K) (c_TooMany__init : RTwo P w K mg base 1 "TooMany") (F : FunD K "with_one" "with_one" (defArgs s_with_one) (defBody s_with_one) (defScope s_with_one) [] [] f fd) (hm : mg "with_one" = some (.ref f)) : FnC P w K mg base T 3 "with_one" ["kept", "thing", "most"] S_with_one :=
  ⟨_, _, ok_with_one h xh c_TooMany__init F, hm, F.kp, F.bindsN fun _ _ _ _ _ _ us hl => match us, hl with | [_, _, _], _ => rfl⟩
theorem fc_Register_see {P : Program} {w : PySem.World} {K : PySem.W.Frag} {mg : Str → Option Value} {base : Heap} {T : List (Addr × Str)} {f : Addr} {fd : FuncData} (h : Hd mg) (xh : Hx mg K) (c_Register_become : MtC P w K mg base T 1 "Register" "become" ["self", "tellings", "marks"] S_Register_become) (c_need_mark : FnC P w K mg base T 4 "need_mark" ["field", "mark"] S_need_mark) (c_with_one : FnC P w K mg base T 3 "with_one" ["kept", "thing", "most"] S_with_one) (F : FunD K "see" "Register.see" (defArgs s_Register_see) (defBody s_Register_see) (defScope s_Register_see) [] [] f fd) (Cl : Cls K (He.ga K "Register")) (M : Meth K (He.ga K "Register") "see" f) : MtC P w K mg base T 5 "Register" "see" ["self", "mark"] S_Register_see :=
  ⟨_, _, Bd.FunD.okG F sc_Register_see rfl SL_Register_see r_Register_see (b_Register_see h xh c_Register_become c_need_mark c_with_one), Cl, M, F.bindsN fun _ _ _ _ _ _ us hl => match us, hl with | [_, _], _ => rfl⟩
theorem ok_need_telling {P : Program} {w : PySem.World} {K : PySem.W.Frag} {mg : Str → Option Value} {base : Heap} {T : List (Addr × Str)} {f : Addr} {fd : FuncData} (h : Hd mg) (xh : Hx mg K) (c_is_telling : FnC P w K mg base T 5 "is_telling" ["field", "thing"] S_is_telling) (F : FunD K "need_telling" "need_telling" (defArgs s_need_telling) (defBody s_need_telling) (defScope s_need_telling) [] [] f fd) : FnG P w K mg base 6 f fd ["field", "telling"] (spD K T S_need_telling) :=
  Bd.FunD.okG F sc_need_telling rfl SL_need_telling r_need_telling (b_need_telling h xh c_is_telling)
theorem fc_need_telling {P : Program} {w : PySem.World} {K : PySem.W.Frag} {mg : Str → Option Value} {base : Heap} {T : List (Addr × Str)} {f : Addr} {fd : FuncData} (h : Hd mg) (xh : Hx mg K) (c_is_telling : FnC P w K mg base T 5 "is_telling" ["field", "thing"] S_is_telling) (F : FunD K "need_telling" "need_telling" (defArgs s_need_telling) (defBody s_need_telling) (defScope s_need_telling) [] [] f fd) (hm : mg "need_telling" = some (.ref f)) : FnC P w K mg base T 6 "need_telling" ["field", "telling"] S_need_telling :=
  ⟨_, _, ok_need_telling h xh c_is_telling F, hm, F.kp, F.bindsN fun _ _ _ _ _ _ us hl => match us, hl with | [_, _], _ => rfl⟩
theorem fc_Register_tell {P : Program} {w : PySem.World} {K : PySem.W.Frag} {mg : Str → Option Value} {base : Heap} {T : List (Addr × Str)} {f : Addr} {fd : FuncData} (h : Hd mg) (xh : Hx mg K) (c_Register_become : MtC P w K mg base T 1 "Register" "become" ["self", "tellings", "marks"] S_Register_become) (c_need_telling : FnC P w K mg base T 6 "need_telling" ["field", "telling"] S_need_telling) (c_with_one : FnC P w K mg base T 3 "with_one" ["kept", "thing", "most"] S_with_one) (F : FunD K "tell" "Register.tell" (defArgs s_Register_tell) (defBody s_Register_tell) (defScope s_Register_tell) [] [] f fd) (Cl : Cls K (He.ga K "Register")) (M : Meth K (He.ga K "Register") "tell" f) : MtC P w K mg base T 7 "Register" "tell" ["self", "telling"] S_Register_tell :=
  ⟨_, _, Bd.FunD.okG F sc_Register_tell rfl SL_Register_tell r_Register_tell (b_Register_tell h xh c_Register_become c_need_telling c_with_one), Cl, M, F.bindsN fun _ _ _ _ _ _ us hl => match us, hl with | [_, _], _ => rfl⟩
theorem ok_without_one {P : Program} {w : PySem.World} {K : PySem.W.Frag} {mg : Str → Option Value} {base : Heap} {T : List (Addr × Str)} {f : Addr} {fd : FuncData} (h : Hd mg) (xh : Hx mg K)  (F : FunD K "without_one" "without_one" (defArgs s_without_one) (defBody s_without_one) (defScope s_without_one) [] [] f fd) : FnG P w K mg base 1 f fd ["kept", "thing"] (spD K T S_without_one) :=
  Bd.FunD.okG F sc_without_one rfl SL_without_one r_without_one (b_without_one h xh )
theorem fc_without_one {P : Program} {w : PySem.World} {K : PySem.W.Frag} {mg : Str → Option Value} {base : Heap} {T : List (Addr × Str)} {f : Addr} {fd : FuncData} (h : Hd mg) (xh : Hx mg K)  (F : FunD K "without_one" "without_one" (defArgs s_without_one) (defBody s_without_one) (defScope s_without_one) [] [] f fd) (hm : mg "without_one" = some (.ref f)) : FnC P w K mg base T 1 "without_one" ["kept", "thing"] S_without_one :=
  ⟨_, _, ok_without_one h xh  F, hm, F.kp, F.bindsN fun _ _ _ _ _ _ us hl => match us, hl with | [_, _], _ => rfl⟩
theorem fc_Register_unsay {P : Program} {w : PySem.World} {K : PySem.W.Frag} {mg : Str → Option Value} {base : Heap} {T : List (Addr × Str)} {f : Addr} {fd : FuncData} (h : Hd mg) (xh : Hx mg K) (c_Register_become : MtC P w K mg base T 1 "Register" "become" ["self", "tellings", "marks"] S_Register_become) (c_need_telling : FnC P w K mg base T 6 "need_telling" ["field", "telling"] S_need_telling) (c_without_one : FnC P w K mg base T 1 "without_one" ["kept", "thing"] S_without_one) (F : FunD K "unsay" "Register.unsay" (defArgs s_Register_unsay) (defBody s_Register_unsay) (defScope s_Register_unsay) [] [] f fd) (Cl : Cls K (He.ga K "Register")) (M : Meth K (He.ga K "Register") "unsay" f) : MtC P w K mg base T 7 "Register" "unsay" ["self", "telling"] S_Register_unsay :=
  ⟨_, _, Bd.FunD.okG F sc_Register_unsay rfl SL_Register_unsay r_Register_unsay (b_Register_unsay h xh c_Register_become c_need_telling c_without_one), Cl, M, F.bindsN fun _ _ _ _ _ _ us hl => match us, hl with | [_, _], _ => rfl⟩
theorem fc_Register_unsee {P : Program} {w : PySem.World} {K : PySem.W.Frag} {mg : Str → Option Value} {base : Heap} {T : List (Addr × Str)} {f : Addr} {fd : FuncData} (h : Hd mg) (xh : Hx mg K) (c_Register_become : MtC P w K mg base T 1 "Register" "become" ["self", "tellings", "marks"] S_Register_become) (c_need_mark : FnC P w K mg base T 4 "need_mark" ["field", "mark"] S_need_mark) (c_without_one : FnC P w K mg base T 1 "without_one" ["kept", "thing"] S_without_one) (F : FunD K "unsee" "Register.unsee" (defArgs s_Register_unsee) (defBody s_Register_unsee) (defScope s_Register_unsee) [] [] f fd) (Cl : Cls K (He.ga K "Register")) (M : Meth K (He.ga K "Register") "unsee" f) : MtC P w K mg base T 5 "Register" "unsee" ["self", "mark"] S_Register_unsee :=
  ⟨_, _, Bd.FunD.okG F sc_Register_unsee rfl SL_Register_unsee r_Register_unsee (b_Register_unsee h xh c_Register_become c_need_mark c_without_one), Cl, M, F.bindsN fun _ _ _ _ _ _ us hl => match us, hl with | [_, _], _ => rfl⟩
theorem ok_law_full_right {P : Program} {w : PySem.World} {K : PySem.W.Frag} {mg : Str → Option Value} {base : Heap} {T : List (Addr × Str)} {f : Addr} {fd : FuncData} (h : Hd mg) (c_Register_case_now : MtC P w K mg base T 1 "Register" "case_now" ["self"] S_Register_case_now) (c_Register_see : MtC P w K mg base T 5 "Register" "see" ["self", "mark"] S_Register_see) (c_Register_tell : MtC P w K mg base T 7 "Register" "tell" ["self", "telling"] S_Register_tell) (c_Register_unsay : MtC P w K mg base T 7 "Register" "unsay" ["self", "telling"] S_Register_unsay) (c_Register_unsee : MtC P w K mg base T 5 "Register" "unsee" ["self", "mark"] S_Register_unsee) (cK : SaidM P w K mg base T "_law_said" ok_law_said) (cM : ∀ A outer s H E, LamM base mg T fd.code (FX P w K mg base N_law_full_right "_law_full_right" (defScope s_law_full_right) f fd.code A outer s H E).env.qual) (F : FunD K "_law_full_right" "_law_full_right" (defArgs s_law_full_right) (defBody s_law_full_right) (defScope s_law_full_right) [] [] f fd) : FnG P w K mg base 10 f fd ["_law_office", "_law_field_here", "_law_bad"] (spD K T S_law_full_right) :=
  FunD.okL F sc_law_full_right rfl SL_law_full_right r_law_full_right (b_law_full_right h c_Register_case_now c_Register_see c_Register_tell c_Register_unsay c_Register_unsee cK fd.code cM)
theorem fc_law_full_right {P : Program} {w : PySem.World} {K : PySem.W.Frag} {mg : Str → Option Value} {base : Heap} {T : List (Addr × Str)} {f : Addr} {fd : FuncData} (h : Hd mg) (c_Register_case_now : MtC P w K mg base T 1 "Register" "case_now" ["self"] S_Register_case_now) (c_Register_see : MtC P w K mg base T 5 "Register" "see" ["self", "mark"] S_Register_see) (c_Register_tell : MtC P w K mg base T 7 "Register" "tell" ["self", "telling"] S_Register_tell) (c_Register_unsay : MtC P w K mg base T 7 "Register" "unsay" ["self", "telling"] S_Register_unsay) (c_Register_unsee : MtC P w K mg base T 5 "Register" "unsee" ["self", "mark"] S_Register_unsee) (cK : SaidM P w K mg base T "_law_said" ok_law_said) (cM : ∀ A outer s H E, LamM base mg T fd.code (FX P w K mg base N_law_full_right "_law_full_right" (defScope s_law_full_right) f fd.code A outer s H E).env.qual) (F : FunD K "_law_full_right" "_law_full_right" (defArgs s_law_full_right) (defBody s_law_full_right) (defScope s_law_full_right) [] [] f fd) (hm : mg "_law_full_right" = some (.ref f)) : FnC P w K mg base T 10 "_law_full_right" ["_law_office", "_law_field_here", "_law_bad"] S_law_full_right :=
  ⟨_, _, ok_law_full_right h c_Register_case_now c_Register_see c_Register_tell c_Register_unsay c_Register_unsee cK cM F, hm, F.kp, F.bindsN fun _ _ _ _ _ _ us hl => match us, hl with | [_, _, _], _ => rfl⟩
theorem ok_law_made_right {P : Program} {w : PySem.World} {K : PySem.W.Frag} {mg : Str → Option Value} {base : Heap} {T : List (Addr × Str)} {f : Addr} {fd : FuncData} (h : Hd mg) (c_Register__init : MkI P w K mg base T 4 "Register" ["self", "field", "pace"] S_Register__init) (cK : SaidM P w K mg base T "_law_said" ok_law_said) (cM : ∀ A outer s H E, LamM base mg T fd.code (FX P w K mg base N_law_made_right "_law_made_right" (defScope s_law_made_right) f fd.code A outer s H E).env.qual) (F : FunD K "_law_made_right" "_law_made_right" (defArgs s_law_made_right) (defBody s_law_made_right) (defScope s_law_made_right) [] [] f fd) : FnG P w K mg base 8 f fd ["_law_field_here", "_law_pace"] (spD K T S_law_made_right) :=
  FunD.okL F sc_law_made_right rfl SL_law_made_right r_law_made_right (b_law_made_right h c_Register__init cK fd.code cM)
theorem fc_law_made_right {P : Program} {w : PySem.World} {K : PySem.W.Frag} {mg : Str → Option Value} {base : Heap} {T : List (Addr × Str)} {f : Addr} {fd : FuncData} (h : Hd mg) (c_Register__init : MkI P w K mg base T 4 "Register" ["self", "field", "pace"] S_Register__init) (cK : SaidM P w K mg base T "_law_said" ok_law_said) (cM : ∀ A outer s H E, LamM base mg T fd.code (FX P w K mg base N_law_made_right "_law_made_right" (defScope s_law_made_right) f fd.code A outer s H E).env.qual) (F : FunD K "_law_made_right" "_law_made_right" (defArgs s_law_made_right) (defBody s_law_made_right) (defScope s_law_made_right) [] [] f fd) (hm : mg "_law_made_right" = some (.ref f)) : FnC P w K mg base T 8 "_law_made_right" ["_law_field_here", "_law_pace"] S_law_made_right :=
  ⟨_, _, ok_law_made_right h c_Register__init cK cM F, hm, F.kp, F.bindsN fun _ _ _ _ _ _ us hl => match us, hl with | [_, _], _ => rfl⟩
theorem ok_law_odd {P : Program} {w : PySem.World} {K : PySem.W.Frag} {mg : Str → Option Value} {base : Heap} {T : List (Addr × Str)} {f : Addr} {fd : FuncData} (h : Hd mg) (c_law_take : FnC P w K mg base T 1 "_law_take" ["_law_box_here", "_law_count"] S_law_take) (F : FunD K "_law_odd" "_law_odd" (defArgs s_law_odd) (defBody s_law_odd) (defScope s_law_odd) [] [] f fd) : FnG P w K mg base 2 f fd ["_law_box_here"] (spD K T S_law_odd) :=
  Bd.FunD.okG F sc_law_odd rfl SL_law_odd r_law_odd (b_law_odd h c_law_take)
theorem fc_law_odd {P : Program} {w : PySem.World} {K : PySem.W.Frag} {mg : Str → Option Value} {base : Heap} {T : List (Addr × Str)} {f : Addr} {fd : FuncData} (h : Hd mg) (c_law_take : FnC P w K mg base T 1 "_law_take" ["_law_box_here", "_law_count"] S_law_take) (F : FunD K "_law_odd" "_law_odd" (defArgs s_law_odd) (defBody s_law_odd) (defScope s_law_odd) [] [] f fd) (hm : mg "_law_odd" = some (.ref f)) : FnC P w K mg base T 2 "_law_odd" ["_law_box_here"] S_law_odd :=
  ⟨_, _, ok_law_odd h c_law_take F, hm, F.kp, F.bindsN fun _ _ _ _ _ _ us hl => match us, hl with | [_], _ => rfl⟩
theorem ok_law_right {P : Program} {w : PySem.World} {K : PySem.W.Frag} {mg : Str → Option Value} {base : Heap} {T : List (Addr × Str)} {f : Addr} {fd : FuncData} (h : Hd mg) (c_Register__init : MkI P w K mg base T 4 "Register" ["self", "field", "pace"] S_Register__init) (c_Register_case_now : MtC P w K mg base T 1 "Register" "case_now" ["self"] S_Register_case_now) (c_Register_undo : MtC P w K mg base T 1 "Register" "undo" ["self"] S_Register_undo) (c_law_asked_right : FnC P w K mg base T 12 "_law_asked_right" ["_law_office", "_law_field_here", "_law_bad"] S_law_asked_right) (c_law_field : FnC P w K mg base T 2 "_law_field" ["_law_box_here", "_law_most"] S_law_field) (c_law_full_right : FnC P w K mg base T 10 "_law_full_right" ["_law_office", "_law_field_here", "_law_bad"] S_law_full_right) (c_law_made_right : FnC P w K mg base T 8 "_law_made_right" ["_law_field_here", "_law_pace"] S_law_made_right) (c_law_odd : FnC P w K mg base T 2 "_law_odd" ["_law_box_here"] S_law_odd) (c_law_take : FnC P w K mg base T 1 "_law_take" ["_law_box_here", "_law_count"] S_law_take) (cK : SaidM P w K mg base T "_law_said" ok_law_said) (cM : ∀ A outer s H E, LamM base mg T fd.code (FX P w K mg base N_law_right "_law_right" (defScope s_law_right) f fd.code A outer s H E).env.qual) (F : FunD K "_law_right" "_law_right" (defArgs s_law_right) (defBody s_law_right) (defScope s_law_right) [] [] f fd) : FnG P w K mg base 15 f fd ["_law_box_here"] (spD K T S_law_right) :=
  FunD.okL F sc_law_right rfl SL_law_right r_law_right (b_law_right h c_Register__init c_Register_case_now c_Register_undo c_law_asked_right c_law_field c_law_full_right c_law_made_right c_law_odd c_law_take cK fd.code cM)
theorem fc_law_right {P : Program} {w : PySem.World} {K : PySem.W.Frag} {mg : Str → Option Value} {base : Heap} {T : List (Addr × Str)} {f : Addr} {fd : FuncData} (h : Hd mg) (c_Register__init : MkI P w K mg base T 4 "Register" ["self", "field", "pace"] S_Register__init) (c_Register_case_now : MtC P w K mg base T 1 "Register" "case_now" ["self"] S_Register_case_now) (c_Register_undo : MtC P w K mg base T 1 "Register" "undo" ["self"] S_Register_undo) (c_law_asked_right : FnC P w K mg base T 12 "_law_asked_right" ["_law_office", "_law_field_here", "_law_bad"] S_law_asked_right) (c_law_field : FnC P w K mg base T 2 "_law_field" ["_law_box_here", "_law_most"] S_law_field) (c_law_full_right : FnC P w K mg base T 10 "_law_full_right" ["_law_office", "_law_field_here", "_law_bad"] S_law_full_right) (c_law_made_right : FnC P w K mg base T 8 "_law_made_right" ["_law_field_here", "_law_pace"] S_law_made_right) (c_law_odd : FnC P w K mg base T 2 "_law_odd" ["_law_box_here"] S_law_odd) (c_law_take : FnC P w K mg base T 1 "_law_take" ["_law_box_here", "_law_count"] S_law_take) (cK : SaidM P w K mg base T "_law_said" ok_law_said) (cM : ∀ A outer s H E, LamM base mg T fd.code (FX P w K mg base N_law_right "_law_right" (defScope s_law_right) f fd.code A outer s H E).env.qual) (F : FunD K "_law_right" "_law_right" (defArgs s_law_right) (defBody s_law_right) (defScope s_law_right) [] [] f fd) (hm : mg "_law_right" = some (.ref f)) : FnC P w K mg base T 15 "_law_right" ["_law_box_here"] S_law_right :=
  ⟨_, _, ok_law_right h c_Register__init c_Register_case_now c_Register_undo c_law_asked_right c_law_field c_law_full_right c_law_made_right c_law_odd c_law_take cK cM F, hm, F.kp, F.bindsN fun _ _ _ _ _ _ us hl => match us, hl with | [_], _ => rfl⟩
theorem ok_law {P : Program} {w : PySem.World} {K : PySem.W.Frag} {mg : Str → Option Value} {base : Heap} {T : List (Addr × Str)} {f : Addr} {fd : FuncData} (h : Hd mg) (c_law_box : FnC P w K mg base T 2 "_law_box" ["_law_script", "_law_k", "_law_lap"] S_law_box) (c_law_right : FnC P w K mg base T 15 "_law_right" ["_law_box_here"] S_law_right) (F : FunD K "law" "law" (defArgs s_law) (defBody s_law) (defScope s_law) [] [] f fd) : FnG P w K mg base 16 f fd ["_law_script"] (spD K T S_law) :=
  Bd.FunD.okG F sc_law rfl SL_law r_law (b_law h c_law_box c_law_right)
theorem law_law : LawS 63 S_law := fun ns h _ Q E hq => ⟨ns, rfl, h, hq⟩
section
variable {K : PySem.W.Frag} {h : Heap} {mg : Str → Option Value}
theorem hd_of (X : K.In h) (G : h.Ns mainGlobals mg) (c : He.SaysD fa fn K) : Hd mg where
  n_ValueError := He.free_ok X G (c.fact 44 (f := .free "ValueError") rfl)
  n_abs := He.free_ok X G (c.fact 45 (f := .free "abs") rfl)
  n_all := He.free_ok X G (c.fact 46 (f := .free "all") rfl)
  n_bool := He.free_ok X G (c.fact 47 (f := .free "bool") rfl)
  n_divmod := He.free_ok X G (c.fact 48 (f := .free "divmod") rfl)
  n_int := He.free_ok X G (c.fact 49 (f := .free "int") rfl)
  n_isinstance := He.free_ok X G (c.fact 50 (f := .free "isinstance") rfl)
  n_len := He.free_ok X G (c.fact 51 (f := .free "len") rfl)
  n_list := He.free_ok X G (c.fact 52 (f := .free "list") rfl)
  n_max := He.free_ok X G (c.fact 53 (f := .free "max") rfl)
  n_min := He.free_ok X G (c.fact 54 (f := .free "min") rfl)
  n_range := He.free_ok X G (c.fact 55 (f := .free "range") rfl)
  n_sorted := He.free_ok X G (c.fact 56 (f := .free "sorted") rfl)
  n_str := He.free_ok X G (c.fact 57 (f := .free "str") rfl)
  n_tuple := He.free_ok X G (c.fact 58 (f := .free "tuple") rfl)
  n_zip := He.free_ok X G (c.fact 59 (f := .free "zip") rfl)
  c_CROWN := He.int_ok X G (c.fact 60 (f := .int "CROWN" 9) rfl)
  c_LAST_DAY := He.int_ok X G (c.fact 61 (f := .int "LAST_DAY" 999) rfl)
  c_MOST_CELLS := He.int_ok X G (c.fact 62 (f := .int "MOST_CELLS" 16) rfl)
  c_MOST_MARKS := He.int_ok X G (c.fact 63 (f := .int "MOST_MARKS" 40) rfl)
  c_MOST_PACE := He.int_ok X G (c.fact 64 (f := .int "MOST_PACE" 9) rfl)
  c_MOST_ROWS := He.int_ok X G (c.fact 65 (f := .int "MOST_ROWS" 8) rfl)
  c_MOST_TELLERS := He.int_ok X G (c.fact 66 (f := .int "MOST_TELLERS" 9) rfl)
  c_MOST_TELLINGS := He.int_ok X G (c.fact 67 (f := .int "MOST_TELLINGS" 16) rfl)
  c_MOST_WIDE := He.int_ok X G (c.fact 68 (f := .int "MOST_WIDE" 8) rfl)
  c_RIVER := He.int_ok X G (c.fact 69 (f := .int "RIVER" 0) rfl)
theorem hx_of (X : K.In h) (G : h.Ns mainGlobals mg) (c : He.SaysD fa fn K) (m : (fun K => (ol_law_said.all fun p => xclsB K "BedError" ys_law_said p.1) && (oexB K "TooMany" && (xfB K (He.ga K "TooMany") && ((([(("_law_asked_right", none), ("_law_full_right", none)), (("_law_asked_right", none), ("_law_made_right", none)), (("_law_asked_right", none), ("_law_right", none)), (("_law_full_right", none), ("_law_asked_right", none)), (("_law_full_right", none), ("_law_made_right", none)), (("_law_full_right", none), ("_law_right", none)), (("_law_made_right", none), ("_law_asked_right", none)), (("_law_made_right", none), ("_law_full_right", none)), (("_law_made_right", none), ("_law_right", none)), (("_law_right", none), ("_law_asked_right", none)), (("_law_right", none), ("_law_full_right", none)), (("_law_right", none), ("_law_made_right", none))] : List (He.Defn × He.Defn)).all fun p => decide ((He.cT K p.1).2 ≠ (He.cT K p.2).2)))))) K = true) : Hx mg K where
  r_Gone := ⟨He.glo_ok X G (c.fact 95 (f := .glo "Gone") rfl), c.fact 85 (f := .exc "Gone") rfl⟩
  r_NoCell := ⟨He.glo_ok X G (c.fact 97 (f := .glo "NoCell") rfl), c.fact 86 (f := .exc "NoCell") rfl⟩
  r_NoDay := ⟨He.glo_ok X G (c.fact 101 (f := .glo "NoDay") rfl), c.fact 87 (f := .exc "NoDay") rfl⟩
  r_NoField := ⟨He.glo_ok X G (c.fact 102 (f := .glo "NoField") rfl), c.fact 88 (f := .exc "NoField") rfl⟩
  r_NoMark := ⟨He.glo_ok X G (c.fact 105 (f := .glo "NoMark") rfl), c.fact 89 (f := .exc "NoMark") rfl⟩
  r_NoPace := ⟨He.glo_ok X G (c.fact 107 (f := .glo "NoPace") rfl), c.fact 90 (f := .exc "NoPace") rfl⟩
  r_NoTelling := ⟨He.glo_ok X G (c.fact 110 (f := .glo "NoTelling") rfl), c.fact 91 (f := .exc "NoTelling") rfl⟩
  r_Nothing := ⟨He.glo_ok X G (c.fact 112 (f := .glo "Nothing") rfl), c.fact 92 (f := .exc "Nothing") rfl⟩
  r_There := ⟨He.glo_ok X G (c.fact 113 (f := .glo "There") rfl), c.fact 93 (f := .exc "There") rfl⟩
  g_BedError := He.glo_ok X G (c.fact 94 (f := .glo "BedError") rfl)
  g_Gone := He.glo_ok X G (c.fact 95 (f := .glo "Gone") rfl)
  g_NoCase := He.glo_ok X G (c.fact 96 (f := .glo "NoCase") rfl)
  g_NoCell := He.glo_ok X G (c.fact 97 (f := .glo "NoCell") rfl)
  g_NoCells := He.glo_ok X G (c.fact 98 (f := .glo "NoCells") rfl)
  g_NoChange := He.glo_ok X G (c.fact 99 (f := .glo "NoChange") rfl)
  g_NoChanges := He.glo_ok X G (c.fact 100 (f := .glo "NoChanges") rfl)
  g_NoDay := He.glo_ok X G (c.fact 101 (f := .glo "NoDay") rfl)
  g_NoField := He.glo_ok X G (c.fact 102 (f := .glo "NoField") rfl)
  g_NoFronts := He.glo_ok X G (c.fact 103 (f := .glo "NoFronts") rfl)
  g_NoLine := He.glo_ok X G (c.fact 104 (f := .glo "NoLine") rfl)
  g_NoMark := He.glo_ok X G (c.fact 105 (f := .glo "NoMark") rfl)
  g_NoNumber := He.glo_ok X G (c.fact 106 (f := .glo "NoNumber") rfl)
  g_NoPace := He.glo_ok X G (c.fact 107 (f := .glo "NoPace") rfl)
  g_NoSpans := He.glo_ok X G (c.fact 108 (f := .glo "NoSpans") rfl)
  g_NoStanding := He.glo_ok X G (c.fact 109 (f := .glo "NoStanding") rfl)
  g_NoTelling := He.glo_ok X G (c.fact 110 (f := .glo "NoTelling") rfl)
  g_NoText := He.glo_ok X G (c.fact 111 (f := .glo "NoText") rfl)
  g_Nothing := He.glo_ok X G (c.fact 112 (f := .glo "Nothing") rfl)
  g_There := He.glo_ok X G (c.fact 113 (f := .glo "There") rfl)
  g_TooMany := He.glo_ok X G (c.fact 114 (f := .glo "TooMany") rfl)
  i_Register := ⟨He.cls_ok (c.fact 80 (f := .cls "Register") rfl), fun f hf => by
    simp only [ks_Register, List.mem_cons, List.not_mem_nil, or_false] at hf
    rcases hf with rfl | rfl | rfl | rfl
    · exact He.noat_ok (c.fact 81 (f := .noat "Register" "own_field") rfl)
    · exact He.noat_ok (c.fact 82 (f := .noat "Register" "own_pace") rfl)
    · exact He.noat_ok (c.fact 83 (f := .noat "Register" "own_state") rfl)
    · exact He.noat_ok (c.fact 84 (f := .noat "Register" "own_past") rfl)⟩
  x_law_said := fun c ns t hc => by
    obtain ⟨z, hz⟩ := okM_mem hc
    exact xcls_of (List.all_eq_true.mp (Bool.and_eq_true_iff.mp m).1 (c, z) hz)
  xf_TooMany := xfB_ok (Bool.and_eq_true_iff.mp (Bool.and_eq_true_iff.mp (Bool.and_eq_true_iff.mp m).2).2).1
  xn_many := (oex_of (x := "TooMany") (Bool.and_eq_true_iff.mp (Bool.and_eq_true_iff.mp m).2).1).f1
  xn_most := (oex_of (x := "TooMany") (Bool.and_eq_true_iff.mp (Bool.and_eq_true_iff.mp m).2).1).f2
end
theorem facts {w : PySem.World} {K : PySem.W.Frag} {h : Heap} {mg : Str → Option Value} {fl : Addr} (X : K.In h) (G : h.Ns mainGlobals mg) (hfa : mg ("law" : Str) = some (.ref fl)) (cc : He.SaysX fa fn [] [("_law_asked_right", none), ("_law_full_right", none), ("_law_made_right", none), ("_law_right", none)] (fun K => (ol_law_said.all fun p => xclsB K "BedError" ys_law_said p.1) && (oexB K "TooMany" && (xfB K (He.ga K "TooMany") && ((([(("_law_asked_right", none), ("_law_full_right", none)), (("_law_asked_right", none), ("_law_made_right", none)), (("_law_asked_right", none), ("_law_right", none)), (("_law_full_right", none), ("_law_asked_right", none)), (("_law_full_right", none), ("_law_made_right", none)), (("_law_full_right", none), ("_law_right", none)), (("_law_made_right", none), ("_law_asked_right", none)), (("_law_made_right", none), ("_law_full_right", none)), (("_law_made_right", none), ("_law_right", none)), (("_law_right", none), ("_law_asked_right", none)), (("_law_right", none), ("_law_full_right", none)), (("_law_right", none), ("_law_made_right", none))] : List (He.Defn × He.Defn)).all fun p => decide ((He.cT K p.1).2 ≠ (He.cT K p.2).2)))))) w h K) : ∃ fd, LawG PySem.Challenge.rw_bedlands_k73_registers_refuse w 16 63 "_law_script" mg fl h K fd [He.cT K ("_law_asked_right", none), He.cT K ("_law_full_right", none), He.cT K ("_law_made_right", none), He.cT K ("_law_right", none)] [((He.cT K ("_law_asked_right", none)).2, ("_law_asked_right.<locals>.<lambda>" : Str)), ((He.cT K ("_law_full_right", none)).2, ("_law_full_right.<locals>.<lambda>" : Str)), ((He.cT K ("_law_made_right", none)).2, ("_law_made_right.<locals>.<lambda>" : Str)), ((He.cT K ("_law_right", none)).2, ("_law_right.<locals>.<lambda>" : Str))] S_law := by
  have c : He.SaysD fa fn K := cc.t.d
  have H := hd_of X G c
  have xh := hx_of X G c cc.more
  obtain ⟨fd_law_cell, F_law_cell⟩ := c.def_ 0 (d := d_law_cell) rfl
  have m_law_cell := He.glo_ok X G (c.fact 0 (f := .glo "_law_cell") rfl)
  obtain ⟨fd_law_mix, F_law_mix⟩ := c.def_ 1 (d := d_law_mix) rfl
  have m_law_mix := He.glo_ok X G (c.fact 1 (f := .glo "_law_mix") rfl)
  obtain ⟨fd_law_box, F_law_box⟩ := c.def_ 2 (d := d_law_box) rfl
  have m_law_box := He.glo_ok X G (c.fact 2 (f := .glo "_law_box") rfl)
  obtain ⟨fd_is_whole, F_is_whole⟩ := c.def_ 3 (d := d_is_whole) rfl
  have m_is_whole := He.glo_ok X G (c.fact 3 (f := .glo "is_whole") rfl)
  obtain ⟨fd_is_field, F_is_field⟩ := c.def_ 4 (d := d_is_field) rfl
  have m_is_field := He.glo_ok X G (c.fact 4 (f := .glo "is_field") rfl)
  obtain ⟨fd_need_field, F_need_field⟩ := c.def_ 5 (d := d_need_field) rfl
  have m_need_field := He.glo_ok X G (c.fact 5 (f := .glo "need_field") rfl)
  obtain ⟨fd_need_pace, F_need_pace⟩ := c.def_ 6 (d := d_need_pace) rfl
  have m_need_pace := He.glo_ok X G (c.fact 6 (f := .glo "need_pace") rfl)
  obtain ⟨fd_Register__init, F_Register__init⟩ := c.def_ 7 (d := d_Register__init) rfl
  have m_Register__init := He.glo_ok X G (c.fact 7 (f := .glo "Register") rfl)
  have M_Register__init := He.mkr_ok (c.fact 70 (f := .mkr "Register") rfl)
  obtain ⟨fd_Register_case_now, F_Register_case_now⟩ := c.def_ 8 (d := d_Register_case_now) rfl
  have m_Register_case_now := He.glo_ok X G (c.fact 8 (f := .glo "Register") rfl)
  have M_Register_case_now := He.meth_ok (c.fact 71 (f := .meth "Register" "case_now") rfl)
  obtain ⟨fd_Register_undo, F_Register_undo⟩ := c.def_ 9 (d := d_Register_undo) rfl
  have m_Register_undo := He.glo_ok X G (c.fact 9 (f := .glo "Register") rfl)
  have M_Register_undo := He.meth_ok (c.fact 72 (f := .meth "Register" "undo") rfl)
  obtain ⟨fd_is_cell, F_is_cell⟩ := c.def_ 10 (d := d_is_cell) rfl
  have m_is_cell := He.glo_ok X G (c.fact 10 (f := .glo "is_cell") rfl)
  obtain ⟨fd_is_mark, F_is_mark⟩ := c.def_ 11 (d := d_is_mark) rfl
  have m_is_mark := He.glo_ok X G (c.fact 11 (f := .glo "is_mark") rfl)
  obtain ⟨fd_is_rising, F_is_rising⟩ := c.def_ 12 (d := d_is_rising) rfl
  have m_is_rising := He.glo_ok X G (c.fact 12 (f := .glo "is_rising") rfl)
  obtain ⟨fd_are_cells, F_are_cells⟩ := c.def_ 13 (d := d_are_cells) rfl
  have m_are_cells := He.glo_ok X G (c.fact 13 (f := .glo "are_cells") rfl)
  obtain ⟨fd_change_in, F_change_in⟩ := c.def_ 14 (d := d_change_in) rfl
  have m_change_in := He.glo_ok X G (c.fact 14 (f := .glo "change_in") rfl)
  obtain ⟨fd_is_telling, F_is_telling⟩ := c.def_ 15 (d := d_is_telling) rfl
  have m_is_telling := He.glo_ok X G (c.fact 15 (f := .glo "is_telling") rfl)
  obtain ⟨fd_is_case, F_is_case⟩ := c.def_ 16 (d := d_is_case) rfl
  have m_is_case := He.glo_ok X G (c.fact 16 (f := .glo "is_case") rfl)
  obtain ⟨fd_need_case, F_need_case⟩ := c.def_ 17 (d := d_need_case) rfl
  have m_need_case := He.glo_ok X G (c.fact 17 (f := .glo "need_case") rfl)
  obtain ⟨fd_need_cell, F_need_cell⟩ := c.def_ 18 (d := d_need_cell) rfl
  have m_need_cell := He.glo_ok X G (c.fact 18 (f := .glo "need_cell") rfl)
  obtain ⟨fd_need_day, F_need_day⟩ := c.def_ 19 (d := d_need_day) rfl
  have m_need_day := He.glo_ok X G (c.fact 19 (f := .glo "need_day") rfl)
  obtain ⟨fd_hangs, F_hangs⟩ := c.def_ 20 (d := d_hangs) rfl
  have m_hangs := He.glo_ok X G (c.fact 20 (f := .glo "hangs") rfl)
  obtain ⟨fd_Register_hangs_now, F_Register_hangs_now⟩ := c.def_ 21 (d := d_Register_hangs_now) rfl
  have m_Register_hangs_now := He.glo_ok X G (c.fact 21 (f := .glo "Register") rfl)
  have M_Register_hangs_now := He.meth_ok (c.fact 73 (f := .meth "Register" "hangs_now") rfl)
  obtain ⟨fd_holders, F_holders⟩ := c.def_ 22 (d := d_holders) rfl
  have m_holders := He.glo_ok X G (c.fact 22 (f := .glo "holders") rfl)
  obtain ⟨fd_Register_holders_now, F_Register_holders_now⟩ := c.def_ 23 (d := d_Register_holders_now) rfl
  have m_Register_holders_now := He.glo_ok X G (c.fact 23 (f := .glo "Register") rfl)
  have M_Register_holders_now := He.meth_ok (c.fact 74 (f := .meth "Register" "holders_now") rfl)
  obtain ⟨fd_TooMany__init, F_TooMany__init⟩ := c.def_ 24 (d := d_TooMany__init) rfl
  have m_TooMany__init := He.glo_ok X G (c.fact 24 (f := .glo "TooMany") rfl)
  have O_TooMany__init := oex_of (x := "TooMany") (Bool.and_eq_true_iff.mp (Bool.and_eq_true_iff.mp cc.more).2).1
  obtain ⟨fd_law_which, F_law_which⟩ := c.def_ 25 (d := d_law_which) rfl
  have m_law_which := He.glo_ok X G (c.fact 25 (f := .glo "_law_which") rfl)
  obtain ⟨fd_law_said, F_law_said⟩ := c.def_ 26 (d := d_law_said) rfl
  have m_law_said := He.glo_ok X G (c.fact 26 (f := .glo "_law_said") rfl)
  obtain ⟨fd_law_asked_right, F_law_asked_right⟩ := c.def_ 27 (d := d_law_asked_right) rfl
  have m_law_asked_right := He.glo_ok X G (c.fact 27 (f := .glo "_law_asked_right") rfl)
  obtain ⟨fd_law_take, F_law_take⟩ := c.def_ 28 (d := d_law_take) rfl
  have m_law_take := He.glo_ok X G (c.fact 28 (f := .glo "_law_take") rfl)
  obtain ⟨fd_law_field, F_law_field⟩ := c.def_ 29 (d := d_law_field) rfl
  have m_law_field := He.glo_ok X G (c.fact 29 (f := .glo "_law_field") rfl)
  obtain ⟨fd_Register_become, F_Register_become⟩ := c.def_ 30 (d := d_Register_become) rfl
  have m_Register_become := He.glo_ok X G (c.fact 30 (f := .glo "Register") rfl)
  have M_Register_become := He.meth_ok (c.fact 75 (f := .meth "Register" "become") rfl)
  obtain ⟨fd_need_mark, F_need_mark⟩ := c.def_ 31 (d := d_need_mark) rfl
  have m_need_mark := He.glo_ok X G (c.fact 31 (f := .glo "need_mark") rfl)
  obtain ⟨fd_with_one, F_with_one⟩ := c.def_ 32 (d := d_with_one) rfl
  have m_with_one := He.glo_ok X G (c.fact 32 (f := .glo "with_one") rfl)
  obtain ⟨fd_Register_see, F_Register_see⟩ := c.def_ 33 (d := d_Register_see) rfl
  have m_Register_see := He.glo_ok X G (c.fact 33 (f := .glo "Register") rfl)
  have M_Register_see := He.meth_ok (c.fact 76 (f := .meth "Register" "see") rfl)
  obtain ⟨fd_need_telling, F_need_telling⟩ := c.def_ 34 (d := d_need_telling) rfl
  have m_need_telling := He.glo_ok X G (c.fact 34 (f := .glo "need_telling") rfl)
  obtain ⟨fd_Register_tell, F_Register_tell⟩ := c.def_ 35 (d := d_Register_tell) rfl
  have m_Register_tell := He.glo_ok X G (c.fact 35 (f := .glo "Register") rfl)
  have M_Register_tell := He.meth_ok (c.fact 77 (f := .meth "Register" "tell") rfl)
  obtain ⟨fd_without_one, F_without_one⟩ := c.def_ 36 (d := d_without_one) rfl
  have m_without_one := He.glo_ok X G (c.fact 36 (f := .glo "without_one") rfl)
  obtain ⟨fd_Register_unsay, F_Register_unsay⟩ := c.def_ 37 (d := d_Register_unsay) rfl
  have m_Register_unsay := He.glo_ok X G (c.fact 37 (f := .glo "Register") rfl)
  have M_Register_unsay := He.meth_ok (c.fact 78 (f := .meth "Register" "unsay") rfl)
  obtain ⟨fd_Register_unsee, F_Register_unsee⟩ := c.def_ 38 (d := d_Register_unsee) rfl
  have m_Register_unsee := He.glo_ok X G (c.fact 38 (f := .glo "Register") rfl)
  have M_Register_unsee := He.meth_ok (c.fact 79 (f := .meth "Register" "unsee") rfl)
  obtain ⟨fd_law_full_right, F_law_full_right⟩ := c.def_ 39 (d := d_law_full_right) rfl
  have m_law_full_right := He.glo_ok X G (c.fact 39 (f := .glo "_law_full_right") rfl)
  obtain ⟨fd_law_made_right, F_law_made_right⟩ := c.def_ 40 (d := d_law_made_right) rfl
  have m_law_made_right := He.glo_ok X G (c.fact 40 (f := .glo "_law_made_right") rfl)
  obtain ⟨fd_law_odd, F_law_odd⟩ := c.def_ 41 (d := d_law_odd) rfl
  have m_law_odd := He.glo_ok X G (c.fact 41 (f := .glo "_law_odd") rfl)
  obtain ⟨fd_law_right, F_law_right⟩ := c.def_ 42 (d := d_law_right) rfl
  have m_law_right := He.glo_ok X G (c.fact 42 (f := .glo "_law_right") rfl)
  obtain ⟨fd_law, F_law⟩ := c.def_ 43 (d := d_law) rfl
  have m_law := He.glo_ok X G (c.fact 43 (f := .glo "law") rfl)
  have e := hfa.symm.trans m_law
  cases e
  have one : ∀ q ∈ [He.cT K ("_law_asked_right", none), He.cT K ("_law_full_right", none), He.cT K ("_law_made_right", none), He.cT K ("_law_right", none)], ∃ p ∈ ([("_law_asked_right", none), ("_law_full_right", none), ("_law_made_right", none), ("_law_right", none)] : List He.Defn), q = He.cT K p := fun q hq => List.mem_map.mp (show q ∈ ([("_law_asked_right", none), ("_law_full_right", none), ("_law_made_right", none), ("_law_right", none)] : List He.Defn).map (He.cT K) from hq) |>.imp fun p h => ⟨h.1, h.2.symm⟩
  refine ⟨fd_law, X, fun q hq => ?_, fun q hq => ?_, fun q hq => ?_, ?_, fun p hp => ?_, law_law, fun base hb1 hb2 hTB => ?_⟩
  · obtain ⟨p, hp, rfl⟩ := one q hq; exact cc.empty p hp
  · obtain ⟨p, hp, rfl⟩ := one q hq; exact cc.out p hp
  · obtain ⟨p, hp, rfl⟩ := one q hq; exact PySem.W.codeHd_of_K X (cc.hd p hp)
  · have b := FunD.bindsA (ps := ["_law_script"]) F_law fun _ _ _ _ _ _ us hl => match us, hl with | [_], _ => rfl
    exact fun s u => b s [u] rfl
  · simp only [List.mem_cons, List.not_mem_nil, or_false] at hp
    rcases hp with hp | hp | hp | hp
    · subst hp; exact ⟨_, List.mem_cons_self, rfl⟩
    · subst hp; exact ⟨_, List.mem_cons_of_mem _ (List.mem_cons_self), rfl⟩
    · subst hp; exact ⟨_, List.mem_cons_of_mem _ (List.mem_cons_of_mem _ (List.mem_cons_self)), rfl⟩
    · subst hp; exact ⟨_, List.mem_cons_of_mem _ (List.mem_cons_of_mem _ (List.mem_cons_of_mem _ (List.mem_cons_self))), rfl⟩
  ·
    have C_law_cell := fc_law_cell (P := PySem.Challenge.rw_bedlands_k73_registers_refuse.prog) (w := w) (base := base) (T := [((He.cT K ("_law_asked_right", none)).2, ("_law_asked_right.<locals>.<lambda>" : Str)), ((He.cT K ("_law_full_right", none)).2, ("_law_full_right.<locals>.<lambda>" : Str)), ((He.cT K ("_law_made_right", none)).2, ("_law_made_right.<locals>.<lambda>" : Str)), ((He.cT K ("_law_right", none)).2, ("_law_right.<locals>.<lambda>" : Str))]) H  F_law_cell m_law_cell
    have C_law_mix := fc_law_mix (P := PySem.Challenge.rw_bedlands_k73_registers_refuse.prog) (w := w) (base := base) (T := [((He.cT K ("_law_asked_right", none)).2, ("_law_asked_right.<locals>.<lambda>" : Str)), ((He.cT K ("_law_full_right", none)).2, ("_law_full_right.<locals>.<lambda>" : Str)), ((He.cT K ("_law_made_right", none)).2, ("_law_made_right.<locals>.<lambda>" : Str)), ((He.cT K ("_law_right", none)).2, ("_law_right.<locals>.<lambda>" : Str))]) H  F_law_mix m_law_mix
    have C_law_box := fc_law_box (P := PySem.Challenge.rw_bedlands_k73_registers_refuse.prog) (w := w) (base := base) (T := [((He.cT K ("_law_asked_right", none)).2, ("_law_asked_right.<locals>.<lambda>" : Str)), ((He.cT K ("_law_full_right", none)).2, ("_law_full_right.<locals>.<lambda>" : Str)), ((He.cT K ("_law_made_right", none)).2, ("_law_made_right.<locals>.<lambda>" : Str)), ((He.cT K ("_law_right", none)).2, ("_law_right.<locals>.<lambda>" : Str))]) H C_law_cell C_law_mix F_law_box m_law_box
    have C_is_whole := fc_is_whole (P := PySem.Challenge.rw_bedlands_k73_registers_refuse.prog) (w := w) (base := base) (T := [((He.cT K ("_law_asked_right", none)).2, ("_law_asked_right.<locals>.<lambda>" : Str)), ((He.cT K ("_law_full_right", none)).2, ("_law_full_right.<locals>.<lambda>" : Str)), ((He.cT K ("_law_made_right", none)).2, ("_law_made_right.<locals>.<lambda>" : Str)), ((He.cT K ("_law_right", none)).2, ("_law_right.<locals>.<lambda>" : Str))]) H  F_is_whole m_is_whole
    have C_is_field := fc_is_field (P := PySem.Challenge.rw_bedlands_k73_registers_refuse.prog) (w := w) (base := base) (T := [((He.cT K ("_law_asked_right", none)).2, ("_law_asked_right.<locals>.<lambda>" : Str)), ((He.cT K ("_law_full_right", none)).2, ("_law_full_right.<locals>.<lambda>" : Str)), ((He.cT K ("_law_made_right", none)).2, ("_law_made_right.<locals>.<lambda>" : Str)), ((He.cT K ("_law_right", none)).2, ("_law_right.<locals>.<lambda>" : Str))]) H C_is_whole F_is_field m_is_field
    have C_need_field := fc_need_field (P := PySem.Challenge.rw_bedlands_k73_registers_refuse.prog) (w := w) (base := base) (T := [((He.cT K ("_law_asked_right", none)).2, ("_law_asked_right.<locals>.<lambda>" : Str)), ((He.cT K ("_law_full_right", none)).2, ("_law_full_right.<locals>.<lambda>" : Str)), ((He.cT K ("_law_made_right", none)).2, ("_law_made_right.<locals>.<lambda>" : Str)), ((He.cT K ("_law_right", none)).2, ("_law_right.<locals>.<lambda>" : Str))]) H xh C_is_field F_need_field m_need_field
    have C_need_pace := fc_need_pace (P := PySem.Challenge.rw_bedlands_k73_registers_refuse.prog) (w := w) (base := base) (T := [((He.cT K ("_law_asked_right", none)).2, ("_law_asked_right.<locals>.<lambda>" : Str)), ((He.cT K ("_law_full_right", none)).2, ("_law_full_right.<locals>.<lambda>" : Str)), ((He.cT K ("_law_made_right", none)).2, ("_law_made_right.<locals>.<lambda>" : Str)), ((He.cT K ("_law_right", none)).2, ("_law_right.<locals>.<lambda>" : Str))]) H xh C_is_whole F_need_pace m_need_pace
    have C_Register__init := fc_Register__init (P := PySem.Challenge.rw_bedlands_k73_registers_refuse.prog) (w := w) (base := base) (T := [((He.cT K ("_law_asked_right", none)).2, ("_law_asked_right.<locals>.<lambda>" : Str)), ((He.cT K ("_law_full_right", none)).2, ("_law_full_right.<locals>.<lambda>" : Str)), ((He.cT K ("_law_made_right", none)).2, ("_law_made_right.<locals>.<lambda>" : Str)), ((He.cT K ("_law_right", none)).2, ("_law_right.<locals>.<lambda>" : Str))]) H xh C_need_field C_need_pace F_Register__init m_Register__init M_Register__init
    have C_Register_case_now := fc_Register_case_now (P := PySem.Challenge.rw_bedlands_k73_registers_refuse.prog) (w := w) (base := base) (T := [((He.cT K ("_law_asked_right", none)).2, ("_law_asked_right.<locals>.<lambda>" : Str)), ((He.cT K ("_law_full_right", none)).2, ("_law_full_right.<locals>.<lambda>" : Str)), ((He.cT K ("_law_made_right", none)).2, ("_law_made_right.<locals>.<lambda>" : Str)), ((He.cT K ("_law_right", none)).2, ("_law_right.<locals>.<lambda>" : Str))]) H xh  F_Register_case_now xh.i_Register.cls M_Register_case_now
    have C_Register_undo := fc_Register_undo (P := PySem.Challenge.rw_bedlands_k73_registers_refuse.prog) (w := w) (base := base) (T := [((He.cT K ("_law_asked_right", none)).2, ("_law_asked_right.<locals>.<lambda>" : Str)), ((He.cT K ("_law_full_right", none)).2, ("_law_full_right.<locals>.<lambda>" : Str)), ((He.cT K ("_law_made_right", none)).2, ("_law_made_right.<locals>.<lambda>" : Str)), ((He.cT K ("_law_right", none)).2, ("_law_right.<locals>.<lambda>" : Str))]) H xh  F_Register_undo xh.i_Register.cls M_Register_undo
    have C_is_cell := fc_is_cell (P := PySem.Challenge.rw_bedlands_k73_registers_refuse.prog) (w := w) (base := base) (T := [((He.cT K ("_law_asked_right", none)).2, ("_law_asked_right.<locals>.<lambda>" : Str)), ((He.cT K ("_law_full_right", none)).2, ("_law_full_right.<locals>.<lambda>" : Str)), ((He.cT K ("_law_made_right", none)).2, ("_law_made_right.<locals>.<lambda>" : Str)), ((He.cT K ("_law_right", none)).2, ("_law_right.<locals>.<lambda>" : Str))]) H C_is_whole F_is_cell m_is_cell
    have C_is_mark := fc_is_mark (P := PySem.Challenge.rw_bedlands_k73_registers_refuse.prog) (w := w) (base := base) (T := [((He.cT K ("_law_asked_right", none)).2, ("_law_asked_right.<locals>.<lambda>" : Str)), ((He.cT K ("_law_full_right", none)).2, ("_law_full_right.<locals>.<lambda>" : Str)), ((He.cT K ("_law_made_right", none)).2, ("_law_made_right.<locals>.<lambda>" : Str)), ((He.cT K ("_law_right", none)).2, ("_law_right.<locals>.<lambda>" : Str))]) H C_is_cell C_is_whole F_is_mark m_is_mark
    have C_is_rising := fc_is_rising (P := PySem.Challenge.rw_bedlands_k73_registers_refuse.prog) (w := w) (base := base) (T := [((He.cT K ("_law_asked_right", none)).2, ("_law_asked_right.<locals>.<lambda>" : Str)), ((He.cT K ("_law_full_right", none)).2, ("_law_full_right.<locals>.<lambda>" : Str)), ((He.cT K ("_law_made_right", none)).2, ("_law_made_right.<locals>.<lambda>" : Str)), ((He.cT K ("_law_right", none)).2, ("_law_right.<locals>.<lambda>" : Str))]) H  F_is_rising m_is_rising
    have C_are_cells := fc_are_cells (P := PySem.Challenge.rw_bedlands_k73_registers_refuse.prog) (w := w) (base := base) (T := [((He.cT K ("_law_asked_right", none)).2, ("_law_asked_right.<locals>.<lambda>" : Str)), ((He.cT K ("_law_full_right", none)).2, ("_law_full_right.<locals>.<lambda>" : Str)), ((He.cT K ("_law_made_right", none)).2, ("_law_made_right.<locals>.<lambda>" : Str)), ((He.cT K ("_law_right", none)).2, ("_law_right.<locals>.<lambda>" : Str))]) H C_is_cell C_is_rising F_are_cells m_are_cells
    have C_change_in := fc_change_in (P := PySem.Challenge.rw_bedlands_k73_registers_refuse.prog) (w := w) (base := base) (T := [((He.cT K ("_law_asked_right", none)).2, ("_law_asked_right.<locals>.<lambda>" : Str)), ((He.cT K ("_law_full_right", none)).2, ("_law_full_right.<locals>.<lambda>" : Str)), ((He.cT K ("_law_made_right", none)).2, ("_law_made_right.<locals>.<lambda>" : Str)), ((He.cT K ("_law_right", none)).2, ("_law_right.<locals>.<lambda>" : Str))]) H C_are_cells C_is_whole F_change_in m_change_in
    have C_is_telling := fc_is_telling (P := PySem.Challenge.rw_bedlands_k73_registers_refuse.prog) (w := w) (base := base) (T := [((He.cT K ("_law_asked_right", none)).2, ("_law_asked_right.<locals>.<lambda>" : Str)), ((He.cT K ("_law_full_right", none)).2, ("_law_full_right.<locals>.<lambda>" : Str)), ((He.cT K ("_law_made_right", none)).2, ("_law_made_right.<locals>.<lambda>" : Str)), ((He.cT K ("_law_right", none)).2, ("_law_right.<locals>.<lambda>" : Str))]) H C_change_in C_is_whole F_is_telling m_is_telling
    have C_is_case := fc_is_case (P := PySem.Challenge.rw_bedlands_k73_registers_refuse.prog) (w := w) (base := base) (T := [((He.cT K ("_law_asked_right", none)).2, ("_law_asked_right.<locals>.<lambda>" : Str)), ((He.cT K ("_law_full_right", none)).2, ("_law_full_right.<locals>.<lambda>" : Str)), ((He.cT K ("_law_made_right", none)).2, ("_law_made_right.<locals>.<lambda>" : Str)), ((He.cT K ("_law_right", none)).2, ("_law_right.<locals>.<lambda>" : Str))]) H C_is_field C_is_mark C_is_telling C_is_whole F_is_case m_is_case
    have C_need_case := fc_need_case (P := PySem.Challenge.rw_bedlands_k73_registers_refuse.prog) (w := w) (base := base) (T := [((He.cT K ("_law_asked_right", none)).2, ("_law_asked_right.<locals>.<lambda>" : Str)), ((He.cT K ("_law_full_right", none)).2, ("_law_full_right.<locals>.<lambda>" : Str)), ((He.cT K ("_law_made_right", none)).2, ("_law_made_right.<locals>.<lambda>" : Str)), ((He.cT K ("_law_right", none)).2, ("_law_right.<locals>.<lambda>" : Str))]) H C_is_case F_need_case m_need_case
    have C_need_cell := fc_need_cell (P := PySem.Challenge.rw_bedlands_k73_registers_refuse.prog) (w := w) (base := base) (T := [((He.cT K ("_law_asked_right", none)).2, ("_law_asked_right.<locals>.<lambda>" : Str)), ((He.cT K ("_law_full_right", none)).2, ("_law_full_right.<locals>.<lambda>" : Str)), ((He.cT K ("_law_made_right", none)).2, ("_law_made_right.<locals>.<lambda>" : Str)), ((He.cT K ("_law_right", none)).2, ("_law_right.<locals>.<lambda>" : Str))]) H xh C_is_cell F_need_cell m_need_cell
    have C_need_day := fc_need_day (P := PySem.Challenge.rw_bedlands_k73_registers_refuse.prog) (w := w) (base := base) (T := [((He.cT K ("_law_asked_right", none)).2, ("_law_asked_right.<locals>.<lambda>" : Str)), ((He.cT K ("_law_full_right", none)).2, ("_law_full_right.<locals>.<lambda>" : Str)), ((He.cT K ("_law_made_right", none)).2, ("_law_made_right.<locals>.<lambda>" : Str)), ((He.cT K ("_law_right", none)).2, ("_law_right.<locals>.<lambda>" : Str))]) H xh C_is_whole F_need_day m_need_day
    have C_hangs := fc_hangs (P := PySem.Challenge.rw_bedlands_k73_registers_refuse.prog) (w := w) (base := base) (T := [((He.cT K ("_law_asked_right", none)).2, ("_law_asked_right.<locals>.<lambda>" : Str)), ((He.cT K ("_law_full_right", none)).2, ("_law_full_right.<locals>.<lambda>" : Str)), ((He.cT K ("_law_made_right", none)).2, ("_law_made_right.<locals>.<lambda>" : Str)), ((He.cT K ("_law_right", none)).2, ("_law_right.<locals>.<lambda>" : Str))]) H C_need_case C_need_cell C_need_day F_hangs m_hangs
    have C_Register_hangs_now := fc_Register_hangs_now (P := PySem.Challenge.rw_bedlands_k73_registers_refuse.prog) (w := w) (base := base) (T := [((He.cT K ("_law_asked_right", none)).2, ("_law_asked_right.<locals>.<lambda>" : Str)), ((He.cT K ("_law_full_right", none)).2, ("_law_full_right.<locals>.<lambda>" : Str)), ((He.cT K ("_law_made_right", none)).2, ("_law_made_right.<locals>.<lambda>" : Str)), ((He.cT K ("_law_right", none)).2, ("_law_right.<locals>.<lambda>" : Str))]) H C_Register_case_now C_hangs F_Register_hangs_now xh.i_Register.cls M_Register_hangs_now
    have C_holders := fc_holders (P := PySem.Challenge.rw_bedlands_k73_registers_refuse.prog) (w := w) (base := base) (T := [((He.cT K ("_law_asked_right", none)).2, ("_law_asked_right.<locals>.<lambda>" : Str)), ((He.cT K ("_law_full_right", none)).2, ("_law_full_right.<locals>.<lambda>" : Str)), ((He.cT K ("_law_made_right", none)).2, ("_law_made_right.<locals>.<lambda>" : Str)), ((He.cT K ("_law_right", none)).2, ("_law_right.<locals>.<lambda>" : Str))]) H C_need_case C_need_day F_holders m_holders
    have C_Register_holders_now := fc_Register_holders_now (P := PySem.Challenge.rw_bedlands_k73_registers_refuse.prog) (w := w) (base := base) (T := [((He.cT K ("_law_asked_right", none)).2, ("_law_asked_right.<locals>.<lambda>" : Str)), ((He.cT K ("_law_full_right", none)).2, ("_law_full_right.<locals>.<lambda>" : Str)), ((He.cT K ("_law_made_right", none)).2, ("_law_made_right.<locals>.<lambda>" : Str)), ((He.cT K ("_law_right", none)).2, ("_law_right.<locals>.<lambda>" : Str))]) H C_Register_case_now C_holders F_Register_holders_now xh.i_Register.cls M_Register_holders_now
    have C_TooMany__init := fc_TooMany__init (P := PySem.Challenge.rw_bedlands_k73_registers_refuse.prog) (w := w) (base := base) F_TooMany__init m_TooMany__init O_TooMany__init
    have WC := wc_law_which (P := PySem.Challenge.rw_bedlands_k73_registers_refuse.prog) (w := w) (base := base) (T := [((He.cT K ("_law_asked_right", none)).2, ("_law_asked_right.<locals>.<lambda>" : Str)), ((He.cT K ("_law_full_right", none)).2, ("_law_full_right.<locals>.<lambda>" : Str)), ((He.cT K ("_law_made_right", none)).2, ("_law_made_right.<locals>.<lambda>" : Str)), ((He.cT K ("_law_right", none)).2, ("_law_right.<locals>.<lambda>" : Str))]) H xh F_law_which m_law_which
    have cK := kc_law_said (P := PySem.Challenge.rw_bedlands_k73_registers_refuse.prog) (w := w) (base := base) (T := [((He.cT K ("_law_asked_right", none)).2, ("_law_asked_right.<locals>.<lambda>" : Str)), ((He.cT K ("_law_full_right", none)).2, ("_law_full_right.<locals>.<lambda>" : Str)), ((He.cT K ("_law_made_right", none)).2, ("_law_made_right.<locals>.<lambda>" : Str)), ((He.cT K ("_law_right", none)).2, ("_law_right.<locals>.<lambda>" : Str))]) xh WC F_law_said m_law_said
    have C_law_asked_right := fc_law_asked_right (P := PySem.Challenge.rw_bedlands_k73_registers_refuse.prog) (w := w) (base := base) (T := [((He.cT K ("_law_asked_right", none)).2, ("_law_asked_right.<locals>.<lambda>" : Str)), ((He.cT K ("_law_full_right", none)).2, ("_law_full_right.<locals>.<lambda>" : Str)), ((He.cT K ("_law_made_right", none)).2, ("_law_made_right.<locals>.<lambda>" : Str)), ((He.cT K ("_law_right", none)).2, ("_law_right.<locals>.<lambda>" : Str))]) H C_Register_hangs_now C_Register_holders_now cK (fun A outer s H E => lamM_of (p := ("_law_asked_right", none)) F_law_asked_right (hTB _ (List.mem_cons_self)) (List.mem_cons.mpr (.inl (by first | rfl | kernel_rfl))) (fun z hz hz1 => by
        simp only [List.mem_cons, List.not_mem_nil, or_false] at hz
        rcases hz with hz | hz | hz | hz
        · first | (subst hz; first | rfl | kernel_rfl) | (subst hz; rfl)
        · subst hz; exact absurd hz1 (of_decide_eq_true (List.all_eq_true.mp (Bool.and_eq_true_iff.mp (Bool.and_eq_true_iff.mp (Bool.and_eq_true_iff.mp cc.more).2).2).2 (("_law_full_right", none), ("_law_asked_right", none)) (by simp)))
        · subst hz; exact absurd hz1 (of_decide_eq_true (List.all_eq_true.mp (Bool.and_eq_true_iff.mp (Bool.and_eq_true_iff.mp (Bool.and_eq_true_iff.mp cc.more).2).2).2 (("_law_made_right", none), ("_law_asked_right", none)) (by simp)))
        · subst hz; exact absurd hz1 (of_decide_eq_true (List.all_eq_true.mp (Bool.and_eq_true_iff.mp (Bool.and_eq_true_iff.mp (Bool.and_eq_true_iff.mp cc.more).2).2).2 (("_law_right", none), ("_law_asked_right", none)) (by simp))))) F_law_asked_right m_law_asked_right
    have C_law_take := fc_law_take (P := PySem.Challenge.rw_bedlands_k73_registers_refuse.prog) (w := w) (base := base) (T := [((He.cT K ("_law_asked_right", none)).2, ("_law_asked_right.<locals>.<lambda>" : Str)), ((He.cT K ("_law_full_right", none)).2, ("_law_full_right.<locals>.<lambda>" : Str)), ((He.cT K ("_law_made_right", none)).2, ("_law_made_right.<locals>.<lambda>" : Str)), ((He.cT K ("_law_right", none)).2, ("_law_right.<locals>.<lambda>" : Str))]) H  F_law_take m_law_take
    have C_law_field := fc_law_field (P := PySem.Challenge.rw_bedlands_k73_registers_refuse.prog) (w := w) (base := base) (T := [((He.cT K ("_law_asked_right", none)).2, ("_law_asked_right.<locals>.<lambda>" : Str)), ((He.cT K ("_law_full_right", none)).2, ("_law_full_right.<locals>.<lambda>" : Str)), ((He.cT K ("_law_made_right", none)).2, ("_law_made_right.<locals>.<lambda>" : Str)), ((He.cT K ("_law_right", none)).2, ("_law_right.<locals>.<lambda>" : Str))]) H C_law_take F_law_field m_law_field
    have C_Register_become := fc_Register_become (P := PySem.Challenge.rw_bedlands_k73_registers_refuse.prog) (w := w) (base := base) (T := [((He.cT K ("_law_asked_right", none)).2, ("_law_asked_right.<locals>.<lambda>" : Str)), ((He.cT K ("_law_full_right", none)).2, ("_law_full_right.<locals>.<lambda>" : Str)), ((He.cT K ("_law_made_right", none)).2, ("_law_made_right.<locals>.<lambda>" : Str)), ((He.cT K ("_law_right", none)).2, ("_law_right.<locals>.<lambda>" : Str))]) H xh  F_Register_become xh.i_Register.cls M_Register_become
    have C_need_mark := fc_need_mark (P := PySem.Challenge.rw_bedlands_k73_registers_refuse.prog) (w := w) (base := base) (T := [((He.cT K ("_law_asked_right", none)).2, ("_law_asked_right.<locals>.<lambda>" : Str)), ((He.cT K ("_law_full_right", none)).2, ("_law_full_right.<locals>.<lambda>" : Str)), ((He.cT K ("_law_made_right", none)).2, ("_law_made_right.<locals>.<lambda>" : Str)), ((He.cT K ("_law_right", none)).2, ("_law_right.<locals>.<lambda>" : Str))]) H xh C_is_mark F_need_mark m_need_mark
    have C_with_one := fc_with_one (P := PySem.Challenge.rw_bedlands_k73_registers_refuse.prog) (w := w) (base := base) (T := [((He.cT K ("_law_asked_right", none)).2, ("_law_asked_right.<locals>.<lambda>" : Str)), ((He.cT K ("_law_full_right", none)).2, ("_law_full_right.<locals>.<lambda>" : Str)), ((He.cT K ("_law_made_right", none)).2, ("_law_made_right.<locals>.<lambda>" : Str)), ((He.cT K ("_law_right", none)).2, ("_law_right.<locals>.<lambda>" : Str))]) H xh C_TooMany__init F_with_one m_with_one
    have C_Register_see := fc_Register_see (P := PySem.Challenge.rw_bedlands_k73_registers_refuse.prog) (w := w) (base := base) (T := [((He.cT K ("_law_asked_right", none)).2, ("_law_asked_right.<locals>.<lambda>" : Str)), ((He.cT K ("_law_full_right", none)).2, ("_law_full_right.<locals>.<lambda>" : Str)), ((He.cT K ("_law_made_right", none)).2, ("_law_made_right.<locals>.<lambda>" : Str)), ((He.cT K ("_law_right", none)).2, ("_law_right.<locals>.<lambda>" : Str))]) H xh C_Register_become C_need_mark C_with_one F_Register_see xh.i_Register.cls M_Register_see
    have C_need_telling := fc_need_telling (P := PySem.Challenge.rw_bedlands_k73_registers_refuse.prog) (w := w) (base := base) (T := [((He.cT K ("_law_asked_right", none)).2, ("_law_asked_right.<locals>.<lambda>" : Str)), ((He.cT K ("_law_full_right", none)).2, ("_law_full_right.<locals>.<lambda>" : Str)), ((He.cT K ("_law_made_right", none)).2, ("_law_made_right.<locals>.<lambda>" : Str)), ((He.cT K ("_law_right", none)).2, ("_law_right.<locals>.<lambda>" : Str))]) H xh C_is_telling F_need_telling m_need_telling
    have C_Register_tell := fc_Register_tell (P := PySem.Challenge.rw_bedlands_k73_registers_refuse.prog) (w := w) (base := base) (T := [((He.cT K ("_law_asked_right", none)).2, ("_law_asked_right.<locals>.<lambda>" : Str)), ((He.cT K ("_law_full_right", none)).2, ("_law_full_right.<locals>.<lambda>" : Str)), ((He.cT K ("_law_made_right", none)).2, ("_law_made_right.<locals>.<lambda>" : Str)), ((He.cT K ("_law_right", none)).2, ("_law_right.<locals>.<lambda>" : Str))]) H xh C_Register_become C_need_telling C_with_one F_Register_tell xh.i_Register.cls M_Register_tell
    have C_without_one := fc_without_one (P := PySem.Challenge.rw_bedlands_k73_registers_refuse.prog) (w := w) (base := base) (T := [((He.cT K ("_law_asked_right", none)).2, ("_law_asked_right.<locals>.<lambda>" : Str)), ((He.cT K ("_law_full_right", none)).2, ("_law_full_right.<locals>.<lambda>" : Str)), ((He.cT K ("_law_made_right", none)).2, ("_law_made_right.<locals>.<lambda>" : Str)), ((He.cT K ("_law_right", none)).2, ("_law_right.<locals>.<lambda>" : Str))]) H xh  F_without_one m_without_one
    have C_Register_unsay := fc_Register_unsay (P := PySem.Challenge.rw_bedlands_k73_registers_refuse.prog) (w := w) (base := base) (T := [((He.cT K ("_law_asked_right", none)).2, ("_law_asked_right.<locals>.<lambda>" : Str)), ((He.cT K ("_law_full_right", none)).2, ("_law_full_right.<locals>.<lambda>" : Str)), ((He.cT K ("_law_made_right", none)).2, ("_law_made_right.<locals>.<lambda>" : Str)), ((He.cT K ("_law_right", none)).2, ("_law_right.<locals>.<lambda>" : Str))]) H xh C_Register_become C_need_telling C_without_one F_Register_unsay xh.i_Register.cls M_Register_unsay
    have C_Register_unsee := fc_Register_unsee (P := PySem.Challenge.rw_bedlands_k73_registers_refuse.prog) (w := w) (base := base) (T := [((He.cT K ("_law_asked_right", none)).2, ("_law_asked_right.<locals>.<lambda>" : Str)), ((He.cT K ("_law_full_right", none)).2, ("_law_full_right.<locals>.<lambda>" : Str)), ((He.cT K ("_law_made_right", none)).2, ("_law_made_right.<locals>.<lambda>" : Str)), ((He.cT K ("_law_right", none)).2, ("_law_right.<locals>.<lambda>" : Str))]) H xh C_Register_become C_need_mark C_without_one F_Register_unsee xh.i_Register.cls M_Register_unsee
    have C_law_full_right := fc_law_full_right (P := PySem.Challenge.rw_bedlands_k73_registers_refuse.prog) (w := w) (base := base) (T := [((He.cT K ("_law_asked_right", none)).2, ("_law_asked_right.<locals>.<lambda>" : Str)), ((He.cT K ("_law_full_right", none)).2, ("_law_full_right.<locals>.<lambda>" : Str)), ((He.cT K ("_law_made_right", none)).2, ("_law_made_right.<locals>.<lambda>" : Str)), ((He.cT K ("_law_right", none)).2, ("_law_right.<locals>.<lambda>" : Str))]) H C_Register_case_now C_Register_see C_Register_tell C_Register_unsay C_Register_unsee cK (fun A outer s H E => lamM_of (p := ("_law_full_right", none)) F_law_full_right (hTB _ (List.mem_cons_of_mem _ (List.mem_cons_self))) (List.mem_cons_of_mem _ (List.mem_cons.mpr (.inl (by first | rfl | kernel_rfl)))) (fun z hz hz1 => by
        simp only [List.mem_cons, List.not_mem_nil, or_false] at hz
        rcases hz with hz | hz | hz | hz
        · subst hz; exact absurd hz1 (of_decide_eq_true (List.all_eq_true.mp (Bool.and_eq_true_iff.mp (Bool.and_eq_true_iff.mp (Bool.and_eq_true_iff.mp cc.more).2).2).2 (("_law_asked_right", none), ("_law_full_right", none)) (by simp)))
        · first | (subst hz; first | rfl | kernel_rfl) | (subst hz; rfl)
        · subst hz; exact absurd hz1 (of_decide_eq_true (List.all_eq_true.mp (Bool.and_eq_true_iff.mp (Bool.and_eq_true_iff.mp (Bool.and_eq_true_iff.mp cc.more).2).2).2 (("_law_made_right", none), ("_law_full_right", none)) (by simp)))
        · subst hz; exact absurd hz1 (of_decide_eq_true (List.all_eq_true.mp (Bool.and_eq_true_iff.mp (Bool.and_eq_true_iff.mp (Bool.and_eq_true_iff.mp cc.more).2).2).2 (("_law_right", none), ("_law_full_right", none)) (by simp))))) F_law_full_right m_law_full_right
    have C_law_made_right := fc_law_made_right (P := PySem.Challenge.rw_bedlands_k73_registers_refuse.prog) (w := w) (base := base) (T := [((He.cT K ("_law_asked_right", none)).2, ("_law_asked_right.<locals>.<lambda>" : Str)), ((He.cT K ("_law_full_right", none)).2, ("_law_full_right.<locals>.<lambda>" : Str)), ((He.cT K ("_law_made_right", none)).2, ("_law_made_right.<locals>.<lambda>" : Str)), ((He.cT K ("_law_right", none)).2, ("_law_right.<locals>.<lambda>" : Str))]) H C_Register__init cK (fun A outer s H E => lamM_of (p := ("_law_made_right", none)) F_law_made_right (hTB _ (List.mem_cons_of_mem _ (List.mem_cons_of_mem _ (List.mem_cons_self)))) (List.mem_cons_of_mem _ (List.mem_cons_of_mem _ (List.mem_cons.mpr (.inl (by first | rfl | kernel_rfl))))) (fun z hz hz1 => by
        simp only [List.mem_cons, List.not_mem_nil, or_false] at hz
        rcases hz with hz | hz | hz | hz
        · subst hz; exact absurd hz1 (of_decide_eq_true (List.all_eq_true.mp (Bool.and_eq_true_iff.mp (Bool.and_eq_true_iff.mp (Bool.and_eq_true_iff.mp cc.more).2).2).2 (("_law_asked_right", none), ("_law_made_right", none)) (by simp)))
        · subst hz; exact absurd hz1 (of_decide_eq_true (List.all_eq_true.mp (Bool.and_eq_true_iff.mp (Bool.and_eq_true_iff.mp (Bool.and_eq_true_iff.mp cc.more).2).2).2 (("_law_full_right", none), ("_law_made_right", none)) (by simp)))
        · first | (subst hz; first | rfl | kernel_rfl) | (subst hz; rfl)
        · subst hz; exact absurd hz1 (of_decide_eq_true (List.all_eq_true.mp (Bool.and_eq_true_iff.mp (Bool.and_eq_true_iff.mp (Bool.and_eq_true_iff.mp cc.more).2).2).2 (("_law_right", none), ("_law_made_right", none)) (by simp))))) F_law_made_right m_law_made_right
    have C_law_odd := fc_law_odd (P := PySem.Challenge.rw_bedlands_k73_registers_refuse.prog) (w := w) (base := base) (T := [((He.cT K ("_law_asked_right", none)).2, ("_law_asked_right.<locals>.<lambda>" : Str)), ((He.cT K ("_law_full_right", none)).2, ("_law_full_right.<locals>.<lambda>" : Str)), ((He.cT K ("_law_made_right", none)).2, ("_law_made_right.<locals>.<lambda>" : Str)), ((He.cT K ("_law_right", none)).2, ("_law_right.<locals>.<lambda>" : Str))]) H C_law_take F_law_odd m_law_odd
    have C_law_right := fc_law_right (P := PySem.Challenge.rw_bedlands_k73_registers_refuse.prog) (w := w) (base := base) (T := [((He.cT K ("_law_asked_right", none)).2, ("_law_asked_right.<locals>.<lambda>" : Str)), ((He.cT K ("_law_full_right", none)).2, ("_law_full_right.<locals>.<lambda>" : Str)), ((He.cT K ("_law_made_right", none)).2, ("_law_made_right.<locals>.<lambda>" : Str)), ((He.cT K ("_law_right", none)).2, ("_law_right.<locals>.<lambda>" : Str))]) H C_Register__init C_Register_case_now C_Register_undo C_law_asked_right C_law_field C_law_full_right C_law_made_right C_law_odd C_law_take cK (fun A outer s H E => lamM_of (p := ("_law_right", none)) F_law_right (hTB _ (List.mem_cons_of_mem _ (List.mem_cons_of_mem _ (List.mem_cons_of_mem _ (List.mem_cons_self))))) (List.mem_cons_of_mem _ (List.mem_cons_of_mem _ (List.mem_cons_of_mem _ (List.mem_cons.mpr (.inl (by first | rfl | kernel_rfl)))))) (fun z hz hz1 => by
        simp only [List.mem_cons, List.not_mem_nil, or_false] at hz
        rcases hz with hz | hz | hz | hz
        · subst hz; exact absurd hz1 (of_decide_eq_true (List.all_eq_true.mp (Bool.and_eq_true_iff.mp (Bool.and_eq_true_iff.mp (Bool.and_eq_true_iff.mp cc.more).2).2).2 (("_law_asked_right", none), ("_law_right", none)) (by simp)))
        · subst hz; exact absurd hz1 (of_decide_eq_true (List.all_eq_true.mp (Bool.and_eq_true_iff.mp (Bool.and_eq_true_iff.mp (Bool.and_eq_true_iff.mp cc.more).2).2).2 (("_law_full_right", none), ("_law_right", none)) (by simp)))
        · subst hz; exact absurd hz1 (of_decide_eq_true (List.all_eq_true.mp (Bool.and_eq_true_iff.mp (Bool.and_eq_true_iff.mp (Bool.and_eq_true_iff.mp cc.more).2).2).2 (("_law_made_right", none), ("_law_right", none)) (by simp)))
        · first | (subst hz; first | rfl | kernel_rfl) | (subst hz; rfl))) F_law_right m_law_right
    exact ok_law H C_law_box C_law_right F_law
end K73
open PySem PySem.W PySem.Calls PyProof.Rows
set_option maxHeartbeats 0 in
theorem PySem.Challenge.cw_bedlands_k73_registers_refuse_holds : PySem.Challenge.rw_bedlands_k73_registers_refuse.Holds := by
  w_on; o_law
  refine HandSHeadRun.head_any (r := PySem.W.OpenLaw.row PySem.Challenge.rw_bedlands_k73_registers_refuse) (q := PySem.W.view (PySem.W.OpenLaw.row PySem.Challenge.rw_bedlands_k73_registers_refuse).prog [112]) (H := K73.hk) (ob := K73.ob) (M := 8000) (loose := K73.loose) (d := HandSHeadRun.topDef (PySem.W.OpenLaw.row PySem.Challenge.rw_bedlands_k73_registers_refuse).prog 112) (kwd := []) K73.ob_eq
    (by kernel_rfl) (fun s => by kernel_rfl) K73.run (by kernel_rfl) (by kernel_rfl) (by kernel_rfl) (by rfl) (by first | assumption | decide +kernel) (by decide +kernel) ⟨rfl, rfl, rfl, rfl, rfl, by decide +kernel⟩ ?hw ?hc
  case hw => w_witness2
  case hc =>
    refine Bd.walk_ofG (l := PySem.Challenge.rw_bedlands_k73_registers_refuse) (n := 63) (k := 16) (x := "_law_script") rfl (by decide) (by kernel_rfl) ⟨rfl, by decide, by decide⟩ ?_
    intro w mg fl h Y G hmg0
    obtain ⟨K, KX, c⟩ := Y
    have hmg : mg ("law" : PySem.Str) = some (.ref fl) := by
      have e : (HandSHeadRun.topDef (PySem.W.OpenLaw.row PySem.Challenge.rw_bedlands_k73_registers_refuse).prog 112).name = ("law" : PySem.Str) := by kernel_rfl
      rw [← e]
      exact hmg0
    obtain ⟨fd, z⟩ := K73.facts (w := w) KX G hmg c
    exact ⟨K, fd, _, _, _, z⟩
