import PyProof.Rows.All
import Wide.All
import OpenK.AllK
import Wide.FinOn
import HandS.ForMost
import HandS.TupAny
import HandS.TupLe
import HandS.Deep
import HandS.IsInst
import PyProof.P3In
import HandS.Flow
import HandS.SortOrd
import HandS.TupSets
import HandS.Conv
import HandS.TupLen
import HandS.Small
import HandS.Zip
import KE.KDictPairs
import HandS.DictTup
import HandS.Rev
import KE.DatumOrd
import KE.DatumIndex
import KE.KDictWalk
import KE.KDictDisplayH
import KE.KEqDict
import HandS.Iter
import KE.SortData
import HandS.SetFor
import HandS.SortInts
import HandS.Strs
import PyProof.ListRange
import HandS.Text
import PyProof.StrOps2
import KE.GoesMore
import PyProof.EnumFor
import HandS.RaiseMore
import HandS.Style
import HandS.More
import KE.GoesZip
import KE.GoesEnum
import KE.KDictOf
import KE.KDictCopyH
import PyProof.AutoSeq1
import HandS.DictSubView
import HandS.WordsExc
import KE.KExcIs
import HandS.ExcInit
import HandS.ExcField
import KE.KDictKeyed
import KE.DataMinMax
import KE.SortKeyHeap
import HandS.SortKw
import PySem.Challenge.RW_boxcut_k42_rows_of_no_picture_and_no_box
set_option Elab.async false
set_option linter.all false
set_option maxRecDepth 100000
namespace BX
open PySem PySem.Spec PyProof.Rows L2
inductive NK where
 | num (i : Int) | tup (l : List NK)
mutual
def NK.beq : NK → NK → Bool
 | .num i, .num j => decide (i = j)
 | .tup l, .tup m => NK.beqL l m
 | _, _ => false
def NK.beqL : List NK → List NK → Bool
 | [], [] => true
 | a :: l, b :: m => NK.beq a b && NK.beqL l m
 | _, _ => false
end
mutual
theorem NK.beq_eq : ∀ a b : NK, NK.beq a b = true ↔ a = b
 | .num i, .num j => by rw [NK.beq, decide_eq_true_eq, NK.num.injEq]
 | .tup l, .tup m => by rw [NK.beq, NK.tup.injEq]; exact NK.beqL_eq l m
 | .num i, .tup m => by simp [NK.beq]
 | .tup l, .num j => by simp [NK.beq]
theorem NK.beqL_eq : ∀ l m : List NK, NK.beqL l m = true ↔ l = m
 | [], [] => by simp [NK.beqL]
 | a :: l, b :: m => by rw [NK.beqL, Bool.and_eq_true, NK.beq_eq a b, NK.beqL_eq l m, List.cons.injEq]
 | [], b :: m => by simp [NK.beqL]
 | a :: l, [] => by simp [NK.beqL]
end
instance : DecidableEq NK := fun a b => decidable_of_iff _ (NK.beq_eq a b)
inductive D where
 | non | bl (b : Bool) | int (i : Int) | str (s : Str)
 | tup (xs : List D) | lst (xs : List D)
 | dT (kvs : List (List Key × D)) | dK (kvs : List (Key × D))
 | dF (kvs : List (List Key × D))
 | lF (xs : List D)
 | ob (n : Str) (fs : List (Str × D))
 | ex (n : Str) (fs : List (Str × Int))
 | dN (kvs : List (NK × D))
 | dG (kvs : List (Key × D))
 | op (x : Option Str)
mutual
def D.imm : D → Bool
 | .non => true
 | .bl _ => true
 | .int _ => true
 | .str _ => true
 | .tup xs => immL xs
 | .lst _ => false
 | .dT _ => false
 | .dK _ => false
 | .dF _ => false
 | .lF xs => immL xs
 | .ob _ _ => false
 | .ex _ _ => false
 | .dN _ => false
 | .dG _ => false
 | .op _ => false
def immL : List D → Bool
 | [] => true
 | d :: ds => d.imm && immL ds
end
theorem Jt : ∀ {ds : List D}, (∀ d ∈ ds, d.imm = true) → immL ds = true
 | [], _ => by rw [immL]
 | d :: ds, h => by rw [immL, h d (List.mem_cons_self ..), Jt fun x hx => h x (List.mem_cons_of_mem _ hx)]; rfl
theorem Qp : ∀ {ds : List D}, immL ds = true → ∀ d ∈ ds, d.imm = true
 | [], _, d, h => by simp at h
 | x :: ds, e, d, h => by
   rw [immL, Bool.and_eq_true] at e
   rcases List.mem_cons.mp h with rfl | h
   ·exact e.1
   ·exact Qp e.2 d h
mutual
def qbR : NK → Int
 | .num i => hashInt i
 | .tup l => reduceHash (Builtin.Tuple.tupleHashOf (V7 l))
def V7 : List NK → List Int
 | [] => []
 | k :: l => qbR k :: V7 l
end
mutual
def Xe : NK → Nat
 | .num _ => 0
 | .tup l => jr l + 1
def jr : List NK → Nat
 | [] => 0
 | k :: l => max (Xe k) (jr l)
end
mutual
def NkV (H : Hp) : NK → V → Prop
 | .num i, v => v = .int i
 | .tup l, v => ∃ a vs, v = .ref a ∧ H a = some (.tup vs) ∧ NkVs H l vs
def NkVs (H : Hp) : List NK → List V → Prop
 | [], vs => vs = []
 | k :: l, vs => ∃ v ws, vs = v :: ws ∧ NkV H k v ∧ NkVs H l ws
end
mutual
def nkD : NK → D
 | .num i => .int i
 | .tup l => .tup (nkDs l)
def nkDs : List NK → List D
 | [] => []
 | k :: l => nkD k :: nkDs l
end
def qf7 (p : NK × Addr × Value) : DictEntry := { hash := qbR p.1, key := .ref p.2.1, val := p.2.2 }
def NdP (a : Addr) (xs : List (NK × Addr × V)) (h : Heap) : Prop := (xs.length ≤ sizeLine ∧ (a == sysModules) = false ∧ (xs.map (·.1)).Nodup) ∧ ∃ ys, Paired (fun p q => p.1 = q.1 ∧ p.2.1 = q.2.1 ∧ L2.RelV p.2.2 q.2.2) xs ys ∧ ∃ o es ep, h.get? a = some o ∧ o.ExactDict ∧ o.data = .dict es ep ∧ es.toList = ys.map qf7
def NdO (a : Addr) (xs : List (NK × Addr × V)) : HO := .ext (NdP a xs)
noncomputable def Mu : HO → Bool
 | .lst _ => true
 | .dT _ => true
 | .dK _ => true
 | .ins _ _ _ => true
 | .ext p => @decide (∃ a xs, p = NdP a xs) (Classical.propDecidable _)
 | _ => false
theorem qf8 {a : Addr} {xs : List (NK × Addr × V)} : Mu (NdO a xs) = true := @decide_eq_true _ (Classical.propDecidable _) ⟨a, xs, rfl⟩
def SqLF (K : PySem.W.Frag) (H : Hp) (a : Addr) (xs : List V) : Prop :=
 (∃ o, H a = some (.frz o (.lst xs))) ∨
  ∃ (o : Obj) (its : Array Value) (n : Nat), K.lookup a = some o ∧ o.cls = .type "list" ∧ o.dict = none ∧ o.data = .seq its n ∧ its.size ≤ sizeLine ∧ Vals xs its.toList
def SqTK (K : PySem.W.Frag) (a : Addr) (xs : List V) : Prop :=
 ∃ (o : Obj) (its : Array Value) (n : Nat), K.lookup a = some o ∧ o.cls = .type "tuple" ∧ o.data = .seq its n ∧ its.size ≤ sizeLine ∧ Vals xs its.toList
theorem SqLF.sq {K : PySem.W.Frag} {H : Hp} {a : Addr} {xs : List V} (h : SqLF K H a xs) : SqL K H a xs := by
 rcases h with ⟨o, h⟩ | h
 ·exact .inl (.inr ⟨o, h⟩)
 ·exact .inr h
theorem SqTK.sq {K : PySem.W.Frag} {H : Hp} {a : Addr} {xs : List V} (h : SqTK K a xs) : SqT K H a xs := .inr h
def EO (cls : Value) (d : Option Addr) (a : Addr) : HO := .ext fun h => ∃ (oe : Obj) (vs : Array Value), h.get? a = some oe ∧ (oe.cls = cls ∧ oe.dict = d) ∧ oe.data = .fields vs
theorem qf9 {cls : Value} {d : Option Addr} {a : Addr} : Mu (EO cls d a) = false := @decide_eq_false _ (Classical.propDecidable _) (by
 rintro ⟨b, xs, e⟩
 have at0 : (⟨Array.replicate (a + 1) { cls := cls, dict := d, data := .fields #[] }, {}⟩ : Heap).get? a = some { cls := cls, dict := d, data := .fields #[] } := by
  unfold Heap.get?
  rw [show ((Array.replicate (a + 1) ({ cls := cls, dict := d, data := .fields #[] } : Obj)) : Array Obj)[a]? = some { cls := cls, dict := d, data := .fields #[] } by simp]
 have h0 : NdP b xs ⟨Array.replicate (a + 1) { cls := cls, dict := d, data := .fields #[] }, {}⟩ := by
  rw [← e]
  exact ⟨_, _, at0, ⟨rfl, rfl⟩, rfl⟩
 obtain ⟨_, ys, _, o, es, ep, h1, _, h2, _⟩ := h0
 unfold Heap.get? at h1
 split at h1
 ·cases h1
 ·rename_i x y
  rw [Array.getElem?_replicate] at h1
  split at h1
  ·cases h1
   cases h2
  ·cases h1)
def xdV (fs : List (Str × Int)) : List (Str × V) := fs.map fun p => (p.1, V.int p.2)
mutual
inductive Rep (K : PySem.W.Frag) (H : Hp) (lv : Nat) : D → V → List Addr → Prop
 | non : Rep K H lv .non .non []
 | bl (b : Bool) : Rep K H lv (.bl b) (.bl b) []
 | int (i : Int) : Rep K H lv (.int i) (.int i) []
 | str (s : Str) : Rep K H lv (.str s) (.str s) []
 | tup {a : Addr} {vs : List V} {ds : List D} {f : List Addr} : H a = some (.tup vs) → Reps K H lv ds vs f → Rep K H lv (.tup ds) (.ref a) f
 | tupK {a : Addr} {vs : List V} {ds : List D} {f : List Addr} : 2 ≤ lv → SqTK K a vs → Reps K H lv ds vs f → Rep K H lv (.tup ds) (.ref a) f
 | lst {a : Addr} {vs : List V} {ds : List D} {f : List Addr} : H a = some (.lst vs) → Reps K H lv ds vs f → (lv = 0 → a ∉ f) → Rep K H lv (.lst ds) (.ref a) (a :: f)
 | lstF {a : Addr} {vs : List V} {ds : List D} {f : List Addr} : 2 ≤ lv → SqLF K H a vs → Reps K H lv ds vs f → Rep K H lv (.lst ds) (.ref a) f
 | dT {a : Addr} {hs : List (List Key × V)} {kvs : List (List Key × D)} {f : List Addr} : H a = some (.dT hs) → hs.map (·.1) = kvs.map (·.1) → (kvs.map (·.1)).Nodup → Reps K H lv (kvs.map (·.2)) (hs.map (·.2)) f → (lv = 0 → a ∉ f) → Rep K H lv (.dT kvs) (.ref a) (a :: f)
 | dTF {a : Addr} {o : Obj} {hs : List (List Key × V)} {kvs : List (List Key × D)} {f : List Addr} : 2 ≤ lv → H a = some (.frz o (.dT hs)) → hs.map (·.1) = kvs.map (·.1) → (kvs.map (·.1)).Nodup → Reps K H lv (kvs.map (·.2)) (hs.map (·.2)) f → Rep K H lv (.dT kvs) (.ref a) f
 | dF {a : Addr} {o : Obj} {hs : List (List Key × V)} {kvs : List (List Key × D)} : H a = some (.frz o (.dT hs)) → hs.map (·.1) = kvs.map (·.1) → (kvs.map (·.1)).Nodup → Reps K H lv (kvs.map (·.2)) (hs.map (·.2)) [] → Rep K H lv (.dF kvs) (.ref a) []
 | lF {a : Addr} {o : Obj} {vs : List V} {ds : List D} {f : List Addr} : H a = some (.frz o (.lst vs)) → Reps K H lv ds vs f → Rep K H lv (.lF ds) (.ref a) f
 | ob {a C dx : Addr} {n : Str} {hs : List (Str × V)} {fs : List (Str × D)} {f : List Addr} : H a = some (.ins C dx hs) → PySem.W.nsIn K mainGlobals n = some (some (.ref C)) → hs.map (·.1) = fs.map (·.1) → Reps K H lv (fs.map (·.2)) (hs.map (·.2)) f → (lv = 0 → a ∉ f) → Rep K H lv (.ob n fs) (.ref a) (a :: f)
 | ex {a C : Addr} {d : Option Addr} {n : Str} {fs : List (Str × Int)} : H a = some (EO (.ref C) d a) → PySem.W.nsIn K mainGlobals n = some (some (.ref C)) → (∀ x, d = some x → H x = some (.xd (xdV fs))) → (d = none → fs = []) → Rep K H lv (.ex n fs) (.ref a) []
 | dK {a : Addr} {hs : List (Key × V)} {kvs : List (Key × D)} {f : List Addr} : H a = some (.dK hs) → hs.map (·.1) = kvs.map (·.1) → (kvs.map (·.1)).Nodup → Reps K H lv (kvs.map (·.2)) (hs.map (·.2)) f → (lv = 0 → a ∉ f) → Rep K H lv (.dK kvs) (.ref a) (a :: f)
 | dG {a : Addr} {o : Obj} {hs : List (Key × V)} {kvs : List (Key × D)} : H a = some (.frz o (.dK hs)) → hs.map (·.1) = kvs.map (·.1) → (kvs.map (·.1)).Nodup → Reps K H lv (kvs.map (·.2)) (hs.map (·.2)) [] → Rep K H lv (.dG kvs) (.ref a) []
 | dN {a : Addr} {xs : List (NK × Addr × V)} {kvs : List (NK × D)} {f : List Addr} : H a = some (NdO a xs) → xs.map (·.1) = kvs.map (·.1) → (kvs.map (·.1)).Nodup → (∀ x ∈ xs, NkV H x.1 (.ref x.2.1) ∧ Xe x.1 ≤ 8) → Reps K H lv (kvs.map (·.2)) (xs.map (·.2.2)) f → (lv = 0 → a ∉ f) → Rep K H lv (.dN kvs) (.ref a) (a :: f)
 | opN (a : Addr) : Rep K H lv (.op none) (.ref a) []
 | opF {x : Str} {a : Addr} : PySem.W.nsIn K mainGlobals x = some (some (.ref a)) → Rep K H lv (.op (some x)) (.ref a) []
inductive Reps (K : PySem.W.Frag) (H : Hp) (lv : Nat) : List D → List V → List Addr → Prop
 | nil : Reps K H lv [] [] []
 | cons {d : D} {v : V} {f : List Addr} {ds : List D} {vs : List V} {g : List Addr} : Rep K H lv d v f → Reps K H lv ds vs g → (lv = 0 → ∀ b ∈ f, b ∉ g) → Reps K H lv (d :: ds) (v :: vs) (f ++ g)
end
section
variable {K : PySem.W.Frag} {H H' : Hp} {lv lv' : Nat}
theorem SqLF.keep {a : Addr} {vs : List V} (h : SqLF K H a vs) (k : ∀ o, H a = some o → Mu o = false → H' a = some o) : SqLF K H' a vs := by
 rcases h with ⟨o, h⟩ | h
 ·exact .inl ⟨o, k _ h rfl⟩
 ·exact .inr h
mutual
theorem NkV.keep : ∀ {k : NK} {v : V}, NkV H k v → (∀ b o, H b = some o → Mu o = false → H' b = some o) → NkV H' k v
 | .num i, v, h, _ => by rw [NkV] at h ⊢; exact h
 | .tup l, v, h, k => by
   rw [NkV] at h ⊢
   obtain ⟨a, vs, e, ha, r⟩ := h
   exact ⟨a, vs, e, k _ _ ha rfl, NkVs.keep r k⟩
theorem NkVs.keep : ∀ {l : List NK} {vs : List V}, NkVs H l vs → (∀ b o, H b = some o → Mu o = false → H' b = some o) → NkVs H' l vs
 | [], vs, h, _ => by rw [NkVs] at h ⊢; exact h
 | x :: l, vs, h, k => by
   rw [NkVs] at h ⊢
   obtain ⟨v, ws, e, r, t⟩ := h
   exact ⟨v, ws, e, NkV.keep r k, NkVs.keep t k⟩
end
mutual
theorem Rep.keep : ∀ {d : D} {v : V} {f : List Addr}, Rep K H lv d v f → (∀ b o, H b = some o → (b ∈ f ∨ Mu o = false) → H' b = some o) → Rep K H' lv d v f
 | _, _, _, .non, _ => .non
 | _, _, _, .bl b, _ => .bl b
 | _, _, _, .int i, _ => .int i
 | _, _, _, .str s, _ => .str s
 | _, _, _, .tup h r, k => .tup (k _ _ h (.inr rfl)) (Reps.keep r k)
 | _, _, _, .tupK l h r, k => .tupK l h (Reps.keep r k)
 | _, _, _, .lst h r n, k => .lst (k _ _ h (.inl (List.mem_cons_self ..))) (Reps.keep r fun b o e c => k b o e (c.imp_left fun z => List.mem_cons_of_mem _ z)) n
 | _, _, _, .lstF l h r, k => .lstF l (h.keep fun o e m => k _ _ e (.inr m)) (Reps.keep r k)
 | _, _, _, .dT h e nd r n, k => .dT (k _ _ h (.inl (List.mem_cons_self ..))) e nd (Reps.keep r fun b o e c => k b o e (c.imp_left fun z => List.mem_cons_of_mem _ z)) n
 | _, _, _, .dTF l h e nd r, k => .dTF l (k _ _ h (.inr rfl)) e nd (Reps.keep r k)
 | _, _, _, .dF h e nd r, k => .dF (k _ _ h (.inr rfl)) e nd (Reps.keep r k)
 | _, _, _, .dG h e nd r, k => .dG (k _ _ h (.inr rfl)) e nd (Reps.keep r k)
 | _, _, _, .lF h r, k => .lF (k _ _ h (.inr rfl)) (Reps.keep r k)
 | _, _, _, .ob h c e r n, k => .ob (k _ _ h (.inl (List.mem_cons_self ..))) c e (Reps.keep r fun b o e c => k b o e (c.imp_left fun z => List.mem_cons_of_mem _ z)) n
 | _, _, _, .ex h c e z, k => .ex (k _ _ h (.inr qf9)) c (fun x hx => k _ _ (e x hx) (.inr rfl)) z
 | _, _, _, .opN v, _ => .opN v
 | _, _, _, .opF h, _ => .opF h
 | _, _, _, .dN h e nd kk r n, k => .dN (k _ _ h (.inl (List.mem_cons_self ..))) e nd (fun x hx => ⟨(kk x hx).1.keep fun b o e m => k b o e (.inr m), (kk x hx).2⟩) (Reps.keep r fun b o e c => k b o e (c.imp_left fun z => List.mem_cons_of_mem _ z)) n
 | _, _, _, .dK h e nd r n, k => .dK (k _ _ h (.inl (List.mem_cons_self ..))) e nd (Reps.keep r fun b o e c => k b o e (c.imp_left fun z => List.mem_cons_of_mem _ z)) n
theorem Reps.keep : ∀ {ds : List D} {vs : List V} {f : List Addr}, Reps K H lv ds vs f → (∀ b o, H b = some o → (b ∈ f ∨ Mu o = false) → H' b = some o) → Reps K H' lv ds vs f
 | _, _, _, .nil, _ => .nil
 | _, _, _, .cons r t n, k => .cons (Rep.keep r fun b o e c => k b o e (c.imp_left fun z => List.mem_append_left _ z)) (Reps.keep t fun b o e c => k b o e (c.imp_left fun z => List.mem_append_right _ z)) n
end
mutual
theorem Rep.dom : ∀ {d : D} {v : V} {f : List Addr}, Rep K H lv d v f → ∀ b ∈ f, ∃ o, H b = some o ∧ Mu o = true
 | _, _, _, .tup h r, b, hb => Reps.dom r b hb
 | _, _, _, .tupK l h r, b, hb => Reps.dom r b hb
 | _, _, _, .lst h r n, b, hb => by
   rcases List.mem_cons.mp hb with rfl | hb
   ·exact ⟨_, h, rfl⟩
   ·exact Reps.dom r b hb
 | _, _, _, .lstF l h r, b, hb => Reps.dom r b hb
 | _, _, _, .dT h e nd r n, b, hb => by
   rcases List.mem_cons.mp hb with rfl | hb
   ·exact ⟨_, h, rfl⟩
   ·exact Reps.dom r b hb
 | _, _, _, .dTF l h e nd r, b, hb => Reps.dom r b hb
 | _, _, _, .dF h e nd r, b, hb => by simp at hb
 | _, _, _, .dG h e nd r, b, hb => by simp at hb
 | _, _, _, .ex h c e z, b, hb => by simp at hb
 | _, _, _, .opN v, b, hb => by simp at hb
 | _, _, _, .opF h, b, hb => by simp at hb
 | _, _, _, .dN h e nd kk r n, b, hb => by
   rcases List.mem_cons.mp hb with rfl | hb
   ·exact ⟨_, h, qf8⟩
   ·exact Reps.dom r b hb
 | _, _, _, .lF h r, b, hb => Reps.dom r b hb
 | _, _, _, .ob h c e r n, b, hb => by
   rcases List.mem_cons.mp hb with rfl | hb
   ·exact ⟨_, h, rfl⟩
   ·exact Reps.dom r b hb
 | _, _, _, .dK h e nd r n, b, hb => by
   rcases List.mem_cons.mp hb with rfl | hb
   ·exact ⟨_, h, rfl⟩
   ·exact Reps.dom r b hb
theorem Reps.dom : ∀ {ds : List D} {vs : List V} {f : List Addr}, Reps K H lv ds vs f → ∀ b ∈ f, ∃ o, H b = some o ∧ Mu o = true
 | _, _, _, .cons r t n, b, hb => by
   rcases List.mem_append.mp hb with hb | hb
   ·exact Rep.dom r b hb
   ·exact Reps.dom t b hb
end
mutual
theorem Rep.up : ∀ {d : D} {v : V} {f : List Addr}, Rep K H lv d v f → lv ≤ lv' → Rep K H lv' d v f
 | _, _, _, .non, _ => .non
 | _, _, _, .bl b, _ => .bl b
 | _, _, _, .int i, _ => .int i
 | _, _, _, .str s, _ => .str s
 | _, _, _, .tup h r, k => .tup h (Reps.up r k)
 | _, _, _, .tupK l h r, k => .tupK (Nat.le_trans l k) h (Reps.up r k)
 | _, _, _, .lst h r n, k => .lst h (Reps.up r k) fun e => n (by omega)
 | _, _, _, .lstF l h r, k => .lstF (Nat.le_trans l k) h (Reps.up r k)
 | _, _, _, .dT h e nd r n, k => .dT h e nd (Reps.up r k) fun e => n (by omega)
 | _, _, _, .dTF l h e nd r, k => .dTF (Nat.le_trans l k) h e nd (Reps.up r k)
 | _, _, _, .dF h e nd r, k => .dF h e nd (Reps.up r k)
 | _, _, _, .dG h e nd r, k => .dG h e nd (Reps.up r k)
 | _, _, _, .lF h r, k => .lF h (Reps.up r k)
 | _, _, _, .ob h c e r n, k => .ob h c e (Reps.up r k) fun e => n (by omega)
 | _, _, _, .ex h c e z, k => .ex h c e z
 | _, _, _, .opN v, _ => .opN v
 | _, _, _, .opF h, _ => .opF h
 | _, _, _, .dN h e nd kk r n, k => .dN h e nd kk (Reps.up r k) fun e => n (by omega)
 | _, _, _, .dK h e nd r n, k => .dK h e nd (Reps.up r k) fun e => n (by omega)
theorem Reps.up : ∀ {ds : List D} {vs : List V} {f : List Addr}, Reps K H lv ds vs f → lv ≤ lv' → Reps K H lv' ds vs f
 | _, _, _, .nil, _ => .nil
 | _, _, _, .cons r t n, k => .cons (Rep.up r k) (Reps.up t k) fun e => n (by omega)
end
mutual
theorem Rep.imm : ∀ {d : D} {v : V} {f : List Addr}, Rep K H lv d v f → lv ≤ 1 → d.imm = true → f = [] ∧ Rep K H 0 d v []
 | _, _, _, .non, _, _ => ⟨rfl, .non⟩
 | _, _, _, .bl b, _, _ => ⟨rfl, .bl b⟩
 | _, _, _, .int i, _, _ => ⟨rfl, .int i⟩
 | _, _, _, .str s, _, _ => ⟨rfl, .str s⟩
 | _, _, _, .tup h r, l, e => by
   rw [D.imm] at e
   obtain ⟨rfl, r'⟩ := Reps.imm r l e
   exact ⟨rfl, .tup h r'⟩
 | _, _, _, .tupK l h r, k, _ => absurd l (by omega)
 | _, _, _, .lst h r n, _, e => by rw [D.imm] at e; cases e
 | _, _, _, .lstF l h r, _, e => by rw [D.imm] at e; cases e
 | _, _, _, .dT h e' nd r n, _, e => by rw [D.imm] at e; cases e
 | _, _, _, .dTF l h e' nd r, _, e => by rw [D.imm] at e; cases e
 | _, _, _, .dF h e' nd r, _, e => by rw [D.imm] at e; cases e
 | _, _, _, .dG h e' nd r, _, e => by rw [D.imm] at e; cases e
 | _, _, _, .ob h c e' r n, _, e => by rw [D.imm] at e; cases e
 | _, _, _, .lF h r, l, e => by
   rw [D.imm] at e
   obtain ⟨rfl, r'⟩ := Reps.imm r l e
   exact ⟨rfl, .lF h r'⟩
 | _, _, _, .ex h c e' z, _, e => by rw [D.imm] at e; cases e
 | _, _, _, .opN v, _, e => by rw [D.imm] at e; cases e
 | _, _, _, .opF h, _, e => by rw [D.imm] at e; cases e
 | _, _, _, .dN h e' nd kk r n, _, e => by rw [D.imm] at e; cases e
 | _, _, _, .dK h e' nd r n, _, e => by rw [D.imm] at e; cases e
theorem Reps.imm : ∀ {ds : List D} {vs : List V} {f : List Addr}, Reps K H lv ds vs f → lv ≤ 1 → immL ds = true → f = [] ∧ Reps K H 0 ds vs []
 | _, _, _, .nil, _, _ => ⟨rfl, .nil⟩
 | _, _, _, .cons r t n, l, e => by
   rw [immL, Bool.and_eq_true] at e
   obtain ⟨rfl, r'⟩ := Rep.imm r l e.1
   obtain ⟨rfl, t'⟩ := Reps.imm t l e.2
   exact ⟨rfl, .cons (f := []) (g := []) r' t' (fun _ b hb => by simp at hb)⟩
end
theorem Reps.len : ∀ {ds : List D} {vs : List V} {f : List Addr}, Reps K H lv ds vs f → ds.length = vs.length
 | _, _, _, .nil => rfl
 | _, _, _, .cons _ t _ => by rw [List.length_cons, List.length_cons, t.len]
theorem Reps.get : ∀ {ds : List D} {vs : List V} {f : List Addr} {i : Nat} {d : D}, Reps K H lv ds vs f → ds[i]? = some d → ∃ v g, vs[i]? = some v ∧ Rep K H lv d v g ∧ ∀ b ∈ g, b ∈ f
 | _, _, _, 0, _, .cons r t _, e => by
   cases e
   exact ⟨_, _, rfl, r, fun b hb => List.mem_append_left _ hb⟩
 | _, _, _, i + 1, _, .cons r t _, e => by
   obtain ⟨v, g, h1, h2, h3⟩ := t.get (i := i) (by simpa using e)
   exact ⟨v, g, by simpa using h1, h2, fun b hb => List.mem_append_right _ (h3 b hb)⟩
theorem Reps.append : ∀ {ds es : List D} {vs ws : List V} {f g : List Addr}, Reps K H lv ds vs f → Reps K H lv es ws g → (lv = 0 → ∀ b ∈ f, b ∉ g) → Reps K H lv (ds ++ es) (vs ++ ws) (f ++ g)
 | _, _, _, _, _, _, .nil, q, _ => q
 | _, es, _, ws, _, g, .cons (f := f1) (g := g1) (ds := ds) (vs := vs) r t n, q, k => by
   rw [List.cons_append, List.cons_append, List.append_assoc]
   refine .cons r (Reps.append t q fun e b hb => k e b (List.mem_append_right _ hb)) fun e b hb z => ?_
   rcases List.mem_append.mp z with z | z
   ·exact n e b hb z
   ·exact k e b (List.mem_append_left _ hb) z
theorem Reps.one {d : D} {v : V} {f : List Addr} (r : Rep K H lv d v f) : Reps K H lv [d] [v] f := by
 have := Reps.cons (g := []) r .nil (fun _ b _ z => by simp at z)
 rwa [List.append_nil] at this
theorem Rep.tupleSq {ds : List D} {v : V} {f : List Addr} (r : Rep K H lv (.tup ds) v f) : ∃ a vs, v = .ref a ∧ SqT K H a vs ∧ Reps K H lv ds vs f := by
 cases r with
 | tup h r => exact ⟨_, _, rfl, .inl (.inl h), r⟩
 | tupK l h r => exact ⟨_, _, rfl, h.sq, r⟩
theorem Rep.tupleAt {ds : List D} {v : V} {f : List Addr} (r : Rep K H lv (.tup ds) v f) (l : lv ≤ 1) : ∃ a vs, v = .ref a ∧ H a = some (.tup vs) ∧ Reps K H lv ds vs f := by
 cases r with
 | tup h r => exact ⟨_, _, rfl, h, r⟩
 | tupK l' h r => exact absurd l' (by omega)
theorem Rep.lFSq {ds : List D} {v : V} {f : List Addr} (r : Rep K H lv (.lF ds) v f) : ∃ a vs, v = .ref a ∧ SqL K H a vs ∧ Reps K H lv ds vs f ∧ SqLF K H a vs := by
 cases r with
 | lF h r => exact ⟨_, _, rfl, .inl (.inr ⟨_, h⟩), r, .inl ⟨_, h⟩⟩
theorem Rep.listSq {ds : List D} {v : V} {f : List Addr} (r : Rep K H lv (.lst ds) v f) : ∃ a vs g, v = .ref a ∧ SqL K H a vs ∧ Reps K H lv ds vs g ∧ (∀ b ∈ g, b ∈ f) ∧ (H a = some (.lst vs) ∧ a ∈ f ∨ SqLF K H a vs) := by
 cases r with
 | lst h r n => exact ⟨_, _, _, rfl, .inl (.inl h), r, fun b hb => List.mem_cons_of_mem _ hb, .inl ⟨h, List.mem_cons_self ..⟩⟩
 | lstF l h r => exact ⟨_, _, _, rfl, h.sq, r, fun b hb => hb, .inr h⟩
theorem Rep.listAt {ds : List D} {v : V} {f : List Addr} (r : Rep K H 0 (.lst ds) v f) : ∃ a vs g, v = .ref a ∧ H a = some (.lst vs) ∧ Reps K H 0 ds vs g ∧ f = a :: g ∧ a ∉ g := by
 cases r with
 | lst h r n => exact ⟨_, _, _, rfl, h, r, rfl, n rfl⟩
 | lstF l h r => exact absurd l (by omega)
theorem Rep.dTAt {kvs : List (List Key × D)} {v : V} {f : List Addr} (r : Rep K H lv (.dT kvs) v f) (l : lv ≤ 1 := by omega) : ∃ a hs g, v = .ref a ∧ H a = some (.dT hs) ∧ hs.map (·.1) = kvs.map (·.1) ∧ (kvs.map (·.1)).Nodup ∧ Reps K H lv (kvs.map (·.2)) (hs.map (·.2)) g ∧ f = a :: g ∧ (lv = 0 → a ∉ g) := by
 cases r with
 | dT h e nd r n => exact ⟨_, _, _, rfl, h, e, nd, r, rfl, n⟩
 | dTF l' h e nd r => exact absurd l' (by omega)
mutual
theorem NkV.rep : ∀ {k : NK} {v : V}, NkV H k v → Rep K H lv (nkD k) v []
 | .num i, v, h => by
   rw [NkV] at h; rw [nkD, h]; exact .int i
 | .tup l, v, h => by
   rw [NkV] at h
   obtain ⟨a, vs, rfl, ha, r⟩ := h
   rw [nkD]; exact .tup ha (NkVs.rep r)
theorem NkVs.rep : ∀ {l : List NK} {vs : List V}, NkVs H l vs → Reps K H lv (nkDs l) vs []
 | [], vs, h => by
   rw [NkVs] at h; rw [nkDs, h]; exact .nil
 | k :: l, vs, h => by
   rw [NkVs] at h
   obtain ⟨v, ws, rfl, r, t⟩ := h
   rw [nkDs]
   exact .cons (f := []) (g := []) (NkV.rep r) (NkVs.rep t) fun _ b hb => by simp at hb
end
theorem Rep.listAt1 {ds : List D} {v : V} {f : List Addr} (r : Rep K H lv (.lst ds) v f) (l : lv ≤ 1) : ∃ a vs g, v = .ref a ∧ H a = some (.lst vs) ∧ Reps K H lv ds vs g ∧ f = a :: g := by
 cases r with
 | lst h r n => exact ⟨_, _, _, rfl, h, r, rfl⟩
 | lstF l' h r => exact absurd l' (by omega)
theorem Rep.nonV {v : V} {f : List Addr} (r : Rep K H lv .non v f) : v = .non ∧ f = [] := by cases r; exact ⟨rfl, rfl⟩
theorem Rep.intV {i : Int} {v : V} {f : List Addr} (r : Rep K H lv (.int i) v f) : v = .int i ∧ f = [] := by cases r; exact ⟨rfl, rfl⟩
theorem Rep.blV {i : Bool} {v : V} {f : List Addr} (r : Rep K H lv (.bl i) v f) : v = .bl i ∧ f = [] := by cases r; exact ⟨rfl, rfl⟩
theorem Rep.int0 {i : Int} {v : V} {f : List Addr} (r : Rep K H lv (.int i) v f) : Rep K H 0 (.int i) v [] := by cases r; exact .int i
theorem Rep.bl0 {i : Bool} {v : V} {f : List Addr} (r : Rep K H lv (.bl i) v f) : Rep K H 0 (.bl i) v [] := by cases r; exact .bl i
theorem Rep.str0 {i : Str} {v : V} {f : List Addr} (r : Rep K H lv (.str i) v f) : Rep K H 0 (.str i) v [] := by cases r; exact .str i
theorem Rep.non0 {v : V} {f : List Addr} (r : Rep K H lv .non v f) : Rep K H 0 .non v [] := by cases r; exact .non
theorem Rep.strV {i : Str} {v : V} {f : List Addr} (r : Rep K H lv (.str i) v f) : v = .str i ∧ f = [] := by cases r; exact ⟨rfl, rfl⟩
end
inductive Md where
 | own | io | lk | ro | cst
 deriving DecidableEq
def Md.lv : Md → Nat
 | .own => 0
 | .io => 0
 | .lk => 0
 | .ro => 1
 | .cst => 2
def Md.rd : Md → Bool
 | .own => false
 | .io => false
 | .lk => true
 | .ro => true
 | .cst => true
abbrev En := List (Option (D × Md))
abbrev FA := Nat → List Addr
def W (env : En) (f : FA) (b : Addr) : Prop := ∃ i d m, env[i]? = some (some (d, m)) ∧ m.rd = false ∧ b ∈ f i
def L0 (env : En) (f : FA) (b : Addr) : Prop := ∃ i d m, env[i]? = some (some (d, m)) ∧ m.lv = 0 ∧ b ∈ f i
def Ro (env : En) (f : FA) (b : Addr) : Prop := ∃ i d m, env[i]? = some (some (d, m)) ∧ m.lv ≠ 0 ∧ b ∈ f i
theorem Md.lv_of {m : Md} (h : m.rd = false) : m.lv = 0 := by cases m <;> first | rfl | (cases h)
theorem Md.rd_of {m : Md} (h : m.lv ≠ 0) : m.rd = true := by cases m <;> first | rfl | exact absurd rfl h
theorem W.l0 {env : En} {f : FA} {b : Addr} (h : W env f b) : L0 env f b := let ⟨i, d, m, e, r, hb⟩ := h; ⟨i, d, m, e, Md.lv_of r, hb⟩
structure Abs (K : PySem.W.Frag) (σ : L2.St) (H : Hp) (env : En) (f : FA) : Prop where
 rep : ∀ i d m, env[i]? = some (some (d, m)) → ∃ v, σ[i]? = some (some v) ∧ Rep K H m.lv d v (f i)
 dis : ∀ i j d m d' m', i ≠ j → env[i]? = some (some (d, m)) → env[j]? = some (some (d', m')) → m.lv = 0 → ∀ b ∈ f i, b ∉ f j
 len : env.length = σ.length
inductive R where
 | tmp (d : D)
 | ro (c : Bool) (d : D)
 | sl (i : Nat)
def clv : Bool → Nat
 | false => 1
 | true => 2
inductive ResOk (K : PySem.W.Frag) (σ : L2.St) (H : Hp) (env : En) (f : FA) : R → V → List Addr → Prop
 | tmp {d : D} {v : V} {g : List Addr} : Rep K H 0 d v g → (∀ b ∈ g, ¬ L0 env f b ∧ ¬ Ro env f b) → ResOk K σ H env f (.tmp d) v g
 | ro {c : Bool} {d : D} {v : V} {g : List Addr} : Rep K H (clv c) d v g → (∀ b ∈ g, Ro env f b) → ResOk K σ H env f (.ro c d) v []
 | sl {i : Nat} {v : V} {d : D} {m : Md} : σ[i]? = some (some v) → env[i]? = some (some (d, m)) → m.lv = 0 → ResOk K σ H env f (.sl i) v []
structure Stp (H : Hp) (env : En) (f : FA) (G : List Addr) (H' : Hp) (env' : En) (f' : FA) (G' : List Addr) : Prop where
 same : ∀ b o, H b = some o → (Mu o = false ∨ (¬ W env f b ∧ b ∉ G)) → H' b = some o
 own : ∀ b, (W env' f' b ∨ b ∈ G') → (W env f b ∨ b ∈ G ∨ H b = none)
structure Kp (env : En) (f : FA) (env' : En) (f' : FA) : Prop where
 modes : env'.map (Option.map Prod.snd) = env.map (Option.map Prod.snd)
 ros : ∀ j d m, env[j]? = some (some (d, m)) → m.rd = true → env'[j]? = some (some (d, m)) ∧ f' j = f j
section
variable {K : PySem.W.Frag} {σ : L2.St} {H H1 H2 : Hp} {env env1 env2 : En} {f f1 f2 : FA} {G G1 G2 : List Addr}
theorem Stp.refl : Stp H env f G H env f G := ⟨fun _ _ h _ => h, fun _ h => h.elim .inl fun z => .inr (.inl z)⟩
theorem Stp.trans (a : Stp H env f G H1 env1 f1 G1) (b : Stp H1 env1 f1 G1 H2 env2 f2 G2) : Stp H env f G H2 env2 f2 G2 where
 same := fun c o h q => by
  have h1 := a.same c o h q
  rcases q with q | q
  ·exact b.same c o h1 (.inl q)
  ·refine b.same c o h1 (.inr ⟨fun z => ?_, fun z => ?_⟩)
   ·rcases a.own c (.inl z) with z | z | z
    ·exact q.1 z
    ·exact q.2 z
    ·rw [h] at z; cases z
   ·rcases a.own c (.inr z) with z | z | z
    ·exact q.1 z
    ·exact q.2 z
    ·rw [h] at z; cases z
 own := fun c q => by
  rcases b.own c q with z | z | z
  ·exact a.own c (.inl z)
  ·exact a.own c (.inr z)
  ·by_cases hw : W env f c
   ·exact .inl hw
   ·by_cases hg : c ∈ G
    ·exact .inr (.inl hg)
    ·refine .inr (.inr ?_)
     cases e : H c with
     | none => rfl
     | some o =>
       have := a.same c o e (.inr ⟨hw, hg⟩)
       rw [z] at this; cases this
theorem Stp.frame (a : Stp H env f [] H1 env1 f1 G1) (P : List Addr) : Stp H env f P H1 env1 f1 (P ++ G1) :=
 ⟨fun b o h q => a.same b o h (q.imp_right fun z => ⟨z.1, by simp⟩), fun b q => by
  rcases q with q | q
  ·rcases a.own b (.inl q) with z | z | z
   ·exact .inl z
   ·simp at z
   ·exact .inr (.inr z)
  ·rcases List.mem_append.mp q with z | z
   ·exact .inr (.inl z)
   ·rcases a.own b (.inr z) with z | z | z
    ·exact .inl z
    ·simp at z
    ·exact .inr (.inr z)⟩
theorem Stp.more0 (a : Stp H env f [] H1 env1 f1 G1) : Stp H env f G H1 env1 f1 G1 :=
 ⟨fun b o e q => a.same b o e (q.imp_right fun z => ⟨z.1, by simp⟩), fun b q => (a.own b q).imp_right fun z => z.imp_left fun y => by simp at y⟩
theorem Stp.drop (a : Stp H env f G H1 env1 f1 G1) {G2 : List Addr} (h : ∀ b ∈ G2, b ∈ G1) : Stp H env f G H1 env1 f1 G2 :=
 ⟨a.same, fun b q => a.own b (q.imp_right (h b))⟩
theorem Stp.more (a : Stp H env f G H1 env1 f1 G1) {G2 : List Addr} (h : ∀ b ∈ G, b ∈ G2) : Stp H env f G2 H1 env1 f1 G1 :=
 ⟨fun b o e q => a.same b o e (q.imp_right fun z => ⟨z.1, fun y => z.2 (h b y)⟩), fun b q => (a.own b q).imp_right fun z => z.imp_left (h b)⟩
theorem Kp.refl : Kp env f env f := ⟨rfl, fun _ _ _ h _ => ⟨h, rfl⟩⟩
theorem Kp.trans (a : Kp env f env1 f1) (b : Kp env1 f1 env2 f2) : Kp env f env2 f2 :=
 ⟨b.modes.trans a.modes, fun j d m h r => let ⟨h1, e1⟩ := a.ros j d m h r; let ⟨h2, e2⟩ := b.ros j d m h1 r; ⟨h2, e2.trans e1⟩⟩
theorem Kp.slot (a : Kp env f env1 f1) {i : Nat} {d : D} {m : Md} (h : env[i]? = some (some (d, m))) : ∃ d', env1[i]? = some (some (d', m)) := by
 have e := congrArg (fun l => l[i]?) a.modes
 simp only [List.getElem?_map, h, Option.map_some] at e
 cases q : env1[i]? with
 | none => rw [q] at e; cases e
 | some o =>
   rw [q] at e
   cases o with
   | none => cases e
   | some p => obtain ⟨d', m'⟩ := p; simp only [Option.map_some, Option.some.injEq] at e; subst e; exact ⟨d', rfl⟩
theorem Kp.slot' (a : Kp env f env1 f1) {i : Nat} {d : D} {m : Md} (h : env1[i]? = some (some (d, m))) : ∃ d', env[i]? = some (some (d', m)) := by
 have e := congrArg (fun l => l[i]?) a.modes
 simp only [List.getElem?_map, h, Option.map_some] at e
 cases q : env[i]? with
 | none => rw [q] at e; cases e
 | some o =>
   rw [q] at e
   cases o with
   | none => cases e
   | some p => obtain ⟨d', m'⟩ := p; simp only [Option.map_some, Option.some.injEq] at e; subst e; exact ⟨d', rfl⟩
theorem Kp.ro (a : Kp env f env1 f1) {b : Addr} (h : Ro env f b) : Ro env1 f1 b := by
 obtain ⟨i, d, m, e, r, hb⟩ := h
 obtain ⟨e1, e2⟩ := a.ros i d m e (Md.rd_of r)
 exact ⟨i, d, m, e1, r, by rw [e2]; exact hb⟩
theorem Kp.ro' (a : Kp env f env1 f1) {b : Addr} (h : Ro env1 f1 b) : Ro env f b := by
 obtain ⟨i, d, m, e, r, hb⟩ := h
 obtain ⟨d', e'⟩ := a.slot' e
 obtain ⟨e1, e2⟩ := a.ros i d' m e' (Md.rd_of r)
 rw [e2] at hb
 exact ⟨i, d', m, e', r, hb⟩
theorem Kp.l0 (a : Kp env f env1 f1) {b : Addr} (h : L0 env1 f1 b) : W env1 f1 b ∨ L0 env f b := by
 obtain ⟨i, d, m, e, r, hb⟩ := h
 cases hm : m.rd with
 | false => exact .inl ⟨i, d, m, e, hm, hb⟩
 | true =>
   obtain ⟨d', e'⟩ := a.slot' e
   obtain ⟨e1, e2⟩ := a.ros i d' m e' hm
   rw [e2] at hb
   exact .inr ⟨i, d', m, e', r, hb⟩
theorem Abs.rdom (A : Abs K σ H env f) {b : Addr} (h : Ro env f b) : ∃ o, H b = some o ∧ Mu o = true := by
 obtain ⟨i, d, m, e, r, hb⟩ := h
 obtain ⟨v, _, rp⟩ := A.rep i d m e
 exact rp.dom b hb
theorem Abs.ldom (A : Abs K σ H env f) {b : Addr} (h : L0 env f b) : ∃ o, H b = some o ∧ Mu o = true := by
 obtain ⟨i, d, m, e, r, hb⟩ := h
 obtain ⟨v, _, rp⟩ := A.rep i d m e
 exact rp.dom b hb
theorem Abs.apart (A : Abs K σ H env f) {b : Addr} (h : L0 env f b) : ¬ Ro env f b := by
 rintro ⟨j, d', m', e', r', hb'⟩
 obtain ⟨i, d, m, e, r, hb⟩ := h
 refine A.dis i j d m d' m' (fun z => ?_) e e' r b hb hb'
 subst z
 rw [e] at e'; cases e'
 exact r' r
theorem ResOk.dom {r : R} {v : V} {g : List Addr} (h : ResOk K σ H env f r v g) : ∀ b ∈ g, ∃ o, H b = some o ∧ Mu o = true := by
 cases h with
 | tmp r _ => exact r.dom
 | ro _ _ => intro b hb; simp at hb
 | sl _ _ _ => intro b hb; simp at hb
theorem ResOk.wait {r : R} {v : V} {g : List Addr} (h : ResOk K σ H env f r v g) (A : Abs K σ H env f) (s : Stp H env f [] H1 env1 f1 G1) (k : Kp env f env1 f1) :
 ResOk K σ H1 env1 f1 r v g ∧ ∀ b ∈ g, b ∉ G1 := by
 cases h with
 | tmp r n =>
   refine ⟨.tmp (r.keep fun b o e q => ?_) fun b hb => ⟨fun z => ?_, fun z => ?_⟩, fun b hb z => ?_⟩
   ·rcases q with q | q
    ·exact s.same b o e (.inr ⟨fun z => (n b q).1 z.l0, by simp⟩)
    ·exact s.same b o e (.inl q)
   ·obtain ⟨o, ho, _⟩ := r.dom b hb
    rcases k.l0 z with z | z
    ·rcases s.own b (.inl z) with z | z | z
     ·exact (n b hb).1 z.l0
     ·simp at z
     ·rw [ho] at z; cases z
    ·exact (n b hb).1 z
   ·exact (n b hb).2 (k.ro' z)
   ·obtain ⟨o, ho, _⟩ := r.dom b hb
    rcases s.own b (.inr z) with z | z | z
    ·exact (n b hb).1 z.l0
    ·simp at z
    ·rw [ho] at z; cases z
 | ro r n =>
   refine ⟨.ro (r.keep fun b o e q => ?_) fun b hb => k.ro (n b hb), fun b hb => by simp at hb⟩
   rcases q with q | q
   ·exact s.same b o e (.inr ⟨fun z => A.apart z.l0 (n b q), by simp⟩)
   ·exact s.same b o e (.inl q)
 | sl e1 e2 hm =>
   obtain ⟨d', e3⟩ := k.slot e2
   exact ⟨.sl e1 e3 hm, fun b hb => by simp at hb⟩
end
end BX
namespace BX
open PySem PySem.Spec PyProof.Rows L2
abbrev XE := En → (R → En → Prop) → Prop
abbrev XT := En → (Bool → En → Prop) → Prop
abbrev XA := En → (List R → En → Prop) → Prop
def yw (t : XE) : Prop := ∀ env Q Q', (∀ r e, Q r e → Q' r e) → t env Q → t env Q'
def Xz (t : XT) : Prop := ∀ env Q Q', (∀ r e, Q r e → Q' r e) → t env Q → t env Q'
def vz (t : XA) : Prop := ∀ env Q Q', (∀ r e, Q r e → Q' r e) → t env Q → t env Q'
def U8 (K : PySem.W.Frag) (σ : L2.St) (H : Hp) (env : En) (f : FA) (Q : VK) : R → En → Prop := fun r env' => ∀ v H' f' g, Abs K σ H' env' f' → ResOk K σ H' env' f' r v g → Stp H env f [] H' env' f' g → Kp env f env' f' → Q v H'
def xN (K : PySem.W.Frag) (t : XE) : TE := fun σ H Q => ∃ env f, Abs K σ H env f ∧ t env (U8 K σ H env f Q)
def liftT (K : PySem.W.Frag) (t : XT) : TT := fun σ H Q => ∃ env f, Abs K σ H env f ∧ t env fun b env' => ∀ H' f', Abs K σ H' env' f' → Stp H env f [] H' env' f' [] → Kp env f env' f' → Q b H'
inductive ResOks (K : PySem.W.Frag) (σ : L2.St) (H : Hp) (env : En) (f : FA) : List R → List V → List Addr → Prop
 | nil : ResOks K σ H env f [] [] []
 | cons {r : R} {v : V} {g : List Addr} {rs : List R} {vs : List V} {gs : List Addr} : ResOk K σ H env f r v g → ResOks K σ H env f rs vs gs → (∀ b ∈ g, b ∉ gs) → ResOks K σ H env f (r :: rs) (v :: vs) (g ++ gs)
def Ux (K : PySem.W.Frag) (t : XA) : TA := fun σ H Q => ∃ env f, Abs K σ H env f ∧ t env fun rs env' => ∀ vs H' f' gs, Abs K σ H' env' f' → ResOks K σ H' env' f' rs vs gs → Stp H env f [] H' env' f' gs → Kp env f env' f' → Q vs H'
structure DE (X : Cx) (e : Expr) (t : XE) : Prop where
 run : PE X e (xN X.K t)
 mono : yw t
structure DT (X : Cx) (e : Expr) (t : XT) : Prop where
 run : PT X e (liftT X.K t)
 mono : Xz t
structure DW (X : Cx) (e : Expr) (t : XT) : Prop where
 run : PW X e (liftT X.K t)
 mono : Xz t
structure DA (X : Cx) (es : List Expr) (t : XA) : Prop where
 run : PA X es (Ux X.K t)
 mono : vz t
theorem PE.imp {X : Cx} {e : Expr} {t u : TE} (h : PE X e t) (k : ∀ σ H Q, u σ H Q → t σ H Q) : PE X e u := ⟨fun pins s σ H Q I q => h.run pins s σ H Q I (k _ _ _ q)⟩
theorem PT.imp {X : Cx} {e : Expr} {t u : TT} (h : PT X e t) (k : ∀ σ H Q, u σ H Q → t σ H Q) : PT X e u := ⟨fun pins s σ H Q I q => h.run pins s σ H Q I (k _ _ _ q)⟩
theorem PW.imp {X : Cx} {e : Expr} {t u : TT} (h : PW X e t) (k : ∀ σ H Q, u σ H Q → t σ H Q) : PW X e u := ⟨fun wh pins s σ H Q I q => h.run wh pins s σ H Q I (k _ _ _ q)⟩
theorem PA.imp {X : Cx} {e : List Expr} {t u : TA} (h : PA X e t) (k : ∀ σ H Q, u σ H Q → t σ H Q) : PA X e u := ⟨fun pos pins s σ H Q I q => h.run pos pins s σ H Q I (k _ _ _ q)⟩
def Md.okL : Md → Nat → Bool
 | .own, _ => true
 | .io, _ => true
 | .lk, _ => true
 | .ro, 0 => false
 | .ro, _ + 1 => true
 | .cst, 0 => false
 | .cst, 1 => false
 | .cst, _ + 2 => true
def roOk : Bool → Nat → Bool
 | false, 0 => false
 | false, _ + 1 => true
 | true, 0 => false
 | true, 1 => false
 | true, _ + 2 => true
theorem Md.okL_le {m : Md} {L : Nat} (h : m.okL L = true) : m.lv ≤ L := by
 cases m with
 | own => exact Nat.zero_le _
 | io => exact Nat.zero_le _
 | lk => exact Nat.zero_le _
 | ro => cases L with
   | zero => cases h
   | succ n => exact Nat.succ_le_succ (Nat.zero_le _)
 | cst => match L, h with
   | n + 2, _ => exact Nat.le_add_left 2 n
theorem VJ {c : Bool} {L : Nat} (h : roOk c L = true) : clv c ≤ L := by
 match c, L, h with
 | false, n + 1, _ => exact Nat.le_add_left 1 n
 | true, n + 2, _ => exact Nat.le_add_left 2 n
def R.data (L : Nat) (env : En) : R → Option D
 | .tmp d => some d
 | .ro c d => match roOk c L with
   | true => some d
   | false => none
 | .sl i => match env[i]? with
   | some (some (d, m)) => match m.okL L with
     | true => some d
     | false => none
   | _ => none
def rd (L : Nat) (r : R) (env : En) (k : D → Prop) : Prop := match r.data L env with
 | some d => k d
 | none => False
def stor (r : R) (env : En) (k : D → Prop) : Prop := match r with
 | .tmp d => k d
 | r => rd 1 r env fun d => d.imm = true ∧ k d
def mkRo (c : Bool) (d : D) : R := match d with
 | .int i => .tmp (.int i)
 | .bl i => .tmp (.bl i)
 | .str i => .tmp (.str i)
 | .non => .tmp .non
 | d => .ro c d
def elem (r : R) (d : D) (k : R → Prop) : Prop := match r with
 | .tmp _ => k (.tmp d)
 | .ro c _ => k (mkRo c d)
 | .sl _ => d.imm = true ∧ k (.tmp d)
theorem qL {L : Nat} {r : R} {env : En} {k k' : D → Prop} (h : ∀ d, k d → k' d) (q : rd L r env k) : rd L r env k' := by
 unfold rd at q ⊢
 cases e : r.data L env with
 | none => rw [e] at q; exact q
 | some d => rw [e] at q; exact h _ q
theorem uQ {r : R} {env : En} {k k' : D → Prop} (h : ∀ d, k d → k' d) (q : stor r env k) : stor r env k' := by
 cases r with
 | tmp d => exact h _ q
 | ro c d => exact qL (fun d z => ⟨z.1, h _ z.2⟩) q
 | sl i => exact qL (fun d z => ⟨z.1, h _ z.2⟩) q
theorem qaA {r : R} {d : D} {k k' : R → Prop} (h : ∀ d, k d → k' d) (q : elem r d k) : elem r d k' := by
 cases r with
 | tmp _ => exact h _ q
 | ro c _ => exact h _ q
 | sl _ => exact ⟨q.1, h _ q.2⟩
structure Ext (H H' : Hp) (g : List Addr) : Prop where
 same : ∀ b o, H b = some o → H' b = some o
 new : ∀ b ∈ g, H b = none
theorem Ext.refl {H : Hp} : Ext H H [] := ⟨fun _ _ h => h, fun b hb => by simp at hb⟩
theorem Ext.upd {H : Hp} {p : Addr} {o : HO} (h : H p = none) : Ext H (L2.upd H p o) [p] := ⟨fun b u e => by rw [upd_ne (ne_of_none e h)]; exact e, fun b hb => by rw [List.mem_singleton.mp hb]; exact h⟩
theorem Ext.drop {H H' : Hp} {g g' : List Addr} (e : Ext H H' g) (h : ∀ b ∈ g', b ∈ g) : Ext H H' g' := ⟨e.same, fun b hb => e.new b (h b hb)⟩
theorem Stp.new {H H1 H2 : Hp} {env e1 : En} {f f1 : FA} {G G1 g : List Addr} (S : Stp H env f G H1 e1 f1 G1) (x : Ext H1 H2 g) : Stp H env f G H2 e1 f1 (g ++ G1) :=
 S.trans ⟨fun b o h _ => x.same b o h, fun b q => q.elim .inl fun z => (List.mem_append.mp z).elim (fun y => .inr (.inr (x.new b y))) fun y => .inr (.inl y)⟩
section
variable {K : PySem.W.Frag} {σ : L2.St} {H H1 H2 H' : Hp} {env e1 e2 : En} {f f1 f2 : FA} {G g : List Addr} {r : R} {v z : V} {d : D}
theorem yg {L : Nat} {k : D → Prop} (A : Abs K σ H env f) (h : ResOk K σ H env f r v g) (q : rd L r env k) : ∃ d g', Rep K H L d v g' ∧ k d := by
 cases h with
 | tmp r _ => exact ⟨_, _, r.up (Nat.zero_le _), q⟩
 | @ro c d _ _ r _ =>
   unfold rd R.data at q
   cases e : roOk c L with
   | false => simp only [e] at q
   | true => simp only [e] at q; exact ⟨_, _, r.up (VJ e), q⟩
 | @sl i _ d m h1 h2 hm =>
   obtain ⟨v', h3, rp⟩ := A.rep _ _ _ h2
   rw [h1] at h3; cases h3
   unfold rd R.data at q
   simp only [h2] at q
   cases e : m.okL L with
   | false => simp only [e] at q
   | true => simp only [e] at q; exact ⟨_, _, rp.up (Md.okL_le e), q⟩
theorem W7 {k : D → Prop} (A : Abs K σ H env f) (h : ResOk K σ H env f r v g) (q : stor r env k) : ∃ d, Rep K H 0 d v g ∧ k d ∧ (∀ b ∈ g, ¬ L0 env f b ∧ ¬ Ro env f b) := by
 cases r with
 | tmp d => cases h with
   | tmp r n => exact ⟨d, r, q, n⟩
 | ro c d =>
   obtain ⟨d', g', rp, e, q⟩ := yg A h q
   obtain ⟨rfl, rp'⟩ := rp.imm (Nat.le_refl _) e
   cases h
   exact ⟨d', rp', q, fun b hb => by simp at hb⟩
 | sl i =>
   obtain ⟨d', g', rp, e, q⟩ := yg A h q
   obtain ⟨rfl, rp'⟩ := rp.imm (Nat.le_refl _) e
   cases h
   exact ⟨d', rp', q, fun b hb => by simp at hb⟩
theorem Abs.ext (A : Abs K σ H env f) (e : ∀ b o, H b = some o → H' b = some o) : Abs K σ H' env f :=
 ⟨fun i d m h => let ⟨v, h1, r⟩ := A.rep i d m h; ⟨v, h1, r.keep fun b o q _ => e b o q⟩, A.dis, A.len⟩
theorem xX (A : Abs K σ H2 e2 f2) (S : Stp H env f [] H2 e2 f2 G) (x : Ext H2 H' g) (r : Rep K H' 0 d z g) :
 Abs K σ H' e2 f2 ∧ ResOk K σ H' e2 f2 (.tmp d) z g ∧ Stp H env f [] H' e2 f2 g := by
 refine ⟨A.ext x.same, .tmp r fun b hb => ⟨fun w => ?_, fun w => ?_⟩, S.trans ⟨fun b o h _ => x.same b o h, fun b q => ?_⟩⟩
 ·obtain ⟨o, ho, _⟩ := A.ldom w
  rw [x.new b hb] at ho; cases ho
 ·obtain ⟨o, ho, _⟩ := A.rdom w
  rw [x.new b hb] at ho; cases ho
 ·rcases q with q | q
  ·exact .inl q
  ·exact .inr (.inr (x.new b q))
theorem JX {ta tb : XE} {C : R → R → En → Prop} (ma : yw ta) (mb : yw tb) (A : Abs K σ H env f) (q : ta env fun r1 e1 => tb e1 fun r2 e2 => C r1 r2 e2) :
 xN K ta σ H fun x H1 => xN K tb σ H1 fun y H2 => ∃ r1 r2 e2 f2 g1 g2, Abs K σ H2 e2 f2 ∧ ResOk K σ H2 e2 f2 r1 x g1 ∧ ResOk K σ H2 e2 f2 r2 y g2 ∧ (∀ b ∈ g1, b ∉ g2) ∧ Stp H env f [] H2 e2 f2 (g1 ++ g2) ∧ Kp env f e2 f2 ∧ C r1 r2 e2 := by
 refine ⟨env, f, A, ma _ _ _ (fun r1 e1 q1 => ?_) q⟩
 intro x H1 f1 g1 A1 R1 S1 K1
 refine ⟨e1, f1, A1, mb _ _ _ (fun r2 e2 q2 => ?_) q1⟩
 intro y H2 f2 g2 A2 R2 S2 K2
 obtain ⟨R1', n⟩ := R1.wait A1 S2 K2
 exact ⟨r1, r2, e2, f2, g1, g2, A2, R1', R2, n, S1.trans (S2.frame g1), K1.trans K2, q2⟩
end
def dVar (i : Nat) : XE := fun env Q => match env[i]? with
 | some (some (.int z, _)) => Q (.tmp (.int z)) env
 | some (some (.bl z, _)) => Q (.tmp (.bl z)) env
 | some (some (.str z, _)) => Q (.tmp (.str z)) env
 | some (some (.non, _)) => Q (.tmp .non) env
 | some (some (.dF kvs, .own)) => Q (.ro true (.dT kvs)) env
 | some (some (d, .ro)) => Q (.ro false d) env
 | some (some (d, .cst)) => Q (.ro true d) env
 | some (some (_, .own)) => Q (.sl i) env
 | some (some (_, .io)) => Q (.sl i) env
 | some (some (_, .lk)) => Q (.sl i) env
 | _ => False
def dC (d : D) : XE := fun env Q => Q (.tmp d) env
def dG (d : D) : XE := fun env Q => Q (mkRo true d) env
section
variable {X : Cx}
theorem ql {P : Addr → Prop} : ∀ b ∈ ([] : List Addr), P b := fun b hb => by simp at hb
theorem Rep.frz2 {K : PySem.W.Frag} {H : Hp} {lv : Nat} {kvs : List (List Key × D)} {v : V} {g : List Addr} (r : Rep K H lv (.dF kvs) v g) (l : lv ≤ 2) : Rep K H 2 (.dT kvs) v [] := by
 cases r with
 | dF h e nd r => exact .dTF (Nat.le_refl _) h e nd (r.up l)
theorem qj (i : Nat) {x : Str} {pos : Pos} (hN : X.N[i]? = some x := by rfl) (hv : Vis X.env.scope x := by first | exact Or.inl rfl | exact Or.inr (Or.inl rfl) | exact Or.inr (Or.inr rfl)) (hd : (x == ("__debug__" : Str)) = false := by decide)
 (hcd : (x == ("__classdict__" : Str)) = false := by decide) : DE X (.Name x pos) (dVar i) := by
 refine ⟨PE.imp (pe_var hN hv hd hcd) fun σ H Q q => ?_, fun env Q Q' h q => ?_⟩
 ·obtain ⟨env, f, A, q⟩ := q
  unfold dVar at q
  split at q
  all_goals first
   | exact q.elim
   | (rename_i e
      obtain ⟨v, h1, rp⟩ := A.rep _ _ _ e
      refine ⟨v, h1, ?_⟩
      first
       | exact q v H f _ A (.tmp rp.int0 ql) .refl .refl
       | exact q v H f _ A (.tmp rp.bl0 ql) .refl .refl
       | exact q v H f _ A (.tmp rp.str0 ql) .refl .refl
       | exact q v H f _ A (.tmp rp.non0 ql) .refl .refl
       | exact q v H f _ A (.ro (rp.frz2 (Nat.zero_le _)) ql) .refl .refl
       | exact q v H f _ A (.ro rp fun b hb => ⟨_, _, _, e, by decide, hb⟩) .refl .refl
       | exact q v H f _ A (.sl h1 e rfl) .refl .refl)
 ·unfold dVar at q ⊢
  split at q <;> first | exact q.elim | exact h _ _ q
theorem qF {i j pos} : DE X (.Constant (.int i) j pos) (dC (.int i)) :=
 ⟨PE.imp pe_int fun σ H Q ⟨env, f, A, q⟩ => q _ H f _ A (.tmp (.int i) ql) .refl .refl, fun env Q Q' h q => h _ _ q⟩
theorem qaH {i j pos} : DE X (.Constant (.bool i) j pos) (dC (.bl i)) :=
 ⟨PE.imp pe_bl fun σ H Q ⟨env, f, A, q⟩ => q _ H f _ A (.tmp (.bl i) ql) .refl .refl, fun env Q Q' h q => h _ _ q⟩
theorem qJ {i j pos} : DE X (.Constant (.str i) j pos) (dC (.str i)) :=
 ⟨PE.imp pe_str fun σ H Q ⟨env, f, A, q⟩ => q _ H f _ A (.tmp (.str i) ql) .refl .refl, fun env Q Q' h q => h _ _ q⟩
theorem ux {j pos} : DE X (.Constant .none j pos) (dC .non) :=
 ⟨PE.imp pe_non fun σ H Q ⟨env, f, A, q⟩ => q _ H f _ A (.tmp .non ql) .refl .refl, fun env Q Q' h q => h _ _ q⟩
def rOp (K : PySem.W.Frag) (L : Nat) (op : D → D → (D → Prop) → Prop) : R2 := fun x y H Q => ∃ d1 d2 g1 g2, Rep K H L d1 x g1 ∧ Rep K H L d2 y g2 ∧ op d1 d2 fun d => ∀ z H' g, Rep K H' 0 d z g → Ext H H' g → Q z H'
def Wd (op : D → D → (D → Prop) → Prop) : Prop := ∀ d1 d2 k k', (∀ d, k d → k' d) → op d1 d2 k → op d1 d2 k'
structure OpD (X : Cx) (fn : Value → Value → Sem Value) (L : Nat) (op : D → D → (D → Prop) → Prop) : Prop where
 run : OpR X fn (rOp X.K L op)
 mono : Wd op
def dBin (L : Nat) (op : D → D → (D → Prop) → Prop) (ta tb : XE) : XE := fun env Q => ta env fun r1 e1 => tb e1 fun r2 e2 => rd L r1 e2 fun d1 => rd L r2 e2 fun d2 => op d1 d2 fun d => Q (.tmp d) e2
theorem Q3 {L : Nat} {op : D → D → (D → Prop) → Prop} {ta tb : XE} (ho : Wd op) (ha : yw ta) (hb : yw tb) : yw (dBin L op ta tb) := fun env Q Q' h q =>
 ha _ _ _ (fun r1 e1 q => hb _ _ _ (fun r2 e2 q => qL (fun d1 q => qL (fun d2 q => ho _ _ _ _ (fun d q => h _ _ q) q) q) q) q) q
theorem Q4 {K : PySem.W.Frag} {L : Nat} {op : D → D → (D → Prop) → Prop} {ta tb : XE} (ho : Wd op) (ha : yw ta) (hb : yw tb) {σ : L2.St} {H : Hp} {Q : VK} (q : xN K (dBin L op ta tb) σ H Q) :
 tOp (rOp K L op) (xN K ta) (xN K tb) σ H Q := by
 obtain ⟨env, f, A, q⟩ := q
 have h := JX (C := fun r1 r2 e2 => rd L r1 e2 fun d1 => rd L r2 e2 fun d2 => op d1 d2 fun d => _) ha hb A q
 obtain ⟨env1, f1, A1, q1⟩ := h
 refine ⟨env1, f1, A1, ha _ _ _ (fun r1 e1 z => ?_) q1⟩
 intro x H1 f1 g1 a b c d
 obtain ⟨env2, f2, A2, q2⟩ := z x H1 f1 g1 a b c d
 refine ⟨env2, f2, A2, hb _ _ _ (fun r2 e2 z => ?_) q2⟩
 intro y H2 f2 g2 a b c d
 obtain ⟨r1, r2, e2, f2, g1, g2, A2, R1, R2, n, S, Kk, q3⟩ := z y H2 f2 g2 a b c d
 obtain ⟨d1, g1', rp1, q3⟩ := yg A2 R1 q3
 obtain ⟨d2, g2', rp2, q3⟩ := yg A2 R2 q3
 refine ⟨d1, d2, g1', g2', rp1, rp2, ho _ _ _ _ (fun dd q4 => ?_) q3⟩
 intro z H' g rp x
 obtain ⟨A3, R3, S3⟩ := xX A2 S x rp
 exact q4 z H' f2 g A3 R3 S3 Kk
variable {a b c : Expr} {ta tb tc : XE} {pos : Pos} {L : Nat} {op' : D → D → (D → Prop) → Prop}
theorem qK {op : Operator} (ho : OpD X (binaryOp op) L op') (ha : DE X a ta) (hb : DE X b tb) : DE X (.BinOp a op b pos) (dBin L op' ta tb) :=
 ⟨PE.imp (pe_op ho.run ha.run hb.run) fun σ H Q q => Q4 ho.mono ha.mono hb.mono q, Q3 ho.mono ha.mono hb.mono⟩
theorem yD {op : CmpOp} (ho : OpD X (compareOp op) L op') (ha : DE X a ta) (hb : DE X b tb) (hm : behindInMarks op b = false) : DE X (.Compare a [op] [b] pos) (dBin L op' ta tb) :=
 ⟨PE.imp (pe_cmpR ho.run ha.run hb.run hm) fun σ H Q q => Q4 ho.mono ha.mono hb.mono q, Q3 ho.mono ha.mono hb.mono⟩
end
end BX
namespace BX
open PySem PySem.Spec PyProof.Rows L2
structure Ok (X : Cx) : Prop where
 calm : X.calm = true
 un : X.A.units + 100 < cLine
mutual
def D.py : D → PyData
 | .non => .none
 | .bl b => .bool b
 | .int i => .int i
 | .str s => .str s
 | .tup xs => .tuple (pyL xs)
 | .lst xs => .list (pyL xs)
 | .dT _ => .dict []
 | .dK _ => .dict []
 | .dF _ => .dict []
 | .lF xs => .list (pyL xs)
 | .ob _ _ => .dict []
 | .ex _ _ => .dict []
 | .dN _ => .dict []
 | .dG _ => .dict []
 | .op _ => .dict []
def pyL : List D → List PyData
 | [] => []
 | d :: ds => d.py :: pyL ds
end
def deq (a b : D) : Bool := PyData.eqv a.py b.py
def eqOk (a : D) : Bool := SeqAt.shaped a.py
section
variable {K : PySem.W.Frag} {H : Hp} {lv : Nat}
mutual
theorem Rep.dp : ∀ {d : D} {v : V} {f : List Addr}, Rep K H lv d v f → d.py.canLay0 = true → Dp K H v d.py
 | _, _, _, .non, _ => by rw [D.py]; exact .non
 | _, _, _, .bl b, _ => by rw [D.py]; exact .bl b
 | _, _, _, .int i, _ => by rw [D.py]; exact .int i
 | _, _, _, .str s, _ => by rw [D.py]; exact .str s
 | _, _, _, .tup h r, e => by
   rw [D.py] at e ⊢
   exact .tup (.inl (.inl h)) (Reps.dp r (by simpa [PyData.canLay0] using e))
 | _, _, _, .tupK l h r, e => by
   rw [D.py] at e ⊢
   exact .tup h.sq (Reps.dp r (by simpa [PyData.canLay0] using e))
 | _, _, _, .lst h r n, e => by
   rw [D.py] at e ⊢
   exact .lst (.inl (.inl h)) (Reps.dp r (by simpa [PyData.canLay0] using e))
 | _, _, _, .lstF l h r, e => by
   rw [D.py] at e ⊢
   exact .lst h.sq (Reps.dp r (by simpa [PyData.canLay0] using e))
 | _, _, _, .dT h e' nd r n, e => by rw [D.py] at e; simp [PyData.canLay0] at e
 | _, _, _, .dTF l h e' nd r, e => by rw [D.py] at e; simp [PyData.canLay0] at e
 | _, _, _, .dF h e' nd r, e => by rw [D.py] at e; simp [PyData.canLay0] at e
 | _, _, _, .ob h c e' r n, e => by rw [D.py] at e; simp [PyData.canLay0] at e
 | _, _, _, .lF h r, e => by
   rw [D.py] at e ⊢
   exact .lst (.inl (.inr ⟨_, h⟩)) (Reps.dp r (by simpa [PyData.canLay0] using e))
 | _, _, _, .dK h e' nd r n, e => by rw [D.py] at e; simp [PyData.canLay0] at e
 | _, _, _, .dG h e' nd r, e => by rw [D.py] at e; simp [PyData.canLay0] at e
 | _, _, _, .dN h e' nd kk r n, e => by rw [D.py] at e; simp [PyData.canLay0] at e
 | _, _, _, .ex h c e' z, e => by rw [D.py] at e; simp [PyData.canLay0] at e
 | _, _, _, .opN v, e => by rw [D.py] at e; simp [PyData.canLay0] at e
 | _, _, _, .opF h, e => by rw [D.py] at e; simp [PyData.canLay0] at e
theorem Reps.dp : ∀ {ds : List D} {vs : List V} {f : List Addr}, Reps K H lv ds vs f → PyData.canLayAll0 (pyL ds) = true → DpAll K H vs (pyL ds)
 | _, _, _, .nil, _ => by rw [pyL]; exact .nil
 | _, _, _, .cons r t n, e => by
   rw [pyL] at e ⊢
   rw [PyData.canLayAll0, Bool.and_eq_true] at e
   have e' := e
   exact .cons (Rep.dp r e'.1) (Reps.dp t e'.2)
end
theorem Rep.eqd {d : D} {v : V} {f : List Addr} (r : Rep K H lv d v f) (e : eqOk d = true) : Dp K H v d.py ∧ SeqAt.shaped d.py = true := ⟨r.dp (SeqAt.canLay_of_shaped e), e⟩
end
abbrev OP := D → D → (D → Prop) → Prop
def opEq : OP := fun a b k => eqOk a = true ∧ eqOk b = true ∧ k (.bl (deq a b))
def opNe : OP := fun a b k => eqOk a = true ∧ eqOk b = true ∧ k (.bl (!deq a b))
def Zd (g : Int → Int → D) : OP := fun a b k => match a, b with
 | .int i, .int j => k (g i j)
 | _, _ => False
def vX (C : Int → Int → Prop) (g : Int → Int → D) : OP := fun a b k => match a, b with
 | .int i, .int j => C i j ∧ k (g i j)
 | _, _ => False
def wH : OP := fun a b k => match a, b with
 | .int i, .int j => k (.int (i + j))
 | .str i, .str j => i.length + j.length ≤ sizeLine ∧ k (.str (i ++ j))
 | .lst xs, .lst ys => immL xs = true ∧ immL ys = true ∧ xs.length + ys.length ≤ sizeLine ∧ k (.lst (xs ++ ys))
 | .tup xs, .tup ys => immL xs = true ∧ immL ys = true ∧ xs.length + ys.length ≤ sizeLine ∧ k (.tup (xs ++ ys))
 | .lF xs, .lst ys => immL xs = true ∧ immL ys = true ∧ xs.length + ys.length ≤ sizeLine ∧ k (.lst (xs ++ ys))
 | .lst xs, .lF ys => immL xs = true ∧ immL ys = true ∧ xs.length + ys.length ≤ sizeLine ∧ k (.lst (xs ++ ys))
 | .lF xs, .lF ys => immL xs = true ∧ immL ys = true ∧ xs.length + ys.length ≤ sizeLine ∧ k (.lst (xs ++ ys))
 | _, _ => False
def QL : OP := fun a b k => match a, b with
 | .int i, .int j => IntMulOk i j ∧ k (.int (i * j))
 | .lst xs, .int j => immL xs = true ∧ -(2 ^ 63) ≤ j ∧ j < 2 ^ 63 ∧ xs.length * j.toNat ≤ sizeLine ∧ k (.lst (List.replicate j.toNat xs).flatten)
 | _, _ => False
abbrev qbi : OP := Zd fun i j => .int (i - j)
abbrev Wf : OP := vX (fun _ j => 0 < j) fun i j => .int (i % j)
abbrev qd8 : OP := vX CDiv fun i j => .int (i / j)
abbrev qd7 : OP := vX CPow fun i j => .int (i ^ j.toNat)
abbrev opGt : OP := Zd fun i j => .bl (decide (j < i))
abbrev opGe : OP := Zd fun i j => .bl (decide (j ≤ i))
abbrev opLe : OP := Zd fun i j => .bl (decide (i ≤ j))
def intL : List D → Option (List Int)
 | [] => some []
 | .int i :: ds => (intL ds).map (i :: ·)
 | _ :: _ => none
def opLt : OP := fun a b k => match a, b with
 | .int i, .int j => k (.bl (decide (i < j)))
 | .tup xs, .tup ys => match intL xs, intL ys with
   | some ns, some ms => k (.bl (HT.lexLt ns ms))
   | _, _ => False
 | _, _ => False
def isNon : D → Bool
 | .non => true
 | _ => false
def opIs : OP := fun a b k => match a, b with
 | a, .non => k (.bl (isNon a))
 | .bl i, .bl j => k (.bl (decide (i = j)))
 | _, _ => False
def jD : OP := fun a b k => match a, b with
 | a, .non => k (.bl (!isNon a))
 | .bl i, .bl j => k (.bl (!decide (i = j)))
 | _, _ => False
def dKey : D → Option Key
 | .int i => some (.inl i)
 | .str s => some (.inr s)
 | _ => none
def jy : List D → Option (List Key)
 | [] => some []
 | d :: ds => match dKey d, jy ds with
   | some k, some ks => some (k :: ks)
   | _, _ => none
def hasT (kvs : List (List Key × D)) (k : List Key) : Bool := kvs.any fun p => decide (p.1 = k)
def hasK (kvs : List (Key × D)) (k : Key) : Bool := kvs.any fun p => decide (p.1 = k)
def findIn (a : D) : List D → Bool
 | [] => false
 | d :: ds => deq d a || findIn a ds
def v7 (n : Bool) : OP := fun a b k => match b with
 | .dT kvs => match a with
   | .tup ds => match jy ds with
     | some ks => k (.bl (n != hasT kvs ks))
     | none => False
   | _ => False
 | .dK kvs => match dKey a with
   | some ky => k (.bl (n != hasK kvs ky))
   | none => False
 | .lst ds => eqOk a = true ∧ eqOk (.lst ds) = true ∧ k (.bl (n != findIn a ds))
 | .lF ds => eqOk a = true ∧ eqOk (.lF ds) = true ∧ k (.bl (n != findIn a ds))
 | .tup ds => eqOk a = true ∧ eqOk (.tup ds) = true ∧ k (.bl (n != findIn a ds))
 | .str s => match a with
   | .str t => k (.bl (n != !(Builtin.Str.occurrences s t 0 s.length 1).isEmpty))
   | _ => False
 | _ => False
abbrev opIn := v7 false
abbrev Y6 := v7 true
section
variable {K : PySem.W.Frag} {H : Hp} {lv : Nat}
theorem Reps.intL : ∀ {ds : List D} {vs : List V} {f : List Addr} {ns : List Int}, Reps K H lv ds vs f → BX.intL ds = some ns → vs = ns.map V.int
 | _, _, _, _, .nil, e => by
   rw [BX.intL] at e; cases e; rfl
 | _, _, _, ns, .cons (d := d) (ds := ds) r t _, e => by
   cases r with
   | int i =>
     rw [BX.intL] at e
     obtain ⟨ms, h1, h2⟩ := Option.map_eq_some_iff.mp e
     subst h2
     rw [Reps.intL t h1]
     rfl
   | _ => rw [BX.intL] at e <;> first | (cases e) | (intro i z; cases z)
theorem Rep.dKey {d : D} {v : V} {f : List Addr} {k : Key} (r : Rep K H lv d v f) (e : BX.dKey d = some k) : v = kV k := by
 cases r with
 | int i => rw [BX.dKey] at e; cases e; rfl
 | str s => rw [BX.dKey] at e; cases e; rfl
 | _ => rw [BX.dKey] at e <;> first | (cases e) | (intro i z; cases z)
theorem Reps.jy : ∀ {ds : List D} {vs : List V} {f : List Addr} {ks : List Key}, Reps K H lv ds vs f → BX.jy ds = some ks → vs = ks.map kV
 | _, _, _, _, .nil, e => by
   rw [BX.jy] at e; cases e; rfl
 | _, _, _, ns, .cons (d := d) (ds := ds) r t _, e => by
   rw [BX.jy] at e
   split at e
   ·rename_i k ks h1 h2
    cases e
    rw [r.dKey h1, Reps.jy t h2]
    rfl
   ·cases e
end
section
variable {κ : Type} [DecidableEq κ]
theorem WY : ∀ {hs : List (κ × V)} {kvs : List (κ × D)} {k : κ}, hs.map (·.1) = kvs.map (·.1) → (valV hs k).isSome = kvs.any fun p => decide (p.1 = k)
 | [], [], _, _ => rfl
 | [], _ :: _, _, e => by simp at e
 | _ :: _, [], _, e => by simp at e
 | p :: hs, q :: kvs, k, e => by
   rw [List.map_cons, List.map_cons, List.cons.injEq] at e
   rw [List.any_cons, ← e.1]
   by_cases h : p.1 = k
   ·rw [valV_pos h, decide_eq_true h]; rfl
   ·rw [valV_neg h, decide_eq_false h, Bool.false_or]; exact WY e.2
end
theorem xq (a : D) : ∀ ds : List D, findIn a ds = (pyL ds).any fun z => PyData.eqv z a.py
 | [] => by rw [pyL]; rfl
 | d :: ds => by rw [pyL, List.any_cons, findIn, xq a ds]; rfl
section
variable {X : Cx}
theorem OpD.mk' {fn : Value → Value → Sem Value} {L : Nat} {op : OP} (run : ∀ (pins : List (Addr × Obj)) (s : Shared) (σ : L2.St) (H : Hp) (x y : V) (v u : Value) (Q : VK) (d1 d2 : D) (g1 g2 : List Addr), Inv X pins σ H s → RelV x v → RelV y u →
 Rep X.K H L d1 x g1 → Rep X.K H L d2 y g2 → (op d1 d2 fun d => ∀ z H' g, Rep X.K H' 0 d z g → Ext H H' g → Q z H') → wpAny (model X.prog X.w) X.A (fn v u) (EP X pins σ Q) X.xe s) (mono : Wd op) : OpD X fn L op :=
 ⟨fun pins s σ H x y v u Q I rx ry ⟨d1, d2, g1, g2, r1, r2, q⟩ => run pins s σ H x y v u Q d1 d2 g1 g2 I rx ry r1 r2 q, mono⟩
theorem qbn {g : Int → Int → D} : Wd (Zd g) := fun a b k k' h q => by
 unfold Zd at q ⊢
 split at q
 ·exact h _ q
 ·exact q.elim
theorem qab {C : Int → Int → Prop} {g : Int → Int → D} : Wd (vX C g) := fun a b k k' h q => by
 unfold vX at q ⊢
 split at q
 ·exact ⟨q.1, h _ q.2⟩
 ·exact q.elim
theorem Jg {fn : Value → Value → Sem Value} {g : Int → Int → D} {gv : Int → Int → V} (h : OpR X fn (rI0 gv)) (hg : ∀ i j H, Rep X.K H 0 (g i j) (gv i j) []) : OpD X fn 2 (Zd g) := .mk' (fun pins s σ H x y v u Q d1 d2 g1 g2 I rx ry r1 r2 q => by
 unfold Zd at q
 split at q
 ·obtain ⟨rfl, _⟩ := r1.intV
  obtain ⟨rfl, _⟩ := r2.intV
  exact h pins s σ H _ _ v u Q I rx ry ⟨_, _, rfl, rfl, q _ _ [] (hg _ _ _) .refl⟩
 ·exact q.elim) qbn
theorem Y8 {fn : Value → Value → Sem Value} {C : Int → Int → Prop} {g : Int → Int → D} {gv : Int → Int → V} (h : OpR X fn (rI C gv)) (hg : ∀ i j H, Rep X.K H 0 (g i j) (gv i j) []) : OpD X fn 2 (vX C g) := .mk' (fun pins s σ H x y v u Q d1 d2 g1 g2 I rx ry r1 r2 q => by
 unfold vX at q
 split at q
 ·obtain ⟨rfl, _⟩ := r1.intV
  obtain ⟨rfl, _⟩ := r2.intV
  exact h pins s σ H _ _ v u Q I rx ry ⟨_, _, rfl, rfl, q.1, q.2 _ _ [] (hg _ _ _) .refl⟩
 ·exact q.elim) qab
theorem qbO : OpD X (binaryOp .Sub) 2 qbi := Jg op_sub fun _ _ _ => .int _
theorem uW : OpD X (binaryOp .Mod) 2 Wf := Y8 op_mod fun _ _ _ => .int _
theorem qeb : OpD X (binaryOp .FloorDiv) 2 qd8 := Y8 op_fdiv fun _ _ _ => .int _
theorem qea : OpD X (binaryOp .Pow) 2 qd7 := Y8 op_pow fun _ _ _ => .int _
theorem Ut : OpD X (compareOp .Gt) 2 opGt := Jg op_gt fun _ _ _ => .bl _
theorem qf2 : OpD X (compareOp .GtE) 2 opGe := Jg op_ge fun _ _ _ => .bl _
theorem qbk : OpD X (compareOp .LtE) 2 opLe := Jg op_le fun _ _ _ => .bl _
theorem Qt {H : Hp} {p : Addr} {ds : List D} {vs : List V} (h : H p = none) (r : Reps X.K H 0 ds vs []) : Rep X.K (L2.upd H p (.lst vs)) 0 (.lst ds) (.ref p) [p] :=
 .lst upd_same (r.keep fun b o e _ => (Ext.upd h).same b o e) (fun _ => by simp)
theorem Qs {H : Hp} {p : Addr} {ds : List D} {vs : List V} {f : List Addr} (h : H p = none) (r : Reps X.K H 0 ds vs f) : Rep X.K (L2.upd H p (.tup vs)) 0 (.tup ds) (.ref p) f :=
 .tup upd_same (r.keep fun b o e _ => (Ext.upd h).same b o e)
theorem Ext.updT {H : Hp} {p : Addr} {o : HO} (h : H p = none) : Ext H (L2.upd H p o) [] := (Ext.upd h).drop ql
def LsF (H : Hp) (a : Addr) (vs : List V) : Prop := H a = some (.lst vs) ∨ ∃ o, H a = some (.frz o (.lst vs))
theorem LsF.at {pins : List (Addr × Obj)} {s : Shared} {σ : L2.St} {H : Hp} {a : Addr} {vs : List V} (I : Inv X pins σ H s) (h : LsF H a vs) : ∃ (its : List Value) (n : Nat), Vals vs its ∧ s.heap.get? a = some { cls := .type "list", data := .seq its.toArray n } := by
 rcases h with h | ⟨o, h⟩
 ·obtain ⟨_, its, n, r, e⟩ := I.hok a _ h
  exact ⟨its, n, r, e⟩
 ·obtain ⟨_, _, its, n, r, e⟩ := I.hok a _ h
  exact ⟨its, n, r, e⟩
theorem Rep.lFLs {K : PySem.W.Frag} {H : Hp} {lv : Nat} {ds : List D} {v : V} {f : List Addr} (r : Rep K H lv (.lF ds) v f) : ∃ a vs, v = .ref a ∧ LsF H a vs ∧ Reps K H lv ds vs f := by
 cases r with
 | lF h r => exact ⟨_, _, rfl, .inr ⟨_, h⟩, r⟩
theorem Zw {pins : List (Addr × Obj)} {s : Shared} {σ : L2.St} {H : Hp} {a b : Addr} {v u : Value} {Q : VK} {vs ws : List V} {xs ys : List D} {f g : List Addr} (I : Inv X pins σ H s) (rx : RelV (.ref a) v) (ry : RelV (.ref b) u) (ha : LsF H a vs) (hb : LsF H b ws)
 (ra : Reps X.K H 1 xs vs f) (rb : Reps X.K H 1 ys ws g) (i1 : immL xs = true) (i2 : immL ys = true) (z : xs.length + ys.length ≤ sizeLine) (q : ∀ z H' g, Rep X.K H' 0 (.lst (xs ++ ys)) z g → Ext H H' g → Q z H') : wpAny (model X.prog X.w) X.A (binaryOp .Add v u) (EP X pins σ Q) X.xe s := by
 obtain ⟨_, ra'⟩ := ra.imm (Nat.le_refl _) i1
 obtain ⟨_, rb'⟩ := rb.imm (Nat.le_refl _) i2
 cases rx
 cases ry
 obtain ⟨i, n, r1, p1⟩ := ha.at I
 obtain ⟨j, m, r2, p2⟩ := hb.at I
 have l1 := r1.length
 have l2 := r2.length
 have l3 := ra.len
 have l4 := rb.len
 refine PySem.P.add_list p1 p2 ?_ (by simp only [List.size_toArray]; omega)
 have e : i.toArray ++ j.toArray = (i ++ j).toArray := by simp
 rw [e]
 exact ⟨.ref _, _, I.lnew (t' := s.toks) (r1.append r2) (by rw [List.length_append]; omega), rfl, q _ _ _ (Qt I.fresh (ra'.append rb' fun _ b hb => by simp at hb)) (.upd I.fresh)⟩
theorem qY : OpD X (binaryOp .Add) 1 wH := .mk' (fun pins s σ H x y v u Q d1 d2 g1 g2 I rx ry r1 r2 q => by
 unfold wH at q
 split at q
 ·obtain ⟨rfl, _⟩ := r1.intV
  obtain ⟨rfl, _⟩ := r2.intV
  exact op_add pins s σ H _ _ v u Q I rx ry ⟨_, _, rfl, rfl, q _ _ [] (.int _) .refl⟩
 ·obtain ⟨rfl, _⟩ := r1.strV
  obtain ⟨rfl, _⟩ := r2.strV
  exact op_add_str pins s σ H _ _ v u Q I rx ry ⟨_, _, rfl, rfl, q.1, q.2 _ _ [] (.str _) .refl⟩
 ·obtain ⟨i1, i2, z, q⟩ := q
  obtain ⟨a, vs, ga, rfl, ha, ra, _⟩ := r1.listAt1 (Nat.le_refl _)
  obtain ⟨b, ws, gb, rfl, hb, rb, _⟩ := r2.listAt1 (Nat.le_refl _)
  obtain ⟨_, ra'⟩ := ra.imm (Nat.le_refl _) i1
  obtain ⟨_, rb'⟩ := rb.imm (Nat.le_refl _) i2
  refine op_cat pins s σ H _ _ v u Q I rx ry ⟨_, _, _, _, rfl, rfl, ha, hb, by rw [← ra.len, ← rb.len]; exact z, fun p hp => q _ _ _ (Qt hp (ra'.append rb' fun _ b hb => by simp at hb)) (.upd hp)⟩
 ·obtain ⟨i1, i2, z, q⟩ := q
  obtain ⟨a, vs, rfl, ha, ra⟩ := r1.tupleSq
  obtain ⟨b, ws, rfl, hb, rb⟩ := r2.tupleSq
  obtain ⟨_, ra'⟩ := ra.imm (Nat.le_refl _) i1
  obtain ⟨_, rb'⟩ := rb.imm (Nat.le_refl _) i2
  refine op_catA pins s σ H _ _ v u Q I rx ry ⟨_, _, _, _, rfl, rfl, ha, hb, by rw [← ra.len, ← rb.len]; exact z, fun e => ?_, fun _ e => ?_, fun e1 e2 p hp => q _ _ _ (Qs hp (ra'.append rb' fun _ b hb => by simp at hb)) (.updT hp)⟩
  ·subst e
   have : _ = [] := List.eq_nil_of_length_eq_zero (ra.len.trans rfl)
   subst this
   exact q _ _ [] (r2.imm (Nat.le_refl _) (by rw [D.imm]; exact i2)).2 .refl
  ·subst e
   have : _ = [] := List.eq_nil_of_length_eq_zero (rb.len.trans rfl)
   subst this
   rw [List.append_nil] at q
   exact q _ _ [] (r1.imm (Nat.le_refl _) (by rw [D.imm]; exact i1)).2 .refl
 ·obtain ⟨i1, i2, z, q⟩ := q
  obtain ⟨a, vs, rfl, ha, ra⟩ := r1.lFLs
  obtain ⟨b, ws, gb, rfl, hb, rb, _⟩ := r2.listAt1 (Nat.le_refl _)
  exact Zw I rx ry ha (.inl hb) ra rb i1 i2 z q
 ·obtain ⟨i1, i2, z, q⟩ := q
  obtain ⟨a, vs, ga, rfl, ha, ra, _⟩ := r1.listAt1 (Nat.le_refl _)
  obtain ⟨b, ws, rfl, hb, rb⟩ := r2.lFLs
  exact Zw I rx ry (.inl ha) hb ra rb i1 i2 z q
 ·obtain ⟨i1, i2, z, q⟩ := q
  obtain ⟨a, vs, rfl, ha, ra⟩ := r1.lFLs
  obtain ⟨b, ws, rfl, hb, rb⟩ := r2.lFLs
  exact Zw I rx ry ha hb ra rb i1 i2 z q
 ·exact q.elim) (fun a b k k' h q => by
 unfold wH at q ⊢
 split at q
 ·exact h _ q
 ·exact ⟨q.1, h _ q.2⟩
 ·exact ⟨q.1, q.2.1, q.2.2.1, h _ q.2.2.2⟩
 ·exact ⟨q.1, q.2.1, q.2.2.1, h _ q.2.2.2⟩
 ·exact ⟨q.1, q.2.1, q.2.2.1, h _ q.2.2.2⟩
 ·exact ⟨q.1, q.2.1, q.2.2.1, h _ q.2.2.2⟩
 ·exact ⟨q.1, q.2.1, q.2.2.1, h _ q.2.2.2⟩
 ·exact q.elim)
theorem qcL : OpR X (binaryOp .Mult) (rI IntMulOk fun i j => .int (i * j)) := opI fun _ _ _ _ _ _ _ hc q => mul_int q hc
theorem X4 {K : PySem.W.Frag} {H : Hp} {ds : List D} {vs : List V} (r : Reps K H 0 ds vs []) : ∀ n : Nat, Reps K H 0 (List.replicate n ds).flatten (List.replicate n vs).flatten []
 | 0 => by
   rw [List.replicate_zero, List.replicate_zero]; exact .nil
 | n + 1 => by
   rw [List.replicate_succ, List.replicate_succ, List.flatten_cons, List.flatten_cons]
   exact r.append (f := []) (g := []) (X4 r n) fun _ b hb => by simp at hb
theorem Wy : OpD X (binaryOp .Mult) 1 QL := .mk' (fun pins s σ H x y v u Q d1 d2 g1 g2 I rx ry r1 r2 q => by
 unfold QL at q
 split at q
 ·obtain ⟨rfl, _⟩ := r1.intV
  obtain ⟨rfl, _⟩ := r2.intV
  exact qcL pins s σ H _ _ v u Q I rx ry ⟨_, _, rfl, rfl, q.1, q.2 _ _ [] (.int _) .refl⟩
 ·obtain ⟨i1, z1, z2, z3, q⟩ := q
  obtain ⟨a, vs, ga, rfl, ha, ra, _⟩ := r1.listAt1 (Nat.le_refl _)
  obtain ⟨rfl, _⟩ := r2.intV
  obtain ⟨_, ra'⟩ := ra.imm (Nat.le_refl _) i1
  exact op_rep pins s σ H _ _ v u Q I rx ry ⟨_, _, _, rfl, rfl, ha, z1, z2, by rw [← ra.len]; exact z3, fun p hp => q _ _ _ (Qt hp (X4 ra' _)) (.upd hp)⟩
 ·exact q.elim) (fun a b k k' h q => by
 unfold QL at q ⊢
 split at q
 ·exact ⟨q.1, h _ q.2⟩
 ·exact ⟨q.1, q.2.1, q.2.2.1, q.2.2.2.1, h _ q.2.2.2.2⟩
 ·exact q.elim)
variable (hx : Ok X)
include hx
theorem jE : OpD X (compareOp .Eq) 2 opEq := .mk' (fun pins s σ H x y v u Q d1 d2 g1 g2 I rx ry r1 r2 q => by
 obtain ⟨a1, b1⟩ := r1.eqd q.1
 obtain ⟨a2, b2⟩ := r2.eqd q.2.1
 exact op_eqD (by have := hx.un; omega) pins s σ H _ _ v u Q I rx ry ⟨_, _, a1, a2, b1, b2, q.2.2 _ _ [] (.bl _) .refl⟩) (fun a b k k' h q => ⟨q.1, q.2.1, h _ q.2.2⟩)
theorem Wh : OpD X (compareOp .NotEq) 2 opNe := .mk' (fun pins s σ H x y v u Q d1 d2 g1 g2 I rx ry r1 r2 q => by
 obtain ⟨a1, b1⟩ := r1.eqd q.1
 obtain ⟨a2, b2⟩ := r2.eqd q.2.1
 exact op_neD (by have := hx.un; omega) pins s σ H _ _ v u Q I rx ry ⟨_, _, a1, a2, b1, b2, q.2.2 _ _ [] (.bl _) .refl⟩) (fun a b k k' h q => ⟨q.1, q.2.1, h _ q.2.2⟩)
theorem qf1 : OpD X (compareOp .Lt) 2 opLt := .mk' (fun pins s σ H x y v u Q d1 d2 g1 g2 I rx ry r1 r2 q => by
 unfold opLt at q
 split at q
 ·obtain ⟨rfl, _⟩ := r1.intV
  obtain ⟨rfl, _⟩ := r2.intV
  exact op_lt pins s σ H _ _ v u Q I rx ry ⟨_, _, rfl, rfl, q _ _ [] (.bl _) .refl⟩
 ·split at q
  ·rename_i e1 e2
   obtain ⟨a, vs, rfl, ha, ra⟩ := r1.tupleSq
   obtain ⟨b, ws, rfl, hb, rb⟩ := r2.tupleSq
   rw [ra.intL e1] at ha
   rw [rb.intL e2] at hb
   exact op_ltT (by have := hx.un; omega) pins s σ H _ _ v u Q I rx ry ⟨_, _, _, _, rfl, rfl, ha, hb, q _ _ [] (.bl _) .refl⟩
  ·exact q.elim
 ·exact q.elim) (fun a b k k' h q => by
 unfold opLt at q ⊢
 split at q
 ·exact h _ q
 ·split at q
  ·simp only [*] <;> exact h _ q
  ·exact q.elim
 ·exact q.elim)
omit hx in
theorem Rep.isNon {K : PySem.W.Frag} {H : Hp} {lv : Nat} {d : D} {v : V} {f : List Addr} (r : Rep K H lv d v f) : decide (v = .non) = BX.isNon d := by
 cases r <;> simp [BX.isNon]
omit hx in
theorem qcN : OpD X (compareOp .Is) 2 opIs := .mk' (fun pins s σ H x y v u Q d1 d2 g1 g2 I rx ry r1 r2 q => by
 unfold opIs at q
 split at q
 ·obtain ⟨rfl, _⟩ := r2.nonV
  exact op_isN pins s σ H _ _ v u Q I rx ry ⟨rfl, by rw [r1.isNon]; exact q _ _ [] (.bl _) .refl⟩
 ·obtain ⟨rfl, _⟩ := r1.blV
  obtain ⟨rfl, _⟩ := r2.blV
  exact op_is_bl pins s σ H _ _ v u Q I rx ry ⟨_, _, rfl, rfl, q _ _ [] (.bl _) .refl⟩
 ·exact q.elim) (fun a b k k' h q => by
 unfold opIs at q ⊢
 split at q
 ·exact h _ q
 ·exact h _ q
 ·exact q.elim)
omit hx in
theorem qac {n : Bool} : Wd (v7 n) := fun a b k k' h q => by
 unfold v7 at q ⊢
 split at q
 ·split at q
  ·split at q
   ·simp only [*] <;> exact h _ q
   ·exact q.elim
  ·exact q.elim
 ·split at q
  ·simp only [*] <;> exact h _ q
  ·exact q.elim
 ·exact ⟨q.1, q.2.1, h _ q.2.2⟩
 ·exact ⟨q.1, q.2.1, h _ q.2.2⟩
 ·exact ⟨q.1, q.2.1, h _ q.2.2⟩
 ·split at q
  ·exact h _ q
  ·exact q.elim
 ·exact q.elim
theorem qbZ {n : Bool} {pins : List (Addr × Obj)} {s : Shared} {σ : L2.St} {H : Hp} {x y : V} {v u : Value} {Q : VK} {d1 d2 : D} {g1 g2 : List Addr} (I : Inv X pins σ H s) (rx : RelV x v) (ry : RelV y u) (r1 : Rep X.K H 1 d1 x g1) (r2 : Rep X.K H 1 d2 y g2)
 (q : v7 n d1 d2 fun d => ∀ z H' g, Rep X.K H' 0 d z g → Ext H H' g → Q z H') : wpAny (model X.prog X.w) X.A (compareOp (if n then .NotIn else .In) v u) (EP X pins σ Q) X.xe s := by
 have hu := hx.un
 unfold v7 at q
 split at q
 ·rename_i kvs
  split at q
  ·rename_i ds
   split at q
   ·rename_i ks e
    obtain ⟨a, vs, rfl, ha, ra⟩ := r1.tupleAt (Nat.le_refl _)
    rw [ra.jy e] at ha
    cases r2 with
    | @dT b hs kvs f hb he nd r nn =>
      cases ry
      have q' := q (.bl (n != hasT kvs ks)) H [] (.bl _) .refl
      have e2 := WY (k := ks) he
      cases n with
      | false => exact d_in (by omega) I (DGet.t hb ha) rx fun s' I' => ⟨.bl _, H, I', rfl, by rw [e2]; simpa [hasT] using q'⟩
      | true => exact d_notIn (by omega) I (DGet.t hb ha) rx fun s' I' => ⟨.bl _, H, I', rfl, by rw [e2]; simpa [hasT] using q'⟩
    | dTF l _ _ _ _ => exact absurd l (by omega)
   ·exact q.elim
  ·exact q.elim
 ·rename_i kvs
  split at q
  ·rename_i ky e
   obtain rfl := r1.dKey e
   cases r2 with
   | @dK b hs kvs f hb he nd r nn =>
     cases ry
     have q' := q (.bl (n != hasK kvs ky)) H [] (.bl _) .refl
     have e2 := WY (k := ky) he
     cases n with
     | false => exact d_in (by omega) I (DGet.k hb) rx fun s' I' => ⟨.bl _, H, I', rfl, by rw [e2]; simpa [hasK] using q'⟩
     | true => exact d_notIn (by omega) I (DGet.k hb) rx fun s' I' => ⟨.bl _, H, I', rfl, by rw [e2]; simpa [hasK] using q'⟩
  ·exact q.elim
 ·rename_i ds
  obtain ⟨a1, b1⟩ := r1.eqd q.1
  obtain ⟨a2, b2⟩ := r2.eqd q.2.1
  have q' := q.2.2 _ _ [] (.bl _) .refl
  rw [D.py] at a2 b2
  cases n with
  | false => exact op_inD (by omega) pins s σ H _ _ v u Q I rx ry ⟨_, _, a1, a2, b1, b2, by rw [xq] at q'; simpa using q'⟩
  | true => exact op_notInD (by omega) pins s σ H _ _ v u Q I rx ry ⟨_, _, a1, a2, b1, b2, by rw [xq] at q'; simpa using q'⟩
 ·rename_i ds
  obtain ⟨a1, b1⟩ := r1.eqd q.1
  obtain ⟨a2, b2⟩ := r2.eqd q.2.1
  have q' := q.2.2 _ _ [] (.bl _) .refl
  rw [D.py] at a2 b2
  cases n with
  | false => exact op_inD (by omega) pins s σ H _ _ v u Q I rx ry ⟨_, _, a1, a2, b1, b2, by rw [xq] at q'; simpa using q'⟩
  | true => exact op_notInD (by omega) pins s σ H _ _ v u Q I rx ry ⟨_, _, a1, a2, b1, b2, by rw [xq] at q'; simpa using q'⟩
 ·rename_i ds
  obtain ⟨a1, b1⟩ := r1.eqd q.1
  obtain ⟨a2, b2⟩ := r2.eqd q.2.1
  have q' := q.2.2 _ _ [] (.bl _) .refl
  rw [D.py] at a2 b2
  rw [xq] at q'
  obtain ⟨as, t1⟩ := Dp.reads I _ x v a1 rx
  obtain ⟨bs, t2⟩ := Dp.reads I _ y u a2 ry
  have hu2 : X.A.units + 65 < cLine := by omega
  cases n with
  | false => exact SeqAt.in_tuple_reads t2 t1 (SeqAt.canLay_of_shaped b2) (SeqAt.canLay_of_shaped b1) (room_in_shaped b1 hu2) ⟨.bl _, H, I, rfl, by simpa using q'⟩
  | true => exact SeqAt.notIn_tuple_reads t2 t1 (SeqAt.canLay_of_shaped b2) (SeqAt.canLay_of_shaped b1) (room_in_shaped b1 hu2) ⟨.bl _, H, I, rfl, by simpa using q'⟩
 ·split at q
  ·obtain ⟨rfl, _⟩ := r1.strV
   obtain ⟨rfl, _⟩ := r2.strV
   have q' := q _ _ [] (.bl _) .refl
   cases n with
   | false => exact op_in_str pins s σ H _ _ v u Q I rx ry ⟨_, _, rfl, rfl, by simpa using q'⟩
   | true => exact op_notin_str pins s σ H _ _ v u Q I rx ry ⟨_, _, rfl, rfl, by simpa using q'⟩
  ·exact q.elim
 ·exact q.elim
theorem qcO : OpD X (compareOp .In) 1 opIn := .mk' (fun pins s σ H x y v u Q d1 d2 g1 g2 I rx ry r1 r2 q => qbZ (n := false) hx I rx ry r1 r2 q) qac
theorem qbj : OpD X (compareOp .NotIn) 1 Y6 := .mk' (fun pins s σ H x y v u Q d1 d2 g1 g2 I rx ry r1 r2 q => qbZ (n := true) hx I rx ry r1 r2 q) qac
end
end BX
namespace BX
open PySem PySem.Spec PyProof.Rows L2
def tru (d : D) (k : Bool → Prop) : Prop := match d with
 | .non => k false
 | .bl b => k b
 | .int i => k (i != 0)
 | .str s => s.length ≤ sizeLine ∧ k ((s.length : Int) != 0)
 | .lst xs => k (!xs.isEmpty)
 | .tup xs => k (!xs.isEmpty)
 | .dK kvs => k (!kvs.isEmpty)
 | .dT _ => False
 | .dF _ => False
 | .lF xs => k (!xs.isEmpty)
 | .ob _ _ => False
 | .ex _ _ => False
 | .dN _ => False
 | .dG _ => False
 | .op _ => False
theorem j8 {d : D} {k k' : Bool → Prop} (h : ∀ b, k b → k' b) (q : tru d k) : tru d k' := by
 cases d with
 | str s => exact ⟨q.1, h _ q.2⟩
 | dT _ => exact q.elim
 | dF _ => exact q.elim
 | ob _ _ => exact q.elim
 | ex _ _ => exact q.elim
 | dN _ => exact q.elim
 | dG _ => exact q.elim
 | op _ => exact q.elim
 | _ => exact h _ q
section
variable {K : PySem.W.Frag} {H : Hp} {lv : Nat}
theorem yM {α β : Type} {xs : List α} {ys : List β} (h : xs.length = ys.length) : xs.isEmpty = ys.isEmpty := by
 cases xs <;> cases ys <;> simp at h ⊢
theorem Rep.tru {d : D} {v : V} {f : List Addr} {k : Bool → Prop} (r : Rep K H lv d v f) (q : BX.tru d k) : ∃ b, TruV K v H b ∧ k b := by
 cases r with
 | non => exact ⟨false, rfl, q⟩
 | bl b => exact ⟨b, rfl, q⟩
 | int i => exact ⟨_, rfl, q⟩
 | str s => exact ⟨_, ⟨q.1, rfl⟩, q.2⟩
 | tup h r => exact ⟨_, .inr (.inl ⟨_, .inl (.inl h), by rw [yM r.len]⟩), q⟩
 | tupK l h r => exact ⟨_, .inr (.inl ⟨_, h.sq, by rw [yM r.len]⟩), q⟩
 | lst h r n => exact ⟨_, .inl ⟨_, .inl (.inl h), by rw [yM r.len]⟩, q⟩
 | lstF l h r => exact ⟨_, .inl ⟨_, h.sq, by rw [yM r.len]⟩, q⟩
 | dT h e nd r n => exact q.elim
 | dTF l h e nd r => exact q.elim
 | dF h e nd r => exact q.elim
 | ob h c e r n => exact q.elim
 | ex h c e z => exact q.elim
 | dN h e nd kk r n => exact q.elim
 | dG h e nd r => exact q.elim
 | opN v => exact q.elim
 | opF h => exact q.elim
 | lF h r => exact ⟨_, .inl ⟨_, .inl (.inr ⟨_, h⟩), by rw [yM r.len]⟩, q⟩
 | @dK a hs kvs f h e nd r n => exact ⟨_, .inr (.inr ⟨_, h, by rw [yM (xs := kvs) (ys := hs) (by have := congrArg List.length e; simpa using this.symm)]⟩), q⟩
end
def xVal (t : XE) : XT := fun env Q => t env fun r e => rd 2 r e fun d => tru d fun b => Q b e
def xAnd (t u : XT) : XT := fun env Q => t env fun b e => (b = true → u e Q) ∧ (b = false → Q false e)
def xOr (t u : XT) : XT := fun env Q => t env fun b e => (b = true → Q true e) ∧ (b = false → u e Q)
def xNot (t : XT) : XT := fun env Q => t env fun b e => Q (!b) e
def dAnd (t u : XE) : XE := fun env Q => t env fun r e => rd 2 r e fun d => tru d fun b => (b = true → u e Q) ∧ (b = false → Q r e)
def dOr (t u : XE) : XE := fun env Q => t env fun r e => rd 2 r e fun d => tru d fun b => (b = true → Q r e) ∧ (b = false → u e Q)
def dNot (t : XT) : XE := fun env Q => t env fun b e => Q (.tmp (.bl (!b))) e
def dIf (c : XT) (t u : XE) : XE := fun env Q => c env fun b e => (b = true → t e Q) ∧ (b = false → u e Q)
theorem uR {K : PySem.W.Frag} {σ : L2.St} {H H1 : Hp} {env e1 : En} {f f1 : FA} {Q : VK} {t : XE} {Q' : R → En → Prop} (S : Stp H env f [] H1 e1 f1 []) (Kk : Kp env f e1 f1) (mt : yw t) (A1 : Abs K σ H1 e1 f1) (q : t e1 Q')
 (h : ∀ r e2, Q' r e2 → ∀ v H' f' g, Abs K σ H' e2 f' → ResOk K σ H' e2 f' r v g → Stp H env f [] H' e2 f' g → Kp env f e2 f' → Q v H') : xN K t σ H1 Q :=
 ⟨e1, f1, A1, mt _ _ _ (fun r e2 q2 v H' f' g A2 R2 S2 K2 => h r e2 q2 v H' f' g A2 R2 (S.trans S2) (Kk.trans K2)) q⟩
theorem Wr {K : PySem.W.Frag} {σ : L2.St} {H H1 : Hp} {env e1 : En} {f f1 : FA} {Q : Bool → Hp → Prop} {t : XT} {Q' : Bool → En → Prop} (S : Stp H env f [] H1 e1 f1 []) (Kk : Kp env f e1 f1) (mt : Xz t) (A1 : Abs K σ H1 e1 f1) (q : t e1 Q')
 (h : ∀ r e2, Q' r e2 → ∀ H' f', Abs K σ H' e2 f' → Stp H env f [] H' e2 f' [] → Kp env f e2 f' → Q r H') : liftT K t σ H1 Q :=
 ⟨e1, f1, A1, mt _ _ _ (fun r e2 q2 H' f' A2 S2 K2 => h r e2 q2 H' f' A2 (S.trans S2) (Kk.trans K2)) q⟩
section
variable {X : Cx} {a b c : Expr} {rest : List Expr} {ta tb : XE} {uA uB : XT} {pos : Pos}
theorem DW.dt {e : Expr} {t : XT} (h : DW X e t) : DT X e t := ⟨h.run.pt, h.mono⟩
theorem j5 (ha : DE X a ta) (he : ∀ whole, isTrue a X.env whole = (do let v ← whole; standAt a.pos; holding [v] (truthy v)) := by intro _; rfl) : DT X a (xVal ta) := by
 refine ⟨PT.imp (pt_truth ha.run he) fun σ H Q q => ?_, fun env Q Q' h q => ha.mono _ _ _ (fun r e q => qL (fun d q => j8 (fun b q => h _ _ q) q) q) q⟩
 obtain ⟨env, f, A, q⟩ := q
 refine ⟨env, f, A, ha.mono _ _ _ (fun r e q => ?_) q⟩
 intro v H' f' g A' R' S' K'
 obtain ⟨d, g', rp, q⟩ := yg A' R' q
 obtain ⟨b, hb, q⟩ := rp.tru q
 exact ⟨b, hb, q H' f' A' (S'.drop (fun _ z => by simp at z)) K'⟩
theorem yc {op : CmpOp} {L : Nat} {op' : OP} (ho : OpD X (compareOp op) L op') (ha : DE X a ta) (hb : DE X b tb) (hm : behindInMarks op b = false) (hbl : ∀ d1 d2 k, op' d1 d2 k → op' d1 d2 fun d => (∃ b, d = .bl b) ∧ k d) : DT X (.Compare a [op] [b] pos) (xVal (dBin L op' ta tb)) := by
 have md := Q3 ho.mono ha.mono hb.mono (L := L)
 refine ⟨PT.imp (pt_cmpR ho.run ha.run hb.run hm) fun σ H Q q => ?_, fun env Q Q' h q => md _ _ _ (fun r e q => qL (fun d q => j8 (fun b q => h _ _ q) q) q) q⟩
 obtain ⟨env, f, A, q⟩ := q
 show tOp (rOp X.K L op') (xN X.K ta) (xN X.K tb) σ H fun x H' => ∃ k, x = .bl k ∧ Q k H'
 refine Q4 ho.mono ha.mono hb.mono ⟨env, f, A, ?_⟩
 unfold xVal at q
 have q2 : dBin L op' ta tb env fun r e => (∃ b, r = .tmp (.bl b)) ∧ rd 2 r e fun d => tru d fun b => ∀ (H' : Hp) (f' : FA), Abs X.K σ H' e f' → Stp H env f [] H' e f' [] → Kp env f e f' → Q b H' := by
  unfold dBin at q ⊢
  refine ha.mono _ _ _ (fun r1 e1 q => hb.mono _ _ _ (fun r2 e2 q => qL (fun d1 q => qL (fun d2 q => ?_) q) q) q) q
  refine ho.mono _ _ _ _ (fun d q => ?_) (hbl _ _ _ q)
  obtain ⟨⟨b, rfl⟩, q⟩ := q
  exact ⟨⟨b, rfl⟩, q⟩
 refine md _ _ _ (fun r e q => ?_) q2
 obtain ⟨⟨b, rfl⟩, q⟩ := q
 intro v H' f' g A' R' S' K'
 cases R' with
 | tmp rp n => cases rp with
   | bl => exact ⟨b, rfl, q H' f' A' (S'.drop (fun _ z => by simp at z)) K'⟩
theorem qaC (ha : DT X a uA) : DW X (.BoolOp .And [a] pos) uA := ⟨pw_and1 ha.run, ha.mono⟩
theorem WL (ha : DT X a uA) : DW X (.BoolOp .Or [a] pos) uA := ⟨pw_or1 ha.run, ha.mono⟩
theorem qb5 (ha : DT X a uA) (hb : DW X (.BoolOp .And (b :: rest) pos) uB) : DW X (.BoolOp .And (a :: b :: rest) pos) (xAnd uA uB) := by
 refine ⟨PW.imp (pw_and ha.run hb.run) fun σ H Q q => ?_, fun env Q Q' h q => ha.mono _ _ _ (fun b e q => ⟨fun z => hb.mono _ _ _ h (q.1 z), fun z => h _ _ (q.2 z)⟩) q⟩
 obtain ⟨env, f, A, q⟩ := q
 refine ⟨env, f, A, ha.mono _ _ _ (fun b e q => ?_) q⟩
 intro H' f' A' S' K'
 cases b with
 | true =>
   rw [if_pos rfl]
   exact Wr S' K' hb.mono A' (q.1 rfl) fun r e2 q => q
 | false =>
   rw [if_neg Bool.false_ne_true]
   exact q.2 rfl H' f' A' S' K'
theorem Yg (ha : DT X a uA) (hb : DW X (.BoolOp .Or (b :: rest) pos) uB) : DW X (.BoolOp .Or (a :: b :: rest) pos) (xOr uA uB) := by
 refine ⟨PW.imp (pw_or ha.run hb.run) fun σ H Q q => ?_, fun env Q Q' h q => ha.mono _ _ _ (fun b e q => ⟨fun z => h _ _ (q.1 z), fun z => hb.mono _ _ _ h (q.2 z)⟩) q⟩
 obtain ⟨env, f, A, q⟩ := q
 refine ⟨env, f, A, ha.mono _ _ _ (fun b e q => ?_) q⟩
 intro H' f' A' S' K'
 cases b with
 | false =>
   rw [if_neg Bool.false_ne_true]
   exact Wr S' K' hb.mono A' (q.2 rfl) fun r e2 q => q
 | true =>
   rw [if_pos rfl]
   exact q.1 rfl H' f' A' S' K'
theorem vh (ha : DT X a uA) : DT X (.UnaryOp .Not a pos) (xNot uA) :=
 ⟨PT.imp (pt_not ha.run) fun σ H Q q => q, fun env Q Q' h q => ha.mono _ _ _ (fun b e q => h _ _ q) q⟩
theorem vm {op} {t : XE} (h : DE X a t) : DE X (.BoolOp op [a] pos) t := ⟨pe_one h.run, h.mono⟩
theorem uC (ha : DE X a ta) (hb : DE X (.BoolOp .And (b :: rest) pos) tb) : DE X (.BoolOp .And (a :: b :: rest) pos) (dAnd ta tb) := by
 refine ⟨PE.imp (pe_andT ha.run hb.run) fun σ H Q q => ?_, fun env Q Q' h q => ha.mono _ _ _ (fun r e q => qL (fun d q => j8 (fun b q => ⟨fun z => hb.mono _ _ _ h (q.1 z), fun z => h _ _ (q.2 z)⟩) q) q) q⟩
 obtain ⟨env, f, A, q⟩ := q
 refine ⟨env, f, A, ha.mono _ _ _ (fun r e q => ?_) q⟩
 intro v H' f' g A' R' S' K'
 obtain ⟨d, g', rp, q⟩ := yg A' R' q
 obtain ⟨b, hb', q⟩ := rp.tru q
 refine ⟨b, hb', ?_⟩
 cases b with
 | true =>
   rw [if_pos rfl]
   exact uR (S'.drop (fun _ z => by simp at z)) K' hb.mono A' (q.1 rfl) fun r e2 q => q
 | false =>
   rw [if_neg Bool.false_ne_true]
   exact q.2 rfl v H' f' g A' R' S' K'
theorem qeM (ha : DE X a ta) (hb : DE X (.BoolOp .Or (b :: rest) pos) tb) : DE X (.BoolOp .Or (a :: b :: rest) pos) (dOr ta tb) := by
 refine ⟨PE.imp (pe_orT ha.run hb.run) fun σ H Q q => ?_, fun env Q Q' h q => ha.mono _ _ _ (fun r e q => qL (fun d q => j8 (fun b q => ⟨fun z => h _ _ (q.1 z), fun z => hb.mono _ _ _ h (q.2 z)⟩) q) q) q⟩
 obtain ⟨env, f, A, q⟩ := q
 refine ⟨env, f, A, ha.mono _ _ _ (fun r e q => ?_) q⟩
 intro v H' f' g A' R' S' K'
 obtain ⟨d, g', rp, q⟩ := yg A' R' q
 obtain ⟨b, hb', q⟩ := rp.tru q
 refine ⟨b, hb', ?_⟩
 cases b with
 | false =>
   rw [if_neg Bool.false_ne_true]
   exact uR (S'.drop (fun _ z => by simp at z)) K' hb.mono A' (q.2 rfl) fun r e2 q => q
 | true =>
   rw [if_pos rfl]
   exact q.1 rfl v H' f' g A' R' S' K'
theorem qgk {c : Expr} (hc : DT X c uA) (ha : DE X a ta) (hb : DE X b tb) : DE X (.IfExp c a b pos) (dIf uA ta tb) := by
 refine ⟨PE.imp (pe_ifExp hc.run ha.run hb.run) fun σ H Q q => ?_, fun env Q Q' h q => hc.mono _ _ _ (fun b e q => ⟨fun z => ha.mono _ _ _ h (q.1 z), fun z => hb.mono _ _ _ h (q.2 z)⟩) q⟩
 obtain ⟨env, f, A, q⟩ := q
 refine ⟨env, f, A, hc.mono _ _ _ (fun b e q => ?_) q⟩
 intro H' f' A' S' K'
 cases b with
 | true =>
   rw [if_pos rfl]
   exact uR S' K' ha.mono A' (q.1 rfl) fun r e2 q => q
 | false =>
   rw [if_neg Bool.false_ne_true]
   exact uR S' K' hb.mono A' (q.2 rfl) fun r e2 q => q
end
def aNil : XA := fun env Q => Q [] env
def qm (t : XE) (u : XA) : XA := fun env Q => t env fun r e => u e fun rs e2 => Q (r :: rs) e2
def jh : List R → En → (List D → Prop) → Prop
 | [], _, k => k []
 | r :: rs, env, k => stor r env fun d => jh rs env fun ds => k (d :: ds)
def jo (L : Nat) : List R → En → (List D → Prop) → Prop
 | [], _, k => k []
 | r :: rs, env, k => rd L r env fun d => jo L rs env fun ds => k (d :: ds)
theorem j9 : ∀ {rs : List R} {env : En} {k k' : List D → Prop}, (∀ d, k d → k' d) → jh rs env k → jh rs env k'
 | [], _, _, _, h, q => h _ q
 | r :: rs, _, _, _, h, q => uQ (fun d q => j9 (fun ds q => h _ q) q) q
theorem xj {L : Nat} : ∀ {rs : List R} {env : En} {k k' : List D → Prop}, (∀ d, k d → k' d) → jo L rs env k → jo L rs env k'
 | [], _, _, _, h, q => h _ q
 | r :: rs, _, _, _, h, q => qL (fun d q => xj (fun ds q => h _ q) q) q
section
variable {K : PySem.W.Frag} {σ : L2.St} {H H1 H' : Hp} {env e1 : En} {f f1 : FA} {G1 : List Addr}
theorem ResOks.dom : ∀ {rs : List R} {vs : List V} {gs : List Addr}, ResOks K σ H env f rs vs gs → ∀ b ∈ gs, ∃ o, H b = some o ∧ Mu o = true
 | _, _, _, .cons h t _, b, hb => by
   rcases List.mem_append.mp hb with hb | hb
   ·exact h.dom b hb
   ·exact ResOks.dom t b hb
theorem Qg : ∀ {rs : List R} {vs : List V} {gs : List Addr} {k : List D → Prop}, Abs K σ H env f → ResOks K σ H env f rs vs gs → jh rs env k → ∃ ds, Reps K H 0 ds vs gs ∧ k ds ∧ (∀ b ∈ gs, ¬ L0 env f b ∧ ¬ Ro env f b)
 | _, _, _, _, A, .nil, q => ⟨[], .nil, q, fun b hb => by simp at hb⟩
 | _, _, _, _, A, .cons h t n, q => by
   obtain ⟨d, rp, q, n1⟩ := W7 A h q
   obtain ⟨ds, rps, q, n2⟩ := Qg A t q
   exact ⟨d :: ds, .cons rp rps fun _ b hb => n b hb, q, fun b hb => (List.mem_append.mp hb).elim (n1 b) (n2 b)⟩
theorem X5 {L : Nat} (hL : 0 < L) : ∀ {rs : List R} {vs : List V} {gs : List Addr} {k : List D → Prop}, Abs K σ H env f → ResOks K σ H env f rs vs gs → jo L rs env k → ∃ ds g, Reps K H L ds vs g ∧ k ds
 | _, _, _, _, A, .nil, q => ⟨[], [], .nil, q⟩
 | _, _, _, _, A, .cons h t n, q => by
   obtain ⟨d, g, rp, q⟩ := yg A h q
   obtain ⟨ds, gs, rps, q⟩ := X5 hL A t q
   exact ⟨d :: ds, _, .cons rp rps (fun e => by omega), q⟩
end
section
variable {X : Cx} {e : Expr} {es : List Expr} {t : XE} {u : XA} {pos : Pos}
theorem qp : DA X [] aNil :=
 ⟨PA.imp pa_nil fun σ H Q ⟨env, f, A, q⟩ => q [] H f [] A .nil .refl .refl, fun env Q Q' h q => h _ _ q⟩
theorem qb (ha : DE X e t) (hr : DA X es u) (hs : starEach (e :: es) X.env = (false, eval e X.env) :: starEach es X.env := by rfl) : DA X (e :: es) (qm t u) := by
 refine ⟨PA.imp (pa_cons ha.run hr.run hs) fun σ H Q q => ?_, fun env Q Q' h q => ha.mono _ _ _ (fun r e q => hr.mono _ _ _ (fun rs e2 q => h _ _ q) q) q⟩
 obtain ⟨env, f, A, q⟩ := q
 refine ⟨env, f, A, ha.mono _ _ _ (fun r1 e1 q => ?_) q⟩
 intro x H1 f1 g1 A1 R1 S1 K1
 refine ⟨e1, f1, A1, hr.mono _ _ _ (fun rs e2 q => ?_) q⟩
 intro vs H2 f2 gs A2 R2 S2 K2
 obtain ⟨R1', n⟩ := R1.wait A1 S2 K2
 exact q (x :: vs) H2 f2 (g1 ++ gs) A2 (.cons R1' R2 n) (S1.trans (S2.frame g1)) (K1.trans K2)
def dTup (u : XA) : XE := fun env Q => u env fun rs e => rs.length ≤ 1000 ∧ jh rs e fun ds => Q (.tmp (.tup ds)) e
def dLst (u : XA) : XE := fun env Q => u env fun rs e => rs.length ≤ 1000 ∧ jh rs e fun ds => Q (.tmp (.lst ds)) e
theorem ResOks.len {K : PySem.W.Frag} {σ : L2.St} {H : Hp} {env : En} {f : FA} : ∀ {rs : List R} {vs : List V} {gs : List Addr}, ResOks K σ H env f rs vs gs → rs.length = vs.length
 | _, _, _, .nil => rfl
 | _, _, _, .cons _ t _ => by rw [List.length_cons, List.length_cons, t.len]
theorem Jk {n : Nat} (h : n ≤ 1000) : n ≤ sizeLine := Nat.le_of_lt (small1000 h)
theorem Stp.ext {H H1 H2 : Hp} {env e1 : En} {f f1 : FA} {G G1 : List Addr} (S : Stp H env f G H1 e1 f1 G1) (x : ∀ b o, H1 b = some o → H2 b = some o) : Stp H env f G H2 e1 f1 G1 :=
 S.trans ⟨fun b o h _ => x b o h, fun b q => q.elim .inl fun z => .inr (.inl z)⟩
theorem qb8 {x1} (ha : DA X es u) : DE X (.Tuple es x1 pos) (dTup u) := by
 refine ⟨PE.imp (pe_tup ha.run) fun σ H Q q => ?_, fun env Q Q' h q => ha.mono _ _ _ (fun r e q => ⟨q.1, j9 (fun ds q => h _ _ q) q.2⟩) q⟩
 obtain ⟨env, f, A, q⟩ := q
 refine ⟨env, f, A, ha.mono _ _ _ (fun rs e q => ?_) q⟩
 intro vs H1 f1 gs A1 R1 S1 K1
 obtain ⟨ds, rp, q', n⟩ := Qg A1 R1 q.2
 refine ⟨by rw [← R1.len]; exact Jk q.1, fun p hp => ?_⟩
 have x : Ext H1 (L2.upd H1 p (.tup vs)) [] := .updT hp
 refine q' _ _ f1 gs (A1.ext x.same) (.tmp (Qs hp rp) n) (S1.ext x.same) K1
theorem zN (ha : DA X es u) : DE X (.List es pos) (dLst u) := by
 refine ⟨PE.imp (pe_lst ha.run) fun σ H Q q => ?_, fun env Q Q' h q => ha.mono _ _ _ (fun r e q => ⟨q.1, j9 (fun ds q => h _ _ q) q.2⟩) q⟩
 obtain ⟨env, f, A, q⟩ := q
 refine ⟨env, f, A, ha.mono _ _ _ (fun rs e q => ?_) q⟩
 intro vs H1 f1 gs A1 R1 S1 K1
 obtain ⟨ds, rp, q', n⟩ := Qg A1 R1 q.2
 refine ⟨by rw [← R1.len]; exact Jk q.1, fun p hp => ?_⟩
 have x : Ext H1 (L2.upd H1 p (.lst vs)) [p] := .upd hp
 have pg : p ∉ gs := fun z => by
  obtain ⟨o, ho, _⟩ := rp.dom p z
  rw [hp] at ho; cases ho
 refine q' _ _ f1 (p :: gs) (A1.ext x.same) (.tmp (.lst upd_same (rp.keep fun b o e _ => x.same b o e) fun _ => pg) fun b hb => ?_) (S1.new x) K1
 rcases List.mem_cons.mp hb with rfl | hb
 ·refine ⟨fun z => ?_, fun z => ?_⟩
  ·obtain ⟨o, ho, _⟩ := A1.ldom z
   rw [hp] at ho; cases ho
  ·obtain ⟨o, ho, _⟩ := A1.rdom z
   rw [hp] at ho; cases ho
 ·exact n b hb
end
section
variable {K : PySem.W.Frag} {σ : L2.St} {H H' : Hp} {env : En} {f : FA} {G G' g' : List Addr} {i : Nat} {d d' : D} {m : Md} {v : V}
def fset (f : FA) (i : Nat) (g : List Addr) : FA := fun j => if j = i then g else f j
theorem xO {f : FA} {i : Nat} {g : List Addr} : fset f i g i = g := if_pos rfl
theorem yj {f : FA} {i j : Nat} {g : List Addr} (h : j ≠ i) : fset f i g j = f j := if_neg h
theorem xf {x : Option (D × Md)} (h : i < env.length) : (env.set i x)[i]? = some x := List.getElem?_set_self h
theorem zY {x : Option (D × Md)} {j : Nat} (h : j ≠ i) : (env.set i x)[j]? = env[j]? := List.getElem?_set_ne (Ne.symm h)
theorem Abs.mut (A : Abs K σ H env f) (e : env[i]? = some (some (d, m))) (hm : m.rd = false) (hv : σ[i]? = some (some v))
 (same : ∀ b o, H b = some o → b ∉ f i → H' b = some o) (r : Rep K H' m.lv d' v g') (sub : ∀ b ∈ g', b ∈ f i ∨ b ∈ G ∨ H b = none) (hG : ∀ b ∈ G, ¬ L0 env f b ∧ ¬ Ro env f b)
 (hG' : ∀ b ∈ G', (b ∈ f i ∨ b ∈ G ∨ H b = none) ∧ b ∉ g') :
 Abs K σ H' (env.set i (some (d', m))) (fset f i g') ∧ Stp H env f G H' (env.set i (some (d', m))) (fset f i g') G' ∧ Kp env f (env.set i (some (d', m))) (fset f i g') ∧
  (∀ b ∈ G', ¬ L0 (env.set i (some (d', m))) (fset f i g') b ∧ ¬ Ro (env.set i (some (d', m))) (fset f i g') b) := by
 have hi : i < env.length := (List.getElem?_eq_some_iff.mp e).1
 have hdom : ∀ j d m, env[j]? = some (some (d, m)) → ∀ b ∈ f j, ∃ o, H b = some o ∧ Mu o = true := fun j d m h b hb => by
  obtain ⟨v, _, rp⟩ := A.rep j d m h
  exact rp.dom b hb
 have get : ∀ {j : Nat} {d1 : D} {m1 : Md}, (env.set i (some (d', m)))[j]? = some (some (d1, m1)) → j ≠ i → env[j]? = some (some (d1, m1)) := fun {j d1 m1} h hj => by rwa [zY hj] at h
 have ati : ∀ {d1 : D} {m1 : Md}, (env.set i (some (d', m)))[i]? = some (some (d1, m1)) → d1 = d' ∧ m1 = m := fun {d1 m1} h => by
  rw [xf hi] at h
  cases h
  exact ⟨rfl, rfl⟩
 have out : ∀ {j : Nat} {d1 : D} {m1 : Md}, j ≠ i → env[j]? = some (some (d1, m1)) → ∀ b, (b ∈ f i ∨ b ∈ G ∨ H b = none) → b ∉ f j := fun {j d1 m1} hj h b q z => by
  rcases q with q | q | q
  ·exact A.dis i j d m d1 m1 (Ne.symm hj) e h (Md.lv_of hm) b q z
  ·by_cases hr : m1.lv = 0
   ·exact (hG b q).1 ⟨j, d1, m1, h, hr, z⟩
   ·exact (hG b q).2 ⟨j, d1, m1, h, hr, z⟩
  ·obtain ⟨o, ho, _⟩ := hdom j d1 m1 h b z
   rw [q] at ho; cases ho
 have wsub : ∀ b, (b ∈ f i ∨ b ∈ G ∨ H b = none) → (W env f b ∨ b ∈ G ∨ H b = none) := fun b q => q.imp_left fun z => ⟨i, d, m, e, hm, z⟩
 refine ⟨⟨fun j d1 m1 h => ?_, fun j k d1 m1 d2 m2 hjk h1 h2 hr b hb z => ?_, by rw [List.length_set]; exact A.len⟩, ⟨fun b o h q => ?_, fun b q => ?_⟩, ⟨?_, fun j d1 m1 h hr => ?_⟩, fun b hb => ⟨?_, ?_⟩⟩
 ·by_cases hj : j = i
  ·subst hj
   obtain ⟨rfl, rfl⟩ := ati h
   exact ⟨v, hv, by rw [xO]; exact r⟩
  ·have h' := get h hj
   obtain ⟨w, h3, rp⟩ := A.rep j d1 m1 h'
   refine ⟨w, h3, ?_⟩
   rw [yj hj]
   refine rp.keep fun b o hb q => same b o hb fun z => ?_
   rcases q with q | q
   ·exact A.dis i j d m d1 m1 (Ne.symm hj) e h' (Md.lv_of hm) b z q
   ·obtain ⟨o', ho', mo⟩ := hdom i d m e b z
    rw [hb] at ho'; cases ho'
    rw [q] at mo; cases mo
 ·by_cases hj : j = i
  ·subst hj
   rw [xO] at hb
   rw [yj (Ne.symm hjk)] at z
   exact out (Ne.symm hjk) (get h2 (Ne.symm hjk)) b (sub b hb) z
  ·rw [yj hj] at hb
   by_cases hk : k = i
   ·subst hk
    rw [xO] at z
    exact out hj (get h1 hj) b (sub b z) hb
   ·rw [yj hk] at z
    exact A.dis j k d1 m1 d2 m2 hjk (get h1 hj) (get h2 hk) hr b hb z
 ·refine same b o h fun z => ?_
  rcases q with q | q
  ·obtain ⟨o', ho', mo⟩ := hdom i d m e b z
   rw [h] at ho'; cases ho'
   rw [q] at mo; cases mo
  ·exact q.1 ⟨i, d, m, e, hm, z⟩
 ·rcases q with ⟨j, d1, m1, h, hr, hb⟩ | q
  ·by_cases hj : j = i
   ·subst hj
    rw [xO] at hb
    exact wsub b (sub b hb)
   ·rw [yj hj] at hb
    exact .inl ⟨j, d1, m1, get h hj, hr, hb⟩
  ·exact wsub b (hG' b q).1
 ·rw [List.map_set]
  apply List.ext_getElem?
  intro j
  by_cases hj : j = i
  ·subst hj
   rw [List.getElem?_set_self (by simpa using hi), List.getElem?_map, e]
   rfl
  ·rw [List.getElem?_set_ne (Ne.symm hj)]
 ·have hj : j ≠ i := fun z => by
   subst z
   rw [e] at h; cases h
   rw [hm] at hr; cases hr
  exact ⟨by rw [zY hj]; exact h, yj hj⟩
 ·rintro ⟨j, d1, m1, h, hr, z⟩
  by_cases hj : j = i
  ·subst hj
   rw [xO] at z
   exact (hG' b hb).2 z
  ·rw [yj hj] at z
   exact out hj (get h hj) b (hG' b hb).1 z
 ·rintro ⟨j, d1, m1, h, hr, z⟩
  by_cases hj : j = i
  ·subst hj
   rw [xO] at z
   exact (hG' b hb).2 z
  ·rw [yj hj] at z
   exact out hj (get h hj) b (hG' b hb).1 z
def chg (r : R) (env : En) (k : Nat → D → Md → Prop) : Prop := match r with
 | .sl i => match env[i]? with
   | some (some (d, .own)) => k i d .own
   | some (some (d, .io)) => k i d .io
   | _ => False
 | _ => False
theorem JL {r : R} {env : En} {k k' : Nat → D → Md → Prop} (h : ∀ i d m, k i d m → k' i d m) (q : chg r env k) : chg r env k' := by
 unfold chg at q ⊢
 split at q
 ·split at q
  ·simp only [*] <;> exact h _ _ _ q
  ·simp only [*] <;> exact h _ _ _ q
  ·exact q.elim
 ·exact q.elim
theorem qca {r : R} {v : V} {g : List Addr} {k : Nat → D → Md → Prop} (A : Abs K σ H env f) (h : ResOk K σ H env f r v g) (q : chg r env k) :
 ∃ i d m, env[i]? = some (some (d, m)) ∧ m.rd = false ∧ m.lv = 0 ∧ σ[i]? = some (some v) ∧ Rep K H 0 d v (f i) ∧ g = [] ∧ k i d m := by
 unfold chg at q
 split at q
 ·rename_i i
  cases h with
  | sl h1 h2 hm =>
    obtain ⟨w, h3, rp⟩ := A.rep _ _ _ h2
    rw [h1] at h3; cases h3
    split at q
    ·rename_i e
     rw [h2] at e; cases e
     exact ⟨_, _, _, h2, rfl, rfl, h1, rp, rfl, q⟩
    ·rename_i e
     rw [h2] at e; cases e
     exact ⟨_, _, _, h2, rfl, rfl, h1, rp, rfl, q⟩
    ·exact q.elim
 ·exact q.elim
end
end BX
namespace BX
open PySem PySem.Spec PyProof.Rows L2
def qcY (kvs : List (List Key × D)) (k : List Key) : Option D := (kvs.find? fun p => decide (p.1 = k)).map (·.2)
def qey (kvs : List (Key × D)) (k : Key) : Option D := (kvs.find? fun p => decide (p.1 = k)).map (·.2)
def ixd (d1 d2 : D) (k : D → Prop) : Prop := match d1 with
 | .lst ds => match d2 with
   | .int i => match atI ds i with
     | some d => k d
     | none => False
   | _ => False
 | .lF ds => match d2 with
   | .int i => match atI ds i with
     | some d => k d
     | none => False
   | _ => False
 | .tup ds => match d2 with
   | .int i => match atI ds i with
     | some d => k d
     | none => False
   | _ => False
 | .str s => match d2 with
   | .int i => s.length ≤ sizeLine ∧ match atI s.cps.toList i with
     | some c => k (.str ⟨#[c]⟩)
     | none => False
   | _ => False
 | .dT kvs => match d2 with
   | .tup ds => match jy ds with
     | some ks => match qcY kvs ks with
       | some d => k d
       | none => False
     | none => False
   | _ => False
 | .dK kvs => match dKey d2 with
   | some ky => match qey kvs ky with
     | some d => k d
     | none => False
   | none => False
 | .dF kvs => match d2 with
   | .tup ds => match jy ds with
     | some ks => match qcY kvs ks with
       | some d => k d
       | none => False
     | none => False
   | _ => False
 | .dG kvs => match dKey d2 with
   | some ky => match qey kvs ky with
     | some d => k d
     | none => False
   | none => False
 | _ => False
theorem Jp {d1 d2 : D} {k k' : D → Prop} (h : ∀ d, k d → k' d) (q : ixd d1 d2 k) : ixd d1 d2 k' := by
 unfold ixd at q ⊢
 split at q
 ·split at q
  ·split at q
   ·simp only [*] <;> exact h _ q
   ·exact q.elim
  ·exact q.elim
 ·split at q
  ·split at q
   ·simp only [*] <;> exact h _ q
   ·exact q.elim
  ·exact q.elim
 ·split at q
  ·split at q
   ·simp only [*] <;> exact h _ q
   ·exact q.elim
  ·exact q.elim
 ·split at q
  ·refine ⟨q.1, ?_⟩
   replace q := q.2
   split at q
   ·simp only [*] <;> exact h _ q
   ·exact q.elim
  ·exact q.elim
 ·split at q
  ·split at q
   ·split at q
    ·simp only [*] <;> exact h _ q
    ·exact q.elim
   ·exact q.elim
  ·exact q.elim
 ·split at q
  ·split at q
   ·simp only [*] <;> exact h _ q
   ·exact q.elim
  ·exact q.elim
 ·split at q
  ·split at q
   ·split at q
    ·simp only [*] <;> exact h _ q
    ·exact q.elim
   ·exact q.elim
  ·exact q.elim
 ·split at q
  ·split at q
   ·simp only [*] <;> exact h _ q
   ·exact q.elim
  ·exact q.elim
 ·exact q.elim
def Part (K : PySem.W.Frag) (H : Hp) (d1 : D) (x : V) (d : D) (z : V) : Prop := ∀ lv f, Rep K H lv d1 x f → ∃ g, Rep K H lv d z g ∧ ∀ b ∈ g, b ∈ f
def rIxd (K : PySem.W.Frag) : R2 := fun x y H Q => ∃ d1 d2 g1 g2, Rep K H 2 d1 x g1 ∧ Rep K H 1 d2 y g2 ∧ ixd d1 d2 fun d => ∀ z, Part K H d1 x d z → Q z H
theorem vM {α β : Type} {xs : List α} {ys : List β} {i : Int} {a : α} (hl : xs.length = ys.length) (h : atI xs i = some a) : ∃ (j : Nat) (b : β), xs[j]? = some a ∧ ys[j]? = some b ∧ atI ys i = some b := by
 unfold atI at h ⊢
 rw [← hl]
 cases e : ixN xs.length i with
 | none => rw [e] at h; cases h
 | some j =>
   rw [e] at h
   have h' : xs[j]? = some a := h
   have hj := (List.getElem?_eq_some_iff.mp h').1
   exact ⟨j, ys[j]'(by omega), h', List.getElem?_eq_getElem (by omega), List.getElem?_eq_getElem (by omega)⟩
section
variable {κ : Type} [DecidableEq κ]
theorem jf : ∀ {hs : List (κ × V)} {kvs : List (κ × D)} {k : κ} {d : D}, hs.map (·.1) = kvs.map (·.1) → (kvs.find? fun p => decide (p.1 = k)).map (·.2) = some d →
 ∃ (j : Nat) (z : V), (kvs.map (·.2))[j]? = some d ∧ (hs.map (·.2))[j]? = some z ∧ valV hs k = some z
 | [], [], _, _, _, e => by simp at e
 | [], _ :: _, _, _, e, _ => by simp at e
 | _ :: _, [], _, _, e, _ => by simp at e
 | p :: hs, q :: kvs, k, d, e, h => by
   rw [List.map_cons, List.map_cons, List.cons.injEq] at e
   by_cases hk : q.1 = k
   ·rw [List.find?_cons, decide_eq_true hk] at h
    cases h
    exact ⟨0, p.2, rfl, rfl, valV_pos (e.1.trans hk)⟩
   ·rw [List.find?_cons, decide_eq_false hk] at h
    obtain ⟨j, z, h1, h2, h3⟩ := jf e.2 h
    exact ⟨j + 1, z, by simpa using h1, by simpa using h2, by rw [valV_neg (fun z => hk (e.1.symm.trans z))]; exact h3⟩
end
section
variable {prog : Program} {w : World} {A : Around} {E : Value → Shared → Prop} {s : Shared}
theorem YQ {value slice : Expr} {o i : Value} {T id : String} {Q : Value → Shared → Prop} (hT : s.TypeIs o T)
 (hl : typeLookup (.type T) "__getitem__" = pure (some (.builtin id))) (h : wpAny (model prog w) A (getItem o i) Q E s)
 (hs : subscripted slice false o i = operate [o, i] (getItem o i)) : wpAny (model prog w) A (subscriptTail value slice o i) Q E s := by
 unfold subscriptTail
 refine wpAny_bind ?_
 rw [getitemInPython_of_ne hT.not_modules]
 refine wpAny_bind (wpAny_specialOf hT hl ?_)
 have fin : wpAny (model prog w) A (subscripted slice false o i) (fun r s₃ => wpAny (model prog w) A (letTemporaryGo value o r >>= fun _ => pure r) Q E s₃) E s := by
  rw [hs]
  exact wpAny_operating (wpAny_mono h (fun r s₃ h₃ => wpAny_bind (wpAny_letTemporaryGo (wpAny_pure h₃))) fun _ _ x => x)
 first
  | exact wpAny_pure (wpAny_bind fin)
  | exact wpAny_bind (wpAny_pure (wpAny_bind fin))
  | exact wpAny_bind fin
end
section
variable {X : Cx}
theorem QT (hx : Ok X) {value slice : Expr} {pins : List (Addr × Obj)} {s : Shared} {σ : L2.St} {H : Hp} {a : Addr} {y v : V} {u : Value} {Q : VK} (I : Inv X pins σ H s) (ry : RelV y u) (g : DGet H a y (some v)) (q : Q v H)
 (hs : subscripted slice false (.ref a) u = operate [.ref a, u] (getItem (.ref a) u)) : wpAny (model X.prog X.w) X.A (subscriptTail value slice (.ref a) u) (EP X pins σ Q) X.xe s :=
 YQ (dict_typeIs I g) PySem.F.slot_dict_getitem.lookup (d_getItem (by have := hx.un; omega) I g ry fun w' s3 I3 rw' => ⟨v, H, I3, rw', q⟩) hs
theorem qc3 (hx : Ok X) : IxR X (rIxd X.K) := by
 intro value slice pins s σ H x y v u Q I rx ry h hs
 obtain ⟨d1, d2, g1, g2, r1, r2, q⟩ := h
 unfold ixd at q
 split at q
 ·rename_i ds
  split at q
  ·rename_i i
   split at q
   ·rename_i d e
    obtain ⟨a, vs, g, rfl, ha, ra, _, _⟩ := r1.listSq
    obtain ⟨rfl, _⟩ := r2.intV
    obtain ⟨j, z, e1, e2, e3⟩ := vM ra.len e
    refine ix_list value slice pins s σ H _ _ v u Q I rx ry ⟨a, vs, i, z, rfl, rfl, ha, e3, q z fun lv f rp => ?_⟩ hs
    obtain ⟨a', vs', g', h1, ha', ra', hsub, _⟩ := rp.listSq
    cases h1
    have := I.list_inj ha ha'
    subst this
    obtain ⟨z', g2, e4, rz, hg⟩ := ra'.get e1
    rw [e2] at e4; cases e4
    exact ⟨g2, rz, fun b hb => hsub b (hg b hb)⟩
   ·exact q.elim
  ·exact q.elim
 ·rename_i ds
  split at q
  ·rename_i i
   split at q
   ·rename_i d e
    obtain ⟨a, vs, rfl, ha, ra, _⟩ := r1.lFSq
    obtain ⟨rfl, _⟩ := r2.intV
    obtain ⟨j, z, e1, e2, e3⟩ := vM ra.len e
    refine ix_list value slice pins s σ H _ _ v u Q I rx ry ⟨a, vs, i, z, rfl, rfl, ha, e3, q z fun lv f rp => ?_⟩ hs
    obtain ⟨a', vs', h1, ha', ra', _⟩ := rp.lFSq
    cases h1
    have := I.list_inj ha ha'
    subst this
    obtain ⟨z', g2, e4, rz, hg⟩ := ra'.get e1
    rw [e2] at e4; cases e4
    exact ⟨g2, rz, hg⟩
   ·exact q.elim
  ·exact q.elim
 ·rename_i ds
  split at q
  ·rename_i i
   split at q
   ·rename_i d e
    obtain ⟨a, vs, rfl, ha, ra⟩ := r1.tupleSq
    obtain ⟨rfl, _⟩ := r2.intV
    obtain ⟨j, z, e1, e2, e3⟩ := vM ra.len e
    refine ix_tup value slice pins s σ H _ _ v u Q I rx ry ⟨a, vs, i, z, rfl, rfl, ha, e3, q z fun lv f rp => ?_⟩ hs
    obtain ⟨a', vs', h1, ha', ra'⟩ := rp.tupleSq
    cases h1
    have := I.tuple_inj ha ha'
    subst this
    obtain ⟨z', g2, e4, rz, hg⟩ := ra'.get e1
    rw [e2] at e4; cases e4
    exact ⟨g2, rz, hg⟩
   ·exact q.elim
  ·exact q.elim
 ·rename_i t
  split at q
  ·rename_i i
   obtain ⟨hl, q⟩ := q
   split at q
   ·rename_i c e
    obtain ⟨rfl, _⟩ := r1.strV
    obtain ⟨rfl, _⟩ := r2.intV
    exact ix_str value slice pins s σ H _ _ v u Q I rx ry ⟨t, i, c, rfl, rfl, hl, e, q _ fun lv f rp => ⟨[], .str _, ql⟩⟩ hs
   ·exact q.elim
  ·exact q.elim
 ·rename_i kvs
  split at q
  ·rename_i ds
   split at q
   ·rename_i ks e
    split at q
    ·rename_i d ed
     obtain ⟨b, ws, rfl, hb, rb⟩ := r2.tupleAt (Nat.le_refl _)
     rw [rb.jy e] at hb
     cases r1 with
     | @dT a hs' kvs f ha he nd r nn =>
       cases rx
       obtain ⟨j, z, e1, e2, e3⟩ := jf he ed
       refine QT hx I ry (by rw [← e3]; exact DGet.t ha hb) (q z fun lv f rp => ?_) hs
       cases rp with
       | dT ha' he' nd' r' nn' =>
         rw [ha] at ha'; cases ha'
         obtain ⟨z', g2, e4, rz, hg⟩ := r'.get e1
         rw [e2] at e4; cases e4
         exact ⟨g2, rz, fun b hb => List.mem_cons_of_mem _ (hg b hb)⟩
       | dTF l' ha' he' nd' r' => rw [ha] at ha'; cases ha'
     | @dTF a o hs' kvs f l ha he nd r =>
       cases rx
       obtain ⟨j, z, e1, e2, e3⟩ := jf he ed
       refine QT hx I ry (by rw [← e3]; exact .inr ⟨_, _, _, .inr ⟨o, ha⟩, rfl, hb, rfl⟩) (q z fun lv f rp => ?_) hs
       cases rp with
       | dT ha' he' nd' r' nn' => rw [ha] at ha'; cases ha'
       | dTF l' ha' he' nd' r' =>
         rw [ha] at ha'; cases ha'
         obtain ⟨z', g2, e4, rz, hg⟩ := r'.get e1
         rw [e2] at e4; cases e4
         exact ⟨g2, rz, hg⟩
    ·exact q.elim
   ·exact q.elim
  ·exact q.elim
 ·rename_i kvs
  split at q
  ·rename_i ky e
   split at q
   ·rename_i d ed
    obtain rfl := r2.dKey e
    cases r1 with
    | @dK a hs' kvs f ha he nd r nn =>
      cases rx
      obtain ⟨j, z, e1, e2, e3⟩ := jf he ed
      refine QT hx I ry (by rw [← e3]; exact DGet.k ha) (q z fun lv f rp => ?_) hs
      cases rp with
      | dK ha' he' nd' r' nn' =>
        rw [ha] at ha'; cases ha'
        obtain ⟨z', g2, e4, rz, hg⟩ := r'.get e1
        rw [e2] at e4; cases e4
        exact ⟨g2, rz, fun b hb => List.mem_cons_of_mem _ (hg b hb)⟩
   ·exact q.elim
  ·exact q.elim
 ·rename_i kvs
  split at q
  ·rename_i ds
   split at q
   ·rename_i ks e
    split at q
    ·rename_i d ed
     obtain ⟨b, ws, rfl, hb, rb⟩ := r2.tupleAt (Nat.le_refl _)
     rw [rb.jy e] at hb
     cases r1 with
     | @dF a o hs' kvs ha he nd r =>
       cases rx
       obtain ⟨j, z, e1, e2, e3⟩ := jf he ed
       refine QT hx I ry (by rw [← e3]; exact .inr ⟨_, _, _, .inr ⟨o, ha⟩, rfl, hb, rfl⟩) (q z fun lv f rp => ?_) hs
       cases rp with
       | dF ha' he' nd' r' =>
         rw [ha] at ha'; cases ha'
         obtain ⟨z', g2, e4, rz, hg⟩ := r'.get e1
         rw [e2] at e4; cases e4
         exact ⟨g2, rz, hg⟩
    ·exact q.elim
   ·exact q.elim
  ·exact q.elim
 ·rename_i kvs
  split at q
  ·rename_i ky e
   split at q
   ·rename_i d ed
    obtain rfl := r2.dKey e
    cases r1 with
    | @dG a o hs' kvs ha he nd r =>
      cases rx
      obtain ⟨j, z, e1, e2, e3⟩ := jf he ed
      refine QT hx I ry (by rw [← e3]; exact .inl ⟨_, _, .inr ⟨o, ha⟩, rfl, rfl⟩) (q z fun lv f rp => ?_) hs
      cases rp with
      | dG ha' he' nd' r' =>
        rw [ha] at ha'; cases ha'
        obtain ⟨z', g2, e4, rz, hg⟩ := r'.get e1
        rw [e2] at e4; cases e4
        exact ⟨g2, rz, hg⟩
   ·exact q.elim
  ·exact q.elim
 ·exact q.elim
end
section
variable {K : PySem.W.Frag} {σ : L2.St} {H : Hp} {env : En} {f : FA}
theorem qbw {d : D} {z : V} {g : List Addr} {lv : Nat} {c : Bool} {k : R → Prop} (r : Rep K H (clv c) d z g) (n : ∀ b ∈ g, Ro env f b) (q : k (mkRo c d)) : ∃ r' g2, ResOk K σ H env f r' z g2 ∧ (∀ b ∈ g2, b ∈ ([] : List Addr)) ∧ k r' := by
 cases d with
 | int i => exact ⟨_, [], .tmp r.int0 ql, ql, q⟩
 | bl i => exact ⟨_, [], .tmp r.bl0 ql, ql, q⟩
 | str i => exact ⟨_, [], .tmp r.str0 ql, ql, q⟩
 | non => exact ⟨_, [], .tmp r.non0 ql, ql, q⟩
 | _ => exact ⟨_, [], .ro r n, ql, q⟩
theorem qcF {L : Nat} {r : R} {x : V} {g : List Addr} {k : D → Prop} (A : Abs K σ H env f) (h : ResOk K σ H env f r x g) (q : rd L r env k) :
 ∃ d1 g', Rep K H L d1 x g' ∧ k d1 ∧ ∀ (d : D) (z : V) (k' : R → Prop), Part K H d1 x d z → elem r d k' → ∃ r' g2, ResOk K σ H env f r' z g2 ∧ (∀ b ∈ g2, b ∈ g) ∧ k' r' := by
 cases h with
 | @tmp d1 _ _ r n =>
   refine ⟨d1, g, r.up (Nat.zero_le _), q, fun d z k' p e => ?_⟩
   obtain ⟨g2, rz, hg⟩ := p 0 g r
   exact ⟨_, g2, .tmp rz fun b hb => n b (hg b hb), hg, e⟩
 | @ro c d1 _ g0 r n =>
   unfold rd R.data at q
   cases e : roOk c L with
   | false => simp only [e] at q
   | true =>
     simp only [e] at q
     refine ⟨d1, g0, r.up (VJ e), q, fun d z k' p e => ?_⟩
     obtain ⟨g2, rz, hg⟩ := p _ _ r
     exact qbw (lv := 0) rz (fun b hb => n b (hg b hb)) e
 | @sl i _ d1 m h1 h2 hm =>
   obtain ⟨v', h3, rp⟩ := A.rep _ _ _ h2
   rw [h1] at h3; cases h3
   unfold rd R.data at q
   simp only [h2] at q
   cases e : m.okL L with
   | false => simp only [e] at q
   | true =>
     simp only [e] at q
     refine ⟨d1, _, rp.up (Md.okL_le e), q, fun d z k' p e => ?_⟩
     obtain ⟨g2, rz, hg⟩ := p _ _ rp
     obtain ⟨rfl, rz0⟩ := rz.imm (by rw [hm]; exact Nat.zero_le _) e.1
     exact ⟨_, [], .tmp rz0 ql, ql, e.2⟩
end
def dIdx (ta tb : XE) : XE := fun env Q => ta env fun r1 e1 => tb e1 fun r2 e2 => rd 2 r1 e2 fun d1 => rd 1 r2 e2 fun d2 => ixd d1 d2 fun d => elem r1 d fun r => Q r e2
section
variable {X : Cx} {a b c : Expr} {ta tb : XE} {pos : Pos}
theorem zQ (hx : Ok X) (ha : DE X a ta) (hb : DE X b tb) (hs : PlainIx b := by intro _ _; rfl) : DE X (.Subscript a b pos) (dIdx ta tb) := by
 refine ⟨PE.imp (pe_ix (qc3 hx) ha.run hb.run hs) fun σ H Q q => ?_, fun env Q Q' h q => ha.mono _ _ _ (fun r1 e1 q => hb.mono _ _ _ (fun r2 e2 q => qL (fun d1 q => qL (fun d2 q => Jp (fun d q => qaA (fun r q => h _ _ q) q) q) q) q) q) q⟩
 obtain ⟨env, f, A, q⟩ := q
 have h := JX (C := fun r1 r2 e2 => rd 2 r1 e2 fun d1 => rd 1 r2 e2 fun d2 => ixd d1 d2 fun d => _) ha.mono hb.mono A q
 obtain ⟨env1, f1, A1, q1⟩ := h
 refine ⟨env1, f1, A1, ha.mono _ _ _ (fun r1 e1 z => ?_) q1⟩
 intro x H1 f1 g1 a b c d
 obtain ⟨env2, f2, A2, q2⟩ := z x H1 f1 g1 a b c d
 refine ⟨env2, f2, A2, hb.mono _ _ _ (fun r2 e2 z => ?_) q2⟩
 intro y H2 f2 g2 a b c d
 obtain ⟨r1, r2, e2, f2, g1, g2, A2, R1, R2, n, S, Kk, q3⟩ := z y H2 f2 g2 a b c d
 obtain ⟨d1, g1', rp1, q3, pr⟩ := qcF A2 R1 q3
 obtain ⟨d2, g2', rp2, q3⟩ := yg A2 R2 q3
 refine ⟨d1, d2, g1', g2', rp1, rp2, Jp (fun dd q4 => ?_) q3⟩
 intro z p
 obtain ⟨r', g3, R3, hg, q5⟩ := pr _ _ _ p q4
 exact q5 z H2 f2 g3 A2 R3 (S.drop fun b hb => List.mem_append_left _ (hg b hb)) Kk
end
abbrev OPn := List D → (D → Prop) → Prop
def rOpn (K : PySem.W.Frag) (L : Nat) (op : OPn) : List V → Hp → VK → Prop := fun vs H Q => ∃ ds g, Reps K H L ds vs g ∧ op ds fun d => ∀ z H' g, Rep K H' 0 d z g → Ext H H' g → Q z H'
def U9 (op : OPn) : Prop := ∀ ds k k', (∀ d, k d → k' d) → op ds k → op ds k'
structure CallD (X : Cx) (fn : Value) (L : Nat) (op : OPn) : Prop where
 run : CallR X fn (rOpn X.K L op)
 mono : U9 op
 pos : 0 < L
def dCall (L : Nat) (op : OPn) (u : XA) : XE := fun env Q => u env fun rs e => jo L rs e fun ds => op ds fun d => Q (.tmp d) e
section
variable {X : Cx} {x : Str} {p pos : Pos} {e : Expr} {es : List Expr} {u : XA} {id T : String} {L : Nat} {op : OPn}
theorem WN (mo : U9 op) (mu : vz u) : yw (dCall L op u) := fun env Q Q' h q => mu _ _ _ (fun rs e q => xj (fun ds q => mo _ _ _ (fun d q => h _ _ q) q) q) q
theorem WP {K : PySem.W.Frag} (hL : 0 < L) (mo : U9 op) (mu : vz u) {σ : L2.St} {H : Hp} {Q : VK} (q : xN K (dCall L op u) σ H Q) : tCB (rOpn K L op) (Ux K u) σ H Q := by
 obtain ⟨env, f, A, q⟩ := q
 refine ⟨env, f, A, mu _ _ _ (fun rs e q => ?_) q⟩
 intro vs H1 f1 gs A1 R1 S1 K1
 obtain ⟨ds, g, rp, q⟩ := X5 hL A1 R1 q
 refine ⟨ds, g, rp, mo _ _ _ (fun d q => ?_) q⟩
 intro z H' g' rz x
 obtain ⟨A3, R3, S3⟩ := xX A1 S1 x rz
 exact q z H' f1 g' A3 R3 S3 K1
theorem qR (hc : CallD X (.builtin id) L op) (hg : Gl X x) (hm : X.mg x = none) (hv : bootBuiltins x = some (.builtin id)) (ha : DA X (e :: es) u) (hn : x ≠ "__name__" := by decide) (hdb : (x == ("__debug__" : Str)) = false := by decide)
 (he : starEach (e :: es) X.env = (false, eval e X.env) :: starEach es X.env := by rfl) (hpl : (backTo pos (starEach es X.env)).any (·.1) = false := by rfl) : DE X (.Call (.Name x p) (e :: es) [] pos) (dCall L op u) :=
 ⟨PE.imp (pe_callB hc.run hg hm hv ha.run hn hdb he hpl) fun σ H Q q => WP hc.pos hc.mono ha.mono q, WN hc.mono ha.mono⟩
theorem yS (hc : CallD X (.type T) L op) (hg : Gl X x) (hm : X.mg x = none) (hv : bootBuiltins x = some (.type T)) (ha : DA X (e :: es) u) (hn : x ≠ "__name__" := by decide) (hdb : (x == ("__debug__" : Str)) = false := by decide)
 (he : starEach (e :: es) X.env = (false, eval e X.env) :: starEach es X.env := by rfl) (hpl : (backTo pos (starEach es X.env)).any (·.1) = false := by rfl) : DE X (.Call (.Name x p) (e :: es) [] pos) (dCall L op u) :=
 ⟨PE.imp (pe_callTy hc.run hg hm hv ha.run hn hdb he hpl) fun σ H Q q => WP hc.pos hc.mono ha.mono q, WN hc.mono ha.mono⟩
theorem CallD.mk' {fn : Value} (hL : 0 < L) (run : ∀ (pins : List (Addr × Obj)) (s : Shared) (σ : L2.St) (H : Hp) (xs : List V) (us : List Value) (Q : VK) (ds : List D) (g : List Addr), Inv X pins σ H s → Vals xs us → Reps X.K H L ds xs g →
 (op ds fun d => ∀ z H' g, Rep X.K H' 0 d z g → Ext H H' g → Q z H') → wpAny (model X.prog X.w) X.A (call fn us) (EP X pins σ Q) X.xe s) (mono : U9 op) : CallD X fn L op :=
 ⟨fun pins s σ H xs us Q I rs ⟨ds, g, r, q⟩ => run pins s σ H xs us Q ds g I rs r q, mono, hL⟩
end
def op1 (h : D → (D → Prop) → Prop) : OPn := fun ds k => match ds with
 | [d] => h d k
 | _ => False
def op2 (h : D → D → (D → Prop) → Prop) : OPn := fun ds k => match ds with
 | [d, e] => h d e k
 | _ => False
theorem qet {h : D → (D → Prop) → Prop} (m : ∀ d k k', (∀ x, k x → k' x) → h d k → h d k') : U9 (op1 h) := fun ds k k' w q => by
 unfold op1 at q ⊢
 split at q
 ·exact m _ _ _ w q
 ·exact q.elim
theorem qes {h : D → D → (D → Prop) → Prop} (m : ∀ d e k k', (∀ x, k x → k' x) → h d e k → h d e k') : U9 (op2 h) := fun ds k k' w q => by
 unfold op2 at q ⊢
 split at q
 ·exact m _ _ _ _ w q
 ·exact q.elim
theorem Yn {X : Cx} {fn : Value} {L : Nat} {h : D → (D → Prop) → Prop} (hL : 0 < L) (run : ∀ (pins : List (Addr × Obj)) (s : Shared) (σ : L2.St) (H : Hp) (x : V) (us : List Value) (Q : VK) (d : D) (g : List Addr), Inv X pins σ H s → Vals [x] us → Rep X.K H L d x g →
 (h d fun d => ∀ z H' g, Rep X.K H' 0 d z g → Ext H H' g → Q z H') → wpAny (model X.prog X.w) X.A (call fn us) (EP X pins σ Q) X.xe s) (m : ∀ d k k', (∀ x, k x → k' x) → h d k → h d k') : CallD X fn L (op1 h) :=
 .mk' hL (fun pins s σ H xs us Q ds g I rs r q => by
  unfold op1 at q
  split at q
  ·cases r with
   | cons r1 t _ => cases t; exact run pins s σ H _ us Q _ _ I rs r1 q
  ·exact q.elim) (qet m)
theorem call2 {X : Cx} {fn : Value} {L : Nat} {h : D → D → (D → Prop) → Prop} (hL : 0 < L) (run : ∀ (pins : List (Addr × Obj)) (s : Shared) (σ : L2.St) (H : Hp) (x y : V) (us : List Value) (Q : VK) (d e : D) (g g2 : List Addr), Inv X pins σ H s → Vals [x, y] us → Rep X.K H L d x g → Rep X.K H L e y g2 →
 (h d e fun d => ∀ z H' g, Rep X.K H' 0 d z g → Ext H H' g → Q z H') → wpAny (model X.prog X.w) X.A (call fn us) (EP X pins σ Q) X.xe s) (m : ∀ d e k k', (∀ x, k x → k' x) → h d e k → h d e k') : CallD X fn L (op2 h) :=
 .mk' hL (fun pins s σ H xs us Q ds g I rs r q => by
  unfold op2 at q
  split at q
  ·cases r with
   | cons r1 t _ => cases t with
     | cons r2 t _ => cases t; exact run pins s σ H _ _ us Q _ _ _ _ I rs r1 r2 q
  ·exact q.elim) (qes m)
def bLen (d : D) (k : D → Prop) : Prop := match d with
 | .lst xs => k (.int xs.length)
 | .lF xs => k (.int xs.length)
 | .tup xs => k (.int xs.length)
 | .str s => s.length ≤ sizeLine ∧ k (.int s.length)
 | .dK kvs => k (.int kvs.length)
 | .dT kvs => k (.int kvs.length)
 | _ => False
def bAbs (d : D) (k : D → Prop) : Prop := match d with
 | .int i => k (.int (if i < 0 then -i else i))
 | _ => False
def bInt (d : D) (k : D → Prop) : Prop := match d with
 | .int i => k (.int i)
 | .bl b => k (.int (if b then 1 else 0))
 | _ => False
def U5 (a b : D) (k : D → Prop) : Prop := match a, b with
 | .int i, .int j => k (.int (if j < i then j else i))
 | _, _ => False
def qgq (a b : D) (k : D → Prop) : Prop := match a, b with
 | .int i, .int j => k (.int (if j > i then j else i))
 | _, _ => False
def vY (d : D) (k : D → Prop) : Prop := match d with
 | .lst xs => immL xs = true ∧ k (.tup xs)
 | .lF xs => immL xs = true ∧ k (.tup xs)
 | .tup xs => immL xs = true ∧ k (.tup xs)
 | _ => False
def qe1 (d : D) (k : D → Prop) : Prop := match d with
 | .lst xs => immL xs = true ∧ k (.lst xs)
 | .lF xs => immL xs = true ∧ k (.lst xs)
 | .tup xs => immL xs = true ∧ k (.lst xs)
 | _ => False
def bools : List D → Option (List Bool)
 | [] => some []
 | .bl b :: ds => (bools ds).map (b :: ·)
 | _ :: _ => none
def bAll (d : D) (k : D → Prop) : Prop := match d with
 | .lst xs => match bools xs with
   | some bs => k (.bl (bs.all id))
   | none => False
 | _ => False
def bAny (d : D) (k : D → Prop) : Prop := match d with
 | .lst xs => match bools xs with
   | some bs => k (.bl (bs.any id))
   | none => False
 | _ => False
def bSum (d : D) (k : D → Prop) : Prop := match d with
 | .lst xs => match intL xs with
   | some ns => k (.int ns.sum)
   | none => False
 | _ => False
theorem Reps.bools {K : PySem.W.Frag} {H : Hp} {lv : Nat} : ∀ {ds : List D} {vs : List V} {f : List Addr} {ns : List Bool}, Reps K H lv ds vs f → BX.bools ds = some ns → vs = ns.map V.bl
 | _, _, _, _, .nil, e => by
   rw [BX.bools] at e; cases e; rfl
 | _, _, _, ns, .cons (d := d) (ds := ds) r t _, e => by
   cases r with
   | bl i =>
     rw [BX.bools] at e
     obtain ⟨ms, h1, h2⟩ := Option.map_eq_some_iff.mp e
     subst h2
     rw [Reps.bools t h1]
     rfl
   | _ => rw [BX.bools] at e <;> first | (cases e) | (intro i z; cases z)
section
variable {X : Cx} (hx : Ok X)
theorem qcb : CallD X (.builtin "abs") 2 (op1 bAbs) := Yn (by decide) (fun pins s σ H x us Q d g I rs r q => by
 unfold bAbs at q
 split at q
 ·obtain ⟨rfl, _⟩ := r.intV
  exact call_abs pins s σ H _ us Q I rs ⟨_, rfl, q _ _ [] (.int _) .refl⟩
 ·exact q.elim) (fun d k k' h q => by
 unfold bAbs at q ⊢
 split at q
 ·exact h _ q
 ·exact q.elim)
theorem JN : CallD X (.type "int") 2 (op1 bInt) := Yn (by decide) (fun pins s σ H x us Q d g I rs r q => by
 unfold bInt at q
 split at q
 ·obtain ⟨rfl, _⟩ := r.intV
  exact call_int1 pins s σ H _ us Q I rs (.inl ⟨_, rfl, q _ _ [] (.int _) .refl⟩)
 ·obtain ⟨rfl, _⟩ := r.blV
  exact call_int1 pins s σ H _ us Q I rs (.inr ⟨_, rfl, q _ _ [] (.int _) .refl⟩)
 ·exact q.elim) (fun d k k' h q => by
 unfold bInt at q ⊢
 split at q
 ·exact h _ q
 ·exact h _ q
 ·exact q.elim)
include hx in
theorem qdk : CallD X (.builtin "min") 2 (op2 U5) := call2 (by decide) (fun pins s σ H x y us Q d e g g2 I rs r r2 q => by
 unfold U5 at q
 split at q
 ·obtain ⟨rfl, _⟩ := r.intV
  obtain ⟨rfl, _⟩ := r2.intV
  exact call_min2 hx.calm pins s σ H _ us Q I rs ⟨_, _, rfl, q _ _ [] (.int _) .refl⟩
 ·exact q.elim) (fun d e k k' h q => by
 unfold U5 at q ⊢
 split at q
 ·exact h _ q
 ·exact q.elim)
theorem JM : CallD X (.type "tuple") 1 (op1 vY) := Yn (by decide) (fun pins s σ H x us Q d g I rs r q => by
 unfold vY at q
 split at q
 ·obtain ⟨a, vs, g', rfl, hs, rr, _, _⟩ := r.listSq
  obtain ⟨rfl, r0⟩ := rr.imm (Nat.le_refl _) q.1
  exact call_tuple_of pins s σ H _ us Q I rs ⟨_, _, rfl, .inl ⟨hs, fun l hl => q.2 _ _ _ (Qs hl r0) (.updT hl)⟩⟩
 ·obtain ⟨a, vs, rfl, hs, rr, _⟩ := r.lFSq
  obtain ⟨rfl, r0⟩ := rr.imm (Nat.le_refl _) q.1
  exact call_tuple_of pins s σ H _ us Q I rs ⟨_, _, rfl, .inl ⟨hs, fun l hl => q.2 _ _ _ (Qs hl r0) (.updT hl)⟩⟩
 ·obtain ⟨rfl, r0⟩ := r.imm (Nat.le_refl _) (by rw [D.imm]; exact q.1)
  obtain ⟨a, vs, rfl, hs, rr⟩ := r.tupleSq
  exact call_tuple_of pins s σ H _ us Q I rs ⟨_, _, rfl, .inr ⟨hs, q.2 _ _ _ r0 .refl⟩⟩
 ·exact q.elim) (fun d k k' h q => by
 unfold vY at q ⊢
 split at q
 ·exact ⟨q.1, h _ q.2⟩
 ·exact ⟨q.1, h _ q.2⟩
 ·exact ⟨q.1, h _ q.2⟩
 ·exact q.elim)
include hx in
theorem Ym : CallD X (.builtin "all") 2 (op1 bAll) := Yn (by decide) (fun pins s σ H x us Q d g I rs r q => by
 unfold bAll at q
 split at q
 ·split at q
  ·rename_i e
   obtain ⟨a, vs, g', rfl, hs, rr, _, _⟩ := r.listSq
   rw [rr.bools e] at hs
   exact cr_all hx.calm pins s σ H _ us Q I rs ⟨_, _, rfl, hs, q _ _ [] (.bl _) .refl⟩
  ·exact q.elim
 ·exact q.elim) (fun d k k' h q => by
 unfold bAll at q ⊢
 split at q
 ·split at q
  ·simp only [*] <;> exact h _ q
  ·exact q.elim
 ·exact q.elim)
end
end BX
namespace BX
open PySem PySem.Spec PyProof.Rows L2
section
variable {K : PySem.W.Frag} {σ : L2.St} {H H1 H2 H' : Hp} {env e1 e2 : En} {f f1 f2 : FA} {G G' g g' gs fp' : List Addr} {i : Nat} {d d' : D} {m : Md} {v x : V}
theorem qaQ {ta : XE} {u : XA} {C : R → List R → En → Prop} {B : R → En → Prop} (ma : yw ta) (mu : vz u) (A : Abs K σ H env f) (q : ta env fun r1 e1 => B r1 e1 ∧ u e1 fun rs e2 => C r1 rs e2) :
 xN K ta σ H fun x H1 => (∃ r1 e1 f1 g1, Abs K σ H1 e1 f1 ∧ ResOk K σ H1 e1 f1 r1 x g1 ∧ B r1 e1) ∧ Ux K u σ H1 fun vs H2 => ∃ r1 rs e2 f2 g1 gs, Abs K σ H2 e2 f2 ∧ ResOk K σ H2 e2 f2 r1 x g1 ∧ ResOks K σ H2 e2 f2 rs vs gs ∧ (∀ b ∈ g1, b ∉ gs) ∧
  Stp H env f [] H2 e2 f2 (g1 ++ gs) ∧ Kp env f e2 f2 ∧ C r1 rs e2 := by
 refine ⟨env, f, A, ma _ _ _ (fun r1 e1 q1 => ?_) q⟩
 intro x H1 f1 g1 A1 R1 S1 K1
 refine ⟨⟨r1, e1, f1, g1, A1, R1, q1.1⟩, e1, f1, A1, mu _ _ _ (fun rs e2 q2 => ?_) q1.2⟩
 intro vs H2 f2 gs A2 R2 S2 K2
 obtain ⟨R1', n⟩ := R1.wait A1 S2 K2
 exact ⟨r1, rs, e2, f2, g1, gs, A2, R1', R2, n, S1.trans (S2.frame g1), K1.trans K2, q2⟩
theorem Xg {ys : List D} {ws vs : List V} {a : Addr} {fp : List Addr} (A : Abs K σ H env f) (e : env[i]? = some (some (d, m))) (hm : m.rd = false) (hl : m.lv = 0) (hv : σ[i]? = some (some (.ref a)))
 (ha : H a = some (.lst vs)) (hf : f i = a :: fp) (nfp : a ∉ fp) (r : Reps K H 0 ys ws fp') (sub : ∀ b ∈ fp', b ∈ fp ∨ b ∈ G) (hG : ∀ b ∈ G, ¬ L0 env f b ∧ ¬ Ro env f b) (hG' : ∀ b ∈ G', (b ∈ fp ∨ b ∈ G) ∧ b ∉ fp') :
 Abs K σ (upd H a (.lst ws)) (env.set i (some (.lst ys, m))) (fset f i (a :: fp')) ∧ Stp H env f G (upd H a (.lst ws)) (env.set i (some (.lst ys, m))) (fset f i (a :: fp')) G' ∧ Kp env f (env.set i (some (.lst ys, m))) (fset f i (a :: fp')) ∧
  (∀ b ∈ G', ¬ L0 (env.set i (some (.lst ys, m))) (fset f i (a :: fp')) b ∧ ¬ Ro (env.set i (some (.lst ys, m))) (fset f i (a :: fp')) b) := by
 have aG : a ∉ G := fun z => (hG a z).1 ⟨i, d, m, e, hl, by rw [hf]; exact List.mem_cons_self ..⟩
 have afp' : a ∉ fp' := fun z => (sub a z).elim nfp aG
 refine A.mut e hm hv (fun b o hb n => ?_) ?_ (fun b hb => ?_) hG fun b hb => ⟨?_, fun z => ?_⟩
 ·have : b ≠ a := fun z => n (by rw [hf, z]; exact List.mem_cons_self ..)
  rw [upd_ne this]; exact hb
 ·rw [hl]
  refine .lst upd_same (r.keep fun b o hb q => ?_) fun _ => afp'
  have : b ≠ a := fun z => by
   subst z
   rcases q with q | q
   ·exact afp' q
   ·rw [ha] at hb; cases hb; cases q
  rw [upd_ne this]; exact hb
 ·rcases List.mem_cons.mp hb with rfl | hb
  ·exact .inl (by rw [hf]; exact List.mem_cons_self ..)
  ·rcases sub b hb with z | z
   ·exact .inl (by rw [hf]; exact List.mem_cons_of_mem _ z)
   ·exact .inr (.inl z)
 ·rcases (hG' b hb).1 with z | z
  ·exact .inl (by rw [hf]; exact List.mem_cons_of_mem _ z)
  ·exact .inr (.inl z)
 ·rcases List.mem_cons.mp z with rfl | z
  ·exact (hG' b hb).1.elim nfp aG
  ·exact (hG' b hb).2 z
theorem qeQ {kvs : List (List Key × D)} {hs : List (List Key × V)} {ho : HO} {a : Addr} {fp : List Addr} (A : Abs K σ H env f) (e : env[i]? = some (some (d, m))) (hm : m.rd = false) (hl : m.lv = 0) (hv : σ[i]? = some (some (.ref a)))
 (ha : H a = some ho) (mo : Mu ho = true) (hf : f i = a :: fp) (nfp : a ∉ fp) (ek : hs.map (·.1) = kvs.map (·.1)) (nd : (kvs.map (·.1)).Nodup) (r : Reps K H 0 (kvs.map (·.2)) (hs.map (·.2)) fp') (sub : ∀ b ∈ fp', b ∈ fp ∨ b ∈ G) (hG : ∀ b ∈ G, ¬ L0 env f b ∧ ¬ Ro env f b)
 (hG' : ∀ b ∈ G', (b ∈ fp ∨ b ∈ G) ∧ b ∉ fp') :
 Abs K σ (upd H a (.dT hs)) (env.set i (some (.dT kvs, m))) (fset f i (a :: fp')) ∧ Stp H env f G (upd H a (.dT hs)) (env.set i (some (.dT kvs, m))) (fset f i (a :: fp')) G' ∧ Kp env f (env.set i (some (.dT kvs, m))) (fset f i (a :: fp')) ∧
  (∀ b ∈ G', ¬ L0 (env.set i (some (.dT kvs, m))) (fset f i (a :: fp')) b ∧ ¬ Ro (env.set i (some (.dT kvs, m))) (fset f i (a :: fp')) b) := by
 have aG : a ∉ G := fun z => (hG a z).1 ⟨i, d, m, e, hl, by rw [hf]; exact List.mem_cons_self ..⟩
 have afp' : a ∉ fp' := fun z => (sub a z).elim nfp aG
 refine A.mut e hm hv (fun b o hb n => ?_) ?_ (fun b hb => ?_) hG fun b hb => ⟨?_, fun z => ?_⟩
 ·have : b ≠ a := fun z => n (by rw [hf, z]; exact List.mem_cons_self ..)
  rw [upd_ne this]; exact hb
 ·rw [hl]
  refine .dT upd_same ek nd (r.keep fun b o hb q => ?_) fun _ => afp'
  have : b ≠ a := fun z => by
   subst z
   rcases q with q | q
   ·exact afp' q
   ·rw [ha] at hb; cases hb; rw [mo] at q; cases q
  rw [upd_ne this]; exact hb
 ·rcases List.mem_cons.mp hb with rfl | hb
  ·exact .inl (by rw [hf]; exact List.mem_cons_self ..)
  ·rcases sub b hb with z | z
   ·exact .inl (by rw [hf]; exact List.mem_cons_of_mem _ z)
   ·exact .inr (.inl z)
 ·rcases (hG' b hb).1 with z | z
  ·exact .inl (by rw [hf]; exact List.mem_cons_of_mem _ z)
  ·exact .inr (.inl z)
 ·rcases List.mem_cons.mp z with rfl | z
  ·exact (hG' b hb).1.elim nfp aG
  ·exact (hG' b hb).2 z
end
def D.isLst : D → Bool
 | .lst _ => true
 | _ => false
def chgL (r : R) (env : En) (k : Nat → List D → Md → Prop) : Prop := chg r env fun i d m => match d with
 | .lst xs => k i xs m
 | _ => False
theorem Yl {r : R} {env : En} {k k' : Nat → List D → Md → Prop} (h : ∀ i d m, k i d m → k' i d m) (q : chgL r env k) : chgL r env k' := JL (fun i d m q => by
 split at q
 ·exact h _ _ _ q
 ·exact q.elim) q
theorem qaM {K : PySem.W.Frag} {σ : L2.St} {H : Hp} {env : En} {f : FA} {r : R} {v : V} {g : List Addr} {k : Nat → List D → Md → Prop} (A : Abs K σ H env f) (h : ResOk K σ H env f r v g) (q : chgL r env k) :
 ∃ i xs m a vs fp, v = .ref a ∧ env[i]? = some (some (.lst xs, m)) ∧ m.rd = false ∧ m.lv = 0 ∧ σ[i]? = some (some (.ref a)) ∧ H a = some (.lst vs) ∧ Reps K H 0 xs vs fp ∧ f i = a :: fp ∧ a ∉ fp ∧ g = [] ∧ k i xs m := by
 obtain ⟨i, d, m, e, hm, hl, hv, rp, rfl, q⟩ := qca A h q
 split at q
 ·obtain ⟨a, vs, fp, rfl, ha, rr, hf, n⟩ := rp.listAt
  exact ⟨i, _, m, a, vs, fp, rfl, e, hm, hl, hv, ha, rr, hf, n, rfl, q⟩
 ·exact q.elim
def chgT (r : R) (env : En) (k : Nat → List (List Key × D) → Md → Prop) : Prop := chg r env fun i d m => match d with
 | .dT xs => k i xs m
 | _ => False
def one (rs : List R) (k : R → Prop) : Prop := match rs with
 | [r] => k r
 | _ => False
abbrev B1 := R → R → En → (R → En → Prop) → Prop
def dM1 (isT : D → Bool) (B : B1) (ta te : XE) : XE := fun env Q => ta env fun r1 e1 => (rd 2 r1 e1 fun d => isT d = true) ∧ te e1 fun r2 e2 => B r1 r2 e2 Q
structure M1Ok (X : Cx) (T : String) (isT : D → Bool) (rr : V → List V → Hp → VK → Prop) (B : B1) : Prop where
 ty : ∀ (H : Hp) (d : D) (x : V) (g : List Addr), Rep X.K H 2 d x g → isT d = true → tyV X.K T x H
 run : ∀ (σ : L2.St) (H : Hp) (e : En) (f : FA) (r1 r2 : R) (x y : V) (g1 g2 : List Addr) (QQ : R → En → Prop) (Q : VK), Abs X.K σ H e f → ResOk X.K σ H e f r1 x g1 → ResOk X.K σ H e f r2 y g2 → (∀ b ∈ g1, b ∉ g2) → B r1 r2 e QQ →
  (∀ v H' e' f' r' g', Abs X.K σ H' e' f' → ResOk X.K σ H' e' f' r' v g' → Stp H e f (g1 ++ g2) H' e' f' g' → Kp e f e' f' → QQ r' e' → Q v H') → rr x [y] H Q
 mono : ∀ r1 r2 e Q Q', (∀ r e, Q r e → Q' r e) → B r1 r2 e Q → B r1 r2 e Q'
section
variable {X : Cx} {o e : Expr} {ta te : XE} {cpos apos : Pos} {T id : String} {name : Str} {isT : D → Bool} {rr : V → List V → Hp → VK → Prop} {B : B1}
theorem qeP (ok : M1Ok X T isT rr B) (pa : PlainAttrs T) (slot : Slot T name id) (hty : typeOf (.builtin id) = pure (.type "method_descriptor")) (hm : MtR X id rr) (ho : DE X o ta) (he : DE X e te) (hbase : attributeBase o name X.env (eval o X.env) = eval o X.env := by rfl)
 (hfew : ((backTo cpos (starEach [e] X.env)).all (fun x => !x.1) && (backToKw cpos (keywordEach [] X.env)).all (fun x => x.1.isSome)
  && decide (([e] : List Expr).length + ([] : List Keyword).length + (if ([] : List Keyword).isEmpty then 0 else 1) < 30)) = true := by rfl)
 (hline : (apos.endLine == cpos.line) = true := by rfl) (hs : starEach [e] X.env = (false, eval e X.env) :: starEach [] X.env := by rfl) (hplain : (backTo cpos (starEach [] X.env)).any (·.1) = false := by rfl) :
 DE X (.Call (.Attribute o name apos) [e] [] cpos) (dM1 isT B ta te) := by
 have ha := qb he qp hs
 refine ⟨PE.imp (pe_bm pa slot hty hm ho.run ha.run hbase hfew hline hs hplain) fun σ H Q q => ?_, fun env Q Q' h q => ?_⟩
 ·obtain ⟨env, f, A, q⟩ := q
  have h := qaQ (B := fun r1 e1 => rd 2 r1 e1 fun d => isT d = true) (C := fun r1 rs e2 => one rs fun r2 => B r1 r2 e2 (U8 X.K σ H env f Q)) ho.mono ha.mono A q
  obtain ⟨env1, f1, A1, q1⟩ := h
  refine ⟨env1, f1, A1, ho.mono _ _ _ (fun r1 e1 z => ?_) q1⟩
  intro x H1 f1 g1 a b c d
  obtain ⟨⟨r0, e0, f0, g0, A0, R0, B0⟩, env2, f2, A2, q2⟩ := z x H1 f1 g1 a b c d
  obtain ⟨d0, g00, rp0, B0⟩ := yg A0 R0 B0
  refine ⟨ok.ty _ _ _ _ rp0 B0, env2, f2, A2, ha.mono _ _ _ (fun rs e2 z => ?_) q2⟩
  intro vs H2 f2 g2 a b c d
  obtain ⟨r1, rs, e2, f2, g1, gs, A2, R1, R2, n, S, Kk, q3⟩ := z vs H2 f2 g2 a b c d
  cases R2 with
  | nil => exact q3.elim
  | @cons r2 y g _ _ gs R2 Rt nd =>
    cases Rt with
    | cons _ _ _ => exact q3.elim
    | nil =>
      rw [List.append_nil] at S n
      exact ok.run σ H2 e2 f2 r1 r2 x y g1 g _ Q A2 R1 R2 n q3 fun v H' e' f' r' g' A' R' S' K' q => q v H' f' g' A' R' (S.trans S') (Kk.trans K')
 ·exact ho.mono _ _ _ (fun r1 e1 q => ⟨q.1, he.mono _ _ _ (fun r2 e2 q => ok.mono _ _ _ _ _ h q) q.2⟩) q
end
theorem qbH {K : PySem.W.Frag} (H : Hp) (d : D) (x : V) (g : List Addr) (rp : Rep K H 2 d x g) (e : d.isLst = true) : tyV K "list" x H := by
 cases rp with
 | lst h1 r n => exact .inl ⟨rfl, _, .inl (.inl h1)⟩
 | lstF l h1 r => exact .inl ⟨rfl, _, h1.sq⟩
 | _ => cases e
def bAppend : B1 := fun r1 r2 e Q => stor r2 e fun d => chgL r1 e fun i xs m => xs.length < sizeLine ∧ Q (.tmp .non) (e.set i (some (.lst (xs ++ [d]), m)))
def W8 (r : R) (env : En) (k : List D → Prop) : Prop := match r with
 | .tmp (.lst ys) => k ys
 | r => rd 1 r env fun d => match d with
   | .lst ys => immL ys = true ∧ k ys
   | _ => False
def vL : B1 := fun r1 r2 e Q => W8 r2 e fun ys => chgL r1 e fun i xs m => xs.length + ys.length ≤ sizeLine ∧ Q (.tmp .non) (e.set i (some (.lst (xs ++ ys), m)))
theorem Ur {r : R} {env : En} {k k' : List D → Prop} (h : ∀ d, k d → k' d) (q : W8 r env k) : W8 r env k' := by
 unfold W8 at q ⊢
 split at q
 ·exact h _ q
 ·refine qL (fun d q => ?_) q
  split at q
  ·exact ⟨q.1, h _ q.2⟩
  ·exact q.elim
theorem qa9 {K : PySem.W.Frag} {σ : L2.St} {H : Hp} {env : En} {f : FA} {r : R} {v : V} {g : List Addr} {k : List D → Prop} (A : Abs K σ H env f) (h : ResOk K σ H env f r v g) (q : W8 r env k) :
 ∃ ys b ws gy, v = .ref b ∧ H b = some (.lst ws) ∧ Reps K H 0 ys ws gy ∧ k ys ∧ (∀ b ∈ gy, b ∈ g ∧ ¬ L0 env f b ∧ ¬ Ro env f b) := by
 unfold W8 at q
 split at q
 ·cases h with
  | tmp rp n =>
    obtain ⟨b, ws, gy, rfl, hb, rr, rfl, _⟩ := rp.listAt
    exact ⟨_, b, ws, gy, rfl, hb, rr, q, fun b hb => ⟨List.mem_cons_of_mem _ hb, n b (List.mem_cons_of_mem _ hb)⟩⟩
 ·obtain ⟨d, g', rp, q⟩ := yg A h q
  split at q
  ·obtain ⟨b, ws, gy, rfl, hb, rr, _⟩ := rp.listAt1 (Nat.le_refl _)
   obtain ⟨rfl, r0⟩ := rr.imm (Nat.le_refl _) q.1
   exact ⟨_, b, ws, [], rfl, hb, r0, q.2, fun b hb => by simp at hb⟩
  ·exact q.elim
section
variable {X : Cx}
theorem m_append : M1Ok X "list" D.isLst rAppend bAppend where
 ty := qbH
 mono := fun r1 r2 e Q Q' h q => uQ (fun d q => Yl (fun i xs m q => ⟨q.1, h _ _ q.2⟩) q) q
 run := fun σ H e f r1 r2 x y g1 g2 QQ Q A R1 R2 n q k => by
  obtain ⟨d, rd1, q, nn⟩ := W7 A R2 q
  obtain ⟨i, xs, m, a, ws, fp, rfl, e, hm, hl, hv, hH, rr, hf, nfp, rfl, hz, q⟩ := qaM A R1 q
  have dj : ∀ b ∈ fp, b ∉ g2 := fun b hb z => (nn b z).1 ⟨i, _, m, e, hl, by rw [hf]; exact List.mem_cons_of_mem _ hb⟩
  obtain ⟨A3, S3, K3, _⟩ := Xg (G := [] ++ g2) (G' := []) A e hm hl hv hH hf nfp (rr.append (.one rd1) (fun _ b hb z => dj b hb z)) (fun b hb => (List.mem_append.mp hb).imp_right fun z => by simpa using z) (fun b hb => nn b (by simpa using hb)) ql
  exact ⟨a, ws, y, rfl, rfl, hH, by rw [← rr.len]; exact hz, k _ _ _ _ _ [] A3 (.tmp .non ql) S3 K3 q⟩
theorem m_extend : M1Ok X "list" D.isLst rExtend vL where
 ty := qbH
 mono := fun r1 r2 e Q Q' h q => Ur (fun d q => Yl (fun i xs m q => ⟨q.1, h _ _ q.2⟩) q) q
 run := fun σ H e f r1 r2 x y g1 g2 QQ Q A R1 R2 n q k => by
  obtain ⟨ys, b, zs, gy, rfl, hb, rb, q, nn⟩ := qa9 A R2 q
  obtain ⟨i, xs, m, a, ws, fp, rfl, e, hm, hl, hv, hH, rr, hf, nfp, rfl, hz, q⟩ := qaM A R1 q
  have dj : ∀ b ∈ fp, b ∉ gy := fun b hb z => (nn b z).2.1 ⟨i, _, m, e, hl, by rw [hf]; exact List.mem_cons_of_mem _ hb⟩
  obtain ⟨A3, S3, K3, _⟩ := Xg (G := gy) (G' := []) A e hm hl hv hH hf nfp (rr.append rb (fun _ b hb z => dj b hb z)) (fun b hb => List.mem_append.mp hb) (fun b hb => (nn b hb).2) ql
  exact ⟨a, b, ws, zs, rfl, rfl, hH, hb, by rw [← rr.len, ← rb.len]; exact hz, k _ _ _ _ _ [] A3 (.tmp .non ql) (S3.more fun b hb => by simpa using (nn b hb).1) K3 q⟩
variable {o e : Expr} {ta te : XE} {cpos apos : Pos}
theorem qaI (ho : DE X o ta) (he : DE X e te) (hbase : attributeBase o "append" X.env (eval o X.env) = eval o X.env := by rfl)
 (hfew : ((backTo cpos (starEach [e] X.env)).all (fun x => !x.1) && (backToKw cpos (keywordEach [] X.env)).all (fun x => x.1.isSome)
  && decide (([e] : List Expr).length + ([] : List Keyword).length + (if ([] : List Keyword).isEmpty then 0 else 1) < 30)) = true := by rfl)
 (hline : (apos.endLine == cpos.line) = true := by rfl) (hs : starEach [e] X.env = (false, eval e X.env) :: starEach [] X.env := by rfl) (hplain : (backTo cpos (starEach [] X.env)).any (·.1) = false := by rfl) :
 DE X (.Call (.Attribute o "append" apos) [e] [] cpos) (dM1 D.isLst bAppend ta te) :=
 qeP m_append PySem.F.plainAttrs_list PySem.F.slot_list_append PySem.F.type_list_append mt_append ho he hbase hfew hline hs hplain
theorem qaG (ho : DE X o ta) (he : DE X e te) (hbase : attributeBase o "extend" X.env (eval o X.env) = eval o X.env := by rfl)
 (hfew : ((backTo cpos (starEach [e] X.env)).all (fun x => !x.1) && (backToKw cpos (keywordEach [] X.env)).all (fun x => x.1.isSome)
  && decide (([e] : List Expr).length + ([] : List Keyword).length + (if ([] : List Keyword).isEmpty then 0 else 1) < 30)) = true := by rfl)
 (hline : (apos.endLine == cpos.line) = true := by rfl) (hs : starEach [e] X.env = (false, eval e X.env) :: starEach [] X.env := by rfl) (hplain : (backTo cpos (starEach [] X.env)).any (·.1) = false := by rfl) :
 DE X (.Call (.Attribute o "extend" apos) [e] [] cpos) (dM1 D.isLst vL ta te) :=
 qeP m_extend PySem.F.plainAttrs_list PySem.F.slot_list_extend PySem.F.type_list_extend mt_extend ho he hbase hfew hline hs hplain
end
structure FS where
 ms : List Md
 wp : List D → (D → List D → Prop) → Prop
def uM (S : FS) : Prop := ∀ ds Q Q', (∀ d es, Q d es → Q' d es) → S.wp ds Q → S.wp ds Q'
def penv (ms : List Md) (ds : List D) : En := List.zipWith (fun d m => some (d, m)) ds ms
def spOf (K : PySem.W.Frag) (S : FS) : Sp := fun vs H Q _ => vs.length = S.ms.length ∧ ∃ ds f, ds.length = S.ms.length ∧ Abs K (vs.map some) H (penv S.ms ds) f ∧
 S.wp ds fun d ds' => ∀ v H' f' g, ds'.length = S.ms.length → Abs K (vs.map some) H' (penv S.ms ds') f' → Rep K H' 0 d v g → (∀ b ∈ g, ¬ L0 (penv S.ms ds') f' b ∧ ¬ Ro (penv S.ms ds') f' b) →
  Stp H (penv S.ms ds) f [] H' (penv S.ms ds') f' g → Kp (penv S.ms ds) f (penv S.ms ds') f' → Q v H'
def Wg (m : Md) (r : R) (env : En) : Bool := match m with
 | .own => false
 | .lk => false
 | .io => match r with
   | .tmp _ => true
   | .sl i => match env[i]? with
     | some (some (_, .own)) => true
     | some (some (_, .io)) => true
     | _ => false
   | .ro _ _ => false
 | .ro => match r with
   | .tmp _ => true
   | .sl _ => true
   | .ro c _ => !c
 | .cst => true
def yq : List Md → List R → En → Bool
 | [], [], _ => true
 | m :: ms, r :: rs, env => Wg m r env && yq ms rs env
 | _, _, _ => false
def isSl (i : Nat) : R → Bool
 | .sl j => j == i
 | _ => false
def apart (ms : List Md) (rs : List R) : Bool := (List.range rs.length).all fun p => (List.range rs.length).all fun q => p == q || match ms[p]?, rs[p]?, rs[q]? with
 | some m, some (.sl i), some (.sl j) => m.rd || i != j
 | _, _, _ => true
def wj : List Md → List R → Nat → Option Nat
 | m :: ms, r :: rs, i => match !m.rd && isSl i r with
   | true => some 0
   | false => (wj ms rs i).map (· + 1)
 | _, _, _ => none
def Yt (ms : List Md) (rs : List R) (ds : List D) (i : Nat) (x : Option (D × Md)) : Option (D × Md) := match wj ms rs i with
 | some p => match ds[p]?, x with
   | some d, some (_, m) => some (d, m)
   | _, x => x
 | none => x
def putB (ms : List Md) (rs : List R) (ds : List D) : Nat → En → En
 | _, [] => []
 | i, x :: xs => Yt ms rs ds i x :: putB ms rs ds (i + 1) xs
def dFn (S : FS) (u : XA) : XE := fun env Q => u env fun rs e => yq S.ms rs e = true ∧ apart S.ms rs = true ∧ jo 2 rs e fun ds => S.wp ds fun d ds' => Q (.tmp d) (putB S.ms rs ds' 0 e)
theorem Qi {ms : List Md} {rs : List R} {ds : List D} : ∀ (k : Nat) (env : En) (i : Nat), (putB ms rs ds k env)[i]? = (env[i]?).map (Yt ms rs ds (k + i))
 | k, [], i => by rw [putB]; rfl
 | k, x :: xs, 0 => by rw [putB]; rfl
 | k, x :: xs, i + 1 => by
   rw [putB, List.getElem?_cons_succ, List.getElem?_cons_succ, Qi (k + 1) xs i]
   rw [show k + 1 + i = k + (i + 1) by omega]
theorem Jb {ms : List Md} {rs : List R} {ds : List D} : ∀ (k : Nat) (env : En), (putB ms rs ds k env).length = env.length
 | k, [] => by rw [putB]
 | k, x :: xs => by rw [putB, List.length_cons, List.length_cons, Jb (k + 1) xs]
theorem yO : ∀ {ms : List Md} {rs : List R} {i p : Nat}, wj ms rs i = some p → ∃ m, ms[p]? = some m ∧ m.rd = false ∧ rs[p]? = some (.sl i)
 | [], _, _, _, h => by rw [wj] at h <;> first | (cases h) | (intros; contradiction)
 | _ :: _, [], _, _, h => by rw [wj] at h <;> first | (cases h) | (intros; contradiction)
 | m :: ms, r :: rs, i, p, h => by
   rw [wj] at h
   split at h
   ·rename_i e
    cases h
    rw [Bool.and_eq_true] at e
    refine ⟨m, rfl, by cases hm : m.rd <;> simp [hm] at e ⊢, ?_⟩
    cases r with
    | sl j => have := eq_of_beq (show (j == i) = true from e.2); subst this; rfl
    | _ => cases e.2
   ·cases h' : wj ms rs i with
    | none => rw [h'] at h; cases h
    | some q =>
      rw [h'] at h; cases h
      obtain ⟨m', a, b, c⟩ := yO h'
      exact ⟨m', by simpa using a, b, by simpa using c⟩
theorem vP : ∀ {ms : List Md} {rs : List R} {i p : Nat} {m : Md}, wj ms rs i = none → ms[p]? = some m → m.rd = false → rs[p]? = some (.sl i) → False
 | [], _, _, _, _, _, h, _, _ => by simp at h
 | _ :: _, [], _, _, _, _, _, _, h => by simp at h
 | m :: ms, r :: rs, i, 0, m', h, h1, h2, h3 => by
   cases h1; cases h3
   rw [wj] at h
   simp [h2, isSl] at h
 | m :: ms, r :: rs, i, p + 1, m', h, h1, h2, h3 => by
   rw [wj] at h
   split at h
   ·cases h
   ·exact vP (p := p) (by cases h' : wj ms rs i with
     | none => rfl
     | some q => rw [h'] at h; cases h) (by simpa using h1) h2 (by simpa using h3)
theorem qaT {ms : List Md} {rs : List R} (h : apart ms rs = true) {p q i : Nat} {m : Md} (hpq : p ≠ q) (h1 : ms[p]? = some m) (h2 : m.rd = false) (h3 : rs[p]? = some (.sl i)) (h4 : rs[q]? = some (.sl i)) : False := by
 unfold apart at h
 rw [List.all_eq_true] at h
 have a := h p (List.mem_range.mpr (List.getElem?_eq_some_iff.mp h3).1)
 rw [List.all_eq_true] at a
 have b := a q (List.mem_range.mpr (List.getElem?_eq_some_iff.mp h4).1)
 simp [h1, h2, h3, h4, hpq] at b
theorem wV {ms : List Md} {ds : List D} {p : Nat} {d : D} {m : Md} : (penv ms ds)[p]? = some (some (d, m)) ↔ ds[p]? = some d ∧ ms[p]? = some m := by
 unfold penv
 rw [List.getElem?_zipWith]
 cases h1 : ds[p]? <;> cases h2 : ms[p]? <;> simp
theorem Ql {ms : List Md} {ds : List D} (h : ds.length = ms.length) : (penv ms ds).length = ms.length := by
 unfold penv
 rw [List.length_zipWith, h, Nat.min_self]
section
variable {K : PySem.W.Frag} {σ : L2.St} {H : Hp} {env : En} {f : FA}
theorem ResOks.get : ∀ {rs : List R} {vs : List V} {gs : List Addr}, ResOks K σ H env f rs vs gs → ∃ ga : Nat → List Addr, (∀ (p : Nat) (r : R), rs[p]? = some r → ∃ v, vs[p]? = some v ∧ ResOk K σ H env f r v (ga p) ∧ ∀ b ∈ ga p, b ∈ gs) ∧
 ∀ p q, p < rs.length → q < rs.length → p ≠ q → ∀ b ∈ ga p, b ∉ ga q
 | _, _, _, .nil => ⟨fun _ => [], fun p r h => by simp at h, fun p q h => by simp at h⟩
 | _, _, _, .cons (r := r) (v := v) (g := g) (rs := rs) (vs := vs) (gs := gs) h t n => by
   obtain ⟨ga, h1, h2⟩ := ResOks.get t
   refine ⟨fun p => match p with
    | 0 => g
    | p + 1 => ga p, fun p r' e => ?_, fun p q hp hq hpq b hb hb' => ?_⟩
   ·cases p with
    | zero => cases e; exact ⟨v, rfl, h, fun b hb => List.mem_append_left _ hb⟩
    | succ p =>
      obtain ⟨v', e1, e2, e3⟩ := h1 p r' (by simpa using e)
      exact ⟨v', by simpa using e1, e2, fun b hb => List.mem_append_right _ (e3 b hb)⟩
   ·have inn : ∀ p, p < rs.length → ∀ b ∈ ga p, b ∈ gs := fun p hp b hb => by
     obtain ⟨v', _, _, e3⟩ := h1 p _ (List.getElem?_eq_getElem hp)
     exact e3 b hb
    cases p with
    | zero => cases q with
      | zero => exact hpq rfl
      | succ q => exact n b hb (inn q (by simpa using hq) b hb')
    | succ p => cases q with
      | zero => exact n b hb' (inn p (by simpa using hp) b hb)
      | succ q => exact h2 p q (by simpa using hp) (by simpa using hq) (by omega) b hb hb'
theorem Wv {L : Nat} : ∀ {rs : List R} {k : List D → Prop}, jo L rs env k → ∃ ds : List D, rs.map (R.data L env) = ds.map some ∧ k ds
 | [], _, q => ⟨[], rfl, q⟩
 | r :: rs, k, q => by
   have q' : rd L r env fun d => jo L rs env fun ds => k (d :: ds) := q
   unfold rd at q'
   cases e : r.data L env with
   | none => rw [e] at q'; exact q'.elim
   | some d =>
     rw [e] at q'
     obtain ⟨ds, h1, h2⟩ := Wv q'
     exact ⟨d :: ds, by rw [List.map_cons, List.map_cons, e, h1], h2⟩
theorem Wx : ∀ {ms : List Md} {rs : List R}, yq ms rs env = true → ms.length = rs.length ∧ ∀ (p : Nat) (m : Md) (r : R), ms[p]? = some m → rs[p]? = some r → Wg m r env = true
 | [], [], _ => ⟨rfl, fun p m r h => by simp at h⟩
 | [], _ :: _, h => by rw [yq] at h <;> first | (cases h) | (intros; contradiction)
 | _ :: _, [], h => by rw [yq] at h <;> first | (cases h) | (intros; contradiction)
 | m :: ms, r :: rs, h => by
   rw [yq, Bool.and_eq_true] at h
   obtain ⟨e1, e2⟩ := Wx h.2
   refine ⟨by rw [List.length_cons, List.length_cons, e1], fun p m' r' h1 h2 => ?_⟩
   cases p with
   | zero => cases h1; cases h2; exact h.1
   | succ p => exact e2 p m' r' (by simpa using h1) (by simpa using h2)
theorem Xl {rs : List R} {vs : List V} {gs : List Addr} {S : FS} (A : Abs K σ H env f) (Rs : ResOks K σ H env f rs vs gs) (ok : yq S.ms rs env = true) (ap : apart S.ms rs = true) {k : List D → Prop} (q : jo 2 rs env k) :
 ∃ ds fa, ds.length = S.ms.length ∧ vs.length = S.ms.length ∧ Abs K (vs.map some) H (penv S.ms ds) fa ∧ k ds ∧
  ∀ v d H' f' g ds', ds'.length = S.ms.length → Abs K (vs.map some) H' (penv S.ms ds') f' → Rep K H' 0 d v g → (∀ b ∈ g, ¬ L0 (penv S.ms ds') f' b ∧ ¬ Ro (penv S.ms ds') f' b) → Stp H (penv S.ms ds) fa [] H' (penv S.ms ds') f' g → Kp (penv S.ms ds) fa (penv S.ms ds') f' →
   ∃ f2, Abs K σ H' (putB S.ms rs ds' 0 env) f2 ∧ ResOk K σ H' (putB S.ms rs ds' 0 env) f2 (.tmp d) v g ∧ Stp H env f gs H' (putB S.ms rs ds' 0 env) f2 g ∧ Kp env f (putB S.ms rs ds' 0 env) f2 := by
 obtain ⟨ds, hds, q⟩ := Wv q
 obtain ⟨hlen, hok⟩ := Wx ok
 obtain ⟨ga, hga, hgd⟩ := Rs.get
 have ld : ds.length = rs.length := by have := congrArg List.length hds; simpa using this.symm
 have lv := Rs.len
 have dat : ∀ (p : Nat) (r : R), rs[p]? = some r → ∃ d, ds[p]? = some d ∧ r.data 2 env = some d := fun p r h => by
  have e := congrArg (fun l => l[p]?) hds
  simp only [List.getElem?_map, h, Option.map_some] at e
  cases e2 : ds[p]? with
  | none => rw [e2] at e; cases e
  | some d => rw [e2] at e; exact ⟨d, rfl, Option.some.inj e⟩
 have ex : ∀ p : Nat, ∃ fp : List Addr, ∀ (m : Md) (r : R), S.ms[p]? = some m → rs[p]? = some r → ∃ v d, vs[p]? = some v ∧ ds[p]? = some d ∧ Rep K H m.lv d v fp ∧
  ((∃ d', r = .tmp d' ∧ fp = ga p) ∨ (m.rd = true ∧ ∀ b ∈ fp, Ro env f b) ∨ ∃ i m', r = .sl i ∧ fp = f i ∧ env[i]? = some (some (d, m')) ∧ (m.rd = false → m'.rd = false) ∧ m'.lv = 0 ∧ σ[i]? = some (some v)) := fun p => by
  cases hm : S.ms[p]? with
  | none => exact ⟨[], fun m r h => by cases h⟩
  | some m =>
    cases hr : rs[p]? with
    | none => exact ⟨[], fun m r _ h => by cases h⟩
    | some r =>
      obtain ⟨v, hv, R1, _⟩ := hga p r hr
      obtain ⟨d, hd, dd⟩ := dat p r hr
      have o := hok p m r hm hr
      generalize hgp : ga p = gp at R1
      cases R1 with
      | @tmp d' _ _ rp n =>
        cases dd
        refine ⟨gp, fun m1 r1 e1 e2 => ?_⟩
        cases e1; cases e2
        exact ⟨v, _, hv, hd, rp.up (Nat.zero_le _), .inl ⟨_, rfl, rfl⟩⟩
      | @ro c d' _ g0 rp n =>
        refine ⟨g0, fun m1 r1 e1 e2 => ?_⟩
        cases e1; cases e2
        have dd' : d' = d := by
         unfold R.data at dd
         cases e : roOk c 2 with
         | false => simp only [e] at dd; cases dd
         | true => simp only [e] at dd; exact Option.some.inj dd
        subst dd'
        refine ⟨v, d', hv, hd, rp.up ?_, .inr (.inl ⟨?_, n⟩)⟩
        ·cases m <;> cases c <;> first | exact Nat.le_refl _ | exact Nat.le_succ _ | (cases o)
        ·cases m <;> first | rfl | (cases o)
      | @sl i _ d' m' h1 h2 l0 =>
        refine ⟨f i, fun m1 r1 e1 e2 => ?_⟩
        cases e1; cases e2
        obtain ⟨w, h4, rp⟩ := A.rep i d' m' h2
        rw [h1] at h4; cases h4
        have dd' : d' = d := by
         unfold R.data at dd
         simp only [h2] at dd
         cases e : m'.okL 2 with
         | false => simp only [e] at dd; cases dd
         | true => simp only [e] at dd; exact Option.some.inj dd
        subst dd'
        refine ⟨v, d', hv, hd, rp.up (by rw [l0]; exact Nat.zero_le _), .inr (.inr ⟨i, m', rfl, rfl, h2, fun hr0 => ?_, l0, h1⟩)⟩
        cases m with
        | own => cases o
        | lk => cases o
        | io =>
          simp only [Wg, h2] at o
          cases m' <;> first | rfl | (cases o; done)
        | ro => cases hr0
        | cst => cases hr0
 obtain ⟨fa, hfa⟩ := Classical.axiomOfChoice ex
 have lm : S.ms.length = rs.length := hlen
 have rsAt : ∀ {p : Nat} {m : Md}, S.ms[p]? = some m → ∃ r, rs[p]? = some r := fun {p m} h => ⟨_, List.getElem?_eq_getElem (by have := (List.getElem?_eq_some_iff.mp h).1; omega)⟩
 have cw : ∀ {p : Nat} {m : Md}, S.ms[p]? = some m → m.rd = false → (∃ d', rs[p]? = some (.tmp d') ∧ fa p = ga p) ∨ ∃ i d m', rs[p]? = some (.sl i) ∧ fa p = f i ∧ env[i]? = some (some (d, m')) ∧ m'.rd = false := fun {p m} hm hr => by
  obtain ⟨r, hr'⟩ := rsAt hm
  obtain ⟨v, d, h1, h2, h3, h4⟩ := hfa p m r hm hr'
  rcases h4 with ⟨d', rfl, e⟩ | ⟨e, _⟩ | ⟨i, m', rfl, e, e2, e3, _⟩
  ·exact .inl ⟨d', hr', e⟩
  ·rw [hr] at e; cases e
  ·exact .inr ⟨i, d, m', hr', e, e2, e3 hr⟩
 have gaFree : ∀ {p : Nat} {d' : D}, rs[p]? = some (.tmp d') → ∀ b ∈ ga p, (¬ L0 env f b ∧ ¬ Ro env f b) ∧ b ∈ gs := fun {p d'} h b hb => by
  obtain ⟨v, _, R1, hs⟩ := hga p _ h
  cases R1 with
  | tmp rp n => exact ⟨n b hb, hs b hb⟩
 have A0 : Abs K (vs.map some) H (penv S.ms ds) fa := by
  refine ⟨fun p d m h => ?_, fun p q d m d' m' hpq h1 h2 hr b hb hb' => ?_, by rw [Ql (by omega), List.length_map]; omega⟩
  ·obtain ⟨hd, hm⟩ := wV.mp h
   obtain ⟨r, hr⟩ := rsAt hm
   obtain ⟨v, d', h1, h2, h3, _⟩ := hfa p m r hm hr
   rw [hd] at h2; cases h2
   exact ⟨v, by rw [List.getElem?_map, h1]; rfl, h3⟩
  ·obtain ⟨hd1, hm1⟩ := wV.mp h1
   obtain ⟨hd2, hm2⟩ := wV.mp h2
   replace hr : m.rd = false := by
    obtain ⟨r0, hr0⟩ := rsAt hm1
    have o := hok p m r0 hm1 hr0
    cases m <;> first | rfl | (cases hr; done) | (cases o; done)
   obtain ⟨r2, hr2⟩ := rsAt hm2
   obtain ⟨v2, d2, _, _, _, h5⟩ := hfa q m' r2 hm2 hr2
   rcases cw hm1 hr with ⟨d0, e1, e2⟩ | ⟨i, d0, m0, e1, e2, e3, e4⟩
   ·rw [e2] at hb
    obtain ⟨⟨nw, nr⟩, _⟩ := gaFree e1 b hb
    rcases h5 with ⟨d3, rfl, e5⟩ | ⟨_, e5⟩ | ⟨j, m3, rfl, e5, e6, e7, e8, _⟩
    ·rw [e5] at hb'
     exact hgd p q (List.getElem?_eq_some_iff.mp e1).1 (List.getElem?_eq_some_iff.mp hr2).1 hpq b hb hb'
    ·exact nr (e5 b hb')
    ·rw [e5] at hb'
     exact nw ⟨j, _, _, e6, e8, hb'⟩
   ·rw [e2] at hb
    rcases h5 with ⟨d3, rfl, e5⟩ | ⟨_, e5⟩ | ⟨j, m3, rfl, e5, e6, e7, e8, _⟩
    ·rw [e5] at hb'
     exact (gaFree hr2 b hb').1.1 ⟨i, _, _, e3, Md.lv_of e4, hb⟩
    ·exact A.apart ⟨i, _, _, e3, Md.lv_of e4, hb⟩ (e5 b hb')
    ·rw [e5] at hb'
     by_cases hij : i = j
     ·subst hij
      exact qaT ap hpq hm1 hr e1 hr2
     ·exact A.dis i j _ _ _ _ hij e3 e6 (Md.lv_of e4) b hb hb'
 refine ⟨ds, fa, by omega, by omega, A0, q, fun v d H' f' g ds' l' A1 rv ng S1 K1 => ?_⟩
 have cwW : ∀ b, W (penv S.ms ds) fa b → (W env f b ∨ b ∈ gs) ∧ ∀ i d1 m1, env[i]? = some (some (d1, m1)) → wj S.ms rs i = none → b ∉ f i := fun b ⟨p, d1, m1, h1, h2, h3⟩ => by
  obtain ⟨hd1, hm1⟩ := wV.mp h1
  rcases cw hm1 h2 with ⟨d0, e1, e2⟩ | ⟨i, d0, m0, e1, e2, e3, e4⟩
  ·rw [e2] at h3
   obtain ⟨⟨nw, nr⟩, hs⟩ := gaFree e1 b h3
   refine ⟨.inr hs, fun j d2 m2 h4 _ z => ?_⟩
   by_cases hm2 : m2.lv = 0
   ·exact nw ⟨j, d2, m2, h4, hm2, z⟩
   ·exact nr ⟨j, d2, m2, h4, hm2, z⟩
  ·rw [e2] at h3
   refine ⟨.inl ⟨i, d0, m0, e3, e4, h3⟩, fun j d2 m2 h4 h5 z => ?_⟩
   by_cases hij : i = j
   ·subst hij
    exact vP h5 hm1 h2 e1
   ·exact A.dis i j _ _ _ _ hij e3 h4 (Md.lv_of e4) b h3 z
 have far : ∀ b, (W (penv S.ms ds') f' b ∨ b ∈ g) → (W env f b ∨ b ∈ gs ∨ H b = none) ∧ ∀ i d1 m1, env[i]? = some (some (d1, m1)) → wj S.ms rs i = none → b ∉ f i := fun b h => by
  rcases S1.own b h with z | z | z
  ·obtain ⟨z1, z2⟩ := cwW b z
   exact ⟨z1.imp_right .inl, z2⟩
  ·simp at z
  ·refine ⟨.inr (.inr z), fun i d1 m1 h1 _ hb => ?_⟩
   obtain ⟨w, _, rp⟩ := A.rep i d1 m1 h1
   obtain ⟨o, ho, _⟩ := rp.dom b hb
   rw [z] at ho; cases ho
 have slot : ∀ {i : Nat} {d1 : D} {m1 : Md}, (putB S.ms rs ds' 0 env)[i]? = some (some (d1, m1)) →
  (wj S.ms rs i = none ∧ env[i]? = some (some (d1, m1))) ∨ ∃ p m d0 v, wj S.ms rs i = some p ∧ S.ms[p]? = some m ∧ m.rd = false ∧ ds'[p]? = some d1 ∧ env[i]? = some (some (d0, m1)) ∧ m1.rd = false ∧ m1.lv = 0 ∧ vs[p]? = some v ∧ σ[i]? = some (some v) := fun {i d1 m1} h => by
  rw [Qi, Nat.zero_add] at h
  cases hp : wj S.ms rs i with
  | none =>
    left
    refine ⟨rfl, ?_⟩
    cases he : env[i]? with
    | none => rw [he] at h; cases h
    | some x =>
      rw [he] at h
      simp only [Option.map_some, Yt, hp] at h
      exact h
  | some p =>
    right
    obtain ⟨m, hm, hr, hs⟩ := yO hp
    obtain ⟨v, d0, h1, h2, h3, h4⟩ := hfa p m _ hm hs
    rcases h4 with ⟨d', e, _⟩ | ⟨e, _⟩ | ⟨j, m', e, e1, e2, e3, e4, e5⟩
    ·cases e
    ·rw [hr] at e; cases e
    ·cases e
     have hp' : p < ds'.length := by have := (List.getElem?_eq_some_iff.mp hm).1; omega
     rw [e2, Option.map_some] at h
     simp only [Yt, hp, List.getElem?_eq_getElem hp'] at h
     cases h
     exact ⟨p, m, d0, v, rfl, hm, hr, List.getElem?_eq_getElem hp', e2, e3 hr, e4, h1, e5⟩
 have f2n : ∀ {i : Nat}, wj S.ms rs i = none → (match wj S.ms rs i with | some p => f' p | none => f i) = f i := fun {i} h => by rw [h]
 have f2s : ∀ {i p : Nat}, wj S.ms rs i = some p → (match wj S.ms rs i with | some p => f' p | none => f i) = f' p := fun {i p} h => by rw [h]
 refine ⟨fun i => match wj S.ms rs i with | some p => f' p | none => f i, ⟨fun i d1 m1 h => ?_, fun i j d1 m1 d2 m2 hij h1 h2 hr b hb hb' => ?_, by rw [Jb]; exact A.len⟩, .tmp rv fun b hb => ⟨?_, ?_⟩, ⟨fun b o h qq => ?_, fun b qq => ?_⟩, ⟨?_, fun j d1 m1 h hr => ?_⟩⟩
 ·rcases slot h with ⟨hn, he⟩ | ⟨p, m, d0, v, hp, hm, hr, hd, he, e3, e4, hv, hs⟩
  ·obtain ⟨w, h1, rp⟩ := A.rep i d1 m1 he
   refine ⟨w, h1, ?_⟩
   simp only [f2n hn]
   refine rp.keep fun b o hb qq => S1.same b o hb ?_
   rcases qq with qq | qq
   ·exact .inr ⟨fun z => (cwW b z).2 i d1 m1 he hn qq, by simp⟩
   ·exact .inl qq
  ·obtain ⟨w, h1, rp⟩ := A1.rep p d1 m (wV.mpr ⟨hd, hm⟩)
   rw [List.getElem?_map, hv] at h1
   cases h1
   refine ⟨v, hs, ?_⟩
   simp only [f2s hp]
   have : m.lv = 0 := by cases m <;> first | rfl | (cases hr)
   rw [e4, ← this]
   exact rp
 ·rcases slot h1 with ⟨hn, he⟩ | ⟨p, m, d0, v, hp, hm, hr1, hd, he, e3, e4, hv, hs⟩
  ·simp only [f2n hn] at hb
   rcases slot h2 with ⟨hn2, he2⟩ | ⟨p2, m', d02, v2, hp2, hm2, hr2, hd2, he2, e32, e42, hv2, hs2⟩
   ·simp only [f2n hn2] at hb'
    exact A.dis i j _ _ _ _ hij he he2 hr b hb hb'
   ·simp only [f2s hp2] at hb'
    exact (far b (.inl ⟨p2, d2, m', wV.mpr ⟨hd2, hm2⟩, hr2, hb'⟩)).2 i _ _ he hn hb
  ·simp only [f2s hp] at hb
   rcases slot h2 with ⟨hn2, he2⟩ | ⟨p2, m', d02, v2, hp2, hm2, hr2, hd2, he2, e32, e42, hv2, hs2⟩
   ·simp only [f2n hn2] at hb'
    exact (far b (.inl ⟨p, d1, m, wV.mpr ⟨hd, hm⟩, hr1, hb⟩)).2 j _ _ he2 hn2 hb'
   ·simp only [f2s hp2] at hb'
    have hpp : p ≠ p2 := fun z => by
     subst z
     obtain ⟨_, _, _, z1⟩ := yO hp
     obtain ⟨_, _, _, z2⟩ := yO hp2
     rw [z1] at z2; cases z2
     exact hij rfl
    exact A1.dis p p2 _ _ _ _ hpp (wV.mpr ⟨hd, hm⟩) (wV.mpr ⟨hd2, hm2⟩) (Md.lv_of hr1) b hb hb'
 ·rintro ⟨i, d1, m1, h, hr, z⟩
  rcases slot h with ⟨hn, he⟩ | ⟨p, m, d0, v, hp, hm, hr1, hd, he, e3, e4, hv, hs⟩
  ·simp only [f2n hn] at z
   exact (far b (.inr hb)).2 i _ _ he hn z
  ·simp only [f2s hp] at z
   exact (ng b hb).1 ⟨p, d1, m, wV.mpr ⟨hd, hm⟩, Md.lv_of hr1, z⟩
 ·rintro ⟨i, d1, m1, h, hr, z⟩
  rcases slot h with ⟨hn, he⟩ | ⟨p, m, d0, v, hp, hm, hr1, hd, he, e3, e4, hv, hs⟩
  ·simp only [f2n hn] at z
   exact (far b (.inr hb)).2 i _ _ he hn z
  ·exact absurd e4 hr
 ·refine S1.same b o h ?_
  rcases qq with qq | qq
  ·exact .inl qq
  ·exact .inr ⟨fun z => (cwW b z).1.elim qq.1 qq.2, by simp⟩
 ·rcases qq with ⟨i, d1, m1, h, hr, hb⟩ | qq
  ·rcases slot h with ⟨hn, he⟩ | ⟨p, m, d0, v, hp, hm, hr1, hd, he, e3, e4, hv, hs⟩
   ·simp only [f2n hn] at hb
    exact .inl ⟨i, d1, m1, he, hr, hb⟩
   ·simp only [f2s hp] at hb
    exact (far b (.inl ⟨p, d1, m, wV.mpr ⟨hd, hm⟩, hr1, hb⟩)).1
  ·exact (far b (.inr qq)).1
 ·apply List.ext_getElem?
  intro i
  rw [List.getElem?_map, List.getElem?_map, Qi, Nat.zero_add, Option.map_map]
  cases he : env[i]? with
  | none => rfl
  | some x =>
    simp only [Option.map_some, Function.comp, Option.some.injEq]
    unfold Yt
    cases hp : wj S.ms rs i with
    | none => rfl
    | some p =>
      cases hd : ds'[p]? <;> cases x <;> simp [hd]
 ·have hn : wj S.ms rs j = none := by
   cases hp : wj S.ms rs j with
   | none => rfl
   | some p =>
     obtain ⟨m, hm, hr1, hs⟩ := yO hp
     rcases cw hm hr1 with ⟨d', e, _⟩ | ⟨i, d0, m0, e1, e2, e3, e4⟩
     ·rw [hs] at e; cases e
     ·rw [hs] at e1; cases e1
      rw [h] at e3; cases e3
      rw [hr] at e4; cases e4
  refine ⟨?_, f2n hn⟩
  rw [Qi, Nat.zero_add, h]
  simp only [Option.map_some, Yt, hn]
end
section
variable {X : Cx} {k : Nat} {fd : FuncData} {ps : List Str} {ds : List Value} {x : Str} {p pos : Pos} {e : Expr} {es : List Expr} {u : XA} {S : FS}
structure Fn (P : Program) (w : World) (K : PySem.W.Frag) (mg : Str → Option Value) (base : Heap) (x : Str) (k : Nat) (ps : List Str) (S : FS) : Prop where
 ex : ∃ f fd, FnOk P w K mg base CX0 k f fd ps (spOf K S) ∧ mg x = some (.ref f) ∧ PySem.W.keepIn K (.ref f) = true ∧ Binds K fd ps []
 mono : uM S
theorem zM (F : Fn X.prog X.w X.K X.mg X.base x k ps S) (hr : Room k X.A) (hg : Gl X x) (ha : DA X (e :: es) u) (hdb : (x == ("__debug__" : Str)) = false := by decide)
 (he : starEach (e :: es) X.env = (false, eval e X.env) :: starEach es X.env := by rfl) (hpl : (backTo pos (starEach es X.env)).any (·.1) = false := by rfl) : DE X (.Call (.Name x p) (e :: es) [] pos) (dFn S u) := by
 obtain ⟨f, fd, hF, hm, hk, hb⟩ := F.ex
 refine ⟨PE.imp (pe_call hF hr hg hm hk hb .nil pass0 ha.run hdb he hpl) fun σ H Q q => ?_, fun env Q Q' h q => ha.mono _ _ _ (fun rs e q => ⟨q.1, q.2.1, xj (fun ds q => F.mono _ _ _ (fun d es q => h _ _ q) q) q.2.2⟩) q⟩
 obtain ⟨env, f, A, q⟩ := q
 refine ⟨env, f, A, ha.mono _ _ _ (fun rs e q => ?_) q⟩
 intro vs H1 f1 gs A1 R1 S1 K1
 obtain ⟨o1, o2, q⟩ := q
 obtain ⟨ds, fa, l1, l2, Aa, q, back⟩ := Xl A1 R1 o1 o2 q
 rw [List.append_nil]
 refine ⟨l2, ds, fa, l1, Aa, F.mono _ _ _ (fun d ds' q => ?_) q⟩
 intro v H' f' g l' A' rv ng S' K'
 obtain ⟨f2, A2, R2, S2, K2⟩ := back v d H' f' g ds' l' A' rv ng S' K'
 exact q v H' f2 g A2 R2 (S1.trans S2) (K1.trans K2)
end
end BX
namespace BX
open PySem PySem.Spec PyProof.Rows L2
abbrev XS := En → (En → Prop) → (D → En → Prop) → Prop
abbrev XG := R → En → (En → Prop) → Prop
abbrev XGs := Option Bool → List D → En → (En → Prop) → Prop
structure Kq (σ : L2.St) (env : En) (f : FA) (σ' : L2.St) (env' : En) (f' : FA) : Prop where
 io : ∀ (i : Nat) (d : D), env[i]? = some (some (d, Md.io)) → σ'[i]? = σ[i]? ∧ ∃ d', env'[i]? = some (some (d', Md.io))
 lk : ∀ (i : Nat) (d : D), env[i]? = some (some (d, Md.lk)) → σ'[i]? = σ[i]? ∧ env'[i]? = some (some (d, Md.lk)) ∧ f' i = f i
 lkr : ∀ (i : Nat) (d : D), env'[i]? = some (some (d, Md.lk)) → env[i]? = some (some (d, Md.lk))
theorem Kq.refl {σ : L2.St} {env : En} {f : FA} : Kq σ env f σ env f := ⟨fun i d h => ⟨rfl, d, h⟩, fun i d h => ⟨rfl, h, rfl⟩, fun i d h => h⟩
theorem Kq.trans {σ σ1 σ2 : L2.St} {env e1 e2 : En} {f f1 f2 : FA} (a : Kq σ env f σ1 e1 f1) (b : Kq σ1 e1 f1 σ2 e2 f2) : Kq σ env f σ2 e2 f2 :=
 ⟨fun i d h => let ⟨x, d1, h1⟩ := a.io i d h; let ⟨y, d2, h2⟩ := b.io i d1 h1; ⟨y.trans x, d2, h2⟩, fun i d h => let ⟨x, h1, z1⟩ := a.lk i d h; let ⟨y, h2, z2⟩ := b.lk i d h1; ⟨y.trans x, h2, z2.trans z1⟩, fun i d h => a.lkr i d (b.lkr i d h)⟩
theorem Kp.kq {σ : L2.St} {env e1 : En} {f f1 : FA} (a : Kp env f e1 f1) : Kq σ env f σ e1 f1 :=
 ⟨fun i d h => ⟨rfl, a.slot h⟩, fun i d h => ⟨rfl, a.ros i d .lk h rfl⟩, fun i d h => by
  obtain ⟨d', h'⟩ := a.slot' h
  have := (a.ros i d' .lk h' rfl).1
  rw [h] at this; cases this
  exact h'⟩
def ZC (K : PySem.W.Frag) (σ : L2.St) (H : Hp) (env : En) (f : FA) (P : L2.St → Hp → Prop) : En → Prop := fun env' => ∀ σ' H' f', Abs K σ' H' env' f' → Stp H env f [] H' env' f' [] → Kq σ env f σ' env' f' → P σ' H'
def Wq (K : PySem.W.Frag) (σ : L2.St) (H : Hp) (env : En) (f : FA) (P : VK) : D → En → Prop := fun d env' => ∀ v σ' H' f' g, Abs K σ' H' env' f' → Rep K H' 0 d v g → (∀ b ∈ g, ∀ i d m, env'[i]? = some (some (d, m)) → (m = .io ∨ m = .lk) → b ∉ f' i) → Stp H env f [] H' env' f' g → Kq σ env f σ' env' f' → P v H'
def qai (K : PySem.W.Frag) (t : XS) : TS := fun D σ H => ∃ env f, Abs K σ H env f ∧ t env (ZC K σ H env f D.nx) (Wq K σ H env f D.rt)
def Wc (t : XS) : Prop := ∀ env nx nx' rt rt', (∀ e, nx e → nx' e) → (∀ d e, rt d e → rt' d e) → t env nx rt → t env nx' rt'
structure DS (X : Cx) (st : Stmt) (t : XS) : Prop where
 run : PS X st (qai X.K t)
 mono : Wc t
structure DSs (X : Cx) (st : List Stmt) (t : XS) : Prop where
 run : PSs X st (qai X.K t)
 mono : Wc t
theorem PS.imp {X : Cx} {e : Stmt} {t u : TS} (h : PS X e t) (k : ∀ D σ H, u D σ H → t D σ H) : PS X e u := ⟨fun pins s σ H D I q => h.run pins s σ H D I (k _ _ _ q)⟩
theorem PSs.imp {X : Cx} {e : List Stmt} {t u : TS} (h : PSs X e t) (k : ∀ D σ H, u D σ H → t D σ H) : PSs X e u := ⟨fun pins s σ H D I q => h.run pins s σ H D I (k _ _ _ q)⟩
def sNil : XS := fun env nx _ => nx env
def sSeq (t u : XS) : XS := fun env nx rt => t env (fun e => u e nx rt) rt
def VG (t : XE) : XS := fun env nx _ => t env fun _ e => nx e
def retR (r : R) (env : En) (k : D → Prop) : Prop := match r with
 | .tmp d => k d
 | .ro c d => c = false ∧ d.imm = true ∧ k d
 | .sl i => match env[i]? with
   | some (some (d, m)) => (match m with
     | .own => True
     | _ => d.imm = true) ∧ k d
   | _ => False
def sRet (t : XE) : XS := fun env _ rt => t env fun r e => retR r e fun d => rt d e
def qfU : XS := fun env _ rt => rt .non env
def sIf (c : XT) (t u : XS) : XS := fun env nx rt => c env fun b e => (b = true → t e nx rt) ∧ (b = false → u e nx rt)
def qdZ : XS := fun _ _ _ => False
theorem VL {r : R} {env : En} {k k' : D → Prop} (h : ∀ d, k d → k' d) (q : retR r env k) : retR r env k' := by
 cases r with
 | tmp d => exact h _ q
 | ro c d => exact ⟨q.1, q.2.1, h _ q.2.2⟩
 | sl i =>
   unfold retR at q ⊢
   dsimp only at q ⊢
   cases e : env[i]? with
   | none => rw [e] at q; exact q.elim
   | some x => cases x with
     | none => rw [e] at q; exact q.elim
     | some p => rw [e] at q; exact ⟨q.1, h _ q.2⟩
section
variable {K : PySem.W.Frag} {σ σ' : L2.St} {H H1 H' : Hp} {env e1 e2 : En} {f f1 f2 : FA} {G g : List Addr}
theorem ZC.after {P : L2.St → Hp → Prop} {σ1 : L2.St} (S : Stp H env f [] H1 e1 f1 []) (k : Kq σ env f σ1 e1 f1) {e : En} (q : ZC K σ H env f P e) : ZC K σ1 H1 e1 f1 P e := fun σ' H' f' A' S' K' => q σ' H' f' A' (S.trans S') (k.trans K')
theorem Wq.after {P : VK} {σ1 : L2.St} (S : Stp H env f [] H1 e1 f1 []) (k : Kq σ env f σ1 e1 f1) {d : D} {e : En} (q : Wq K σ H env f P d e) : Wq K σ1 H1 e1 f1 P d e := fun v σ' H' f' g A' R' n S' K' => q v σ' H' f' g A' R' n (S.trans S') (k.trans K')
theorem Qw {t : XS} {D : Ends} {σ1 : L2.St} (m : Wc t) (S : Stp H env f [] H1 e1 f1 []) (k : Kq σ env f σ1 e1 f1) (A1 : Abs K σ1 H1 e1 f1) (q : t e1 (ZC K σ H env f D.nx) (Wq K σ H env f D.rt)) : qai K t D σ1 H1 :=
 ⟨e1, f1, A1, m _ _ _ _ _ (fun e q => q.after S k) (fun d e q => q.after S k) q⟩
theorem qcD {r : R} {v : V} {k : D → Prop} (A : Abs K σ H env f) (h : ResOk K σ H env f r v g) (q : retR r env k) : ∃ d g', Rep K H 0 d v g' ∧ k d ∧ (∀ b ∈ g', b ∈ g ∨ W env f b) ∧ ∀ b ∈ g', ∀ i d m, env[i]? = some (some (d, m)) → (m = .io ∨ m = .lk) → b ∉ f i := by
 unfold retR at q
 split at q
 ·cases h with
  | tmp r n => exact ⟨_, g, r, q, fun b hb => .inl hb, fun b hb i d m e em z => (n b hb).1 ⟨i, d, m, e, by rcases em with em | em <;> subst em <;> rfl, z⟩⟩
 ·obtain ⟨rfl, im, q⟩ := q
  cases h with
  | ro r n =>
    obtain ⟨_, r0⟩ := r.imm (Nat.le_refl _) im
    exact ⟨_, [], r0, q, fun b hb => by simp at hb, fun b hb => by simp at hb⟩
 ·cases h with
  | sl h1 h2 h3 =>
    obtain ⟨w, h4, rp⟩ := A.rep _ _ _ h2
    rw [h1] at h4; cases h4
    rw [h3] at rp
    simp only [h2] at q
    obtain ⟨q1, q⟩ := q
    split at q1
    ·refine ⟨_, _, rp, q, fun b hb => .inr ⟨_, _, _, h2, rfl, hb⟩, fun b hb i d m e em z => ?_⟩
     refine A.dis _ _ _ _ _ _ (fun y => ?_) h2 e rfl b hb z
     subst y
     rw [h2] at e; cases e
     rcases em with em | em <;> cases em
    ·obtain ⟨_, r0⟩ := rp.imm (Nat.zero_le _) q1
     exact ⟨_, [], r0, q, fun b hb => by simp at hb, fun b hb => by simp at hb⟩
end
section
variable {X : Cx} {st : Stmt} {rest : List Stmt} {t u : XS} {e : Expr} {te : XE} {pos : Pos}
theorem yr : DSs X [] sNil := ⟨PSs.imp pss_nil fun D σ H ⟨env, f, A, q⟩ => q σ H f A .refl .refl, fun env nx nx' rt rt' h _ q => h _ q⟩
theorem qG (h1 : DS X st t) (h2 : DSs X rest u) : DSs X (st :: rest) (sSeq t u) := by
 refine ⟨PSs.imp (pss_cons h1.run h2.run) fun D σ H q => ?_, fun env nx nx' rt rt' h h' q => h1.mono _ _ _ _ _ (fun e q => h2.mono _ _ _ _ _ h h' q) h' q⟩
 obtain ⟨env, f, A, q⟩ := q
 refine ⟨env, f, A, h1.mono _ _ _ _ _ (fun e q => ?_) (fun d e q => q) q⟩
 intro σ1 H1 f1 A1 S1 K1
 exact Qw h2.mono S1 K1 A1 q
theorem wu (h1 : DS X st t) : DSs X [st] t := ⟨PSs.imp (pss_one h1.run) fun D σ H q => q, h1.mono⟩
theorem qaD (he : DE X e te) (hs : swapsWith e none pos.line X.env = pure false := by rfl) : DS X (.Expr e pos) (VG te) := by
 refine ⟨PS.imp (ps_expr he.run hs) fun D σ H q => ?_, fun env nx nx' rt rt' h _ q => he.mono _ _ _ (fun r e q => h _ q) q⟩
 obtain ⟨env, f, A, q⟩ := q
 refine ⟨env, f, A, he.mono _ _ _ (fun r e1 q => ?_) q⟩
 intro v H1 f1 g A1 R1 S1 K1
 exact q σ H1 f1 A1 (S1.drop (fun _ z => by simp at z)) K1.kq
theorem wM (he : DE X e te) : DS X (.Return (some e) pos) (sRet te) := by
 refine ⟨PS.imp (ps_ret he.run) fun D σ H q => ?_, fun env nx nx' rt rt' h h' q => he.mono _ _ _ (fun r e q => VL (fun d q => h' _ _ q) q) q⟩
 obtain ⟨env, f, A, q⟩ := q
 refine ⟨env, f, A, he.mono _ _ _ (fun r e1 q => ?_) q⟩
 intro v H1 f1 g A1 R1 S1 K1
 obtain ⟨d, g', rp, q, h1, h2⟩ := qcD A1 R1 q
 refine q v σ H1 f1 g' A1 rp h2 ⟨S1.same, fun b qq => ?_⟩ K1.kq
 rcases qq with qq | qq
 ·exact S1.own b (.inl qq)
 ·rcases h1 b qq with z | z
  ·exact S1.own b (.inr z)
  ·exact S1.own b (.inl z)
theorem ju {c : Expr} {a b : List Stmt} {tc : XT} (hc : DT X c tc) (ha : DSs X a t) (hb : DSs X b u) : DS X (.If c a b pos) (sIf tc t u) := by
 refine ⟨PS.imp (ps_if hc.run ha.run hb.run) fun D σ H q => ?_, fun env nx nx' rt rt' h h' q => hc.mono _ _ _ (fun b e q => ⟨fun z => ha.mono _ _ _ _ _ h h' (q.1 z), fun z => hb.mono _ _ _ _ _ h h' (q.2 z)⟩) q⟩
 obtain ⟨env, f, A, q⟩ := q
 refine ⟨env, f, A, hc.mono _ _ _ (fun b e1 q => ?_) q⟩
 intro H1 f1 A1 S1 K1
 cases b with
 | true => rw [if_pos rfl]; exact Qw ha.mono S1 K1.kq A1 (q.1 rfl)
 | false => rw [if_neg Bool.false_ne_true]; exact Qw hb.mono S1 K1.kq A1 (q.2 rfl)
end
inductive SrcOk (K : PySem.W.Frag) (σ : L2.St) (H : Hp) (env : En) (f : FA) : R → V → List Addr → Prop
 | tmp {d : D} {v : V} {g : List Addr} : Rep K H 0 d v g → (∀ b ∈ g, ¬ L0 env f b ∧ ¬ Ro env f b) → SrcOk K σ H env f (.tmp d) v g
 | ro {c : Bool} {d : D} {v : V} {g : List Addr} : Rep K H (clv c) d v g → (∀ b ∈ g, ¬ L0 env f b) → SrcOk K σ H env f (.ro c d) v []
 | sl {i : Nat} {v : V} {d : D} {m : Md} : σ[i]? = some (some v) → env[i]? = some (some (d, m)) → m.lv = 0 → SrcOk K σ H env f (.sl i) v []
theorem ResOk.src {K : PySem.W.Frag} {σ : L2.St} {H : Hp} {env : En} {f : FA} {r : R} {v : V} {g : List Addr} (A : Abs K σ H env f) (h : ResOk K σ H env f r v g) : SrcOk K σ H env f r v g := by
 cases h with
 | tmp r n => exact .tmp r n
 | ro r n => exact .ro r fun b hb z => A.apart z (n b hb)
 | sl a b c => exact .sl a b c
def setOk (env : En) (i : Nat) : Bool := match env[i]? with
 | some (some (_, .io)) => false
 | some (some (_, .lk)) => false
 | some _ => true
 | none => false
def roMd : Bool → Md
 | false => .ro
 | true => .cst
def gN (i : Nat) : XG := fun r env k => setOk env i = true ∧ match r with
 | .tmp d => k (env.set i (some (d, .own)))
 | .ro c d => k (env.set i (some (d, roMd c)))
 | .sl j => match env[j]? with
   | some (some (d, _)) => d.imm = true ∧ k (env.set i (some (d, .own)))
   | _ => False
def XC (t : XG) : Prop := ∀ r env k k', (∀ e, k e → k' e) → t r env k → t r env k'
def qe7 (t : XGs) : Prop := ∀ kd ds env k k', (∀ e, k e → k' e) → t kd ds env k → t kd ds env k'
def R.isRo : R → Bool
 | .ro _ _ => true
 | _ => false
def Same (ts : List Nat) (σ : L2.St) (env : En) (f : FA) (σ' : L2.St) (env' : En) (f' : FA) : Prop := σ'.length = σ.length ∧ env'.length = env.length ∧ ∀ j, j ∉ ts → σ'[j]? = σ[j]? ∧ env'[j]? = env[j]? ∧ f' j = f j
def qdq (K : PySem.W.Frag) (σ : L2.St) (H : Hp) (env : En) (f : FA) (g : List Addr) (rk : Bool) (ts : List Nat) (P : L2.St → Hp → Prop) : En → Prop := fun env' => ∀ σ' f', Abs K σ' H env' f' → Stp H env f g H env' f' [] → Kq σ env f σ' env' f' →
 (∀ b, L0 env' f' b → L0 env f b ∨ b ∈ g) → (rk = false → ∀ b, Ro env' f' b → Ro env f b) → Same ts σ env f σ' env' f' → P σ' H
def qcZ (K : PySem.W.Frag) (ts : List Nat) (t : XG) : TG := fun v σ H Q => ∃ env f r g, Abs K σ H env f ∧ SrcOk K σ H env f r v g ∧ t r env (qdq K σ H env f g r.isRo ts Q)
inductive KOk (K : PySem.W.Frag) (H : Hp) (env : En) (f : FA) : Option Bool → List D → List V → List Addr → Prop
 | tmp {ds : List D} {vs : List V} {g : List Addr} : Reps K H 0 ds vs g → (∀ b ∈ g, ¬ L0 env f b ∧ ¬ Ro env f b) → KOk K H env f none ds vs g
 | ro {c : Bool} {ds : List D} {vs : List V} {g : List Addr} : Reps K H (clv c) ds vs g → (∀ b ∈ g, ¬ L0 env f b) → KOk K H env f (some c) ds vs []
def mkI (kd : Option Bool) (d : D) : R := match kd with
 | none => .tmp d
 | some c => mkRo c d
def qbV (K : PySem.W.Frag) (ts : List Nat) (t : XGs) : TGs := fun vs σ H Q => ∃ env f kd ds g, Abs K σ H env f ∧ KOk K H env f kd ds vs g ∧ t kd ds env (qdq K σ H env f g kd.isSome ts Q)
structure DG (X : Cx) (e : Expr) (ts : List Nat) (t : XG) : Prop where
 run : PG X e (qcZ X.K ts t)
 mono : XC t
structure DGs (X : Cx) (e : List Expr) (ts : List Nat) (t : XGs) : Prop where
 run : PGs X e (qbV X.K ts t)
 mono : qe7 t
theorem PG.imp {X : Cx} {e : Expr} {t u : TG} (h : PG X e t) (k : ∀ v σ H Q, u v σ H Q → t v σ H Q) : PG X e u := ⟨fun pins s σ H v w Q I r q => h.run pins s σ H v w Q I r (k _ _ _ _ q)⟩
theorem PGs.imp {X : Cx} {e : List Expr} {t u : TGs} (h : PGs X e t) (k : ∀ v σ H Q, u v σ H Q → t v σ H Q) : PGs X e u := ⟨fun pins s σ H v w Q I r q => h.run pins s σ H v w Q I r (k _ _ _ _ q)⟩
def Wj : XGs := fun _ ds env k => match ds with
 | [] => k env
 | _ => False
def yR (g : XG) (gs : XGs) : XGs := fun kd ds env k => match ds with
 | d :: ds => g (mkI kd d) env fun e => gs kd ds e k
 | [] => False
def kdOf (r : R) (xs : List D) (k : Option Bool → Prop) : Prop := match r with
 | .tmp _ => k none
 | .ro c _ => k (some c)
 | .sl _ => immL xs = true ∧ k none
def gT (n : Nat) (gs : XGs) : XG := fun r env k => rd 2 r env fun d => match d with
 | .tup xs => xs.length = n ∧ kdOf r xs fun kd => gs kd xs env k
 | _ => False
section
variable {K : PySem.W.Frag} {σ : L2.St} {H : Hp} {env : En} {f : FA} {g : List Addr} {i : Nat} {r : R} {v : V} {d : D}
theorem qbd (h : setOk env i = true) : i < env.length := by
 unfold setOk at h
 cases e : env[i]? with
 | none => rw [e] at h; cases h
 | some x => exact (List.getElem?_eq_some_iff.mp e).1
theorem XX (h : setOk env i = true) {m : Md} (e : env[i]? = some (some (d, m))) : m ≠ .io ∧ m ≠ .lk := by
 unfold setOk at h
 rw [e] at h
 cases m <;> first | (cases h; done) | exact ⟨(fun z => nomatch z), (fun z => nomatch z)⟩
theorem Abs.put (A : Abs K σ H env f) (so : setOk env i = true) {m : Md} (rp : Rep K H m.lv d v g) (hm : m ≠ .io ∧ m ≠ .lk) (h0 : m.lv = 0 → ∀ b ∈ g, ¬ L0 env f b ∧ ¬ Ro env f b) (h1 : ∀ b ∈ g, ¬ L0 env f b) {G : List Addr} (hG : m.lv = 0 → ∀ b ∈ g, b ∈ G) :
 Abs K (σ.set i (some v)) H (env.set i (some (d, m))) (fset f i g) ∧ Stp H env f G H (env.set i (some (d, m))) (fset f i g) [] ∧ Kq σ env f (σ.set i (some v)) (env.set i (some (d, m))) (fset f i g) ∧
  (∀ b, L0 (env.set i (some (d, m))) (fset f i g) b → L0 env f b ∨ b ∈ G) ∧ (m.lv = 0 → ∀ b, Ro (env.set i (some (d, m))) (fset f i g) b → Ro env f b) ∧ Same [i] σ env f (σ.set i (some v)) (env.set i (some (d, m))) (fset f i g) := by
 have hi := qbd so
 have hσ : i < σ.length := by rw [← A.len]; exact hi
 have ati : ∀ {d1 : D} {m1 : Md}, (env.set i (some (d, m)))[i]? = some (some (d1, m1)) → d1 = d ∧ m1 = m := fun {d1 m1} h => by
  rw [xf hi] at h; cases h; exact ⟨rfl, rfl⟩
 have get : ∀ {j : Nat} {d1 : D} {m1 : Md}, j ≠ i → (env.set i (some (d, m)))[j]? = some (some (d1, m1)) → env[j]? = some (some (d1, m1)) := fun {j d1 m1} hj h => by rwa [zY hj] at h
 refine ⟨⟨fun j d1 m1 h => ?_, fun j k d1 m1 d2 m2 hjk e1 e2 hl b hb z => ?_, by rw [List.length_set, List.length_set]; exact A.len⟩, ⟨fun b o h _ => h, fun b q => ?_⟩, ⟨fun j d1 h => ?_, fun j d1 h => ?_, fun j d1 h => ?_⟩, fun b q => ?_, fun hl b q => ?_, by rw [List.length_set], by rw [List.length_set], fun j hj => ?_⟩
 ·by_cases hj : j = i
  ·subst hj
   obtain ⟨rfl, rfl⟩ := ati h
   exact ⟨v, List.getElem?_set_self hσ, by rw [xO]; exact rp⟩
  ·obtain ⟨w, h2, h3⟩ := A.rep j d1 m1 (get hj h)
   exact ⟨w, by rw [List.getElem?_set_ne (Ne.symm hj)]; exact h2, by rw [yj hj]; exact h3⟩
 ·by_cases hj : j = i
  ·subst hj
   obtain ⟨rfl, rfl⟩ := ati e1
   rw [xO] at hb
   rw [yj (Ne.symm hjk)] at z
   have e3 := get (Ne.symm hjk) e2
   by_cases hl2 : m2.lv = 0
   ·exact (h0 hl b hb).1 ⟨k, d2, m2, e3, hl2, z⟩
   ·exact (h0 hl b hb).2 ⟨k, d2, m2, e3, hl2, z⟩
  ·rw [yj hj] at hb
   have e3 := get hj e1
   by_cases hk : k = i
   ·subst hk
    rw [xO] at z
    exact h1 b z ⟨j, d1, m1, e3, hl, hb⟩
   ·rw [yj hk] at z
    exact A.dis j k d1 m1 d2 m2 hjk e3 (get hk e2) hl b hb z
 ·rcases q with ⟨j, d1, m1, h, hr, hb⟩ | q
  ·by_cases hj : j = i
   ·subst hj
    obtain ⟨rfl, rfl⟩ := ati h
    rw [xO] at hb
    exact .inr (.inl (hG (Md.lv_of hr) b hb))
   ·rw [yj hj] at hb
    exact .inl ⟨j, d1, m1, get hj h, hr, hb⟩
  ·simp at q
 ·have hj : j ≠ i := fun z => by subst z; exact (XX so h).1 rfl
  exact ⟨List.getElem?_set_ne (Ne.symm hj), d1, by rw [zY hj]; exact h⟩
 ·have hj : j ≠ i := fun z => by subst z; exact (XX so h).2 rfl
  exact ⟨List.getElem?_set_ne (Ne.symm hj), by rw [zY hj]; exact h, yj hj⟩
 ·by_cases hj : j = i
  ·subst hj
   obtain ⟨_, z⟩ := ati h
   exact absurd z.symm hm.2
  ·exact get hj h
 ·obtain ⟨j, d1, m1, h, hr, hb⟩ := q
  by_cases hj : j = i
  ·subst hj
   obtain ⟨rfl, rfl⟩ := ati h
   rw [xO] at hb
   exact .inr (hG hr b hb)
  ·rw [yj hj] at hb
   exact .inl ⟨j, d1, m1, get hj h, hr, hb⟩
 ·obtain ⟨j, d1, m1, h, hr, hb⟩ := q
  by_cases hj : j = i
  ·subst hj
   obtain ⟨rfl, rfl⟩ := ati h
   exact absurd hl hr
  ·rw [yj hj] at hb
   exact ⟨j, d1, m1, get hj h, hr, hb⟩
 ·have hj' : j ≠ i := fun z => hj (by rw [z]; exact List.mem_cons_self ..)
  exact ⟨List.getElem?_set_ne (Ne.symm hj'), zY hj', yj hj'⟩
theorem qc6 {k : En → Prop} (A : Abs K σ H env f) (h : SrcOk K σ H env f r v g) (q : gN i r env k) : ∃ env' f', k env' ∧ Abs K (σ.set i (some v)) H env' f' ∧ Stp H env f g H env' f' [] ∧ Kq σ env f (σ.set i (some v)) env' f' ∧
 (∀ b, L0 env' f' b → L0 env f b ∨ b ∈ g) ∧ (r.isRo = false → ∀ b, Ro env' f' b → Ro env f b) ∧ Same [i] σ env f (σ.set i (some v)) env' f' := by
 obtain ⟨so, q⟩ := q
 cases h with
 | tmp rp n =>
   obtain ⟨a, b, c, d, e, z⟩ := A.put (m := .own) (G := g) so rp ⟨(fun z => nomatch z), (fun z => nomatch z)⟩ (fun _ => n) (fun b hb => (n b hb).1) fun _ b hb => hb
   exact ⟨_, _, q, a, b, c, d, fun _ => e rfl, z⟩
 | @ro c _ _ _ rp n =>
   obtain ⟨a, b, c, d, e, z⟩ := A.put (m := roMd c) (G := []) so (by cases c <;> exact rp) (by cases c <;> exact ⟨(fun z => nomatch z), (fun z => nomatch z)⟩) (fun z => by cases c <;> cases z) n (fun z => by cases c <;> cases z)
   exact ⟨_, _, q, a, b, c, d, (fun z => nomatch z), z⟩
 | sl h1 h2 h3 =>
   simp only [h2] at q
   obtain ⟨w, h4, rp⟩ := A.rep _ _ _ h2
   rw [h1] at h4; cases h4
   obtain ⟨_, r0⟩ := rp.imm (by rw [h3]; exact Nat.zero_le _) q.1
   obtain ⟨a, b, c, d, e, z⟩ := A.put (m := .own) (G := []) so r0 ⟨(fun z => nomatch z), (fun z => nomatch z)⟩ (fun _ b hb => by simp at hb) (fun b hb => by simp at hb) fun _ b hb => hb
   exact ⟨_, _, q.2, a, b, c, d, fun _ => e rfl, z⟩
end
section
variable {X : Cx} {pos : Pos}
theorem wF {i : Nat} {x : Str} (hN : X.N.Nodup) (hi : X.N[i]? = some x := by rfl) (hx : Loc X.env.scope x := by first | exact .inl rfl | exact .inr rfl) (hf : X.fn x = true ∨ X.env.scope.names.lookup x = some .local := by first | exact .inl rfl | exact .inr rfl | assumption) : DG X (.Name x pos) [i] (gN i) := by
 refine ⟨PG.imp (pg_name hN hi hx hf) fun v σ H Q q => ?_, fun r env k k' h q => ?_⟩
 ·obtain ⟨env, f, r, g, A, R1, q⟩ := q
  obtain ⟨env', f', q, A', S', K', L', O', M'⟩ := qc6 A R1 q
  exact q _ f' A' S' K' L' O' M'
 ·obtain ⟨so, q⟩ := q
  refine ⟨so, ?_⟩
  cases r with
  | tmp d => exact h _ q
  | ro c d => exact h _ q
  | sl j =>
    dsimp only at q ⊢
    cases e : env[j]? with
    | none => rw [e] at q; exact q.elim
    | some x => cases x with
      | none => rw [e] at q; exact q.elim
      | some p => rw [e] at q; exact ⟨q.1, h _ q.2⟩
end
end BX
namespace BX
open PySem PySem.Spec PyProof.Rows L2
section
variable {K : PySem.W.Frag} {σ σ' : L2.St} {H : Hp} {env e1 : En} {f f1 : FA} {g g1 g2 : List Addr}
theorem qcz {kd : Option Bool} {d : D} {v : V} {ds : List D} {vs : List V} (h : KOk K H env f kd (d :: ds) (v :: vs) g) : ∃ g1 g2, SrcOk K σ H env f (mkI kd d) v g1 ∧ KOk K H env f kd ds vs g2 ∧ (∀ b ∈ g1, b ∈ g) ∧ (∀ b ∈ g2, b ∈ g ∧ b ∉ g1) ∧ (kd.isSome = false → (mkI kd d).isRo = false) := by
 cases h with
 | tmp r n => cases r with
   | cons r t nd => exact ⟨_, _, .tmp r fun b hb => n b (List.mem_append_left _ hb), .tmp t fun b hb => n b (List.mem_append_right _ hb), fun b hb => List.mem_append_left _ hb, fun b hb => ⟨List.mem_append_right _ hb, fun z => nd rfl b z hb⟩, fun _ => rfl⟩
 | @ro c _ _ g0 r n => cases r with
   | @cons _ _ gf _ _ gg r t nd =>
     have n1 : ∀ b ∈ gf, ¬ L0 env f b := fun b hb => n b (List.mem_append_left _ hb)
     have k2 : KOk K H env f (some c) ds vs [] := KOk.ro t fun b hb => n b (List.mem_append_right _ hb)
     have s : SrcOk K σ H env f (mkRo c d) v [] := by
      cases d with
      | int i => exact .tmp r.int0 ql
      | bl i => exact .tmp r.bl0 ql
      | str i => exact .tmp r.str0 ql
      | non => exact .tmp r.non0 ql
      | _ => exact .ro r n1
     exact ⟨[], [], s, k2, fun b hb => hb, fun b hb => by simp at hb, (fun z => nomatch z)⟩
theorem KOk.wait {kd : Option Bool} {ds : List D} {vs : List V} {G : List Addr} (h : KOk K H env f kd ds vs g2) (A1 : Abs K σ' H e1 f1) (L : ∀ b, L0 e1 f1 b → L0 env f b ∨ b ∈ G) (nG : ∀ b ∈ g2, b ∉ G) (hG : kd.isSome = true → ∀ b ∈ G, False) (O : kd.isSome = false → ∀ b, Ro e1 f1 b → Ro env f b) : KOk K H e1 f1 kd ds vs g2 := by
 cases h with
 | tmp r n => exact .tmp r fun b hb => ⟨fun z => (L b z).elim (n b hb).1 (nG b hb), fun z => (n b hb).2 (O rfl b z)⟩
 | ro r n => exact .ro r fun b hb z => (L b z).elim (n b hb) (hG rfl b)
theorem KOk.ro_nil {kd : Option Bool} {ds : List D} {vs : List V} (h : KOk K H env f kd ds vs g) (e : kd.isSome = true) : g = [] := by
 cases h with
 | tmp r n => cases e
 | ro r n => rfl
end
section
variable {X : Cx} {pos : Pos}
theorem vJ : DGs X [] [] Wj := by
 refine ⟨PGs.imp pgs_nil fun vs σ H Q q => ?_, fun kd ds env k k' h q => ?_⟩
 ·obtain ⟨env, f, kd, ds, g, A, k, q⟩ := q
  cases ds with
  | cons _ _ => exact q.elim
  | nil =>
    cases k with
    | tmp r n => cases r; exact ⟨rfl, q σ f A .refl .refl (fun b z => .inl z) (fun _ b z => z) ⟨rfl, rfl, fun _ _ => ⟨rfl, rfl, rfl⟩⟩⟩
    | ro r n => cases r; exact ⟨rfl, q σ f A .refl .refl (fun b z => .inl z) (fun _ b z => z) ⟨rfl, rfl, fun _ _ => ⟨rfl, rfl, rfl⟩⟩⟩
 ·cases ds with
  | cons _ _ => exact q.elim
  | nil => exact h _ q
theorem yx {e : Expr} {es : List Expr} {t : XG} {u : XGs} {ts us : List Nat} (h1 : DG X e ts t) (h2 : DGs X es us u) (hs : (assignEach (e :: es) X.env).map (·.2) = assign e X.env :: (assignEach es X.env).map (·.2) := by rfl) : DGs X (e :: es) (ts ++ us) (yR t u) := by
 refine ⟨PGs.imp (pgs_cons h1.run h2.run hs) fun vs σ H Q q => ?_, fun kd ds env k k' h q => ?_⟩
 ·obtain ⟨env, f, kd, ds, g, A, k, q⟩ := q
  cases ds with
  | nil => exact q.elim
  | cons d ds =>
    have hv : ∃ v vr, vs = v :: vr := by
     cases k with
     | tmp r n => cases r; exact ⟨_, _, rfl⟩
     | ro r n => cases r; exact ⟨_, _, rfl⟩
    obtain ⟨v, vr, rfl⟩ := hv
    obtain ⟨g1, g2, s1, k2, i1, i2, hr⟩ := qcz (σ := σ) k
    refine ⟨v, vr, rfl, env, f, _, g1, A, s1, h1.mono _ _ _ _ (fun e1 q => ?_) q⟩
    intro σ1 f1 A1 S1 K1 L1 O1 M1
    refine ⟨e1, f1, kd, ds, g2, A1, k2.wait A1 L1 (fun b hb z => (i2 b hb).2 z) (fun e b hb => by
     have := i1 b hb
     rw [k.ro_nil e] at this
     simp at this) (fun e => O1 (hr e)), h2.mono _ _ _ _ _ (fun e2 q => ?_) q⟩
    intro σ2 f2 A2 S2 K2 L2' O2 M2
    refine q σ2 f2 A2 ?_ (K1.trans K2) (fun b z => ?_) (fun e b z => O1 (hr e) b (O2 e b z)) ⟨M2.1.trans M1.1, M2.2.1.trans M1.2.1, fun j hj => ?_⟩
    ·refine ⟨fun b o h _ => h, fun b z => ?_⟩
     rcases S2.own b z with z | z | z
     ·rcases S1.own b (.inl z) with z | z | z
      ·exact .inl z
      ·exact .inr (.inl (i1 b z))
      ·exact .inr (.inr z)
     ·exact .inr (.inl (i2 b z).1)
     ·exact .inr (.inr z)
    ·rcases L2' b z with z | z
     ·exact (L1 b z).imp_right (i1 b)
     ·exact .inr (i2 b z).1
    ·obtain ⟨a1, a2, a3⟩ := M1.2.2 j fun z => hj (List.mem_append_left _ z)
     obtain ⟨b1, b2, b3⟩ := M2.2.2 j fun z => hj (List.mem_append_right _ z)
     exact ⟨b1.trans a1, b2.trans a2, b3.trans a3⟩
 ·cases ds with
  | nil => exact q.elim
  | cons d ds => exact h1.mono _ _ _ _ (fun e q => h2.mono _ _ _ _ _ h q) q
theorem WM {es : List Expr} {k : Nat} {t : XGs} {n : Nat} {ts : List Nat} (hx : Ok X) (h : DGs X es ts t) (hn : (assignEach es X.env).length = n := by rfl) (hst : (assignEach es X.env).findIdx? (·.1) = none := by rfl) : DG X (.Tuple es k pos) ts (gT n t) := by
 refine ⟨PG.imp (pg_tup hx.calm h.run hn hst) fun v σ H Q q => ?_, fun r env k k' w q => ?_⟩
 ·obtain ⟨env, f, r, g, A, s, q⟩ := q
  have go : ∀ {lv : Nat} {xs : List D} {gg : List Addr}, Rep X.K H lv (.tup xs) v gg → xs.length = n → (∀ vs, Reps X.K H lv xs vs gg → ∃ kd g', KOk X.K H env f kd xs vs g' ∧ (∀ b ∈ g', b ∈ g) ∧ (r.isRo = false → kd.isSome = false) ∧ t kd xs env (qdq X.K σ H env f g r.isRo ts Q)) →
   ∃ a xs, v = .ref a ∧ SqT X.K H a xs ∧ xs.length = n ∧ qbV X.K ts t xs σ H Q := fun {lv xs gg} rp hl k => by
   obtain ⟨a, vs, rfl, ha, rr⟩ := rp.tupleSq
   obtain ⟨kd, g', kk, hg', hro, q⟩ := k vs rr
   refine ⟨a, vs, rfl, ha, by rw [← rr.len]; exact hl, env, f, kd, xs, g', A, kk, h.mono _ _ _ _ _ (fun e1 q => ?_) q⟩
   intro σ1 f1 A1 S1 K1 L1 O1 M1
   exact q σ1 f1 A1 (S1.more hg') K1 (fun b z => (L1 b z).imp_right (hg' b)) (fun e => O1 (hro e)) M1
  unfold gT rd at q
  cases s with
  | @tmp d _ _ rp nn =>
    simp only [R.data] at q
    cases d with
    | tup xs => exact go rp q.1 fun vs rr => ⟨none, g, .tmp rr nn, fun b hb => hb, fun _ => rfl, q.2⟩
    | _ => exact q.elim
  | @ro c d _ g0 rp nn =>
    unfold R.data at q
    cases e : roOk c 2 with
    | false => simp only [e] at q
    | true =>
      simp only [e] at q
      cases d with
      | tup xs => exact go rp q.1 fun vs rr => ⟨some c, [], .ro rr nn, fun b hb => hb, (fun z => nomatch z), q.2⟩
      | _ => exact q.elim
  | @sl i _ d m h1 h2 h3 =>
    obtain ⟨w, h4, rp⟩ := A.rep _ _ _ h2
    rw [h1] at h4; cases h4
    unfold R.data at q
    simp only [h2] at q
    cases e : m.okL 2 with
    | false => simp only [e] at q
    | true =>
      simp only [e] at q
      cases d with
      | tup xs =>
        refine go rp q.1 fun vs rr => ?_
        obtain ⟨_, r0⟩ := rr.imm (by rw [h3]; exact Nat.zero_le _) q.2.1
        exact ⟨none, [], .tmp r0 ql, fun b hb => hb, fun _ => rfl, q.2.2⟩
      | _ => exact q.elim
 ·refine qL (fun d q => ?_) q
  cases d with
  | tup xs =>
    refine ⟨q.1, ?_⟩
    cases r with
    | tmp _ => exact h.mono _ _ _ _ _ w q.2
    | ro c _ => exact h.mono _ _ _ _ _ w q.2
    | sl _ => exact ⟨q.2.1, h.mono _ _ _ _ _ w q.2.2⟩
  | _ => exact q.elim
def sAsg (t : XE) (g : XG) : XS := fun env nx _ => t env fun r e => g r e nx
theorem JZ {K : PySem.W.Frag} {te : XE} {g : XG} {ts : List Nat} (m1 : yw te) (m2 : XC g) {D : Ends} {σ : L2.St} {H : Hp} (q : qai K (sAsg te g) D σ H) : tAsg (xN K te) (qcZ K ts g) D σ H := by
 obtain ⟨env, f, A, q⟩ := q
 refine ⟨env, f, A, m1 _ _ _ (fun r e1 q => ?_) q⟩
 intro v H1 f1 g1 A1 R1 S1 K1
 refine ⟨e1, f1, r, g1, A1, R1.src A1, m2 _ _ _ _ (fun e2 q => ?_) q⟩
 intro σ2 f2 A2 S2 K2 _ _ _
 exact q σ2 H1 f2 A2 (S1.trans S2) (K1.kq.trans K2)
theorem ZQ {te : XE} {g : XG} (m1 : yw te) (m2 : XC g) : Wc (sAsg te g) := fun env nx nx' rt rt' h _ q => m1 _ _ _ (fun r e q => m2 _ _ _ _ h q) q
theorem wL {i : Nat} {x : Str} {e : Expr} {te : XE} {pos' : Pos} (hN : X.N.Nodup) (he : DE X e te) (hi : X.N[i]? = some x := by rfl) (hx : Loc X.env.scope x := by first | exact .inl rfl | exact .inr rfl) (hs : swapsWith e (some (.Name x pos')) pos.line X.env = pure false := by rfl)
 (hf : X.fn x = true ∨ X.env.scope.names.lookup x = some .local := by first | exact .inl rfl | exact .inr rfl | assumption) : DS X (.Assign [.Name x pos'] e pos) (sAsg te (gN i)) := by
 have dg : DG X (.Name x pos') [i] (gN i) := wF hN hi hx hf
 refine ⟨PS.imp (ps_set hN hi hx he.run hs hf) fun D σ H q => ?_, ZQ he.mono dg.mono⟩
 have h := JZ (ts := [i]) he.mono dg.mono q
 obtain ⟨env, f, A, h⟩ := h
 refine ⟨env, f, A, he.mono _ _ _ (fun r e1 q => ?_) h⟩
 intro v H1 f1 g1 A1 R1 S1 K1
 obtain ⟨env2, f2, r2, g2, A2, R2, q2⟩ := q v H1 f1 g1 A1 R1 S1 K1
 obtain ⟨env', f', q, A', S', K', L', O', M'⟩ := qc6 A2 R2 q2
 exact q _ f' A' S' K' L' O' M'
end
end BX
namespace BX
open PySem PySem.Spec PyProof.Rows L2
abbrev Lok := Option (Nat × Md)
abbrev XI := En → (List D → Option Bool → Lok → En → Prop) → Prop
def qdr (t : XI) : Prop := ∀ env k k', (∀ ds kd lk e, k ds kd lk e → k' ds kd lk e) → t env k → t env k'
def Near (H0 : Hp) (P : List Addr) (H : Hp) : Prop := ∀ b o, H0 b = some o → (b ∈ P ∨ Mu o = false) → H b = some o
def Item (K : PySem.W.Frag) (H : Hp) (P : List Addr) (kd : Option Bool) (d : D) (x : V) : Prop := match kd with
 | none => Rep K H 0 d x []
 | some c => ∃ g, Rep K H (clv c) d x g ∧ ∀ b ∈ g, b ∈ P
structure Wk (K : PySem.W.Frag) (J : It) (ds : List D) (kd : Option Bool) (H0 : Hp) (P : List Addr) : Prop where
 go : ∀ i H, Near H0 P H → i < ds.length → J.go i H
 stop : ∀ i H, Near H0 P H → ds.length ≤ i → J.stop i H
 yld : ∀ (i : Nat) (H : Hp) (x : V) (H' : Hp) (d : D), Near H0 P H → ds[i]? = some d → J.yld i H x H' → (∀ b o, H b = some o → H' b = some o) ∧ Item K H' P kd d x
inductive Lk (env : En) : Lok → En → Prop
 | none : Lk env none env
 | some {i : Nat} {d : D} {m : Md} : env[i]? = some (some (d, m)) → m.lv = 0 → Lk env (some (i, m)) (env.set i (some (d, .lk)))
def qe5 (K : PySem.W.Frag) (σ : L2.St) (H : Hp) (env : En) (f : FA) (R : It → Hp → Prop) : List D → Option Bool → Lok → En → Prop := fun ds kd lk e1 =>
 ∀ J H1 f1 P env', Abs K σ H1 env' f1 → Stp H env f [] H1 env' f1 [] → Kp env f env' f1 → Lk env' lk e1 → Wk K J ds kd H1 P → (∀ b ∈ P, (∃ o, H1 b = some o) ∧ ¬ W e1 f1 b) → (kd.isSome = true → ∀ b ∈ P, ¬ L0 e1 f1 b) → R J H1
def qeA (K : PySem.W.Frag) (t : XI) : TI := fun σ H R => ∃ env f, Abs K σ H env f ∧ t env (qe5 K σ H env f R)
structure DI (X : Cx) (tg it : Expr) (t : XI) : Prop where
 run : PI X tg it (qeA X.K t)
 mono : qdr t
theorem PI.imp {X : Cx} {tg it : Expr} {t u : TI} (h : PI X tg it t) (k : ∀ σ H R, u σ H R → t σ H R) : PI X tg it u := ⟨fun pins s σ H R I q => h.run pins s σ H R I (k _ _ _ q)⟩
def thaw (lk : Lok) (env : En) (k : En → Prop) : Prop := match lk with
 | none => k env
 | some (i, m) => match env[i]? with
   | some (some (d, .lk)) => k (env.set i (some (d, m)))
   | _ => False
theorem jg {lk : Lok} {env : En} {k k' : En → Prop} (h : ∀ e, k e → k' e) (q : thaw lk env k) : thaw lk env k' := by
 unfold thaw at q ⊢
 split at q
 ·exact h _ q
 ·split at q
  ·simp only [*] <;> exact h _ q
  ·exact q.elim
def forL (g : XG) (tb : XS) (kd : Option Bool) : List D → XS
 | [], env, nx, _ => nx env
 | d :: ds, env, nx, rt => g (mkI kd d) env fun e1 => tb e1 (fun e2 => forL g tb kd ds e2 nx rt) rt
def sFor (it : XI) (g : XG) (tb : XS) : XS := fun env nx rt => it env fun ds kd lk e1 => forL g tb kd ds e1 (fun e2 => thaw lk e2 nx) (fun d e2 => thaw lk e2 fun e3 => rt d e3)
theorem QV {g : XG} {tb : XS} {kd : Option Bool} (mg : XC g) (mb : Wc tb) : ∀ ds : List D, Wc (forL g tb kd ds)
 | [], env, nx, nx', rt, rt', h, h', q => h _ q
 | d :: ds, env, nx, nx', rt, rt', h, h', q => mg _ _ _ _ (fun e1 q => mb _ _ _ _ _ (fun e2 q => QV mg mb ds _ _ _ _ _ h h' q) h' q) q
section
variable {K : PySem.W.Frag} {σ σ' : L2.St} {H H1 H' : Hp} {env env' e1 e2 : En} {f f1 f2 : FA} {lk : Lok}
theorem vG {i : Nat} {d : D} {m m' : Md} (A : Abs K σ H env f) (e : env[i]? = some (some (d, m))) (h : m.lv = 0) (h' : m'.lv = 0) : Abs K σ H (env.set i (some (d, m'))) f := by
 have hi : i < env.length := (List.getElem?_eq_some_iff.mp e).1
 have get : ∀ {j : Nat} {d1 : D} {m1 : Md}, (env.set i (some (d, m')))[j]? = some (some (d1, m1)) → ∃ m2, env[j]? = some (some (d1, m2)) ∧ m2.lv = m1.lv := fun {j d1 m1} q => by
  by_cases hj : j = i
  ·subst hj
   rw [xf hi] at q; cases q
   exact ⟨m, e, h.trans h'.symm⟩
  ·rw [zY hj] at q
   exact ⟨m1, q, rfl⟩
 refine ⟨fun j d1 m1 q => ?_, fun j k d1 m1 d2 m2 hjk q1 q2 hl => ?_, by rw [List.length_set]; exact A.len⟩
 ·obtain ⟨m2, q', hm⟩ := get q
  rw [← hm]
  exact A.rep j d1 m2 q'
 ·obtain ⟨m3, q3, hm3⟩ := get q1
  obtain ⟨m4, q4, hm4⟩ := get q2
  exact A.dis j k d1 m3 d2 m4 hjk q3 q4 (hm3.trans hl)
theorem Lk.abs (h : Lk env lk e1) (A : Abs K σ H env f) : Abs K σ H e1 f := by
 cases h with
 | none => exact A
 | some e l => exact vG A e l rfl
theorem Lk.w (h : Lk env lk e1) {b : Addr} (w : W e1 f b) : W env f b := by
 cases h with
 | none => exact w
 | @some i d m e l =>
   obtain ⟨j, d1, m1, q, hr, hb⟩ := w
   have hi : i < env.length := (List.getElem?_eq_some_iff.mp e).1
   by_cases hj : j = i
   ·subst hj
    rw [xf hi] at q; cases q; cases hr
   ·rw [zY hj] at q
    exact ⟨j, d1, m1, q, hr, hb⟩
theorem vB {k : En → Prop} (L : Lk env lk e1) (A : Abs K σ' H' e2 f2) (S : Stp H1 e1 f1 [] H' e2 f2 G) (Kk : Kq σ e1 f1 σ' e2 f2) (q : thaw lk e2 k) :
 ∃ e3, k e3 ∧ Abs K σ' H' e3 f2 ∧ Stp H1 env f1 [] H' e3 f2 G ∧ Kq σ env f1 σ' e3 f2 ∧ ∀ (i : Nat) (d : D) (m : Md), e3[i]? = some (some (d, m)) → (m = .io ∨ m = .lk) → ∃ m', e2[i]? = some (some (d, m')) ∧ (m' = .io ∨ m' = .lk) := by
 cases L with
 | none => exact ⟨e2, q, A, S, Kk, fun i d m e h => ⟨m, e, h⟩⟩
 | @some i d m e l =>
   have hi : i < env.length := (List.getElem?_eq_some_iff.mp e).1
   have he1 : (env.set i (some (d, Md.lk)))[i]? = some (some (d, Md.lk)) := xf hi
   obtain ⟨hσ, he2, hf⟩ := Kk.lk i d he1
   have hi2 : i < e2.length := (List.getElem?_eq_some_iff.mp he2).1
   simp only [thaw, he2] at q
   refine ⟨_, q, vG A he2 rfl l, ⟨fun b o h z => ?_, fun b z => ?_⟩, ⟨fun j d1 h => ?_, fun j d1 h => ?_, fun j d1 h => ?_⟩, fun j d1 m1 h hm => ?_⟩
   ·refine S.same b o h (z.imp_right fun z => ⟨fun w => z.1 ((Lk.some e l : Lk env (some (i, m)) _).w w), z.2⟩)
   ·have inj : (W e2 f2 b ∨ b ∈ G) → (W env f1 b ∨ b ∈ ([] : List Addr) ∨ H1 b = none) := fun z => (S.own b z).imp_left fun w => (Lk.some e l : Lk env (some (i, m)) _).w w
    rcases z with ⟨j, d1, m1, q1, hr, hb⟩ | z
    ·by_cases hj : j = i
     ·subst hj
      rw [xf hi2] at q1; cases q1
      rw [hf] at hb
      exact .inl ⟨j, d, m, e, hr, hb⟩
     ·rw [zY hj] at q1
      exact inj (.inl ⟨j, d1, m1, q1, hr, hb⟩)
    ·exact inj (.inr z)
   ·by_cases hj : j = i
    ·subst hj
     rw [e] at h; cases h
     exact ⟨hσ, d, xf hi2⟩
    ·obtain ⟨a, d', b⟩ := Kk.io j d1 (by rw [zY hj]; exact h)
     exact ⟨a, d', by rw [zY hj]; exact b⟩
   ·by_cases hj : j = i
    ·subst hj
     rw [e] at h; cases h
     exact ⟨hσ, xf hi2, hf⟩
    ·obtain ⟨a, b, c⟩ := Kk.lk j d1 (by rw [zY hj]; exact h)
     exact ⟨a, by rw [zY hj]; exact b, c⟩
   ·by_cases hj : j = i
    ·subst hj
     rw [xf hi2] at h; cases h
     exact e
    ·rw [zY hj] at h
     have := Kk.lkr j d1 h
     rwa [zY hj] at this
   ·by_cases hj : j = i
    ·subst hj
     rw [xf hi2] at h; cases h
     exact ⟨.lk, he2, .inr rfl⟩
    ·rw [zY hj] at h
     exact ⟨m1, h, hm⟩
theorem Zo {P : List Addr} {kd : Option Bool} {d : D} {x : V} (h : Item K H P kd d x) (n : kd.isSome = true → ∀ b ∈ P, ¬ L0 env f b) : SrcOk K σ H env f (mkI kd d) x [] := by
 cases kd with
 | none => exact .tmp h ql
 | some c =>
   obtain ⟨g, r, hg⟩ := h
   have n1 : ∀ b ∈ g, ¬ L0 env f b := fun b hb => n rfl b (hg b hb)
   show SrcOk K σ H env f (mkRo c d) x []
   cases d with
   | int i => exact .tmp r.int0 ql
   | bl i => exact .tmp r.bl0 ql
   | str i => exact .tmp r.str0 ql
   | non => exact .tmp r.non0 ql
   | _ => exact .ro r n1
end
section
variable {X : Cx} {tg it : Expr} {body : List Stmt} {ti : XI} {g : XG} {tb : XS} {pos : Pos} {ts : List Nat}
theorem Jz (hx : Ok X) (hi : DI X tg it ti) (hg : DG X tg ts g) (hb : DSs X body tb) (hp : PassesOwn (model X.prog X.w) X.A X.env X.xe := by exact PassesOwn.never) (hs : ∀ x, foldedSetIterable it X.env x = pure x := by intro _; rfl) : DS X (.For tg it body [] pos) (sFor ti g tb) := by
 refine ⟨PS.imp (ps_for hp hx.calm hi.run hg.run hb.run hs) fun Dn σ H q => ?_, fun env nx nx' rt rt' h h' q => hi.mono _ _ _ (fun ds kd lk e q => QV hg.mono hb.mono ds _ _ _ _ _ (fun e q => jg (fun e q => h _ q) q) (fun d e q => jg (fun e q => h' _ _ q) q) q) q⟩
 obtain ⟨env, f, A, q⟩ := q
 refine ⟨env, f, A, hi.mono _ _ _ (fun ds kd lk e1 q => ?_) q⟩
 intro J H1 f1 P env' A1 S1 K1 L Wa hP hPL
 have A1' := L.abs A1
 refine ⟨fun i m σ' H' => m = ds.length - i ∧ i ≤ ds.length ∧ ∃ e f', Abs X.K σ' H' e f' ∧ Stp H1 e1 f1 [] H' e f' [] ∧ Kq σ e1 f1 σ' e f' ∧
  forL g tb kd (ds.drop i) e (fun e2 => thaw lk e2 (ZC X.K σ H env f Dn.nx)) (fun d e2 => thaw lk e2 fun e3 => Wq X.K σ H env f Dn.rt d e3), ⟨ds.length, by simp, Nat.zero_le _, e1, f1, A1', .refl, .refl, q⟩, fun i m σ' H' w => ?_⟩
 obtain ⟨rfl, hi', e, f', A', S', K', q⟩ := w
 have near : Near H1 P H' := fun b o h z => S'.same b o h (by
  rcases z with z | z
  ·exact .inr ⟨(hP b z).2, by simp⟩
  ·exact .inl z)
 by_cases hlt : i < ds.length
 ·refine .inr ⟨Wa.go i H' near hlt, fun σ2 H2 => _, fun σ2 H2 n2 => ⟨ds.length - (i + 1), by omega, n2⟩, fun x H2 hy => ?_⟩
  obtain ⟨sm, itm⟩ := Wa.yld i H' x H2 ds[i] near (List.getElem?_eq_getElem hlt) hy
  rw [List.drop_eq_getElem_cons hlt] at q
  have nl : kd.isSome = true → ∀ b ∈ P, ¬ L0 e f' b := fun hk b hb z => by
   obtain ⟨j, d1, m1, h1, h2, h3⟩ := z
   cases hr : m1.rd with
   | false =>
     rcases S'.own b (.inl ⟨j, d1, m1, h1, hr, h3⟩) with z | z | z
     ·exact (hP b hb).2 z
     ·simp at z
     ·obtain ⟨o, ho⟩ := (hP b hb).1
      rw [z] at ho; cases ho
   | true =>
     have hm : m1 = .lk := by cases m1 <;> first | rfl | (cases hr; done) | (cases h2; done)
     subst hm
     have h4 := K'.lkr j d1 h1
     obtain ⟨_, _, h5⟩ := K'.lk j d1 h4
     rw [h5] at h3
     exact hPL hk b hb ⟨j, d1, .lk, h4, rfl, h3⟩
  refine ⟨e, f', mkI kd ds[i], [], A'.ext sm, Zo itm nl, hg.mono _ _ _ _ (fun e2 q2 => ?_) q⟩
  intro σ2 f2 A2 S2 K2 _ _ _
  have S3 : Stp H1 e1 f1 [] H2 e2 f2 [] := (S'.ext sm).trans S2
  have K3 := K'.trans K2
  refine ⟨e2, f2, A2, hb.mono _ _ _ _ _ (fun e3 q3 => ?_) (fun d e3 q3 => ?_) q2⟩
  ·intro σ3 H3 f3 A3 S4 K4
   exact ⟨rfl, hlt, e3, f3, A3, S3.trans S4, K3.trans K4, q3⟩
  ·intro v σ3 H3 f3 gg A3 rv nv S4 K4
   obtain ⟨e4, q4, A4, S5, K5, back⟩ := vB L A3 (S3.trans S4) (K3.trans K4) q3
   exact q4 v σ3 H3 f3 gg A4 rv (fun b hb i d m h hm => by
    obtain ⟨m', h', hm'⟩ := back i d m h hm
    exact nv b hb i d m' h' hm') (S1.trans S5) (K1.kq.trans K5)
 ·have hie : i = ds.length := by omega
  subst hie
  rw [List.drop_length] at q
  obtain ⟨e3, q3, A3, S3, K3, _⟩ := vB L A' S' K' q
  exact .inl ⟨Wa.stop _ _ near (Nat.le_refl _), q3 σ' H' f' A3 (S1.trans S3) (K1.kq.trans K3)⟩
end
def zF (r : R) (env : En) (k : Option Bool → Lok → En → Prop) (im : Bool) : Prop := match r with
 | .tmp _ => im = true ∧ k none none env
 | .ro c _ => k (some c) none env
 | .sl i => match env[i]? with
   | some (some (d, m)) => im = true ∧ k none (some (i, m)) (env.set i (some (d, .lk)))
   | _ => False
def iSeq (t : XE) : XI := fun env k => t env fun r e => rd 2 r e fun d => match d with
 | .lst xs => zF r e (fun kd lk e1 => k xs kd lk e1) (immL xs)
 | .lF xs => zF r e (fun kd lk e1 => k xs kd lk e1) (immL xs)
 | .tup xs => zF r e (fun kd lk e1 => k xs kd lk e1) (immL xs)
 | _ => False
def jJ (t : XE) : XI := fun env k => t env fun r e => rd 2 r e fun d => match d with
 | .int j => -(2 ^ 62) ≤ j ∧ j < 2 ^ 62 ∧ k ((List.range j.toNat).map fun n => .int (n : Nat)) none none e
 | _ => False
def qc5 (t u : XE) : XI := fun env k => t env fun r e => u e fun r2 e2 => rd 2 r e2 fun d => rd 2 r2 e2 fun d2 => match d, d2 with
 | .int i, .int j => (-(2 ^ 62) ≤ i ∧ i < 2 ^ 62 ∧ -(2 ^ 62) ≤ j ∧ j < 2 ^ 62) ∧ k ((List.range (j - i).toNat).map fun n => .int (i + (n : Nat))) none none e2
 | _, _ => False
theorem jG {r : R} {env : En} {k k' : Option Bool → Lok → En → Prop} {im : Bool} (h : ∀ kd lk e, k kd lk e → k' kd lk e) (q : zF r env k im) : zF r env k' im := by
 cases r with
 | tmp d => exact ⟨q.1, h _ _ _ q.2⟩
 | ro c d => exact h _ _ _ q
 | sl i =>
   unfold zF at q ⊢
   dsimp only at q ⊢
   cases e : env[i]? with
   | none => rw [e] at q; exact q.elim
   | some x => cases x with
     | none => rw [e] at q; exact q.elim
     | some p => rw [e] at q; exact ⟨q.1, h _ _ _ q.2⟩
section
variable {K : PySem.W.Frag} {H0 : Hp} {P : List Addr} {n : Nat}
theorem qa3 {lo : Int} : Wk K (Itr lo n) ((List.range n).map fun k => .int (lo + (k : Nat))) none H0 [] where
 go := fun i H _ h => by show i < n; simpa using h
 stop := fun i H _ h => by show n ≤ i; simpa using h
 yld := fun i H x H' d _ h hy => by
  obtain ⟨rfl, rfl⟩ := hy
  refine ⟨fun b o h => h, ?_⟩
  rw [List.getElem?_map] at h
  cases e : (List.range n)[i]? with
  | none => rw [e] at h; cases h
  | some j =>
    rw [e] at h
    have hj : j = i := by
     obtain ⟨h1, h2⟩ := List.getElem?_eq_some_iff.mp e
     simpa using h2.symm
    subst hj
    cases h
    exact .int _
end
section
variable {X : Cx} {tg e e2 : Expr} {t u : XE} {p pos : Pos}
theorem jw (ha : DE X e t) (hm : X.mg "range" = none) (hg : Gl X "range" := by rfl) (hs : starEach [e] X.env = [(false, eval e X.env)] := by rfl) (hs' : starEach [e] X.env = (false, eval e X.env) :: starEach [] X.env := by rfl) : DI X tg (.Call (.Name "range" p) [e] [] pos) (jJ t) := by
 refine ⟨PI.imp (pi_range1 hg hm (qb ha qp hs').run hs) fun σ H R q => ?_, fun env k k' h q => ha.mono _ _ _ (fun r e q => qL (fun d q => ?_) q) q⟩
 ·obtain ⟨env, f, A, q⟩ := q
  refine ⟨env, f, A, ha.mono _ _ _ (fun r1 e1 q => ?_) q⟩
  intro vs H1 f1 gs A1 R1 S1 K1
  cases R1 with
  | cons R1 Rt _ =>
    cases Rt
    obtain ⟨d, g', rp, q⟩ := yg A1 R1 q
    cases d with
    | int j =>
      obtain ⟨rfl, _⟩ := rp.intV
      refine ⟨j, rfl, q.1, q.2.1, q.2.2 _ H1 f1 [] e1 A1 (S1.drop fun _ z => by simp at z) K1 .none ?_ (fun b hb => by simp at hb) (fun _ b hb => by simp at hb)⟩
      have := qa3 (K := X.K) (H0 := H1) (n := j.toNat) (lo := 0)
      simpa using this
    | _ => exact q.elim
 ·cases d with
  | int j => exact ⟨q.1, q.2.1, h _ _ _ _ q.2.2⟩
  | _ => exact q.elim
end
section
variable {X : Cx} {tg e : Expr} {t : XE}
def qgj (K : PySem.W.Frag) (tl : TE) : TI := fun σ H R => tl σ H fun x H1 => ∃ a xs, x = .ref a ∧ ((SqL K H1 a xs ∧ R (Itl K a) H1) ∨ (SqT K H1 a xs ∧ R (Itt K a) H1))
theorem qcH {l : Expr} {tl : TE} (hl : PE X l tl) : PI X tg l (qgj X.K tl) := by
 constructor
 intro pins s σ H R I h
 refine thn (hl.run pins s σ H _ I h) ?_
 rintro v s1 ⟨x, H1, I1, r1, a, xs, rfl, q⟩
 obtain rfl : v = Value.ref a := r1
 have fresh : ∀ b ∈ [s1.heap.objs.size], FpOk X pins H1 b := fun b hb => by
  rw [List.mem_singleton.mp hb]
  exact I1.fpOk (Nat.le_refl _) (I1.hok.fresh (Nat.le_refl _))
 have push : ∀ ob : Obj, Inv X pins σ H1 { s1 with heap := s1.heap.push ob } := fun ob => I1.kept (t' := s1.toks) fun b o z => Heap.get?_push_of_some _ z
 rcases q with ⟨hq, q⟩ | ⟨hq, q⟩
 ·obtain ⟨its, _, pl, _⟩ := I1.list hq
  exact wpAny_pyIter_list pl.isList ⟨_, [s1.heap.objs.size], _, _, H1, rfl, push _, turn_list a _, ⟨_, Heap.get?_push_size _ rfl, rfl, rfl⟩, fresh, q⟩
 ·obtain ⟨its, _, pl, _⟩ := I1.tuple hq
  exact wpAny_pyIter_tuple (show s1.heap.IsTuple a its.toArray from pl) ⟨_, [s1.heap.objs.size], _, _, H1, rfl, push _, turn_tuple a _, ⟨_, Heap.get?_push_size _ rfl, rfl, rfl⟩, fresh, q⟩
section
variable {K : PySem.W.Frag} {σ : L2.St} {H H1 : Hp} {env e1 e2 : En} {f f1 : FA} {g : List Addr} {r : R} {x : V} {ds : List D}
theorem Zi {RR : It → Hp → Prop} {J : It} {d : D} (A : Abs K σ H1 e1 f1) (S : Stp H env f [] H1 e1 f1 g) (Kk : Kp env f e1 f1) (h : ResOk K σ H1 e1 f1 r x g) (im : Bool) (q : zF r e1 (fun kd lk e2 => qe5 K σ H env f RR ds kd lk e2) im)
 (wk : ∀ (lv : Nat) (gg : List Addr), Rep K H1 lv d x gg → (im = true → lv ≤ 1 → Wk K J ds none H1 gg) ∧ ∀ c, lv = clv c → Wk K J ds (some c) H1 gg)
 (dd : r.data 2 e1 = some d) : RR J H1 := by
 have S0 : Stp H env f [] H1 e1 f1 [] := S.drop fun _ z => by simp at z
 cases h with
 | @tmp d' _ _ rp n =>
   cases dd
   obtain ⟨hi, q⟩ := q
   exact q J H1 f1 g e1 A S0 Kk .none ((wk 0 g rp).1 hi (Nat.zero_le _)) (fun b hb => ⟨(rp.dom b hb).imp fun o z => z.1, fun w => (n b hb).1 w.l0⟩) (fun z => nomatch z)
 | @ro c d' _ g0 rp n =>
   have dd' : d' = d := by
    unfold BX.R.data at dd
    cases e : roOk c 2 with
    | false => simp only [e] at dd; cases dd
    | true => simp only [e] at dd; exact Option.some.inj dd
   subst dd'
   exact q J H1 f1 g0 e1 A S0 Kk .none ((wk _ g0 rp).2 c rfl) (fun b hb => ⟨(rp.dom b hb).imp fun o z => z.1, fun w => A.apart w.l0 (n b hb)⟩) (fun _ b hb z => A.apart z (n b hb))
 | @sl i _ d' m h1 h2 h3 =>
   obtain ⟨w, h4, rp⟩ := A.rep _ _ _ h2
   rw [h1] at h4; cases h4
   have dd' : d' = d := by
    unfold BX.R.data at dd
    simp only [h2] at dd
    cases e : m.okL 2 with
    | false => simp only [e] at dd; cases dd
    | true => simp only [e] at dd; exact Option.some.inj dd
   subst dd'
   unfold zF at q
   simp only [h2] at q
   obtain ⟨hi, q⟩ := q
   have L : Lk e1 (some (i, m)) (e1.set i (some (d', .lk))) := .some h2 h3
   refine q J H1 f1 (f1 i) e1 A S0 Kk L ((wk _ (f1 i) rp).1 hi (by rw [h3]; exact Nat.zero_le _)) (fun b hb => ⟨(rp.dom b hb).imp fun o z => z.1, fun w => ?_⟩) (fun z => nomatch z)
   obtain ⟨j, d1, m1, e3, hr, hb'⟩ := w
   have hi1 : i < e1.length := (List.getElem?_eq_some_iff.mp h2).1
   by_cases hj : j = i
   ·subst hj
    rw [xf hi1] at e3; cases e3; cases hr
   ·rw [zY hj] at e3
    exact A.dis i j _ _ _ _ (Ne.symm hj) h2 e3 h3 b hb hb'
theorem jF {P : List Addr} {lv : Nat} {d : D} {gg : List Addr} (r : Rep K H1 lv d x gg) (n : Near H1 P H) (h : ∀ b ∈ gg, b ∈ P) : Rep K H lv d x gg := r.keep fun b o e z => n b o e (z.imp_left (h b))
theorem vI {P gg : List Addr} {lv : Nat} {d : D} (r : Rep K H lv d x gg) (h : ∀ b ∈ gg, b ∈ P) : (lv ≤ 1 → d.imm = true → Item K H P none d x) ∧ ∀ c, lv = clv c → Item K H P (some c) d x :=
 ⟨fun l im => (r.imm l im).2, fun c e => ⟨gg, by rw [← e]; exact r, h⟩⟩
theorem Vs {lv : Nat} {a : Addr} {vs : List V} {gg P : List Addr} (hq : ∀ H, Near H1 P H → SqL K H a vs) (rr : Reps K H1 lv ds vs gg) (hg : ∀ b ∈ gg, b ∈ P) :
 (immL ds = true → lv ≤ 1 → Wk K (Itl K a) ds none H1 P) ∧ ∀ c, lv = clv c → Wk K (Itl K a) ds (some c) H1 P := by
 have it : ∀ (i : Nat) (H : Hp) (x : V) (H' : Hp) (d : D), Near H1 P H → ds[i]? = some d → (Itl K a).yld i H x H' → H' = H ∧ ∃ g, Rep K H lv d x g ∧ ∀ b ∈ g, b ∈ P := fun i H x H' d n e y => by
  obtain ⟨rfl, y⟩ := y
  obtain ⟨v, g, e1, r, hs⟩ := rr.get e
  have := y vs (hq _ n)
  rw [e1] at this; cases this
  exact ⟨rfl, g, jF r n fun b hb => hg b (hs b hb), fun b hb => hg b (hs b hb)⟩
 have go : ∀ (i : Nat) (H : Hp), Near H1 P H → i < ds.length → (Itl K a).go i H := fun i H n h => ⟨vs, vs[i]'(by rw [← rr.len]; exact h), hq H n, List.getElem?_eq_getElem _⟩
 have st : ∀ (i : Nat) (H : Hp), Near H1 P H → ds.length ≤ i → (Itl K a).stop i H := fun i H n h => ⟨vs, hq H n, by rw [← rr.len]; exact h⟩
 refine ⟨fun im l => ⟨go, st, fun i H x H' d n e y => ?_⟩, fun c hc => ⟨go, st, fun i H x H' d n e y => ?_⟩⟩
 ·obtain ⟨rfl, g, r, hs⟩ := it i H x H' d n e y
  exact ⟨fun b o h => h, (vI r hs).1 l (Qp im d (List.mem_of_getElem? e))⟩
 ·obtain ⟨rfl, g, r, hs⟩ := it i H x H' d n e y
  exact ⟨fun b o h => h, (vI r hs).2 c hc⟩
theorem qcq {lv : Nat} {a : Addr} {vs : List V} {gg P : List Addr} (hq : ∀ H, Near H1 P H → SqT K H a vs) (rr : Reps K H1 lv ds vs gg) (hg : ∀ b ∈ gg, b ∈ P) :
 (immL ds = true → lv ≤ 1 → Wk K (Itt K a) ds none H1 P) ∧ ∀ c, lv = clv c → Wk K (Itt K a) ds (some c) H1 P := by
 have it : ∀ (i : Nat) (H : Hp) (x : V) (H' : Hp) (d : D), Near H1 P H → ds[i]? = some d → (Itt K a).yld i H x H' → H' = H ∧ ∃ g, Rep K H lv d x g ∧ ∀ b ∈ g, b ∈ P := fun i H x H' d n e y => by
  obtain ⟨rfl, y⟩ := y
  obtain ⟨v, g, e1, r, hs⟩ := rr.get e
  have := y vs (hq _ n)
  rw [e1] at this; cases this
  exact ⟨rfl, g, jF r n fun b hb => hg b (hs b hb), fun b hb => hg b (hs b hb)⟩
 have go : ∀ (i : Nat) (H : Hp), Near H1 P H → i < ds.length → (Itt K a).go i H := fun i H n h => ⟨vs, vs[i]'(by rw [← rr.len]; exact h), hq H n, List.getElem?_eq_getElem _⟩
 have st : ∀ (i : Nat) (H : Hp), Near H1 P H → ds.length ≤ i → (Itt K a).stop i H := fun i H n h => ⟨vs, hq H n, by rw [← rr.len]; exact h⟩
 refine ⟨fun im l => ⟨go, st, fun i H x H' d n e y => ?_⟩, fun c hc => ⟨go, st, fun i H x H' d n e y => ?_⟩⟩
 ·obtain ⟨rfl, g, r, hs⟩ := it i H x H' d n e y
  exact ⟨fun b o h => h, (vI r hs).1 l (Qp im d (List.mem_of_getElem? e))⟩
 ·obtain ⟨rfl, g, r, hs⟩ := it i H x H' d n e y
  exact ⟨fun b o h => h, (vI r hs).2 c hc⟩
theorem jt {lv : Nat} {gg : List Addr} (r : Rep K H1 lv (.lst ds) x gg) : ∃ a vs g, x = .ref a ∧ SqL K H1 a vs ∧ (∀ H, Near H1 gg H → SqL K H a vs) ∧ Reps K H1 lv ds vs g ∧ ∀ b ∈ g, b ∈ gg := by
 obtain ⟨a, vs, g, rfl, h, rr, hs, z⟩ := r.listSq
 refine ⟨a, vs, g, rfl, h, fun H n => ?_, rr, hs⟩
 rcases z with ⟨z, zm⟩ | z
 ·exact .of (n a _ z (.inl zm))
 ·exact (z.keep fun o e m => n a o e (.inr m)).sq
theorem V8 {lv : Nat} {gg : List Addr} (r : Rep K H1 lv (.lF ds) x gg) : ∃ a vs, x = .ref a ∧ SqL K H1 a vs ∧ (∀ H, Near H1 gg H → SqL K H a vs) ∧ Reps K H1 lv ds vs gg := by
 obtain ⟨a, vs, rfl, h, rr, z⟩ := r.lFSq
 exact ⟨a, vs, rfl, h, fun H n => (z.keep fun o e m => n a o e (.inr m)).sq, rr⟩
theorem Qm {lv : Nat} {gg : List Addr} (r : Rep K H1 lv (.tup ds) x gg) : ∃ a vs, x = .ref a ∧ SqT K H1 a vs ∧ (∀ H, Near H1 gg H → SqT K H a vs) ∧ Reps K H1 lv ds vs gg := by
 cases r with
 | tup h r => exact ⟨_, _, rfl, .of h, fun H n => .of (n _ _ h (.inr rfl)), r⟩
 | tupK l h r => exact ⟨_, _, rfl, h.sq, fun H n => h.sq, r⟩
theorem Za {L : Nat} {k : D → Prop} (q : rd L r env k) : ∃ d, r.data L env = some d ∧ k d := by
 unfold rd at q
 cases e : r.data L env with
 | none => rw [e] at q; exact q.elim
 | some d => rw [e] at q; exact ⟨d, rfl, q⟩
end
theorem qaE (ha : DE X e t) : DI X tg e (iSeq t) := by
 refine ⟨PI.imp (qcH ha.run) fun σ H R q => ?_, fun env k k' h q => ha.mono _ _ _ (fun r e q => qL (fun d q => ?_) q) q⟩
 ·obtain ⟨env, f, A, q⟩ := q
  refine ⟨env, f, A, ha.mono _ _ _ (fun r1 e1 q => ?_) q⟩
  intro x H1 f1 g A1 R1 S1 K1
  obtain ⟨d, dd, q⟩ := Za q
  have rp0 : ∃ gg, Rep X.K H1 2 d x gg := by
   obtain ⟨d', gg, rp, hd⟩ := yg (L := 2) (k := fun d' => d' = d) A1 R1 (by unfold rd; rw [dd])
   subst hd
   exact ⟨gg, rp⟩
  obtain ⟨gg0, rp0⟩ := rp0
  cases d with
  | lst ds =>
    obtain ⟨a, vs, g1, rfl, hq, hn, rr, hs⟩ := jt rp0
    refine ⟨a, vs, rfl, .inl ⟨hq, Zi A1 S1 K1 R1 (immL ds) q (fun lv gg z => ?_) dd⟩⟩
    obtain ⟨a', vs', g2, e1, hq', hn', rr', hs'⟩ := jt z
    cases e1
    exact Vs hn' rr' hs'
  | lF ds =>
    obtain ⟨a, vs, rfl, hq, hn, rr⟩ := V8 rp0
    refine ⟨a, vs, rfl, .inl ⟨hq, Zi A1 S1 K1 R1 (immL ds) q (fun lv gg z => ?_) dd⟩⟩
    obtain ⟨a', vs', e1, hq', hn', rr'⟩ := V8 z
    cases e1
    exact Vs hn' rr' fun b hb => hb
  | tup ds =>
    obtain ⟨a, vs, rfl, hq, hn, rr⟩ := Qm rp0
    refine ⟨a, vs, rfl, .inr ⟨hq, Zi A1 S1 K1 R1 (immL ds) q (fun lv gg z => ?_) dd⟩⟩
    obtain ⟨a', vs', e1, hq', hn', rr'⟩ := Qm z
    cases e1
    exact qcq hn' rr' fun b hb => hb
  | _ => exact q.elim
 ·cases d with
  | lst ds => exact jG (fun kd lk e q => h _ _ _ _ q) q
  | lF ds => exact jG (fun kd lk e q => h _ _ _ _ q) q
  | tup ds => exact jG (fun kd lk e q => h _ _ _ _ q) q
  | _ => exact q.elim
end
end BX
namespace BX
open PySem PySem.Spec PyProof.Rows L2
def qX : List Nat → En → En
 | [], env => env
 | v :: vs, env => (qX vs env).set v none
def jm : List Nat → En → En → En
 | [], _, env => env
 | v :: vs, e1, env => (jm vs e1 env).set v (e1.getD v none)
def lcL (g : XG) (tt : XT) (te : XE) (kd : Option Bool) (vs : List Nat) : List D → En → List D → (List D → En → Prop) → Prop
 | [], env, acc, k => k acc env
 | d :: ds, env, acc, k => g (mkI kd d) env fun e1 => tt e1 fun b e2 => (b = true → te e2 fun r e3 => stor r e3 fun dd => acc.length < sizeLine ∧ lcL g tt te kd vs ds (qX vs e3) (acc ++ [dd]) k) ∧ (b = false → lcL g tt te kd vs ds (qX vs e2) acc k)
def dLc (it : XI) (g : XG) (tt : XT) (te : XE) (vs : List Nat) : XE := fun env Q => it env fun ds kd lk e1 => (vs.all fun v => setOk e1 v) = true ∧ lcL g tt te kd vs ds (qX vs e1) [] fun acc e2 => thaw lk (jm vs e1 e2) fun e3 => Q (.tmp (.lst acc)) e3
def xYes : XT := fun env Q => Q true env
theorem Zm {g : XG} {tt : XT} {te : XE} {kd : Option Bool} {vs : List Nat} (mg : XC g) (mt : Xz tt) (me : yw te) : ∀ (ds : List D) (env : En) (acc : List D) (k k' : List D → En → Prop), (∀ a e, k a e → k' a e) → lcL g tt te kd vs ds env acc k → lcL g tt te kd vs ds env acc k'
 | [], env, acc, k, k', h, q => h _ _ q
 | d :: ds, env, acc, k, k', h, q => mg _ _ _ _ (fun e1 q => mt _ _ _ (fun b e2 q => ⟨fun z => me _ _ _ (fun r e3 q => uQ (fun dd q => ⟨q.1, Zm mg mt me ds _ _ _ _ h q.2⟩) q) (q.1 z), fun z => Zm mg mt me ds _ _ _ _ h (q.2 z)⟩) q) q
section
theorem jd (env : En) : ∀ vs : List Nat, (qX vs env).length = env.length
 | [] => rfl
 | v :: vs => by rw [qX, List.length_set, jd env vs]
theorem Qe {env : En} {j : Nat} : ∀ {vs : List Nat}, j ∈ vs → j < env.length → (qX vs env)[j]? = some none
 | v :: vs, h, hj => by
   rw [qX]
   by_cases e : j = v
   ·subst e
    rw [List.getElem?_set_self (by rw [jd]; exact hj)]
   ·rw [List.getElem?_set_ne (Ne.symm e)]
    exact Qe ((List.mem_cons.mp h).resolve_left e) hj
theorem jc {env : En} {j : Nat} : ∀ {vs : List Nat}, j ∉ vs → (qX vs env)[j]? = env[j]?
 | [], _ => rfl
 | v :: vs, h => by
   rw [qX, List.getElem?_set_ne (fun e => h (by rw [e]; exact List.mem_cons_self ..))]
   exact jc fun z => h (List.mem_cons_of_mem _ z)
theorem wQ {env : En} {j : Nat} {vs : List Nat} {x : D × Md} (h : (qX vs env)[j]? = some (some x)) : j ∉ vs ∧ env[j]? = some (some x) := by
 by_cases hj : j ∈ vs
 ·have hl : j < env.length := by rw [← jd env vs]; exact (List.getElem?_eq_some_iff.mp h).1
  rw [Qe hj hl] at h; cases h
 ·exact ⟨hj, by rw [← jc hj]; exact h⟩
theorem YG {σ : L2.St} {j : Nat} : ∀ {vs : List Nat}, j ∈ vs → j < σ.length → (wipe σ vs)[j]? = some none
 | v :: vs, h, hj => by
   rw [wipe]
   by_cases e : j = v
   ·subst e
    rw [List.getElem?_set_self (by rw [wipe_length]; exact hj)]
   ·rw [List.getElem?_set_ne (Ne.symm e)]
    exact YG ((List.mem_cons.mp h).resolve_left e) hj
theorem ZF {σ σ2 : L2.St} {vs : List Nat} (hl : σ2.length = σ.length) (h : ∀ j, j ∉ vs → σ2[j]? = σ[j]?) : wipe σ2 vs = wipe σ vs := by
 apply List.ext_getElem?
 intro j
 by_cases hj : j ∈ vs
 ·by_cases hlt : j < σ.length
  ·rw [YG hj hlt, YG hj (by omega)]
  ·rw [List.getElem?_eq_none (by rw [wipe_length]; omega), List.getElem?_eq_none (by rw [wipe_length]; omega)]
 ·rw [wipe_out hj, wipe_out hj, h j hj]
theorem jV (e1 env : En) : ∀ vs : List Nat, (jm vs e1 env).length = env.length
 | [] => rfl
 | v :: vs => by rw [jm, List.length_set, jV e1 env vs]
theorem Qh {e1 env : En} {j : Nat} (hl : env.length = e1.length) : ∀ {vs : List Nat}, j ∈ vs → j < e1.length → (jm vs e1 env)[j]? = e1[j]?
 | v :: vs, h, hj => by
   rw [jm]
   by_cases e : j = v
   ·subst e
    rw [List.getElem?_set_self (by rw [jV]; omega), List.getD_eq_getElem?_getD, List.getElem?_eq_getElem hj]
    rfl
   ·rw [List.getElem?_set_ne (Ne.symm e)]
    exact Qh hl ((List.mem_cons.mp h).resolve_left e) hj
theorem uV {e1 env : En} {j : Nat} : ∀ {vs : List Nat}, j ∉ vs → (jm vs e1 env)[j]? = env[j]?
 | [], _ => rfl
 | v :: vs, h => by
   rw [jm, List.getElem?_set_ne (fun e => h (by rw [e]; exact List.mem_cons_self ..))]
   exact uV fun z => h (List.mem_cons_of_mem _ z)
end
section
variable {K : PySem.W.Frag} {σ σ' : L2.St} {H H1 H' : Hp} {env env' e1 e2 : En} {f f1 f2 : FA} {vs : List Nat} {G : List Addr}
theorem XF (A : Abs K σ H env f) : Abs K (wipe σ vs) H (qX vs env) f := by
 refine ⟨fun i d m h => ?_, fun i j d m d' m' hij h1 h2 hl => A.dis i j d m d' m' hij (wQ h1).2 (wQ h2).2 hl, by rw [jd, wipe_length]; exact A.len⟩
 obtain ⟨hi, h'⟩ := wQ h
 obtain ⟨v, h1, r⟩ := A.rep i d m h'
 exact ⟨v, by rw [wipe_out hi]; exact h1, r⟩
theorem ZD {b : Addr} (h : W (qX vs env) f b) : W env f b := let ⟨i, d, m, e, r, hb⟩ := h; ⟨i, d, m, (wQ e).2, r, hb⟩
theorem YF {b : Addr} (h : L0 (qX vs env) f b) : L0 env f b := let ⟨i, d, m, e, r, hb⟩ := h; ⟨i, d, m, (wQ e).2, r, hb⟩
theorem Vt {b : Addr} (h : Ro (qX vs env) f b) : Ro env f b := let ⟨i, d, m, e, r, hb⟩ := h; ⟨i, d, m, (wQ e).2, r, hb⟩
theorem qcE {gs : List Addr} (A : Abs K σ H1 e1 f1) (ok : (vs.all fun v => setOk e1 v) = true) (A' : Abs K (wipe σ vs) H' e2 f2) (S : Stp H1 (qX vs e1) f1 [] H' e2 f2 gs) (Kk : Kp (qX vs e1) f1 e2 f2) (n : ∀ b ∈ gs, ¬ L0 e2 f2 b ∧ ¬ Ro e2 f2 b) :
 ∃ f3, Abs K σ H' (jm vs e1 e2) f3 ∧ Stp H1 e1 f1 [] H' (jm vs e1 e2) f3 gs ∧ Kp e1 f1 (jm vs e1 e2) f3 ∧ ∀ b ∈ gs, ¬ L0 (jm vs e1 e2) f3 b ∧ ¬ Ro (jm vs e1 e2) f3 b := by
 have hlen : e2.length = e1.length := by
  have := A'.len
  rw [wipe_length] at this
  have h2 := A.len
  omega
 have okm : ∀ v ∈ vs, setOk e1 v = true := List.all_eq_true.mp ok
 have inn : ∀ {j : Nat} {x : D × Md}, j ∈ vs → (jm vs e1 e2)[j]? = some (some x) → e1[j]? = some (some x) := fun {j x} hj h => by
  have := (List.getElem?_eq_some_iff.mp h).1
  rw [jV] at this
  rwa [Qh hlen hj (by omega)] at h
 have out : ∀ {j : Nat} {x : D × Md}, j ∉ vs → (jm vs e1 e2)[j]? = some (some x) → e2[j]? = some (some x) := fun {j x} hj h => by rwa [uV hj] at h
 have frI : ∀ {j : Nat}, j ∈ vs → (if j ∈ vs then f1 j else f2 j) = f1 j := fun {j} h => if_pos h
 have frO : ∀ {j : Nat}, j ∉ vs → (if j ∈ vs then f1 j else f2 j) = f2 j := fun {j} h => if_neg h
 have hid : ∀ {j : Nat} {d : D} {m : Md}, j ∈ vs → e1[j]? = some (some (d, m)) → ∀ b ∈ f1 j, (∃ o, H1 b = some o ∧ Mu o = true) ∧ ((m.lv = 0) → ¬ L0 (qX vs e1) f1 b ∧ ¬ Ro (qX vs e1) f1 b) ∧ ¬ W (qX vs e1) f1 b := fun {j d m} hj h b hb => by
  obtain ⟨v, _, r⟩ := A.rep j d m h
  refine ⟨r.dom b hb, fun hl => ⟨?_, ?_⟩, ?_⟩
  ·rintro ⟨k, d2, m2, h2, h3, h4⟩
   obtain ⟨nk, h2'⟩ := wQ h2
   exact A.dis j k _ _ _ _ (fun z => nk (z ▸ hj)) h h2' hl b hb h4
  ·rintro ⟨k, d2, m2, h2, h3, h4⟩
   obtain ⟨nk, h2'⟩ := wQ h2
   exact A.dis j k _ _ _ _ (fun z => nk (z ▸ hj)) h h2' hl b hb h4
  ·rintro ⟨k, d2, m2, h2, h3, h4⟩
   obtain ⟨nk, h2'⟩ := wQ h2
   exact A.dis k j _ _ _ _ (fun z => nk (z ▸ hj)) h2' h (Md.lv_of h3) b h4 hb
 have hid2 : ∀ {j : Nat} {d : D} {m : Md}, j ∈ vs → e1[j]? = some (some (d, m)) → ∀ b ∈ f1 j, ¬ (W e2 f2 b ∨ b ∈ gs) := fun {j d m} hj h b hb z => by
  obtain ⟨⟨o, ho, _⟩, _, h3⟩ := hid hj h b hb
  rcases S.own b z with z | z | z
  ·exact h3 z
  ·simp at z
  ·rw [ho] at z; cases z
 have l0out : ∀ b, L0 e2 f2 b → W e2 f2 b ∨ L0 (qX vs e1) f1 b := fun b h => Kk.l0 h
 refine ⟨fun j => if j ∈ vs then f1 j else f2 j, ⟨fun j d m h => ?_, fun j k d m d' m' hjk h1 h2 hl b hb z => ?_, by rw [jV, hlen]; exact A.len⟩, ⟨fun b o h z => ?_, fun b z => ?_⟩, ⟨?_, fun j d m h hr => ?_⟩, fun b hb => ⟨?_, ?_⟩⟩
 ·by_cases hj : j ∈ vs
  ·have h' := inn hj h
   obtain ⟨v, h3, r⟩ := A.rep j d m h'
   refine ⟨v, h3, ?_⟩
   simp only [frI hj]
   refine r.keep fun b o hb q => S.same b o hb ?_
   rcases q with q | q
   ·exact .inr ⟨(hid hj h' b q).2.2, by simp⟩
   ·exact .inl q
  ·obtain ⟨v, h3, r⟩ := A'.rep j d m (out hj h)
   refine ⟨v, by rw [wipe_out hj] at h3; exact h3, ?_⟩
   simp only [frO hj]
   exact r
 ·by_cases hj : j ∈ vs
  ·have h1' := inn hj h1
   simp only [frI hj] at hb
   by_cases hk : k ∈ vs
   ·simp only [frI hk] at z
    exact A.dis j k _ _ _ _ hjk h1' (inn hk h2) hl b hb z
   ·simp only [frO hk] at z
    have h2' := out hk h2
    obtain ⟨_, hh, _⟩ := hid hj h1' b hb
    by_cases hl2 : m'.lv = 0
    ·rcases l0out b ⟨k, d', m', h2', hl2, z⟩ with y | y
     ·exact hid2 hj h1' b hb (.inl y)
     ·exact (hh hl).1 y
    ·exact (hh hl).2 (Kk.ro' ⟨k, d', m', h2', hl2, z⟩)
  ·have h1' := out hj h1
   simp only [frO hj] at hb
   by_cases hk : k ∈ vs
   ·simp only [frI hk] at z
    have h2' := inn hk h2
    rcases l0out b ⟨j, d, m, h1', hl, hb⟩ with y | y
    ·exact hid2 hk h2' b z (.inl y)
    ·obtain ⟨i2, d2, m2, h5, h6, h7⟩ := y
     obtain ⟨nk, h5'⟩ := wQ h5
     exact A.dis i2 k _ _ _ _ (fun w => nk (w ▸ hk)) h5' h2' h6 b h7 z
   ·simp only [frO hk] at z
    exact A'.dis j k _ _ _ _ hjk h1' (out hk h2) hl b hb z
 ·exact S.same b o h (z.imp_right fun z => ⟨fun w => z.1 (ZD w), by simp⟩)
 ·have inj : (W e2 f2 b ∨ b ∈ gs) → (W e1 f1 b ∨ b ∈ ([] : List Addr) ∨ H1 b = none) := fun z => (S.own b z).imp_left ZD
  rcases z with ⟨j, d, m, h, hr, hb⟩ | z
  ·by_cases hj : j ∈ vs
   ·simp only [frI hj] at hb
    exact .inl ⟨j, d, m, inn hj h, hr, hb⟩
   ·simp only [frO hj] at hb
    exact inj (.inl ⟨j, d, m, out hj h, hr, hb⟩)
  ·exact inj (.inr z)
 ·apply List.ext_getElem?
  intro j
  rw [List.getElem?_map, List.getElem?_map]
  by_cases hj : j ∈ vs
  ·by_cases hlt : j < e1.length
   ·rw [Qh hlen hj hlt]
   ·rw [List.getElem?_eq_none (by rw [jV]; omega), List.getElem?_eq_none (by omega)]
  ·rw [uV hj]
   have := congrArg (fun l => l[j]?) Kk.modes
   simp only [List.getElem?_map] at this
   rw [this, jc hj]
 ·by_cases hj : j ∈ vs
  ·refine ⟨?_, frI hj⟩
   rw [Qh hlen hj (List.getElem?_eq_some_iff.mp h).1]
   exact h
  ·obtain ⟨h1, h2⟩ := Kk.ros j d m (by rw [jc hj]; exact h) hr
   exact ⟨by rw [uV hj]; exact h1, (frO hj).trans h2⟩
 ·rintro ⟨j, d, m, h, hr, z⟩
  by_cases hj : j ∈ vs
  ·simp only [frI hj] at z
   exact hid2 hj (inn hj h) b z (.inr hb)
  ·simp only [frO hj] at z
   exact (n b hb).1 ⟨j, d, m, out hj h, hr, z⟩
 ·rintro ⟨j, d, m, h, hr, z⟩
  by_cases hj : j ∈ vs
  ·simp only [frI hj] at z
   exact hid2 hj (inn hj h) b z (.inr hb)
  ·simp only [frO hj] at z
   exact (n b hb).2 ⟨j, d, m, out hj h, hr, z⟩
end
section
variable {K : PySem.W.Frag} {σ σ' : L2.St} {H H1 H' : Hp} {env env' e1 e2 : En} {f f1 f2 : FA} {vs : List Nat} {G : List Addr} {lk : Lok}
theorem qa8 {k : En → Prop} (L : Lk env lk e1) (A : Abs K σ H' e2 f2) (S : Stp H1 e1 f1 [] H' e2 f2 G) (Kk : Kp e1 f1 e2 f2) (n : ∀ b ∈ G, ¬ L0 e2 f2 b ∧ ¬ Ro e2 f2 b) (q : thaw lk e2 k) :
 ∃ e3, k e3 ∧ Abs K σ H' e3 f2 ∧ Stp H1 env f1 [] H' e3 f2 G ∧ Kp env f1 e3 f2 ∧ ∀ b ∈ G, ¬ L0 e3 f2 b ∧ ¬ Ro e3 f2 b := by
 obtain ⟨e3, q3, A3, S3, _, _⟩ := vB (σ := σ) L A S Kk.kq q
 cases L with
 | none => exact ⟨e2, q, A, S, Kk, n⟩
 | @some i d m e l =>
   have hi : i < env.length := (List.getElem?_eq_some_iff.mp e).1
   have he1 : (env.set i (some (d, Md.lk)))[i]? = some (some (d, Md.lk)) := xf hi
   obtain ⟨he2, hf⟩ := Kk.ros i d .lk he1 rfl
   have hi2 : i < e2.length := (List.getElem?_eq_some_iff.mp he2).1
   have q' := q
   simp only [thaw, he2] at q'
   have A4 : Abs K σ H' (e2.set i (some (d, m))) f2 := vG A he2 rfl l
   have S4 : Stp H1 env f1 [] H' (e2.set i (some (d, m))) f2 G := by
    have LL : Lk env (some (i, m)) (env.set i (some (d, .lk))) := .some e l
    refine ⟨fun b o h z => S.same b o h (z.imp_right fun z => ⟨fun w => z.1 (LL.w w), z.2⟩), fun b z => ?_⟩
    have inj : (W e2 f2 b ∨ b ∈ G) → (W env f1 b ∨ b ∈ ([] : List Addr) ∨ H1 b = none) := fun z => (S.own b z).imp_left fun w => LL.w w
    rcases z with ⟨j, d1, m1, q1, hr, hb⟩ | z
    ·by_cases hj : j = i
     ·subst hj
      rw [xf hi2] at q1; cases q1
      rw [hf] at hb
      exact .inl ⟨j, d, m, e, hr, hb⟩
     ·rw [zY hj] at q1
      exact inj (.inl ⟨j, d1, m1, q1, hr, hb⟩)
    ·exact inj (.inr z)
   have back : ∀ {j : Nat} {d1 : D} {m1 : Md}, (e2.set i (some (d, m)))[j]? = some (some (d1, m1)) → ∃ m2, e2[j]? = some (some (d1, m2)) ∧ m2.lv = m1.lv := fun {j d1 m1} q => by
    by_cases hj : j = i
    ·subst hj
     rw [xf hi2] at q; cases q
     exact ⟨.lk, he2, l.symm⟩
    ·rw [zY hj] at q
     exact ⟨m1, q, rfl⟩
   refine ⟨_, q', A4, S4, ⟨?_, fun j d1 m1 h hr => ?_⟩, fun b hb => ⟨?_, ?_⟩⟩
   ·apply List.ext_getElem?
    intro j
    rw [List.getElem?_map, List.getElem?_map]
    by_cases hj : j = i
    ·subst hj
     rw [xf hi2, e]
     try rfl
    ·rw [zY hj]
     have := congrArg (fun l => l[j]?) Kk.modes
     simp only [List.getElem?_map] at this
     rw [this, zY hj]
   ·by_cases hj : j = i
    ·subst hj
     rw [e] at h; cases h
     exact ⟨xf hi2, hf⟩
    ·obtain ⟨a, b⟩ := Kk.ros j d1 m1 (by rw [zY hj]; exact h) hr
     exact ⟨by rw [zY hj]; exact a, b⟩
   ·rintro ⟨j, d1, m1, h, hr, z⟩
    obtain ⟨m2, h2, h3⟩ := back h
    exact (n b hb).1 ⟨j, d1, m2, h2, h3.trans hr, z⟩
   ·rintro ⟨j, d1, m1, h, hr, z⟩
    obtain ⟨m2, h2, h3⟩ := back h
    exact (n b hb).2 ⟨j, d1, m2, h2, by rw [h3]; exact hr, z⟩
theorem Abs.upd_free {Da : Addr} {o : HO} {vs0 : List V} (A : Abs K σ H env f) (hD : H Da = some (.lst vs0)) (n : ¬ L0 env f Da ∧ ¬ Ro env f Da) : Abs K σ (L2.upd H Da o) env f := by
 refine ⟨fun i d m h => ?_, A.dis, A.len⟩
 obtain ⟨v, h1, r⟩ := A.rep i d m h
 refine ⟨v, h1, r.keep fun b ob hb q => ?_⟩
 have : b ≠ Da := fun z => by
  subst z
  rcases q with q | q
  ·by_cases hl : m.lv = 0
   ·exact n.1 ⟨i, d, m, h, hl, q⟩
   ·exact n.2 ⟨i, d, m, h, hl, q⟩
  ·rw [hD] at hb; cases hb; cases q
 rw [upd_ne this]
 exact hb
theorem qak {ti : XI} {g : XG} {tt : XT} {te : XE} {ts : List Nat} (hi : qdr ti) (mg : XC g) (mt : Xz tt) (me : yw te) (hts : ∀ t ∈ ts, t ∈ vs) {Q : VK} (q : xN K (dLc ti g tt te vs) σ H Q) :
 tLc (qeA K ti) (qcZ K ts g) (liftT K tt) (xN K te) vs σ H Q := by
 obtain ⟨env, f, A, q⟩ := q
 refine ⟨env, f, A, hi _ _ _ (fun ds kd lk e1 q => ?_) q⟩
 intro J H1 f1 P env' A1 S1 K1 L Wa hP hPL Da hDa
 have A1' := L.abs A1
 obtain ⟨ok, q⟩ := q
 refine ⟨fun i m H' => m = ds.length - i ∧ i ≤ ds.length ∧ ∃ e f' acc va ga, Abs K (wipe σ vs) H' e f' ∧ Stp H1 (qX vs e1) f1 [] H' e f' (Da :: ga) ∧ Kp (qX vs e1) f1 e f' ∧ H' Da = some (.lst va) ∧ Reps K H' 0 acc va ga ∧ Da ∉ ga ∧
  (∀ b ∈ Da :: ga, ¬ L0 e f' b ∧ ¬ Ro e f' b) ∧ lcL g tt te kd vs (ds.drop i) e acc (fun acc e2 => thaw lk (jm vs e1 e2) fun e3 => U8 K σ H env f Q (.tmp (.lst acc)) e3),
  ⟨ds.length, by simp, Nat.zero_le _, qX vs e1, f1, [], [], [], (XF A1').ext (Ext.upd hDa).same, (Stp.refl.new (Ext.upd hDa) : Stp H1 (qX vs e1) f1 [] _ _ _ ([Da] ++ [])), .refl, upd_same, .nil, by simp, fun b hb => ?_, q⟩, fun i m H' w => ?_⟩
 ·have hb' : b = Da := by simpa using hb
  subst hb'
  refine ⟨fun z => ?_, fun z => ?_⟩
  ·obtain ⟨o, ho, _⟩ := A1'.ldom (YF z)
   rw [hDa] at ho; cases ho
  ·obtain ⟨o, ho, _⟩ := A1'.rdom (Vt z)
   rw [hDa] at ho; cases ho
 obtain ⟨rfl, hi', e, f', acc, va, ga, A', S', K', hD, rg, nD, fr, q⟩ := w
 have near : Near H1 P H' := fun b o h z => S'.same b o h (by
  rcases z with z | z
  ·exact .inr ⟨fun w => (hP b z).2 (ZD w), by simp⟩
  ·exact .inl z)
 have gdom : ∀ b ∈ Da :: ga, ∃ o, H' b = some o := fun b hb => by
  rcases List.mem_cons.mp hb with rfl | hb
  ·exact ⟨_, hD⟩
  ·obtain ⟨o, ho, _⟩ := rg.dom b hb
   exact ⟨o, ho⟩
 by_cases hlt : i < ds.length
 ·refine .inr ⟨Wa.go i H' near hlt, fun H2 => _, fun H2 n2 => ⟨ds.length - (i + 1), by omega, n2⟩, fun x H2 hy => ?_⟩
  obtain ⟨sm, itm⟩ := Wa.yld i H' x H2 ds[i] near (List.getElem?_eq_getElem hlt) hy
  rw [List.drop_eq_getElem_cons hlt] at q
  have nl : kd.isSome = true → ∀ b ∈ P, ¬ L0 e f' b := fun hk b hb z => by
   rcases K'.l0 z with z | z
   ·rcases S'.own b (.inl z) with z | z | z
    ·exact (hP b hb).2 (ZD z)
    ·simp at z
    ·obtain ⟨o, ho⟩ := (hP b hb).1
     rw [z] at ho; cases ho
   ·exact hPL hk b hb (YF z)
  have A2' := A'.ext sm
  refine ⟨e, f', mkI kd ds[i], [], A2', Zo itm nl, mg _ _ _ _ (fun e2 q2 => ?_) q⟩
  intro σ2 f2 A2 S2 K2 _ _ M2
  have hw : wipe σ2 vs = wipe σ vs := (ZF M2.1 fun j hj => (M2.2.2 j fun z => hj (hts j z)).1).trans (ZF (wipe_length σ vs) fun j hj => wipe_out hj)
  have T2 : Stp H' e f' [] H2 e2 f2 [] := (Stp.refl.ext sm).trans S2
  have fin : ∀ {Hx : Hp} {ex : En} {fx : FA} {gx : List Addr}, Abs K σ2 Hx ex fx → Stp H' e f' [] Hx ex fx gx → Kp e2 f2 ex fx → Hx Da = some (.lst va) ∧ Reps K Hx 0 acc va ga ∧ (∀ b ∈ Da :: ga, b ∉ gx) ∧ (∀ b ∈ Da :: ga, ¬ L0 (qX vs ex) fx b ∧ ¬ Ro (qX vs ex) fx b) ∧
   Kp (qX vs e1) f1 (qX vs ex) fx ∧ Stp H1 (qX vs e1) f1 [] Hx (qX vs ex) fx ((Da :: ga) ++ gx) ∧ Abs K (wipe σ vs) Hx (qX vs ex) fx := fun {Hx ex fx gx} Ax T Kx => by
   have far : ∀ b ∈ Da :: ga, ¬ (W ex fx b ∨ b ∈ gx) := fun b hb z => by
    rcases T.own b z with z | z | z
    ·exact (fr b hb).1 z.l0
    ·simp at z
    ·obtain ⟨o, ho⟩ := gdom b hb
     rw [z] at ho; cases ho
   have at2 : ∀ {j : Nat} {d : D} {m : Md}, j ∉ vs → ex[j]? = some (some (d, m)) → m.rd = true → e[j]? = some (some (d, m)) ∧ fx j = f' j := fun {j d m} hj h hr => by
    obtain ⟨d', h2⟩ := Kx.slot' h
    obtain ⟨h3, h4⟩ := Kx.ros j d' m h2 hr
    rw [h] at h3; cases h3
    obtain ⟨_, h5, h6⟩ := M2.2.2 j fun z => hj (hts j z)
    exact ⟨by rw [← h5]; exact h2, h4.trans h6⟩
   refine ⟨T.same Da _ hD (.inr ⟨fun z => (fr Da (List.mem_cons_self ..)).1 z.l0, by simp⟩), rg.keep fun b o hb z => T.same b o hb ?_, fun b hb z => far b hb (.inr z), fun b hb => ⟨?_, ?_⟩, ⟨?_, fun j d m h hr => ?_⟩, ⟨fun b o h z => ?_, fun b z => ?_⟩, by rw [← hw]; exact XF Ax⟩
   ·rcases z with z | z
    ·exact .inr ⟨fun w => (fr b (List.mem_cons_of_mem _ z)).1 w.l0, by simp⟩
    ·exact .inl z
   ·rintro ⟨j, d, m, h, hr, z⟩
    obtain ⟨hj, h'⟩ := wQ h
    cases hm : m.rd with
    | false => exact far b hb (.inl ⟨j, d, m, h', hm, z⟩)
    | true =>
      obtain ⟨h2, h3⟩ := at2 hj h' hm
      rw [h3] at z
      exact (fr b hb).1 ⟨j, d, m, h2, hr, z⟩
   ·rintro ⟨j, d, m, h, hr, z⟩
    obtain ⟨hj, h'⟩ := wQ h
    obtain ⟨h2, h3⟩ := at2 hj h' (Md.rd_of hr)
    rw [h3] at z
    exact (fr b hb).2 ⟨j, d, m, h2, hr, z⟩
   ·apply List.ext_getElem?
    intro j
    rw [List.getElem?_map, List.getElem?_map]
    have lx : ex.length = e1.length := by
     have a1 := Ax.len
     have a2 := A1'.len
     have a3 := M2.1
     rw [wipe_length] at a3
     omega
    by_cases hj : j ∈ vs
    ·by_cases hjl : j < e1.length
     ·rw [Qe hj hjl, Qe hj (by omega)]
     ·rw [List.getElem?_eq_none (by rw [jd]; omega), List.getElem?_eq_none (by rw [jd]; omega)]
    ·rw [jc hj]
     have m1 := congrArg (fun l => l[j]?) Kx.modes
     have m2 := congrArg (fun l => l[j]?) K'.modes
     simp only [List.getElem?_map] at m1 m2
     rw [m1, (M2.2.2 j fun z => hj (hts j z)).2.1, m2]
   ·obtain ⟨hj, h'⟩ := wQ h
    obtain ⟨h1, h2⟩ := K'.ros j d m h hr
    obtain ⟨_, h5, h6⟩ := M2.2.2 j fun z => hj (hts j z)
    obtain ⟨h3, h4⟩ := Kx.ros j d m (by rw [h5]; exact h1) hr
    exact ⟨by rw [jc hj]; exact h3, h4.trans (h6.trans h2)⟩
   ·exact T.same b o (S'.same b o h z) (by
     rcases z with z | z
     ·exact .inl z
     ·refine .inr ⟨fun w => ?_, by simp⟩
      rcases S'.own b (.inl w) with y | y | y
      ·exact z.1 y
      ·simp at y
      ·rw [h] at y; cases y)
   ·have base : (W e f' b ∨ b ∈ ([] : List Addr) ∨ H' b = none) → (W (qX vs e1) f1 b ∨ b ∈ ([] : List Addr) ∨ H1 b = none) := fun y => by
     rcases y with y | y | y
     ·exact S'.own b (.inl y)
     ·simp at y
     ·by_cases hwb : W (qX vs e1) f1 b
      ·exact .inl hwb
      ·refine .inr (.inr ?_)
       cases ho : H1 b with
       | none => rfl
       | some o =>
         have := S'.same b o ho (.inr ⟨hwb, by simp⟩)
         rw [y] at this; cases this
    rcases z with z | z
    ·exact base (T.own b (.inl (ZD z)))
    ·rcases List.mem_append.mp z with z | z
     ·exact S'.own b (.inr z)
     ·exact base (T.own b (.inr z))
  refine ⟨hw, e2, f2, A2, mt _ _ _ (fun b e3 q3 => ?_) q2⟩
  intro H3 f3 A3 S3 K3
  cases b with
  | true =>
    rw [if_pos rfl]
    refine ⟨e3, f3, A3, me _ _ _ (fun r e4 q4 => ?_) (q3.1 rfl)⟩
    intro y H4 f4 g4 A4 R4 S4 K4
    obtain ⟨dd, rd1, ⟨hz, q4⟩, n4⟩ := W7 A4 R4 q4
    obtain ⟨c1, c2, c3, c4, c5, c6, c7⟩ := fin A4 ((T2.trans S3).trans S4) (K3.trans K4)
    refine ⟨va, c1, by rw [← c2.len]; exact hz, rfl, hlt, qX vs e4, f4, acc ++ [dd], va ++ [y], ga ++ g4, c7.upd_free c1 (c4 Da (List.mem_cons_self ..)), ?_, c5, upd_same, ?_, ?_, fun b hb => ?_, q4⟩
    ·refine ⟨fun b o h z => ?_, fun b z => c6.own b (z.imp_right fun y => by simpa using y)⟩
     have : b ≠ Da := fun w => by subst w; rw [hDa] at h; cases h
     rw [upd_ne this]
     exact c6.same b o h z
    ·have both : Reps K H4 0 (acc ++ [dd]) (va ++ [y]) (ga ++ g4) := c2.append (.one rd1) fun _ b hb z => c3 b (List.mem_cons_of_mem _ hb) z
     refine both.keep fun b o hb z => ?_
     have : b ≠ Da := fun w => by
      subst w
      rcases z with z | z
      ·rcases List.mem_append.mp z with z | z
       ·exact nD z
       ·exact c3 b (List.mem_cons_self ..) z
      ·rw [c1] at hb; cases hb; cases z
     rw [upd_ne this]
     exact hb
    ·exact fun z => (List.mem_append.mp z).elim nD (c3 Da (List.mem_cons_self ..))
    ·rcases List.mem_cons.mp hb with rfl | hb
     ·exact c4 b (List.mem_cons_self ..)
     ·rcases List.mem_append.mp hb with hb | hb
      ·exact c4 b (List.mem_cons_of_mem _ hb)
      ·exact ⟨fun z => (n4 b hb).1 (YF z), fun z => (n4 b hb).2 (Vt z)⟩
  | false =>
    rw [if_neg Bool.false_ne_true]
    obtain ⟨c1, c2, c3, c4, c5, c6, c7⟩ := fin A3 (T2.trans S3) K3
    exact ⟨rfl, hlt, qX vs e3, f3, acc, va, ga, c7, c6.drop fun b hb => List.mem_append_left _ hb, c5, c1, c2, nD, c4, q3.2 rfl⟩
 ·have hie : i = ds.length := by omega
  subst hie
  rw [List.drop_length] at q
  obtain ⟨f3, A3, S3, K3, n3⟩ := qcE A1' ok A' S' K' fr
  obtain ⟨e4, q4, A4, S4, K4, n4⟩ := qa8 L A3 S3 K3 n3 q
  exact .inl ⟨Wa.stop _ _ near (Nat.le_refl _), q4 (.ref Da) H' f3 (Da :: ga) A4 (.tmp (.lst hD rg fun _ => nD) n4) (S1.trans S4) (K1.trans K4)⟩
end
structure DTs (X : Cx) (ifs : List Expr) (t : XT) : Prop where
 run : PTs X ifs (liftT X.K t)
 mono : Xz t
theorem PTs.imp {X : Cx} {ifs : List Expr} {t u : TT} (h : PTs X ifs t) (k : ∀ σ H Q, u σ H Q → t σ H Q) : PTs X ifs u := ⟨fun pins s σ H Q I q => h.run pins s σ H Q I (k _ _ _ q)⟩
section
variable {X : Cx}
theorem xZ : DTs X [] xYes := ⟨PTs.imp pts_nil fun σ H Q ⟨env, f, A, q⟩ => q H f A .refl .refl, fun env Q Q' h q => h _ _ q⟩
theorem Xo {c : Expr} {t : XT} (h : DT X c t) : DTs X [c] t := ⟨pts_one h.run, h.mono⟩
theorem JD {ti : XI} {g : XG} {tt : XT} {te : XE} {vs : List Nat} (hi : qdr ti) (mg : XC g) (mt : Xz tt) (me : yw te) : yw (dLc ti g tt te vs) := fun env Q Q' h q =>
 hi _ _ _ (fun ds kd lk e1 q => ⟨q.1, Zm mg mt me ds _ _ _ _ (fun a e q => jg (fun e q => h _ _ q) q) q.2⟩) q
variable {elt tg iter : Expr} {ifs : List Expr} {scope : Scope} {own : List (Str × Nat)} {pos : Pos} {ti : XI} {g : XG} {tt : XT} {te : XE} {ts : List Nat}
theorem Wl (hx : Ok X) (hN : X.N.Nodup) (hi : DI X tg iter ti) (ok : BlkOk X.N X.env.scope scope own)
 (hg : ∀ (s : Shared) (H : Hp) (C : Addr) (cl : List (Str × Addr)) (fp : List Addr), DG (X.blk s H scope (compEnvC scope cl C X.env) fp) tg ts g) (ht : ∀ (s : Shared) (H : Hp) (C : Addr) (cl : List (Str × Addr)) (fp : List Addr), DTs (X.blk s H scope (compEnvC scope cl C X.env) fp) ifs tt)
 (he : ∀ (s : Shared) (H : Hp) (C : Addr) (cl : List (Str × Addr)) (fp : List Addr), DE (X.blk s H scope (compEnvC scope cl C X.env) fp) elt te) (hts : ∀ t ∈ ts, t ∈ own.map (·.2)) (hs : ∀ x, foldedSetIterable iter X.env x = pure x := by intro _; rfl) :
 DE X (.ListComp elt [⟨tg, iter, ifs, 0⟩] scope pos) (dLc ti g tt te (own.map (·.2))) :=
 have mg := (hg X.s_0 X.H_0 0 [] []).mono
 have mt := (ht X.s_0 X.H_0 0 [] []).mono
 have me := (he X.s_0 X.H_0 0 [] []).mono
 ⟨PE.imp (pe_lc hx.calm hN hi.run ok (fun s H C cl fp => (hg s H C cl fp).run) (fun s H C cl fp => (ht s H C cl fp).run) (fun s H C cl fp => (he s H C cl fp).run) hs) fun σ H Q q => qak hi.mono mg mt me hts q, JD hi.mono mg mt me⟩
theorem Zr {i : Nat} {y : Str} {py spos : Pos} (hx : Ok X) (hN : X.N.Nodup) (hsw : swapsWith (.ListComp elt [⟨tg, iter, ifs, 0⟩] scope pos) (some (.Name y py)) spos.line X.env = pure true) (hi : DI X tg iter ti) (ok : BlkOk X.N X.env.scope scope own)
 (hg : ∀ (s : Shared) (H : Hp) (C : Addr) (cl : List (Str × Addr)) (fp : List Addr), DG (X.blk s H scope (compEnvC scope cl C X.env) fp) tg ts g) (ht : ∀ (s : Shared) (H : Hp) (C : Addr) (cl : List (Str × Addr)) (fp : List Addr), DTs (X.blk s H scope (compEnvC scope cl C X.env) fp) ifs tt)
 (he : ∀ (s : Shared) (H : Hp) (C : Addr) (cl : List (Str × Addr)) (fp : List Addr), DE (X.blk s H scope (compEnvC scope cl C X.env) fp) elt te) (hts : ∀ t ∈ ts, t ∈ own.map (·.2)) (hy : X.N[i]? = some y := by rfl) (hyl : X.env.scope.names.lookup y = some .local := by rfl)
 (hs : ∀ x, foldedSetIterable iter X.env x = pure x := by intro _; rfl) : DS X (.Assign [.Name y py] (.ListComp elt [⟨tg, iter, ifs, 0⟩] scope pos) spos) (sAsg (dLc ti g tt te (own.map (·.2))) (gN i)) := by
 have mg := (hg X.s_0 X.H_0 0 [] []).mono
 have mt := (ht X.s_0 X.H_0 0 [] []).mono
 have me := (he X.s_0 X.H_0 0 [] []).mono
 have dg : DG X (.Name y py) [i] (gN i) := wF hN hy (.inl hyl) (.inr hyl)
 have md := JD (vs := own.map (·.2)) hi.mono mg mt me
 refine ⟨PS.imp (ps_setLc hx.calm hN hy hyl hsw hi.run ok (fun s H C cl fp => (hg s H C cl fp).run) (fun s H C cl fp => (ht s H C cl fp).run) (fun s H C cl fp => (he s H C cl fp).run) hs) fun Dn σ H q => qak hi.mono mg mt me hts ?_, ZQ md dg.mono⟩
 have h := JZ (ts := [i]) md dg.mono q
 obtain ⟨env, f, A, h⟩ := h
 refine ⟨env, f, A, md _ _ _ (fun r e1 q => ?_) h⟩
 intro v H1 f1 g1 A1 R1 S1 K1
 obtain ⟨env2, f2, r2, g2, A2, R2, q2⟩ := q v H1 f1 g1 A1 R1 S1 K1
 obtain ⟨env', f', q, A', S', K', L', O', M'⟩ := qc6 A2 R2 q2
 exact q _ f' A' S' K' L' O' M'
end
section
variable {P : Program} {w : World} {K : PySem.W.Frag} {mg : Str → Option Value} {base : Heap}
def fill (n : Nat) : En := List.replicate n none
def Wo : List Md → List D → En → Option (List D)
 | [], [], _ => some []
 | .io :: ms, _ :: ds, x :: e => match x with
   | some (d, .io) => (Wo ms ds e).map (d :: ·)
   | _ => none
 | _ :: ms, d :: ds, _ :: e => (Wo ms ds e).map (d :: ·)
 | _, _, _ => none
def Back (ms : List Md) (ds ds' : List D) (e : En) : Prop := ds'.length = ms.length ∧ ∀ p : Nat, (ms[p]? = some Md.io → ∃ d : D, ds'[p]? = some d ∧ e[p]? = some (some (d, Md.io))) ∧ (ms[p]? ≠ some Md.io → ds'[p]? = ds[p]?)
theorem Ys {m : Md} {ms : List Md} {d0 d1 : D} {ds ds' : List D} {x : Option (D × Md)} {e : En} (h : Back ms ds ds' e) (h1 : m = .io → x = some (d1, .io)) (h2 : m ≠ .io → d1 = d0) : Back (m :: ms) (d0 :: ds) (d1 :: ds') (x :: e) := by
 refine ⟨by rw [List.length_cons, List.length_cons, h.1], fun p => ?_⟩
 cases p with
 | zero => exact ⟨fun z => ⟨d1, rfl, by rw [List.getElem?_cons_zero, h1 (Option.some.inj z)]⟩, fun z => by rw [List.getElem?_cons_zero, List.getElem?_cons_zero, h2 fun y => z (by rw [List.getElem?_cons_zero, y])]⟩
 | succ p => simpa using h.2 p
theorem Zx : ∀ {ms : List Md} {ds : List D} {e : En} {ds' : List D}, ds.length = ms.length → Wo ms ds e = some ds' → Back ms ds ds' e
 | [], [], e, ds', _, h => by
   rw [Wo] at h; cases h
   exact ⟨rfl, fun p => ⟨fun z => by simp at z, fun _ => rfl⟩⟩
 | [], _ :: _, _, _, l, _ => by simp at l
 | _ :: _, [], _, _, l, _ => by simp at l
 | m :: ms, d :: ds, [], ds', _, h => by cases m <;> (rw [Wo] at h <;> first | (cases h; done) | (intros; contradiction))
 | m :: ms, d :: ds, x :: e, ds', l, h => by
   have l' : ds.length = ms.length := by simpa using l
   cases m with
   | io =>
     simp only [Wo] at h
     split at h
     ·cases h2 : Wo ms ds e with
      | none => rw [h2] at h; cases h
      | some r => rw [h2] at h; cases h; exact Ys (Zx l' h2) (fun _ => rfl) fun z => absurd rfl z
     ·cases h
   | _ =>
     simp only [Wo] at h
     cases h2 : Wo ms ds e with
     | none => rw [h2] at h; cases h
     | some r => rw [h2] at h; cases h; exact Ys (Zx l' h2) (fun z => nomatch z) fun _ => rfl
def outD (S : FS) (ds : List D) (Q : D → List D → Prop) (d : D) (e : En) : Prop := match Wo S.ms ds e with
 | some ds' => Q d ds'
 | none => False
def BodyOk (S : FS) (n : Nat) (t : XS) : Prop := ∀ ds Q, ds.length = S.ms.length → S.wp ds Q → t (penv S.ms ds ++ fill (n - S.ms.length)) (outD S ds Q .non) (outD S ds Q)
theorem Room.ok {X : Cx} {k : Nat} (hr : Room k X.A) (hc : X.calm = true := by rfl) : Ok X := ⟨hc, by have := hr.un; omega⟩
theorem Yp {qual : Str} {st : Stmt} {f : Addr} {N ps : List Str} {S : FS} {t : XS} {cdv : Value} {A : Around} {outer : List PySem.Env} {s : Shared} {H : Hp} {E E' : XK} {vs : List V} {Q : VK} (Sc : FnScope N ps (defScope st)) (hms : S.ms.length = ps.length) (okm : ∀ m ∈ S.ms, m ≠ .own ∧ m ≠ .lk)
 (Dr : DSs (cxOf CX0 P w K mg base N qual (defScope st) f cdv A outer s H E).nox (defBody st) t) (body : BodyOk S N.length t) (h : spOf K S vs H Q E') : qai K t { nx := fun _ H' => Q .non H', rt := Q } (L2.start N vs) H := by
 obtain ⟨hl, ds, fa, hd, Ab, hw⟩ := h
 have hNl : S.ms.length ≤ N.length := by
  have := congrArg List.length Sc.pre
  rw [List.length_take] at this
  omega
 have pl := Ql hd
 have A0 : Abs K (L2.start N vs) H (penv S.ms ds ++ fill (N.length - S.ms.length)) fa := by
  have inn : ∀ {i : Nat} {y : D × Md}, (penv S.ms ds ++ fill (N.length - S.ms.length))[i]? = some (some y) → (penv S.ms ds)[i]? = some (some y) := fun {i y} h => by
   by_cases hi : i < (penv S.ms ds).length
   ·rwa [List.getElem?_append_left hi] at h
   ·rw [List.getElem?_append_right (by omega)] at h
    unfold fill at h
    rw [List.getElem?_replicate] at h
    split at h <;> cases h
  refine ⟨fun i d m h => ?_, fun i j d m d' m' hij h1 h2 => Ab.dis i j d m d' m' hij (inn h1) (inn h2), by unfold L2.start fill; simp [pl, hl]⟩
  obtain ⟨v, h1, r⟩ := Ab.rep i d m (inn h)
  refine ⟨v, ?_, r⟩
  unfold L2.start
  rw [List.getElem?_append_left (List.getElem?_eq_some_iff.mp h1).1]
  exact h1
 have fin0 : ∀ (d : D) (e : En) (ds' : List D), Back S.ms ds ds' e → (∀ v H' f' g, ds'.length = S.ms.length → Abs K (vs.map some) H' (penv S.ms ds') f' → Rep K H' 0 d v g → (∀ b ∈ g, ¬ L0 (penv S.ms ds') f' b ∧ ¬ Ro (penv S.ms ds') f' b) → Stp H (penv S.ms ds) fa [] H' (penv S.ms ds') f' g → Kp (penv S.ms ds) fa (penv S.ms ds') f' → Q v H') →
  Wq K (L2.start N vs) H (penv S.ms ds ++ fill (N.length - S.ms.length)) fa Q d e := fun d e ds' ⟨hl', hp⟩ q => by
  intro v σ' H' f' g A' rv nv S' K'
  have app : ∀ {i : Nat} {y : D × Md}, (penv S.ms ds)[i]? = some (some y) → (penv S.ms ds ++ fill (N.length - S.ms.length))[i]? = some (some y) := fun {i y} h => by
   rw [List.getElem?_append_left (List.getElem?_eq_some_iff.mp h).1]; exact h
  have appW : ∀ b, W (penv S.ms ds ++ fill (N.length - S.ms.length)) fa b → W (penv S.ms ds) fa b := fun b ⟨i, d1, m1, h1, h2, h3⟩ => by
   by_cases hi : i < (penv S.ms ds).length
   ·rw [List.getElem?_append_left hi] at h1
    exact ⟨i, d1, m1, h1, h2, h3⟩
   ·rw [List.getElem?_append_right (by omega)] at h1
    unfold fill at h1
    rw [List.getElem?_replicate] at h1
    split at h1 <;> cases h1
  have W0 : ∀ b, (W e f' b ∨ b ∈ g) → (W (penv S.ms ds) fa b ∨ H b = none) := fun b z => by
   rcases S'.own b z with z | z | z
   ·exact .inl (appW b z)
   ·simp at z
   ·exact .inr z
  have same : ∀ b o, H b = some o → (Mu o = false ∨ ¬ W (penv S.ms ds) fa b) → H' b = some o := fun b o h z => S'.same b o h (z.imp_right fun z => ⟨fun w => z (appW b w), by simp⟩)
  have par : ∀ {p : Nat} {d1 : D} {m1 : Md}, (penv S.ms ds')[p]? = some (some (d1, m1)) → (m1 = .io ∧ S.ms[p]? = some .io ∧ e[p]? = some (some (d1, .io)) ∧ ∃ v, vs[p]? = some v ∧ σ'[p]? = some (some v)) ∨ (m1 ≠ .io ∧ m1.lv ≠ 0 ∧ (penv S.ms ds)[p]? = some (some (d1, m1))) := fun {p d1 m1} h => by
   obtain ⟨h1, h2⟩ := wV.mp h
   by_cases hm : m1 = .io
   ·subst hm
    left
    obtain ⟨d2, e1, e2⟩ := (hp p).1 h2
    rw [h1] at e1; cases e1
    have hpl : p < ds.length := by have := (List.getElem?_eq_some_iff.mp h2).1; omega
    have h0 : (penv S.ms ds)[p]? = some (some (ds[p], Md.io)) := wV.mpr ⟨List.getElem?_eq_getElem hpl, h2⟩
    obtain ⟨hσ, _⟩ := K'.io p _ (app h0)
    obtain ⟨v, hv, _⟩ := Ab.rep p _ _ h0
    refine ⟨rfl, h2, e2, v, ?_, ?_⟩
    ·rw [List.getElem?_map] at hv
     cases hvp : vs[p]? with
     | none => rw [hvp] at hv; cases hv
     | some v' => rw [hvp] at hv; cases hv; rfl
    ·rw [hσ]
     unfold L2.start
     rw [List.getElem?_append_left (List.getElem?_eq_some_iff.mp hv).1]
     exact hv
   ·right
    have hne : S.ms[p]? ≠ some .io := fun z => by rw [h2] at z; cases z; exact hm rfl
    rw [(hp p).2 hne] at h1
    obtain ⟨n1, n2⟩ := okm m1 (List.mem_of_getElem? h2)
    refine ⟨hm, ?_, wV.mpr ⟨h1, h2⟩⟩
    cases m1 <;> first | exact absurd rfl n1 | exact absurd rfl n2 | exact absurd rfl hm | (intro z; cases z)
  have ff : ∀ p, (if S.ms[p]? = some Md.io then f' p else fa p) = (if S.ms[p]? = some Md.io then f' p else fa p) := fun _ => rfl
  have ro0 : ∀ {p : Nat} {d1 : D} {m1 : Md}, (penv S.ms ds)[p]? = some (some (d1, m1)) → ∀ b ∈ fa p, ∃ o, H b = some o ∧ Mu o = true := fun {p d1 m1} h b hb => by
   obtain ⟨v, _, r⟩ := Ab.rep p d1 m1 h
   exact r.dom b hb
  have roW : ∀ {p : Nat} {d1 : D} {m1 : Md}, m1.lv ≠ 0 → (penv S.ms ds)[p]? = some (some (d1, m1)) → ∀ b ∈ fa p, ¬ W (penv S.ms ds) fa b := fun {p d1 m1} hm h b hb ⟨j, d2, m2, h1, h2, h3⟩ => by
   refine Ab.dis j p d2 m2 d1 m1 (fun z => ?_) h1 h (Md.lv_of h2) b h3 hb
   subst z
   rw [h1] at h; cases h
   exact hm (Md.lv_of h2)
  have ioI : ∀ {p : Nat}, S.ms[p]? = some Md.io → (if S.ms[p]? = some Md.io then f' p else fa p) = f' p := fun {p} h => if_pos h
  have ioN : ∀ {p : Nat}, S.ms[p]? ≠ some Md.io → (if S.ms[p]? = some Md.io then f' p else fa p) = fa p := fun {p} h => if_neg h
  have nio : ∀ {p : Nat} {d1 : D} {m1 : Md}, m1 ≠ .io → (penv S.ms ds)[p]? = some (some (d1, m1)) → S.ms[p]? ≠ some Md.io := fun {p d1 m1} hm h z => by
   have := (wV.mp h).2
   rw [z] at this; cases this
   exact hm rfl
  have free : ∀ {p : Nat} {d1 : D} {m1 : Md}, m1.lv ≠ 0 → (penv S.ms ds)[p]? = some (some (d1, m1)) → ∀ b, (W e f' b ∨ b ∈ g) → b ∉ fa p := fun {p d1 m1} hm h b z hb => by
   rcases W0 b z with y | y
   ·exact roW hm h b hb y
   ·obtain ⟨o, ho, _⟩ := ro0 h b hb
    rw [y] at ho; cases ho
  refine q v H' (fun p => if S.ms[p]? = some Md.io then f' p else fa p) g hl' ⟨fun p d1 m1 h => ?_, fun p j d1 m1 d2 m2 hpj h1 h2 hl0 b hb z => ?_, by rw [Ql hl', List.length_map]; omega⟩ rv (fun b hb => ⟨?_, ?_⟩) ⟨fun b o h z => same b o h (z.imp_right And.left), fun b z => ?_⟩ ⟨?_, fun j d1 m1 h hr => ?_⟩
  ·rcases par h with ⟨rfl, hm, he, v', hv, hσ⟩ | ⟨hm, hlv, h0⟩
   ·obtain ⟨v2, h3, r⟩ := A'.rep p d1 .io he
    rw [hσ] at h3; cases h3
    refine ⟨v', by rw [List.getElem?_map, hv]; rfl, ?_⟩
    simp only [ioI hm]
    exact r
   ·obtain ⟨v2, h3, r⟩ := Ab.rep p d1 m1 h0
    refine ⟨v2, h3, ?_⟩
    simp only [ioN (nio hm h0)]
    exact r.keep fun b o hb z => same b o hb (z.symm.imp_right fun z => roW hlv h0 b z)
  ·rcases par h1 with ⟨rfl, hm, he, _⟩ | ⟨hm, hlv, h0⟩
   ·simp only [ioI hm] at hb
    rcases par h2 with ⟨rfl, hm2, he2, _⟩ | ⟨hm2, hlv2, h02⟩
    ·simp only [ioI hm2] at z
     exact A'.dis p j _ _ _ _ hpj he he2 rfl b hb z
    ·simp only [ioN (nio hm2 h02)] at z
     exact free hlv2 h02 b (.inl ⟨p, d1, .io, he, rfl, hb⟩) z
   ·exact absurd hl0 hlv
  ·rintro ⟨p, d1, m1, h, hl0, z⟩
   rcases par h with ⟨rfl, hm, he, _⟩ | ⟨hm, hlv, h0⟩
   ·simp only [ioI hm] at z
    exact nv b hb p d1 .io he (.inl rfl) z
   ·exact absurd hl0 hlv
  ·rintro ⟨p, d1, m1, h, hl0, z⟩
   rcases par h with ⟨rfl, hm, he, _⟩ | ⟨hm, hlv, h0⟩
   ·exact hl0 rfl
   ·simp only [ioN (nio hm h0)] at z
    exact free hlv h0 b (.inr hb) z
  ·rcases z with ⟨p, d1, m1, h, hr, hb⟩ | z
   ·rcases par h with ⟨rfl, hm, he, _⟩ | ⟨hm, hlv, h0⟩
    ·simp only [ioI hm] at hb
     exact (W0 b (.inl ⟨p, d1, .io, he, rfl, hb⟩)).imp_right .inr
    ·exact absurd (Md.lv_of hr) hlv
   ·exact (W0 b (.inr z)).imp_right .inr
  ·apply List.ext_getElem?
   intro p
   rw [List.getElem?_map, List.getElem?_map]
   unfold penv
   rw [List.getElem?_zipWith, List.getElem?_zipWith]
   cases hm : S.ms[p]? with
   | none => cases ds[p]? <;> cases ds'[p]? <;> rfl
   | some m =>
     have hp1 : p < ds.length := by have := (List.getElem?_eq_some_iff.mp hm).1; omega
     have hp2 : p < ds'.length := by have := (List.getElem?_eq_some_iff.mp hm).1; omega
     rw [List.getElem?_eq_getElem hp1, List.getElem?_eq_getElem hp2]
     rfl
  ·obtain ⟨h1, h2⟩ := wV.mp h
   have hne : S.ms[j]? ≠ some .io := fun z => by rw [h2] at z; cases z; cases hr
   exact ⟨wV.mpr ⟨by rw [(hp j).2 hne]; exact h1, h2⟩, ioN hne⟩
 have fin : ∀ (d : D) (e : En), outD S ds (fun d ds' => ∀ v H' f' g, ds'.length = S.ms.length → Abs K (vs.map some) H' (penv S.ms ds') f' → Rep K H' 0 d v g → (∀ b ∈ g, ¬ L0 (penv S.ms ds') f' b ∧ ¬ Ro (penv S.ms ds') f' b) → Stp H (penv S.ms ds) fa [] H' (penv S.ms ds') f' g → Kp (penv S.ms ds) fa (penv S.ms ds') f' → Q v H') d e →
  Wq K (L2.start N vs) H (penv S.ms ds ++ fill (N.length - S.ms.length)) fa Q d e := fun d e qq => by
  unfold outD at qq
  split at qq
  ·rename_i ds' hbk
   exact fin0 d e ds' (Zx hd hbk) qq
  ·exact qq.elim
 refine ⟨_, fa, A0, Dr.mono _ _ _ _ _ (fun e q => ?_) (fun d e q => fin d e q) (body ds _ hd hw)⟩
 intro σ' H' f' A' S' K'
 exact fin .non e q .non σ' H' f' [] A' .non (fun b hb => by simp at hb) S' K'
theorem qat {x qual : Str} {st : Stmt} {f : Addr} {fd : FuncData} {N ps : List Str} {k : Nat} {S : FS} {t : XS} (F : Fun K x qual st f fd) (Sc : FnScope N ps (defScope st)) (hms : S.ms.length = ps.length) (okm : ∀ m ∈ S.ms, m ≠ .own ∧ m ≠ .lk)
 (der : ∀ (cdv : Value) (A : Around) (outer : List PySem.Env) (s : Shared) (H : Hp) (E : XK), Room k (A.deeper (envOfC qual (defScope st) s.heap.objs.size f cdv)) → DSs (cxOf CX0 P w K mg base N qual (defScope st) f cdv A outer s H E).nox (defBody st) t) (body : BodyOk S N.length t) :
 FnOk P w K mg base CX0 (k + 1) f fd ps (spOf K S) := by
 refine F.ok Sc (fun vs H Q E h => by rw [h.1, hms]) (fun cdv A outer s H vs Q E hr h => ?_)
 have Dr := der cdv A outer s H E hr
 exact ⟨_, Dr.run, Yp Sc hms okm Dr body h⟩
end
end BX
namespace BX
open PySem PySem.Spec PyProof.Rows L2
theorem vH : ∀ x y : List Int, HT.lexLt x y = true → HT.lexLt y x = false
 | [], [], h => rfl
 | [], _ :: _, h => rfl
 | _ :: _, [], h => by cases h
 | a :: x, b :: y, h => by
   rw [HT.lexLt_cons] at h ⊢
   by_cases e : a = b
   ·subst e
    rw [if_pos rfl] at h ⊢
    exact vH x y h
   ·rw [if_neg e] at h
    rw [if_neg (Ne.symm e)]
    have := of_decide_eq_true h
    exact decide_eq_false (by omega)
theorem Zj : ∀ x y z : List Int, HT.lexLt y x = false → HT.lexLt z y = false → HT.lexLt z x = false
 | [], _, [], _, _ => rfl
 | [], _, _ :: _, _, _ => rfl
 | _ :: _, [], _, h, _ => by cases h
 | _ :: _, _ :: _, [], _, h => by cases h
 | a :: x, b :: y, c :: z, h1, h2 => by
   rw [HT.lexLt_cons] at h1 h2 ⊢
   by_cases e1 : b = a
   ·subst e1
    rw [if_pos rfl] at h1
    by_cases e2 : c = b
    ·subst e2
     rw [if_pos rfl] at h2 ⊢
     exact Zj x y z h1 h2
    ·rw [if_neg e2] at h2 ⊢
     exact h2
   ·rw [if_neg e1] at h1
    have h1' := of_decide_eq_false h1
    by_cases e2 : c = b
    ·subst e2
     rw [if_neg e1]
     exact h1
    ·rw [if_neg e2] at h2
     have h2' := of_decide_eq_false h2
     rw [if_neg (by omega)]
     exact decide_eq_false (by omega)
theorem Z7 : ∀ x y : List Int, HT.lexLt x y = false → HT.lexLt y x = false → x = y
 | [], [], _, _ => rfl
 | [], _ :: _, h, _ => by cases h
 | _ :: _, [], _, h => by cases h
 | a :: x, b :: y, h1, h2 => by
   rw [HT.lexLt_cons] at h1 h2
   by_cases e : a = b
   ·subst e
    rw [if_pos rfl] at h1 h2
    rw [Z7 x y h1 h2]
   ·rw [if_neg e] at h1
    rw [if_neg (Ne.symm e)] at h2
    have h1' := of_decide_eq_false h1
    have h2' := of_decide_eq_false h2
    omega
def sortI (l : List (List Int)) : List (List Int) := l.mergeSort fun a b => !HT.lexLt b a
theorem sortI_perm (l : List (List Int)) : (sortI l).Perm l := List.mergeSort_perm _ _
theorem Vz (l : List (List Int)) : (sortI l).Pairwise fun a b => HT.lexLt b a = false := by
 have h := List.pairwise_mergeSort (le := fun a b : List Int => !HT.lexLt b a) (fun a b c h1 h2 => by
  simp only [Bool.not_eq_true'] at h1 h2 ⊢
  exact Zj a b c h1 h2) (fun a b => by
  cases e : HT.lexLt b a with
  | false => rfl
  | true => simp [vH b a e]) l
 exact h.imp fun {a b} h => by simpa using h
theorem Us {l m : List (List Int)} (h : m.Pairwise fun a b => HT.lexLt b a = false) (p : m.Perm l) : m = sortI l :=
 List.Perm.eq_of_pairwise (le := fun a b => HT.lexLt b a = false) (fun a b _ _ h1 h2 => (Z7 a b h2 h1)) h (Vz l) (p.trans (sortI_perm l).symm)
section
variable {prog : Program} {w : World} {A : Around} {E : Value → Shared → Prop} {s : Shared}
theorem lexW {b : Bool} {Q : Bool → Shared → Prop} : ∀ {xs ys : List Value} {ns ms : List Int} (i : Nat), IntsAre xs ns → IntsAre ys ms → Q (HT.lexLt ns ms) s → PySem.W.KatLex prog w A b (decide (ns.length < ms.length)) Q (xs.zip ys) i s
 | _, _, _, _, i, .nil, .nil, h => PySem.W.kat_nil h
 | _, _, _, _, i, .nil, .cons q u hy, h => PySem.W.kat_nil (by simpa [HT.lexLt_nil_cons] using h)
 | _, _, _, _, i, .cons p t hx, .nil, h => PySem.W.kat_nil (by simpa [HT.lexLt_cons_nil] using h)
 | _, _, _, _, i, .cons (vs := xs) (ns := ns) p t hx, .cons (vs := ys) (ns := ms) q u hy, h => by
   rw [HT.lexLt_cons] at h
   rw [show (decide ((p :: ns).length < (q :: ms).length)) = decide (ns.length < ms.length) by simp]
   show PySem.W.KatLex prog w A b _ Q ((Value.int p t, Value.int q u) :: xs.zip ys) i s
   refine PySem.W.kat_cons (wpAny_eqBool_int ?_)
   by_cases e : p = q
   ·subst e
    rw [beq_self_eq_true]
    rw [if_pos rfl] at h
    exact PySem.W.kat_yes (lexW (i + 1) hx hy h)
   ·rw [show (p == q) = false from beq_eq_false_iff_ne.mpr e]
    rw [if_neg e] at h
    exact PySem.W.kat_no (TS.oneLt_ints _ h)
theorem qau {h : Heap} : ∀ vs : List Value, (∀ v ∈ vs, ∃ ns, TS.TupInts h v ns ∧ ns ≠ []) → ∃ fs, PySem.W.KatTups h vs fs ∧ fs.length = vs.length ∧ ∀ f, f ∈ fs → ∃ n t, f = Value.int n t
 | [], _ => ⟨[], PySem.W.KatTups.nil, rfl, fun f hf => by simp at hf⟩
 | v :: vs, x => by
   obtain ⟨fs, k, hl, hi⟩ := qau vs fun u hu => x u (List.mem_cons_of_mem _ hu)
   obtain ⟨ns, ⟨a, xs, rfl, ⟨o, ho, hc, n, hdt⟩, i⟩, hn⟩ := x v (List.mem_cons_self ..)
   obtain ⟨xs⟩ := xs
   replace i : IntsAre xs ns := i
   cases i with
   | nil => exact absurd rfl hn
   | cons m t i =>
     refine ⟨.int m t :: fs, PySem.W.KatTups.cons ho hc hdt rfl k, by simp [hl], fun f hf => ?_⟩
     rcases List.mem_cons.mp hf with rfl | hf
     ·exact ⟨m, t, rfl⟩
     ·exact hi f hf
theorem swoW (k : Value → List Int) : SrtO.Swo fun v u => HT.lexLt (k v) (k u) := ⟨fun x y h => vH _ _ h, fun x y z h1 h2 => Zj _ _ _ h1 h2⟩
theorem Vy {a : Addr} {vs : List Value} (h0 : 0 < vs.length) (hp : ∀ v ∈ vs, ∃ ns, TS.TupInts s.heap v ns ∧ ns ≠ []) (ha : ∀ o, s.heap.get? a = some o → o.cls ≠ .type "tuple") :
 SrtO.SortableO prog w A s a vs fun v u => HT.lexLt (TS.intsOf s.heap v) (TS.intsOf s.heap u) := by
 intro h' keep
 have kp : ∀ b o, s.heap.get? b = some o → o.cls = .type "tuple" → h'.get? b = some o := fun b o e c => keep b o (fun z => by subst z; exact ha o e c) e
 have hp' : ∀ v ∈ vs, ∃ ns, TS.TupInts h' v ns ∧ ns ≠ [] := fun v hm => let ⟨ns, t, r⟩ := hp v hm; ⟨ns, t.keeps kp, r⟩
 obtain ⟨fs, h1, h2, h3⟩ := qau vs hp'
 refine ⟨tuples' true, fun Q E hq => ?_, fun p q hm hm' => ?_⟩
 ·refine PySem.W.kat_kind (T := .type "int") h1 (by omega) (fun f hm => ?_) (by rfl) ?_
  ·obtain ⟨x, t, rfl⟩ := h3 f hm
   exact PySem.W.Looks.now
  ·have e : (Value.type "int" != Value.type "tuple") = true := by decide +kernel
   rw [e]
   exact hq
 ·obtain ⟨ns, t1, _⟩ := hp _ hm
  obtain ⟨ms, t2, _⟩ := hp _ hm'
  show wpAny (model prog w) A (keyLt' (tuples' true) p.1 q.1) (fun r s' => s' = _ ∧ r = HT.lexLt (TS.intsOf s.heap p.1) (TS.intsOf s.heap q.1)) (fun _ _ => False) _
  rw [t1.ints, t2.ints]
  obtain ⟨a1, xs, e1, ⟨o1, g1, c1, n1, d1⟩, i1⟩ := t1.keeps kp
  obtain ⟨a2, ys, e2, ⟨o2, g2, c2, n2, d2⟩, i2⟩ := t2.keeps kp
  rw [e1, e2]
  refine PySem.W.kat_lt g1 d1 g2 d2 ?_
  have l1 : xs.size = ns.length := by rw [← i1.length, Array.length_toList]
  have l2 : ys.size = ms.length := by rw [← i2.length, Array.length_toList]
  rw [l1, l2]
  exact lexW 0 i1 i2 ⟨rfl, rfl⟩
theorem Qx {l : Addr} {vs : List Value} {Q : Value → Shared → Prop} (hz : vs.length ≤ sizeLine)
 (hc : ∀ (A : Around) (E : Value → Shared → Prop) (Q : List Value → Shared → Prop), A.handled = none → (∀ (h' : Heap) (tk : Nat), (∀ b o, s.heap.get? b = some o → h'.get? b = some o) → Q vs { s with heap := h', toks := tk }) → wpAny (model prog w) A (collect (.ref l)) Q E s)
 (hh : A.handled = none) (hp : ∀ v ∈ vs, ∃ ns, TS.TupInts s.heap v ns ∧ ns ≠ [])
 (h : ∀ (out : List Value) (h1 h2 : Heap) (tk n : Nat), out.Perm vs → (out.map (TS.intsOf s.heap)) = sortI (vs.map (TS.intsOf s.heap)) → (∀ b o, s.heap.get? b = some o → h1.get? b = some o) → (∀ b o, h1.get? b = some o → h2.get? b = some o) → h2.get? h1.objs.size = some (seqObj "list" out.toArray n) → Q (.ref h1.objs.size) { s with heap := h2, toks := tk }) :
 wpAny (model prog w) A (call (.builtin "sorted") [.ref l]) Q E s := by
 refine Calls.call_function_entry kind_sorted plain_sorted entry_sorted (args_sorted1 _) ?_
 unfold Builtin.«sorted»
 refine wpAny_bind (m := checkCount "sorted" 1 1 _) (wpAny_pure ?_)
 refine wpAny_bind (hc A.in1 _ _ hh fun h' tk kp => ?_)
 refine wpAny_bind (wpAny_newList ?_ hz)
 have hoL : (h'.push (seqObj "list" vs.toArray 0)).get? h'.objs.size = some (seqObj "list" vs.toArray 0) := Heap.get?_push_size _ rfl
 show wpAny _ _ _ _ _ { s with heap := h'.push (seqObj "list" vs.toArray 0), toks := tk }
 have kp2 : ∀ b o, s.heap.get? b = some o → (h'.push (seqObj "list" vs.toArray 0)).get? b = some o := fun b o e => Heap.get?_push_of_some _ (kp b o e)
 have hp2 : ∀ v ∈ vs, ∃ ns, TS.TupInts (h'.push (seqObj "list" vs.toArray 0)) v ns ∧ ns ≠ [] := fun v hm => let ⟨ns, t, r⟩ := hp v hm; ⟨ns, t.keeps fun b o e _ => kp2 b o e, r⟩
 have same : ∀ v ∈ vs, TS.intsOf (h'.push (seqObj "list" vs.toArray 0)) v = TS.intsOf s.heap v := fun v hm => by
  obtain ⟨ns, t, _⟩ := hp v hm
  rw [t.ints, (t.keeps fun b o e _ => kp2 b o e).ints]
 refine wpAny_bind (wpAny_holding (wpAny_call_entry slot_list_sort ⟨_, hoL, rfl⟩ entry_list_sort (SrtO.list_sort_ord (s := { s with heap := h'.push (seqObj "list" vs.toArray 0), toks := tk }) (swoW (TS.intsOf (h'.push (seqObj "list" vs.toArray 0)))) hoL hz (fun h2 => ?_) fun out hs hb => ⟨_, rfl, ?_⟩) (args_list_sort _)))
 ·refine Vy (s := { s with heap := h'.push (seqObj "list" vs.toArray 0), toks := tk }) (by omega) hp2 fun o e => ?_
  have e' : some o = some (seqObj "list" vs.toArray 0) := e.symm.trans hoL
  cases e'
  intro c
  exact absurd (Value.type.inj c) (by decide)
 ·obtain ⟨n, hn⟩ := PyProof.Rows.sortedHeap_at (vs := vs) (out := out.toArray) hoL
  have pm : out.Perm vs := hb.perm
  have hm : out.map (TS.intsOf (h'.push (seqObj "list" vs.toArray 0))) = out.map (TS.intsOf s.heap) := List.map_congr_left fun v hv => same v (pm.mem_iff.mp hv)
  refine wpAny_pure ⟨_, rfl, h out h' _ tk n pm ?_ kp (fun b o e => ?_) hn⟩
  ·refine Us ?_ (pm.map _)
   rw [← hm, List.pairwise_map]
   exact hs
  ·have hbb : b < h'.objs.size := Heap.lt_size e
   rw [PyProof.Rows.sortedHeap_old (Nat.ne_of_lt hbb) (by rw [size_push']; exact Nat.lt_succ_of_lt hbb)]
   exact Heap.get?_push_of_some _ e
end
def Wi : List D → Option (List (List Int))
 | [] => some []
 | .tup xs :: ds => match intL xs, Wi ds with
   | some (n :: ns), some r => some ((n :: ns) :: r)
   | _, _ => none
 | _ :: _ => none
def keyI : List Key → Option (List Int)
 | [] => some []
 | .inl i :: ks => (keyI ks).map (i :: ·)
 | .inr _ :: _ => none
def qam : List (List Key × D) → Option (List (List Int))
 | [] => some []
 | p :: r => match keyI p.1, qam r with
   | some (n :: ns), some l => some ((n :: ns) :: l)
   | _, _ => none
def tupI (ns : List Int) : D := .tup (ns.map .int)
def xP (d : D) (k : D → Prop) : Prop := match d with
 | .lst xs => match Wi xs with
   | some l => k (.lst ((sortI l).map tupI))
   | none => False
 | .tup xs => match Wi xs with
   | some l => k (.lst ((sortI l).map tupI))
   | none => False
 | .dT kvs => match qam kvs with
   | some l => k (.lst ((sortI l).map tupI))
   | none => False
 | _ => False
section
variable {X : Cx} {pins : List (Addr × Obj)} {σ : L2.St} {H : Hp} {s : Shared}
theorem ZV {K : PySem.W.Frag} {H : Hp} : ∀ ns : List Int, Reps K H 0 (ns.map D.int) (ns.map V.int) []
 | [] => .nil
 | n :: ns => .cons (f := []) (g := []) (.int n) (ZV ns) (fun _ _ hb => by simp at hb)
def At (H : Hp) (x : V) (ns : List Int) : Prop := ∃ b, x = .ref b ∧ H b = some (.tup (ns.map V.int)) ∧ ns ≠ []
theorem Zq {lv : Nat} : ∀ {ds : List D} {xs : List V} {f : List Addr} {l : List (List Int)}, lv ≤ 1 → Reps X.K H lv ds xs f → Wi ds = some l → Paired (At H) xs l
 | _, _, _, _, _, .nil, e => by cases e; exact .nil
 | _, _, _, l, hl, .cons (d := d) (ds := ds) r t _, e => by
   cases d with
   | tup ys =>
     rw [Wi] at e
     split at e
     ·rename_i n ns r' e1 e2
      cases e
      obtain ⟨a, vs, rfl, ha, rr⟩ := r.tupleAt hl
      rw [rr.intL e1] at ha
      exact .cons ⟨a, rfl, ha, by simp⟩ (Zq hl t e2)
     ·cases e
   | _ => simp [Wi] at e
theorem Jo : ∀ {ks : List Key} {ns : List Int}, keyI ks = some ns → ks.map kV = ns.map V.int
 | [], _, e => by cases e; rfl
 | .inl i :: ks, ns, e => by
   rw [keyI] at e
   cases h : keyI ks with
   | none => rw [h] at e; cases e
   | some r => rw [h] at e; cases e; rw [List.map_cons, List.map_cons, Jo h]; rfl
 | .inr _ :: _, _, e => by cases e
theorem qaS : ∀ {xs : List V} {vs : List Value} {l : List (List Int)}, Inv X pins σ H s → Vals xs vs → Paired (At H) xs l → vs.map (TS.intsOf s.heap) = l ∧ xs = vs.map bkV ∧ ∀ v ∈ vs, (∃ a, v = Value.ref a) ∧ At H (bkV v) (TS.intsOf s.heap v) ∧ ∃ ns, TS.TupInts s.heap v ns ∧ ns ≠ []
 | _, _, _, I, .nil, .nil => ⟨rfl, rfl, fun v hv => by simp at hv⟩
 | _, _, _, I, .cons r t, .cons h p => by
   obtain ⟨h1, h2, h3⟩ := qaS I t p
   obtain ⟨b, rfl, hb, hn⟩ := h
   cases r
   have ti := tupI_raw I (.of hb : SqT X.K H b _)
   refine ⟨by rw [List.map_cons, h1, ti.ints], by rw [List.map_cons, ← h2]; rfl, fun v hv => ?_⟩
   rcases List.mem_cons.mp hv with rfl | hv
   ·exact ⟨⟨_, rfl⟩, ⟨b, rfl, by rw [ti.ints]; exact hb, by rw [ti.ints]; exact hn⟩, _, ti, hn⟩
   ·exact h3 v hv
theorem Jc {K : PySem.W.Frag} {h : Heap} : ∀ {out : List Value}, (∀ v ∈ out, At H (bkV v) (TS.intsOf h v)) → Reps K H 0 (out.map fun v => tupI (TS.intsOf h v)) (out.map bkV) []
 | [], _ => .nil
 | v :: out, hh => by
   obtain ⟨b, e, hb, _⟩ := hh v (List.mem_cons_self ..)
   refine .cons (f := []) (g := []) ?_ (Jc fun u hu => hh u (List.mem_cons_of_mem _ hu)) (fun _ _ hb => by simp at hb)
   rw [e]
   exact .tup hb (ZV _)
theorem sorted_run {a : Addr} {xs : List V} {vs : List Value} {l : List (List Int)} {Q : VK} (hx : Ok X) (I : Inv X pins σ H s) (rv : Vals xs vs) (p : Paired (At H) xs l) (hz : vs.length ≤ sizeLine)
 (hc : ∀ (A : Around) (E : Value → Shared → Prop) (Q : List Value → Shared → Prop), A.handled = none → (∀ (h' : Heap) (tk : Nat), (∀ b o, s.heap.get? b = some o → h'.get? b = some o) → Q vs { s with heap := h', toks := tk }) → wpAny (model X.prog X.w) A (collect (.ref a)) Q E s)
 (q : ∀ z H' g, Rep X.K H' 0 (.lst ((sortI l).map tupI)) z g → Ext H H' g → Q z H') : wpAny (model X.prog X.w) X.A (call (.builtin "sorted") [.ref a]) (EP X pins σ Q) X.xe s := by
 obtain ⟨e1, e2, e3⟩ := qaS I rv p
 refine Qx hz hc (I.ok.hd hx.calm) (fun v hv => (e3 v hv).2.2) fun out h1 h2 tk n pm hs k1 k2 hn => ?_
 have I1 : Inv X pins σ H { s with heap := h1, toks := tk } := I.kept k1
 have hf : H h1.objs.size = none := I1.hok.fresh (Nat.le_refl _)
 refine ⟨.ref h1.objs.size, upd H h1.objs.size (.lst (out.map bkV)), I1.laid (t' := tk) k2 (Nat.le_refl _) ?_, rfl, q _ _ _ (Qt hf ?_) (Ext.upd hf)⟩
 ·exact ⟨by rw [List.length_map, pm.length_eq]; exact hz, out, n, bkV_vals fun u hu => (e3 u (pm.mem_iff.mp hu)).1, hn⟩
 ·rw [← e1, ← hs, List.map_map]
  exact Jc fun v hv => (e3 v (pm.mem_iff.mp hv)).2.1
theorem qbr {kvs : List (List Key × D)} : ∀ {hs : List (List Key × V)} {bs : List Addr} {l : List (List Int)}, IsKeys H hs bs → hs.map (·.1) = kvs.map (·.1) → qam kvs = some l → Paired (At H) (bs.map V.ref) l := by
 induction kvs with
 | nil =>
   intro hs bs l ik e1 e2
   cases hs with
   | nil => cases ik; cases e2; exact .nil
   | cons _ _ => simp at e1
 | cons kv kvs ih =>
   intro hs bs l ik e1 e2
   cases hs with
   | nil => simp at e1
   | cons h hs =>
     cases ik with
     | cons hb ik =>
       rw [List.map_cons, List.map_cons, List.cons.injEq] at e1
       rw [qam] at e2
       split at e2
       ·rename_i n ns r q1 q2
        cases e2
        rw [e1.1, Jo q1] at hb
        exact .cons ⟨_, rfl, hb, by simp⟩ (ih ik e1.2 q2)
       ·cases e2
theorem Xf : ∀ (d : D) (k k' : D → Prop), (∀ x, k x → k' x) → xP d k → xP d k' := fun d k k' h q => by
 unfold xP at q ⊢
 split at q
 ·split at q
  ·simp only [*] <;> exact h _ q
  ·exact q.elim
 ·split at q
  ·simp only [*] <;> exact h _ q
  ·exact q.elim
 ·split at q
  ·simp only [*] <;> exact h _ q
  ·exact q.elim
 ·exact q.elim
theorem qaN (hx : Ok X) : CallD X (.builtin "sorted") 1 (op1 xP) := Yn (by decide) (fun pins s σ H x us Q d g I rs r q => by
 obtain ⟨u, rfl, rx⟩ := vals1 rs
 unfold xP at q
 split at q
 ·split at q
  ·rename_i xs l e
   obtain ⟨a, vs, g', rfl, ha, ra, _⟩ := r.listAt1 (Nat.le_refl _)
   cases rx
   obtain ⟨its, rv, pl, hz⟩ := I.list (.inl (.inl ha) : SqL X.K H a vs)
   obtain ⟨o, ho, hc, n, hd⟩ := pl.isList
   refine sorted_run hx I rv (Zq (X := X) (Nat.le_refl _) ra e) (by rw [← rv.length]; exact hz) (fun A E Q hh k => ?_) q
   exact wpAny_collect_seq a (.inl rfl) ho hc hd (fun h' kk => by simpa using k h' s.toks kk) (by rw [List.size_toArray, ← rv.length]; exact hz)
  ·exact q.elim
 ·split at q
  ·rename_i xs l e
   obtain ⟨a, vs, rfl, ha, ra⟩ := r.tupleAt (Nat.le_refl _)
   cases rx
   obtain ⟨its, rv, pl, hz⟩ := I.tuple (.of ha : SqT X.K H a vs)
   obtain ⟨o, ho, hc, n, hd⟩ := pl
   refine sorted_run hx I rv (Zq (X := X) (Nat.le_refl _) ra e) (by rw [← rv.length]; exact hz) (fun A E Q hh k => ?_) q
   exact wpAny_collect_seq a (.inr rfl) ho hc hd (fun h' kk => by simpa using k h' s.toks kk) (by rw [List.size_toArray, ← rv.length]; exact hz)
  ·exact q.elim
 ·split at q
  ·rename_i kvs l e
   cases r with
   | dTF l _ _ _ _ => exact absurd l (by omega)
   | @dT a hs kvs f ha he nd r nn =>
     cases rx
     obtain ⟨z, hss, ks, pr, o, es, ep, ho, hxx, hdt, hee, hn⟩ := (show ObjOk X.prog X.w H s.heap a (.dT hs) from I.hok a _ ha)
     have l1 : es.size = ks.length := size_of_entries hee
     have l2 : hs.length = ks.length := Paired.length pr
     refine sorted_run (xs := (ks.map fun x => x.2.1).map V.ref) (vs := (ks.map fun x => x.2.1).map Value.ref) hx I (vals_refs _) (qbr (isKeys_of pr) he e) (by rw [List.length_map, List.length_map]; omega) (fun A E Q hh k => ?_) q
     refine PySem.W.kdu_collect (A := A) (kdl_raw hss hxx hdt) hh ho (by omega) fun h' tk acc kp it => ?_
     have ea : acc.toList = (ks.map fun x => x.2.1).map Value.ref := by
      rw [List.map_map]
      apply List.ext_getElem?
      intro j
      have hl : acc.toList.length = ks.length := by rw [Array.length_toList, it.1]; exact l1
      cases hj : acc.toList[j]? with
      | none =>
        have h1 := List.getElem?_eq_none_iff.mp hj
        rw [List.getElem?_eq_none (by rw [List.length_map]; omega)]
      | some v =>
        obtain ⟨en, hen, hv⟩ := it.2 j v (by rw [← Array.getElem?_toList]; exact hj)
        have qe := entry_at hee j
        rw [hen] at qe
        rw [List.getElem?_map]
        cases hb : ks[j]? with
        | none => rw [hb] at qe; cases qe
        | some b =>
          rw [hb] at qe
          have e2 : en = entryOfKey (tupleKind (mixKind X.prog X.w)) b := Option.some.inj qe
          rw [hv, e2]
          rfl
     rw [ea]
     exact k h' tk kp
  ·exact q.elim
 ·exact q.elim) Xf
end
end BX
namespace BX
open PySem PySem.Spec PyProof.Rows L2
def D.ty : D → String
 | .non => "NoneType"
 | .bl _ => "bool"
 | .int _ => "int"
 | .str _ => "str"
 | .tup _ => "tuple"
 | .lst _ => "list"
 | .dT _ => "dict"
 | .dK _ => "dict"
 | .dF _ => "dict"
 | .lF _ => "list"
 | .ob _ _ => "list"
 | .ex _ _ => "list"
 | .dN _ => "list"
 | .dG _ => "list"
 | .op _ => "list"
def isiB (T : String) (d : D) : Bool := d.ty == T || (d.ty == "bool" && T == "int")
def TyOk (T : String) : Prop := ∀ t ∈ ["NoneType", "bool", "int", "str", "tuple", "list", "dict"], kitB t T = some (t == T || (t == "bool" && T == "int"))
theorem D.ty_mem (d : D) : d.ty ∈ ["NoneType", "bool", "int", "str", "tuple", "list", "dict"] := by cases d <;> simp [D.ty]
theorem qdT : TyOk "int" := by unfold TyOk; decide +kernel
theorem YM : TyOk "bool" := by unfold TyOk; decide +kernel
theorem qbJ : TyOk "str" := by unfold TyOk; decide +kernel
theorem W3 : TyOk "tuple" := by unfold TyOk; decide +kernel
theorem YL : TyOk "list" := by unfold TyOk; decide +kernel
def TyY (K : PySem.W.Frag) (H : Hp) (x : V) (t : Value) : Prop := TyX K H x t ∨ ∃ (a : Addr) (o : Obj) (kvs : List (List Key × V)), x = .ref a ∧ t = .type "dict" ∧ H a = some (.frz o (.dT kvs))
section
variable {X : Cx}
theorem TyY.kit {pins : List (Addr × Obj)} {σ : L2.St} {H : Hp} {s : Shared} {x : V} {u t : Value} (ty : TyY X.K H x t) (I : Inv X pins σ H s) (rx : RelV x u) : ∃ P : Heap → Prop, PySem.W.KitX X.K u t P ∧ P s.heap ∧ u ≠ .builtin "__main__.__loader__#opaque" := by
 rcases ty with ty | ⟨a, o, kvs, rfl, rfl, ha⟩
 ·exact kit_of I rx ty
 ·obtain rfl : u = .ref a := rx
  obtain ⟨_, _, _, _, o, _, _, g, z, _⟩ := dt_rd I.hok (.inr ⟨o, ha⟩)
  exact ⟨_, PySem.W.kitx_dict, ⟨o, g, z.1⟩, fun z => nomatch z⟩
def rIsY (K : PySem.W.Frag) : List V → Hp → VK → Prop := fun xs H Q => ∃ (x c : V) (t u : Value) (b : Bool), ClsV c u ∧ PySem.W.kitOne K t u = some b ∧ xs = [x, c] ∧ TyY K H x t ∧ Q (.bl b) H
def qfX (K : PySem.W.Frag) : List V → Hp → VK → Prop := fun xs H Q => ∃ (x : V) (tp : Addr) (cs : List V) (t : Value) (us : List Value) (b : Bool), Paired ClsV cs us ∧ PySem.W.kitAny K t us = some b ∧ H tp = some (.tup cs) ∧ xs = [x, .ref tp] ∧ TyY K H x t ∧ Q (.bl b) H
theorem qbE : CallR X (.builtin "isinstance") (rIsY X.K) := fun pins s σ H xs us Q I r ⟨x, c, t, u, b, k, e, l, ty, q⟩ => by
 subst l
 obtain ⟨u1, u2, rfl, r1, r2⟩ := vals2 r
 obtain ⟨P, Z, p, ne⟩ := ty.kit I r1
 rw [k.eq r2]
 exact PySem.W.kia_one Z I.kIn p e ne fun tk => ⟨.bl b, H, I.tok tk, rfl, q⟩
theorem qaO : CallR X (.builtin "isinstance") (qfX X.K) := fun pins s σ H xs us Q I r ⟨x, tp, cs, t, ws, b, k, e, hT, l, ty, q⟩ => by
 subst l
 obtain ⟨u1, u2, rfl, r1, r2⟩ := vals2 r
 obtain rfl : u2 = Value.ref tp := r2
 obtain ⟨P, Z, p, ne⟩ := ty.kit I r1
 obtain ⟨_, its, rv, ⟨oc, od, dt, sl⟩, h1, h2, n, h3⟩ := (show ObjOk X.prog X.w H s.heap tp (.tup cs) from I.hok tp _ hT)
 obtain rfl := ClsV.all k rv
 simp only at h2 h3
 subst h2 h3
 exact PySem.W.kia_tup Z I.kIn p h1 e ne fun tk => ⟨.bl b, H, I.tok tk, rfl, q⟩
end
section
variable {K : PySem.W.Frag} {H : Hp} {lv : Nat}
def nob : D → Prop
 | .ob _ _ => False
 | .ex _ _ => False
 | .dN _ => False
 | .dG _ => False
 | .op _ => False
 | _ => True
theorem Rep.tyX {d : D} {x : V} {g : List Addr} (r : Rep K H lv d x g) (hn : nob d) : TyY K H x (.type d.ty) := by
 cases r with
 | non => exact .inl <| .base .non
 | bl b => exact .inl <| .base (.bl b)
 | int b => exact .inl <| .base (.int b)
 | str b => exact .inl <| .base (.str b)
 | tup h r => exact .inl <| .base (.tup h)
 | tupK l h r => obtain ⟨o, its, n, e, c, _⟩ := h; exact .inl <| .kTuple e c
 | lst h r n => exact .inl <| .base (.lst h)
 | lstF l h r =>
   rcases h with ⟨o, h⟩ | ⟨o, its, n, e, c, _⟩
   ·exact .inl <| .base (.frz h)
   ·exact .inl <| .kList e c
 | dT h e nd r n => exact .inl <| .base (.dT h)
 | dTF l h e nd r => exact .inr ⟨_, _, _, rfl, rfl, h⟩
 | dF h e nd r => exact .inr ⟨_, _, _, rfl, rfl, h⟩
 | lF h r => exact .inl <| .base (.frz h)
 | ob h c e r n => exact hn.elim
 | ex h c e z => exact hn.elim
 | dN h e nd kk r n => exact hn.elim
 | dG h e nd r => exact hn.elim
 | opN v => exact hn.elim
 | opF h => exact hn.elim
 | dK h e nd r n => exact .inl <| .base (.dK h)
end
def xIsi (T : String) (t : XE) : XE := fun env Q => t env fun r e => rd 2 r e fun d => nob d ∧ Q (.tmp (.bl (isiB T d))) e
def qcn (T U : String) (t : XE) : XE := fun env Q => t env fun r e => rd 2 r e fun d => nob d ∧ Q (.tmp (.bl (isiB T d || isiB U d))) e
section
variable {X : Cx} {e : Expr} {t : XE} {p p2 p3 p4 pos : Pos} {T U : Str}
theorem uz {T0 : String} (hk : TyOk T0) (he : DE X e t) (hm : X.mg "isinstance" = none) (hmT : X.mg T = none) (hT : bootBuiltins T = some (.type T0)) (hg : Gl X "isinstance" := by rfl) (hgT : Gl X T := by rfl)
 (hn : T ≠ "__name__" := by decide) (hd : (T == ("__debug__" : Str)) = false := by decide)
 (h1 : starEach [e, .Name T p2] X.env = (false, eval e X.env) :: starEach [.Name T p2] X.env := by rfl) (h2 : starEach [Expr.Name T p2] X.env = (false, eval (.Name T p2) X.env) :: starEach [] X.env := by rfl)
 (hpl : (backTo pos (starEach [Expr.Name T p2] X.env)).any (·.1) = false := by rfl) : DE X (.Call (.Name "isinstance" p) [e, .Name T p2] [] pos) (xIsi T0 t) := by
 refine ⟨PE.imp (pe_callB qbE hg hm (by rfl) (pa_cons he.run (pa_cons (pe_bltn (v := .ty T0) hgT hmT hT rfl hn hd) pa_nil h2) h1) (by decide) (by decide) h1 hpl) fun σ H Q q => ?_, fun env Q Q' h q => he.mono _ _ _ (fun r e q => qL (fun d q => ⟨q.1, h _ _ q.2⟩) q) q⟩
 obtain ⟨env, f, A, q⟩ := q
 refine ⟨env, f, A, he.mono _ _ _ (fun r e1 q => ?_) q⟩
 intro x H1 f1 g1 A1 R1 S1 K1
 obtain ⟨d, g', rp, q⟩ := yg A1 R1 q
 exact ⟨x, .ty T0, .type d.ty, .type T0, isiB T0 d, .ty T0, kit_ty (hk _ d.ty_mem), rfl, rp.tyX q.1, q.2 _ H1 f1 [] A1 (.tmp (.bl _) ql) (S1.drop fun _ z => by simp at z) K1⟩
theorem qde {T0 U0 : String} {x1 : Nat} (hk : TyOk T0) (hk2 : TyOk U0) (he : DE X e t) (hm : X.mg "isinstance" = none) (hmT : X.mg T = none) (hmU : X.mg U = none) (hT : bootBuiltins T = some (.type T0)) (hU : bootBuiltins U = some (.type U0)) (hg : Gl X "isinstance" := by rfl) (hgT : Gl X T := by rfl) (hgU : Gl X U := by rfl)
 (hn : T ≠ "__name__" := by decide) (hd : (T == ("__debug__" : Str)) = false := by decide) (hn2 : U ≠ "__name__" := by decide) (hd2 : (U == ("__debug__" : Str)) = false := by decide)
 (h1 : starEach [e, .Tuple [.Name T p2, .Name U p3] x1 p4] X.env = (false, eval e X.env) :: starEach [.Tuple [.Name T p2, .Name U p3] x1 p4] X.env := by rfl)
 (h2 : starEach [Expr.Tuple [.Name T p2, .Name U p3] x1 p4] X.env = (false, eval (.Tuple [.Name T p2, .Name U p3] x1 p4) X.env) :: starEach [] X.env := by rfl)
 (h3 : starEach [Expr.Name T p2, .Name U p3] X.env = (false, eval (.Name T p2) X.env) :: starEach [.Name U p3] X.env := by rfl) (h4 : starEach [Expr.Name U p3] X.env = (false, eval (.Name U p3) X.env) :: starEach [] X.env := by rfl)
 (hpl : (backTo pos (starEach [Expr.Tuple [.Name T p2, .Name U p3] x1 p4] X.env)).any (·.1) = false := by rfl) : DE X (.Call (.Name "isinstance" p) [e, .Tuple [.Name T p2, .Name U p3] x1 p4] [] pos) (qcn T0 U0 t) := by
 refine ⟨PE.imp (pe_callB qaO hg hm (by rfl) (pa_cons he.run (pa_cons (pe_tup (pa_cons (pe_bltn (v := .ty T0) hgT hmT hT rfl hn hd) (pa_cons (pe_bltn (v := .ty U0) hgU hmU hU rfl hn2 hd2) pa_nil h4) h3)) pa_nil h2) h1) (by decide) (by decide) h1 hpl) fun σ H Q q => ?_, fun env Q Q' h q => he.mono _ _ _ (fun r e q => qL (fun d q => ⟨q.1, h _ _ q.2⟩) q) q⟩
 obtain ⟨env, f, A, q⟩ := q
 refine ⟨env, f, A, he.mono _ _ _ (fun r e1 q => ?_) q⟩
 intro x H1 f1 g1 A1 R1 S1 K1
 obtain ⟨d, g', rp, q⟩ := yg A1 R1 q
 refine ⟨by show 2 ≤ sizeLine; decide, fun tp hf => ?_⟩
 have ex : Ext H1 (upd H1 tp (.tup [.ty T0, .ty U0])) [] := .updT hf
 obtain ⟨A3, R3, S3⟩ := xX A1 S1 ex (.bl (isiB T0 d || isiB U0 d))
 refine ⟨x, tp, [.ty T0, .ty U0], .type d.ty, [.type T0, .type U0], isiB T0 d || isiB U0 d, .cons (.ty T0) (.cons (.ty U0) .nil), ?_, upd_same, rfl, (rp.keep fun b o e _ => ex.same b o e).tyX q.1, q.2 _ _ f1 [] A3 R3 S3 K1⟩
 refine kitAny_cons (kit_ty (hk _ d.ty_mem)) (fun h => kitAny_cons (kit_ty (hk2 _ d.ty_mem)) (fun h2 => ?_) fun h2 => ?_) fun h => ?_
 ·rw [kitAny_nil]; unfold isiB; rw [h, h2]; rfl
 ·unfold isiB; rw [h2]; simp
 ·unfold isiB; rw [h]; rfl
theorem yF : CallD X (.builtin "len") 2 (op1 bLen) := Yn (by decide) (fun pins s σ H x us Q d g I rs r q => by
 unfold bLen at q
 split at q
 ·obtain ⟨a, vs, g', rfl, hs, rr, _, _⟩ := r.listSq
  exact call_len pins s σ H _ us Q I rs ⟨_, _, rfl, .inl ⟨vs, hs, rfl⟩, by rw [← rr.len]; exact q _ _ _ (.int _) .refl⟩
 ·obtain ⟨a, vs, rfl, hs, rr, _⟩ := r.lFSq
  exact call_len pins s σ H _ us Q I rs ⟨_, _, rfl, .inl ⟨vs, hs, rfl⟩, by rw [← rr.len]; exact q _ _ _ (.int _) .refl⟩
 ·obtain ⟨a, vs, rfl, hs, rr⟩ := r.tupleSq
  exact call_len pins s σ H _ us Q I rs ⟨_, _, rfl, .inr ⟨vs, hs, rfl⟩, by rw [← rr.len]; exact q _ _ _ (.int _) .refl⟩
 ·obtain ⟨rfl, _⟩ := r.strV
  exact call_len pins s σ H _ us Q I rs ⟨.str _, _, rfl, ⟨q.1, rfl⟩, q.2 _ _ _ (.int _) .refl⟩
 ·cases r with
  | @dK a hs kvs f ha he nd rr nn =>
    have hl := congrArg List.length he
    rw [List.length_map, List.length_map] at hl
    exact call_lenD pins s σ H _ us Q I rs ⟨_, _, rfl, ha, by rw [hl]; exact q _ _ _ (.int _) .refl⟩
 ·cases r with
  | @dT a hs kvs f ha he nd rr nn =>
    have hl := congrArg List.length he
    rw [List.length_map, List.length_map] at hl
    exact call_len_dT pins s σ H _ us Q I rs ⟨_, _, rfl, ha, by rw [hl]; exact q _ _ _ (.int _) .refl⟩
  | @dTF a o hs kvs f l ha he nd rr =>
    have hl := congrArg List.length he
    rw [List.length_map, List.length_map] at hl
    obtain ⟨u, rfl, rx⟩ := vals1 rs
    obtain rfl : u = .ref a := rx
    obtain ⟨z, hd, ys, rel, dd⟩ := dt_rd I.hok (.inr ⟨o, ha⟩)
    have hl2 : hs.length = ys.length := Paired.length rel
    refine call_len_dictH hd dd (by rw [← hl2]; rw [sizeLine_eq] at z; omega) ?_
    rw [← hl2, hl]
    exact ⟨.int _, H, I.tok _, ⟨_, rfl⟩, q _ _ _ (.int _) .refl⟩
 ·exact q.elim) (fun d k k' h q => by
 unfold bLen at q ⊢
 split at q
 ·exact h _ q
 ·exact h _ q
 ·exact h _ q
 ·exact ⟨q.1, h _ q.2⟩
 ·exact h _ q
 ·exact h _ q
 ·exact q.elim)
end
def blD (d : D) (k : Bool → Prop) : Prop := match d with
 | .bl b => k b
 | _ => False
def dChn (L : Nat) (op : OP) (L' : Nat) (op' : OP) (ta tb tc : XE) : XE := fun env Q => ta env fun r1 e1 => tb e1 fun r2 e2 => rd L r1 e2 fun d1 => rd L r2 e2 fun d2 => op d1 d2 fun d => blD d fun b =>
 (b = true → tc e2 fun r3 e3 => rd L' r2 e3 fun d2 => rd L' r3 e3 fun d3 => op' d2 d3 fun d => Q (.tmp d) e3) ∧ (b = false → Q (.tmp (.bl false)) e2)
section
variable {K : PySem.W.Frag} {σ : L2.St} {H H1 H' : Hp} {env e1 : En} {f f1 : FA} {g g1 : List Addr} {r : R} {v : V}
theorem ResOk.ext (h : ResOk K σ H env f r v g) (A : Abs K σ H env f) (x : ∀ b o, H b = some o → H' b = some o) : ResOk K σ H' env f r v g := by
 cases h with
 | tmp r n => exact .tmp (r.keep fun b o e _ => x b o e) n
 | ro r n => exact .ro (r.keep fun b o e _ => x b o e) n
 | sl e1 e2 hm => exact .sl e1 e2 hm
theorem qaR {d : D} {k : Bool → Prop} (q : blD d k) : ∃ b, d = .bl b ∧ k b := by
 cases d with
 | bl b => exact ⟨b, rfl, q⟩
 | _ => exact q.elim
theorem JH {L L' : Nat} {op op' : OP} {ta tb tc : XE} (ho : Wd op) (ho' : Wd op') (ma : yw ta) (mb : yw tb) (mc : yw tc) : yw (dChn L op L' op' ta tb tc) := fun env Q Q' h q =>
 ma _ _ _ (fun r1 e1 q => mb _ _ _ (fun r2 e2 q => qL (fun d1 q => qL (fun d2 q => ho _ _ _ _ (fun d q => by
  obtain ⟨b, rfl, q⟩ := qaR q
  exact ⟨fun z => mc _ _ _ (fun r3 e3 q => qL (fun d2 q => qL (fun d3 q => ho' _ _ _ _ (fun d q => h _ _ q) q) q) q) (q.1 z), fun z => h _ _ (q.2 z)⟩) q) q) q) q) q
theorem JK {L L' : Nat} {op op' : OP} {ta tb tc : XE} (ho : Wd op) (ho' : Wd op') (ma : yw ta) (mb : yw tb) (mc : yw tc) {Q : VK} (q : xN K (dChn L op L' op' ta tb tc) σ H Q) :
 tChain (rOp K L op) (rOp K L' op') (xN K ta) (xN K tb) (xN K tc) σ H Q := by
 obtain ⟨env, f, A, q⟩ := q
 refine ⟨env, f, A, ma _ _ _ (fun r1 e1 q => ?_) q⟩
 intro x H1 f1 g1 A1 R1 S1 K1
 refine ⟨e1, f1, A1, mb _ _ _ (fun r2 e2 q => ?_) q⟩
 intro y H2 f2 g2 A2 R2 S2 K2
 obtain ⟨R1', n⟩ := R1.wait A1 S2 K2
 obtain ⟨d1, g1', rp1, q⟩ := yg A2 R1' q
 obtain ⟨d2, g2', rp2, q⟩ := yg A2 R2 q
 refine ⟨d1, d2, g1', g2', rp1, rp2, ho _ _ _ _ (fun d q => ?_) q⟩
 intro z H3 g3 rp3 x3
 obtain ⟨b, rfl, q⟩ := qaR q
 obtain ⟨rfl, _⟩ := rp3.blV
 have A3 := A2.ext x3.same
 have S3 : Stp H env f [] H3 e2 f2 (g1 ++ g2) := (S1.trans (S2.frame g1)).ext x3.same
 have K3 := K1.trans K2
 refine ⟨b, rfl, ?_⟩
 cases b with
 | false =>
   rw [if_neg Bool.false_ne_true]
   exact q.2 rfl _ H3 f2 [] A3 (.tmp (.bl _) ql) (S3.drop fun _ z => by simp at z) K3
 | true =>
   rw [if_pos rfl]
   have R2' := R2.ext A2 x3.same
   refine ⟨e2, f2, A3, mc _ _ _ (fun r3 e3 q => ?_) (q.1 rfl)⟩
   intro w H4 f4 g4 A4 R4 S4 K4
   obtain ⟨R2'', n2⟩ := R2'.wait A3 S4 K4
   obtain ⟨d2', g2'', rp2', q⟩ := yg A4 R2'' q
   obtain ⟨d4, g4', rp4, q⟩ := yg A4 R4 q
   refine ⟨d2', d4, g2'', g4', rp2', rp4, ho' _ _ _ _ (fun dd q => ?_) q⟩
   intro z H5 g5 rp5 x5
   have S5 : Stp H env f [] H4 e3 f4 [] := (S3.drop (G2 := []) fun _ z => by simp at z).trans (S4.drop fun _ z => by simp at z)
   obtain ⟨A5, R5, S5⟩ := xX A4 S5 x5 rp5
   exact q z H5 f4 g5 A5 R5 S5 (K3.trans K4)
end
section
variable {X : Cx} {a b c : Expr} {ta tb tc : XE} {pos : Pos} {L L' : Nat} {op op' : OP} {o o' : CmpOp}
theorem qbB (ho : OpD X (compareOp o) L op) (ho' : OpD X (compareOp o') L' op') (ha : DE X a ta) (hb : DE X b tb) (hc : DE X c tc) (hm : lastMarks [o, o'] [b, c] = false := by with_unfolding_all rfl) : DE X (.Compare a [o, o'] [b, c] pos) (dChn L op L' op' ta tb tc) :=
 ⟨PE.imp (pe_chain ho.run ho'.run ha.run hb.run hc.run hm) fun σ H Q q => JK ho.mono ho'.mono ha.mono hb.mono hc.mono q, JH ho.mono ho'.mono ha.mono hb.mono hc.mono⟩
def BlOp (op : OP) : Prop := ∀ d1 d2 k, op d1 d2 k → op d1 d2 fun d => (∃ b, d = .bl b) ∧ k d
theorem qbx (ho : OpD X (compareOp o) L op) (ho' : OpD X (compareOp o') L' op') (hbl : BlOp op') (ha : DE X a ta) (hb : DE X b tb) (hc : DE X c tc) (hm : lastMarks [o, o'] [b, c] = false := by with_unfolding_all rfl) : DT X (.Compare a [o, o'] [b, c] pos) (xVal (dChn L op L' op' ta tb tc)) := by
 refine ⟨PT.imp (pt_chain ho.run ho'.run ha.run hb.run hc.run hm) fun σ H Q q => ?_, fun env Q Q' h q => JH ho.mono ho'.mono ha.mono hb.mono hc.mono _ _ _ (fun r e q => qL (fun d q => j8 (fun b q => h _ _ q) q) q) q⟩
 refine JK (Q := fun v H' => ∃ k, v = .bl k ∧ Q k H') ho.mono ho'.mono ha.mono hb.mono hc.mono ?_
 obtain ⟨env, f, A, q⟩ := q
 refine ⟨env, f, A, ?_⟩
 refine ha.mono _ _ _ (fun r1 e1 q => hb.mono _ _ _ (fun r2 e2 q => qL (fun d1 q => qL (fun d2 q => ho.mono _ _ _ _ (fun d q => ?_) q) q) q) q) q
 obtain ⟨b, rfl, q⟩ := qaR q
 refine ⟨fun z => hc.mono _ _ _ (fun r3 e3 q => qL (fun d2 q => qL (fun d3 q => ?_) q) q) (q.1 z), fun z => ?_⟩
 ·refine ho'.mono _ _ _ _ (fun d q => ?_) (hbl _ _ _ q)
  obtain ⟨⟨b, rfl⟩, q⟩ := q
  intro v H' f' g A' R' S' K'
  cases R' with
  | tmp rp _ =>
    obtain ⟨rfl, rfl⟩ := rp.blV
    exact ⟨b, rfl, q H' f' A' S' K'⟩
 ·have q := q.2 z
  intro v H' f' g A' R' S' K'
  cases R' with
  | tmp rp _ =>
    obtain ⟨rfl, rfl⟩ := rp.blV
    exact ⟨false, rfl, q H' f' A' S' K'⟩
theorem qdo : BlOp opGt := fun d1 d2 k q => by cases d1 <;> cases d2 <;> first | exact q.elim | exact ⟨⟨_, rfl⟩, q⟩
theorem qgp : BlOp opLe := fun d1 d2 k q => by cases d1 <;> cases d2 <;> first | exact q.elim | exact ⟨⟨_, rfl⟩, q⟩
theorem Yr : BlOp opEq := fun d1 d2 k q => ⟨q.1, q.2.1, ⟨_, rfl⟩, q.2.2⟩
theorem Yq : BlOp opNe := fun d1 d2 k q => ⟨q.1, q.2.1, ⟨_, rfl⟩, q.2.2⟩
theorem qgo : BlOp opLt := fun d1 d2 k q => by
 unfold opLt at q ⊢
 split at q
 ·exact ⟨⟨_, rfl⟩, q⟩
 ·split at q
  ·simp only [*]; exact ⟨⟨_, rfl⟩, trivial⟩
  ·exact q.elim
 ·exact q.elim
theorem qeX : BlOp opIs := fun d1 d2 k q => by
 unfold opIs at q ⊢
 split at q
 ·exact ⟨⟨_, rfl⟩, q⟩
 ·exact ⟨⟨_, rfl⟩, q⟩
 ·exact q.elim
theorem qcf {n : Bool} : BlOp (v7 n) := fun d1 d2 k q => by
 unfold v7 at q ⊢
 split at q
 ·split at q
  ·split at q
   ·simp only [*]; exact ⟨⟨_, rfl⟩, trivial⟩
   ·exact q.elim
  ·exact q.elim
 ·split at q
  ·simp only [*]; exact ⟨⟨_, rfl⟩, trivial⟩
  ·exact q.elim
 ·exact ⟨q.1, q.2.1, ⟨_, rfl⟩, q.2.2⟩
 ·exact ⟨q.1, q.2.1, ⟨_, rfl⟩, q.2.2⟩
 ·exact ⟨q.1, q.2.1, ⟨_, rfl⟩, q.2.2⟩
 ·split at q
  ·exact ⟨⟨_, rfl⟩, q⟩
  ·exact q.elim
 ·exact q.elim
end
end BX
namespace BX
open PySem PySem.Spec PyProof.Rows L2
section
variable {κ : Type} [DecidableEq κ] {K : PySem.W.Frag} {H : Hp}
def putD (k : κ) (d : D) : List (κ × D) → List (κ × D)
 | [] => [(k, d)]
 | p :: r => if p.1 = k then (p.1, d) :: r else p :: putD k d r
def putV (k : κ) (d : V) : List (κ × V) → List (κ × V)
 | [] => [(k, d)]
 | p :: r => if p.1 = k then (p.1, d) :: r else p :: putV k d r
theorem VM (k : κ) (v : V) : ∀ hs : List (κ × V), (∀ p ∈ hs, p.1 ≠ k) → putV k v hs = hs ++ [(k, v)]
 | [], _ => rfl
 | p :: r, h => by
   rw [putV, if_neg (h p (List.mem_cons_self ..)), VM k v r fun q hq => h q (List.mem_cons_of_mem _ hq)]
   rfl
theorem X8 (k : κ) (v : V) : ∀ hs : List (κ × V), (hs.map (·.1)).Nodup → (∃ p ∈ hs, p.1 = k) → putV k v hs = hs.map fun kv => if kv.1 = k then (kv.1, v) else kv
 | [], _, h => by obtain ⟨p, h, _⟩ := h; simp at h
 | p :: r, nd, h => by
   rw [List.map_cons, List.nodup_cons] at nd
   rw [putV, List.map_cons]
   by_cases e : p.1 = k
   ·rw [if_pos e, if_pos e]
    congr 1
    have : ∀ q ∈ r, (if q.1 = k then (q.1, v) else q) = q := fun q hq => if_neg fun z => nd.1 (List.mem_map.mpr ⟨q, hq, z.trans e.symm⟩)
    rw [List.map_congr_left this, List.map_id']
   ·rw [if_neg e, if_neg e]
    congr 1
    obtain ⟨q, hq, hk⟩ := h
    rcases List.mem_cons.mp hq with rfl | hq
    ·exact absurd hk e
    ·exact X8 k v r nd.2 ⟨q, hq, hk⟩
theorem qd4 {k : κ} {v : V} {hs : List (κ × V)} (nd : (hs.map (·.1)).Nodup) : putK hs k v = putV k v hs := by
 unfold putK
 split
 ·rename_i h
  rw [List.any_eq_true] at h
  obtain ⟨p, hp, e⟩ := h
  exact (X8 k v hs nd ⟨p, hp, of_decide_eq_true e⟩).symm
 ·rename_i h
  refine (VM k v hs fun p hp e => h ?_).symm
  rw [List.any_eq_true]
  exact ⟨p, hp, decide_eq_true e⟩
theorem X7 (k : κ) (v : V) (d : D) : ∀ {hs : List (κ × V)} {kvs : List (κ × D)}, hs.map (·.1) = kvs.map (·.1) → (putV k v hs).map (·.1) = (putD k d kvs).map (·.1)
 | [], [], _ => rfl
 | [], _ :: _, e => by simp at e
 | _ :: _, [], e => by simp at e
 | p :: hs, q :: kvs, e => by
   rw [List.map_cons, List.map_cons, List.cons.injEq] at e
   rw [putV, putD]
   by_cases h : p.1 = k
   ·rw [if_pos h, if_pos (e.1 ▸ h), List.map_cons, List.map_cons, e.1, e.2]
   ·rw [if_neg h, if_neg (e.1 ▸ h), List.map_cons, List.map_cons, e.1, X7 k v d e.2]
theorem Ja {k : κ} {d : D} : ∀ {kvs : List (κ × D)} {x : κ}, x ∈ (putD k d kvs).map (·.1) → x = k ∨ x ∈ kvs.map (·.1)
 | [], x, h => .inl (by simpa [putD] using h)
 | p :: r, x, h => by
   rw [putD] at h
   split at h
   ·exact .inr (by simpa using h)
   ·rw [List.map_cons] at h ⊢
    rcases List.mem_cons.mp h with rfl | h
    ·exact .inr (List.mem_cons_self ..)
    ·exact (Ja h).imp_right fun z => List.mem_cons_of_mem _ z
theorem Ww {k : κ} {d : D} : ∀ {kvs : List (κ × D)}, (kvs.map (·.1)).Nodup → ((putD k d kvs).map (·.1)).Nodup
 | [], _ => by simp [putD]
 | p :: r, nd => by
   rw [putD]
   split
   ·exact nd
   ·rename_i h
    rw [List.map_cons, List.nodup_cons] at nd ⊢
    exact ⟨fun z => (Ja z).elim h nd.1, Ww nd.2⟩
theorem X6 {k : κ} {d : D} {v : V} {g : List Addr} (r : Rep K H 0 d v g) : ∀ {kvs : List (κ × D)} {hs : List (κ × V)} {fp : List Addr}, hs.map (·.1) = kvs.map (·.1) → Reps K H 0 (kvs.map (·.2)) (hs.map (·.2)) fp → (∀ b ∈ fp, b ∉ g) →
 ∃ fp', Reps K H 0 ((putD k d kvs).map (·.2)) ((putV k v hs).map (·.2)) fp' ∧ ∀ b ∈ fp', b ∈ fp ∨ b ∈ g
 | [], [], _, _, .nil, _ => ⟨g, Reps.one r, fun b hb => .inr hb⟩
 | [], _ :: _, _, e, _, _ => by simp at e
 | _ :: _, [], _, e, _, _ => by simp at e
 | q :: kvs, p :: hs, fp, e, rr, dj => by
   rw [List.map_cons, List.map_cons, List.cons.injEq] at e
   rw [List.map_cons, List.map_cons] at rr
   cases rr with
   | @cons _ _ f1 _ _ f2 r1 rt n =>
     rw [putV, putD]
     by_cases h : p.1 = k
     ·rw [if_pos h, if_pos (e.1 ▸ h), List.map_cons, List.map_cons]
      exact ⟨g ++ f2, .cons r rt fun _ b hb z => dj b (List.mem_append_right _ z) hb, fun b hb => (List.mem_append.mp hb).elim .inr fun z => .inl (List.mem_append_right _ z)⟩
     ·rw [if_neg h, if_neg (e.1 ▸ h), List.map_cons, List.map_cons]
      obtain ⟨fp', r', s'⟩ := X6 r e.2 rt fun b hb => dj b (List.mem_append_right _ hb)
      refine ⟨f1 ++ fp', .cons r1 r' fun _ b hb z => (s' b z).elim (n rfl b hb) (dj b (List.mem_append_left _ hb)), fun b hb => (List.mem_append.mp hb).elim (fun z => .inl (List.mem_append_left _ z)) fun z => (s' b z).imp_left fun y => List.mem_append_right _ y⟩
theorem XR {d : D} {v : V} {g : List Addr} (r : Rep K H 0 d v g) : ∀ {ds : List D} {vs : List V} {fp : List Addr} (j : Nat), Reps K H 0 ds vs fp → (∀ b ∈ fp, b ∉ g) → ∃ fp', Reps K H 0 (ds.set j d) (vs.set j v) fp' ∧ ∀ b ∈ fp', b ∈ fp ∨ b ∈ g
 | _, _, _, _, .nil, _ => ⟨[], .nil, fun b hb => by simp at hb⟩
 | _, _, _, 0, .cons (g := f2) r1 rt n, dj => ⟨g ++ f2, .cons r rt fun _ b hb z => dj b (List.mem_append_right _ z) hb, fun b hb => (List.mem_append.mp hb).elim .inr fun z => .inl (List.mem_append_right _ z)⟩
 | _, _, _, j + 1, .cons (f := f1) (g := f2) r1 rt n, dj => by
   obtain ⟨fp', r', s'⟩ := XR r j rt fun b hb => dj b (List.mem_append_right _ hb)
   exact ⟨f1 ++ fp', .cons r1 r' fun e b hb z => (s' b z).elim (n e b hb) (dj b (List.mem_append_left _ hb)), fun b hb => (List.mem_append.mp hb).elim (fun z => .inl (List.mem_append_left _ z)) fun z => (s' b z).imp_left fun y => List.mem_append_right _ y⟩
end
def putR (ro : R) (di d : D) (e : En) (nx : En → Prop) : Prop := chg ro e fun i dd m => match dd with
 | .lst xs => match di with
   | .int j => match ixN xs.length j with
     | some n => nx (e.set i (some (.lst (xs.set n d), m)))
     | none => False
   | _ => False
 | .dT kvs => match di with
   | .tup ks => match jy ks with
     | some k => kvs.length < sizeLine ∧ nx (e.set i (some (.dT (putD k d kvs), m)))
     | none => False
   | _ => False
 | _ => False
def sPut (te to ti : XE) : XS := fun env nx _ => te env fun r e1 => to e1 fun ro e2 => ti e2 fun ri e3 => stor r e3 fun d => rd 1 ri e3 fun di => putR ro di d e3 nx
theorem VN {ro : R} {di d : D} {e : En} {k k' : En → Prop} (h : ∀ e, k e → k' e) (q : putR ro di d e k) : putR ro di d e k' := JL (fun i dd m q => by
 split at q
 ·split at q
  ·split at q
   ·simp only [*] <;> exact h _ q
   ·exact q.elim
  ·exact q.elim
 ·split at q
  ·split at q
   ·have q2 := h _ q.2
    simp only [*]
    first | exact ⟨trivial, trivial⟩ | exact ⟨q.1, trivial⟩ | exact trivial
   ·exact q.elim
  ·exact q.elim
 ·exact q.elim) q
section
variable {X : Cx} {o i e : Expr} {te to ti : XE} {pos tpos : Pos}
def qfW : TSet := fun o i v H Q => rSetL o i v H Q ∨ rSetD o i v H Q
theorem qcA (hx : Ok X) : PSet X qfW := fun pins s σ H o i v ov iv u Q I ro ri rv h => h.elim (set_list pins s σ H o i v ov iv u Q I ro ri rv) (set_dict (by have := hx.un; omega) pins s σ H o i v ov iv u Q I ro ri rv)
theorem qb6 (hx : Ok X) (he : DE X e te) (ho : DE X o to) (hi : DE X i ti) (hs : swapsWithSole [.Subscript o i tpos] e pos.line X.env = pure false := by rfl) (hw : swappedStores [.Subscript o i tpos] e X.env = pure none := by rfl)
 (h1 : (assignEach [.Subscript o i tpos] X.env).map (·.2) = [assign (.Subscript o i tpos) X.env] := by rfl)
 (ha : ∀ v, assign (.Subscript o i tpos) X.env v = (do
  let ov ← holding [v] (eval o X.env)
  let iv ← holding [v, ov] (eval i X.env)
  standAt tpos
  holding [v, ov, iv] (setItem ov iv v)
  release [v, ov, iv] []) := by intro _; rfl) : DS X (.Assign [.Subscript o i tpos] e pos) (sPut te to ti) := by
 refine ⟨PS.imp (ps_asg he.run (pg_sub ho.run hi.run (qcA hx) ha) hs hw h1) fun D σ H q => ?_, fun env nx nx' rt rt' h h' q => he.mono _ _ _ (fun r e q => ho.mono _ _ _ (fun r e q => hi.mono _ _ _ (fun r e q => uQ (fun d q => qL (fun d q => VN h q) q) q) q) q) q⟩
 obtain ⟨env, f, A, q⟩ := q
 refine ⟨env, f, A, he.mono _ _ _ (fun r e1 q => ?_) q⟩
 intro v H1 f1 g1 A1 R1 S1 K1
 refine ⟨e1, f1, A1, ho.mono _ _ _ (fun ro e2 q => ?_) q⟩
 intro vo H2 f2 g2 A2 R2 S2 K2
 refine ⟨e2, f2, A2, hi.mono _ _ _ (fun ri e3 q => ?_) q⟩
 intro vi H3 f3 g3 A3 R3 S3 K3
 obtain ⟨R1', n1⟩ := R1.wait A1 S2 K2
 obtain ⟨R1'', n1'⟩ := R1'.wait A2 S3 K3
 obtain ⟨R2', n2⟩ := R2.wait A2 S3 K3
 have S : Stp H env f [] H3 e3 f3 g1 := ((S1.trans ((S2.drop (G2 := []) fun _ z => by simp at z).frame g1)).drop (G2 := g1) (fun b hb => by simpa using hb)).trans ((S3.drop (G2 := []) fun _ z => by simp at z).frame g1) |>.drop fun b hb => by simpa using hb
 have Kk := (K1.trans K2).trans K3
 obtain ⟨d, rd1, q, nn⟩ := W7 A3 R1'' q
 obtain ⟨di, gi, rpi, q⟩ := yg A3 R3 q
 obtain ⟨n, dd, m, en, hm, hl, hv, rp, rfl, q⟩ := qca A3 R2' q
 split at q
 ·obtain ⟨a, vs, fp, rfl, hH, rr, hf, nfp⟩ := rp.listAt
  split at q
  ·split at q
   ·rename_i m' hj
    obtain ⟨rfl, _⟩ := rpi.intV
    have dj : ∀ b ∈ fp, b ∉ g1 := fun b hb z => (nn b z).1 ⟨n, _, m, en, hl, by rw [hf]; exact List.mem_cons_of_mem _ hb⟩
    obtain ⟨fp', r', s'⟩ := XR rd1 m' rr dj
    obtain ⟨A4, S4, K4, _⟩ := Xg (G := g1) (G' := []) A3 en hm hl hv hH hf nfp r' s' nn ql
    refine .inl ⟨a, vs, _, m', rfl, rfl, hH, by rw [← rr.len]; exact hj, q σ _ _ A4 (S.trans S4) (Kk.trans K4).kq⟩
   ·exact q.elim
  ·exact q.elim
 ·obtain ⟨a, hs, fp, rfl, hH, ek, nd, rr, hf, nfp⟩ := rp.dTAt
  split at q
  ·split at q
   ·rename_i k hk
    obtain ⟨b, ws, rfl, hb, rb⟩ := rpi.tupleAt (Nat.le_refl _)
    rw [rb.jy hk] at hb
    have dj : ∀ b ∈ fp, b ∉ g1 := fun b hb z => (nn b z).1 ⟨n, _, m, en, hl, by rw [hf]; exact List.mem_cons_of_mem _ hb⟩
    obtain ⟨fp', r', s'⟩ := X6 (k := k) rd1 ek rr dj
    have ndh : (hs.map (·.1)).Nodup := by rw [ek]; exact nd
    obtain ⟨A4, S4, K4, _⟩ := qeQ (G := g1) (G' := []) A3 en hm hl hv hH rfl hf (nfp rfl) (X7 k v d ek) (Ww nd) r' s' nn ql
    have hlen := congrArg List.length ek
    rw [List.length_map, List.length_map] at hlen
    refine .inr ⟨a, _, rfl, .t hH hb (by rw [hlen]; exact q.1), ?_⟩
    rw [qd4 ndh]
    exact q.2 σ _ _ A4 (S.trans S4) (Kk.trans K4).kq
   ·exact q.elim
  ·exact q.elim
 ·exact q.elim
end
end BX
namespace BX
open PySem PySem.Spec PyProof.Rows L2 RZ
def zc : R → Option Bool
 | .tmp _ => some false
 | .ro c _ => some c
 | .sl _ => none
def zipL (xs ys : List D) : List D := List.zipWith (fun x y => .tup [x, y]) xs ys
def zipS (r1 r2 : R) (d1 d2 : D) (e : En) (k : List D → Option Bool → Lok → En → Prop) : Prop := match zc r1, zc r2 with
 | some c, some c' => match d1, d2 with
   | .lst xs, .lst ys => k (zipL xs ys) (some (c || c')) none e
   | .tup xs, .tup ys => k (zipL xs ys) (some (c || c')) none e
   | _, _ => False
 | _, _ => False
def qc4 (t u : XE) : XI := fun env k => t env fun r1 e1 => u e1 fun r2 e2 => rd 2 r1 e2 fun d1 => rd 2 r2 e2 fun d2 => zipS r1 r2 d1 d2 e2 k
section
variable {K : PySem.W.Frag} {σ : L2.St} {H H1 : Hp} {env e1 : En} {f f1 : FA} {g : List Addr} {r : R} {x : V} {d : D}
theorem qb0 {c : Bool} (A : Abs K σ H1 e1 f1) (h : ResOk K σ H1 e1 f1 r x g) (hc : zc r = some c) (dd : r.data 2 e1 = some d) : ∃ gg, Rep K H1 (clv c) d x gg ∧ ∀ b ∈ gg, (∃ o, H1 b = some o) ∧ ¬ L0 e1 f1 b := by
 cases h with
 | @tmp d' _ _ rp n =>
   cases dd; cases hc
   exact ⟨g, rp.up (Nat.zero_le _), fun b hb => ⟨(rp.dom b hb).imp fun o z => z.1, (n b hb).1⟩⟩
 | @ro c' d' _ g0 rp n =>
   cases hc
   have dd' : d' = d := by
    unfold BX.R.data at dd
    cases e : roOk c 2 with
    | false => simp only [e] at dd; cases dd
    | true => simp only [e] at dd; exact Option.some.inj dd
   subst dd'
   exact ⟨g0, rp, fun b hb => ⟨(rp.dom b hb).imp fun o z => z.1, fun w => A.apart w (n b hb)⟩⟩
 | sl _ _ _ => cases hc
theorem Qn {P Q : List Addr} {H : Hp} (n : Near H1 P H) (h : ∀ b ∈ Q, b ∈ P) : Near H1 Q H := fun b o e z => n b o e (z.imp_left (h b))
theorem JG (c c' : Bool) : clv c ≤ clv (c || c') ∧ clv c' ≤ clv (c || c') := by cases c <;> cases c' <;> decide
theorem XD {xs ys : List D} {i : Nat} {d : D} (h : (zipL xs ys)[i]? = some d) : ∃ a b, xs[i]? = some a ∧ ys[i]? = some b ∧ d = .tup [a, b] := by
 unfold zipL at h
 rw [List.getElem?_zipWith] at h
 cases e1 : xs[i]? with
 | none => rw [e1] at h; cases h
 | some a =>
   cases e2 : ys[i]? with
   | none => rw [e1, e2] at h; cases h
   | some b => rw [e1, e2] at h; cases h; exact ⟨a, b, rfl, rfl, rfl⟩
theorem Z0 {P g1 g2 : List Addr} {H : Hp} {c : Bool} {d1 d2 : D} {x y : V} {T : Addr} (hT : H T = none) (r1 : Rep K H (clv c) d1 x g1) (r2 : Rep K H (clv c) d2 y g2) (h1 : ∀ b ∈ g1, b ∈ P) (h2 : ∀ b ∈ g2, b ∈ P) :
 (∀ b o, H b = some o → (upd H T (.tup [x, y])) b = some o) ∧ Item K (upd H T (.tup [x, y])) P (some c) (.tup [d1, d2]) (.ref T) := by
 have kp : ∀ b o, H b = some o → (upd H T (.tup [x, y])) b = some o := (Ext.upd (o := .tup [x, y]) hT).same
 have hlv : clv c ≠ 0 := by cases c <;> decide
 refine ⟨kp, g1 ++ (g2 ++ []), .tup upd_same (.cons (r1.keep fun b o e _ => kp b o e) (.cons (r2.keep fun b o e _ => kp b o e) .nil fun z => absurd z hlv) fun z => absurd z hlv), fun b hb => ?_⟩
 rcases List.mem_append.mp hb with hb | hb
 ·exact h1 b hb
 ·rcases List.mem_append.mp hb with hb | hb
  ·exact h2 b hb
  ·simp at hb
variable {xs ys : List D} {vs ws : List V} {a b : Addr} {c c' : Bool} {g1 g2 P : List Addr}
theorem qcp (ha : ∀ H, Near H1 P H → SqL K H a vs) (hb : ∀ H, Near H1 P H → SqL K H b ws) (r1 : Reps K H1 (clv c) xs vs g1) (r2 : Reps K H1 (clv c') ys ws g2) (s1 : ∀ b ∈ g1, b ∈ P) (s2 : ∀ b ∈ g2, b ∈ P) : Wk K (Itz K a b) (zipL xs ys) (some (c || c')) H1 P where
 go := fun i H n h => by
  rw [zipL, List.length_zipWith] at h
  have l1 := r1.len; have l2 := r2.len
  exact ⟨vs, ws, vs[i]'(by omega), ws[i]'(by omega), ha H n, hb H n, List.getElem?_eq_getElem _, List.getElem?_eq_getElem _⟩
 stop := fun i H n h => by
  rw [zipL, List.length_zipWith] at h
  have l1 := r1.len; have l2 := r2.len
  exact ⟨vs, ws, ha H n, hb H n, by omega⟩
 yld := fun i H x H' d n e y => by
  obtain ⟨T, x', y', rfl, hT, rfl, hx, hy⟩ := y
  obtain ⟨d1, d2, e1, e2, rfl⟩ := XD e
  obtain ⟨v1, h1, q1, rp1, t1⟩ := r1.get e1
  obtain ⟨v2, h2, q2, rp2, t2⟩ := r2.get e2
  have := hx vs (ha H n); rw [q1] at this; cases this
  have := hy ws (hb H n); rw [q2] at this; cases this
  exact Z0 hT ((jF rp1 n fun b hb => s1 b (t1 b hb)).up (JG c c').1) ((jF rp2 n fun b hb => s2 b (t2 b hb)).up (JG c c').2) (fun b hb => s1 b (t1 b hb)) fun b hb => s2 b (t2 b hb)
theorem qco (ha : ∀ H, Near H1 P H → SqT K H a vs) (hb : ∀ H, Near H1 P H → SqT K H b ws) (r1 : Reps K H1 (clv c) xs vs g1) (r2 : Reps K H1 (clv c') ys ws g2) (s1 : ∀ b ∈ g1, b ∈ P) (s2 : ∀ b ∈ g2, b ∈ P) : Wk K (ItzT K a b) (zipL xs ys) (some (c || c')) H1 P where
 go := fun i H n h => by
  rw [zipL, List.length_zipWith] at h
  have l1 := r1.len; have l2 := r2.len
  exact ⟨vs, ws, vs[i]'(by omega), ws[i]'(by omega), ha H n, hb H n, List.getElem?_eq_getElem _, List.getElem?_eq_getElem _⟩
 stop := fun i H n h => by
  rw [zipL, List.length_zipWith] at h
  have l1 := r1.len; have l2 := r2.len
  exact ⟨vs, ws, ha H n, hb H n, by omega⟩
 yld := fun i H x H' d n e y => by
  obtain ⟨T, x', y', rfl, hT, rfl, hx, hy⟩ := y
  obtain ⟨d1, d2, e1, e2, rfl⟩ := XD e
  obtain ⟨v1, h1, q1, rp1, t1⟩ := r1.get e1
  obtain ⟨v2, h2, q2, rp2, t2⟩ := r2.get e2
  have := hx vs (ha H n); rw [q1] at this; cases this
  have := hy ws (hb H n); rw [q2] at this; cases this
  exact Z0 hT ((jF rp1 n fun b hb => s1 b (t1 b hb)).up (JG c c').1) ((jF rp2 n fun b hb => s2 b (t2 b hb)).up (JG c c').2) (fun b hb => s1 b (t1 b hb)) fun b hb => s2 b (t2 b hb)
end
theorem Va {r1 r2 : R} {d1 d2 : D} {e : En} {k k' : List D → Option Bool → Lok → En → Prop} (h : ∀ ds kd lk e, k ds kd lk e → k' ds kd lk e) (q : zipS r1 r2 d1 d2 e k) : zipS r1 r2 d1 d2 e k' := by
 unfold zipS at q ⊢
 revert q
 cases zc r1 with
 | none => exact id
 | some c => cases zc r2 with
   | none => exact id
   | some c' => cases d1 <;> cases d2 <;> first | exact id | exact fun q => h _ _ _ _ q
section
variable {X : Cx} {e e2 : Expr} {t u : XE} {p pos tpos : Pos} {elts : List Expr} {kk : Nat}
theorem qeL (ha : DE X e t) (hb : DE X e2 u) (hm : X.mg "zip" = none) (hg : Gl X "zip" := by rfl) (hs' : starEach [e, e2] X.env = (false, eval e X.env) :: starEach [e2] X.env := by rfl) (hs2' : starEach [e2] X.env = (false, eval e2 X.env) :: starEach [] X.env := by rfl)
 (hpl : (backTo pos (starEach [e2] X.env)).any (·.1) = false := by rfl) : DI X (.Tuple elts kk tpos) (.Call (.Name "zip" p) [e, e2] [] pos) (qc4 t u) := by
 refine ⟨PI.imp (pi_zipA hg hm (qb ha (qb hb qp hs2') hs').run hs' hpl) fun σ H R q => ?_, fun env k k' h q => ha.mono _ _ _ (fun r e q => hb.mono _ _ _ (fun r2 e2 q => qL (fun d q => qL (fun d2 q => ?_) q) q) q) q⟩
 ·obtain ⟨env, f, A, q⟩ := q
  refine ⟨env, f, A, ha.mono _ _ _ (fun r1 e1 q => hb.mono _ _ _ (fun r2 e2 q => ?_) q) q⟩
  intro vs H1 f1 gs A1 R1 S1 K1
  cases R1 with
  | cons R1 Rt _ =>
    cases Rt with
    | cons R2 Rt _ =>
      cases Rt
      obtain ⟨d1, dd1, q⟩ := Za q
      obtain ⟨d2, dd2, q⟩ := Za q
      unfold zipS at q
      split at q
      ·rename_i c c' hc hc'
       obtain ⟨gg1, rp1, n1⟩ := qb0 A1 R1 hc dd1
       obtain ⟨gg2, rp2, n2⟩ := qb0 A1 R2 hc' dd2
       have S0 := S1.drop (G2 := []) fun _ z => by simp at z
       have nn : ∀ b ∈ gg1 ++ gg2, (∃ o, H1 b = some o) ∧ ¬ L0 e2 f1 b := fun b hb => (List.mem_append.mp hb).elim (n1 b) (n2 b)
       have w1 : ∀ b ∈ gg1, b ∈ gg1 ++ gg2 := fun b hb => List.mem_append_left _ hb
       have w2 : ∀ b ∈ gg2, b ∈ gg1 ++ gg2 := fun b hb => List.mem_append_right _ hb
       split at q
       ·obtain ⟨a1, vs1, k1, rfl, hq1, hn1, rr1, hs1⟩ := jt rp1
        obtain ⟨a2, vs2, k2, rfl, hq2, hn2, rr2, hs2⟩ := jt rp2
        exact ⟨a1, a2, vs1, vs2, rfl, .inl ⟨hq1, hq2, q _ H1 f1 _ e2 A1 S0 K1 .none (qcp (fun H n => hn1 H (Qn n w1)) (fun H n => hn2 H (Qn n w2)) rr1 rr2 (fun b hb => w1 b (hs1 b hb)) fun b hb => w2 b (hs2 b hb)) (fun b hb => ⟨(nn b hb).1, fun w => (nn b hb).2 w.l0⟩) (fun _ b hb => (nn b hb).2)⟩⟩
       ·obtain ⟨a1, vs1, rfl, hq1, hn1, rr1⟩ := Qm rp1
        obtain ⟨a2, vs2, rfl, hq2, hn2, rr2⟩ := Qm rp2
        exact ⟨a1, a2, vs1, vs2, rfl, .inr ⟨hq1, hq2, q _ H1 f1 _ e2 A1 S0 K1 .none (qco (fun H n => hn1 H (Qn n w1)) (fun H n => hn2 H (Qn n w2)) rr1 rr2 w1 w2) (fun b hb => ⟨(nn b hb).1, fun w => (nn b hb).2 w.l0⟩) (fun _ b hb => (nn b hb).2)⟩⟩
       ·exact q.elim
      ·exact q.elim
 ·exact Va h q
end
end BX
namespace BX
open PySem PySem.Spec PyProof.Rows L2
def sPar (i j : Nat) (u : XA) : XS := fun env nx _ => u env fun rs e => jh rs e fun ds => match ds with
 | [d1, d2] => setOk e i = true ∧ setOk e j = true ∧ nx ((e.set i (some (d1, .own))).set j (some (d2, .own)))
 | _ => False
def intS (x : Option (Option (D × Md))) (k : Int → Prop) : Prop := match x with
 | some (some (.int z, _)) => k z
 | _ => False
def intD (d : D) (k : Int → Prop) : Prop := match d with
 | .int z => k z
 | _ => False
def sAug (g : Int → Int → Int) (i : Nat) (te : XE) : XS := fun env nx _ => intS env[i]? fun z => te env fun r e1 => rd 2 r e1 fun d => intD d fun w => setOk e1 i = true ∧ nx (e1.set i (some (.int (g z w), .own)))
def dNeg (t : XE) : XE := fun env Q => t env fun r e => rd 2 r e fun d => intD d fun z => Q (.tmp (.int (-z))) e
def qdi (t : XE) : XE := fun env Q => t env fun r e => rd 2 r e fun d => tru d fun b => Q (.tmp (.bl (!b))) e
theorem Yc {d : D} {k k' : Int → Prop} (h : ∀ z, k z → k' z) (q : intD d k) : intD d k' := by
 cases d <;> first | exact q.elim | exact h _ q
theorem qao {d : D} {k : Int → Prop} (q : intD d k) : ∃ z, d = .int z ∧ k z := by
 cases d <;> first | exact q.elim | exact ⟨_, rfl, q⟩
section
variable {X : Cx} {e a b : Expr} {t te : XE} {u : XA} {x y : Str} {i j : Nat} {pos pos' px py pt pt2 : Pos} {kt k2 : Nat}
theorem qeN (ha : DE X a t) : DE X (.UnaryOp .USub a pos) (dNeg t) := by
 refine ⟨PE.imp (pe_un un_neg ha.run) fun σ H Q q => ?_, fun env Q Q' h q => ha.mono _ _ _ (fun r e q => qL (fun d q => Yc (fun z q => h _ _ q) q) q) q⟩
 obtain ⟨env, f, A, q⟩ := q
 refine ⟨env, f, A, ha.mono _ _ _ (fun r e1 q => ?_) q⟩
 intro v H1 f1 g1 A1 R1 S1 K1
 obtain ⟨d, g', rp, q⟩ := yg A1 R1 q
 obtain ⟨z, rfl, q⟩ := qao q
 obtain ⟨rfl, _⟩ := rp.intV
 exact ⟨z, rfl, q _ H1 f1 [] A1 (.tmp (.int _) ql) (S1.drop fun _ z => by simp at z) K1⟩
theorem qdd (ha : DE X a t) : DE X (.UnaryOp .Not a pos) (qdi t) := by
 refine ⟨PE.imp (pe_notT ha.run) fun σ H Q q => ?_, fun env Q Q' h q => ha.mono _ _ _ (fun r e q => qL (fun d q => j8 (fun z q => h _ _ q) q) q) q⟩
 obtain ⟨env, f, A, q⟩ := q
 refine ⟨env, f, A, ha.mono _ _ _ (fun r e1 q => ?_) q⟩
 intro v H1 f1 g1 A1 R1 S1 K1
 obtain ⟨d, g', rp, q⟩ := yg A1 R1 q
 obtain ⟨b, ht, q⟩ := rp.tru q
 exact ⟨b, ht, q _ H1 f1 [] A1 (.tmp (.bl _) ql) (S1.drop fun _ z => by simp at z) K1⟩
theorem qb7 (hx : Ok X) (hN : X.N.Nodup) (hij : i ≠ j) (ha : DA X [a, b] u) (hi : X.N[i]? = some x := by rfl) (hj : X.N[j]? = some y := by rfl) (hxl : X.env.scope.names.lookup x = some .local := by rfl) (hyl : X.env.scope.names.lookup y = some .local := by rfl)
 (hw : swappedStores [.Tuple [.Name x px, .Name y py] kt pt] (.Tuple [a, b] k2 pt2) X.env = pure (some [x, y]) := by rfl)
 (hs : swapsWithSole [.Tuple [.Name x px, .Name y py] kt pt] (.Tuple [a, b] k2 pt2) pos.line X.env = pure false := by rfl) : DS X (.Assign [.Tuple [.Name x px, .Name y py] kt pt] (.Tuple [a, b] k2 pt2) pos) (sPar i j u) := by
 refine ⟨PS.imp (ps_par hx.calm hN hi hj hij hxl hyl ha.run hw hs) fun D σ H q => ?_, fun env nx nx' rt rt' h _ q => ha.mono _ _ _ (fun rs e q => j9 (fun ds q => ?_) q) q⟩
 ·obtain ⟨env, f, A, q⟩ := q
  refine ⟨env, f, A, ha.mono _ _ _ (fun rs e1 q => ?_) q⟩
  intro vs H1 f1 gs A1 R1 S1 K1
  obtain ⟨ds, rp, q, nn⟩ := Qg A1 R1 q
  match ds, q with
  | [d1, d2], q =>
    obtain ⟨so1, so2, q⟩ := q
    cases rp with
    | @cons _ v ga _ _ _ r1 rt n =>
      cases rt with
      | @cons _ w gb _ _ _ r2 rt n2 =>
        cases rt
        have nd : ∀ b ∈ ga, b ∉ gb := fun b hb z => n rfl b hb (List.mem_append_left _ z)
        obtain ⟨A2, S2, K2, L2', O2, _⟩ := A1.put (m := .own) (G := ga) so1 r1 ⟨(fun z => nomatch z), (fun z => nomatch z)⟩ (fun _ b hb => nn b (List.mem_append_left _ hb)) (fun b hb => (nn b (List.mem_append_left _ hb)).1) fun _ b hb => hb
        have so2' : setOk (e1.set i (some (d1, .own))) j = true := by
         unfold setOk at so2 ⊢
         rw [zY (Ne.symm hij)]
         exact so2
        have nb : ∀ b ∈ gb, ¬ L0 (e1.set i (some (d1, Md.own))) (fset f1 i ga) b ∧ ¬ Ro (e1.set i (some (d1, Md.own))) (fset f1 i ga) b := fun b hb => by
         have := nn b (List.mem_append_right _ (List.mem_append_left _ hb))
         exact ⟨fun z => (L2' b z).elim this.1 fun y => nd b y hb, fun z => this.2 (O2 rfl b z)⟩
        obtain ⟨A3, S3, K3, _⟩ := A2.put (m := .own) (G := gb) so2' r2 ⟨(fun z => nomatch z), (fun z => nomatch z)⟩ (fun _ => nb) (fun b hb => (nb b hb).1) fun _ b hb => hb
        refine ⟨v, w, rfl, q _ H1 _ A3 (S1.trans ⟨fun b o h _ => h, fun b z => ?_⟩) ((K1.kq.trans K2).trans K3)⟩
        rcases S3.own b z with z | z | z
        ·rcases S2.own b (.inl z) with z | z | z
         ·exact .inl z
         ·exact .inr (.inl (List.mem_append_left _ z))
         ·exact .inr (.inr z)
        ·exact .inr (.inl (List.mem_append_right _ (List.mem_append_left _ z)))
        ·exact .inr (.inr z)
  | [], q => exact q.elim
  | [_], q => exact q.elim
  | _ :: _ :: _ :: _, q => exact q.elim
 ·match ds, q with
  | [d1, d2], q => exact ⟨q.1, q.2.1, h _ q.2.2⟩
  | [], q => exact q.elim
  | [_], q => exact q.elim
  | _ :: _ :: _ :: _, q => exact q.elim
end
end BX
namespace BX
open PySem PySem.Spec PyProof.Rows L2
theorem Ok.blk {X : Cx} (h : Ok X) {s : Shared} {H : Hp} {scope : Scope} {cenv : Env} {fp : List Addr} : Ok (X.blk s H scope cenv fp) := ⟨h.calm, h.un⟩
def qd3 (scope sc : Scope) : Scope :=
 { scope with names := scope.names.map fun (n, k) => if (k == .free && sc.kind == .function && sc.names.lookup n == some .cell) then (n, .cell) else (n, k) }
theorem JW {N : List Str} {scope inner sc0 : Scope} {env : Env} {own : List (Str × Nat)} (hs : env.scope = sc0) (h : blkC N (qd3 scope sc0) inner own = true) : BlkOk N (relabel scope env) inner own := by
 subst hs
 exact blkOk_by h
end BX
namespace BX
open PySem PySem.Spec PyProof.Rows L2
theorem qal {g : XG} {te : XE} {kd : Option Bool} {vs : List Nat} {k : List D → En → Prop} {E : En} (F : D → D) : ∀ (ds acc : List D), acc.length + ds.length ≤ sizeLine → k (acc ++ ds.map F) E →
 (∀ d ∈ ds, ∀ (c : Prop) (k1 : D → En → Prop), c → k1 (F d) E → g (mkI kd d) E fun e1 => te e1 fun r e3 => stor r e3 fun dd => c ∧ k1 dd (qX vs e3)) →
 lcL g xYes te kd vs ds E acc k
 | [], acc, hl, h, hs => by
   show k acc E
   simpa using h
 | d :: ds, acc, hl, h, hs => by
   rw [List.length_cons] at hl
   have q := hs d (List.mem_cons_self ..) (acc.length < sizeLine) (fun dd e => lcL g xYes te kd vs ds e (acc ++ [dd]) k) (by omega) (qal F ds (acc ++ [F d]) (by rw [List.length_append, List.length_singleton]; omega) (by simpa using h) fun d' hd' => hs d' (List.mem_cons_of_mem _ hd'))
   have e : (fun e1 => te e1 fun r e3 => stor r e3 fun dd => acc.length < sizeLine ∧ lcL g xYes te kd vs ds (qX vs e3) (acc ++ [dd]) k) = fun e1 => xYes e1 fun b e2 => (b = true → te e2 fun r e3 => stor r e3 fun dd => acc.length < sizeLine ∧ lcL g xYes te kd vs ds (qX vs e3) (acc ++ [dd]) k) ∧ (b = false → lcL g xYes te kd vs ds (qX vs e2) acc k) :=
    funext fun e1 => propext ⟨fun z => ⟨fun _ => z, fun z => nomatch z⟩, fun z => z.1 rfl⟩
   rw [e] at q
   exact q
theorem u6 {α : Type} {g : XG} {tt : XT} {te : XE} {kd : Option Bool} {vs : List Nat} {k : List D → En → Prop} {E : En} (p : α → Bool) (F G : α → D) : ∀ (as : List α) (acc : List D), acc.length + as.length ≤ sizeLine → k (acc ++ (as.filter p).map F) E →
 (∀ a ∈ as, ∀ (c : Prop) (k1 : D → En → Prop) (k2 : En → Prop), c → (p a = true → k1 (F a) E) → (p a = false → k2 E) → g (mkI kd (G a)) E fun e1 => tt e1 fun b e2 => (b = true → te e2 fun r e3 => stor r e3 fun dd => c ∧ k1 dd (qX vs e3)) ∧ (b = false → k2 (qX vs e2))) →
 lcL g tt te kd vs (as.map G) E acc k
 | [], acc, hl, h, hs => by
   show k acc E
   simpa using h
 | a :: as, acc, hl, h, hs => by
   rw [List.length_cons] at hl
   refine hs a (List.mem_cons_self ..) (acc.length < sizeLine) (fun dd e => lcL g tt te kd vs (as.map G) e (acc ++ [dd]) k) (fun e => lcL g tt te kd vs (as.map G) e acc k) (by omega) (fun hp => ?_) (fun hp => ?_)
   ·refine u6 p F G as (acc ++ [F a]) (by rw [List.length_append, List.length_singleton]; omega) ?_ fun a' ha' => hs a' (List.mem_cons_of_mem _ ha')
    rw [List.filter_cons_of_pos hp, List.map_cons] at h
    rw [List.append_assoc, List.singleton_append]
    exact h
   ·refine u6 p F G as acc (by omega) ?_ fun a' ha' => hs a' (List.mem_cons_of_mem _ ha')
    rw [List.filter_cons_of_neg (by rw [hp]; decide)] at h
    exact h
theorem qbp {α : Type} {g : XG} {te : XE} {kd : Option Bool} {vs : List Nat} {k : List D → En → Prop} {E : En} (F G : α → D) (as : List α) (hl : as.length ≤ sizeLine) (h : k (as.map F) E)
 (hs : ∀ a ∈ as, ∀ (c : Prop) (k1 : D → En → Prop), c → k1 (F a) E → g (mkI kd (G a)) E fun e1 => te e1 fun r e3 => stor r e3 fun dd => c ∧ k1 dd (qX vs e3)) :
 lcL g xYes te kd vs (as.map G) E [] k := by
 refine u6 (fun _ => true) F G as [] (by simpa using hl) (by rw [List.filter_eq_self.mpr (fun _ _ => rfl)]; exact h) fun a ha c k1 k2 hc h1 h2 => ?_
 have q := hs a ha c k1 hc (h1 rfl)
 have e : (fun e1 => te e1 fun r e3 => stor r e3 fun dd => c ∧ k1 dd (qX vs e3)) = fun e1 => xYes e1 fun b e2 => (b = true → te e2 fun r e3 => stor r e3 fun dd => c ∧ k1 dd (qX vs e3)) ∧ (b = false → k2 (qX vs e2)) :=
  funext fun e1 => propext ⟨fun z => ⟨fun _ => z, fun z => nomatch z⟩, fun z => z.1 rfl⟩
 rw [e] at q
 exact q
theorem qbs {α : Type} {F : α → D} (h : ∀ a, (F a).imm = true) (l : List α) : immL (l.map F) = true := Jt fun d hd => by
 obtain ⟨a, _, rfl⟩ := List.mem_map.mp hd
 exact h a
theorem QC {t u : XS} {env : En} {nx : En → Prop} {rt : D → En → Prop} (I : En → Prop) (h1 : ∀ K : En → Prop, (∀ e, I e → K e) → t env K rt) (h2 : ∀ e, I e → u e nx rt) : sSeq t u env nx rt := h1 _ h2
theorem qbF {α : Type} {F : α → D} {xs : List α} {k : Nat} {a : α} (h : xs[k]? = some a) : atI (xs.map F) (k : Int) = some (F a) := atI_nat (by rw [List.getElem?_map, h]; rfl)
theorem Zh {i j : Int} (h1 : -(2 ^ 64) < i) (h2 : i < 2 ^ 64) : IntMulOk i j := CMul.ok (.inl ⟨h1, h2⟩)
theorem qaa {i j : Int} (h1 : -(2 ^ 64) < j) (h2 : j < 2 ^ 64) : IntMulOk i j := CMul.ok (.inr ⟨h1, h2⟩)
theorem Ws : ∀ {ms : List Md} {rs : List R} {i : Nat}, (∀ m ∈ ms, m.rd = true) → wj ms rs i = none
 | [], _, _, _ => by unfold wj; rfl
 | _ :: _, [], _, _ => by unfold wj; rfl
 | m :: ms, r :: rs, i, h => by
   rw [wj, h m (List.mem_cons_self ..), Ws fun x hx => h x (List.mem_cons_of_mem _ hx)]
   rfl
theorem VP {ms : List Md} {rs : List R} {ds : List D} (h : ∀ m ∈ ms, m.rd = true) : ∀ (k : Nat) (e : En), putB ms rs ds k e = e
 | _, [] => by rw [putB]
 | k, x :: xs => by rw [putB, VP h (k + 1) xs, Yt, Ws h]
theorem dFn2 {S : FS} {te tf : XE} {e : En} {Q : R → En → Prop} (hS : S.ms = [.cst, .cst]) : dFn S (qm te (qm tf aNil)) e Q = te e fun r e1 => tf e1 fun r2 e2 => rd 2 r e2 fun d => rd 2 r2 e2 fun d2 => S.wp [d, d2] fun d' _ => Q (.tmp d') e2 := by
 have h : ∀ m ∈ S.ms, m.rd = true := by rw [hS]; simp [Md.rd]
 unfold dFn qm aNil
 refine congrArg (te e) (funext fun r => funext fun e1 => congrArg (tf e1) (funext fun r2 => funext fun e2 => ?_))
 rw [hS] at h ⊢
 have e1' : yq [Md.cst, Md.cst] [r, r2] e2 = true := by cases r <;> cases r2 <;> rfl
 have e2' : apart [Md.cst, Md.cst] [r, r2] = true := by
  unfold apart
  rw [List.all_eq_true]
  intro p hp
  rw [List.all_eq_true]
  intro q hq
  have hp' : p < 2 := by simpa using hp
  have hq' : q < 2 := by simpa using hq
  match p, q, hp', hq' with
  | 0, 0, _, _ => rfl
  | 1, 1, _, _ => rfl
  | 0, 1, _, _ => cases r <;> cases r2 <;> rfl
  | 1, 0, _, _ => cases r <;> cases r2 <;> rfl
 simp only [e1', e2', true_and, VP h]
 rfl
section
variable {env e : En} {i j n : Nat} {z : Int} {b c : Bool} {s t : Str} {d d1 d2 : D} {m : Md} {xs ys : List D} {kvs : List (List Key × D)} {kws : List (Key × D)} {k : D → Prop} {Q : R → En → Prop} {nx : En → Prop} {r : R} {x y : Option (D × Md)}
def varM (i : Nat) (m : Md) (d : D) (e : En) (Q : R → En → Prop) : Prop := match m with
 | .ro => Q (.ro false d) e
 | .cst => Q (.ro true d) e
 | .own => Q (.sl i) e
 | .io => Q (.sl i) e
 | .lk => Q (.sl i) e
def varS (i : Nat) (x : Option (Option (D × Md))) (e : En) (Q : R → En → Prop) : Prop := match x with
 | some (some (.int z, _)) => Q (.tmp (.int z)) e
 | some (some (.bl z, _)) => Q (.tmp (.bl z)) e
 | some (some (.str z, _)) => Q (.tmp (.str z)) e
 | some (some (.non, _)) => Q (.tmp .non) e
 | some (some (.dF kvs, .own)) => Q (.ro true (.dT kvs)) e
 | some (some (d, m)) => varM i m d e Q
 | _ => False
theorem xVar : dVar i env Q = varS i env[i]? env Q := by
 unfold dVar varS
 cases env[i]? with
 | none => rfl
 | some x => cases x with
   | none => rfl
   | some p =>
     obtain ⟨d, m⟩ := p
     cases d <;> cases m <;> rfl
def rdS (L : Nat) (x : Option (Option (D × Md))) (k : D → Prop) : Prop := match x with
 | some (some (d, m)) => match m.okL L with
   | true => k d
   | false => False
 | _ => False
theorem xRdS {L : Nat} : rd L (.sl i) e k = rdS L e[i]? k := by
 unfold rd rdS R.data
 dsimp only
 cases e[i]? with
 | none => rfl
 | some x => cases x with
   | none => rfl
   | some p =>
     obtain ⟨d, m⟩ := p
     cases h : m.okL L <;> simp only [h]
theorem xRd2 : rd 2 (.ro c d) e k = k d := by cases c <;> rfl
theorem qfn : rdS 2 (some (some (d, m))) k = k d := by cases m <;> rfl
def qcy (d : D) (k : List D → Prop) : Prop := match d with
 | .lst ys => immL ys = true ∧ k ys
 | _ => False
theorem qcj {kk : List D → Prop} : W8 (.ro c d) e kk = rd 1 (.ro c d) e fun d => qcy d kk := rfl
theorem qci {kk : List D → Prop} : W8 (.sl i) e kk = rd 1 (.sl i) e fun d => qcy d kk := rfl
def chgS (i : Nat) (x : Option (Option (D × Md))) (k : Nat → D → Md → Prop) : Prop := match x with
 | some (some (d, .own)) => k i d .own
 | some (some (d, .io)) => k i d .io
 | _ => False
def lstM (k : Nat → List D → Md → Prop) (i : Nat) (d : D) (m : Md) : Prop := match d with
 | .lst xs => k i xs m
 | _ => False
def dTM (k : Nat → List (List Key × D) → Md → Prop) (i : Nat) (d : D) (m : Md) : Prop := match d with
 | .dT xs => k i xs m
 | _ => False
def retS (x : Option (Option (D × Md))) (k : D → Prop) : Prop := match x with
 | some (some (d, m)) => (match m with
   | .own => True
   | _ => d.imm = true) ∧ k d
 | _ => False
theorem qfm : retS (some (some (d, .own))) k = k d := by unfold retS; simp
def setS (x : Option (Option (D × Md))) : Bool := match x with
 | some (some (_, .io)) => false
 | some (some (_, .lk)) => false
 | some _ => true
 | none => false
def gNS (i : Nat) (x : Option (Option (D × Md))) (e : En) (k : En → Prop) : Prop := match x with
 | some (some (d, _)) => d.imm = true ∧ k (e.set i (some (d, .own)))
 | _ => False
def tupT (n : Nat) (gs : XGs) (r : R) (e : En) (k : En → Prop) (d : D) : Prop := match d with
 | .tup xs => xs.length = n ∧ kdOf r xs fun kd => gs kd xs e k
 | _ => False
def thS (i : Nat) (m : Md) (x : Option (Option (D × Md))) (e : En) (k : En → Prop) : Prop := match x with
 | some (some (d, .lk)) => k (e.set i (some (d, m)))
 | _ => False
def qez (i : Nat) (x : Option (Option (D × Md))) (e : En) (k : Option Bool → Lok → En → Prop) (im : Bool) : Prop := match x with
 | some (some (d, m)) => im = true ∧ k none (some (i, m)) (e.set i (some (d, .lk)))
 | _ => False
def seqS (d : D) (r : R) (e : En) (k : List D → Option Bool → Lok → En → Prop) : Prop := match d with
 | .lst xs => zF r e (fun kd lk e1 => k xs kd lk e1) (immL xs)
 | .lF xs => zF r e (fun kd lk e1 => k xs kd lk e1) (immL xs)
 | .tup xs => zF r e (fun kd lk e1 => k xs kd lk e1) (immL xs)
 | _ => False
def qd1 (d : D) (e : En) (k : List D → Option Bool → Lok → En → Prop) : Prop := match d with
 | .int j => -(2 ^ 62) ≤ j ∧ j < 2 ^ 62 ∧ k ((List.range j.toNat).map fun n => .int (n : Nat)) none none e
 | _ => False
def qd0 (d d2 : D) (e : En) (k : List D → Option Bool → Lok → En → Prop) : Prop := match d, d2 with
 | .int i, .int j => (-(2 ^ 62) ≤ i ∧ i < 2 ^ 62 ∧ -(2 ^ 62) ≤ j ∧ j < 2 ^ 62) ∧ k ((List.range (j - i).toNat).map fun n => .int (i + (n : Nat))) none none e
 | _, _ => False
def keyT (ds : List D) (k : List Key → Prop) : Prop := match jy ds with
 | some ks => k ks
 | none => False
def optD (o : Option D) (k : D → Prop) : Prop := match o with
 | some d => k d
 | none => False
def JT (xs : List D) (k : List Bool → Prop) : Prop := match bools xs with
 | some bs => k bs
 | none => False
def qgi (xs : List D) (k : List Int → Prop) : Prop := match intL xs with
 | some bs => k bs
 | none => False
theorem qff : varS i (some (some (.int z, m))) e Q = Q (.tmp (.int z)) e := rfl
theorem xVbl : varS i (some (some (.bl b, m))) e Q = Q (.tmp (.bl b)) e := rfl
theorem qe9 : varS i (some (some (.str s, m))) e Q = Q (.tmp (.str s)) e := rfl
theorem qfa : varS i (some (some (.non, m))) e Q = Q (.tmp .non) e := rfl
theorem qe8 : varS i (some (some (.tup xs, m))) e Q = varM i m (.tup xs) e Q := rfl
theorem qfe : varS i (some (some (.lst xs, m))) e Q = varM i m (.lst xs) e Q := rfl
theorem xVdT : varS i (some (some (.dT kvs, m))) e Q = varM i m (.dT kvs) e Q := rfl
theorem xVdK : varS i (some (some (.dK kws, m))) e Q = varM i m (.dK kws) e Q := rfl
theorem qfb : varM i .ro d e Q = Q (.ro false d) e := rfl
theorem qdt : varM i .cst d e Q = Q (.ro true d) e := rfl
theorem qds : varM i .own d e Q = Q (.sl i) e := rfl
theorem qfd : varM i .io d e Q = Q (.sl i) e := rfl
theorem qfc : varM i .lk d e Q = Q (.sl i) e := rfl
theorem xRdT : rd n (.tmp d) e k = k d := rfl
theorem qfo : rd 1 (.ro false d) e k = k d := rfl
theorem qa1 : rdS 1 (some (some (d, .own))) k = k d := rfl
theorem qcm : rdS 1 (some (some (d, .io))) k = k d := rfl
theorem qcl : rdS 1 (some (some (d, .lk))) k = k d := rfl
theorem qck : rdS 1 (some (some (d, .ro))) k = k d := rfl
theorem xElT {kk : R → Prop} : elem (.tmp d1) d kk = kk (.tmp d) := rfl
theorem xElR {kk : R → Prop} : elem (.ro c d1) d kk = kk (mkRo c d) := rfl
theorem xElS {kk : R → Prop} : elem (.sl i) d kk = (d.imm = true ∧ kk (.tmp d)) := rfl
theorem qfy : mkRo c (.int z) = .tmp (.int z) := rfl
theorem xMbl : mkRo c (.bl b) = .tmp (.bl b) := rfl
theorem qfv : mkRo c (.str s) = .tmp (.str s) := rfl
theorem qfw : mkRo c .non = .tmp .non := rfl
theorem qfu : mkRo c (.tup xs) = .ro c (.tup xs) := rfl
theorem qfx : mkRo c (.lst xs) = .ro c (.lst xs) := rfl
theorem xMdT : mkRo c (.dT kvs) = .ro c (.dT kvs) := rfl
theorem xMdK : mkRo c (.dK kws) = .ro c (.dK kws) := rfl
theorem xStT : stor (.tmp d) e k = k d := rfl
theorem xStR : stor (.ro c d) e k = rd 1 (.ro c d) e fun d => d.imm = true ∧ k d := rfl
theorem xStS : stor (.sl i) e k = rd 1 (.sl i) e fun d => d.imm = true ∧ k d := rfl
theorem xSeT {kk : List D → Prop} : W8 (.tmp (.lst ys)) e kk = kk ys := rfl
theorem xSmL {kk : List D → Prop} : qcy (.lst ys) kk = (immL ys = true ∧ kk ys) := rfl
theorem xChL {kk : Nat → List D → Md → Prop} : chgL (.sl i) e kk = chgS i e[i]? (lstM kk) := rfl
theorem xChT {kk : Nat → List (List Key × D) → Md → Prop} : chgT (.sl i) e kk = chgS i e[i]? (dTM kk) := rfl
theorem xChG {kk : Nat → D → Md → Prop} : chg (.sl i) e kk = chgS i e[i]? kk := rfl
theorem xCsO {kk : Nat → D → Md → Prop} : chgS i (some (some (d, .own))) kk = kk i d .own := rfl
theorem xCsI {kk : Nat → D → Md → Prop} : chgS i (some (some (d, .io))) kk = kk i d .io := rfl
theorem xLm {kk : Nat → List D → Md → Prop} : lstM kk i (.lst xs) m = kk i xs m := rfl
theorem xTm {kk : Nat → List (List Key × D) → Md → Prop} : dTM kk i (.dT kvs) m = kk i kvs m := rfl
theorem xReT : retR (.tmp d) e k = k d := rfl
theorem xReR : retR (.ro c d) e k = (c = false ∧ d.imm = true ∧ k d) := rfl
theorem xReS : retR (.sl i) e k = retS e[i]? k := rfl
theorem qfl : retS (some (some (d, .io))) k = (d.imm = true ∧ k d) := rfl
theorem qfk : retS (some (some (d, .lk))) k = (d.imm = true ∧ k d) := rfl
theorem qfj : retS (some (some (d, .ro))) k = (d.imm = true ∧ k d) := rfl
theorem qdC : retS (some (some (d, .cst))) k = (d.imm = true ∧ k d) := rfl
theorem qdB : setOk e i = setS e[i]? := rfl
theorem xSn : setS (some none) = true := rfl
theorem qdz : setS (some (some (d, .own))) = true := rfl
theorem qfi : setS (some (some (d, .ro))) = true := rfl
theorem qdA : setS (some (some (d, .cst))) = true := rfl
theorem xGnT : gN i (.tmp d) e nx = (setS e[i]? = true ∧ nx (e.set i (some (d, .own)))) := rfl
theorem xGnR : gN i (.ro c d) e nx = (setS e[i]? = true ∧ nx (e.set i (some (d, roMd c)))) := rfl
theorem xGnS : gN i (.sl j) e nx = (setS e[i]? = true ∧ gNS i e[j]? e nx) := rfl
theorem xGns : gNS i (some (some (d, m))) e nx = (d.imm = true ∧ nx (e.set i (some (d, .own)))) := rfl
theorem xRmF : roMd false = .ro := rfl
theorem xRmT : roMd true = .cst := rfl
theorem xMkN : mkI none d = .tmp d := rfl
theorem xMkS : mkI (some c) d = mkRo c d := rfl
theorem xGT {gs : XGs} : gT n gs r e nx = rd 2 r e (tupT n gs r e nx) := rfl
theorem xTT {gs : XGs} : tupT n gs r e nx (.tup xs) = (xs.length = n ∧ kdOf r xs fun kd => gs kd xs e nx) := rfl
theorem xKdT {kk : Option Bool → Prop} : kdOf (.tmp d) xs kk = kk none := rfl
theorem xKdR {kk : Option Bool → Prop} : kdOf (.ro c d) xs kk = kk (some c) := rfl
theorem xKdS {kk : Option Bool → Prop} : kdOf (.sl i) xs kk = (immL xs = true ∧ kk none) := rfl
theorem xGsN {kd : Option Bool} : Wj kd [] e nx = nx e := rfl
theorem xGsC {kd : Option Bool} {g : XG} {gs : XGs} : yR g gs kd (d :: xs) e nx = g (mkI kd d) e fun e => gs kd xs e nx := rfl
theorem xThN : thaw none e nx = nx e := rfl
theorem xThS : thaw (some (i, m)) e nx = thS i m e[i]? e nx := rfl
theorem xTs : thS i m (some (some (d, .lk))) e nx = nx (e.set i (some (d, m))) := rfl
theorem xLoT {kk : Option Bool → Lok → En → Prop} : zF (.tmp d) e kk b = (b = true ∧ kk none none e) := rfl
theorem xLoR {kk : Option Bool → Lok → En → Prop} : zF (.ro c d) e kk b = kk (some c) none e := rfl
theorem xLoS {kk : Option Bool → Lok → En → Prop} : zF (.sl i) e kk b = qez i e[i]? e kk b := rfl
theorem xLos {kk : Option Bool → Lok → En → Prop} : qez i (some (some (d, m))) e kk b = (b = true ∧ kk none (some (i, m)) (e.set i (some (d, .lk)))) := rfl
theorem xSeq {u : XE} {kk : List D → Option Bool → Lok → En → Prop} : iSeq u e kk = u e fun r e => rd 2 r e fun d => seqS d r e kk := rfl
theorem xSqL {kk : List D → Option Bool → Lok → En → Prop} : seqS (.lst xs) r e kk = zF r e (fun kd lk e1 => kk xs kd lk e1) (immL xs) := rfl
theorem xSqT {kk : List D → Option Bool → Lok → En → Prop} : seqS (.tup xs) r e kk = zF r e (fun kd lk e1 => kk xs kd lk e1) (immL xs) := rfl
theorem xR1 {u : XE} {kk : List D → Option Bool → Lok → En → Prop} : jJ u e kk = u e fun r e => rd 2 r e fun d => qd1 d e kk := rfl
theorem xR1i {kk : List D → Option Bool → Lok → En → Prop} : qd1 (.int z) e kk = (-(2 ^ 62) ≤ z ∧ z < 2 ^ 62 ∧ kk ((List.range z.toNat).map fun n => .int (n : Nat)) none none e) := rfl
theorem xR2 {u v : XE} {kk : List D → Option Bool → Lok → En → Prop} : qc5 u v e kk = u e fun r e => v e fun r2 e2 => rd 2 r e2 fun d => rd 2 r2 e2 fun d2 => qd0 d d2 e2 kk := rfl
theorem xR2i {w : Int} {kk : List D → Option Bool → Lok → En → Prop} : qd0 (.int z) (.int w) e kk = ((-(2 ^ 62) ≤ z ∧ z < 2 ^ 62 ∧ -(2 ^ 62) ≤ w ∧ w < 2 ^ 62) ∧ kk ((List.range (w - z).toNat).map fun n => .int (z + (n : Nat))) none none e) := rfl
theorem qfQ {w : Int} : wH (.int z) (.int w) k = k (.int (z + w)) := rfl
theorem qfO : wH (.str s) (.str t) k = (s.length + t.length ≤ sizeLine ∧ k (.str (s ++ t))) := rfl
theorem qfP : wH (.lst xs) (.lst ys) k = (immL xs = true ∧ immL ys = true ∧ xs.length + ys.length ≤ sizeLine ∧ k (.lst (xs ++ ys))) := rfl
theorem qfN : wH (.tup xs) (.tup ys) k = (immL xs = true ∧ immL ys = true ∧ xs.length + ys.length ≤ sizeLine ∧ k (.tup (xs ++ ys))) := rfl
theorem qft {w : Int} : QL (.int z) (.int w) k = (IntMulOk z w ∧ k (.int (z * w))) := rfl
theorem qfs {w : Int} : QL (.lst xs) (.int w) k = (immL xs = true ∧ -(2 ^ 63) ≤ w ∧ w < 2 ^ 63 ∧ xs.length * w.toNat ≤ sizeLine ∧ k (.lst (List.replicate w.toNat xs).flatten)) := rfl
theorem xOpI {g : Int → Int → D} {w : Int} : Zd g (.int z) (.int w) k = k (g z w) := rfl
theorem xOpC {C : Int → Int → Prop} {g : Int → Int → D} {w : Int} : vX C g (.int z) (.int w) k = (C z w ∧ k (g z w)) := rfl
theorem xLtI {w : Int} : opLt (.int z) (.int w) k = k (.bl (decide (z < w))) := rfl
theorem qdy {kk : Bool → Prop} : tru (.int z) kk = kk (z != 0) := rfl
theorem qfh {kk : Bool → Prop} : tru (.bl b) kk = kk (b) := rfl
theorem qdx {kk : Bool → Prop} : tru (.lst xs) kk = kk (!xs.isEmpty) := rfl
theorem qdu {kk : Bool → Prop} : tru (.tup xs) kk = kk (!xs.isEmpty) := rfl
theorem qfg {kk : Bool → Prop} : tru (.dK kws) kk = kk (!kws.isEmpty) := rfl
theorem qdw {kk : Bool → Prop} : tru .non kk = kk false := rfl
theorem qdv {kk : Bool → Prop} : tru (.str s) kk = (s.length ≤ sizeLine ∧ kk ((s.length : Int) != 0)) := rfl
theorem qdI : opIs (.int z) .non k = k (.bl false) := rfl
theorem qdN : jD (.int z) .non k = k (.bl true) := rfl
theorem qfD : opIs (.bl b) .non k = k (.bl false) := rfl
theorem qfK : jD (.bl b) .non k = k (.bl true) := rfl
theorem qdF : opIs (.str s) .non k = k (.bl false) := rfl
theorem qdK : jD (.str s) .non k = k (.bl true) := rfl
theorem qdE : opIs (.tup xs) .non k = k (.bl false) := rfl
theorem qdJ : jD (.tup xs) .non k = k (.bl true) := rfl
theorem qdH : opIs (.lst xs) .non k = k (.bl false) := rfl
theorem qdM : jD (.lst xs) .non k = k (.bl true) := rfl
theorem qfB : opIs (.dT kvs) .non k = k (.bl false) := rfl
theorem qfI : jD (.dT kvs) .non k = k (.bl true) := rfl
theorem qfC : opIs (.dK kws) .non k = k (.bl false) := rfl
theorem qfJ : jD (.dK kws) .non k = k (.bl true) := rfl
theorem qdG : opIs .non .non k = k (.bl true) := rfl
theorem qdL : jD .non .non k = k (.bl false) := rfl
theorem xIsB : opIs (.bl b) (.bl c) k = k (.bl (decide (b = c))) := rfl
theorem xInB : jD (.bl b) (.bl c) k = k (.bl (!decide (b = c))) := rfl
theorem xInT : v7 b (.tup xs) (.dT kvs) k = keyT xs fun ks => k (.bl (b != hasT kvs ks)) := rfl
theorem xInL : v7 b d (.lst xs) k = (eqOk d = true ∧ eqOk (.lst xs) = true ∧ k (.bl (b != findIn d xs))) := rfl
theorem qfL : v7 b d (.tup xs) k = (eqOk d = true ∧ eqOk (.tup xs) = true ∧ k (.bl (b != findIn d xs))) := rfl
theorem xInS : v7 b (.str t) (.str s) k = k (.bl (b != !(Builtin.Str.occurrences s t 0 s.length 1).isEmpty)) := rfl
theorem xIxL : ixd (.lst xs) (.int z) k = optD (atI xs z) k := rfl
theorem xIxT : ixd (.tup xs) (.int z) k = optD (atI xs z) k := rfl
theorem xIxD : ixd (.dT kvs) (.tup xs) k = keyT xs fun ks => optD (qcY kvs ks) k := rfl
theorem xOp : optD (some d) k = k d := rfl
theorem xLnL : bLen (.lst xs) k = k (.int xs.length) := rfl
theorem xLnT : bLen (.tup xs) k = k (.int xs.length) := rfl
theorem xLnS : bLen (.str s) k = (s.length ≤ sizeLine ∧ k (.int s.length)) := rfl
theorem xLnD : bLen (.dT kvs) k = k (.int kvs.length) := rfl
theorem xLnK : bLen (.dK kws) k = k (.int kws.length) := rfl
theorem xAbs : bAbs (.int z) k = k (.int (if z < 0 then -z else z)) := rfl
theorem qfF : bInt (.int z) k = k (.int z) := rfl
theorem qfH : bInt (.bl b) k = k (.int (if b then 1 else 0)) := rfl
theorem xMin {w : Int} : U5 (.int z) (.int w) k = k (.int (if w < z then w else z)) := rfl
theorem xMax {w : Int} : qgq (.int z) (.int w) k = k (.int (if w > z then w else z)) := rfl
theorem xTuL : vY (.lst xs) k = (immL xs = true ∧ k (.tup xs)) := rfl
theorem xTuT : vY (.tup xs) k = (immL xs = true ∧ k (.tup xs)) := rfl
theorem xLiL : qe1 (.lst xs) k = (immL xs = true ∧ k (.lst xs)) := rfl
theorem xLiT : qe1 (.tup xs) k = (immL xs = true ∧ k (.lst xs)) := rfl
theorem xAll : bAll (.lst xs) k = JT xs fun bs => k (.bl (bs.all id)) := rfl
theorem xAny : bAny (.lst xs) k = JT xs fun bs => k (.bl (bs.any id)) := rfl
theorem xSum : bSum (.lst xs) k = qgi xs fun bs => k (.int bs.sum) := rfl
theorem xOp1 {h : D → (D → Prop) → Prop} : op1 h [d] k = h d k := rfl
theorem xOp2 {h : D → D → (D → Prop) → Prop} : op2 h [d, d1] k = h d d1 k := rfl
theorem xIsl : D.isLst (.lst xs) = true := rfl
theorem xImI : D.imm (.int z) = true := by rw [D.imm]
theorem xImB : D.imm (.bl b) = true := by rw [D.imm]
theorem xImS : D.imm (.str s) = true := by rw [D.imm]
theorem xImN : D.imm .non = true := by rw [D.imm]
theorem xImT : D.imm (.tup xs) = immL xs := by rw [D.imm]
theorem xImC : immL (d :: xs) = (d.imm && immL xs) := by rw [immL]
theorem xImE : immL [] = true := by rw [immL]
theorem xSlN {kk : List D → Prop} : jh [] e kk = kk [] := rfl
theorem xSlC {rs : List R} {kk : List D → Prop} : jh (r :: rs) e kk = stor r e fun d => jh rs e fun ds => kk (d :: ds) := rfl
theorem xRaN {kk : List D → Prop} : jo n [] e kk = kk [] := rfl
theorem xRaC {rs : List R} {kk : List D → Prop} : jo n (r :: rs) e kk = rd n r e fun d => jo n rs e fun ds => kk (d :: ds) := rfl
def putM (di d : D) (e : En) (nx : En → Prop) (i : Nat) (dd : D) (m : Md) : Prop := match dd with
 | .lst xs => match di with
   | .int j => match ixN xs.length j with
     | some n => nx (e.set i (some (.lst (xs.set n d), m)))
     | none => False
   | _ => False
 | .dT kvs => match di with
   | .tup ks => match jy ks with
     | some k => kvs.length < sizeLine ∧ nx (e.set i (some (.dT (putD k d kvs), m)))
     | none => False
   | _ => False
 | _ => False
def optN (o : Option Nat) (k : Nat → Prop) : Prop := match o with
 | some d => k d
 | none => False
def optL (o : Option (List (List Int))) (k : List (List Int) → Prop) : Prop := match o with
 | some d => k d
 | none => False
def okIo (x : Option (Option (D × Md))) : Bool := match x with
 | some (some (_, .own)) => true
 | some (some (_, .io)) => true
 | _ => false
theorem qfE {kk : Int → Prop} : intS (some (some (.int z, m))) kk = kk z := rfl
theorem qfG {kk : Int → Prop} : intD (.int z) kk = kk z := rfl
theorem xBlD {kk : Bool → Prop} : blD (.bl b) kk = kk b := rfl
theorem xPut : putR (.sl i) d1 d e nx = chgS i e[i]? (putM d1 d e nx) := rfl
theorem qfq : putM (.int z) d e nx i (.lst xs) m = optN (ixN xs.length z) fun n => nx (e.set i (some (.lst (xs.set n d), m))) := rfl
theorem qfp : putM (.tup ys) d e nx i (.dT kvs) m = keyT ys fun ks => kvs.length < sizeLine ∧ nx (e.set i (some (.dT (putD ks d kvs), m))) := rfl
theorem xOpN {kk : Nat → Prop} : optN (some n) kk = kk n := rfl
theorem xSoL : xP (.lst xs) k = optL (Wi xs) fun l => k (.lst ((sortI l).map tupI)) := rfl
theorem xSoT : xP (.tup xs) k = optL (Wi xs) fun l => k (.lst ((sortI l).map tupI)) := rfl
theorem xSoD : xP (.dT kvs) k = optL (qam kvs) fun l => k (.lst ((sortI l).map tupI)) := rfl
theorem xAt0 {l : List D} : atI (d :: l) 0 = some d := atI_nat (j := 0) rfl
theorem xAt1 {l : List D} : atI (d :: d1 :: l) 1 = some d1 := atI_nat (j := 1) rfl
theorem xAt2 {l : List D} : atI (d :: d1 :: d2 :: l) 2 = some d2 := atI_nat (j := 2) rfl
theorem xAt3 {l : List D} {d3 : D} : atI (d :: d1 :: d2 :: d3 :: l) 3 = some d3 := atI_nat (j := 3) rfl
theorem xZiR {kk : List D → Option Bool → Lok → En → Prop} : zipS (.ro b d1) (.ro c d2) (.lst xs) (.lst ys) e kk = kk (zipL xs ys) (some (b || c)) none e := rfl
theorem xZiT {kk : List D → Option Bool → Lok → En → Prop} : zipS (.ro b d1) (.ro c d2) (.tup xs) (.tup ys) e kk = kk (zipL xs ys) (some (b || c)) none e := rfl
theorem qfr : Wg .io (.sl i) e = okIo e[i]? := rfl
theorem qdD : Wg .io (.tmp d) e = true := rfl
theorem Vm : isiB "int" .non = false := by simp [isiB, D.ty]
theorem qa0 : isiB "int" (.bl b) = true := by simp [isiB, D.ty]
theorem Vo : isiB "int" (.int z) = true := by simp [isiB, D.ty]
theorem Vl : isiB "int" (.str s) = false := by simp [isiB, D.ty]
theorem Vk : isiB "int" (.tup xs) = false := by simp [isiB, D.ty]
theorem Vn : isiB "int" (.lst xs) = false := by simp [isiB, D.ty]
theorem qaY : isiB "int" (.dT kvs) = false := by simp [isiB, D.ty]
theorem qaZ : isiB "int" (.dK kws) = false := by simp [isiB, D.ty]
theorem Uk : isiB "bool" .non = false := by simp [isiB, D.ty]
theorem Vr : isiB "bool" (.bl b) = true := by simp [isiB, D.ty]
theorem Um : isiB "bool" (.int z) = false := by simp [isiB, D.ty]
theorem Uj : isiB "bool" (.str s) = false := by simp [isiB, D.ty]
theorem Ui : isiB "bool" (.tup xs) = false := by simp [isiB, D.ty]
theorem Ul : isiB "bool" (.lst xs) = false := by simp [isiB, D.ty]
theorem Vp : isiB "bool" (.dT kvs) = false := by simp [isiB, D.ty]
theorem Vq : isiB "bool" (.dK kws) = false := by simp [isiB, D.ty]
theorem Ve : isiB "str" .non = false := by simp [isiB, D.ty]
theorem qaX : isiB "str" (.bl b) = false := by simp [isiB, D.ty]
theorem Vg : isiB "str" (.int z) = false := by simp [isiB, D.ty]
theorem Vd : isiB "str" (.str s) = true := by simp [isiB, D.ty]
theorem Vc : isiB "str" (.tup xs) = false := by simp [isiB, D.ty]
theorem Vf : isiB "str" (.lst xs) = false := by simp [isiB, D.ty]
theorem qaV : isiB "str" (.dT kvs) = false := by simp [isiB, D.ty]
theorem qaW : isiB "str" (.dK kws) = false := by simp [isiB, D.ty]
theorem YB : isiB "tuple" .non = false := by simp [isiB, D.ty]
theorem Ub : isiB "tuple" (.bl b) = false := by simp [isiB, D.ty]
theorem YD : isiB "tuple" (.int z) = false := by simp [isiB, D.ty]
theorem Yz : isiB "tuple" (.str s) = false := by simp [isiB, D.ty]
theorem Yy : isiB "tuple" (.tup xs) = true := by simp [isiB, D.ty]
theorem YC : isiB "tuple" (.lst xs) = false := by simp [isiB, D.ty]
theorem J9 : isiB "tuple" (.dT kvs) = false := by simp [isiB, D.ty]
theorem Ua : isiB "tuple" (.dK kws) = false := by simp [isiB, D.ty]
theorem Ue : isiB "list" .non = false := by simp [isiB, D.ty]
theorem Vj : isiB "list" (.bl b) = false := by simp [isiB, D.ty]
theorem Uh : isiB "list" (.int z) = false := by simp [isiB, D.ty]
theorem Ud : isiB "list" (.str s) = false := by simp [isiB, D.ty]
theorem Uc : isiB "list" (.tup xs) = false := by simp [isiB, D.ty]
theorem Ug : isiB "list" (.lst xs) = true := by simp [isiB, D.ty]
theorem Vh : isiB "list" (.dT kvs) = false := by simp [isiB, D.ty]
theorem Vi : isiB "list" (.dK kws) = false := by simp [isiB, D.ty]
theorem qdP : eqOk (.int z) = true := rfl
theorem qfM : eqOk (.bl b) = true := rfl
theorem qdO : eqOk .non = true := rfl
theorem xDqI {w : Int} : deq (.int z) (.int w) = decide (z = w) := by unfold deq; rw [D.py, D.py, PyData.eqv]; rfl
theorem xDqB : deq (.bl b) (.bl c) = decide (b = c) := by unfold deq; cases b <;> cases c <;> simp [D.py, PyData.eqv]
theorem xDqS : deq (.str s) (.str t) = (s == t) := by unfold deq; rw [D.py, D.py, PyData.eqv]
theorem xKe2 {w : Int} {kk : List Key → Prop} : keyT [.int z, .int w] kk = kk [.inl z, .inl w] := rfl
theorem xKe3 {w x3 : Int} {kk : List Key → Prop} : keyT [.int z, .int w, .int x3] kk = kk [.inl z, .inl w, .inl x3] := rfl
theorem xKe4 {w x3 x4 : Int} {kk : List Key → Prop} : keyT [.int z, .int w, .int x3, .int x4] kk = kk [.inl z, .inl w, .inl x3, .inl x4] := rfl
theorem qfA {w x3 : Int} {kk : List Key → Prop} : keyT [.str s, .int w, .int x3] kk = kk [.inr s, .inl w, .inl x3] := rfl
theorem qfz {w x3 x4 : Int} {kk : List Key → Prop} : keyT [.str s, .int w, .int x3, .int x4] kk = kk [.inr s, .inl w, .inl x3, .inl x4] := rfl
theorem xOkA : yq [] [] e = true := rfl
theorem xOkB {ms : List Md} {rs : List R} : yq (m :: ms) (r :: rs) e = (Wg m r e && yq ms rs e) := rfl
theorem xOkC : Wg .cst r e = true := rfl
theorem xIoO : okIo (some (some (d, .own))) = true := rfl
theorem xIoI : okIo (some (some (d, .io))) = true := rfl
end
end BX
namespace TX
open PySem PySem.Spec PyProof.Rows L2 BX
section
variable {α β γ δ κ : Type}
def eN (_ : Unit) : D := .non
def eA (d : D) : D := d
def eT1 (f : α → D) (p : α) : D := .tup [f p]
def eT2 (f : α → D) (g : β → D) (p : α × β) : D := .tup [f p.1, g p.2]
def eT3 (f : α → D) (g : β → D) (h : γ → D) (p : α × β × γ) : D := .tup [f p.1, g p.2.1, h p.2.2]
def eT4 (f : α → D) (g : β → D) (h : γ → D) (i : δ → D) (p : α × β × γ × δ) : D := .tup [f p.1, g p.2.1, h p.2.2.1, i p.2.2.2]
def eL (f : α → D) (l : List α) : D := .lst (l.map f)
def eV (f : α → D) (l : List α) : D := .tup (l.map f)
def eO (f : α → D) : Option α → D
 | none => .non
 | some a => f a
def eP (t : Int × Int) : D := .lst [.int t.1, .int t.2]
class Im (f : α → D) : Prop where
 im : ∀ a, (f a).imm = true
instance : Im D.int := ⟨fun _ => by rw [D.imm]⟩
instance : Im D.bl := ⟨fun _ => by rw [D.imm]⟩
instance : Im D.str := ⟨fun _ => by rw [D.imm]⟩
instance : Im eN := ⟨fun _ => by rw [eN, D.imm]⟩
instance {f : α → D} [hf : Im f] : Im (eT1 f) := ⟨fun p => by simp [eT1, D.imm, immL, hf.im]⟩
instance {f : α → D} {g : β → D} [hf : Im f] [hg : Im g] : Im (eT2 f g) := ⟨fun p => by simp [eT2, D.imm, immL, hf.im, hg.im]⟩
instance {f : α → D} {g : β → D} {h : γ → D} [hf : Im f] [hg : Im g] [hh : Im h] : Im (eT3 f g h) := ⟨fun p => by simp [eT3, D.imm, immL, hf.im, hg.im, hh.im]⟩
instance {f : α → D} {g : β → D} {h : γ → D} {i : δ → D} [hf : Im f] [hg : Im g] [hh : Im h] [hi : Im i] : Im (eT4 f g h i) := ⟨fun p => by simp [eT4, D.imm, immL, hf.im, hg.im, hh.im, hi.im]⟩
theorem imL {f : α → D} [hf : Im f] (l : List α) : immL (l.map f) = true := qbs hf.im l
instance {f : α → D} [hf : Im f] : Im (eV f) := ⟨fun p => by rw [eV, D.imm]; exact imL p⟩
instance {f : α → D} [hf : Im f] : Im (eO f) := ⟨fun p => by cases p with
 | none => rw [eO, D.imm]
 | some a => rw [eO]; exact hf.im a⟩
class Eqd [DecidableEq α] (f : α → D) (n : outParam Nat) : Prop where
 lay : ∀ a, PyData.canLay0 (f a).py = true ∧ PyData.depth (f a).py ≤ n
 eq : ∀ a b, PyData.eqv (f a).py (f b).py = decide (a = b)
end
abbrev aR (Q : R → En → Prop) (r : R) (e : En) : Prop := Q r e
abbrev aB (Q : Bool → En → Prop) (b : Bool) (e : En) : Prop := Q b e
abbrev aL (Q : List R → En → Prop) (rs : List R) (e : En) : Prop := Q rs e
abbrev aN (nx : En → Prop) (e : En) : Prop := nx e
abbrev aD (rt : D → En → Prop) (d : D) (e : En) : Prop := rt d e
abbrev aI (k : List D → Option Bool → Lok → En → Prop) (ds : List D) (kd : Option Bool) (lk : Lok) (e : En) : Prop := k ds kd lk e
abbrev aK (k : List D → En → Prop) (ds : List D) (e : En) : Prop := k ds e
def D.big : D → Bool
 | .int _ => false
 | .bl _ => false
 | .str _ => false
 | .non => false
 | .dF _ => false
 | _ => true
inductive Rv (e : En) : Nat → R → D → Prop
 | tmp {L : Nat} {d : D} : Rv e L (.tmp d) d
 | ro {L : Nat} {d : D} : Rv e (L + 1) (.ro false d) d
 | cst {L : Nat} {d : D} : Rv e (L + 2) (.ro true d) d
 | sl {L : Nat} {i : Nat} {d : D} {m : Md} : e[i]? = some (some (d, m)) → m.okL L = true → Rv e L (.sl i) d
section
variable {e : En} {L : Nat} {r r1 r2 : R} {d d1 d2 : D}
theorem Rv.rd (h : Rv e L r d) {k : D → Prop} (q : k d) : rd L r e k := by
 cases h with
 | tmp => exact q
 | ro => exact q
 | cst => exact q
 | sl h hm => unfold BX.rd R.data; simp only [h, hm]; exact q
theorem qd9 {m : Md} {L : Nat} (h : m.okL L = true) : m.okL (L + 1) = true := by
 cases m <;> first | rfl | (cases L with
  | zero => first | exact h | cases h | rfl
  | succ n => cases n with
    | zero => first | exact h | cases h | rfl
    | succ n => rfl)
theorem Rv.up (h : Rv e 1 r d) : Rv e 2 r d := by
 cases h with
 | tmp => exact .tmp
 | ro => exact .ro
 | sl h hm => exact .sl h (qd9 hm)
def St (e : En) (r : R) (d : D) : Prop := ∀ k : D → Prop, k d → stor r e k
theorem St.tmp : St e (.tmp d) d := fun k q => q
theorem St.of (h : Rv e 1 r d) (hi : d.imm = true) : St e r d := fun k q => by
 cases r with
 | tmp x => cases h; exact q
 | ro c x => exact h.rd ⟨hi, q⟩
 | sl i => exact h.rd ⟨hi, q⟩
inductive StL (e : En) : List R → List D → Prop
 | nil : StL e [] []
 | cons {r : R} {d : D} {rs : List R} {ds : List D} : St e r d → StL e rs ds → StL e (r :: rs) (d :: ds)
theorem StL.go : ∀ {rs : List R} {ds : List D}, StL e rs ds → ∀ {k : List D → Prop}, k ds → jh rs e k
 | _, _, .nil, k, q => q
 | _, _, .cons h t, k, q => h _ (t.go (k := fun ds => k (_ :: ds)) q)
inductive RvL (e : En) (L : Nat) : List R → List D → Prop
 | nil : RvL e L [] []
 | cons {r : R} {d : D} {rs : List R} {ds : List D} : Rv e L r d → RvL e L rs ds → RvL e L (r :: rs) (d :: ds)
theorem RvL.go : ∀ {rs : List R} {ds : List D}, RvL e L rs ds → ∀ {k : List D → Prop}, k ds → jo L rs e k
 | _, _, .nil, k, q => q
 | _, _, .cons h t, k, q => h.rd (t.go (k := fun ds => k (_ :: ds)) q)
end
end TX
namespace TX
open PySem PySem.Spec PyProof.Rows L2 BX
section
variable {e e1 e' : En} {L : Nat} {r r1 r2 : R} {d d1 d2 d3 : D} {Q : R → En → Prop} {QB : Bool → En → Prop} {QA : List R → En → Prop} {i j : Nat} {α β : Type}
def vr (e : En) (i : Nat) : Option R := match e[i]? with
 | some (some (.int z, _)) => some (.tmp (.int z))
 | some (some (.bl z, _)) => some (.tmp (.bl z))
 | some (some (.str z, _)) => some (.tmp (.str z))
 | some (some (.non, _)) => some (.tmp .non)
 | some (some (.dF kvs, .own)) => some (.ro true (.dT kvs))
 | some (some (d, .ro)) => some (.ro false d)
 | some (some (d, .cst)) => some (.ro true d)
 | some (some (_, .own)) => some (.sl i)
 | some (some (_, .io)) => some (.sl i)
 | some (some (_, .lk)) => some (.sl i)
 | _ => none
theorem qu (h0 : vr e i = some r) (q : aR Q r e) : dVar i e Q := by
 unfold vr at h0
 unfold dVar
 cases he : e[i]? with
 | none => rw [he] at h0; cases h0
 | some x => cases x with
   | none => rw [he] at h0; cases h0
   | some p =>
     obtain ⟨d, m⟩ := p
     rw [he] at h0
     cases d <;> first | (cases h0; exact q) | (cases m <;> (cases h0; exact q))
def D.isF : D → Bool
 | .dF _ => true
 | _ => false
theorem qeJ {f : α → D} {o : Option α} (h : ∀ x, D.isF (f x) = false) : D.isF (eO f o) = false := by
 cases o with
 | none => rfl
 | some x => exact h x
theorem qcc {m : Md} (h0 : e[i]? = some (some (d, m))) (hm : m.okL 1 = true) (q : ∀ r, Rv e 1 r d → aR Q r e) (hd : D.isF d = false := by first | rfl | exact qeJ fun _ => rfl) : dVar i e Q := by
 have hs : Rv e 1 (.sl i) d := .sl h0 hm
 unfold dVar
 rw [h0]
 cases d <;> first | (cases hd; done) | exact q _ .tmp | (cases m <;> first | exact q _ .ro | (cases hm; done) | exact q _ hs)
theorem c_C (q : aR Q (.tmp d) e) : dC d e Q := q
def OpTo (op : OP) (d1 d2 d : D) : Prop := ∀ k : D → Prop, k d → op d1 d2 k
theorem qQ {op : OP} {t u : XE} (q : t e fun r1 e1 => u e1 fun r2 e2 => rd L r1 e2 fun d1 => rd L r2 e2 fun d2 => op d1 d2 fun d => aR Q (.tmp d) e2) : dBin L op t u e Q := q
theorem qP {op : OP} (h1 : Rv e L r1 d1) (h2 : Rv e L r2 d2) (ho : OpTo op d1 d2 d) (q : aR Q (.tmp d) e) : rd L r1 e fun d1 => rd L r2 e fun d2 => op d1 d2 fun d => aR Q (.tmp d) e := h1.rd (h2.rd (ho (fun d => aR Q (.tmp d) e) q))
section
variable {a b : Int}
theorem xK : OpTo wH (.int a) (.int b) (.int (a + b)) := fun k q => q
theorem V2 : OpTo qbi (.int a) (.int b) (.int (a - b)) := fun k q => q
theorem Jf : OpTo opLe (.int a) (.int b) (.bl (decide (a ≤ b))) := fun k q => q
theorem Z3 : OpTo opGt (.int a) (.int b) (.bl (decide (b < a))) := fun k q => q
end
theorem xW {a b : Str} (h : a.length + b.length ≤ sizeLine) : OpTo wH (.str a) (.str b) (.str (a ++ b)) := fun k q => ⟨h, q⟩
theorem yh {f : α → D} [Im f] {a b : List α} (h : a.length + b.length ≤ sizeLine) : OpTo wH (eL f a) (eL f b) (eL f (a ++ b)) := fun k q => ⟨imL a, imL b, by simpa using h, by rw [← List.map_append]; exact q⟩
class Ints (f : α → D) (tl : outParam (α → List Int)) : Prop where
 isx : ∀ a, f a = .tup ((tl a).map .int)
 ne : ∀ a, tl a ≠ []
def tl2 (c : Int × Int) : List Int := [c.1, c.2]
def tl3 (c : Int × Int × Int) : List Int := [c.1, c.2.1, c.2.2]
def tl4 (c : Int × Int × Int × Int) : List Int := [c.1, c.2.1, c.2.2.1, c.2.2.2]
instance : Ints (eT2 D.int D.int) tl2 := ⟨fun _ => rfl, fun _ => by simp [tl2]⟩
instance : Ints (eT3 D.int D.int D.int) tl3 := ⟨fun _ => rfl, fun _ => by simp [tl3]⟩
instance : Ints (eT4 D.int D.int D.int D.int) tl4 := ⟨fun _ => rfl, fun _ => by simp [tl4]⟩
theorem Yb : ∀ l : List Int, intL (l.map .int) = some l
 | [] => rfl
 | i :: l => by rw [List.map_cons, BX.intL, Yb l]; rfl
section
variable [DecidableEq α] {f : α → D} {n : Nat} [hf : Eqd f n] {a b : α}
theorem Eqd.ok (hn : n ≤ 64) (a : α) : eqOk (f a) = true := by
 have := hf.lay a
 unfold eqOk SeqAt.shaped
 simp only [this.1, Bool.true_and, decide_eq_true_eq]
 omega
theorem op_eq (hn : n ≤ 64 := by decide) : OpTo opEq (f a) (f b) (.bl (decide (a = b))) := fun k q => ⟨Eqd.ok hn a, Eqd.ok hn b, by rw [deq, hf.eq]; exact q⟩
theorem op_ne (hn : n ≤ 64 := by decide) : OpTo opNe (f a) (f b) (.bl (!decide (a = b))) := fun k q => ⟨Eqd.ok hn a, Eqd.ok hn b, by rw [deq, hf.eq]; exact q⟩
end
end
end TX
namespace TX
open PySem PySem.Spec PyProof.Rows L2 BX
section
variable {α β γ δ κ : Type}
instance : Eqd D.int 0 := ⟨fun a => by simp [D.py, PyData.canLay0, PyData.depth], fun a b => by simp only [D.py, PyData.eqv]; by_cases h : a = b <;> simp [h]⟩
instance : Eqd D.bl 0 := ⟨fun a => by simp [D.py, PyData.canLay0, PyData.depth], fun a b => by cases a <;> cases b <;> simp [D.py, PyData.eqv]⟩
section
variable [DecidableEq α] [DecidableEq β] [DecidableEq γ] [DecidableEq δ] {f : α → D} {g : β → D} {h : γ → D} {i : δ → D} {n m k l : Nat}
instance [hf : Eqd f n] [hg : Eqd g m] : Eqd (eT2 f g) (n + m + 1) := ⟨fun a => by
 have h1 := hf.lay a.1; have h2 := hg.lay a.2
 simp only [eT2, D.py, pyL, PyData.canLay0, PyData.canLayAll0, PyData.depth, PyData.depthAll, h1.1, h2.1, Bool.and_self, Bool.true_and, true_and]
 omega, fun a b => by
 simp only [eT2, D.py, pyL, PyData.eqv, PyData.eqvAll, hf.eq, hg.eq, Bool.and_true, Prod.ext_iff, Bool.decide_and]⟩
instance [hf : Eqd f n] [hg : Eqd g m] [hh : Eqd h k] : Eqd (eT3 f g h) (n + m + k + 1) := ⟨fun a => by
 have h1 := hf.lay a.1; have h2 := hg.lay a.2.1; have h3 := hh.lay a.2.2
 simp only [eT3, D.py, pyL, PyData.canLay0, PyData.canLayAll0, PyData.depth, PyData.depthAll, h1.1, h2.1, h3.1, Bool.and_self, Bool.true_and, true_and]
 omega, fun a b => by
 simp only [eT3, D.py, pyL, PyData.eqv, PyData.eqvAll, hf.eq, hg.eq, hh.eq, Bool.and_true, Prod.ext_iff, Bool.decide_and]⟩
instance [hf : Eqd f n] [hg : Eqd g m] [hh : Eqd h k] [hi : Eqd i l] : Eqd (eT4 f g h i) (n + m + k + l + 1) := ⟨fun a => by
 have h1 := hf.lay a.1; have h2 := hg.lay a.2.1; have h3 := hh.lay a.2.2.1; have h4 := hi.lay a.2.2.2
 simp only [eT4, D.py, pyL, PyData.canLay0, PyData.canLayAll0, PyData.depth, PyData.depthAll, h1.1, h2.1, h3.1, h4.1, Bool.and_self, Bool.true_and, true_and]
 omega, fun a b => by
 simp only [eT4, D.py, pyL, PyData.eqv, PyData.eqvAll, hf.eq, hg.eq, hh.eq, hi.eq, Bool.and_true, Prod.ext_iff, Bool.decide_and]⟩
theorem Xm [hf : Eqd f n] : ∀ l : List α, PyData.canLayAll0 (pyL (l.map f)) = true ∧ PyData.depthAll (pyL (l.map f)) ≤ n
 | [] => by simp [pyL, PyData.canLayAll0, PyData.depthAll]
 | a :: l => by
   have h1 := hf.lay a; have h2 := Xm l
   simp only [List.map_cons, pyL, PyData.canLayAll0, PyData.depthAll, h1.1, h2.1, Bool.and_self, true_and]
   omega
theorem qax [hf : Eqd f n] : ∀ l m : List α, PyData.eqvAll (pyL (l.map f)) (pyL (m.map f)) = decide (l = m)
 | [], [] => by simp [pyL, PyData.eqvAll]
 | [], b :: m => by simp [pyL, PyData.eqvAll]
 | a :: l, [] => by simp [pyL, PyData.eqvAll]
 | a :: l, b :: m => by
   have := qax l m
   simp only [List.map_cons, pyL, PyData.eqvAll, hf.eq, this, List.cons.injEq, Bool.decide_and]
instance [hf : Eqd f n] : Eqd (eL f) (n + 1) := ⟨fun a => by
 have := Xm (f := f) a
 simp only [eL, D.py, PyData.canLay0, PyData.depth, this.1, true_and]; omega, fun a b => by simp only [eL, D.py, PyData.eqv, qax]⟩
instance [hf : Eqd f n] : Eqd (eV f) (n + 1) := ⟨fun a => by
 have := Xm (f := f) a
 simp only [eV, D.py, PyData.canLay0, PyData.depth, this.1, true_and]; omega, fun a b => by simp only [eV, D.py, PyData.eqv, qax]⟩
variable {e : En}
end
class Kt (f : κ → D) (kf : outParam (κ → List Key)) : Prop where
 key : ∀ c, ∃ ds, f c = .tup ds ∧ jy ds = some (kf c)
 inj : ∀ c d, kf c = kf d → c = d
class Kk (f : κ → D) (kf : outParam (κ → Key)) : Prop where
 key : ∀ c, dKey (f c) = some (kf c)
 inj : ∀ c d, kf c = kf d → c = d
instance : Kk D.int Sum.inl := ⟨fun _ => rfl, fun _ _ h => Sum.inl.inj h⟩
instance : Kk D.str Sum.inr := ⟨fun _ => rfl, fun _ _ h => Sum.inr.inj h⟩
def kf2 (k : α → Key) (l : β → Key) (p : α × β) : List Key := [k p.1, l p.2]
def kf3 (k : α → Key) (l : β → Key) (m : γ → Key) (p : α × β × γ) : List Key := [k p.1, l p.2.1, m p.2.2]
def kf4 (k : α → Key) (l : β → Key) (m : γ → Key) (o : δ → Key) (p : α × β × γ × δ) : List Key := [k p.1, l p.2.1, m p.2.2.1, o p.2.2.2]
instance {f : α → D} {g : β → D} {k : α → Key} {l : β → Key} [hf : Kk f k] [hg : Kk g l] : Kt (eT2 f g) (kf2 k l) := ⟨fun c => ⟨_, rfl, by simp [jy, hf.key, hg.key, kf2]⟩, fun c d h => by
 simp only [kf2, List.cons.injEq, and_true] at h
 exact Prod.ext (hf.inj _ _ h.1) (hg.inj _ _ h.2)⟩
instance {f : α → D} {g : β → D} {h : γ → D} {k : α → Key} {l : β → Key} {m : γ → Key} [hf : Kk f k] [hg : Kk g l] [hh : Kk h m] : Kt (eT3 f g h) (kf3 k l m) := ⟨fun c => ⟨_, rfl, by simp [jy, hf.key, hg.key, hh.key, kf3]⟩, fun c d h => by
 simp only [kf3, List.cons.injEq, and_true] at h
 exact Prod.ext (hf.inj _ _ h.1) (Prod.ext (hg.inj _ _ h.2.1) (hh.inj _ _ h.2.2))⟩
instance {f : α → D} {g : β → D} {h : γ → D} {i : δ → D} {k : α → Key} {l : β → Key} {m : γ → Key} {o : δ → Key} [hf : Kk f k] [hg : Kk g l] [hh : Kk h m] [hi : Kk i o] : Kt (eT4 f g h i) (kf4 k l m o) := ⟨fun c => ⟨_, rfl, by simp [jy, hf.key, hg.key, hh.key, hi.key, kf4]⟩, fun c d h => by
 simp only [kf4, List.cons.injEq, and_true] at h
 exact Prod.ext (hf.inj _ _ h.1) (Prod.ext (hg.inj _ _ h.2.1) (Prod.ext (hh.inj _ _ h.2.2.1) (hi.inj _ _ h.2.2.2)))⟩
theorem qan {d : D} (h : BX.isNon d = false) {k : D → Prop} (q : k (.bl false)) : opIs d .non k := by
 unfold opIs; simp only [h]; exact q
class Nn (f : α → D) : Prop where
 nn : ∀ a, BX.isNon (f a) = false
instance : Nn D.int := ⟨fun _ => rfl⟩
instance : Nn D.bl := ⟨fun _ => rfl⟩
instance : Nn D.str := ⟨fun _ => rfl⟩
instance {f : α → D} {g : β → D} : Nn (eT2 f g) := ⟨fun _ => rfl⟩
instance {f : α → D} {g : β → D} {h : γ → D} : Nn (eT3 f g h) := ⟨fun _ => rfl⟩
instance {f : α → D} {g : β → D} {h : γ → D} {i : δ → D} : Nn (eT4 f g h i) := ⟨fun _ => rfl⟩
instance {f : α → D} : Nn (eV f) := ⟨fun _ => rfl⟩
instance {f : α → D} : Nn (eL f) := ⟨fun _ => rfl⟩
theorem qd6 {f : α → D} [hf : Nn f] {a : Option α} : OpTo opIs (eO f a) .non (.bl a.isNone) := fun k q => by
 cases a with
 | none => exact q
 | some a => exact qan (hf.nn a) q
end
end TX
namespace BX
open PySem PySem.Spec PyProof.Rows L2
structure Pr where
 at' : Addr
 kat : Addr
 key : List Key
 val : V
def putAll (kvs : List (List Key × V)) (l : List Pr) : List (List Key × V) := l.foldl (fun a x => putK a x.key x.val) kvs
section
variable {X : Cx} {pins : List (Addr × Obj)} {σ : L2.St} {H : Hp} {s : Shared}
inductive Trip (H : Hp) (h : Heap) : List Pr → List (List Key × Addr × Value) → Prop
 | nil : Trip H h [] []
 | cons {x : Pr} {u : Value} {l : List Pr} {ts : List (List Key × Addr × Value)} : RelV x.val u → IsTup h x.at' #[.ref x.kat, u] → H x.kat = some (.tup (x.key.map kV)) → Trip H h l ts → Trip H h (x :: l) ((x.key, x.kat, u) :: ts)
theorem Trip.len {h : Heap} : ∀ {l : List Pr} {ts : List (List Key × Addr × Value)}, Trip H h l ts → ts.length = l.length
 | _, _, .nil => rfl
 | _, _, .cons _ _ _ t => by rw [List.length_cons, List.length_cons, t.len]
theorem Trip.get {h : Heap} : ∀ {l : List Pr} {ts : List (List Key × Addr × Value)} {j : Nat} {t : List Key × Addr × Value}, Trip H h l ts → ts[j]? = some t → ∃ x, l[j]? = some x ∧ t.2.1 = x.kat ∧ IsTup h x.at' #[.ref t.2.1, t.2.2]
 | _, _, 0, _, .cons r i e t, q => by cases q; exact ⟨_, rfl, rfl, i⟩
 | _, _, j + 1, _, .cons r i e t, q => by simpa using t.get (j := j) (by simpa using q)
theorem Trip.all {h : Heap} {l : List Pr} {ts : List (List Key × Addr × Value)} (t : Trip H h l ts) : ∀ {kvs : List (List Key × V)} {xs : List (List Key × Addr × Value)}, KT H kvs xs → KT H (putAll kvs l) (storedAllH xs ts) := by
 induction t with
 | nil => intro kvs xs r; exact r
 | cons rv i e t ih =>
   intro kvs xs r
   exact ih (r.put _ e rv)
end
end BX
namespace BX
open PySem PySem.Spec PyProof.Rows L2
end BX
namespace TX
open PySem PySem.Spec PyProof.Rows L2 BX
section
variable {e e1 e' : En} {L : Nat} {r r1 r2 r' : R} {d d1 d2 d3 : D} {Q : R → En → Prop} {QB : Bool → En → Prop} {QA : List R → En → Prop} {i j : Nat} {α β γ κ : Type}
def qe4 (d : D) (b : Bool) : Prop := ∀ k : Bool → Prop, k b → tru d k
theorem tr_b {b : Bool} : qe4 (.bl b) b := fun k q => q
theorem yJ {t : XE} (q : t e fun r e => rd 2 r e fun d => tru d fun b => aB QB b e) : xVal t e QB := q
theorem yI {b : Bool} (h : Rv e 2 r d) (ht : qe4 d b) (q : aB QB b e) : rd 2 r e fun d => tru d fun b => aB QB b e := h.rd (ht (fun b => aB QB b e) q)
theorem vq {t : XT} (q : t e fun b e => aB QB (!b) e) : xNot t e QB := q
theorem qeW {t u : XT} (b1 b2 : Bool) (h1 : ∀ Q : Bool → En → Prop, aB Q b1 e → t e Q) (h2 : b1 = true → ∀ Q : Bool → En → Prop, aB Q b2 e → u e Q) (q : aB QB (b1 && b2) e) : xAnd t u e QB := by
 refine h1 _ ⟨fun h => h2 h _ ?_, fun h => ?_⟩
 ·rw [h, Bool.true_and] at q; exact q
 ·rw [h, Bool.false_and] at q; exact q
theorem qgm {t u : XT} (b1 b2 : Bool) (h1 : ∀ Q : Bool → En → Prop, aB Q b1 e → t e Q) (h2 : b1 = false → ∀ Q : Bool → En → Prop, aB Q b2 e → u e Q) (q : aB QB (b1 || b2) e) : xOr t u e QB := by
 refine h1 _ ⟨fun h => ?_, fun h => h2 h _ ?_⟩
 ·rw [h, Bool.true_or] at q; exact q
 ·rw [h, Bool.false_or] at q; exact q
theorem qce {t u : XE} (b1 b2 : Bool) (h1 : ∀ Q : R → En → Prop, aR Q (.tmp (.bl b1)) e → t e Q) (h2 : b1 = true → ∀ Q : R → En → Prop, aR Q (.tmp (.bl b2)) e → u e Q) (q : aR Q (.tmp (.bl (b1 && b2))) e) : dAnd t u e Q := by
 refine h1 _ ⟨fun h => h2 h _ ?_, fun h => ?_⟩
 ·rw [h, Bool.true_and] at q; exact q
 ·rw [h, Bool.false_and] at q; rw [h]; exact q
theorem qdn {t u : XT} (q : t e fun b e => (b = true → u e QB) ∧ (b = false → aB QB false e)) : xAnd t u e QB := q
theorem WQ {t u : XT} (q : t e fun b e => (b = true → aB QB true e) ∧ (b = false → u e QB)) : xOr t u e QB := q
theorem Xw {t u : XE} (q : t e fun r e => rd 2 r e fun d => tru d fun b => (b = true → u e Q) ∧ (b = false → aR Q r e)) : dAnd t u e Q := q
theorem qcd {t u : XE} (q : t e fun r e => rd 2 r e fun d => tru d fun b => (b = true → aR Q r e) ∧ (b = false → u e Q)) : dOr t u e Q := q
theorem Z5 {b : Bool} {k : Bool → Prop} (h : Rv e 2 r (.bl b)) (q : k b) : rd 2 r e fun d => tru d k := h.rd q
theorem qgn {t : XE} (q : t e fun r e => rd 2 r e fun d => intD d fun z => aR Q (.tmp (.int (-z))) e) : dNeg t e Q := q
theorem qf4 {a : Int} (h : Rv e 2 r (.int a)) (q : aR Q (.tmp (.int (-a))) e) : rd 2 r e fun d => intD d fun z => aR Q (.tmp (.int (-z))) e := h.rd q
theorem qeU {op op' : OP} {L' : Nat} {t u v : XE} (q : t e fun r1 e1 => u e1 fun r2 e2 => rd L r1 e2 fun d1 => rd L r2 e2 fun d2 => op d1 d2 fun d => blD d fun b =>
 (b = true → v e2 fun r3 e3 => rd L' r2 e3 fun d2 => rd L' r3 e3 fun d3 => op' d2 d3 fun d => aR Q (.tmp d) e3) ∧ (b = false → aR Q (.tmp (.bl false)) e2)) : dChn L op L' op' t u v e Q := q
theorem qen {op op' : OP} {L' : Nat} {v : XE} (b1 b2 : Bool) (h1 : Rv e L r1 d1) (h2 : Rv e L r2 d2) (h2' : Rv e L' r2 d2) (ho : OpTo op d1 d2 (.bl b1)) (hv : b1 = true → ∀ Q : R → En → Prop, (∀ r, Rv e L' r d3 → aR Q r e) → v e Q) (ho' : b1 = true → OpTo op' d2 d3 (.bl b2)) (q : aR Q (.tmp (.bl (b1 && b2))) e) :
 rd L r1 e fun d1 => rd L r2 e fun d2 => op d1 d2 fun d => blD d fun b => (b = true → v e fun r3 e3 => rd L' r2 e3 fun d2 => rd L' r3 e3 fun d3 => op' d2 d3 fun d => aR Q (.tmp d) e3) ∧ (b = false → aR Q (.tmp (.bl false)) e) := by
 refine h1.rd (h2.rd (ho (fun d => blD d fun b => (b = true → v e fun r3 e3 => rd L' r2 e3 fun d2 => rd L' r3 e3 fun d3 => op' d2 d3 fun d => aR Q (.tmp d) e3) ∧ (b = false → aR Q (.tmp (.bl false)) e)) ⟨fun h => ?_, fun h => ?_⟩))
 ·refine hv h _ fun r3 h3 => h2'.rd (h3.rd (ho' h (fun d => aR Q (.tmp d) e) ?_))
  rw [h, Bool.true_and] at q; exact q
 ·rw [h, Bool.false_and] at q; exact q
theorem qC (q : aL QA [] e) : aNil e QA := q
theorem qd {t : XE} {u : XA} (q : t e fun r e => u e fun rs e2 => aL QA (r :: rs) e2) : qm t u e QA := q
theorem qeS {u : XA} (q : u e fun rs e => rs.length ≤ 1000 ∧ jh rs e fun ds => aR Q (.tmp (.tup ds)) e) : dTup u e Q := q
theorem yX {u : XA} (q : u e fun rs e => rs.length ≤ 1000 ∧ jh rs e fun ds => aR Q (.tmp (.lst ds)) e) : dLst u e Q := q
theorem qf3 {rs : List R} {ds : List D} (h : StL e rs ds) (q : aR Q (.tmp (.tup ds)) e) (hl : rs.length ≤ 1000 := by simp) : rs.length ≤ 1000 ∧ jh rs e fun ds => aR Q (.tmp (.tup ds)) e := ⟨hl, h.go (k := fun ds => aR Q (.tmp (.tup ds)) e) q⟩
theorem qf5 {rs : List R} {ds : List D} (h : StL e rs ds) (q : aR Q (.tmp (.lst ds)) e) (hl : rs.length ≤ 1000 := by simp) : rs.length ≤ 1000 ∧ jh rs e fun ds => aR Q (.tmp (.lst ds)) e := ⟨hl, h.go (k := fun ds => aR Q (.tmp (.lst ds)) e) q⟩
def IxTo (d1 d2 d : D) : Prop := ∀ k : D → Prop, k d → ixd d1 d2 k
inductive ElTo : R → D → R → Prop
 | tmp {x d : D} : ElTo (.tmp x) d (.tmp d)
 | ro {c : Bool} {x d : D} {r : R} : mkRo c d = r → ElTo (.ro c x) d r
 | sl {i : Nat} {d : D} : d.imm = true → ElTo (.sl i) d (.tmp d)
theorem ElTo.go (h : ElTo r d r') {k : R → Prop} (q : k r') : elem r d k := by
 cases h with
 | tmp => exact q
 | ro h => subst h; exact q
 | sl h => exact ⟨h, q⟩
theorem jL {t u : XE} (q : t e fun r1 e1 => u e1 fun r2 e2 => rd 2 r1 e2 fun d1 => rd 1 r2 e2 fun d2 => ixd d1 d2 fun d => elem r1 d fun r => aR Q r e2) : dIdx t u e Q := q
theorem o_idx (h1 : Rv e 2 r1 d1) (h2 : Rv e 1 r2 d2) (hi : IxTo d1 d2 d) (hel : ElTo r1 d r') (q : aR Q r' e) : rd 2 r1 e fun d1 => rd 1 r2 e fun d2 => ixd d1 d2 fun d => elem r1 d fun r => aR Q r e :=
 h1.rd (h2.rd (hi (fun d => elem r1 d fun r => aR Q r e) (hel.go (k := fun r => aR Q r e) q)))
theorem vM {α : Type} {f : α → D} {l : List α} {i : Int} {a : α} (h : atI l i = some a) : atI (l.map f) i = some (f a) := by
 unfold atI at h ⊢
 rw [List.length_map]
 cases e : ixN l.length i with
 | none => rw [e] at h; cases h
 | some j =>
   rw [e] at h
   simp only [Option.bind_some] at h ⊢
   rw [List.getElem?_map, h]; rfl
theorem ix_L {f : α → D} {l : List α} {i : Int} {a : α} (h : atI l i = some a) : IxTo (eL f l) (.int i) (f a) := fun k q => by unfold eL ixd; simp only [vM h]; exact q
theorem ix_V {f : α → D} {l : List α} {i : Int} {a : α} (h : atI l i = some a) : IxTo (eV f l) (.int i) (f a) := fun k q => by unfold eV ixd; simp only [vM h]; exact q
def mkS {α κ : Type} (ms : List Md) (ia : α → List D) (w : α → (κ → Prop) → Prop) (fo : κ → D) (od : α → κ → List D) : FS := ⟨ms, fun ds Q => ∃ a k, ds = ia a ∧ w a k ∧ ∀ r, k r → Q (fo r) (od a r)⟩
theorem wW {α κ : Type} {ms : List Md} {ia : α → List D} {w : α → (κ → Prop) → Prop} {fo : κ → D} {od : α → κ → List D} : uM (mkS ms ia w fo od) := fun ds Q Q' h ⟨a, k, e, w, q⟩ => ⟨a, k, e, w, fun r hr => h _ _ (q r hr)⟩
theorem c_fn {S : FS} {u : XA} (q : u e fun rs e => yq S.ms rs e = true ∧ apart S.ms rs = true ∧ jo 2 rs e fun ds => S.wp ds fun d ds' => aR Q (.tmp d) (putB S.ms rs ds' 0 e)) : dFn S u e Q := q
theorem x_call {α κ : Type} {ms : List Md} {ia : α → List D} {w : α → (κ → Prop) → Prop} {fo : κ → D} {od : α → κ → List D} {rs : List R} (a : α) (fe : κ → En) {k : κ → Prop} (h : w a k) (hr : RvL e 2 rs (ia a)) (h1 : yq ms rs e = true) (h2 : apart ms rs = true)
 (he : ∀ r, putB ms rs (od a r) 0 e = fe r) (q : ∀ r, k r → aR Q (.tmp (fo r)) (fe r)) :
 yq (mkS ms ia w fo od).ms rs e = true ∧ apart (mkS ms ia w fo od).ms rs = true ∧ jo 2 rs e fun ds => (mkS ms ia w fo od).wp ds fun d ds' => aR Q (.tmp d) (putB (mkS ms ia w fo od).ms rs ds' 0 e) :=
 ⟨h1, h2, hr.go (k := fun ds => (mkS ms ia w fo od).wp ds fun d ds' => aR Q (.tmp d) (putB (mkS ms ia w fo od).ms rs ds' 0 e)) ⟨a, k, rfl, h, fun r hk => by
  show aR Q _ (putB ms rs (od a r) 0 e)
  rw [he]; exact q r hk⟩⟩
theorem qZ : yq [] [] e = true := rfl
theorem qD {m : Md} {ms : List Md} {rs : List R} (h : Wg m r e = true) (t : yq ms rs e = true) : yq (m :: ms) (r :: rs) e = true := by rw [yq, h, t]; rfl
theorem qT : Wg .cst r e = true := rfl
theorem Z4 (h : Rv e 1 r d) : Wg .ro r e = true := by cases h <;> rfl
theorem zp {ms : List Md} {rs : List R} (h : ms.all Md.rd = true) : apart ms rs = true := by
 unfold apart
 rw [List.all_eq_true]
 intro p _
 rw [List.all_eq_true]
 intro q _
 rw [Bool.or_eq_true]
 refine .inr ?_
 split
 ·rename_i m i j h1 h2 h3
  have := List.all_eq_true.mp h _ (List.mem_of_getElem? h1)
  rw [this]; rfl
 ·rfl
def OpN (op : OPn) (ds : List D) (d : D) : Prop := ∀ k : D → Prop, k d → op ds k
theorem zj {op : OPn} {u : XA} (q : u e fun rs e => jo L rs e fun ds => op ds fun d => aR Q (.tmp d) e) : dCall L op u e Q := q
theorem zg {op : OPn} {rs : List R} {ds : List D} (h : RvL e L rs ds) (ho : OpN op ds d) (q : aR Q (.tmp d) e) : jo L rs e fun ds => op ds fun d => aR Q (.tmp d) e := h.go (k := fun ds => op ds fun d => aR Q (.tmp d) e) (ho (fun d => aR Q (.tmp d) e) q)
def intB (b : Bool) : Int := if b then 1 else 0
section
variable {f : α → D} {l : List α} {a b : Int} {κf : κ → List Key} {κg : κ → Key} {m : List (κ × α)}
theorem QS : OpN (op1 bLen) [eL f l] (.int l.length) := fun k q => by unfold op1 bLen eL; simpa using q
theorem V9 {b : Bool} : OpN (op1 bInt) [.bl b] (.int (intB b)) := fun k q => q
theorem qeq : OpN (op2 U5) [.int a, .int b] (.int (min a b)) := fun k q => by
 show k (.int (if b < a then b else a))
 have : (if b < a then b else a) = min a b := by split <;> omega
 rw [this]; exact q
theorem qbS [Im f] : OpN (op1 vY) [eL f l] (eV f l) := fun k q => ⟨imL l, q⟩
theorem JS : ∀ l : List Bool, bools (l.map .bl) = some l
 | [] => rfl
 | b :: l => by rw [List.map_cons, bools, JS l]; rfl
theorem qbm {l : List Bool} : OpN (op1 bAll) [eL .bl l] (.bl (l.all id)) := fun k q => by unfold op1 bAll eL; simp only [JS]; exact q
def srt (tl : α → List Int) (l : List α) : List α := l.mergeSort fun a b => !HT.lexLt (tl b) (tl a)
theorem Z9 {tl : α → List Int} [h : Ints f tl] : ∀ l : List α, Wi (l.map f) = some (l.map tl)
 | [] => rfl
 | a :: l => by
   rw [List.map_cons, h.isx, Wi, Yb, Z9 l]
   have := h.ne a
   cases e : tl a with
   | nil => exact absurd e this
   | cons x xs => simp [e]
theorem sort_map {tl : α → List Int} [h : Ints f tl] (l : List α) : (sortI (l.map tl)).map tupI = (srt tl l).map f := by
 unfold sortI srt
 rw [← List.map_mergeSort (r := fun a b => !HT.lexLt (tl b) (tl a)) (s := fun a b => !HT.lexLt b a) (f := tl) (fun a _ b _ => rfl), List.map_map]
 exact List.map_congr_left fun a _ => (h.isx a).symm
theorem qcU {tl : α → List Int} [h : Ints f tl] : OpN (op1 xP) [eL f l] (eL f (srt tl l)) := fun k q => by
 unfold op1 xP eL
 simp only [Z9, sort_map (f := f)]
 exact q
class Ki (kf : κ → List Key) (tl : outParam (κ → List Int)) : Prop where
 ki : ∀ c, keyI (kf c) = some (tl c)
instance : Ki (kf2 (Sum.inl (α := Int)) Sum.inl) tl2 := ⟨fun _ => rfl⟩
instance : Ki (kf3 (Sum.inl (α := Int)) Sum.inl Sum.inl) tl3 := ⟨fun _ => rfl⟩
instance : Ki (kf4 (Sum.inl (α := Int)) Sum.inl Sum.inl Sum.inl) tl4 := ⟨fun _ => rfl⟩
end
end
end TX
namespace TX
open PySem PySem.Spec PyProof.Rows L2 BX
section
variable {e e1 e' : En} {L : Nat} {r r1 r2 r' : R} {d d1 d2 d3 : D} {Q : R → En → Prop} {nx : En → Prop} {rt : D → En → Prop} {i j : Nat} {α β γ κ σ : Type} {kE : En → Prop}
def lt {α : Type} (v : α) (k : α → Prop) : Prop := k v
def forW {α σ : Type} : List α → σ → (α → σ → (σ → Prop) → Prop) → (σ → Prop) → Prop
 | [], s, _, k => k s
 | a :: as, s, body, k => body a s fun s' => forW as s' body k
def lcW {α β σ : Type} : List α → List β → σ → (α → σ → (Option β → σ → Prop) → Prop) → (List β → σ → Prop) → Prop
 | [], acc, s, _, k => k acc s
 | a :: as, acc, s, body, k => body a s fun o s' => lcW as (acc ++ o.toList) s' body k
def ifW {σ : Type} (b : Bool) (A B : (σ → Prop) → Prop) (k : σ → Prop) : Prop := (b = true → A k) ∧ (b = false → B k)
def ifP (b : Bool) (A B : Prop) : Prop := (b = true → A) ∧ (b = false → B)
def exW {α : Type} (o : Option α) (k : α → Prop) : Prop := ∃ a, o = some a ∧ k a
theorem wO {t u : XS} (q : t e (fun e => u e nx rt) rt) : sSeq t u e nx rt := q
theorem uI (q : aN nx e) : sNil e nx rt := q
theorem qbM {t : XE} (q : t e fun _ e => aN nx e) : VG t e nx rt := q
theorem s_asg {t : XE} {g : XG} (q : t e fun r e => g r e nx) : sAsg t g e nx rt := q
theorem s_ret {t : XE} (q : t e fun r e => retR r e fun d => aD rt d e) : sRet t e nx rt := q
theorem xM (q : aD rt d e) : retR (.tmp d) e fun d => aD rt d e := q
theorem V5 {m : Md} (h : e[i]? = some (some (d, .own))) (q : aD rt d e) : retR (.sl i) e fun d => aD rt d e := by
 unfold retR; simp only [h]; exact ⟨trivial, q⟩
theorem qeg (h : Rv e 1 r d) (hi : d.imm = true) (q : aD rt d e) : retR r e fun d => aD rt d e := by
 cases h with
 | tmp => exact q
 | ro => exact ⟨rfl, hi, q⟩
 | sl h hm => unfold retR; simp only [h]; refine ⟨?_, q⟩; split <;> first | trivial | exact hi
theorem s_if {c : XT} {t u : XS} (q : c e fun b e => (b = true → t e nx rt) ∧ (b = false → u e nx rt)) : sIf c t u e nx rt := q
theorem uY {b : Bool} {A B G1 G2 : Prop} (h : ifP b A B) (h1 : b = true → A → G1) (h2 : b = false → B → G2) : (b = true → G1) ∧ (b = false → G2) := ⟨fun z => h1 z (h.1 z), fun z => h2 z (h.2 z)⟩
theorem qek {b : Bool} {A B : (σ → Prop) → Prop} {k : σ → Prop} {t u : XS} (sh : σ → En → Prop) (h : ifW b A B k)
 (h1 : b = true → ∀ (kk : σ → Prop) (nx' : En → Prop), (∀ s e, sh s e → kk s → nx' e) → A kk → t e nx' rt) (h2 : b = false → ∀ (kk : σ → Prop) (nx' : En → Prop), (∀ s e, sh s e → kk s → nx' e) → B kk → u e nx' rt) (hJ : ∀ s e, sh s e → k s → aN nx e) :
 (b = true → t e nx rt) ∧ (b = false → u e nx rt) := ⟨fun z => h1 z _ _ hJ (h.1 z), fun z => h2 z _ _ hJ (h.2 z)⟩
theorem g_N {f : α → D} {v : α} {P : α → Prop} (ee : α → En) (h : lt v P) (hs : setOk e i = true) (he : ∀ x, e.set i (some (f x, .own)) = ee x) (q : ∀ x, P x → aN kE (ee x)) : gN i (.tmp (f v)) e kE :=
 ⟨hs, by show aN kE _; rw [he]; exact q v h⟩
theorem g_n (hs : setOk e i = true) (he : e.set i (some (d, .own)) = e') (q : aN kE e') : gN i (.tmp d) e kE := ⟨hs, by subst he; exact q⟩
theorem g_T {n : Nat} {gs : XGs} {xs : List D} (hn : xs.length = n) (q : gs none xs e kE) : gT n gs (.tmp (.tup xs)) e kE := ⟨hn, q⟩
theorem uw {g : XG} {gs : XGs} {kd : Option Bool} {ds : List D} (q : g (mkI kd d) e fun e => gs kd ds e kE) : yR g gs kd (d :: ds) e kE := q
theorem qar {kd : Option Bool} (q : aN kE e) : Wj kd [] e kE := q
variable {kI : List D → Option Bool → Lok → En → Prop} {xs : List D}
theorem qaP {t : XE} (q : t e fun r e => rd 2 r e fun d => match d with
 | .lst xs => zF r e (fun kd lk e1 => aI kI xs kd lk e1) (immL xs)
 | .lF xs => zF r e (fun kd lk e1 => aI kI xs kd lk e1) (immL xs)
 | .tup xs => zF r e (fun kd lk e1 => aI kI xs kd lk e1) (immL xs)
 | _ => False) : iSeq t e kI := q
abbrev seqK (e : En) (kI : List D → Option Bool → Lok → En → Prop) (r : R) (d : D) : Prop := match d with
 | .lst xs => zF r e (fun kd lk e1 => aI kI xs kd lk e1) (immL xs)
 | .lF xs => zF r e (fun kd lk e1 => aI kI xs kd lk e1) (immL xs)
 | .tup xs => zF r e (fun kd lk e1 => aI kI xs kd lk e1) (immL xs)
 | _ => False
theorem qcP {f : α → D} [Im f] {l : List α} {m : Md} (h : e[i]? = some (some (eL f l, m))) (hm : m.okL 2 = true) (he : e.set i (some (eL f l, .lk)) = e') (q : aI kI (l.map f) none (some (i, m)) e') : (rd 2 (.sl i) e fun d => seqK e kI (.sl i) d) := by
 subst he
 unfold rd R.data; simp only [h, hm]
 unfold eL at h ⊢
 simp only [seqK, zF, h]
 exact ⟨imL l, q⟩
def rng (a b : Int) : List Int := (List.range (b - a).toNat).map fun n => a + (n : Nat)
def Zz (a b : Int) : Prop := -(2 ^ 62) ≤ a ∧ a < 2 ^ 62 ∧ -(2 ^ 62) ≤ b ∧ b < 2 ^ 62
theorem UW {t : XE} (q : t e fun r e => rd 2 r e fun d => match d with
 | .int j => -(2 ^ 62) ≤ j ∧ j < 2 ^ 62 ∧ aI kI ((List.range j.toNat).map fun n => .int (n : Nat)) none none e
 | _ => False) : jJ t e kI := q
theorem Uv {b : Int} (h : Zz 0 b) (q : aI kI ((rng 0 b).map D.int) none none e) : (rd 2 (.tmp (.int b)) e fun d => match d with
 | .int j => -(2 ^ 62) ≤ j ∧ j < 2 ^ 62 ∧ aI kI ((List.range j.toNat).map fun n => .int (n : Nat)) none none e
 | _ => False) := ⟨h.2.2.1, h.2.2.2, by
   have : (rng 0 b).map D.int = (List.range b.toNat).map fun n => .int (n : Nat) := by simp [rng]
   rw [← this]; exact q⟩
theorem qbe {it : XI} {g : XG} {tb : XS} (q : it e fun ds kd lk e1 => forL g tb kd ds e1 (fun e2 => thaw lk e2 nx) (fun d e2 => thaw lk e2 fun e3 => aD rt d e3)) : sFor it g tb e nx rt := q
theorem Xa {g : XG} {tb : XS} {kd : Option Bool} {fI : α → D} {body : α → σ → (σ → Prop) → Prop} {k : σ → Prop} (sh : σ → En → Prop) :
 ∀ {l : List α} {s0 : σ} {e : En}, forW l s0 body k → sh s0 e →
 (∀ a, a ∈ l → ∀ s e, sh s e → ∀ (kk : σ → Prop) (nx' : En → Prop), (∀ s' e', sh s' e' → kk s' → nx' e') → body a s kk → g (mkI kd (fI a)) e fun e1 => tb e1 nx' rt) →
 (∀ s e, sh s e → k s → aN nx e) → forL g tb kd (l.map fI) e nx rt
 | [], s0, e, h, h0, hb, hn => hn _ _ h0 h
 | a :: l, s0, e, h, h0, hb, hn => hb a (List.mem_cons_self ..) s0 e h0 _ _ (fun s' e' hs hk => Xa sh hk hs (fun a ha => hb a (List.mem_cons_of_mem _ ha)) hn) h
theorem c_lc {it : XI} {g : XG} {tt : XT} {te : XE} {vs : List Nat} (q : it e fun ds kd lk e1 => (vs.all fun v => setOk e1 v) = true ∧ lcL g tt te kd vs ds (qX vs e1) [] fun acc e2 => thaw lk (jm vs e1 e2) fun e3 => aR Q (.tmp (.lst acc)) e3) : dLc it g tt te vs e Q := q
theorem Xv {A B : En → Prop} (q : A e) : xYes e fun b e2 => (b = true → A e2) ∧ (b = false → B e2) := ⟨fun _ => q, fun z => nomatch z⟩
theorem qej {g : XG} {tt : XT} {te : XE} {kd : Option Bool} {vs : List Nat} {kk : List D → En → Prop} {fI : α → D} {fo : β → D} {l : List α} (p : α → Bool) (F : α → β) (hs : (vs.all fun v => setOk e1 v) = true) (hl : l.length ≤ sizeLine) (he : qX vs e1 = e)
 (hb : ∀ a ∈ l, ∀ (c : Prop) (k1 : D → En → Prop) (k2 : En → Prop), c → (p a = true → k1 (fo (F a)) e) → (p a = false → k2 e) → g (mkI kd (fI a)) e fun e1 => tt e1 fun b e2 => (b = true → te e2 fun r e3 => stor r e3 fun dd => c ∧ k1 dd (qX vs e3)) ∧ (b = false → k2 (qX vs e2)))
 (q : aK kk (((l.filter p).map F).map fo) e) : (vs.all fun v => setOk e1 v) = true ∧ lcL g tt te kd vs (l.map fI) (qX vs e1) [] kk := by
 refine ⟨hs, ?_⟩
 rw [he]
 exact u6 p (fun a => fo (F a)) fI l [] (by simpa using hl) (by rw [List.map_map] at q; exact q) fun a ha c k1 k2 hc h1 h2 => hb a ha c k1 k2 hc h1 h2
theorem qei {g : XG} {te : XE} {kd : Option Bool} {vs : List Nat} {kk : List D → En → Prop} {fI : α → D} {fo : β → D} {l : List α} (F : α → β) (hs : (vs.all fun v => setOk e1 v) = true) (hl : l.length ≤ sizeLine) (he : qX vs e1 = e)
 (hb : ∀ a ∈ l, ∀ (c : Prop) (k1 : D → En → Prop), c → k1 (fo (F a)) e → g (mkI kd (fI a)) e fun e1 => te e1 fun r e3 => stor r e3 fun dd => c ∧ k1 dd (qX vs e3))
 (q : aK kk ((l.map F).map fo) e) : (vs.all fun v => setOk e1 v) = true ∧ lcL g xYes te kd vs (l.map fI) (qX vs e1) [] kk := by
 refine ⟨hs, ?_⟩
 rw [he]
 exact qbp (fun a => fo (F a)) fI l hl (by rw [List.map_map] at q; exact q) hb
theorem o_el {c : Prop} {k1 : D → En → Prop} {vs : List Nat} {E : En} (h : St e r d) (hc : c) (he : qX vs e = E) (q : k1 d E) : stor r e fun dd => c ∧ k1 dd (qX vs e) := h _ ⟨hc, by rw [he]; exact q⟩
theorem Y9 {g : XG} {tt : XT} {te : XE} {kd : Option Bool} {vs : List Nat} {kk : List D → En → Prop} {fI : α → D} {fo : β → D} {body : α → σ → (Option β → σ → Prop) → Prop} {k : List β → σ → Prop} (sh : σ → En → Prop) {l : List α} {s0 : σ} (h : lcW l [] s0 body k) (hs : (vs.all fun v => setOk e1 v) = true) (hl : l.length ≤ sizeLine) (h0 : sh s0 (qX vs e1))
 (hb : ∀ a ∈ l, ∀ s e, sh s e → ∀ (w : Option β → σ → Prop) (c : Prop) (k1 : D → En → Prop) (k2 : En → Prop), c → (∀ b s' e', sh s' e' → w (some b) s' → k1 (fo b) e') → (∀ s' e', sh s' e' → w none s' → k2 e') → body a s w →
  g (mkI kd (fI a)) e fun e1 => tt e1 fun b e2 => (b = true → te e2 fun r e3 => stor r e3 fun dd => c ∧ k1 dd (qX vs e3)) ∧ (b = false → k2 (qX vs e2)))
 (hn : ∀ acc s e, sh s e → k acc s → aK kk (acc.map fo) e) : (vs.all fun v => setOk e1 v) = true ∧ lcL g tt te kd vs (l.map fI) (qX vs e1) [] kk := by
 refine ⟨hs, ?_⟩
 have main : ∀ (m : List α) (acc : List β) (s : σ) (e : En), (∀ a ∈ m, a ∈ l) → acc.length + m.length ≤ sizeLine → lcW m acc s body k → sh s e → lcL g tt te kd vs (m.map fI) e (acc.map fo) kk := by
  intro m
  induction m with
  | nil => intro acc s e _ _ h hs; exact hn _ _ _ hs h
  | cons a m ih =>
    intro acc s e hm hlen h hsh
    rw [List.length_cons] at hlen
    refine hb a (hm a (List.mem_cons_self ..)) s e hsh _ ((acc.map fo).length < sizeLine) (fun dd e => lcL g tt te kd vs (m.map fI) e (acc.map fo ++ [dd]) kk) (fun e => lcL g tt te kd vs (m.map fI) e (acc.map fo) kk) (by rw [List.length_map]; omega) (fun b s' e' hs' hw => ?_) (fun s' e' hs' hw => ?_) h
    ·have := ih (acc ++ [b]) s' e' (fun x hx => hm x (List.mem_cons_of_mem _ hx)) (by simp; omega) hw hs'
     rw [List.map_append] at this
     exact this
    ·have hw' : lcW m acc s' body k := by simpa using hw
     exact ih acc s' e' (fun x hx => hm x (List.mem_cons_of_mem _ hx)) (by omega) hw' hs'
 exact main l [] s0 _ (fun _ h => h) (by simpa using hl) h h0
theorem c_m1 {isT : D → Bool} {B : B1} {te : XE} {m : Md} (h : e[i]? = some (some (d, m))) (hb : D.big d = true) (hm : m = .own ∨ m = .io := by decide) (ht : isT d = true) (q : te e fun r2 e2 => B (.sl i) r2 e2 Q) : dM1 isT B (dVar i) te e Q := by
 unfold dM1 dVar
 rw [h]
 have key : (rd 2 (.sl i) e fun d => isT d = true) ∧ te e fun r2 e2 => B (.sl i) r2 e2 Q := ⟨by
  unfold rd R.data
  rcases hm with rfl | rfl <;> (simp only [h]; exact ht), q⟩
 rcases hm with rfl | rfl <;> cases d <;> first | (cases hb; done) | exact key
theorem qbl {f : α → D} {l : List α} {v : α} {m : Md} {P : List α → Prop} (ee : List α → En) (h : lt (l ++ [v]) P) (hr : St e r (f v)) (h0 : e[i]? = some (some (eL f l, m))) (hl : l.length < sizeLine) (he : ∀ x, e.set i (some (eL f x, m)) = ee x) (q : ∀ x, P x → aR Q (.tmp .non) (ee x)) (hm : m = .own ∨ m = .io := by decide) : bAppend (.sl i) r e Q := by
 refine hr _ ?_
 have q := q _ h
 rw [← he] at q
 unfold eL at h0 q
 rw [List.map_append] at q
 unfold chgL chg
 rcases hm with rfl | rfl <;> (simp only [h0]; exact ⟨by simpa using hl, q⟩)
theorem V6 {f : α → D} {l ys : List α} {m : Md} {P : List α → Prop} (ee : List α → En) (h : lt (l ++ ys) P) (h0 : e[i]? = some (some (eL f l, m))) (hl : l.length + ys.length ≤ sizeLine) (he : ∀ x, e.set i (some (eL f x, m)) = ee x) (q : ∀ x, P x → aR Q (.tmp .non) (ee x)) (hm : m = .own ∨ m = .io := by decide) : vL (.sl i) (.tmp (eL f ys)) e Q := by
 have q := q _ h
 rw [← he] at q
 unfold eL at h0 q ⊢
 rw [List.map_append] at q
 rw [vL, xSeT]
 unfold chgL chg
 rcases hm with rfl | rfl <;> (simp only [h0]; exact ⟨by simpa using hl, q⟩)
theorem qdX {u : XA} (q : u e fun rs e => jh rs e fun ds => match ds with
 | [d1, d2] => setOk e i = true ∧ setOk e j = true ∧ aN nx ((e.set i (some (d1, .own))).set j (some (d2, .own)))
 | _ => False) : sPar i j u e nx rt := q
theorem qeh {f : α → D} {g : β → D} {v : α} {w : β} {P : α → β → Prop} (ee : α → β → En) (h1 : St e r1 (f v)) (h2 : St e r2 (g w)) (h : lt v fun x => lt w (P x)) (hs : setOk e i = true) (hs2 : setOk e j = true) (he : ∀ x y, (e.set i (some (f x, .own))).set j (some (g y, .own)) = ee x y) (q : ∀ x y, P x y → aN nx (ee x y)) :
 jh [r1, r2] e fun ds => match ds with
 | [d1, d2] => setOk e i = true ∧ setOk e j = true ∧ aN nx ((e.set i (some (d1, .own))).set j (some (d2, .own)))
 | _ => False := h1 _ (h2 _ ⟨hs, hs2, by rw [he]; exact q v w h⟩)
end
end TX
namespace TX
open PySem PySem.Spec PyProof.Rows L2 BX
section
variable {e e1 e' : En} {L : Nat} {r r1 r2 r' : R} {d d1 d2 d3 : D} {Q : R → En → Prop} {QB : Bool → En → Prop} {nx : En → Prop} {rt : D → En → Prop} {i j : Nat} {α β γ κ σ : Type} {kE : En → Prop}
theorem uL {t : XS} (he : e = e') (q : t e' nx rt) : t e nx rt := by rw [he]; exact q
theorem QM {m : Md} (h : e[i]? = some (some (d, .lk))) (he : e.set i (some (d, m)) = e') (q : aN kE e') : thaw (some (i, m)) e kE := by
 subst he; unfold thaw; simp only [h]; exact q
theorem zA (q : aN kE e) : thaw none e kE := q
theorem jN {lk : Lok} {vs : List Nat} (he : jm vs e1 e = e') (q : thaw lk e' kE) : thaw lk (jm vs e1 e) kE := by rw [he]; exact q
theorem all1 {v : Nat} (h : setOk e v = true) : (([v] : List Nat).all fun v => setOk e v) = true := by simp [h]
theorem all2 {v w : Nat} (h : setOk e v = true) (h2 : setOk e w = true) : (([v, w] : List Nat).all fun v => setOk e v) = true := by simp [h, h2]
theorem qcC {c : XT} {t u : XE} (q : sIf c (sRet t) (sRet u) e nx rt) : sRet (dIf c t u) e nx rt := q
theorem zW {rs : List R} (f : α → D) (l : List α) (h : StL e rs (l.map f)) (q : aR Q (.tmp (eL f l)) e) (hl : rs.length ≤ 1000 := by simp) : rs.length ≤ 1000 ∧ jh rs e fun ds => aR Q (.tmp (.lst ds)) e := qf5 h q hl
theorem qed (f : α → D) (q : aR Q (.tmp (eV f [])) e) : ([] : List R).length ≤ 1000 ∧ jh [] e fun ds => aR Q (.tmp (.tup ds)) e := ⟨Nat.zero_le _, q⟩
theorem qec (f : α → D) (g : β → D) (a : α) (b : β) (h : StL e [r1, r2] [f a, g b]) (q : aR Q (.tmp (eT2 f g (a, b))) e) : [r1, r2].length ≤ 1000 ∧ jh [r1, r2] e fun ds => aR Q (.tmp (.tup ds)) e := qf3 h q
theorem qcR {b : Bool} {s0 : σ} {u : XT} {A : (Bool × σ → Prop) → Prop} {k : Bool × σ → Prop} (sh : σ → En → Prop) (h : ifW b A (fun kk => kk (false, s0)) k) (h0 : sh s0 e)
 (h1 : b = true → ∀ (kk : Bool × σ → Prop) (N : Bool → En → Prop), (∀ (v : Bool × σ) e, sh v.2 e → kk v → aB N v.1 e) → A kk → u e N) (hJ : ∀ (v : Bool × σ) e, sh v.2 e → k v → aB QB v.1 e) :
 (b = true → u e QB) ∧ (b = false → aB QB false e) := ⟨fun z => h1 z _ _ hJ (h.1 z), fun z => hJ (false, s0) _ h0 (h.2 z)⟩
theorem Wz {b : Bool} {s0 : σ} {u : XT} {A : (Bool × σ → Prop) → Prop} {k : Bool × σ → Prop} (sh : σ → En → Prop) (h : ifW b (fun kk => kk (true, s0)) A k) (h0 : sh s0 e)
 (h1 : b = false → ∀ (kk : Bool × σ → Prop) (N : Bool → En → Prop), (∀ (v : Bool × σ) e, sh v.2 e → kk v → aB N v.1 e) → A kk → u e N) (hJ : ∀ (v : Bool × σ) e, sh v.2 e → k v → aB QB v.1 e) :
 (b = true → aB QB true e) ∧ (b = false → u e QB) := ⟨fun z => hJ (true, s0) _ h0 (h.1 z), fun z => h1 z _ _ hJ (h.2 z)⟩
theorem Xb {b : Bool} {s0 : σ} {u : XE} {A : (Bool × σ → Prop) → Prop} {k : Bool × σ → Prop} (sh : σ → En → Prop) (h : ifW b A (fun kk => kk (false, s0)) k) (h0 : sh s0 e)
 (h1 : b = true → ∀ (kk : Bool × σ → Prop) (N : R → En → Prop), (∀ (v : Bool × σ) e, sh v.2 e → kk v → aR N (.tmp (.bl v.1)) e) → A kk → u e N) (hJ : ∀ (v : Bool × σ) e, sh v.2 e → k v → aR Q (.tmp (.bl v.1)) e) :
 (b = true → u e Q) ∧ (b = false → aR Q (.tmp (.bl b)) e) := ⟨fun z => h1 z _ _ hJ (h.1 z), fun z => by
 have := hJ (false, s0) _ h0 (h.2 z)
 rw [z]; exact this⟩
theorem qbP {b : Bool} {s0 : σ} {u : XE} {A : (Bool × σ → Prop) → Prop} {k : Bool × σ → Prop} (sh : σ → En → Prop) (h : ifW b (fun kk => kk (true, s0)) A k) (h0 : sh s0 e)
 (h1 : b = false → ∀ (kk : Bool × σ → Prop) (N : R → En → Prop), (∀ (v : Bool × σ) e, sh v.2 e → kk v → aR N (.tmp (.bl v.1)) e) → A kk → u e N) (hJ : ∀ (v : Bool × σ) e, sh v.2 e → k v → aR Q (.tmp (.bl v.1)) e) :
 (b = true → aR Q (.tmp (.bl b)) e) ∧ (b = false → u e Q) := ⟨fun z => by
 have := hJ (true, s0) _ h0 (h.1 z)
 rw [z]; exact this, fun z => h1 z _ _ hJ (h.2 z)⟩
theorem qbQ {g : XG} {tt : XT} {te : XE} {kd : Option Bool} {vs : List Nat} {kk : List D → En → Prop} {fI : α → D} {fo : α → D} {l : List α} (p : α → Bool) (hs : (vs.all fun v => setOk e1 v) = true) (hl : l.length ≤ sizeLine) (he : qX vs e1 = e)
 (hb : ∀ a ∈ l, ∀ (c : Prop) (k1 : D → En → Prop) (k2 : En → Prop), c → (p a = true → k1 (fo a) e) → (p a = false → k2 e) → g (mkI kd (fI a)) e fun e1 => tt e1 fun b e2 => (b = true → te e2 fun r e3 => stor r e3 fun dd => c ∧ k1 dd (qX vs e3)) ∧ (b = false → k2 (qX vs e2)))
 (q : aK kk ((l.filter p).map fo) e) : (vs.all fun v => setOk e1 v) = true ∧ lcL g tt te kd vs (l.map fI) (qX vs e1) [] kk := qej (fo := fo) p (fun a => a) hs hl he hb (by simpa using q)
theorem JV {S S' : FS} {n : Nat} {t : XS} (b : BodyOk S n t) (hm : S.ms = S'.ms) (hw : ∀ ds Q, S'.wp ds Q → S.wp ds Q) : BodyOk S' n t := by
 intro ds Q hl h
 have := b ds Q (by rw [hm]; exact hl) (hw ds Q h)
 have he : outD S ds Q = outD S' ds Q := funext fun d => funext fun e => by unfold outD; rw [hm]
 rw [hm, he] at this
 exact this
end
end TX
namespace BX
open PySem PySem.Spec PyProof.Rows L2
section
variable {K : PySem.W.Frag} {H : Hp}
theorem qd2 : ∀ {xs : List D} {vs : List V}, vs.length = xs.length → (∀ (j : Nat) (d : D) (v : V), xs[j]? = some d → vs[j]? = some v → Rep K H 0 d v []) → Reps K H 0 xs vs []
 | [], [], _, _ => .nil
 | [], _ :: _, l, _ => by simp at l
 | _ :: _, [], l, _ => by simp at l
 | d :: xs, v :: vs, l, h => .cons (f := []) (g := []) (h 0 d v rfl rfl) (qd2 (by simpa using l) fun j d v h1 h2 => h (j + 1) d v (by simpa using h1) (by simpa using h2)) (fun _ b hb => by simp at hb)
theorem Reps.nilAt {lv : Nat} : ∀ {xs : List D} {vs : List V} {f : List Addr}, Reps K H lv xs vs f → f = [] → ∀ (j : Nat) (d : D) (v : V), xs[j]? = some d → vs[j]? = some v → Rep K H lv d v []
 | _, _, _, .nil, _, j, d, v, h1, _ => by simp at h1
 | _, _, _, .cons (f := f) (g := g) r t _, e, j, d, v, h1, h2 => by
   obtain ⟨rfl, rfl⟩ := List.append_eq_nil_iff.mp e
   cases j with
   | zero => cases h1; cases h2; exact r
   | succ j => exact t.nilAt rfl j d v (by simpa using h1) (by simpa using h2)
end
abbrev Bn := R → List R → En → (R → En → Prop) → Prop
def dMn (isT : D → Bool) (B : Bn) (ta : XE) (u : XA) : XE := fun env Q => ta env fun r1 e1 => (rd 1 r1 e1 fun d => isT d = true) ∧ u e1 fun rs e2 => B r1 rs e2 Q
structure MnOk (X : Cx) (T : String) (isT : D → Bool) (rr : V → List V → Hp → VK → Prop) (B : Bn) : Prop where
 ty : ∀ (H : Hp) (d : D) (x : V) (g : List Addr), Rep X.K H 1 d x g → isT d = true → tyV X.K T x H
 run : ∀ (σ : L2.St) (H : Hp) (e : En) (f : FA) (r1 : R) (rs : List R) (x : V) (ys : List V) (g1 gs : List Addr) (QQ : R → En → Prop) (Q : VK), Abs X.K σ H e f → ResOk X.K σ H e f r1 x g1 → ResOks X.K σ H e f rs ys gs → (∀ b ∈ g1, b ∉ gs) → B r1 rs e QQ →
  (∀ v H' e' f' r' g', Abs X.K σ H' e' f' → ResOk X.K σ H' e' f' r' v g' → Stp H e f (g1 ++ gs) H' e' f' g' → Kp e f e' f' → QQ r' e' → Q v H') → rr x ys H Q
 mono : ∀ r1 rs e Q Q', (∀ r e, Q r e → Q' r e) → B r1 rs e Q → B r1 rs e Q'
section
variable {X : Cx} {o e : Expr} {es : List Expr} {ta : XE} {u : XA} {cpos apos : Pos} {T id : String} {name : Str} {isT : D → Bool} {rr : V → List V → Hp → VK → Prop} {B : Bn}
theorem qcW (ok : MnOk X T isT rr B) (mo : yw ta) (mu : vz u) {σ : L2.St} {H : Hp} {Q : VK} (q : xN X.K (dMn isT B ta u) σ H Q) :
 xN X.K ta σ H fun x H1 => tyV X.K T x H1 ∧ Ux X.K u σ H1 fun ys H2 => rr x ys H2 Q := by
 obtain ⟨env, f, A, q⟩ := q
 have h := qaQ (B := fun r1 e1 => rd 1 r1 e1 fun d => isT d = true) (C := fun r1 rs e2 => B r1 rs e2 (U8 X.K σ H env f Q)) mo mu A q
 obtain ⟨env1, f1, A1, q1⟩ := h
 refine ⟨env1, f1, A1, mo _ _ _ (fun r1 e1 z => ?_) q1⟩
 intro x H1 f1 g1 a b c d
 obtain ⟨⟨r0, e0, f0, g0, A0, R0, B0⟩, env2, f2, A2, q2⟩ := z x H1 f1 g1 a b c d
 obtain ⟨d0, g00, rp0, B0⟩ := yg A0 R0 B0
 refine ⟨ok.ty _ _ _ _ rp0 B0, env2, f2, A2, mu _ _ _ (fun rs e2 z => ?_) q2⟩
 intro vs H2 f2 g2 a b c d
 obtain ⟨r1, rs, e2, f2, g1, gs, A2, R1, R2, n, S, Kk, q3⟩ := z vs H2 f2 g2 a b c d
 exact ok.run σ H2 e2 f2 r1 rs x vs g1 gs _ Q A2 R1 R2 n q3 fun v H' e' f' r' g' A' R' S' K' q => q v H' f' g' A' R' (S.trans S') (Kk.trans K')
theorem qcV (ok : MnOk X T isT rr B) (mo : yw ta) (mu : vz u) : yw (dMn isT B ta u) := fun env Q Q' h q => mo _ _ _ (fun r1 e1 q => ⟨q.1, mu _ _ _ (fun rs e2 q => ok.mono _ _ _ _ _ h q) q.2⟩) q
theorem qeO (ok : MnOk X T isT rr B) (pa : PlainAttrs T) (slot : Slot T name id) (hty : typeOf (.builtin id) = pure (.type "method_descriptor")) (hm : MtR X id rr) (ho : DE X o ta) (ha : DA X (e :: es) u) (hbase : attributeBase o name X.env (eval o X.env) = eval o X.env := by rfl)
 (hfew : ((backTo cpos (starEach (e :: es) X.env)).all (fun x => !x.1) && (backToKw cpos (keywordEach [] X.env)).all (fun x => x.1.isSome)
  && decide ((e :: es).length + ([] : List Keyword).length + (if ([] : List Keyword).isEmpty then 0 else 1) < 30)) = true := by rfl)
 (hline : (apos.endLine == cpos.line) = true := by rfl) (hs : starEach (e :: es) X.env = (false, eval e X.env) :: starEach es X.env := by rfl) (hplain : (backTo cpos (starEach es X.env)).any (·.1) = false := by rfl) :
 DE X (.Call (.Attribute o name apos) (e :: es) [] cpos) (dMn isT B ta u) :=
 ⟨PE.imp (pe_bm pa slot hty hm ho.run ha.run hbase hfew hline hs hplain) fun σ H Q q => qcW ok ho.mono ha.mono q, qcV ok ho.mono ha.mono⟩
end
end BX
namespace BX
open PySem PySem.Spec PyProof.Rows L2
section
variable {X : Cx}
theorem XQ {H : Hp} {e : En} {f : FA} {G : List Addr} : Stp H e f G H e f [] := ⟨fun b o h _ => h, fun b q => q.elim .inl fun z => by simp at z⟩
variable {o e : Expr} {es : List Expr} {ta te tf : XE} {u : XA} {cpos apos : Pos}
end
end BX
namespace BX
open PySem PySem.Spec PyProof.Rows L2 RT
def cutD (xs : List D) (lo hi : Option Int) : List D := (xs.drop (HT.sIx xs.length 0 lo)).take (HT.sIx xs.length xs.length hi - HT.sIx xs.length 0 lo)
abbrev XO := En → (Option Int → En → Prop) → Prop
def xR : XO := fun env Q => Q none env
def xQ (t : XE) : XO := fun env Q => t env fun r e => rd 2 r e fun d => intD d fun z => Q (some z) e
def qe6 (t : XO) : Prop := ∀ env Q Q', (∀ o e, Q o e → Q' o e) → t env Q → t env Q'
def Qz (d : D) (lo hi : Option Int) (k : D → Prop) : Prop := match d with
 | .lst xs => immL xs = true ∧ k (.lst (cutD xs lo hi))
 | .lF xs => immL xs = true ∧ k (.lst (cutD xs lo hi))
 | .tup xs => immL xs = true ∧ k (.tup (cutD xs lo hi))
 | _ => False
def xg (t : XE) (lo hi : XO) : XE := fun env Q => t env fun r e => lo e fun l e1 => hi e1 fun u e2 => rd 1 r e2 fun d => Qz d l u fun d' => Q (.tmp d') e2
end BX
namespace BX
open PySem PySem.Spec PyProof.Rows L2 RT L2.DX
end BX
namespace TX
open PySem PySem.Spec PyProof.Rows L2 BX
end TX
namespace BX
open PySem PySem.Spec PyProof.Rows L2 RT L2.DX
section
variable {K : PySem.W.Frag} {σ : L2.St} {H : Hp} {env : En} {f : FA}
theorem ResOks.split : ∀ {rs : List R} {r : R} {vs : List V} {gs : List Addr}, ResOks K σ H env f (rs ++ [r]) vs gs → ∃ vs0 v g0 g1, vs = vs0 ++ [v] ∧ ResOks K σ H env f rs vs0 g0 ∧ ResOk K σ H env f r v g1 ∧ gs = g0 ++ g1
 | [], r, _, _, .cons h .nil n => ⟨[], _, [], _, rfl, .nil, h, by simp⟩
 | _ :: rs, r, _, _, .cons h t n => by
   obtain ⟨vs0, v, g0, g1, rfl, h1, h2, rfl⟩ := ResOks.split t
   exact ⟨_ :: vs0, v, _ ++ g0, g1, rfl, .cons h h1 fun b hb z => n b hb (List.mem_append_left _ z), h2, by rw [List.append_assoc]⟩
end
end BX
namespace TX
open PySem PySem.Spec PyProof.Rows L2 BX
section
variable {e e1 e' : En} {L : Nat} {r r1 r2 r3 r' : R} {d d1 d2 d3 : D} {Q : R → En → Prop} {nx : En → Prop} {rt : D → En → Prop} {i j m : Nat} {α β γ κ σ : Type} {kI : List D → Option Bool → Lok → En → Prop}
theorem Vv {a : Str} (h : PyData.strOk a = true) : eqOk (.str a) = true := by
 unfold eqOk SeqAt.shaped
 simp [D.py, PyData.canLay0, PyData.depth, h]
theorem QK {a b : Str} (h1 : PyData.strOk a = true) (h2 : PyData.strOk b = true) : OpTo opEq (.str a) (.str b) (.bl (decide (a = b))) := fun k q => ⟨Vv h1, Vv h2, by
 have : deq (.str a) (.str b) = decide (a = b) := by
  unfold deq
  simp only [D.py, PyData.eqv]
  by_cases h : a = b
  ·subst h; simp
  ·simp [h]
 rw [this]; exact q⟩
theorem Je {a b : Str} (h1 : PyData.strOk a = true) (h2 : PyData.strOk b = true) : OpTo opNe (.str a) (.str b) (.bl (!decide (a = b))) := fun k q => ⟨Vv h1, Vv h2, by
 have : deq (.str a) (.str b) = decide (a = b) := by
  unfold deq
  simp only [D.py, PyData.eqv]
  by_cases h : a = b
  ·subst h; simp
  ·simp [h]
 rw [this]; exact q⟩
end
end TX
namespace BX
open PySem PySem.Spec PyProof.Rows L2
theorem qeG {P : Program} {w : World} {K : PySem.W.Frag} {mg : Str → Option Value} {base : Heap} {x : Str} {k : Nat} {ps : List Str} {S S' : FS} (F : Fn P w K mg base x k ps S) (hm : S.ms = S'.ms) (hw : ∀ ds Q, S'.wp ds Q → S.wp ds Q) (mo : uM S') : Fn P w K mg base x k ps S' := by
 obtain ⟨f, fd, a, b⟩ := F.ex
 refine ⟨⟨f, fd, a.imp fun vs H Q E h => ?_, b⟩, mo⟩
 obtain ⟨h1, ds, f, h2, h3, h4⟩ := h
 unfold spOf
 rw [hm]
 exact ⟨h1, ds, f, h2, h3, hw _ _ h4⟩
end BX
namespace BX
open PySem PySem.Spec PyProof.Rows L2 RT PySem.W
def qgg (K : PySem.W.Frag) (t : XO) : L2.TO := fun σ H Q => ∃ env f, Abs K σ H env f ∧ t env fun o env' => ∀ H' f', Abs K σ H' env' f' → Stp H env f [] H' env' f' [] → Kp env f env' f' → Q o H'
structure DO (X : Cx) (e : Option Expr) (t : XO) : Prop where
 run : PO X e (qgg X.K t)
 mono : qe6 t
theorem PO.imp {X : Cx} {e : Option Expr} {t u : L2.TO} (h : PO X e t) (k : ∀ σ H Q, u σ H Q → t σ H Q) : PO X e u := ⟨fun pins s σ H Q I q => h.run pins s σ H Q I (k _ _ _ q)⟩
section
variable {X : Cx} {e : Expr} {t : XE} {lo hi : Option Expr} {tl th : XO} {pos p2 : Pos}
theorem zH : DO X none xR := ⟨PO.imp po_none fun σ H Q ⟨env, f, A, q⟩ => q H f A .refl .refl, fun env Q Q' h q => h _ _ q⟩
theorem zG (ha : DE X e t) : DO X (some e) (xQ t) := by
 refine ⟨PO.imp (po_some ha.run) fun σ H Q q => ?_, fun env Q Q' h q => ha.mono _ _ _ (fun r e q => qL (fun d q => Yc (fun z q => h _ _ q) q) q) q⟩
 obtain ⟨env, f, A, q⟩ := q
 refine ⟨env, f, A, ha.mono _ _ _ (fun r e1 q => ?_) q⟩
 intro v H1 f1 g1 A1 R1 S1 K1
 obtain ⟨d, g', rp, q⟩ := yg A1 R1 q
 obtain ⟨z, rfl, q⟩ := qao q
 obtain ⟨rfl, _⟩ := rp.intV
 exact ⟨z, rfl, q H1 f1 A1 (S1.drop fun _ z => by simp at z) K1⟩
theorem Y0 {d : D} {l u : Option Int} {k k' : D → Prop} (h : ∀ d, k d → k' d) (q : Qz d l u k) : Qz d l u k' := by
 unfold Qz at q ⊢
 split at q
 ·exact ⟨q.1, h _ q.2⟩
 ·exact ⟨q.1, h _ q.2⟩
 ·exact ⟨q.1, h _ q.2⟩
 ·exact q.elim
theorem qaK {α : Type} {xs : List α} {i n j : Nat} {a : α} (h : ((xs.drop i).take n)[j]? = some a) : xs[i + j]? = some a := by
 rw [List.getElem?_take] at h
 split at h
 ·rwa [List.getElem?_drop] at h
 ·cases h
theorem Xu {K : PySem.W.Frag} {H : Hp} {xs : List D} {vs : List V} (r : Reps K H 0 xs vs []) (lo hi : Option Int) : Reps K H 0 (cutD xs lo hi) (cutV vs lo hi) [] := by
 have hl := r.len
 unfold cutD cutV
 rw [hl]
 refine qd2 (by simp [hl]) fun j d v h1 h2 => r.nilAt rfl _ d v (qaK h1) (qaK h2)
theorem yd (ha : DE X e t) (hl : DO X lo tl) (hu : DO X hi th) : DE X (.Subscript e (.Slice lo hi none p2) pos) (xg t tl th) := by
 refine ⟨PE.imp (pe_slice (SlR.or sl_list sl_tupA) ha.run hl.run hu.run) fun σ H Q q => ?_, fun env Q Q' h q => ha.mono _ _ _ (fun r e q => hl.mono _ _ _ (fun o e q => hu.mono _ _ _ (fun o e q => qL (fun d q => Y0 (fun d q => h _ _ q) q) q) q) q) q⟩
 obtain ⟨env, f, A, q⟩ := q
 refine ⟨env, f, A, ha.mono _ _ _ (fun r1 e1 q => ?_) q⟩
 intro x H1 f1 g1 A1 R1 S1 K1
 refine ⟨e1, f1, A1, hl.mono _ _ _ (fun l e2 q => ?_) q⟩
 intro H2 f2 A2 S2 K2
 obtain ⟨R2, _⟩ := R1.wait A1 (S2.frame []) K2
 refine ⟨e2, f2, A2, hu.mono _ _ _ (fun u e3 q => ?_) q⟩
 intro H3 f3 A3 S3 K3
 obtain ⟨R3, _⟩ := R2.wait A2 (S3.frame []) K3
 obtain ⟨d, g', rp, q⟩ := yg A3 R3 q
 have S : Stp H env f [] H3 e3 f3 [] := (S1.drop fun _ z => by simp at z).trans (S2.trans S3)
 have Kk := K1.trans (K2.trans K3)
 unfold Qz at q
 split at q
 ·obtain ⟨him, q⟩ := q
  obtain ⟨a, vs, g, rfl, hH, rr, _⟩ := rp.listAt1 (Nat.le_refl _)
  obtain ⟨rfl, r0⟩ := rr.imm (Nat.le_refl _) him
  refine .inl ⟨a, vs, rfl, .inl (.inl hH), fun p hp => ?_⟩
  have rc := Xu r0 l u
  have x : Ext H3 (L2.upd H3 p (.lst (cutV vs l u))) [p] := .upd hp
  obtain ⟨A4, R4, S4⟩ := xX (G := []) A3 S x (.lst upd_same (rc.keep fun b o e _ => x.same b o e) (fun _ z => by simp at z))
  exact q _ _ f3 [p] A4 R4 S4 Kk
 ·obtain ⟨him, q⟩ := q
  obtain ⟨a, vs, rfl, hH, rr, _⟩ := rp.lFSq
  obtain ⟨rfl, r0⟩ := rr.imm (Nat.le_refl _) him
  refine .inl ⟨a, vs, rfl, hH, fun p hp => ?_⟩
  have rc := Xu r0 l u
  have x : Ext H3 (L2.upd H3 p (.lst (cutV vs l u))) [p] := .upd hp
  obtain ⟨A4, R4, S4⟩ := xX (G := []) A3 S x (.lst upd_same (rc.keep fun b o e _ => x.same b o e) (fun _ z => by simp at z))
  exact q _ _ f3 [p] A4 R4 S4 Kk
 ·obtain ⟨him, q⟩ := q
  obtain ⟨a, vs, rfl, hH, rr⟩ := rp.tupleAt (Nat.le_refl _)
  obtain ⟨rfl, r0⟩ := rr.imm (Nat.le_refl _) him
  refine .inr ⟨a, vs, rfl, .inl (.inl hH), fun hw => ?_, fun _ p hp => ?_⟩
  ·have hl := r0.len
   have e : ∀ xs : List D, xs.length = vs.length → cutD xs l u = xs := fun xs he => by
    unfold cutD
    rw [he, hw.1, hw.2, List.drop_zero, ← he, Nat.sub_zero, List.take_length]
   rw [e _ hl] at q
   exact q _ H3 f3 [] A3 (.tmp (.tup hH r0) ql) S Kk
  ·have rc := Xu r0 l u
   have x : Ext H3 (L2.upd H3 p (.tup (cutV vs l u))) [] := .updT hp
   obtain ⟨A4, R4, S4⟩ := xX (G := []) A3 S x (Qs hp rc)
   exact q _ _ f3 [] A4 R4 S4 Kk
 ·exact q.elim
end
end BX
namespace BX
open PySem PySem.Spec PyProof.Rows L2 RT L2.DX
end BX
namespace BX
open PySem PySem.Spec PyProof.Rows L2 RT L2.DX
end BX
namespace TX
open PySem PySem.Spec PyProof.Rows L2 BX
abbrev aO (Q : Option Int → En → Prop) (o : Option Int) (e : En) : Prop := Q o e
def cutA {α : Type} (xs : List α) (lo hi : Option Int) : List α := (xs.drop (HT.sIx xs.length 0 lo)).take (HT.sIx xs.length xs.length hi - HT.sIx xs.length 0 lo)
theorem qbD {α : Type} {f : α → D} (xs : List α) (lo hi : Option Int) : BX.cutD (xs.map f) lo hi = (cutA xs lo hi).map f := by
 unfold BX.cutD cutA
 rw [List.length_map, List.map_take, List.map_drop]
section
variable {e e1 e' : En} {L : Nat} {r r1 r2 r3 r' : R} {d d1 d2 d3 : D} {Q : R → En → Prop} {QO : Option Int → En → Prop} {nx : En → Prop} {rt : D → En → Prop} {i j m : Nat} {α β γ κ σ : Type} {kI : List D → Option Bool → Lok → En → Prop}
def memB [DecidableEq α] (a : α) (l : List α) : Bool := decide (a ∈ l)
theorem yG {t : XE} {lo hi : XO} (q : t e fun r e => lo e fun l e1 => hi e1 fun u e2 => rd 1 r e2 fun d => Qz d l u fun d' => aR Q (.tmp d') e2) : xg t lo hi e Q := q
theorem zK (q : aO QO none e) : xR e QO := q
theorem zJ {t : XE} (q : t e fun r e => rd 2 r e fun d => intD d fun z => aO QO (some z) e) : xQ t e QO := q
theorem zE {z : Int} (h : Rv e 2 r (.int z)) (q : aO QO (some z) e) : rd 2 r e fun d => intD d fun z => aO QO (some z) e := h.rd q
theorem uX {f : α → D} [hf : Im f] {l : List α} {lo hi : Option Int} (h : Rv e 1 r (eL f l)) (q : aR Q (.tmp (eL f (cutA l lo hi))) e) : rd 1 r e fun d => Qz d lo hi fun d' => aR Q (.tmp d') e := by
 refine h.rd ?_
 unfold eL at q ⊢
 rw [← qbD] at q
 exact ⟨imL l, q⟩
end
end TX
namespace BX
open PySem PySem.Spec PyProof.Rows L2 RT L2.DX
def v8 (ds : List D) : List D := ds.mapIdx fun i d => .tup [.int (i : Nat), d]
def WK (t : XE) : XI := fun env k => t env fun r e => rd 2 r e fun d => match d with
 | .lst xs => zF r e (fun kd lk e1 => k (v8 xs) kd lk e1) (immL xs)
 | _ => False
section
variable {K : PySem.W.Frag} {H1 : Hp} {ds : List D}
theorem qa4 {lv : Nat} {a : Addr} {vs : List V} {gg P : List Addr} (hq : ∀ H, Near H1 P H → SqL K H a vs) (rr : Reps K H1 lv ds vs gg) (hg : ∀ b ∈ gg, b ∈ P) :
 (immL ds = true → lv ≤ 1 → Wk K (Ite K a) (v8 ds) none H1 P) ∧ ∀ c, lv = clv c → Wk K (Ite K a) (v8 ds) (some c) H1 P := by
 have el : (v8 ds).length = vs.length := by rw [← rr.len]; simp [v8]
 have it : ∀ (i : Nat) (H : Hp) (x : V) (H' : Hp) (d : D), Near H1 P H → (v8 ds)[i]? = some d → (Ite K a).yld i H x H' → (∀ b o, H b = some o → H' b = some o) ∧ (∃ d0, d0 ∈ ds ∧ d = .tup [.int (i : Nat), d0]) ∧ ∃ g, Rep K H' lv d x g ∧ ∀ b ∈ g, b ∈ P := fun i H x H' d n e y => by
  obtain ⟨T, x0, rfl, hT, rfl, hx⟩ := y
  unfold v8 at e
  rw [List.getElem?_mapIdx] at e
  cases h : ds[i]? with
  | none => rw [h] at e; cases e
  | some d0 =>
    rw [h] at e
    cases e
    obtain ⟨v, g, e1, r, hs⟩ := rr.get h
    have := hx vs (hq _ n)
    rw [e1] at this; cases this
    have ex : Ext H (L2.upd H T (.tup [.int (i : Nat), x0])) [T] := .upd hT
    have r2 : Rep K (L2.upd H T (.tup [.int (i : Nat), x0])) lv d0 x0 g := (jF r n fun b hb => hg b (hs b hb)).keep fun b o e _ => ex.same b o e
    refine ⟨ex.same, ⟨d0, List.mem_of_getElem? h, rfl⟩, g, ?_, fun b hb => hg b (hs b hb)⟩
    have r3 : Reps K (L2.upd H T (.tup [.int (i : Nat), x0])) lv [.int (i : Nat), d0] [.int (i : Nat), x0] ([] ++ (g ++ [])) := .cons (.int _) (.cons r2 .nil fun _ b _ z => by cases z) fun _ b z => by cases z
    rw [List.nil_append, List.append_nil] at r3
    exact .tup upd_same r3
 have go : ∀ (i : Nat) (H : Hp), Near H1 P H → i < (v8 ds).length → (Ite K a).go i H := fun i H n h => ⟨vs, vs[i]'(by rw [← el]; exact h), hq H n, List.getElem?_eq_getElem _⟩
 have st : ∀ (i : Nat) (H : Hp), Near H1 P H → (v8 ds).length ≤ i → (Ite K a).stop i H := fun i H n h => ⟨vs, hq H n, by rw [← el]; exact h⟩
 refine ⟨fun im l => ⟨go, st, fun i H x H' d n e y => ?_⟩, fun c hc => ⟨go, st, fun i H x H' d n e y => ?_⟩⟩
 ·obtain ⟨sm, ⟨d0, h0, rfl⟩, g, r, hs⟩ := it i H x H' d n e y
  refine ⟨sm, (vI r hs).1 l ?_⟩
  rw [D.imm, immL, immL, immL, D.imm, Qp im d0 h0]; rfl
 ·obtain ⟨sm, _, g, r, hs⟩ := it i H x H' d n e y
  exact ⟨sm, (vI r hs).2 c hc⟩
end
section
variable {X : Cx} {e : Expr} {t : XE} {p pos tpos : Pos} {elts : List Expr} {kk : Nat}
theorem Zt (ha : DE X e t) (hm : X.mg "enumerate" = none) (hg : Gl X "enumerate" := by rfl) (hs : starEach [e] X.env = [(false, eval e X.env)] := by rfl) : DI X (.Tuple elts kk tpos) (.Call (.Name "enumerate" p) [e] [] pos) (WK t) := by
 refine ⟨PI.imp (pi_enum hg hm (pa_cons ha.run pa_nil hs) hs) fun σ H R q => ?_, fun env k k' h q => ha.mono _ _ _ (fun r e q => qL (fun d q => ?_) q) q⟩
 ·obtain ⟨env, f, A, q⟩ := q
  refine ⟨env, f, A, ha.mono _ _ _ (fun r1 e1 q => ?_) q⟩
  intro x H1 f1 g A1 R1 S1 K1
  obtain ⟨d, dd, q⟩ := Za q
  have rp0 : ∃ gg, Rep X.K H1 2 d x gg := by
   obtain ⟨d', gg, rp, hd⟩ := yg (L := 2) (k := fun d' => d' = d) A1 R1 (by unfold rd; rw [dd])
   subst hd
   exact ⟨gg, rp⟩
  obtain ⟨gg0, rp0⟩ := rp0
  cases d with
  | lst ds =>
    obtain ⟨a, vs, g1, rfl, hq, hn, rr, hs⟩ := jt rp0
    refine ⟨a, vs, rfl, hq, Zi A1 S1 K1 R1 (immL ds) q (fun lv gg z => ?_) dd⟩
    obtain ⟨a', vs', g2, e1, hq', hn', rr', hs'⟩ := jt z
    cases e1
    exact qa4 hn' rr' hs'
  | _ => exact q.elim
 ·cases d with
  | lst ds => exact jG (fun kd lk e q => h _ _ _ _ q) q
  | _ => exact q.elim
end
end BX
namespace TX
open PySem PySem.Spec PyProof.Rows L2 BX
def yN {α : Type} (l : List α) : List (Int × α) := l.mapIdx fun i a => (((i : Nat) : Int), a)
theorem Yd {α : Type} {f : α → D} (l : List α) : v8 (l.map f) = (yN l).map (eT2 D.int f) := by
 unfold v8 yN
 refine List.ext_getElem? fun i => ?_
 rw [List.getElem?_mapIdx, List.getElem?_map, List.getElem?_map, List.getElem?_mapIdx]
 cases l[i]? <;> rfl
section
variable {e e1 e' : En} {r : R} {i j m : Nat} {α : Type} {kI : List D → Option Bool → Lok → En → Prop}
abbrev qc9 (e : En) (kI : List D → Option Bool → Lok → En → Prop) (r : R) (d : D) : Prop := match d with
 | .lst xs => zF r e (fun kd lk e1 => aI kI (v8 xs) kd lk e1) (immL xs)
 | _ => False
theorem JQ {t : XE} (q : t e fun r e => rd 2 r e fun d => qc9 e kI r d) : WK t e kI := q
theorem qel {f : α → D} [Im f] {l : List α} (q : aI kI ((yN l).map (eT2 D.int f)) none none e) : (rd 2 (.tmp (eL f l)) e fun d => qc9 e kI (.tmp (eL f l)) d) := by
 rw [← Yd] at q
 exact ⟨imL l, q⟩
theorem qem {f : α → D} [Im f] {l : List α} {m : Md} (h : e[i]? = some (some (eL f l, m))) (hm : m.okL 2 = true) (he : e.set i (some (eL f l, .lk)) = e') (q : aI kI ((yN l).map (eT2 D.int f)) none (some (i, m)) e') : (rd 2 (.sl i) e fun d => qc9 e kI (.sl i) d) := by
 subst he
 rw [← Yd] at q
 unfold rd R.data; simp only [h, hm]
 unfold eL at h q ⊢
 show zF _ _ _ _
 unfold zF
 simp only [h]
 exact ⟨imL l, q⟩
end
end TX
namespace BX
open PySem PySem.Spec PyProof.Rows L2 RT L2.DX
end BX
namespace TX
open PySem PySem.Spec PyProof.Rows L2 BX
section
variable {e e1 e' : En} {r r1 r2 r3 : R} {Q : R → En → Prop} {i : Nat} {α κ : Type} {n : Nat}
theorem qaw : ∀ {d : D}, BX.isNon d = false → PyData.eqv .none d.py = false ∧ PyData.eqv d.py .none = false := fun {d} h => by
 cases d <;> first | (cases h; done) | (constructor <;> simp [D.py, PyData.eqv])
instance [DecidableEq α] {f : α → D} [hf : Eqd f n] [hn : Nn f] : Eqd (eO f) n := ⟨fun a => by
 cases a with
 | none => exact ⟨by simp [eO, D.py, PyData.canLay0], by simp [eO, D.py, PyData.depth]⟩
 | some x => exact hf.lay x, fun a b => by
 cases a with
 | none => cases b with
   | none => simp [eO, D.py, PyData.eqv]
   | some y => rw [show (eO f none).py = .none by simp [eO, D.py], show (eO f (some y)) = f y from rfl, (qaw (hn.nn y)).1]; simp
 | some x => cases b with
   | none => rw [show (eO f none).py = .none by simp [eO, D.py], show (eO f (some x)) = f x from rfl, (qaw (hn.nn x)).2]; simp
   | some y => rw [show (eO f (some x)) = f x from rfl, show (eO f (some y)) = f y from rfl, hf.eq]; simp⟩
end
end TX
namespace BX
open PySem PySem.Spec PyProof.Rows L2
mutual
def D.pd : D → PyData
 | .non => .none
 | .bl b => .bool b
 | .int i => .int i
 | .str x => .str x
 | .tup xs => .tuple (pdL xs)
 | .lst xs => .list (pdL xs)
 | .dT _ => .none
 | .dK _ => .none
 | .dF _ => .none
 | .lF xs => .list (pdL xs)
 | .ob _ _ => .none
 | .ex _ _ => .none
 | .dN _ => .none
 | .dG _ => .none
 | .op _ => .none
def pdL : List D → List PyData
 | [] => []
 | d :: ds => d.pd :: pdL ds
end
mutual
def D.ndc : D → Bool
 | .non => true
 | .bl _ => true
 | .int _ => true
 | .str _ => true
 | .tup xs => ndcL xs
 | .lst xs => ndcL xs
 | .dT _ => false
 | .dK _ => false
 | .dF _ => false
 | .lF xs => ndcL xs
 | .ob _ _ => false
 | .ex _ _ => false
 | .dN _ => false
 | .dG _ => false
 | .op _ => false
def ndcL : List D → Bool
 | [] => true
 | d :: ds => d.ndc && ndcL ds
end
mutual
theorem ZZ : ∀ d : D, d.pd.hasDict = false
 | .non => by rw [D.pd]; rfl
 | .bl _ => by rw [D.pd]; rfl
 | .int _ => by rw [D.pd]; rfl
 | .str _ => by rw [D.pd]; rfl
 | .tup xs => by rw [D.pd]; exact ue xs
 | .lst xs => by rw [D.pd]; exact ue xs
 | .dT _ => by rw [D.pd]; rfl
 | .dK _ => by rw [D.pd]; rfl
 | .dF _ => by rw [D.pd]; rfl
 | .lF xs => by rw [D.pd]; exact ue xs
 | .ob _ _ => by rw [D.pd]; rfl
 | .ex _ _ => by rw [D.pd]; rfl
 | .dN _ => by rw [D.pd]; rfl
 | .dG _ => by rw [D.pd]; rfl
 | .op _ => by rw [D.pd]; rfl
theorem ue : ∀ ds : List D, PyData.hasDictAll (pdL ds) = false
 | [] => by rw [pdL]; rfl
 | d :: ds => by rw [pdL]; show (d.pd.hasDict || _) = false; rw [ZZ d, ue ds]; rfl
end
section
variable {X : Cx} {pins : List (Addr × Obj)} {σ : L2.St} {H : Hp} {s : Shared} {lv : Nat}
mutual
theorem Rep.reads (I : Inv X pins σ H s) : ∀ {d : D} {v : V} {f : List Addr} {u : Value}, Rep X.K H lv d v f → d.ndc = true → RelV v u → ∃ as, Reads s.heap u d.pd as
 | _, _, _, u, .non, _, r => by obtain rfl : u = .none := r; rw [D.pd]; exact ⟨_, .none⟩
 | _, _, _, u, .bl b, _, r => by obtain rfl : u = .bool b := r; rw [D.pd]; exact ⟨_, .bool b⟩
 | _, _, _, u, .int i, _, r => by obtain ⟨t, rfl⟩ : ∃ t, u = .int i t := r; rw [D.pd]; exact ⟨_, .int i t⟩
 | _, _, _, u, .str x, _, r => by obtain ⟨t, rfl⟩ : ∃ t, u = .str x t := r; rw [D.pd]; exact ⟨_, .str x t⟩
 | _, _, _, u, @Rep.tup _ _ _ a vs ds f h t, n, r => by
   obtain rfl : u = .ref a := r
   obtain ⟨its, rv, ⟨o, ho, hc, m, hd⟩, _⟩ := I.tuple (SqT.of h)
   rw [D.ndc] at n
   obtain ⟨as, ra⟩ := Reps.reads I t n rv
   rw [D.pd]
   exact ⟨as, .tuple ho hc hd (by simpa using ra)⟩
 | _, _, _, u, @Rep.tupK _ _ _ a vs ds f l h t, n, r => by
   obtain rfl : u = .ref a := r
   obtain ⟨its, rv, ⟨o, ho, hc, m, hd⟩, _⟩ := I.tuple h.sq
   rw [D.ndc] at n
   obtain ⟨as, ra⟩ := Reps.reads I t n rv
   rw [D.pd]
   exact ⟨as, .tuple ho hc hd (by simpa using ra)⟩
 | _, _, _, u, @Rep.lst _ _ _ a vs ds f h t m, n, r => by
   obtain rfl : u = .ref a := r
   obtain ⟨its, rv, ⟨o, m, ho, hc, _, hd⟩, _⟩ := I.list (SqL.of h)
   rw [D.ndc] at n
   obtain ⟨as, ra⟩ := Reps.reads I t n rv
   rw [D.pd]
   exact ⟨_, .list ho hc hd (by simpa using ra)⟩
 | _, _, _, u, @Rep.lstF _ _ _ a vs ds f l h t, n, r => by
   obtain rfl : u = .ref a := r
   obtain ⟨its, rv, ⟨o, m, ho, hc, _, hd⟩, _⟩ := I.list h.sq
   rw [D.ndc] at n
   obtain ⟨as, ra⟩ := Reps.reads I t n rv
   rw [D.pd]
   exact ⟨_, .list ho hc hd (by simpa using ra)⟩
 | _, _, _, _, .dT _ _ _ _ _, n, _ => by rw [D.ndc] at n; cases n
 | _, _, _, _, .dTF _ _ _ _ _, n, _ => by rw [D.ndc] at n; cases n
 | _, _, _, _, .dF _ _ _ _, n, _ => by rw [D.ndc] at n; cases n
 | _, _, _, _, .ob _ _ _ _ _, n, _ => by rw [D.ndc] at n; cases n
 | _, _, _, _, .ex _ _ _ _, n, _ => by rw [D.ndc] at n; cases n
 | _, _, _, _, .dN _ _ _ _ _ _, n, _ => by rw [D.ndc] at n; cases n
 | _, _, _, _, .dG _ _ _ _, n, _ => by rw [D.ndc] at n; cases n
 | _, _, _, _, .opN _, n, _ => by rw [D.ndc] at n; cases n
 | _, _, _, _, .opF _, n, _ => by rw [D.ndc] at n; cases n
 | _, _, _, u, @Rep.lF _ _ _ a _ vs ds f h t, n, r => by
   obtain rfl : u = .ref a := r
   obtain ⟨its, rv, ⟨o, m, ho, hc, _, hd⟩, _⟩ := I.list (.inl (.inr ⟨_, h⟩) : SqL X.K H a vs)
   rw [D.ndc] at n
   obtain ⟨as, ra⟩ := Reps.reads I t n rv
   rw [D.pd]
   exact ⟨_, .list ho hc hd (by simpa using ra)⟩
 | _, _, _, _, .dK _ _ _ _ _, n, _ => by rw [D.ndc] at n; cases n
theorem Reps.reads (I : Inv X pins σ H s) : ∀ {ds : List D} {vs : List V} {f : List Addr} {us : List Value}, Reps X.K H lv ds vs f → ndcL ds = true → Vals vs us → ∃ as, ReadsAll s.heap us (pdL ds) as
 | _, _, _, _, .nil, _, .nil => by rw [pdL]; exact ⟨_, .nil⟩
 | _, _, _, _, .cons a t _, n, .cons r q => by
   rw [ndcL, Bool.and_eq_true] at n
   obtain ⟨as, h1⟩ := Rep.reads I a n.1 r
   obtain ⟨bs, h2⟩ := Reps.reads I t n.2 q
   rw [pdL]
   exact ⟨_, .cons h1 h2⟩
end
end
def strD (d : D) : Str := d.pd.shown
def ShOk (d : D) : Prop := d.ndc = true ∧ d.pd.showable = true ∧ d.pd.depth ≤ 90 ∧ d.pd.shown.length ≤ sizeLine
def bStr (d : D) (k : D → Prop) : Prop := match d with
 | .tup xs => ShOk (.tup xs) ∧ k (.str (strD (.tup xs)))
 | .lst xs => ShOk (.lst xs) ∧ k (.str (strD (.lst xs)))
 | .lF xs => ShOk (.lF xs) ∧ k (.str (strD (.lF xs)))
 | .int i => i.natAbs.log2 < 1920 ∧ k (.str (toString i))
 | _ => False
section
variable {X : Cx}
theorem YT {pins : List (Addr × Obj)} {σ : L2.St} {H : Hp} {s : Shared} {a : Addr} {d : D} {as : List Addr} {Q : VK} (hx : Ok X) (hg : X.A.guards = some []) (I : Inv X pins σ H s) (r : Reads s.heap (.ref a) d.pd as) (so : ShOk d)
 (q : Q (.str (strD d)) H) : wpAny (model X.prog X.w) X.A (call (.type "str") [.ref a]) (EP X pins σ Q) X.xe s := by
 have un := hx.un
 refine str_of_reads r so.2.1 (PyData.noDict_hsm (ZZ d)) hg (by have := so.2.2.1; omega) (fun _ _ e => e) (fun h' u tk kp => ?_) so.2.2.2
 exact ⟨.str (strD d), H, I.kept kp, ⟨u, rfl⟩, q⟩
theorem qeR (hx : Ok X) (hg : X.A.guards = some []) : CallD X (.type "str") 2 (op1 bStr) := Yn (by decide) (fun pins s σ H x us Q d g I rs r q => by
 unfold bStr at q
 split at q
 ·obtain ⟨a, vs, rfl, hs, rr⟩ := r.tupleSq
  obtain ⟨u, rfl, rx⟩ := vals1 rs
  obtain rfl : u = .ref a := rx
  obtain ⟨as, rd⟩ := r.reads I q.1.1 (show RelV (V.ref a) (Value.ref a) from rfl)
  exact YT hx hg I rd q.1 (q.2 _ H [] (.str _) .refl)
 ·obtain ⟨a, vs, g', rfl, hs, rr, _, _⟩ := r.listSq
  obtain ⟨u, rfl, rx⟩ := vals1 rs
  obtain rfl : u = .ref a := rx
  obtain ⟨as, rd⟩ := r.reads I q.1.1 (show RelV (V.ref a) (Value.ref a) from rfl)
  exact YT hx hg I rd q.1 (q.2 _ H [] (.str _) .refl)
 ·obtain ⟨a, vs, rfl, hs, rr, _⟩ := r.lFSq
  obtain ⟨u, rfl, rx⟩ := vals1 rs
  obtain rfl : u = .ref a := rx
  obtain ⟨as, rd⟩ := r.reads I q.1.1 (show RelV (V.ref a) (Value.ref a) from rfl)
  exact YT hx hg I rd q.1 (q.2 _ H [] (.str _) .refl)
 ·obtain ⟨rfl, _⟩ := r.intV
  exact call_str_int pins s σ H _ us Q I rs ⟨_, rfl, q.1, q.2 _ H [] (.str _) .refl⟩
 ·exact q.elim) (fun d k k' h q => by
 unfold bStr at q ⊢
 split at q
 ·exact ⟨q.1, h _ q.2⟩
 ·exact ⟨q.1, h _ q.2⟩
 ·exact ⟨q.1, h _ q.2⟩
 ·exact ⟨q.1, h _ q.2⟩
 ·exact q.elim)
end
end BX
namespace BX
open PySem PySem.Spec PyProof.Rows L2
structure FnG (P : Program) (w : World) (K : PySem.W.Frag) (mg : Str → Option Value) (base : Heap) (k : Nat) (f : Addr) (fd : FuncData) (ps : List Str) (sp : Sp) : Prop where
 ar : ∀ vs H Q E, sp vs H Q E → vs.length = ps.length
 go : ∀ {A : Around} {fr : List PySem.Env} {s : Shared} {H : Hp} {args : Args} {us : List Value} {vs : List V} {Q : VK} {E : XK},
  Room k A → A.guards = some [] → Env0 P w K mg base A fr s H → BindsTo s fd args (ps.zip us) → Vals vs us → sp vs H Q E →
   codeAny (model P w) A (.call (.ref f) args) (CR CX0 fr P w H s Q E) s
section
variable {P : Program} {w : World} {K : PySem.W.Frag} {mg : Str → Option Value} {base : Heap} {k : Nat} {f : Addr} {fd : FuncData} {ps : List Str} {sp : Sp}
theorem FnG.of (F : FnOk P w K mg base CX0 k f fd ps sp) : FnG P w K mg base k f fd ps sp := ⟨F.len, fun hr _ e b v h => F.run _ _ _ _ _ _ _ _ _ hr e b v h⟩
theorem FnG.up {j : Nat} (F : FnG P w K mg base j f fd ps sp) (l : j ≤ k) : FnG P w K mg base k f fd ps sp := ⟨F.ar, fun hr g e b v h => F.go (hr.mono l) g e b v h⟩
theorem FnG.body {x qual : Str} {st : Stmt} {N : List Str} (U : Fun K x qual st f fd) (Sc : FnScope N ps (defScope st)) (ar : ∀ vs H Q E, sp vs H Q E → vs.length = ps.length)
 (hb : ∀ (cd : Value) (A : Around) (fr : List PySem.Env) (s : Shared) (H : Hp) (vs : List V) (Q : VK) (E : XK), Room k (A.deeper (envOfC qual (defScope st) s.heap.objs.size f cd)) → A.guards = some [] → sp vs H Q E →
  ∃ t, PSs (cxOf CX0 P w K mg base N qual (defScope st) f cd A fr s H E).nox (defBody st) t ∧ t { nx := fun _ H' => Q .non H', rt := Q } (L2.start N vs) H) : FnG P w K mg base (k + 1) f fd ps sp := by
 obtain ⟨oc, od, kV, doc, pm, an, cd, ct, sl, rfl, lk, hc⟩ := U.ex
 refine ⟨ar, ?_⟩
 intro A fr s H args us vs Q E hr hg e0 bd rv hs
 have inK : K.In s.heap := e0.mod.kin.keeps fun b o z => (e0.bs b o z).1
 have noL : s.heap.NoLimit := e0.mod.nolimit.keeps fun b o z => (e0.bs b o z).1
 have hk : ∀ y ∈ ps.zip us, (defScope st).names.lookup y.1 = some .local ∨
  ((defScope st).names.lookup y.1 = some .cell ∧ ((cellsFrom (s.heap.objs.size + 1) (defScope st).names []).lookup y.1).isSome = true) := by
  rintro ⟨n, v⟩ hy
  have hn := (List.of_mem_zip hy).1
  cases Sc.par n hn with
  | inl q => exact .inl q
  | inr q => exact .inr ⟨q, PySem.W.cellsFrom_some _ _ _ (.inl q)⟩
 refine codeAny_call_function hr.depth (inK _ _ lk) rfl Sc.co Sc.gen rfl (PySem.W.codeRec_of inK hc) (bd _ _ _ _ ?_)
 refine wpAny_newFunctionEnv_cells Sc.kind hk fun env he s1 x => ?_
 subst he
 refine ⟨noL.keeps x.toInCall.keep, codeAny_func ?_⟩
 obtain ⟨t, ht, hq⟩ := hb cd A fr s H vs Q E (hr.deeper _) hg hs
 have I : Inv (cxOf CX0 P w K mg base N qual (defScope st) f cd A fr s H E) [] (L2.start N vs) H s1 := inv_start Sc hr.hd e0 (ar _ _ _ _ hs) rv x
 have done : ∀ {τ : L2.St} {H' : Hp} {s' : Shared} {v : V} {u : Value}, Inv (cxOf CX0 P w K mg base N qual (defScope st) f cd A fr s H E) [] τ H' s' → RelV v u → Q v H' → CE fr P w H s Q u s' := by
  intro τ H' s' v u J r q
  exact ⟨v, H', J.os, J.bare, J.base, J.hok, r, q⟩
 refine wpAny_mono (ht.nox.run [] s1 (L2.start N vs) H _ I hq) (fun fl s' z => ?_) (fun _ _ z => z)
 cases fl with
 | next => obtain ⟨τ, H', J, q⟩ := z; exact done (v := .non) (u := .none) J rfl q
 | ret u => obtain ⟨v, τ, H', J, r, q⟩ := z; exact done J r q
 | brk => obtain ⟨_, _, _, q⟩ := z; exact q.elim
 | cont => obtain ⟨_, _, _, q⟩ := z; exact q.elim
end
section
variable {X : Cx} {k : Nat} {ps : List Str} {x : Str} {p pos : Pos} {e : Expr} {es : List Expr} {u : XA} {S : FS}
structure Fg (P : Program) (w : World) (K : PySem.W.Frag) (mg : Str → Option Value) (base : Heap) (x : Str) (k : Nat) (ps : List Str) (S : FS) : Prop where
 ex : ∃ f fd, FnG P w K mg base k f fd ps (spOf K S) ∧ mg x = some (.ref f) ∧ PySem.W.keepIn K (.ref f) = true ∧ Binds K fd ps []
 mono : uM S
theorem Fg.up {P : Program} {w : World} {K : PySem.W.Frag} {mg : Str → Option Value} {base : Heap} {j : Nat} (F : Fg P w K mg base x j ps S) (l : j ≤ k) : Fg P w K mg base x k ps S :=
 let ⟨f, fd, a, b⟩ := F.ex; ⟨⟨f, fd, a.up l, b⟩, F.mono⟩
end
theorem qc7 {P : Program} {w : World} {K : PySem.W.Frag} {mg : Str → Option Value} {base : Heap} {x qual : Str} {st : Stmt} {f : Addr} {fd : FuncData} {N ps : List Str} {k : Nat} {S : FS} {t : XS} (F : Fun K x qual st f fd) (Sc : FnScope N ps (defScope st))
 (hms : S.ms.length = ps.length) (okm : ∀ m ∈ S.ms, m ≠ .own ∧ m ≠ .lk)
 (der : ∀ (cd : Value) (A : Around) (fr : List PySem.Env) (s : Shared) (H : Hp) (E : XK), Room k (A.deeper (envOfC qual (defScope st) s.heap.objs.size f cd)) → A.guards = some [] →
  DSs (cxOf CX0 P w K mg base N qual (defScope st) f cd A fr s H E).nox (defBody st) t) (body : BodyOk S N.length t) : FnG P w K mg base (k + 1) f fd ps (spOf K S) := by
 refine FnG.body F Sc (fun vs H Q E h => by rw [h.1, hms]) (fun cd A fr s H vs Q E hr hg h => ?_)
 have Dr := der cd A fr s H E hr hg
 refine ⟨_, Dr.run, ?_⟩
 exact Yp Sc hms okm Dr body h
end BX
namespace BX
open PySem PySem.Spec PyProof.Rows L2
section
variable {P : Program} {w : World} {K : PySem.W.Frag} {mg mb : Str → Option Value} {k : Nat} {fa a : Addr} {fd : FuncData} {x : Str} {sp : Sp} {s : Shared} {vs : List Value} {ns : List Int}
def qcg (s : Shared) (r : Result) (s' : Shared) : Prop := r = .ok (.ret (.bool true)) ∧ OldK s.heap s'.heap ∧ s'.os = s.os ∧ AllBare s'.gens
theorem XH (inK : K.In s.heap) (n1 : s.heap.Ns mainGlobals mg) (n2 : s.heap.Ns builtinsNs mb) (bb : ∀ y : Str, y ≠ "__name__" → mb y = bootBuiltins y) (lim : s.heap.NoLimit) (g0 : s.gens = #[])
 (ha : s.heap.get? a = some { cls := .type "list", data := .seq vs.toArray }) (hr : Room k callerA) (F : ∀ b : Heap, K.In b → b.Ns mainGlobals mg → FnG P w K mg b k fa fd [x] sp)
 (bd : ∀ (s : Shared) (u : Value), BindsTo s fd ⟨[u], []⟩ [(x, u)]) (H : Hp) (only : Only H) (hs : sp [.ref a] H (fun v _ => v = .bl true) fun _ _ _ => False)
 (hok : HOk P w H s.heap) (trk : ∀ b, H b ≠ none → b = a) (kn : H a ≠ none → K.lookup a = none) : codeAny (model P w) callerA (.call (.ref fa) ⟨[.ref a], []⟩) (qcg s) s := by
 have hide : ∀ {b : Addr} {o : Obj}, s.heap.get? b = some o → (b = a → H a = none) → (hidT s.heap H).get? b = some o := by
  intro b o z n
  refine hidT_get z (Classical.byContradiction fun c => ?_)
  have e := trk b c
  subst e
  exact c (n rfl)
 have kin : K.In (hidT s.heap H) := by
  intro b o z
  refine hide (inK b o z) fun e => Classical.byContradiction fun c => ?_
  subst e
  rw [kn c] at z
  cases z
 have nsT : ∀ {b : Addr} {m : Str → Option Value}, s.heap.Ns b m → (hidT s.heap H).Ns b m := by
  rintro b m ⟨o, es, ep, z, d, r⟩
  refine ⟨o, es, ep, hide z fun e => ?_, d, r⟩
  subst e
  rw [ha] at z
  cases z
  exact nomatch (show Data.seq vs.toArray _ = Data.dict es ep from d)
 have lim' : (hidT s.heap H).NoLimit := by
  obtain ⟨mc, l1, l2⟩ := lim
  exact ⟨mc, nsT l1, l2⟩
 have e0 : Env0 P w K mg (hidT s.heap H) callerA [] s H := by
  refine ⟨rfl, ⟨kin, nsT n1, ⟨mb, nsT n2, bb⟩, lim'⟩, fun b o z => of_hidT z, Nat.le_of_eq (hidT_size _ _), trivial, ?_, hok, .of_eq g0⟩
  intro b z
  exact absurd (show b ∈ ([] : List Addr) from z) List.not_mem_nil
 refine codeAny_mono ((F _ kin (nsT n1)).go (us := [Value.ref a]) (vs := [V.ref a]) hr rfl e0 (bd s (.ref a)) (.cons rfl .nil) hs) ?_
 intro r s' z
 match r, z with
 | .error _, z => exact z.elim
 | .ok .next, z => exact z.elim
 | .ok .brk, z => exact z.elim
 | .ok .cont, z => exact z.elim
 | .ok (.ret u), z =>
   obtain ⟨v, H', os, bare, un, hok', rv, q⟩ := z
   have q : v = .bl true := q
   subst q
   obtain rfl : u = Value.bool true := rv
   refine ⟨rfl, OldK.of_keep ?_, os, bare⟩
   intro b o z
   cases hb : H b with
   | none => exact un.keep b o z hb (fun y => absurd (show b ∈ ([] : List Addr) from y) List.not_mem_nil) (by simp)
   | some t =>
     obtain hn | ⟨ob, xs, hf⟩ := only b
     ·rw [hb] at hn; cases hn
     ·have old := (hok b _ hf).1
      have new := (hok' b _ (un.frzs b ob _ hf)).1
      rw [z] at old
      cases old
      exact new
def scrH (a : Addr) (o : Obj) (xs : List V) : Hp := fun b => if b = a then some (.frz o (.lst xs)) else none
theorem qcu (inK : K.In s.heap) (n1 : s.heap.Ns mainGlobals mg) (n2 : s.heap.Ns builtinsNs mb) (bb : ∀ y : Str, y ≠ "__name__" → mb y = bootBuiltins y) (lim : s.heap.NoLimit) (g0 : s.gens = #[])
 (ha : s.heap.get? a = some { cls := .type "list", data := .seq vs.toArray }) (hi : IntsAre vs ns) (hl : ns.length ≤ sizeLine) (hr : Room k callerA) (F : ∀ b : Heap, K.In b → b.Ns mainGlobals mg → FnG P w K mg b k fa fd [x] sp)
 (bd : ∀ (s : Shared) (u : Value), BindsTo s fd ⟨[u], []⟩ [(x, u)]) (hs : ∀ H : Hp, Only H → SqL K H a (ns.map V.int) → sp [.ref a] H (fun v _ => v = .bl true) fun _ _ _ => False) :
 codeAny (model P w) callerA (.call (.ref fa) ⟨[.ref a], []⟩) (qcg s) s := by
 have rv := vals_ints hi
 cases hk : K.lookup a with
 | some o =>
   have e := inK a o hk
   rw [ha] at e
   cases e
   have sq : SqL K (fun _ => none) a (ns.map V.int) := .inr ⟨_, vs.toArray, _, hk, rfl, rfl, rfl, by rw [List.size_toArray, hi.length]; exact hl, by simpa using rv⟩
   exact XH inK n1 n2 bb lim g0 ha hr F bd (fun _ => none) (fun _ => .inl rfl) (hs _ (fun _ => .inl rfl) sq) (fun b u z => nomatch z) (fun b z => absurd rfl z) fun z => absurd rfl z
 | none =>
   have at_a : scrH a { cls := .type "list", data := .seq vs.toArray } (ns.map V.int) a = some (.frz { cls := .type "list", data := .seq vs.toArray } (.lst (ns.map V.int))) := if_pos rfl
   have off : ∀ {b : Addr}, b ≠ a → scrH a { cls := .type "list", data := .seq vs.toArray } (ns.map V.int) b = none := fun h => if_neg h
   have only : Only (scrH a { cls := .type "list", data := .seq vs.toArray } (ns.map V.int)) := by
    intro b
    by_cases e : b = a
    ·subst e; exact .inr ⟨_, _, at_a⟩
    ·exact .inl (off e)
   refine XH inK n1 n2 bb lim g0 ha hr F bd _ only (hs _ only (.inl (.inr ⟨_, at_a⟩))) ?_ ?_ fun _ => hk
   ·intro b u z
    by_cases e : b = a
    ·subst e
     rw [at_a] at z
     cases z
     exact ⟨ha, by rw [List.length_map]; exact hl, vs, _, rv, ha⟩
    ·rw [off e] at z; cases z
   ·intro b z
    exact Classical.byContradiction fun e => z (off e)
end
theorem qdR {l : PySem.W.OpenLaw} {n k : Nat} {q : Program} {loose : List Str} {XP : (Str → Option Value) → Heap → Prop} {YP : World → Heap → Prop} {d : DefRec} {K : Params → PySem.W.Frag} {sp : World → Sp} {x : Str}
 (hn : l.most = some n) (h63 : n ≤ sizeLine) (hdf : d.params.defaults = []) (hr : Room k callerA) (hY : ∀ (w : World) (h : Heap), YP w h → (K w.params).In h)
 (F : ∀ (w : World) (mg : Str → Option Value) (fa : Addr) (h : Heap), (K w.params).In h → h.Ns mainGlobals mg → mg d.name = some (.ref fa) →
  ∃ fd : FuncData, (∀ (s : Shared) (v : Value), BindsTo s fd ⟨[v], []⟩ [(x, v)]) ∧ ∀ b : Heap, (K w.params).In b → b.Ns mainGlobals mg → FnG l.prog w (K w.params) mg b k fa fd [x] (sp w))
 (hs : ∀ (w : World) (H : Hp) (a : Addr) (ns : List Int), ns.length ≤ n → Only H → SqL (K w.params) H a (ns.map V.int) → sp w [.ref a] H (fun v _ => v = .bl true) fun _ _ _ => False) :
 PySem.W.WalkO q loose XP YP l.row.toRowW d [] (fun f vs => PySem.call f vs) := by
 apply Att.attach_call hn hdf
 intro w s₀ s mg mb fa o pm cd doc a vs ns gr y ho hd hc hm hobj hi hlen hg
 obtain ⟨fd, hb, hF⟩ := F w mg fa _ (hY w _ y) gr.T.g hm
 exact qcu (hY w _ y) gr.T.g gr.T.b gr.T.builtins gr.T.nolimit hg hobj hi (Nat.le_trans hlen h63) hr hF hb fun H hO hS => hs w H a ns hlen hO hS
end BX
namespace BT
open PySem PySem.Spec PyProof.Rows L2
def stp : Nat → Nat → Nat
 | 0, i => i
 | k + 1, i => stp k i * 5 + 1
theorem YW : ∀ a b i, stp (a + b) i = stp a (stp b i)
 | 0, b, i => by rw [Nat.zero_add]; rfl
 | a + 1, b, i => by
   rw [show a + 1 + b = (a + b) + 1 by omega]
   show stp (a + b) i * 5 + 1 = stp a (stp b i) * 5 + 1
   rw [YW a b i]
theorem Vw : ∀ K : Nat, ∃ c d : Nat, ∀ i, stp (2 ^ K) i = (1 + 4 * 2 ^ K * c) * i + 2 ^ K * (1 + 2 * d)
 | 0 => ⟨1, 0, fun i => by show i * 5 + 1 = _; simp; omega⟩
 | K + 1 => by
   obtain ⟨c, d, h⟩ := Vw K
   refine ⟨c + 2 * 2 ^ K * c * c, d + 2 ^ K * c + 2 * d * 2 ^ K * c, fun i => ?_⟩
   rw [show 2 ^ (K + 1) = 2 ^ K + 2 ^ K by rw [Nat.pow_succ]; omega, YW, h, h]
   generalize 2 ^ K = M
   grind
theorem half {M x j : Nat} (hM : 0 < M) (h : x % M = j % M) (n : x % (M * 2) ≠ j % (M * 2)) : (x + M) % (M * 2) = j % (M * 2) := by
 rw [Nat.mod_mul, Nat.mod_mul] at n
 rw [Nat.mod_mul, Nat.mod_mul, Nat.add_mod_right, Nat.add_div_right _ hM, h]
 rw [h] at n
 have a := Nat.mod_lt (x / M) (show 0 < 2 by decide)
 have b := Nat.mod_lt (j / M) (show 0 < 2 by decide)
 have c : x / M % 2 ≠ j / M % 2 := fun z => n (by rw [z])
 have e : (x / M + 1) % 2 = j / M % 2 := by omega
 rw [e]
theorem Vx : ∀ (K i j : Nat), ∃ k, k < 2 ^ K ∧ stp k i % 2 ^ K = j % 2 ^ K
 | 0, i, j => ⟨0, by decide, by simp [Nat.mod_one]⟩
 | K + 1, i, j => by
   obtain ⟨k, hk, e⟩ := Vx K i j
   obtain ⟨c, d, h⟩ := Vw K
   by_cases q : stp k i % 2 ^ (K + 1) = j % 2 ^ (K + 1)
   ·exact ⟨k, by rw [Nat.pow_succ]; omega, q⟩
   ·refine ⟨2 ^ K + k, by rw [Nat.pow_succ]; omega, ?_⟩
    rw [YW, h]
    have e2 : (1 + 4 * 2 ^ K * c) * stp k i + 2 ^ K * (1 + 2 * d) = (stp k i + 2 ^ K) + 2 ^ (K + 1) * (2 * c * stp k i + d) := by
     rw [Nat.pow_succ]; generalize 2 ^ K = M; grind
    rw [e2, Nat.add_mul_mod_self_left, Nat.pow_succ]
    rw [Nat.pow_succ] at q
    exact half (Nat.pow_pos (by decide)) e q
def MG (m : Nat) : Prop := m = 7 ∨ m = 31 ∨ m = 127 ∨ m = 511 ∨ m = 2047 ∨ m = 8191
theorem MG.pow {m : Nat} (h : MG m) : ∃ K, m + 1 = 2 ^ K := by
 rcases h with rfl | rfl | rfl | rfl | rfl | rfl
 ·exact ⟨3, rfl⟩
 ·exact ⟨5, rfl⟩
 ·exact ⟨7, rfl⟩
 ·exact ⟨9, rfl⟩
 ·exact ⟨11, rfl⟩
 ·exact ⟨13, rfl⟩
theorem qaj {m i : Nat} (hi : i ≤ m) : ∀ k, lcgI m i k = stp k i % (m + 1)
 | 0 => (Nat.mod_eq_of_lt (Nat.lt_succ_of_le hi)).symm
 | k + 1 => by
   show (lcgI m i k * 5 + 1) % (m + 1) = (stp k i * 5 + 1) % (m + 1)
   rw [qaj hi k]
   simp [Nat.add_mod, Nat.mul_mod]
theorem MG.comes {m : Nat} (h : MG m) {i j : Nat} (hi : i ≤ m) (hj : j ≤ m) : ∃ k, k ≤ m ∧ lcgI m i k = j := by
 obtain ⟨K, e⟩ := h.pow
 obtain ⟨k, a, b⟩ := Vx K i j
 rw [← e] at a b
 refine ⟨k, by omega, ?_⟩
 rw [qaj hi, b, Nat.mod_eq_of_lt (by omega)]
theorem MG.run {m : Nat} (hm : MG m) (h : Int) {j : Nat} (hj : j ≤ m) : ∃ n, n ≤ m + 12 ∧ runI m (SetTable.bits h) n = j := by
 obtain ⟨k, a, e⟩ := hm.comes (runI_le m (SetTable.bits h) 12) hj
 refine ⟨12 + k, by omega, ?_⟩
 rw [runI_tail (bits_lt h)]
 exact e
structure Tb (t : SetTable) (hs : List Int) : Prop where
 ris : Ris t.place.toList
 dm : t.dummies = #[]
 sz : t.place.size = hs.length
 mg : MG t.mask
 back : ∀ (i : Nat) (h : Int) (j : Nat), hs[i]? = some h → t.place.toList[i]? = some j → ∃ k, way t.mask h k = j ∧ ∀ c, c < k → way t.mask h c ∈ t.place.toList
section
variable {t : SetTable} {hs : List Int}
def Hole (t : SetTable) (h : Int) (K : Nat) : Prop := way t.mask h K ∉ t.place.toList ∧ ∀ c, c < K → way t.mask h c ∈ t.place.toList
theorem Tb.put (T : Tb t hs) {h : Int} {K p j : Nat} (hK : Hole t h K) (ej : way t.mask h K = j) (ep : SetTable.below t.place j = p) :
 p ≤ hs.length ∧ Tb (t.put j).1 (hs.take p ++ h :: hs.drop p) ∧ (t.put j).1.fill = hs.length + 1 := by
 have hK1 := hK.1
 have hK2 := hK.2
 rw [ej] at hK1
 have cut := (below_cut T.ris j).1
 rw [ep] at cut
 have pl : p ≤ t.place.toList.length := by rw [Array.length_toList]; exact cut
 have ph : p ≤ hs.length := by rw [← T.sz]; exact cut
 have place : (t.put j).1.place.toList = t.place.toList.take p ++ j :: t.place.toList.drop p := by rw [put_place, ep]
 have many : (t.put j).1.place.size = hs.length + 1 := by
  rw [← Array.length_toList, place, len_ins _ pl, Array.length_toList, T.sz]
 have old : ∀ {x : Nat}, x ∈ t.place.toList → x ∈ (t.put j).1.place.toList := by
  intro x hx
  rw [place, mem_ins]
  exact .inr hx
 have new : t.place[SetTable.below t.place j]? ≠ some j := by
  intro e
  rw [← Array.getElem?_toList] at e
  exact hK1 (List.mem_of_getElem? e)
 refine ⟨ph, ⟨ris_insert T.ris new, put_dm T.dm j, by rw [len_ins _ ph]; exact many, T.mg, ?_⟩, ?_⟩
 ·intro i h' j' e1 e2
  show ∃ k, way t.mask h' k = j' ∧ _
  rw [tins_get hs ph] at e1
  rw [place, tins_get _ pl] at e2
  by_cases c : i = p
  ·subst c
   simp only [Nat.lt_irrefl, if_false, if_true, Option.some.injEq] at e1 e2
   subst e1 e2
   exact ⟨K, ej, fun c hc => old (hK2 c hc)⟩
  ·obtain ⟨i', f1, f2⟩ : ∃ i', hs[i']? = some h' ∧ t.place.toList[i']? = some j' := by
    by_cases d : i < p
    ·rw [if_pos d] at e1 e2
     exact ⟨i, e1, e2⟩
    ·rw [if_neg d, if_neg c] at e1 e2
     exact ⟨i - 1, e1, e2⟩
   obtain ⟨k, e, b⟩ := T.back i' h' j' f1 f2
   exact ⟨k, e, fun c hc => old (b c hc)⟩
 ·show (t.put j).1.place.size + (t.put j).1.dummies.size = _
  rw [many, put_dm T.dm j]
  rfl
end
end BT
namespace BT
open PySem PySem.Spec PyProof.Rows L2
structure Mild {P : Program} {w : World} {κ : Type} [DecidableEq κ] (HK : HeapKind P w κ) (byv : κ → Bool) : Prop where
 stay : ∀ {h h' : Heap} {k : κ} {a : Addr}, (∀ b o vs n, h.get? b = some o → o.data = .seq vs n → h'.get? b = some o) → HK.is h k a → HK.is h' k a
 rm : ∀ {A : Around}, A.units < cLine → HK.room A
 cls : ∀ {A : Around} {E : Value → Shared → Prop} {s : Shared} {k : κ} {b : Addr} {Q : Bool → Shared → Prop}, HK.is s.heap k b → Q false s → wpAny (model P w) A (ofAClassStatement 8 (.ref b)) Q E s
 val : ∀ {A : Around} {E : Value → Shared → Prop} {s : Shared} {k : κ} {b : Addr} {Q : Bool → Shared → Prop}, HK.is s.heap k b → Q (byv k) s → wpAny (model P w) A (hashByValue 8 (.ref b)) Q E s
section
variable {P : Program} {w : World} {κ : Type} [DecidableEq κ] {HK : HeapKind P w κ} {byv : κ → Bool}
def qfV (HK : HeapKind P w κ) (L : List (Addr × κ)) : List (Int × Value) := L.map fun p => (HK.hash p.2, Value.ref p.1)
def hsh (HK : HeapKind P w κ) (L : List (Addr × κ)) : List Int := L.map fun p => HK.hash p.2
structure StG (HK : HeapKind P w κ) (h : Heap) (a : Addr) (L : List (Addr × κ)) (es : Array (Int × Value)) (ep : Nat) (t : SetTable) : Prop where
 ob : ∃ o, h.get? a = some o ∧ o.ExactSet ∧ o.data = .set es ep t
 row : es.toList = qfV HK L
 tab : Tb t (hsh HK L)
 nd : (L.map (·.2)).Nodup
 mem : ∀ p ∈ L, HK.is h p.2 p.1
 led : w.params.followText "set-order" = true ∨ t.led = true
 room : L.length * 5 < t.mask * 3
 few : L.length < 4096
variable {A : Around} {E : Value → Shared → Prop} {s : Shared} {a : Addr} {L : List (Addr × κ)} {es : Array (Int × Value)} {ep : Nat} {t : SetTable}
end
end BT
namespace BT
open PySem PySem.Spec PyProof.Rows L2
end BT
namespace BT
open PySem PySem.Spec PyProof.Rows L2
section
variable {P : Program} {w : World} {κ : Type} [DecidableEq κ] {HK : HeapKind P w κ} {byv : κ → Bool}
variable {A : Around} {E : Value → Shared → Prop} {s : Shared}
abbrev qaz (w : World) : SetTable := .fresh 0 0 (!w.params.followText "set-order")
abbrev qeI (w : World) : Obj := { cls := .type "set", dict := none, data := .set #[] 0 (qaz w) }
theorem StG.empty {h : Heap} {a : Addr} (ho : h.get? a = some (qeI w)) : StG HK h a [] #[] 0 (qaz w) := by
 have tb : Tb (qaz w) (hsh HK ([] : List (Addr × κ))) := ⟨List.Pairwise.nil, rfl, rfl, .inl rfl, fun i h j e => nomatch (show ([] : List Int)[i]? = some h from e)⟩
 refine ⟨⟨_, ho, ⟨rfl, rfl, rfl⟩, rfl⟩, rfl, tb, List.nodup_nil, (fun p hp => nomatch hp), ?_, by show 0 * 5 < 7 * 3; decide, by show 0 < 4096; decide⟩
 show (w.params.followText "set-order" = true ∨ (!w.params.followText "set-order") = true)
 cases w.params.followText "set-order" with
 | true => exact .inl rfl
 | false => exact .inr rfl
theorem StG.keep (M : Mild HK byv) {h h' : Heap} {a : Addr} {L : List (Addr × κ)} {es : Array (Int × Value)} {ep : Nat} {t : SetTable} (R : StG HK h a L es ep t) (ha : ∀ o, h.get? a = some o → h'.get? a = some o) (hm : ∀ p ∈ L, HK.is h' p.2 p.1) : StG HK h' a L es ep t := by
 obtain ⟨o, ho, r⟩ := R.ob
 exact { R with ob := ⟨o, ha o ho, r⟩, mem := hm }
end
end BT
namespace BT
open PySem PySem.Spec PyProof.Rows L2
end BT
namespace BX
open PySem PySem.Spec PyProof.Rows L2 BT
def dd {α : Type} [DecidableEq α] : List α → List α
 | [] => []
 | x :: xs => if x ∈ dd xs then dd xs else x :: dd xs
end BX
namespace BX
open PySem PySem.Spec PyProof.Rows L2 BT
end BX
namespace BX
open PySem PySem.Spec PyProof.Rows L2
structure Sw (n k : Nat) (d : D) : Prop where
 nd : d.ndc = true
 sh : d.pd.showable = true
 dp : d.pd.depth ≤ k
 lv : d.pd.leavesShort 13 = true
 bk : d.pd.bulk ≤ n
 ok : ∀ c ∈ d.pd.shown.cps.toList, c < 1114112
theorem Sw.up {n k n' k' : Nat} {d : D} (h : Sw n k d) (a : n ≤ n') (b : k ≤ k') : Sw n' k' d := ⟨h.nd, h.sh, Nat.le_trans h.dp b, h.lv, Nat.le_trans h.bk a, h.ok⟩
theorem V1 : ∀ ds : List D, (pdL ds).length = ds.length
 | [] => by rw [pdL]; rfl
 | d :: ds => by rw [pdL, List.length_cons, List.length_cons, V1 ds]
theorem Sw.go {n k : Nat} {d : D} (h : Sw n k d) (hn : n ≤ 1000000) (hk : k ≤ 90) : ShOk d ∧ PyData.strOk (strD d) = true := by
 refine ⟨⟨h.nd, h.sh, Nat.le_trans h.dp hk, ?_⟩, ?_⟩
 ·have a := PyData.shown_le_bulk 13 (by decide) d.pd h.lv
  have b := h.bk
  rw [sizeLine_eq]
  omega
 ·unfold PyData.strOk strD
  rw [← Array.all_toList, List.all_eq_true]
  intro c hc
  exact decide_eq_true (h.ok c hc)
end BX
namespace TX
open PySem PySem.Spec PyProof.Rows L2 BX
theorem qep {i : Int} (h : i.natAbs.log2 < 1920) : OpN (op1 bStr) [.int i] (.str (Str.ofString (toString i))) := fun k q => ⟨h, q⟩
section
variable {α : Type} [DecidableEq α] {f : α → D} {l : List α} {e : En} {r : R} {Q : R → En → Prop}
class Inj {α : Type} (tl : α → List Int) : Prop where
 inj : ∀ a b, tl a = tl b → a = b
instance : Inj tl2 := ⟨fun a b h => by simp only [tl2, List.cons.injEq, and_true] at h; exact Prod.ext h.1 h.2⟩
instance : Inj tl3 := ⟨fun a b h => by simp only [tl3, List.cons.injEq, and_true] at h; exact Prod.ext h.1 (Prod.ext h.2.1 h.2.2)⟩
instance : Inj tl4 := ⟨fun a b h => by simp only [tl4, List.cons.injEq, and_true] at h; exact Prod.ext h.1 (Prod.ext h.2.1 (Prod.ext h.2.2.1 h.2.2.2))⟩
end
end TX
namespace BX
open PySem PySem.Spec PyProof.Rows L2 RT L2.DX
end BX
namespace BX
open PySem PySem.Spec PyProof.Rows L2 RT L2.DX
end BX
namespace TX
open PySem PySem.Spec PyProof.Rows L2 BX
end TX
namespace BX
open PySem PySem.Spec PyProof.Rows L2
def GR (K : PySem.W.Frag) (d : D) (u : Value) : Prop := ∃ v : V, RelV v u ∧ ∀ H, Rep K H 2 d v []
theorem qeE {K : PySem.W.Frag} (i : Str) (t : Tok) : GR K (.str i) (.str i t) := ⟨.str i, ⟨_, rfl⟩, fun _ => .str i⟩
def Gv (K : PySem.W.Frag) (mg : Str → Option Value) (x : Str) (d : D) : Prop := ∃ u, mg x = some u ∧ GR K d u
theorem qdf {X : Cx} {x : Str} {pos : Pos} {d : D} (hg : Gl X x) (h : Gv X.K X.mg x d) (hd : (x == ("__debug__" : Str)) = false := by decide) : DE X (.Name x pos) (dG d) := by
 obtain ⟨u, hm, v, rv, rp⟩ := h
 refine ⟨PE.imp (pe_glob hg hm rv hd) fun σ H Q q => ?_, fun env Q Q' h q => h _ _ q⟩
 obtain ⟨env, f, A, q⟩ := q
 have rp := rp H
 show Q v H
 have q : U8 X.K σ H env f Q (mkRo true d) env := q
 cases d with
 | non => exact q v H f _ A (.tmp rp.non0 ql) .refl .refl
 | bl b => exact q v H f _ A (.tmp rp.bl0 ql) .refl .refl
 | int b => exact q v H f _ A (.tmp rp.int0 ql) .refl .refl
 | str b => exact q v H f _ A (.tmp rp.str0 ql) .refl .refl
 | tup ds => exact q v H f _ A (.ro rp ql) .refl .refl
 | lst ds => exact q v H f _ A (.ro rp ql) .refl .refl
 | dT ds => exact q v H f _ A (.ro rp ql) .refl .refl
 | dK ds => exact q v H f _ A (.ro rp ql) .refl .refl
 | dF ds => exact q v H f _ A (.ro rp ql) .refl .refl
 | lF ds => exact q v H f _ A (.ro rp ql) .refl .refl
 | ob n fs => exact q v H f _ A (.ro rp ql) .refl .refl
 | ex n fs => exact q v H f _ A (.ro rp ql) .refl .refl
 | dN kvs => exact q v H f _ A (.ro rp ql) .refl .refl
 | dG kvs => exact q v H f _ A (.ro rp ql) .refl .refl
 | op x => exact q v H f _ A (.ro rp ql) .refl .refl
end BX
namespace BX
open PySem PySem.Spec PyProof.Rows L2 RT
end BX
namespace BX
open PySem PySem.Spec PyProof.Rows L2 RT PySem.W
end BX
namespace TX
open PySem PySem.Spec PyProof.Rows L2 BX
theorem c_GS {s : Str} {e : En} {Q : R → En → Prop} (q : aR Q (.tmp (.str s)) e) : dG (.str s) e Q := q
end TX
namespace BX
open PySem TX
end BX
namespace BX
open PySem PySem.Spec PyProof.Rows L2
end BX
namespace TX
open PySem PySem.Spec PyProof.Rows L2 BX
end TX
namespace BX
open PySem PySem.Spec PyProof.Rows L2 RT PySem.W
end BX
namespace BT
open PySem PySem.Spec PyProof.Rows L2
end BT
namespace BX
open PySem PySem.Spec PyProof.Rows L2 RT BT
end BX
namespace BX
open PySem PySem.Spec PyProof.Rows L2 RT
end BX
namespace TX
open PySem PySem.Spec PyProof.Rows L2 BX
end TX
namespace BX
open PySem PySem.Spec PyProof.Rows L2 RT
def rdC (r : R) (k : D → Prop) : Prop := match r with
 | .ro _ d => k d
 | .tmp d => d.imm = true ∧ k d
 | .sl _ => False
end BX
namespace TX
open PySem PySem.Spec PyProof.Rows L2 BX
section
variable {e e' : En} {Q : R → En → Prop} {i : Nat} {r r1 r2 r' : R} {nx : En → Prop} {rt : D → En → Prop}
inductive Rc : R → D → Prop
 | ro {c : Bool} {d : D} : Rc (.ro c d) d
 | tmp {d : D} : d.imm = true → Rc (.tmp d) d
theorem Rc.go {d : D} (h : Rc r d) {k : D → Prop} (q : k d) : rdC r k := by
 cases h with
 | ro => exact q
 | tmp im => exact ⟨im, q⟩
end
end TX
namespace BX
open PySem PySem.Spec PyProof.Rows L2 RT
end BX
namespace TX
open PySem PySem.Spec PyProof.Rows L2 BX
end TX
namespace BX
open PySem PySem.Spec PyProof.Rows L2
def isStr : D → Bool
 | .str _ => true
 | _ => false
def strL : List D → Option (List Str)
 | [] => some []
 | .str i :: ds => (strL ds).map (i :: ·)
 | _ :: _ => none
theorem Reps.strL {K : PySem.W.Frag} {H : Hp} {lv : Nat} : ∀ {ds : List D} {vs : List V} {f : List Addr} {ns : List Str}, Reps K H lv ds vs f → BX.strL ds = some ns → vs = ns.map V.str
 | _, _, _, _, .nil, e => by
   rw [BX.strL] at e; cases e; rfl
 | _, _, _, ns, .cons (d := d) (ds := ds) r t _, e => by
   cases r with
   | str i =>
     rw [BX.strL] at e
     obtain ⟨ms, h1, h2⟩ := Option.map_eq_some_iff.mp e
     subst h2
     rw [Reps.strL t h1]
     rfl
   | _ => rw [BX.strL] at e <;> first | (cases e) | (intro i z; cases z)
theorem XN : ∀ l : List Str, strL (l.map .str) = some l
 | [] => rfl
 | i :: l => by rw [List.map_cons, strL, XN l]; rfl
def qcB : D → Option (List Str)
 | .lst ds => strL ds
 | .tup ds => strL ds
 | _ => none
def Uz (a : D) (b : D) (k : D → Prop) : Prop := match a, qcB b with
 | .str x, some ys => (ys.map (·.length)).sum + ys.length * x.length ≤ 16777216 ∧ k (.str (Txt.join x ys))
 | _, _ => False
def Zy : Bn := fun r1 rs e Q => match rs with
 | [r2] => rd 1 r1 e fun d1 => rd 2 r2 e fun d2 => Uz d1 d2 fun d => Q (.tmp d) e
 | _ => False
theorem Uy {d1 d2 : D} {k k' : D → Prop} (h : ∀ d, k d → k' d) (q : Uz d1 d2 k) : Uz d1 d2 k' := by
 unfold Uz at q ⊢
 split at q
 ·exact ⟨q.1, h _ q.2⟩
 ·exact q.elim
def ZM (a b : D) (k : D → Prop) : Prop := match a, b with
 | .str x, .str y => ((y.length == 0) = false ∧ x.length + 2 ≤ sizeLine) ∧ k (.lst ((Txt.split x y).map .str))
 | _, _ => False
def jO : Bn := fun r1 rs e Q => match rs with
 | [r2] => rd 1 r1 e fun d1 => rd 1 r2 e fun d2 => ZM d1 d2 fun d => Q (.tmp d) e
 | _ => False
theorem YX {d1 d2 : D} {k k' : D → Prop} (h : ∀ d, k d → k' d) (q : ZM d1 d2 k) : ZM d1 d2 k' := by
 unfold ZM at q ⊢
 split at q
 ·exact ⟨q.1, h _ q.2⟩
 ·exact q.elim
theorem XM {K : PySem.W.Frag} {H : Hp} {lv : Nat} : ∀ ys : List Str, Reps K H lv (ys.map .str) (ys.map V.str) []
 | [] => .nil
 | y :: ys => .cons (f := []) (g := []) (.str y) (XM ys) (fun _ b hb => by simp at hb)
section
variable {X : Cx}
theorem m_join : MnOk X "str" isStr (fun x xs H Q => ∃ a p, ∃ ys : List Str, x = .str a ∧ xs = [.ref p] ∧ (SqL X.K H p (ys.map V.str) ∨ SqT X.K H p (ys.map V.str)) ∧
 (ys.map (·.length)).sum + ys.length * a.length ≤ 16777216 ∧ Q (.str (Txt.join a ys)) H) Zy where
 ty := fun H d x g r e => by
  cases r with
  | str s => exact rfl
  | _ => cases e
 mono := fun r1 rs e Q Q' h q => by
  unfold Zy at q ⊢
  split at q
  ·exact qL (fun d1 q => qL (fun d2 q => Uy (fun d q => h _ _ q) q) q) q
  ·exact q.elim
 run := fun σ H e f r1 rs x ys g1 gs QQ Q A R1 R2 n q k => by
  unfold Zy at q
  split at q
  ·cases R2 with
   | cons R2 Rt _ =>
     cases Rt
     obtain ⟨d1, g1', p1, q⟩ := yg A R1 q
     obtain ⟨d2, g2', p2, q⟩ := yg A R2 q
     unfold Uz at q
     generalize hz : qcB d2 = o at q
     cases d1 with
     | str a =>
      cases o with
      | none => exact q.elim
      | some zs =>
       obtain ⟨rfl, _⟩ := p1.strV
       cases d2 with
       | lst ds =>
         obtain ⟨p, vs, g, rfl, hq, rr, _⟩ := p2.listSq
         rw [rr.strL hz] at hq
         exact ⟨_, p, zs, rfl, rfl, .inl hq, q.1, k _ _ _ _ _ [] A (.tmp (.str _) ql) XQ .refl q.2⟩
       | tup ds =>
         obtain ⟨p, vs, rfl, hq, rr⟩ := p2.tupleSq
         rw [rr.strL hz] at hq
         exact ⟨_, p, zs, rfl, rfl, .inr hq, q.1, k _ _ _ _ _ [] A (.tmp (.str _) ql) XQ .refl q.2⟩
       | _ => cases hz
     | _ => exact q.elim
  ·exact q.elim
theorem m_split : MnOk X "str" isStr (fun x xs H Q => ∃ a b, x = .str a ∧ xs = [.str b] ∧ (b.length == 0) = false ∧ a.length + 2 ≤ sizeLine ∧ rNewStrs (Txt.split a b) H Q) jO where
 ty := fun H d x g r e => by
  cases r with
  | str s => exact rfl
  | _ => cases e
 mono := fun r1 rs e Q Q' h q => by
  unfold jO at q ⊢
  split at q
  ·exact qL (fun d1 q => qL (fun d2 q => YX (fun d q => h _ _ q) q) q) q
  ·exact q.elim
 run := fun σ H e f r1 rs x ys g1 gs QQ Q A R1 R2 n q k => by
  unfold jO at q
  split at q
  ·cases R2 with
   | cons R2 Rt _ =>
     cases Rt
     obtain ⟨d1, g1', p1, q⟩ := yg A R1 q
     obtain ⟨d2, g2', p2, q⟩ := yg A R2 q
     unfold ZM at q
     split at q
     ·obtain ⟨rfl, _⟩ := p1.strV
      obtain ⟨rfl, _⟩ := p2.strV
      refine ⟨_, _, rfl, rfl, q.1.1, q.1.2, fun p hp => ?_⟩
      obtain ⟨A3, R3, S3⟩ := xX A (Stp.refl (G := [])) (Ext.upd hp) (Qt (X := X) hp (XM (Txt.split _ _)))
      exact k _ _ _ _ _ _ A3 R3 S3.more0 .refl q.2
     ·exact q.elim
  ·exact q.elim
variable {o e : Expr} {es : List Expr} {ta : XE} {u : XA} {cpos apos : Pos}
theorem Zu (ho : DE X o ta) (ha : DA X (e :: es) u) (hbase : attributeBase o "join" X.env (eval o X.env) = eval o X.env := by rfl)
 (hfew : ((backTo cpos (starEach (e :: es) X.env)).all (fun x => !x.1) && (backToKw cpos (keywordEach [] X.env)).all (fun x => x.1.isSome)
  && decide ((e :: es).length + ([] : List Keyword).length + (if ([] : List Keyword).isEmpty then 0 else 1) < 30)) = true := by rfl)
 (hline : (apos.endLine == cpos.line) = true := by rfl) (hs : starEach (e :: es) X.env = (false, eval e X.env) :: starEach es X.env := by rfl) (hplain : (backTo cpos (starEach es X.env)).any (·.1) = false := by rfl) :
 DE X (.Call (.Attribute o "join" apos) (e :: es) [] cpos) (dMn isStr Zy ta u) :=
 qeO m_join PySem.F.plainAttrs_str PySem.F.slot_str_join PySem.F.type_str_join mt_join ho ha hbase hfew hline hs hplain
theorem jK (ho : DE X o ta) (ha : DA X (e :: es) u) (hbase : attributeBase o "split" X.env (eval o X.env) = eval o X.env := by rfl)
 (hfew : ((backTo cpos (starEach (e :: es) X.env)).all (fun x => !x.1) && (backToKw cpos (keywordEach [] X.env)).all (fun x => x.1.isSome)
  && decide ((e :: es).length + ([] : List Keyword).length + (if ([] : List Keyword).isEmpty then 0 else 1) < 30)) = true := by rfl)
 (hline : (apos.endLine == cpos.line) = true := by rfl) (hs : starEach (e :: es) X.env = (false, eval e X.env) :: starEach es X.env := by rfl) (hplain : (backTo cpos (starEach es X.env)).any (·.1) = false := by rfl) :
 DE X (.Call (.Attribute o "split" apos) (e :: es) [] cpos) (dMn isStr jO ta u) :=
 qeO m_split PySem.F.plainAttrs_str PySem.F.slot_str_split PySem.F.type_str_split mt_split ho ha hbase hfew hline hs hplain
end
def sgns (x : Str) : List Str := x.cps.toList.map fun c => ⟨#[c]⟩
def UG (t : XE) : XI := fun env k => t env fun r e => rd 2 r e fun d => match d with
 | .str x => k ((sgns x).map .str) none none e
 | _ => False
theorem signs_get {x : Str} {i : Nat} {d : D} (h : ((sgns x).map D.str)[i]? = some d) : ∃ c, x.cps[i]? = some c ∧ d = .str ⟨#[c]⟩ := by
 unfold sgns at h
 rw [List.map_map, List.getElem?_map] at h
 cases e : x.cps.toList[i]? with
 | none => rw [e] at h; cases h
 | some c =>
   rw [e] at h; cases h
   exact ⟨c, by rw [← Array.getElem?_toList]; exact e, rfl⟩
theorem qdQ {K : PySem.W.Frag} {H0 : Hp} {P : List Addr} {x : Str} : Wk K (Its x) ((sgns x).map .str) none H0 P where
 go := fun i H _ h => by show i < x.cps.size; simpa [sgns] using h
 stop := fun i H _ h => by show x.cps.size ≤ i; simpa [sgns] using h
 yld := fun i H y H' d _ h hy => by
  obtain ⟨rfl, c, hc, rfl⟩ := hy
  obtain ⟨c', hc', rfl⟩ := signs_get h
  rw [hc] at hc'; cases hc'
  exact ⟨fun b o h => h, .str _⟩
section
variable {X : Cx} {tg e : Expr} {t : XE}
theorem JC (ha : DE X e t) : DI X tg e (UG t) := by
 refine ⟨PI.imp (pi_str ha.run) fun σ H R q => ?_, fun env k k' h q => ha.mono _ _ _ (fun r e q => qL (fun d q => ?_) q) q⟩
 ·obtain ⟨env, f, A, q⟩ := q
  refine ⟨env, f, A, ha.mono _ _ _ (fun r1 e1 q => ?_) q⟩
  intro v H1 f1 g A1 R1 S1 K1
  obtain ⟨d, g', rp, q⟩ := yg A1 R1 q
  cases d with
  | str x =>
    obtain ⟨rfl, _⟩ := rp.strV
    exact ⟨x, rfl, q _ H1 f1 [] e1 A1 (S1.drop fun _ z => by simp at z) K1 .none qdQ (fun b hb => by simp at hb) (fun _ b hb => by simp at hb)⟩
  | _ => exact q.elim
 ·cases d with
  | str x => exact h _ _ _ _ q
  | _ => exact q.elim
end
def U7 (d : D) (k : D → Prop) : Prop := match d with
 | .str a => a.length ≤ 640 ∧ match PySem.intText? a with
   | some n => k (.int n)
   | none => False
 | _ => False
section
variable {X : Cx}
theorem qdl : CallD X (.type "int") 2 (op1 U7) := Yn (by decide) (fun pins s σ H x us Q d g I rs r q => by
 unfold U7 at q
 split at q
 ·obtain ⟨rfl, _⟩ := r.strV
  obtain ⟨h1, q⟩ := q
  split at q
  ·rename_i n hn
   exact call_int_str pins s σ H _ us Q I rs ⟨_, n, rfl, hn, h1, q _ _ [] (.int _) .refl⟩
  ·exact q.elim
 ·exact q.elim) (fun d k k' h q => by
 unfold U7 at q ⊢
 split at q
 ·refine ⟨q.1, ?_⟩
  have q2 := q.2
  split at q2
  ·exact h _ q2
  ·exact q2.elim
 ·exact q.elim)
end
def Qy (d : D) (lo hi : Option Int) (k : D → Prop) : Prop := match d with
 | .str x => x.length ≤ sizeLine ∧ k (.str (cutS x lo hi))
 | _ => False
def j6 (t : XE) (lo hi : XO) : XE := fun env Q => t env fun r e => lo e fun l e1 => hi e1 fun u e2 => rd 1 r e2 fun d => Qy d l u fun d' => Q (.tmp d') e2
theorem YZ {d : D} {l u : Option Int} {k k' : D → Prop} (h : ∀ d, k d → k' d) (q : Qy d l u k) : Qy d l u k' := by
 unfold Qy at q ⊢
 split at q
 ·exact ⟨q.1, h _ q.2⟩
 ·exact q.elim
section
variable {X : Cx} {e : Expr} {t : XE} {lo hi : Option Expr} {tl th : XO} {pos p2 : Pos}
theorem jx (ha : DE X e t) (hl : DO X lo tl) (hu : DO X hi th) : DE X (.Subscript e (.Slice lo hi none p2) pos) (j6 t tl th) := by
 refine ⟨PE.imp (pe_slice sl_str ha.run hl.run hu.run) fun σ H Q q => ?_, fun env Q Q' h q => ha.mono _ _ _ (fun r e q => hl.mono _ _ _ (fun o e q => hu.mono _ _ _ (fun o e q => qL (fun d q => YZ (fun d q => h _ _ q) q) q) q) q) q⟩
 obtain ⟨env, f, A, q⟩ := q
 refine ⟨env, f, A, ha.mono _ _ _ (fun r1 e1 q => ?_) q⟩
 intro x H1 f1 g1 A1 R1 S1 K1
 refine ⟨e1, f1, A1, hl.mono _ _ _ (fun l e2 q => ?_) q⟩
 intro H2 f2 A2 S2 K2
 obtain ⟨R2, _⟩ := R1.wait A1 (S2.frame []) K2
 refine ⟨e2, f2, A2, hu.mono _ _ _ (fun u e3 q => ?_) q⟩
 intro H3 f3 A3 S3 K3
 obtain ⟨R3, _⟩ := R2.wait A2 (S3.frame []) K3
 obtain ⟨d, g', rp, q⟩ := yg A3 R3 q
 have S : Stp H env f [] H3 e3 f3 [] := (S1.drop fun _ z => by simp at z).trans (S2.trans S3)
 have Kk : Kp env f e3 f3 := (K1.trans K2).trans K3
 unfold Qy at q
 split at q
 ·obtain ⟨rfl, _⟩ := rp.strV
  exact ⟨_, rfl, q.1, q.2 _ H3 f3 [] A3 (.tmp (.str _) ql) S Kk⟩
 ·exact q.elim
end
end BX
namespace BX
open PySem PySem.Spec PyProof.Rows L2
def ItES (x : Str) : It :=
 ⟨fun i _ => i < x.cps.size, fun i H v H' => ∃ (T : Addr) (c : Nat), x.cps[i]? = some c ∧ H T = none ∧ v = .ref T ∧ H' = L2.upd H T (.tup [.int (i : Nat), .str ⟨#[c]⟩]), fun i _ => x.cps.size ≤ i⟩
theorem qct {P : Program} {w : World} {K : PySem.W.Frag} {elts : List Expr} {kk : Nat} {tpos : Pos} (x : Str) (t : Tok) (en ti : Addr) (ne : en ≠ ti) :
 Turn P w K (.Tuple elts kk tpos) (ItES x) [en, ti] en (fun i h => i ≤ x.cps.size ∧ (∃ z, IsEnum h en ti ((i : Nat) : Int) z) ∧ h.IsStrIter ti (strIterType x) x t i) := by
 have two : ∀ {b : Addr}, b ∈ [en, ti] → b = en ∨ b = ti := fun h => by simpa using h
 have m1 : en ∈ [en, ti] := List.mem_cons_self ..
 have m2 : ti ∈ [en, ti] := List.mem_cons_of_mem _ (List.mem_cons_self ..)
 refine ⟨m1, fun i h st b hb => ?_, fun i h h' st k => ?_, ?_, ?_, fun A i s Q E st h => ?_⟩
 ·obtain ⟨_, ⟨z, e1⟩, o, e2, _, d2⟩ := st
  rcases two hb with rfl | rfl
  ·exact ⟨_, e1, fun v q => by cases q⟩
  ·exact ⟨o, e2, fun v q => by rw [d2] at q; cases q⟩
 ·obtain ⟨l, ⟨z, e1⟩, o, e2, r⟩ := st
  exact ⟨l, ⟨z, k en m1 _ e1⟩, o, k ti m2 o e2, r⟩
 ·rintro X rfl rfl rfl hc i pins s σ H E I hf ⟨hi, ⟨z, e1⟩, e2⟩ hg
  have D := Draws.text (prog := X.prog) (w := X.w) (A := X.A.in1) (I.ok.hd hc) ti x t
  refine wpAny_pyNext_enum_itemD D e1 e2 hg ne (fun q => ne (List.mem_singleton.mp q)) fun v h1 tk ⟨c, u, hcx, ev⟩ ho ht hT hsz hk => ⟨_, rfl, ?_⟩
  refine wpAny_letOwnedTupleGo_enum (s := { s with heap := h1, toks := tk + 1 }) ho fun h2 he2 sb => ?_
  have lt1 : en < s.heap.objs.size := Heap.lt_size e1
  have lt2 : ti < s.heap.objs.size := by obtain ⟨_, q, _⟩ := e2; exact Heap.lt_size q
  have at2 : h2.get? s.heap.objs.size = some { cls := .type "tuple", data := .seq #[.int i tk, v] } := by rw [sb.2 _ (Nat.ne_of_gt lt1)]; exact hT
  have ok : ObjOk X.prog X.w (L2.upd H s.heap.objs.size (.tup [.int (i : Nat), .str ⟨#[c]⟩])) h2 s.heap.objs.size (.tup [.int (i : Nat), .str ⟨#[c]⟩]) := by
   refine ⟨show 2 ≤ sizeLine by decide, [.int i tk, v], ?_, _, at2, rfl, _, rfl⟩
   exact .cons ⟨tk, rfl⟩ (.cons ⟨u, ev⟩ .nil)
  refine ⟨.ref s.heap.objs.size, _, I.turnedNew (t' := tk + 1) (ch := [en, ti]) (fun b o hb q => ?_) hf (Nat.le_refl _) ok, rfl, ⟨_, c, hcx, I.hok.fresh (Nat.le_refl _), rfl, rfl⟩, ⟨hg, ⟨v, by have := he2; simpa using this⟩, ?_⟩, fun b hb => ?_⟩
  ·have n1 : b ≠ en := fun q => hb (q ▸ m1)
   have n2 : b ≠ ti := fun q => hb (q ▸ m2)
   rw [sb.2 b n1]
   exact hk b o n1 n2 q
  ·obtain ⟨o, q, r⟩ := ht
   exact ⟨o, by rw [sb.2 ti fun z => ne z.symm]; exact q, r⟩
  ·have : b < s.heap.objs.size := by rcases two hb with rfl | rfl <;> assumption
   rw [upd_ne (Nat.ne_of_lt this)]
   exact (hf b hb).1
 ·rintro X rfl rfl rfl hc i pins s σ H E I hf ⟨hi, ⟨z, e1⟩, e2⟩ hg
  have D := Draws.text (prog := X.prog) (w := X.w) (A := X.A.in1) (I.ok.hd hc) ti x t
  obtain ⟨f0, f1, f2, f3, f4, f5⟩ := hf ti m2
  have ei : i = x.cps.size := Nat.le_antisymm hi hg
  subst ei
  exact wpAny_pyNext_enum_endD D e1 e2 fun h1 eb => ⟨rfl, I.turned (t' := s.toks) (fun b o hb q => eb b o hb q) f0 f1 f3 f4 f5⟩
 ·obtain ⟨_, ⟨z, e1⟩, _⟩ := st
  exact wpAny_pyIter_enum e1 h
def qeD (K : PySem.W.Frag) (ta : TA) : TI := fun σ H R => ta σ H fun vs H1 => ∃ x, vs = [.str x] ∧ R (ItES x) H1
theorem qf0 {X : Cx} {e : Expr} {ta : TA} {p pos tpos : Pos} {elts : List Expr} {kk : Nat} (hg : Gl X "enumerate") (hm : X.mg "enumerate" = none) (ha : PA X [e] ta) (hs : starEach [e] X.env = [(false, eval e X.env)] := by rfl) :
 PI X (.Tuple elts kk tpos) (.Call (.Name "enumerate" p) [e] [] pos) (qeD X.K ta) := ⟨fun pins s σ H R I h => by
 refine Call_ (ld_blt I hg hm boot_enumerate (PyProof.Rows.callWith_type1 (thn (ha.run pos pins s σ H _ I h) ?_) hs rfl))
 rintro us s1 ⟨vs, H1, I1, r1, x, rfl, q⟩
 cases r1 with
 | cons r1 rt =>
   cases rt
   obtain ⟨t, rfl⟩ := r1
   refine call_enumerate_str fun h1 he hit hsz hk => wpAny_pyIter_enum he ?_
   have I2 : Inv X pins σ H1 { s1 with heap := h1 } := I1.kept (t' := s1.toks) hk
   refine ⟨s1.heap.objs.size + 1, [s1.heap.objs.size + 1, s1.heap.objs.size], _, _, H1, rfl, I2, qct x t _ _ (Nat.succ_ne_self _), ⟨Nat.zero_le _, ⟨.none, he⟩, hit⟩, fun b hb => ?_, q⟩
   have hle : s1.heap.objs.size ≤ b := by
    have : b = s1.heap.objs.size + 1 ∨ b = s1.heap.objs.size := by simpa using hb
    exact this.elim (fun z => z ▸ Nat.le_succ _) fun z => z ▸ Nat.le_refl _
   exact I1.fpOk hle (I1.hok.fresh hle)⟩
def qaq (t : XE) : XI := fun env k => t env fun r e => rd 2 r e fun d => match d with
 | .str x => k ((sgns x).mapIdx fun i s => .tup [.int (i : Nat), .str s]) none none e
 | _ => False
theorem qfR {K : PySem.W.Frag} {H0 : Hp} {P : List Addr} {x : Str} : Wk K (ItES x) ((sgns x).mapIdx fun i s => .tup [.int (i : Nat), .str s]) none H0 P where
 go := fun i H _ h => by show i < x.cps.size; simpa [sgns] using h
 stop := fun i H _ h => by show x.cps.size ≤ i; simpa [sgns] using h
 yld := fun i H y H' d _ h hy => by
  obtain ⟨T, c, hc, hT, rfl, rfl⟩ := hy
  have e : d = .tup [.int (i : Nat), .str ⟨#[c]⟩] := by
   rw [List.getElem?_mapIdx] at h
   unfold sgns at h
   rw [List.getElem?_map] at h
   have : x.cps.toList[i]? = some c := by rw [Array.getElem?_toList]; exact hc
   rw [this] at h
   cases h; rfl
  subst e
  have ex : Ext H (L2.upd H T (.tup [.int (i : Nat), .str ⟨#[c]⟩])) [T] := .upd hT
  exact ⟨ex.same, .tup upd_same (.cons (f := []) (g := []) (.int _) (.cons (f := []) (g := []) (.str _) .nil fun _ b z => by cases z) fun _ b z => by cases z)⟩
section
variable {X : Cx} {e : Expr} {t : XE} {p pos tpos : Pos} {elts : List Expr} {kk : Nat}
theorem qbz (ha : DE X e t) (hm : X.mg "enumerate" = none) (hg : Gl X "enumerate" := by rfl) (hs : starEach [e] X.env = [(false, eval e X.env)] := by rfl) : DI X (.Tuple elts kk tpos) (.Call (.Name "enumerate" p) [e] [] pos) (qaq t) := by
 refine ⟨PI.imp (qf0 hg hm (qb ha qp hs).run hs) fun σ H R q => ?_, fun env k k' h q => ha.mono _ _ _ (fun r e q => qL (fun d q => ?_) q) q⟩
 ·obtain ⟨env, f, A, q⟩ := q
  refine ⟨env, f, A, ha.mono _ _ _ (fun r1 e1 q => ?_) q⟩
  intro vs H1 f1 gs A1 R1 S1 K1
  cases R1 with
  | cons R1 Rt _ =>
    cases Rt
    obtain ⟨d, g', rp, q⟩ := yg A1 R1 q
    cases d with
    | str x =>
      obtain ⟨rfl, _⟩ := rp.strV
      exact ⟨x, rfl, q _ H1 f1 [] e1 A1 (S1.drop fun _ z => by simp at z) K1 .none qfR (fun b hb => by simp at hb) (fun _ b hb => by simp at hb)⟩
    | _ => exact q.elim
 ·cases d with
  | str x => exact h _ _ _ _ q
  | _ => exact q.elim
end
end BX
namespace TX
open PySem PySem.Spec PyProof.Rows L2 BX
section
variable {e e1 e' : En} {L : Nat} {r r1 r2 : R} {d d1 d2 : D} {Q : R → En → Prop} {α : Type}
theorem Q7 {isT : D → Bool} {B : Bn} {ta : XE} {u : XA} (q : ta e fun r1 e1 => (rd 1 r1 e1 fun d => isT d = true) ∧ u e1 fun rs e2 => B r1 rs e2 Q) : dMn isT B ta u e Q := q
theorem QR {isT : D → Bool} {P : Prop} (h : Rv e 1 r d) (ht : isT d = true) (q : P) : (rd 1 r e fun d => isT d = true) ∧ P := ⟨h.rd ht, q⟩
theorem Zf {a : Str} {l : List Str} (h1 : Rv e 1 r1 (.str a)) (h : Rv e 2 r2 (eL D.str l)) (hs : (l.map (·.length)).sum + l.length * a.length ≤ 16777216) (q : aR Q (.tmp (.str (Txt.join a l))) e) : Zy r1 [r2] e Q := by
 refine h1.rd (h.rd ?_)
 have e0 : qcB (eL D.str l) = some l := XN l
 unfold Uz
 rw [e0]
 exact ⟨hs, q⟩
theorem uJ {a b : Str} (h1 : Rv e 1 r1 (.str a)) (h2 : Rv e 1 r2 (.str b)) (hs : (b.length == 0) = false ∧ a.length + 2 ≤ sizeLine) (q : aR Q (.tmp (eL D.str (Txt.split a b))) e) : jO r1 [r2] e Q :=
 h1.rd (h2.rd ⟨hs, q⟩)
theorem JP {t : XE} {k : List D → Option Bool → Lok → En → Prop} (q : t e fun r e => rd 2 r e fun d => match d with
 | .str x => aI k ((sgns x).map .str) none none e
 | _ => False) : UG t e k := q
theorem Jj {x : Str} {k : List D → Option Bool → Lok → En → Prop} (h : Rv e 2 r (.str x)) (q : aI k ((sgns x).map .str) none none e) : rd 2 r e fun d => match d with
 | .str x => aI k ((sgns x).map .str) none none e
 | _ => False := h.rd q
theorem qdm {t : XE} {k : List D → Option Bool → Lok → En → Prop} (q : t e fun r e => rd 2 r e fun d => match d with
 | .str x => aI k ((sgns x).mapIdx fun i s => .tup [.int (i : Nat), .str s]) none none e
 | _ => False) : qaq t e k := q
theorem qcQ {x : Str} {k : List D → Option Bool → Lok → En → Prop} (h : Rv e 2 r (.str x)) (q : aI k ((yN (sgns x)).map (eT2 D.int D.str)) none none e) : rd 2 r e fun d => match d with
 | .str x => aI k ((sgns x).mapIdx fun i s => .tup [.int (i : Nat), .str s]) none none e
 | _ => False := h.rd (by
   have : (yN (sgns x)).map (eT2 D.int D.str) = (sgns x).mapIdx fun i s => .tup [.int (i : Nat), .str s] := by
    refine List.ext_getElem? fun i => ?_
    unfold yN
    rw [List.getElem?_map, List.getElem?_mapIdx, List.getElem?_mapIdx]
    cases (sgns x)[i]? <;> rfl
   rw [this] at q
   exact q)
theorem qer {a : Str} {n : Int} (h : PySem.intText? a = some n) (hl : a.length ≤ 640) : OpN (op1 U7) [.str a] (.int n) := fun k q => by
 unfold op1 U7
 simp only [h]
 exact ⟨hl, q⟩
theorem uZ {a : Str} (h : a.length ≤ sizeLine) : OpN (op1 bLen) [.str a] (.int a.length) := fun k q => ⟨h, q⟩
theorem ug {t : XE} {lo hi : XO} (q : t e fun r e => lo e fun l e1 => hi e1 fun u e2 => rd 1 r e2 fun d => Qy d l u fun d' => aR Q (.tmp d') e2) : j6 t lo hi e Q := q
theorem Uu {x : Str} {lo hi : Option Int} (h : Rv e 1 r (.str x)) (hl : x.length ≤ sizeLine) (q : aR Q (.tmp (.str (cutS x lo hi))) e) : rd 1 r e fun d => Qy d lo hi fun d' => aR Q (.tmp d') e := h.rd ⟨hl, q⟩
theorem ix_S {a x : Str} {i : Int} (h : atI (sgns a) i = some x) (hl : a.length ≤ sizeLine) : IxTo (.str a) (.int i) (.str x) := fun k q => by
 unfold ixd
 refine ⟨hl, ?_⟩
 unfold sgns at h
 have hx : ∃ c, atI a.cps.toList i = some c ∧ x = ⟨#[c]⟩ := by
  unfold atI at h ⊢
  rw [List.length_map] at h
  cases e : ixN a.cps.toList.length i with
  | none => rw [e] at h; cases h
  | some j =>
    rw [e] at h
    simp only [Option.bind_some, List.getElem?_map] at h ⊢
    cases e2 : a.cps.toList[j]? with
    | none => rw [e2] at h; cases h
    | some c => rw [e2] at h; cases h; exact ⟨c, rfl, rfl⟩
 obtain ⟨c, h1, rfl⟩ := hx
 simp only [h1]
 exact q
def inS (t s : Str) : Bool := !(Builtin.Str.occurrences s t 0 s.length 1).isEmpty
theorem op_inS {a b : Str} : OpTo opIn (.str a) (.str b) (.bl (inS a b)) := fun k q => by
 show k (.bl (false != inS a b))
 rw [show (false != inS a b) = inS a b by cases inS a b <;> rfl]; exact q
theorem qcK {a b : Str} : OpTo Y6 (.str a) (.str b) (.bl (!inS a b)) := fun k q => by
 show k (.bl (true != inS a b))
 rw [show (true != inS a b) = !inS a b by cases inS a b <;> rfl]; exact q
end
end TX
namespace BX
open PySem TX
def uh : Str := Str.ofString "0123456789"
abbrev Q8 : D := .str uh
end BX
namespace COM
open PySem PySem.Spec PyProof.Rows L2 BX
local macro_rules
 | `(tactic| and_intros) => `(tactic| simp -implicitDefEqProofs only [sNil, sSeq, VG, sRet, qfU, sIf, qdZ, sAsg, dC, dG, dLst, dTup, aNil, qm, dBin, dAnd, dOr, dNot, dIf, xVal, xAnd, xOr, xNot, xYes, dIdx, dCall, dM1, bAppend, vL, qX, jm, opEq, opNe, sFor, dLc, dNeg, qdi, xIsi, qcn, nob, sPar, sAug, sPut, qc4, dChn, eq_self, true_implies, decide_true, Bool.not_true, decide_false, putB, Yt, wj, isSl, Md.rd, Option.map_none, Option.map_some, Bool.not_true, Bool.not_false, Bool.false_and, Bool.and_false, Nat.reduceBEq, Bool.or_true, Bool.true_or, Bool.or_false, Bool.false_or, Bool.or_self, xVar, xRdS, xRd2, qfn, qcj, qci, qfm, qff, xVbl, qe9, qfa, qe8, qfe, xVdT, xVdK, qfb, qdt, qds, qfd, qfc, xRdT, qfo, qa1, qcm, qcl, qck, xElT, xElR, xElS, qfy, xMbl, qfv, qfw, qfu, qfx, xMdT, xMdK, xStT, xStR, xStS, xSeT, xSmL, xChL, xChT, xChG, xCsO, xCsI, xLm, xTm, xReT, xReR, xReS, qfl, qfk, qfj, qdC, qdB, xSn, qdz, qfi, qdA, xGnT, xGnR, xGnS, xGns, xRmF, xRmT, xMkN, xMkS, xGT, xTT, xKdT, xKdR, xKdS, xGsN, xGsC, xThN, xThS, xTs, xLoT, xLoR, xLoS, xLos, xSeq, xSqL, xSqT, xR1, xR1i, xR2, xR2i, qfQ, qfO, qfP, qfN, qft, qfs, xOpI, xOpC, xLtI, qdy, qfh, qdx, qdu, qfg, qdw, qdv, qdI, qdN, qfD, qfK, qdF, qdK, qdE, qdJ, qdH, qdM, qfB, qfI, qfC, qfJ, qdG, qdL, xIsB, xInB, xInT, xInL, qfL, xInS, xIxL, xIxT, xIxD, xOp, xLnL, xLnT, xLnS, xLnD, xLnK, xAbs, qfF, qfH, xMin, xMax, xTuL, xTuT, xLiL, xLiT, xAll, xAny, xSum, xOp1, xOp2, xIsl, xImI, xImB, xImS, xImN, xImT, xImC, xImE, xSlN, xSlC, xRaN, xRaC, qfE, qfG, xBlD, xPut, qfq, qfp, xOpN, xSoL, xSoT, xSoD, xAt0, xAt1, xAt2, xAt3, xZiR, xZiT, qfr, qdD, Vm, qa0, Vo, Vl, Vk, Vn, qaY, qaZ, Uk, Vr, Um, Uj, Ui, Ul, Vp, Vq, Ve, qaX, Vg, Vd, Vc, Vf, qaV, qaW, YB, Ub, YD, Yz, Yy, YC, J9, Ua, Ue, Vj, Uh, Ud, Uc, Ug, Vh, Vi, qdP, qfM, qdO, xDqI, xDqB, xDqS, xKe2, xKe3, xKe4, qfA, qfz, xOkA, xOkB, xOkC, xIoO, xIoI, List.getElem?_cons_zero, List.getElem?_cons_succ, List.set_cons_zero, List.set_cons_succ, List.length_cons, List.length_nil, List.getD_cons_zero, List.getD_cons_succ, true_and, and_true, Bool.and_self, Bool.and_true, Bool.true_and, List.all_cons, List.all_nil, List.nil_append, List.cons_append, forall_const, Nat.reduceAdd, Nat.reduceLeDiff, Nat.reduceSub, Nat.reduceMul, reduceCtorEq, false_implies, penv, BX.fill, List.zipWith_cons_cons, List.zipWith_nil_left, List.zipWith_nil_right, List.replicate_succ, List.replicate_zero, Nat.zero_add])
def jA : XS :=
 (sSeq (sAsg (dC (.int 0)) (gN 2))
 (sSeq (sIf (xVal (dBin 2 opLt (dVar 1) (dCall 2 (op1 bLen) (qm (dVar 0) aNil)))) (sAsg (dIdx (dVar 0) (dVar 1)) (gN 2)) sNil)
 (sSeq (sAsg (dBin 1 QL (dCall 2 (op1 bAbs) (qm (dVar 2) aNil)) (dCall 2 (op1 bInt) (qm (dBin 2 opGe (dCall 2 (op1 bAbs) (qm (dVar 2) aNil)) (dBin 2 qd7 (dC (.int 10)) (dC (.int 18)))) aNil))) (gN 3))
 (sRet (dLst (qm (dVar 3) (qm (dBin 2 Wf (dBin 1 QL (dBin 2 Wf (dBin 1 wH (dBin 1 wH (dVar 2) (dBin 1 QL (dC (.int 7919)) (dVar 1))) (dC (.int 1))) (dC (.int 2147483647))) (dC (.int 48271))) (dC (.int 2147483647))) aNil)))))))
def jB : XS :=
 (sSeq (sIf (xVal (dBin 2 opGt (dIdx (dVar 0) (dC (.int 0))) (dC (.int 0)))) (sSeq (sAsg (dBin 2 Wf (dIdx (dVar 0) (dC (.int 0))) (dVar 1)) (gN 2))
 (sSeq (sPut (dBin 2 qd8 (dIdx (dVar 0) (dC (.int 0))) (dVar 1)) (dVar 0) (dC (.int 0)))
 (sRet (dVar 2)))) sNil)
 (sSeq (sPut (dBin 2 Wf (dBin 1 wH (dBin 1 QL (dIdx (dVar 0) (dC (.int 1))) (dC (.int 48271))) (dC (.int 12345))) (dC (.int 2147483647))) (dVar 0) (dC (.int 1)))
 (sSeq (sAsg (dBin 2 Wf (dBin 1 QL (dIdx (dVar 0) (dC (.int 1))) (dBin 1 wH (dBin 2 Wf (dIdx (dVar 0) (dC (.int 1))) (dC (.int 1009))) (dC (.int 3)))) (dC (.int 2147483629))) (gN 3))
 (sRet (dBin 2 Wf (dBin 2 Wf (dBin 1 QL (dVar 3) (dBin 1 wH (dBin 2 Wf (dVar 3) (dC (.int 997))) (dC (.int 5)))) (dC (.int 998244353))) (dVar 1))))))
def Yu (a b : Int) : Prop := 0 ≤ a ∧ 0 ≤ b ∧ b < 2 ^ 31
def J5 : FS := ⟨[.cst, .cst], fun ds Q => ∃ (ns : List Int) (k : Nat), ds = [.lst (ns.map .int), .int k] ∧ k ≤ 1000 ∧ ∀ a b, Yu a b → Q (.lst [.int a, .int b]) ds⟩
theorem qeY : BodyOk J5 4 jA := by
 intro ds Q hl h
 obtain ⟨ns, k, rfl, hk, q⟩ := h
 generalize hrt : outD J5 _ Q = rt
 generalize outD J5 _ Q _ = nx
 have p62 : (2 : Int) ^ 62 = 4611686018427387904 := by decide
 have p63 : (2 : Int) ^ 63 = 9223372036854775808 := by decide
 have p31 : (2 : Int) ^ 31 = 2147483648 := by decide
 have p64 : (2 : Int) ^ 64 = 18446744073709551616 := by decide
 unfold jA
 refine QC (fun e => e = [some (.lst (ns.map .int), .cst), some (.int k, .cst), some (.int 0, .own), none]) (fun K hK => ?_) ?_
 ·simp only [J5]
  and_intros
  exact hK _ rfl
 rintro _ rfl
 refine QC (fun e => ∃ c : Int, e = [some (.lst (ns.map .int), .cst), some (.int k, .cst), some (.int c, .own), none]) (fun K hK => ?_) ?_
 ·and_intros
  refine ⟨fun h => ?_, fun _ => hK _ ⟨0, rfl⟩⟩
  have h' := of_decide_eq_true h
  rw [List.length_map] at h'
  have hlt : k < ns.length := by omega
  rw [qbF (List.getElem?_eq_getElem hlt)]
  and_intros
  exact hK _ ⟨_, rfl⟩
 rintro _ ⟨c, rfl⟩
 and_intros
 subst hrt
 refine ⟨by unfold CPow; decide, qaa ?_ ?_, Zh (by omega) (by omega), by decide, qaa (by omega) (by omega), by decide, ?_⟩
 ·split <;> omega
 ·split <;> omega
 ·refine q _ _ ⟨?_, ?_, ?_⟩
  ·split <;> split <;> omega
  ·omega
  ·omega
def J8 : FS := ⟨[.io, .cst], fun ds Q => ∃ a b m : Int, ds = [.lst [.int a, .int b], .int m] ∧ Yu a b ∧ (1 ≤ m ∧ m ≤ 1000000) ∧ ∀ r a' b', 0 ≤ r → r < m → Yu a' b' → Q (.int r) [.lst [.int a', .int b'], .int m]⟩
theorem qe0 : BodyOk J8 4 jB := by
 intro ds Q hl h
 obtain ⟨a, b, m, rfl, ⟨ha0, hb0, hb1⟩, ⟨hm0, hm1⟩, q⟩ := h
 have p63 : (2 : Int) ^ 63 = 9223372036854775808 := by decide
 have p31 : (2 : Int) ^ 31 = 2147483648 := by decide
 have p64 : (2 : Int) ^ 64 = 18446744073709551616 := by decide
 have out : ∀ (r a' b' : Int) (x2 x3 : Option (D × Md)), 0 ≤ r → r < m → Yu a' b' → outD J8 [.lst [.int a, .int b], .int m] Q (.int r) [some (.lst [.int a', .int b'], .io), some (.int m, .cst), x2, x3] := fun r a' b' x2 x3 h0 h1 h2 => q r a' b' h0 h1 h2
 generalize outD J8 _ Q = rt at out ⊢
 generalize rt _ = nx
 have n0 : ixN 2 0 = some 0 := rfl
 have n1 : ixN 2 1 = some 1 := rfl
 unfold jB
 refine QC (fun e => e = [some (.lst [.int a, .int b], .io), some (.int m, .cst), none, none]) (fun K hK => ?_) ?_
 ·simp only [J8]
  and_intros
  simp only [n0]
  and_intros
  refine ⟨fun h => ?_, fun h => hK _ rfl⟩
  simp only [decide_eq_true_eq] at h
  refine ⟨by omega, ⟨by omega, by omega⟩, out _ _ _ _ _ (Int.emod_nonneg _ (by omega)) (Int.emod_lt_of_pos _ (by omega)) ⟨Int.ediv_nonneg ha0 (by omega), hb0, hb1⟩⟩
 rintro _ rfl
 refine QC (fun e => ∃ b : Int, 0 ≤ b ∧ b < 2 ^ 31 ∧ e = [some (.lst [.int a, .int b], .io), some (.int m, .cst), none, none]) (fun K hK => ?_) ?_
 ·and_intros
  simp only [n1]
  and_intros
  exact ⟨Zh (by omega) (by omega), by decide, hK _ ⟨_, Int.emod_nonneg _ (by decide), Int.lt_trans (Int.emod_lt_of_pos _ (by decide)) (by decide), rfl⟩⟩
 rintro _ ⟨b, hb0, hb1, rfl⟩
 refine QC (fun e => ∃ c : Int, 0 ≤ c ∧ c < 2 ^ 31 ∧ e = [some (.lst [.int a, .int b], .io), some (.int m, .cst), none, some (.int c, .own)]) (fun K hK => ?_) ?_
 ·and_intros
  exact ⟨by decide, Zh (by omega) (by omega), by decide, hK _ ⟨_, Int.emod_nonneg _ (by decide), Int.lt_trans (Int.emod_lt_of_pos _ (by decide)) (by decide), rfl⟩⟩
 rintro _ ⟨c, hc0, hc1, rfl⟩
 and_intros
 exact ⟨by decide, Zh (by omega) (by omega), by decide, by omega, out _ _ _ _ _ (Int.emod_nonneg _ (by omega)) (Int.emod_lt_of_pos _ (by omega)) ⟨ha0, hb0, hb1⟩⟩
def uH (wG : FS) : XS :=
 (sSeq (sIf (xVal (dBin 2 opIs (dVar 1) (dC .non))) (sRet (dBin 2 opIs (dVar 0) (dC .non))) sNil)
 (sSeq (sIf (xVal (qcn "list" "tuple" (dVar 1))) (sSeq (sIf (xOr (xVal (dBin 2 opNe (xIsi "list" (dVar 0)) (xIsi "list" (dVar 1)))) (xVal (dBin 2 opNe (xIsi "tuple" (dVar 0)) (xIsi "tuple" (dVar 1))))) (sRet (dC (.bl false))) sNil)
 (sRet (dAnd (dBin 2 opEq (dCall 2 (op1 bLen) (qm (dVar 0) aNil)) (dCall 2 (op1 bLen) (qm (dVar 1) aNil))) (dCall 2 (op1 bAll) (qm (dLc (qc4 (dVar 0) (dVar 1)) (gT 2 (yR (gN 2) (yR (gN 3) Wj))) xYes (dFn wG (qm (dVar 2) (qm (dVar 3) aNil))) [2, 3]) aNil))))) sNil)
 (sSeq (sIf (xVal (xIsi "bool" (dVar 1))) (sRet (dAnd (xIsi "bool" (dVar 0)) (dBin 2 opEq (dVar 0) (dVar 1)))) sNil)
 (sSeq (sIf (xVal (xIsi "str" (dVar 1))) (sRet (dAnd (xIsi "str" (dVar 0)) (dBin 2 opEq (dVar 0) (dVar 1)))) sNil)
 (sRet (dAnd (xIsi "int" (dVar 0)) (dAnd (qdi (xIsi "bool" (dVar 0))) (dBin 2 opEq (dVar 0) (dVar 1)))))))))
def Yv : Nat → D → Prop
 | 0, _ => False
 | n + 1, d => match d with
   | .non => True
   | .bl _ => True
   | .int _ => True
   | .str s => eqOk (.str s) = true
   | .tup xs => xs.length ≤ 1000000 ∧ ∀ x ∈ xs, Yv n x
   | .lst xs => xs.length ≤ 1000000 ∧ ∀ x ∈ xs, Yv n x
   | _ => False
def j7 (n : Nat) : FS := ⟨[.cst, .cst], fun ds Q => ∃ d, ds = [d, d] ∧ Yv n d ∧ Q (.bl true) ds⟩
theorem qex (n : Nat) : uM (j7 n) := fun ds Q Q' h ⟨d, e, t, q⟩ => ⟨d, e, t, h _ _ q⟩
theorem qeZ (n : Nat) : BodyOk (j7 (n + 1)) 4 (uH (j7 n)) := by
 intro ds Q hl h
 obtain ⟨d, rfl, hd, q⟩ := h
 have out : ∀ (x2 x3 : Option (D × Md)), outD (j7 (n + 1)) [d, d] Q (.bl true) [some (d, .cst), some (d, .cst), x2, x3] := fun x2 x3 => q
 generalize outD (j7 (n + 1)) _ Q = rt at out ⊢
 generalize rt _ = nx
 unfold uH
 simp only [show (j7 (n + 1)).ms = [Md.cst, Md.cst] from rfl]
 have lcs : ∀ xs : List D, xs.length ≤ 1000000 → (∀ x ∈ xs, Yv n x) → ∀ (e0 : En) (kk : List D → En → Prop), (e0 = [some (.tup xs, .cst), some (.tup xs, .cst), none, none] ∨ e0 = [some (.lst xs, .cst), some (.lst xs, .cst), none, none]) → kk (xs.map fun _ => .bl true) e0 →
  lcL (gT 2 (yR (gN 2) (yR (gN 3) Wj))) xYes (dFn (j7 n) (qm (dVar 2) (qm (dVar 3) aNil))) (some true) [2, 3] (zipL xs xs) e0 [] kk := by
  intro xs hlen hx e0 kk he hk
  have e : zipL xs xs = xs.map fun x => .tup [x, x] := by
   clear hlen hx hk he
   induction xs with
   | nil => rfl
   | cons x xs ih => rw [List.map_cons, ← ih]; rfl
  rw [e]
  refine qal (fun _ => .bl true) _ _ ?_ ?_ ?_
  ·rw [List.length_map, sizeLine_eq]; simp; omega
  ·rw [List.map_map]; exact hk
  ·intro d hd c k1 hc h1
   obtain ⟨x, hxm, rfl⟩ := List.mem_map.mp hd
   have sx := hx x hxm
   rcases he with rfl | rfl
   ·and_intros
    cases n with
    | zero => exact sx.elim
    | succ n =>
      cases x with
      | dT _ => exact sx.elim
      | dK _ => exact sx.elim
      | dF _ => exact sx.elim
      | lF _ => exact sx.elim
      | ob _ _ => exact sx.elim
      | ex _ _ => exact sx.elim
      | dN _ => exact sx.elim
      | dG _ => exact sx.elim
      | op _ => exact sx.elim
      | _ =>
        simp only [dFn2 (S := j7 (n + 1)) rfl]
        and_intros
        exact ⟨_, rfl, sx, hc, h1⟩
   ·and_intros
    cases n with
    | zero => exact sx.elim
    | succ n =>
      cases x with
      | dT _ => exact sx.elim
      | dK _ => exact sx.elim
      | dF _ => exact sx.elim
      | lF _ => exact sx.elim
      | ob _ _ => exact sx.elim
      | ex _ _ => exact sx.elim
      | dN _ => exact sx.elim
      | dG _ => exact sx.elim
      | op _ => exact sx.elim
      | _ =>
        simp only [dFn2 (S := j7 (n + 1)) rfl]
        and_intros
        exact ⟨_, rfl, sx, hc, h1⟩
 have bt : ∀ xs : List D, bools (xs.map fun _ => D.bl true) = some (xs.map fun _ => true) := fun xs => by
  induction xs with
  | nil => rfl
  | cons x xs ih => rw [List.map_cons, bools, ih]; rfl
 have ba : ∀ xs : List D, (xs.map fun _ => true).all id = true := fun xs => by simp
 cases d with
 | non =>
   and_intros
   exact out _ _
 | bl b =>
   and_intros
   exact out _ _
 | int i =>
   and_intros
   exact out _ _
 | str s =>
   and_intros
   have he : eqOk (.str s) = true := hd
   simp only [he]
   and_intros
   have e : (s == s) = true := by first | exact beq_self_eq_true s | simp
   rw [e]
   exact out _ _
 | tup xs =>
   and_intros
   refine lcs xs hd.1 hd.2 _ _ (.inl rfl) ?_
   unfold JT
   rw [bt]
   and_intros
   rw [ba]
   exact out _ _
 | lst xs =>
   and_intros
   refine lcs xs hd.1 hd.2 _ _ (.inr rfl) ?_
   unfold JT
   rw [bt]
   and_intros
   rw [ba]
   exact out _ _
 | dT _ => exact hd.elim
 | dK _ => exact hd.elim
 | dF _ => exact hd.elim
 | lF _ => exact hd.elim
 | ob _ _ => exact hd.elim
 | ex _ _ => exact hd.elim
 | dN _ => exact hd.elim
 | dG _ => exact hd.elim
 | op _ => exact hd.elim
end COM
namespace TX
open PySem PySem.Spec PyProof.Rows L2 BX
abbrev tC := Str × Int × Int × Int
abbrev zB : Int × Int × Int × Int → D := eT4 D.int D.int D.int D.int
abbrev zP : Int × Int → D := eT2 D.int D.int
abbrev zL := eL zP
abbrev zO (d : D) : Option (D × Md) := some (d, .own)
abbrev zR (d : D) : Option (D × Md) := some (d, .ro)
abbrev zS (d : D) : Option (D × Md) := some (d, .cst)
theorem Rv.z {e : En} {L i : Nat} {d : D} {m : Md} (h : e[i]? = some (some (d, m)) := by rfl) (hm : m.okL L = true := by rfl) : Rv e L (.sl i) d := .sl h hm
end TX
namespace BC
open PySem PySem.Spec PyProof.Rows L2 BX TX COM
def TpOk (t : Int × Int) : Prop := Yu t.1 t.2
def uE (script : List Int) (k : Int) (kr : Int × Int → Prop) : Prop := (0 ≤ k ∧ k ≤ 1000) ∧ ∀ t, TpOk t → kr t
def ym : FS := mkS (α := List Int × Int) (κ := Int × Int) [.cst, .cst] (fun a => [eL D.int a.1, D.int a.2]) (fun a => uE a.1 a.2) (fun r => eP r) fun a r => [eL D.int a.1, D.int a.2]
theorem YJ : BodyOk ym 4 jA := JV qeY rfl fun ds Q h => by
 obtain ⟨⟨ns, k⟩, kr, rfl, ⟨hk, h⟩, q⟩ := h
 refine ⟨ns, k.toNat, ?_, ?_, fun a b t => q (a, b) (h (a, b) t)⟩
 ·show [eL D.int ns, D.int k] = _
  have hk' : k = (k.toNat : Int) := by simp only at hk; omega
  rw [← hk']; rfl
 ·simp only at hk; omega
def qH (t : Int × Int) (m : Int) (kr : Int × (Int × Int) → Prop) : Prop := TpOk t ∧ (1 ≤ m ∧ m ≤ 1000000) ∧ ∀ r : Int × (Int × Int), 0 ≤ r.1 → r.1 < m → TpOk r.2 → kr r
def qw : FS := mkS (α := (Int × Int) × Int) (κ := Int × (Int × Int)) [.io, .cst] (fun a => [eP a.1, D.int a.2]) (fun a => qH a.1 a.2) (fun r => D.int r.1) fun a r => [eP r.2, D.int a.2]
theorem YK : BodyOk qw 4 jB := JV qe0 rfl fun ds Q h => by
 obtain ⟨⟨t, m⟩, kr, rfl, ⟨ht, hm, h⟩, q⟩ := h
 exact ⟨t.1, t.2, m, rfl, ht, hm, fun r a b h0 h1 h2 => q (r, (a, b)) (h (r, (a, b)) h0 h1 h2)⟩
def ZG (n : Nat) (x y : D) (kr : Bool → Prop) : Prop := x = y ∧ Yv n x ∧ kr true
end BC
namespace BC
open PySem PySem.Spec PyProof.Rows L2 BX TX COM
section
variable {α β σ : Type}
theorem Jv {body : α → σ → (σ → Prop) → Prop} {k : σ → Prop} (I : List α → σ → Prop) : ∀ (l pre : List α) (s : σ), I pre s → (∀ (p : List α) (a : α) (q : List α) (s : σ) (kk : σ → Prop), pre ++ l = p ++ a :: q → I p s → (∀ s', I (p ++ [a]) s' → kk s') → body a s kk) → (∀ s, I (pre ++ l) s → k s) → forW l s body k
 | [], pre, s, h0, hs, hk => hk s (by simpa using h0)
 | a :: l, pre, s, h0, hs, hk => hs pre a l s _ rfl h0 fun s' h' => Jv I l (pre ++ [a]) s' h' (fun p b q s kk e => hs p b q s kk (by rw [← e]; simp)) (fun s h => hk s (by simpa using h))
theorem Jw {body : α → σ → (σ → Prop) → Prop} {k : σ → Prop} (I : List α → σ → Prop) {l : List α} {s : σ} (h0 : I [] s) (hs : ∀ (p : List α) (a : α) (q : List α) (s : σ) (kk : σ → Prop), l = p ++ a :: q → I p s → (∀ s', I (p ++ [a]) s' → kk s') → body a s kk) (hk : ∀ s, I l s → k s) : forW l s body k :=
 Jv I l [] s h0 (fun p a q s kk e => hs p a q s kk (by simpa using e)) (by simpa using hk)
theorem Jx {body : α → σ → (σ → Prop) → Prop} {k : σ → Prop} (I : σ → Prop) {l : List α} {s : σ} (h0 : I s) (hs : ∀ a ∈ l, ∀ (s : σ) (kk : σ → Prop), I s → (∀ s', I s' → kk s') → body a s kk) (hk : ∀ s, I s → k s) : forW l s body k :=
 Jw (fun _ s => I s) h0 (fun p a q s kk e h hkk => hs a (by rw [e]; simp) s kk h hkk) hk
theorem qbY {body : α → σ → (Option β → σ → Prop) → Prop} {k : List β → σ → Prop} (F : α → Option β) : ∀ {l : List α} {acc : List β} {s : σ}, (∀ a ∈ l, ∀ (w : Option β → σ → Prop), w (F a) s → body a s w) → k (acc ++ l.filterMap F) s → lcW l acc s body k
 | [], acc, s, _, hk => by
   show k acc s
   simpa using hk
 | a :: l, acc, s, hs, hk => hs a (List.mem_cons_self ..) _ (qbY F (fun b hb => hs b (List.mem_cons_of_mem _ hb)) (by
   rw [List.append_assoc]
   have : (F a).toList ++ l.filterMap F = (a :: l).filterMap F := by
    rw [List.filterMap_cons]; cases F a <;> rfl
   rw [this]; exact hk))
theorem Xi {body : α → σ → (Option β → σ → Prop) → Prop} {k : List β → σ → Prop} (F : α → β) {l : List α} {s : σ} (hs : ∀ a ∈ l, ∀ (w : Option β → σ → Prop), w (some (F a)) s → body a s w) (hk : k (l.map F) s) : lcW l [] s body k :=
 qbY (fun a => some (F a)) hs (by
  have : l.filterMap (fun a => some (F a)) = l.map F := by
   induction l with
   | nil => rfl
   | cons a l ih => simp
  rw [this]; exact hk)
end
theorem qcX {a b x : Int} : x ∈ rng a b ↔ a ≤ x ∧ x < b := by
 unfold rng
 simp only [List.mem_map, List.mem_range]
 constructor
 ·rintro ⟨n, h1, rfl⟩; omega
 ·rintro ⟨h1, h2⟩; exact ⟨(x - a).toNat, by omega, by omega⟩
theorem Zk {a b : Int} : (rng a b).length = (b - a).toNat := by simp [rng]
theorem Wu {a b : Int} (h1 : -1000000 ≤ a) (h2 : a ≤ 1000000) (h3 : -1000000 ≤ b) (h4 : b ≤ 1000000) : Zz a b := by
 unfold Zz; omega
theorem sz : sizeLine = 16777216 := sizeLine_eq
def ltC (c d : Int × Int) : Prop := c.1 < d.1 ∨ (c.1 = d.1 ∧ c.2 < d.2)
instance (c d : Int × Int) : Decidable (ltC c d) := by unfold ltC; infer_instance
end BC
namespace BC
open PySem PySem.Spec PyProof.Rows L2 BX TX COM
end BC
namespace BC
open PySem PySem.Spec PyProof.Rows L2 BX TX COM
theorem yC {t : Int × Int} {m : Int} {kr : Int × (Int × Int) → Prop} (ht : TpOk t) (h1 : 1 ≤ m) (h2 : m ≤ 1000000) (h : ∀ (r : Int) (t' : Int × Int), 0 ≤ r → r < m → TpOk t' → kr (r, t')) : qH t m kr :=
 ⟨ht, ⟨h1, h2⟩, fun r a b c => h r.1 r.2 a b c⟩
def qch (r : List (Int × Int)) : Prop := r.Pairwise ltC ∧ r.length ≤ 144 ∧ ∀ c ∈ r, (0 ≤ c.1 ∧ c.1 ≤ 60) ∧ 0 ≤ c.2 ∧ c.2 ≤ 60
theorem qdV {ns : List Int} {k : Int} {kr : Int × Int → Prop} (h1 : 0 ≤ k) (h2 : k ≤ 1000) (h : ∀ t, TpOk t → kr t) : uE ns k kr := ⟨⟨h1, h2⟩, h⟩
end BC
namespace BC
open PySem PySem.Spec PyProof.Rows L2 BX TX COM
abbrev C2 := Int × Int
def qgr (r : List C2) : Prop := r.Pairwise ltC ∧ r.length ≤ 1000 ∧ ∀ c ∈ r, (0 ≤ c.1 ∧ c.1 ≤ 60) ∧ 0 ≤ c.2 ∧ c.2 ≤ 60
theorem qch.b {r : List C2} (h : qch r) : qgr r := ⟨h.1, by have := h.2.1; omega, h.2.2⟩
end BC
namespace BC
open PySem PySem.Spec PyProof.Rows L2 BX TX COM TL PySem.StrLaws
theorem uP {a : Str} (h : ∀ c ∈ tl a, c < 0x110000) : PyData.strOk a = true := by
 unfold PyData.strOk
 rw [Array.all_eq_true']
 intro c hc
 exact decide_eq_true (h c (Array.mem_toList_iff.mpr hc))
theorem qap (a : Str) (c : Nat) : inS ⟨#[c]⟩ a = decide (c ∈ tl a) := found_one a c
theorem zr (a : Str) : sgns a = (tl a).map fun c => ⟨#[c]⟩ := rfl
theorem len_app (a b : Str) : (a ++ b).length = a.length + b.length := by rw [len_tl, len_tl, len_tl, tl_append, List.length_append]
theorem vf (y : Str) (n : Nat) : ∀ {l : List Str}, (∀ a ∈ l, a.length ≤ n) → (Str.join y l).length ≤ l.length * (n + y.length)
 | [], _ => Nat.zero_le _
 | [a], h => by
   have := h a (List.mem_singleton.mpr rfl)
   show a.length ≤ 1 * _
   omega
 | a :: b :: r, h => by
   have h1 := h a (List.mem_cons_self ..)
   have h2 := vf y n (l := b :: r) fun x hx => h x (List.mem_cons_of_mem _ hx)
   show (a ++ y ++ Str.join y (b :: r)).length ≤ _
   rw [len_app, len_app, List.length_cons, Nat.succ_mul]
   omega
theorem u9 (y : Str) {c : Nat} : ∀ {l : List Str}, c ∈ tl (Str.join y l) → c ∈ tl y ∨ ∃ a ∈ l, c ∈ tl a
 | [], h => absurd h (by show ¬ c ∈ tl Str.empty; simp [tl, Str.empty])
 | [a], h => .inr ⟨a, List.mem_singleton.mpr rfl, h⟩
 | a :: b :: r, h => by
   have h : c ∈ tl (a ++ y ++ Str.join y (b :: r)) := h
   rw [tl_append, tl_append, List.mem_append, List.mem_append] at h
   rcases h with (h | h) | h
   ·exact .inr ⟨a, List.mem_cons_self .., h⟩
   ·exact .inl h
   ·rcases u9 y h with h | ⟨x, hx, h⟩
    ·exact .inl h
    ·exact .inr ⟨x, List.mem_cons_of_mem _ hx, h⟩
theorem Qv (n : Nat) : ∀ {l : List Str}, (∀ a ∈ l, a.length ≤ n) → (l.map (·.length)).sum ≤ l.length * n
 | [], _ => Nat.zero_le _
 | a :: l, h => by
   have h1 := h a (List.mem_cons_self ..)
   have h2 := Qv n (l := l) fun x hx => h x (List.mem_cons_of_mem _ hx)
   rw [List.map_cons, List.sum_cons, List.length_cons, Nat.succ_mul]
   omega
abbrev nlS : Str := Str.ofString "\n"
abbrev blS : Str := Str.ofString " "
theorem qdS : tl nlS = [10] := by rfl
theorem qa7 : tl blS = [32] := by rfl
theorem qbX : nlS.length = 1 := by rfl
theorem qbW : blS.length = 1 := by rfl
theorem qbb {l : List Str} (hne : l ≠ []) (h : ∀ p ∈ l, 10 ∉ tl p) : Txt.split (Txt.join nlS l) nlS = l := split_join qdS (by decide +kernel) hne h
theorem qba {l : List Str} (hne : l ≠ []) (h : ∀ p ∈ l, 32 ∉ tl p) : Txt.split (Txt.join blS l) blS = l := split_join qa7 (by decide +kernel) hne h
abbrev num (i : Int) : Str := Str.ofString (toString i)
theorem len_num {n : Nat} (h : n < 100) : (num (n : Int)).length ≤ 2 := by
 rw [len_tl, tl_num]
 exact numL_len (k := 2) (by decide) h
theorem qay {α : Type} (l : List α) : (yN l).length = l.length := by simp [yN]
theorem QW {α : Type} (l : List α) : (yN l).map (·.2) = l := by
 unfold yN
 refine List.ext_getElem? fun i => ?_
 rw [List.getElem?_map, List.getElem?_mapIdx]
 cases l[i]? <;> rfl
theorem qbv {α : Type} {l : List α} {p : List (Int × α)} {a : Int × α} {q : List (Int × α)} (e : yN l = p ++ a :: q) : a.1 = p.length := by
 have h : (yN l)[p.length]? = some a := by rw [e, List.getElem?_append_right (Nat.le_refl _)]; simp
 unfold yN at h
 rw [List.getElem?_mapIdx] at h
 cases h2 : l[p.length]? with
 | none => rw [h2] at h; cases h
 | some z => rw [h2] at h; cases h; rfl
end BC
namespace BC
open PySem PySem.Spec PyProof.Rows L2 BX TX COM
def yU : XS :=
 (sRet (dAnd (dBin 2 opGt (dVar 1) (dC (.int 0))) (dAnd (dBin 2 opEq (dCall 2 (op1 bLen) (qm (dVar 0) aNil)) (dVar 1)) (dCall 2 (op1 bAll) (qm (dLc (UG (dVar 0)) (gN 2) xYes (dBin 1 opIn (dVar 2) (dC (.str (Str.ofString "#.")))) [2]) aNil)))))
def zU (row : Str) (wide : Int) (kr : Bool → Prop) : Prop :=
 ((decide (0 < wide)) = true → ((row.length ≤ sizeLine) ∧
 True) ∧
 ((decide ((row.length : Int) = wide)) = true → ((sgns row).length ≤ sizeLine) ∧
 True) ∧
 True) ∧
 kr ((decide (0 < wide)) && ((decide ((row.length : Int) = wide)) && (((sgns row).map (fun sign => (inS sign (Str.ofString "#.")))).all id)))
def wz : FS := mkS (α := (Str × Int)) (κ := Bool) [.cst, .cst] (fun a => [D.str a.1, D.int a.2]) (fun a => zU a.1 a.2) (fun r => D.bl r) fun a r => [D.str a.1, D.int a.2]
theorem vZ : BodyOk wz 3 yU := by
 intro ds Q hl h
 obtain ⟨⟨row, wide⟩, kr, rfl, h, q⟩ := h
 refine uL (e' := [_, _, _]) rfl ?_
 unfold yU
 unfold zU at h
 refine s_ret ?_
 obtain ⟨p1, h⟩ := h
 refine qce (decide (0 < wide)) ((decide ((row.length : Int) = wide)) && (((sgns row).map (fun sign => (inS sign (Str.ofString "#.")))).all id)) (fun Q q => ?_) (fun hb Q q => ?_) ?_
 ·skip
  refine qQ <| qu rfl <| c_C <| qP .tmp .tmp Z3 ?_
  exact q
 ·have h := p1 hb
  obtain ⟨p2, h⟩ := h
  obtain ⟨p3, h⟩ := h
  refine qce (decide ((row.length : Int) = wide)) (((sgns row).map (fun sign => (inS sign (Str.ofString "#.")))).all id) (fun Q q => ?_) (fun hb Q q => ?_) ?_
  ·have h := p2
   refine qQ <| zj <| qd <| qu rfl <| qC ?_
   obtain ⟨p4, h⟩ := h
   refine zg (.cons .tmp .nil) (uZ p4) <| qu rfl <| qP .tmp .tmp (op_eq (f := D.int)) ?_
   exact q
  ·have h := p3 hb
   refine zj <| qd <| c_lc <| JP <| qu rfl <| Jj .tmp ?_
   obtain ⟨p5, h⟩ := h
   refine qei (e := [_, _, _]) (fI := D.str) (fo := D.bl) (fun sign => (inS sign (Str.ofString "#."))) (all1 rfl) p5 rfl (fun sign ha c k1 hc h1 => ?_) ?_
   ·skip
    refine g_n (e' := [_, _, _]) rfl rfl (?_)
    refine qQ <| qu rfl <| c_C <| qP .tmp .tmp op_inS ?_
    exact o_el .tmp hc rfl h1
   refine jN (e' := [_, _, _]) rfl <| zA <| qC <| zg (.cons .tmp .nil) qbm ?_
   exact q
  exact q
 refine xM ?_
 exact q ((decide (0 < wide)) && ((decide ((row.length : Int) = wide)) && (((sgns row).map (fun sign => (inS sign (Str.ofString "#.")))).all id))) h
end BC
namespace BC
open PySem PySem.Spec PyProof.Rows L2 BX TX COM
end BC
namespace BC
open PySem PySem.Spec PyProof.Rows L2 BX TX COM TL PySem.StrLaws
end BC
namespace BX
open PySem PySem.Spec PyProof.Rows L2
def dFz (t : XE) : XE := fun env Q => t env fun r e => match r with
 | .tmp (.lst xs) => immL xs = true ∧ Q (.tmp (.lF xs)) e
 | _ => False
section
variable {K : PySem.W.Frag} {σ : L2.St} {H H1 : Hp} {env e1 : En} {f f1 : FA}
theorem qeF {xs : List D} {v : V} {g : List Addr} (A : Abs K σ H1 e1 f1) (R : ResOk K σ H1 e1 f1 (.tmp (.lst xs)) v g) (S : Stp H env f [] H1 e1 f1 g) (im : immL xs = true) :
 ∃ a vs, v = .ref a ∧ H1 a = some (.lst vs) ∧ ∀ od, Abs K σ (L2.upd H1 a (.frz od (.lst vs))) e1 f1 ∧ ResOk K σ (L2.upd H1 a (.frz od (.lst vs))) e1 f1 (.tmp (.lF xs)) v [] ∧ Stp H env f [] (L2.upd H1 a (.frz od (.lst vs))) e1 f1 [] := by
 cases R with
 | tmp rp n =>
   obtain ⟨a, vs, g', rfl, ha, rr, rfl, _⟩ := rp.listAt
   obtain ⟨rfl, r0⟩ := rr.imm (Nat.zero_le _) im
   have na := n a (List.mem_cons_self ..)
   have tk : ∀ (od : Obj) (b : Addr) (o : HO), b ≠ a → H1 b = some o → L2.upd H1 a (.frz od (.lst vs)) b = some o := fun od b o hb h => by rw [upd_ne hb]; exact h
   have mu : ∀ {b : Addr} {o : HO}, H1 b = some o → Mu o = false → b ≠ a := fun {b o} hb z y => by rw [y, ha] at hb; cases hb; cases z
   refine ⟨a, vs, rfl, ha, fun od => ⟨⟨fun i d m e => ?_, A.dis, A.len⟩, .tmp (.lF upd_same (r0.keep fun b o h z => ?_)) ql, ⟨fun b o h z => ?_, fun b z => ?_⟩⟩⟩
   ·obtain ⟨w, hw, r⟩ := A.rep i d m e
    refine ⟨w, hw, r.keep fun b o hb z => tk od b o ?_ hb⟩
    rcases z with z | z
    ·intro y
     subst y
     by_cases hl : m.lv = 0
     ·exact na.1 ⟨i, d, m, e, hl, z⟩
     ·exact na.2 ⟨i, d, m, e, hl, z⟩
    ·exact mu hb z
   ·rcases z with z | z
    ·simp at z
    ·exact tk od b o (mu h z) h
   ·have h1 := S.same b o h (z.imp_right fun y => ⟨y.1, by simp⟩)
    refine tk od b o (fun y => ?_) h1
    rcases z with z | z
    ·exact mu h1 z y
    ·rcases S.own b (.inr (by rw [y]; exact List.mem_cons_self ..)) with q | q | q
     ·exact z.1 q
     ·simp at q
     ·rw [h] at q; cases q
   ·rcases z with z | z
    ·exact S.own b (.inl z)
    ·simp at z
end
section
variable {X : Cx} {e : Expr} {t : XE}
theorem Yh (ha : DE X e t) : DE X e (dFz t) := by
 refine ⟨⟨fun pins s σ H Q I q => ?_⟩, fun env Q Q' h q => ha.mono _ _ _ (fun r e q => ?_) q⟩
 ·obtain ⟨env, f, A, q⟩ := q
  have go := ha.run.run pins s σ H (fun v H1 => ∃ a vs, v = .ref a ∧ H1 a = some (.lst vs) ∧ ∀ od, Q v (L2.upd H1 a (.frz od (.lst vs)))) I ⟨env, f, A, ha.mono _ _ _ (fun r e1 q => ?_) q⟩
  ·refine thn go fun u s1 ⟨x, H1, I1, rx, a, vs, ex, h1, q⟩ => ?_
   obtain ⟨od, I2⟩ := I1.lock h1 trivial
   exact ⟨x, _, I2, rx, q od⟩
  ·intro v H1 f1 g A1 R1 S1 K1
   cases r with
   | tmp d =>
     cases d with
     | lst xs =>
       obtain ⟨im, q⟩ := q
       obtain ⟨a, vs, rfl, ha, k⟩ := qeF A1 R1 S1 im
       refine ⟨a, vs, rfl, ha, fun od => ?_⟩
       obtain ⟨A2, R2, S2⟩ := k od
       exact q _ _ f1 [] A2 R2 S2 K1
     | _ => exact q.elim
   | _ => exact q.elim
 ·cases r with
  | tmp d =>
    cases d with
    | lst xs => exact ⟨q.1, h _ _ q.2⟩
    | _ => exact q.elim
  | _ => exact q.elim
end
end BX
namespace BX
open PySem PySem.Spec PyProof.Rows L2
def strJ : D → Str
 | .non => "None"
 | .bl b => if b then "True" else "False"
 | .int i => toString i
 | .str a => a
 | d => strD d
def ShJ : D → Prop
 | .non => True
 | .bl _ => True
 | .int i => i.natAbs.log2 < 1920
 | .str _ => True
 | .tup xs => ShOk (.tup xs)
 | .lF xs => ShOk (.lF xs)
 | _ => False
end BX
namespace TX
open PySem PySem.Spec PyProof.Rows L2 BX
abbrev J := {d : D // d.imm = true}
abbrev eJ (d : J) : D := d.1
instance : Im eJ := ⟨fun d => d.2⟩
def toJ {α : Type} (f : α → D) [Im f] (a : α) : J := ⟨f a, Im.im a⟩
abbrev eF {α : Type} (f : α → D) (l : List α) : D := .lF (l.map f)
instance {α : Type} {f : α → D} [hf : Im f] : Im (eF f) := ⟨fun l => by rw [eF, D.imm]; exact imL l⟩
abbrev eX {α : Type} (f : α → D) (p : Bool × List α) : D := match p.1 with
 | true => eV f p.2
 | false => eF f p.2
instance {α : Type} {f : α → D} [hf : Im f] : Im (eX f) := ⟨fun p => by
 obtain ⟨b, l⟩ := p
 cases b
 ·exact Im.im (f := eF f) l
 ·exact Im.im (f := eV f) l⟩
section
variable {e e1 e' : En} {L : Nat} {r r1 r2 : R} {d d' d1 d2 : D} {Q : R → En → Prop} {α β : Type}
theorem c_fz {t : XE} (q : t e fun r e => match r with
 | .tmp (.lst xs) => immL xs = true ∧ aR Q (.tmp (.lF xs)) e
 | _ => False) : dFz t e Q := q
theorem o_fz {f : α → D} [Im f] {l : List α} (q : aR Q (.tmp (eF f l)) e) : aR (fun r e => match r with
 | .tmp (.lst xs) => immL xs = true ∧ aR Q (.tmp (.lF xs)) e
 | _ => False) (.tmp (eL f l)) e := ⟨imL l, q⟩
variable {kI : List D → Option Bool → Lok → En → Prop}
end
end TX
namespace BX
open PySem PySem.Spec PyProof.Rows L2
structure Sj (n k : Nat) (d : D) : Prop where
 nd : d.ndc = true
 sh : d.pd.showable = true
 dp : d.pd.depth ≤ k
 lv : d.pd.leavesShort 40 = true
 bk : d.pd.bulk ≤ n
 ok : ∀ c ∈ d.pd.shown.cps.toList, c < 1114112
theorem Sj.up {n k n' k' : Nat} {d : D} (h : Sj n k d) (a : n ≤ n') (b : k ≤ k') : Sj n' k' d := ⟨h.nd, h.sh, Nat.le_trans h.dp b, h.lv, Nat.le_trans h.bk a, h.ok⟩
theorem Sj.go {n k : Nat} {d : D} (h : Sj n k d) (hn : n ≤ 300000) (hk : k ≤ 90) : ShOk d ∧ PyData.strOk (strD d) = true := by
 refine ⟨⟨h.nd, h.sh, Nat.le_trans h.dp hk, ?_⟩, ?_⟩
 ·have a := PyData.shown_le_bulk 40 (by decide) d.pd h.lv
  have b := h.bk
  rw [sizeLine_eq]
  omega
 ·unfold PyData.strOk strD
  rw [← Array.all_toList, List.all_eq_true]
  intro c hc
  exact decide_eq_true (h.ok c hc)
theorem Sj.sh_ok {n k : Nat} {d : D} (h : Sj n k d) (hi : d.imm = true) (hn : n ≤ 100000) (hk : k ≤ 90) (hlog : ∀ i, d = .int i → i.natAbs.log2 < 1920) : ShJ d := by
 cases d with
 | non => trivial
 | bl b => trivial
 | int i => exact hlog i rfl
 | str a => trivial
 | tup xs => exact (h.go (by omega) hk).1
 | lF xs => exact (h.go (by omega) hk).1
 | _ => rw [D.imm] at hi; cases hi
theorem Sj.str_ok {n k : Nat} {d : D} (h : Sj n k d) (hi : d.imm = true) (hn : n ≤ 100000) (hk : k ≤ 90) (hs : ∀ a, d = .str a → PyData.strOk a = true) : PyData.strOk (strJ d) = true := by
 cases d with
 | non => decide +kernel
 | bl b => cases b <;> decide +kernel
 | int i =>
   have e : strD (.int i) = strJ (.int i) := by
    show (D.pd (.int i)).shown = _
    rw [D.pd]; exact PyData.shown_int i
   rw [← e]
   exact (h.go (by omega) hk).2
 | str a => exact hs a rfl
 | tup xs => exact (h.go (by omega) hk).2
 | lF xs => exact (h.go (by omega) hk).2
 | _ => rw [D.imm] at hi; cases hi
end BX
namespace BX
open PySem PySem.Spec PyProof.Rows L2
end BX
namespace BX
open PySem PySem.Spec PyProof.Rows L2
open Sem (wp)
end BX
namespace TX
open PySem PySem.Spec PyProof.Rows L2 BX
end TX
namespace BX
open PySem PySem.Spec PyProof.Rows L2
end BX
namespace BX
open PySem PySem.Spec PyProof.Rows L2
end BX
namespace BX
open PySem PySem.Spec PyProof.Rows L2
theorem ResOk.fresh {K : PySem.W.Frag} {σ : L2.St} {H : Hp} {env : En} {f : FA} {r : R} {v : V} {g : List Addr} (h : ResOk K σ H env f r v g) : ∀ b ∈ g, ¬ L0 env f b ∧ ¬ Ro env f b := by
 cases h with
 | tmp r nn => exact nn
 | ro r nn => exact fun b hb => by simp at hb
 | sl h1 h2 h3 => exact fun b hb => by simp at hb
theorem ResOks.fresh {K : PySem.W.Frag} {σ : L2.St} {H : Hp} {env : En} {f : FA} : ∀ {rs : List R} {vs : List V} {gs : List Addr}, ResOks K σ H env f rs vs gs → ∀ b ∈ gs, ¬ L0 env f b ∧ ¬ Ro env f b
 | _, _, _, .nil, b, hb => by simp at hb
 | _, _, _, .cons r t n, b, hb => (List.mem_append.mp hb).elim (r.fresh b) (t.fresh b)
end BX
namespace BX
open PySem PySem.Spec PyProof.Rows L2
end BX
namespace BX
open PySem PySem.Spec PyProof.Rows L2
end BX
namespace BX
open PySem PySem.Spec PyProof.Rows L2
end BX
namespace BX
open PySem PySem.Spec PyProof.Rows L2
end BX
namespace BX
open PySem PySem.Spec PyProof.Rows L2 RT
end BX
namespace BX
open PySem PySem.Spec PyProof.Rows L2
end BX
namespace BX
open PySem PySem.Spec PyProof.Rows L2
end BX
namespace PySem
end PySem
namespace BX
open PySem PySem.Spec PyProof.Rows L2
theorem KT.tup {H : Hp} {kvs : List (List Key × V)} {xs : List (List Key × Addr × Value)} (r : KT H kvs xs) : ∀ x ∈ xs, H x.2.1 = some (.tup (x.1.map kV)) := by
 induction r with
 | nil => intro x hx; cases hx
 | cons h t ih =>
   intro x hx
   rcases List.mem_cons.mp hx with rfl | hx
   ·rw [← h.1]; exact h.2.1
   ·exact ih x hx
end BX
namespace BX
open PySem PySem.Spec PyProof.Rows L2
end BX
namespace TX
open PySem PySem.Spec PyProof.Rows L2 BX
section
variable {e e1 e2 e' e'' : En} {L i : Nat} {r r1 r2 : R} {d d' d1 d2 dd : D} {Q : R → En → Prop} {n x : Str} {fs fs' : List (Str × D)} {m : Md} {op : OP} {ta te ti : XE} {u : XA} {S : FS} {isT : D → Bool} {B : Bn}
theorem qbh {α β : Type} {f : α → D} {g : β → D} {l : List α} (h : eqOk (eL f l) = true) (_ : True) : OpTo opNe (eL f l) (eL g []) (.bl (!l.isEmpty)) := fun k q => by
 refine ⟨h, (by show eqOk (D.lst []) = true; decide), ?_⟩
 have e : deq (eL f l) (eL g []) = l.isEmpty := by
  cases l with
  | nil => show deq (D.lst []) (D.lst []) = true; decide
  | cons a r =>
    show deq (D.lst (f a :: r.map f)) (D.lst []) = false
    unfold deq
    rw [D.py, D.py]
    rfl
 rw [e]; exact q
variable {kI : List D → Option Bool → Lok → En → Prop}
variable {nx : En → Prop} {rt : D → En → Prop}
end
end TX
namespace BX
open PySem PySem.Spec PyProof.Rows L2
end BX
namespace BX
open PySem PySem.Spec PyProof.Rows L2
end BX
namespace TX
open PySem PySem.Spec PyProof.Rows L2 BX
end TX
namespace TX
open PySem PySem.Spec PyProof.Rows L2 BX
end TX
namespace BX
open PySem PySem.Spec PyProof.Rows L2
def movL : List R → En → List Nat → (List D → Prop) → Prop
 | [], _, _, k => k []
 | .sl i :: rs, env, mv, k => match env[i]? with
   | some (some (d, .own)) => i ∉ mv ∧ movL rs env (i :: mv) fun ds => k (d :: ds)
   | _ => False
 | .tmp d :: rs, env, mv, k => movL rs env mv fun ds => k (d :: ds)
 | .ro c d :: rs, env, mv, k => c = false ∧ d.imm = true ∧ movL rs env mv fun ds => k (d :: ds)
end BX
namespace BX
open PySem PySem.Spec PyProof.Rows L2 RT
end BX
namespace BX
open PySem PySem.Spec PyProof.Rows L2
end BX
namespace BX
open PySem PySem.Spec PyProof.Rows L2
end BX
namespace BX
open PySem PySem.Spec PyProof.Rows L2 RT
end BX
namespace BX
open PySem PySem.Spec PyProof.Rows L2
end BX
namespace BX
open PySem PySem.Spec PyProof.Rows L2
end BX
namespace TX
open PySem PySem.Spec PyProof.Rows L2 BX PySem.W
theorem os_eq {o : Option Str} {b : Str} : deq (eO D.str o) (.str b) = decide (o = some b) := by
 unfold deq
 cases o with
 | none => simp [eO, D.py, PyData.eqv]
 | some a =>
   simp only [eO, D.py, PyData.eqv, Option.some.injEq]
   rw [Bool.eq_iff_iff]
   simp
end TX
namespace TX
open PySem PySem.Spec PyProof.Rows L2 BX
inductive MvL (e : En) : List Nat → List R → List D → Prop
 | nil {mv : List Nat} : MvL e mv [] []
 | sl {mv : List Nat} {i : Nat} {d : D} {rs : List R} {ds : List D} : e[i]? = some (some (d, .own)) → i ∉ mv → MvL e (i :: mv) rs ds → MvL e mv (.sl i :: rs) (d :: ds)
 | tmp {mv : List Nat} {d : D} {rs : List R} {ds : List D} : MvL e mv rs ds → MvL e mv (.tmp d :: rs) (d :: ds)
 | ro {mv : List Nat} {d : D} {rs : List R} {ds : List D} : d.imm = true → MvL e mv rs ds → MvL e mv (.ro false d :: rs) (d :: ds)
theorem MvL.go {e : En} : ∀ {mv : List Nat} {rs : List R} {ds : List D}, MvL e mv rs ds → ∀ {k : List D → Prop}, k ds → movL rs e mv k
 | _, _, _, .nil, k, q => q
 | _, _, _, .sl h n t, k, q => by
   unfold movL
   rw [h]
   exact ⟨n, t.go q⟩
 | _, _, _, .tmp t, k, q => t.go (k := fun ds => k (_ :: ds)) q
 | _, _, _, .ro h t, k, q => ⟨rfl, h, t.go (k := fun ds => k (_ :: ds)) q⟩
end TX
namespace TX
open PySem PySem.Spec PyProof.Rows L2 BX PySem.W
end TX
namespace BX
open TX
end BX
namespace TX
open PySem PySem.Spec PyProof.Rows L2 BX
end TX
namespace TX
open PySem PySem.Spec PyProof.Rows L2 BX PySem.W
end TX
namespace TX
open PySem PySem.Spec PyProof.Rows L2 BX
end TX
namespace TX
open PySem PySem.Spec PyProof.Rows L2 BX
end TX
namespace BX
open PySem PySem.Spec PyProof.Rows L2
end BX
namespace BX
open PySem PySem.Spec PyProof.Rows L2
end BX
namespace BX
open PySem PySem.Spec PyProof.Rows L2
end BX
namespace TX
open PySem PySem.Spec PyProof.Rows L2 BX
end TX
namespace TX
open PySem PySem.Spec PyProof.Rows L2 BX
end TX
namespace TX
open PySem PySem.Spec PyProof.Rows L2 BX
end TX
namespace BX
open PySem PySem.Spec PyProof.Rows L2
end BX
namespace BX
open PySem PySem.Spec PyProof.Rows L2
end BX
namespace BX
open PySem PySem.Spec PyProof.Rows L2
end BX
namespace TX
open PySem PySem.Spec PyProof.Rows L2 BX
end TX
namespace TX
open PySem PySem.Spec PyProof.Rows L2 BX
end TX
namespace BX
open PySem PySem.Spec PyProof.Rows L2
end BX
namespace BX
open PySem PySem.Spec PyProof.Rows L2 RZ
end BX
namespace BX
open PySem PySem.Spec PyProof.Rows L2 HT
end BX
namespace BC
open PySem PySem.Spec PyProof.Rows L2 BX TX COM
abbrev jT (l : List J) : J := toJ (eV eJ) l
structure Sm (n : Nat) (t : J) : Prop where
 sj : Sj n 6 t.1
 log : ∀ i, t.1 = .int i → i.natAbs.log2 < 1920
 str : ∀ a, t.1 = .str a → PyData.strOk a = true
theorem JR : ∀ l : List PyData, l.length ≤ PyData.bulkAll l
 | [] => Nat.zero_le _
 | x :: l => by
   have := JR l
   show l.length + 1 ≤ x.bulk + 1 + PyData.bulkAll l
   omega
theorem Sm.len {n : Nat} {l : List J} (h : Sm n (jT l)) : l.length ≤ n := by
 have e : D.pd (jT l).1 = .tuple (pdL (l.map eJ)) := by show D.pd (.tup _) = _; rw [D.pd]
 have b := h.sj.bk
 rw [e] at b
 have b : PyData.bulkAll (pdL (l.map eJ)) ≤ n := b
 have := JR (pdL (l.map eJ))
 rw [V1, List.length_map] at this
 omega
theorem Sm.sh {n : Nat} {t : J} (h : Sm n t) (hn : n ≤ 100000) : ShJ (eJ t) := h.sj.sh_ok t.2 hn (by decide) h.log
theorem Sm.ok {n : Nat} {t : J} (h : Sm n t) (hn : n ≤ 100000) : PyData.strOk (strJ (eJ t)) = true := h.sj.str_ok t.2 hn (by decide) h.str
section
variable {α σ : Type} {b : Bool} {A B : (σ → Prop) → Prop} {k : σ → Prop} {p q : Prop}
theorem jP (h : b = true) (x : A k) : ifW b A B k := ⟨fun _ => x, fun z => by rw [h] at z; cases z⟩
theorem jH (h : b = false) (x : B k) : ifW b A B k := ⟨fun z => (by rw [h] at z; cases z), fun _ => x⟩
theorem jW (h : b = true) (x : p) : ifP b p q := ⟨fun _ => x, fun z => by rw [h] at z; cases z⟩
theorem jX (h : b = false) (x : q) : ifP b p q := ⟨fun z => (by rw [h] at z; cases z), fun _ => x⟩
end
end BC
namespace TX
open PySem PySem.Spec PyProof.Rows L2 BX
end TX
namespace TX
open PySem PySem.Spec PyProof.Rows L2 BX
end TX
namespace TX
open PySem PySem.Spec PyProof.Rows L2 BX
end TX
namespace BX
open PySem PySem.Spec PyProof.Rows L2
def pkS : Bool → FS → FS → FS
 | false, S0, _ => S0
 | true, _, S1 => S1
section
variable {X : Cx} {k0 k1 : Nat} {ps0 ps1 : List Str} {x0 x1 : Str} {p0 p1 p2 p3 pos : Pos} {e b : Expr} {es : List Expr} {u : XA} {tb : XE} {S0 S1 : FS}
theorem JF {S : FS} {K : PySem.W.Frag} (mS : uM S) (ma : vz u) : yw (dFn S u) := fun env Q Q' h q => ma _ _ _ (fun rs e q => ⟨q.1, q.2.1, xj (fun ds q => mS _ _ _ (fun d es q => h _ _ q) q) q.2.2⟩) q
theorem qas {K : PySem.W.Frag} {S : FS} {σ : L2.St} {H : Hp} {Q : VK} {E : XK} (mS : uM S) (ma : vz u) (q : xN K (dFn S u) σ H Q) : tCall (spOf K S) [] E (Ux K u) σ H Q := by
 obtain ⟨env, f, A, q⟩ := q
 refine ⟨env, f, A, ma _ _ _ (fun rs e q => ?_) q⟩
 intro vs H1 f1 gs A1 R1 S1 K1
 obtain ⟨o1, o2, q⟩ := q
 obtain ⟨ds, fa, l1, l2, Aa, q, back⟩ := Xl A1 R1 o1 o2 q
 rw [List.append_nil]
 refine ⟨l2, ds, fa, l1, Aa, mS _ _ _ (fun d ds' q => ?_) q⟩
 intro v H' f' g l' A' rv ng S' K'
 obtain ⟨f2, A2, R2, S2, K2⟩ := back v d H' f' g ds' l' A' rv ng S' K'
 exact q v H' f2 g A2 R2 (S1.trans S2) (K1.trans K2)
end
end BX
namespace BX
open PySem PySem.Spec PyProof.Rows L2 RT
end BX
namespace BX
open PySem PySem.Spec PyProof.Rows L2
end BX
namespace TX
open PySem PySem.Spec PyProof.Rows L2 BX
end TX
namespace TX
open PySem PySem.Spec PyProof.Rows L2 BX
end TX
namespace TX
open PySem PySem.Spec PyProof.Rows L2 BX
end TX
namespace TX
open PySem PySem.Spec PyProof.Rows L2 BX
end TX
namespace BX
open PySem PySem.Spec PyProof.Rows L2
end BX
namespace BX
open PySem PySem.Spec PyProof.Rows L2
end BX
namespace BX
open PySem PySem.Spec PyProof.Rows L2
end BX
namespace TX
open PySem PySem.Spec PyProof.Rows L2 BX
end TX
namespace BX
open PySem PySem.Spec PyProof.Rows L2
abbrev badD : D := .dT [([], .non), ([], .non)]
def mkX (e : En) : En := some (badD, .own) :: e
def isX (e : En) : Option En := match e with
 | some (.dT [([], .non), ([], .non)], .own) :: e => some e
 | _ => none
theorem qeC (e : En) : isX (mkX e) = some e := rfl
theorem Jq {e e' : En} (h : isX e = some e') : e = mkX e' := by
 unfold isX at h
 split at h
 ·cases h; rfl
 ·cases h
section
variable {K : PySem.W.Frag} {σ σ1 : L2.St} {H H1 : Hp} {env e1 : En} {f f1 : FA}
theorem qf6 {e : En} (A : Abs K σ H (mkX e) f) : False := by
 obtain ⟨v, _, r⟩ := A.rep 0 badD .own rfl
 obtain ⟨a, hs, g, _, _, _, nd, _⟩ := r.dTAt (Nat.zero_le _)
 exact absurd nd (by decide)
theorem qcT {e : En} (A : Abs K σ H e f) : isX e = none := by
 cases h : isX e with
 | none => rfl
 | some e' => rw [Jq h] at A; exact (qf6 A).elim
def Yx (K : PySem.W.Frag) (σ : L2.St) (H : Hp) (env : En) (f : FA) (W : WX) (n : Str) (fs : List (Str × Int)) (e : En) : Prop := ∀ C d σ' H' f', PySem.W.nsIn K mainGlobals n = some (some (.ref C)) → (∀ x, d = some x → H' x = some (.xd (xdV fs))) → (d = none → fs = []) →
 Abs K σ' H' e f' → Stp H env f [] H' e f' [] → Kq σ env f σ' e f' → W (.ref C) d σ' H'
def vN (K : PySem.W.Frag) (σ : L2.St) (H : Hp) (env : En) (f : FA) (W : WX) (P : VK) : D → En → Prop := fun d e => match isX e, d with
 | some e', .ex n fs => Yx K σ H env f W n fs e'
 | some _, _ => False
 | none, d => Wq K σ H env f P d e
def qah (K : PySem.W.Frag) (W : WX) (t : XS) : TS := fun D σ H => ∃ env f, Abs K σ H env f ∧ t env (ZC K σ H env f D.nx) (vN K σ H env f W D.rt)
structure DSX (X : Cx) (W : WX) (st : Stmt) (t : XS) : Prop where
 run : PS X st (qah X.K W t)
 mono : Wc t
structure DSsX (X : Cx) (W : WX) (st : List Stmt) (t : XS) : Prop where
 run : PSs X st (qah X.K W t)
 mono : Wc t
theorem Y4 {W : WX} {P : VK} {d : D} {e : En} (q : vN K σ H env f W P d e) : Wq K σ H env f P d e := by
 intro v σ' H' f' g A R n S Kk
 unfold vN at q
 rw [qcT A] at q
 exact q v σ' H' f' g A R n S Kk
theorem vN.after {W : WX} {P : VK} (S : Stp H env f [] H1 e1 f1 []) (k : Kq σ env f σ1 e1 f1) {d : D} {e : En} (q : vN K σ H env f W P d e) : vN K σ1 H1 e1 f1 W P d e := by
 unfold vN at q ⊢
 split at q
 ·rename_i e' n fs he
  intro C dx σ' H' f' h1 h2 h3 A S' K'
  exact q C dx σ' H' f' h1 h2 h3 A (S.trans S') (k.trans K')
 ·exact q
 ·exact q.after S k
theorem vD {W : WX} {t : XS} {D : Ends} (m : Wc t) (S : Stp H env f [] H1 e1 f1 []) (k : Kq σ env f σ1 e1 f1) (A1 : Abs K σ1 H1 e1 f1) (q : t e1 (ZC K σ H env f D.nx) (vN K σ H env f W D.rt)) : qah K W t D σ1 H1 :=
 ⟨e1, f1, A1, m _ _ _ _ _ (fun e q => q.after S k) (fun d e q => q.after S k) q⟩
end
section
variable {X : Cx} {W : WX} {st : Stmt} {rest : List Stmt} {t u : XS} {e : Expr} {te : XE} {pos : Pos}
theorem DS.x (h : DS X st t) : DSX X W st t := ⟨PS.imp h.run fun D σ H ⟨env, f, A, q⟩ => ⟨env, f, A, h.mono _ _ _ _ _ (fun e q => q) (fun d e q => Y4 q) q⟩, h.mono⟩
theorem DSs.x {sts : List Stmt} (h : DSs X sts t) : DSsX X W sts t := ⟨PSs.imp h.run fun D σ H ⟨env, f, A, q⟩ => ⟨env, f, A, h.mono _ _ _ _ _ (fun e q => q) (fun d e q => Y4 q) q⟩, h.mono⟩
theorem QX (h1 : DSX X W st t) : DSsX X W [st] t := ⟨PSs.imp (pss_one h1.run) fun D σ H q => q, h1.mono⟩
theorem xY (h1 : DSX X W st t) (h2 : DSsX X W rest u) : DSsX X W (st :: rest) (sSeq t u) := by
 refine ⟨PSs.imp (pss_cons h1.run h2.run) fun D σ H q => ?_, fun env nx nx' rt rt' h h' q => h1.mono _ _ _ _ _ (fun e q => h2.mono _ _ _ _ _ h h' q) h' q⟩
 obtain ⟨env, f, A, q⟩ := q
 refine ⟨env, f, A, h1.mono _ _ _ _ _ (fun e q => ?_) (fun d e q => q) q⟩
 intro σ1 H1 f1 A1 S1 K1
 exact vD h2.mono S1 K1 A1 q
theorem qeK {c : Expr} {a b : List Stmt} {tc : XT} (hc : DT X c tc) (ha : DSsX X W a t) (hb : DSsX X W b u) : DSX X W (.If c a b pos) (sIf tc t u) := by
 refine ⟨PS.imp (ps_if hc.run ha.run hb.run) fun D σ H q => ?_, fun env nx nx' rt rt' h h' q => hc.mono _ _ _ (fun b e q => ⟨fun z => ha.mono _ _ _ _ _ h h' (q.1 z), fun z => hb.mono _ _ _ _ _ h h' (q.2 z)⟩) q⟩
 obtain ⟨env, f, A, q⟩ := q
 refine ⟨env, f, A, hc.mono _ _ _ (fun b e1 q => ?_) q⟩
 intro H1 f1 A1 S1 K1
 cases b with
 | true => rw [if_pos rfl]; exact vD ha.mono S1 K1.kq A1 (q.1 rfl)
 | false => rw [if_neg Bool.false_ne_true]; exact vD hb.mono S1 K1.kq A1 (q.2 rfl)
def ZL (lk : Lok) (k : D → En → Prop) (d : D) (e : En) : Prop := match isX e with
 | some e' => thaw lk e' fun e3 => k d (mkX e3)
 | none => thaw lk e fun e3 => k d e3
theorem Uq {lk : Lok} {k k' : D → En → Prop} (h : ∀ d e, k d e → k' d e) {d : D} {e : En} (q : ZL lk k d e) : ZL lk k' d e := by
 unfold ZL at q ⊢
 split at q
 ·exact jg (fun e q => h _ _ q) q
 ·exact jg (fun e q => h _ _ q) q
theorem qcw {lk : Lok} {k : En → Prop} {e : En} (q : thaw lk e k) : ∃ e', k e' := by
 unfold thaw at q
 split at q
 ·exact ⟨_, q⟩
 ·split at q
  ·exact ⟨_, q⟩
  ·exact q.elim
def qbg (it : XI) (g : XG) (tb : XS) : XS := fun env nx rt => it env fun ds kd lk e1 => forL g tb kd ds e1 (fun e2 => thaw lk e2 nx) (ZL lk rt)
theorem qb4 {tg it : Expr} {body : List Stmt} {ti : XI} {g : XG} {tb : XS} {ts : List Nat} (hx : Ok X) (hi : DI X tg it ti) (hg : DG X tg ts g) (hb : DSsX X W body tb) (hp : PassesOwn (model X.prog X.w) X.A X.env X.xe) (hs : ∀ x, foldedSetIterable it X.env x = pure x := by intro _; rfl) :
 DSX X W (.For tg it body [] pos) (qbg ti g tb) := by
 refine ⟨PS.imp (ps_for hp hx.calm hi.run hg.run hb.run hs) fun Dn σ H q => ?_, fun env nx nx' rt rt' h h' q => hi.mono _ _ _ (fun ds kd lk e q => QV hg.mono hb.mono ds _ _ _ _ _ (fun e q => jg (fun e q => h _ q) q) (fun d e q => Uq (fun d e q => h' _ _ q) q) q) q⟩
 obtain ⟨env, f, A, q⟩ := q
 refine ⟨env, f, A, hi.mono _ _ _ (fun ds kd lk e1 q => ?_) q⟩
 intro J H1 f1 P env' A1 S1 K1 L Wa hP hPL
 have A1' := L.abs A1
 refine ⟨fun i m σ' H' => m = ds.length - i ∧ i ≤ ds.length ∧ ∃ e f', Abs X.K σ' H' e f' ∧ Stp H1 e1 f1 [] H' e f' [] ∧ Kq σ e1 f1 σ' e f' ∧
  forL g tb kd (ds.drop i) e (fun e2 => thaw lk e2 (ZC X.K σ H env f Dn.nx)) (ZL lk (vN X.K σ H env f W Dn.rt)), ⟨ds.length, by simp, Nat.zero_le _, e1, f1, A1', .refl, .refl, q⟩, fun i m σ' H' w => ?_⟩
 obtain ⟨rfl, hi', e, f', A', S', K', q⟩ := w
 have near : Near H1 P H' := fun b o h z => S'.same b o h (by
  rcases z with z | z
  ·exact .inr ⟨(hP b z).2, by simp⟩
  ·exact .inl z)
 by_cases hlt : i < ds.length
 ·refine .inr ⟨Wa.go i H' near hlt, fun σ2 H2 => _, fun σ2 H2 n2 => ⟨ds.length - (i + 1), by omega, n2⟩, fun x H2 hy => ?_⟩
  obtain ⟨sm, itm⟩ := Wa.yld i H' x H2 ds[i] near (List.getElem?_eq_getElem hlt) hy
  rw [List.drop_eq_getElem_cons hlt] at q
  have nl : kd.isSome = true → ∀ b ∈ P, ¬ L0 e f' b := fun hk b hb z => by
   obtain ⟨j, d1, m1, h1, h2, h3⟩ := z
   cases hr : m1.rd with
   | false =>
     rcases S'.own b (.inl ⟨j, d1, m1, h1, hr, h3⟩) with z | z | z
     ·exact (hP b hb).2 z
     ·simp at z
     ·obtain ⟨o, ho⟩ := (hP b hb).1
      rw [z] at ho; cases ho
   | true =>
     have hm : m1 = .lk := by cases m1 <;> first | rfl | (cases hr; done) | (cases h2; done)
     subst hm
     have h4 := K'.lkr j d1 h1
     obtain ⟨_, _, h5⟩ := K'.lk j d1 h4
     rw [h5] at h3
     exact hPL hk b hb ⟨j, d1, .lk, h4, rfl, h3⟩
  refine ⟨e, f', mkI kd ds[i], [], A'.ext sm, Zo itm nl, hg.mono _ _ _ _ (fun e2 q2 => ?_) q⟩
  intro σ2 f2 A2 S2 K2 _ _ _
  have S3 : Stp H1 e1 f1 [] H2 e2 f2 [] := (S'.ext sm).trans S2
  have K3 := K'.trans K2
  refine ⟨e2, f2, A2, hb.mono _ _ _ _ _ (fun e3 q3 => ?_) (fun d e3 q3 => ?_) q2⟩
  ·intro σ3 H3 f3 A3 S4 K4
   exact ⟨rfl, hlt, e3, f3, A3, S3.trans S4, K3.trans K4, q3⟩
  ·unfold ZL at q3
   unfold vN
   split at q3
   ·rename_i e' he
    rw [he]
    cases d with
    | ex n fs =>
      intro C x σ3 H3 f3 h1 h2 h3 A3 S4 K4
      obtain ⟨e4, q4, A4, S5, K5, _⟩ := vB L A3 (S3.trans S4) (K3.trans K4) q3
      exact (show Yx _ _ _ _ _ _ _ _ _ from q4) C x σ3 H3 f3 h1 h2 h3 A4 (S1.trans S5) (K1.kq.trans K5)
    | _ =>
      obtain ⟨e4, q4⟩ := qcw q3
      exact q4
   ·rename_i he
    rw [he]
    intro v σ3 H3 f3 gg A3 rv nv S4 K4
    obtain ⟨e4, q4, A4, S5, K5, back⟩ := vB L A3 (S3.trans S4) (K3.trans K4) q3
    exact Y4 q4 v σ3 H3 f3 gg A4 rv (fun b hb i d m h hm => by
     obtain ⟨m', h', hm'⟩ := back i d m h hm
     exact nv b hb i d m' h' hm') (S1.trans S5) (K1.kq.trans K5)
 ·have hie : i = ds.length := by omega
  subst hie
  rw [List.drop_length] at q
  obtain ⟨e3, q3, A3, S3, K3, _⟩ := vB L A' S' K' q
  exact .inl ⟨Wa.stop _ _ near (Nat.le_refl _), q3 σ' H' f' A3 (S1.trans S3) (K1.kq.trans K3)⟩
def Yw (K : PySem.W.Frag) (σ : L2.St) (H : Hp) (env : En) (f : FA) (W : WX) (Q : VK) : R → En → Prop := fun r e => match isX e, r with
 | some e', .tmp (.ex n fs) => Yx K σ H env f W n fs e'
 | some _, _ => False
 | none, r => U8 K σ H env f Q r e
def Jl (K : PySem.W.Frag) (W : WX) (t : XE) : TE := fun σ H Q => ∃ env f, Abs K σ H env f ∧ t env (Yw K σ H env f W Q)
structure DEX (X : Cx) (W : WX) (e : Expr) (t : XE) : Prop where
 run : PE X e (Jl X.K W t)
 mono : yw t
def vW (t : XE) : XS := fun env nx rt => t env fun r e => match isX e, r with
 | some _, .tmp d => rt d e
 | some _, _ => False
 | none, _ => nx e
theorem qda (he : DEX X W e te) (hs : swapsWith e none pos.line X.env = pure false := by rfl) : DSX X W (.Expr e pos) (vW te) := by
 refine ⟨PS.imp (ps_expr he.run hs) fun D σ H q => ?_, fun env nx nx' rt rt' h h' q => he.mono _ _ _ (fun r e q => ?_) q⟩
 ·obtain ⟨env, f, A, q⟩ := q
  refine ⟨env, f, A, he.mono _ _ _ (fun r e1 q => ?_) q⟩
  unfold Yw
  split at q
  ·rename_i e' d he
   unfold vN at q
   rw [he] at q ⊢
   cases d with
   | ex n fs => exact q
   | _ => exact q.elim
  ·exact q.elim
  ·rename_i he
   rw [he]
   intro v H1 f1 g A1 R1 S1 K1
   exact q σ H1 f1 A1 (S1.drop (fun _ z => by simp at z)) K1.kq
 ·split at q
  ·exact h' _ _ q
  ·exact q.elim
  ·exact h _ q
end
def Kept (H H' : Hp) : Prop := ∀ b o, H b = some o → H' b = some o
def spX (K : PySem.W.Frag) (S : FS) : Sp := fun vs H Q E => vs.length = S.ms.length ∧ ∃ ds f, ds.length = S.ms.length ∧ Abs K (vs.map some) H (penv S.ms ds) f ∧ S.wp ds fun d ds' => match ds', d with
 | [], .ex n fs => ∀ C x H', PySem.W.nsIn K mainGlobals n = some (some (.ref C)) → (∀ y, x = some y → H' y = some (.xd (xdV fs))) → (x = none → fs = []) → Kept H H' → E (.ref C) x H'
 | _, d => ∀ v H' g, Kept H H' → Rep K H' 0 d v g → (∀ b ∈ g, H b = none) → Q v H'
def RoMs (ms : List Md) : Prop := ∀ m ∈ ms, m = .ro ∨ m = .cst
def outX (S : FS) (ds : List D) (Q : D → List D → Prop) (d : D) (e : En) : Prop := match isX e, d with
 | some _, .ex n fs => Q (.ex n fs) []
 | some _, _ => False
 | none, d => Q d ds
def vO (S : FS) (n : Nat) (t : XS) : Prop := ∀ ds Q, ds.length = S.ms.length → S.wp ds Q → t (penv S.ms ds ++ fill (n - S.ms.length)) (outX S ds Q .non) (outX S ds Q)
structure FnX (P : Program) (w : World) (K : PySem.W.Frag) (mg : Str → Option Value) (base : Heap) (x : Str) (k : Nat) (ps : List Str) (S : FS) : Prop where
 ex : ∃ f fd, FnOk P w K mg base (L2.CX P w) k f fd ps (spX K S) ∧ mg x = some (.ref f) ∧ PySem.W.keepIn K (.ref f) = true ∧ Binds K fd ps []
 mono : uM S
 ne : S.ms ≠ []
def dFnX (S : FS) (u : XA) : XE := fun env Q => u env fun rs e => yq S.ms rs e = true ∧ apart S.ms rs = true ∧ jo 2 rs e fun ds => S.wp ds fun d ds' => match ds' with
 | [] => Q (.tmp d) (mkX e)
 | _ => Q (.tmp d) e
end BX
namespace BX
open PySem PySem.Spec PyProof.Rows L2
section
variable {P : Program} {w : World} {K : PySem.W.Frag} {mg : Str → Option Value} {base : Heap}
theorem U4 {st : Stmt} {N ps : List Str} {S : FS} {t : XS} {H : Hp} {E : XK} {vs : List V} {Q : VK} (Sc : FnScope N ps (defScope st)) (hms : S.ms.length = ps.length) (okm : RoMs S.ms) (hne : S.ms ≠ [])
 (mt : Wc t) (body : vO S N.length t) (h : spX K S vs H Q E) : qah K (fun cls d _ H => E cls d H) t { nx := fun _ H' => Q .non H', rt := Q } (L2.start N vs) H := by
 obtain ⟨hl, ds, fa, hd, Ab, hw⟩ := h
 have hNl : S.ms.length ≤ N.length := by
  have := congrArg List.length Sc.pre
  rw [List.length_take] at this
  omega
 have pl := Ql hd
 have inn : ∀ {i : Nat} {y : D × Md}, (penv S.ms ds ++ fill (N.length - S.ms.length))[i]? = some (some y) → (penv S.ms ds)[i]? = some (some y) := fun {i y} h => by
  by_cases hi : i < (penv S.ms ds).length
  ·rwa [List.getElem?_append_left hi] at h
  ·rw [List.getElem?_append_right (by omega)] at h
   unfold fill at h
   rw [List.getElem?_replicate] at h
   split at h <;> cases h
 have A0 : Abs K (L2.start N vs) H (penv S.ms ds ++ fill (N.length - S.ms.length)) fa := by
  refine ⟨fun i d m h => ?_, fun i j d m d' m' hij h1 h2 => Ab.dis i j d m d' m' hij (inn h1) (inn h2), by unfold L2.start fill; simp [pl, hl]⟩
  obtain ⟨v, h1, r⟩ := Ab.rep i d m (inn h)
  refine ⟨v, ?_, r⟩
  unfold L2.start
  rw [List.getElem?_append_left (List.getElem?_eq_some_iff.mp h1).1]
  exact h1
 have noW : ∀ b, ¬ W (penv S.ms ds ++ fill (N.length - S.ms.length)) fa b := fun b ⟨i, d, m, h1, h2, _⟩ => by
  have h3 := (wV.mp (inn h1)).2
  rcases okm m (List.mem_of_getElem? h3) with rfl | rfl <;> cases h2
 have kept : ∀ {H' : Hp} {e : En} {f' : FA} {g : List Addr}, Stp H (penv S.ms ds ++ fill (N.length - S.ms.length)) fa [] H' e f' g → Kept H H' := fun S' b o h => S'.same b o h (.inr ⟨noW b, by simp⟩)
 refine ⟨_, fa, A0, mt _ _ _ _ _ (fun e q => ?_) (fun d e q => ?_) (body ds _ hd hw)⟩
 ·intro σ' H' f' A' S' K'
  unfold outX at q
  rw [qcT A'] at q
  have q : ∀ v H' g, Kept H H' → Rep K H' 0 .non v g → (∀ b ∈ g, H b = none) → Q v H' := by
   cases hds : ds with
   | nil => exact absurd (List.eq_nil_of_length_eq_zero (by rw [← hd, hds]; rfl)) hne
   | cons _ _ => rw [hds] at q; exact q
  exact q .non H' [] (kept S') .non (fun b hb => by simp at hb)
 ·unfold outX at q
  unfold vN
  cases he : isX e with
  | some e' =>
    rw [he] at q
    cases d with
    | ex n fs =>
      intro C x σ' H' f' h1 h2 h3 A' S' K'
      exact q C x H' h1 h2 h3 (kept S')
    | _ => exact q
  | none =>
    rw [he] at q
    have q : ∀ v H' g, Kept H H' → Rep K H' 0 d v g → (∀ b ∈ g, H b = none) → Q v H' := by
     cases hds : ds with
     | nil => exact absurd (List.eq_nil_of_length_eq_zero (by rw [← hd, hds]; rfl)) hne
     | cons _ _ => rw [hds] at q; exact q
    intro v σ' H' f' g A' rv nv S' K'
    refine q v H' g (kept S') rv fun b hb => ?_
    rcases S'.own b (.inr hb) with z | z | z
    ·exact (noW b z).elim
    ·simp at z
    ·exact z
theorem qbt {x qual : Str} {st : Stmt} {f : Addr} {fd : FuncData} {N ps : List Str} {k : Nat} {S : FS} {t : XS} (F : Fun K x qual st f fd) (Sc : FnScope N ps (defScope st)) (hms : S.ms.length = ps.length) (okm : RoMs S.ms) (hne : S.ms ≠ [])
 (der : ∀ (cdv : Value) (A : Around) (outer : List PySem.Env) (s : Shared) (H : Hp) (E : XK), Room k (A.deeper (envOfC qual (defScope st) s.heap.objs.size f cdv)) → DSsX (cxOf (L2.CX P w) P w K mg base N qual (defScope st) f cdv A outer s H E) (fun cls d _ H => E cls d H) (defBody st) t) (body : vO S N.length t) :
 FnOk P w K mg base (L2.CX P w) (k + 1) f fd ps (spX K S) := by
 refine F.okX Sc (fun vs H Q E h => by rw [h.1, hms]) (fun cdv A outer s H vs Q E hr h => ?_)
 have Dr := der cdv A outer s H E hr
 exact ⟨_, Dr.run, U4 Sc hms okm hne Dr.mono body h⟩
end
end BX
namespace BX
open PySem PySem.Spec PyProof.Rows L2
end BX
namespace BX
open PySem PySem.Spec PyProof.Rows L2
structure XcF (K : PySem.W.Frag) (C : Addr) : Prop where
 c0 : (PySem.W.clsIn K C).isSome = true
 c1 : PySem.W.findIn K (.ref C) "__getattribute__" = some (some (.builtin "BaseException.__getattribute__"))
 c2 : ∃ gt, PySem.W.findIn K (.ref C) "__getattr__" = some gt
 c3 : PySem.W.subIn K (.ref C) (.type "BaseException") = some true
 c4 : PySem.W.findIn K (.ref C) "__class__" = some (some (.builtin "object.__class__"))
 c5 : PySem.W.specialIn K (.builtin "object.__class__") "__get__" = some (some (.builtin "getset_descriptor.__get__"))
 c6 : PySem.W.takesIn K (.builtin "object.__class__") = some true
 c7 : PySem.W.mroIn K C (.type "object") = some true
structure IsX (K : PySem.W.Frag) (u : Value) (n : Str) (b : Bool) : Prop where
 ok : ∀ C, PySem.W.nsIn K mainGlobals n = some (some (.ref C)) → XcF K C ∧ PySem.W.kitOne K (.ref C) u = some b
end BX
namespace BX
open PySem PySem.Spec PyProof.Rows L2
structure ExM (K : PySem.W.Frag) (c : Value) (n : Str) : Prop where
 ok : ∀ C, PySem.W.nsIn K mainGlobals n = some (some (.ref C)) → PySem.W.exmOne K (.ref C) c = some true
section
variable {X : Cx} {x n y : Str} {c : Value} {i l : Nat} {e : Expr} {te : XE} {np p1 p2 p3 p4 hp pos : Pos} {ns : List Str}
theorem qaU {K : PySem.W.Frag} {σ : L2.St} {H : Hp} {env : En} {f : FA} {o : Option V} (A : Abs K σ H env f) (h : env[i]? = some none) : Abs K (σ.set i o) H env f :=
 ⟨fun j d m hj => by
  obtain ⟨v, h1, r⟩ := A.rep j d m hj
  have ne : i ≠ j := fun z => by subst z; rw [h] at hj; cases hj
  exact ⟨v, by rw [List.getElem?_set_ne ne]; exact h1, r⟩, A.dis, by rw [List.length_set]; exact A.len⟩
end
end BX
namespace BX
open PySem PySem.Spec PyProof.Rows L2
structure Cl (K : PySem.W.Frag) (mg : Str → Option Value) (x : Str) (ns : List Str) : Prop where
 ex : ∃ c, mg x = some c ∧ ∀ n ∈ ns, ExM K c n
structure Xk (K : PySem.W.Frag) (mg : Str → Option Value) (T : Str) (tab : List (Str × Bool)) : Prop where
 ex : ∃ C, mg T = some (.ref C) ∧ PySem.W.kitOne K (.type "NoneType") (.ref C) = some false ∧ ∀ p ∈ tab, IsX K (.ref C) p.1 p.2
structure XkB (K : PySem.W.Frag) (mg : Str → Option Value) (T : Str) (T0 : String) (tab : List (Str × Bool)) : Prop where
 ex : mg T = none ∧ PySem.W.kitOne K (.type "NoneType") (.type T0) = some false ∧ ∀ p ∈ tab, IsX K (.type T0) p.1 p.2
section
variable {K : PySem.W.Frag} {mg : Str → Option Value} {h : Heap} {C D : Addr}
theorem kcls {v : Option Bool} {t : Value} (h2 : PySem.W.isClsIn K D = true) (h3 : PySem.W.typeIn K (.ref D) = some (.type "type")) (h4 : PySem.W.subIn K t (.ref D) = v) : PySem.W.kitCls K t (.ref D) = v := by
 unfold PySem.W.kitCls
 have h2 : (PySem.W.clsIn K D).isSome = true := h2
 have e : ((PySem.W.clsIn K D).isSome && PySem.W.typeIn K (.ref D) == some (.type "type")) = true := by rw [h2, h3]; rfl
 dsimp only
 rw [if_pos e, h4]
theorem qc8 (h1 : PySem.W.subIn K (.ref D) (.type "BaseException") = some true) (h2 : PySem.W.isClsIn K D = true) (h3 : PySem.W.typeIn K (.ref D) = some (.type "type")) (h4 : PySem.W.subIn K (.ref C) (.ref D) = some true) : PySem.W.exmOne K (.ref C) (.ref D) = some true := by
 have e : (PySem.W.subIn K (.ref D) (.type "BaseException") == some true) = true := by rw [h1]; rfl
 unfold PySem.W.exmOne
 rw [if_pos e]
 exact kcls h2 h3 h4
theorem qc0 (h2 : PySem.W.isClsIn K D = true) (h3 : PySem.W.typeIn K (.ref D) = some (.type "type")) (h4 : PySem.W.subIn K (.ref C) (.ref D) = some true) : PySem.W.kitOne K (.ref C) (.ref D) = some true := by
 unfold PySem.W.kitOne
 split
 ·rfl
 ·exact kcls h2 h3 h4
theorem qeB (h2 : PySem.W.isClsIn K D = true) (h3 : PySem.W.typeIn K (.ref D) = some (.type "type")) (h4 : PySem.W.subIn K (.ref C) (.ref D) = some false) (h5 : PySem.W.subIn K (.ref D) (.ref D) = some true) : PySem.W.kitOne K (.ref C) (.ref D) = some false := by
 unfold PySem.W.kitOne
 split
 ·rename_i e
  have e : Value.ref C = Value.ref D := beq_iff_eq.mp e
  rw [e, h5] at h4
  cases h4
 ·exact kcls h2 h3 h4
theorem qc2 (h2 : PySem.W.isClsIn K D = true) (h3 : PySem.W.typeIn K (.ref D) = some (.type "type")) (h4 : PySem.W.subIn K (.type "NoneType") (.ref D) = some false) : PySem.W.kitOne K (.type "NoneType") (.ref D) = some false := by
 unfold PySem.W.kitOne
 split
 ·rename_i e
  exact absurd (beq_iff_eq.mp e) (fun z => nomatch z)
 ·exact kcls h2 h3 h4
theorem qc1 {T : String} {b : Bool} (h : PySem.W.kitMeta T = true) (s : PySem.W.subIn K (.ref C) (.type T) = some b) : PySem.W.kitOne K (.ref C) (.type T) = some b := by
 unfold PySem.W.kitOne
 split
 ·rename_i e
  exact absurd (beq_iff_eq.mp e) (fun z => nomatch z)
 ·unfold PySem.W.kitCls
  dsimp only
  rw [if_pos h, s]
theorem qad {n : Str} {u : Value} {b : Bool} (a : PySem.W.nsIn K mainGlobals n = some (some (.ref C))) (F : XcF K C) (k : PySem.W.kitOne K (.ref C) u = some b) : IsX K u n b := ⟨fun C' h => by rw [a] at h; cases h; exact ⟨F, k⟩⟩
theorem qew {n : Str} {c : Value} (a : PySem.W.nsIn K mainGlobals n = some (some (.ref C))) (k : PySem.W.exmOne K (.ref C) c = some true) : ExM K c n := ⟨fun C' h => by rw [a] at h; cases h; exact k⟩
theorem qgf {x : Str} {ns : List Str} (X : K.In h) (G : h.Ns mainGlobals mg) (a : PySem.W.nsIn K mainGlobals x = some (some (.ref D))) (k : ∀ n ∈ ns, ExM K (.ref D) n) : Cl K mg x ns := ⟨_, PySem.W.mg_of X G a, k⟩
theorem qgb {x : Str} {tab : List (Str × Bool)} (X : K.In h) (G : h.Ns mainGlobals mg) (a : PySem.W.nsIn K mainGlobals x = some (some (.ref D))) (n : PySem.W.kitOne K (.type "NoneType") (.ref D) = some false) (k : ∀ p ∈ tab, IsX K (.ref D) p.1 p.2) : Xk K mg x tab := ⟨D, PySem.W.mg_of X G a, n, k⟩
theorem qeu {x : Str} {T : String} {tab : List (Str × Bool)} (X : K.In h) (G : h.Ns mainGlobals mg) (a : PySem.W.nsIn K mainGlobals x = some none) (n : PySem.W.kitOne K (.type "NoneType") (.type T) = some false) (k : ∀ p ∈ tab, IsX K (.type T) p.1 p.2) : XkB K mg x T tab := ⟨PySem.W.mg_none_of X G a, n, k⟩
theorem all_nil {α : Type} {P : α → Prop} : ∀ p ∈ ([] : List α), P p := fun p h => by cases h
theorem Wb {α : Type} {P : α → Prop} {a : α} {l : List α} (h : P a) (t : ∀ p ∈ l, P p) : ∀ p ∈ a :: l, P p := fun p hp => by
 rcases List.mem_cons.mp hp with rfl | hp
 ·exact h
 ·exact t p hp
end
end BX
namespace BX
open PySem PySem.Spec PyProof.Rows L2 RT L2.DX
end BX
namespace BX
open PySem PySem.Spec PyProof.Rows L2
end BX
namespace TX
open PySem PySem.Spec PyProof.Rows L2 BX
abbrev Exc := Str × List (Str × Int)
def eEx (x : Exc) : D := .ex x.1 x.2
instance : Nn eEx := ⟨fun _ => rfl⟩
def foX {κ : Type} (fo : κ → D) : Exc ⊕ κ → D
 | .inl x => eEx x
 | .inr v => fo v
def odX {α κ : Type} (ia : α → List D) (a : α) : Exc ⊕ κ → List D
 | .inl _ => []
 | .inr _ => ia a
abbrev mkSX {α κ : Type} (ms : List Md) (ia : α → List D) (w : α → (Exc ⊕ κ → Prop) → Prop) (fo : κ → D) : FS := mkS ms ia w (foX fo) (odX ia)
section
variable {e e' : En} {nx : En → Prop} {rt : D → En → Prop} {i l : Nat} {α κ : Type} {ms : List Md} {ia : α → List D} {w : α → (Exc ⊕ κ → Prop) → Prop} {fo : κ → D} {rs : List R} {Q : R → En → Prop} {r r1 r2 : R}
theorem qbL {it : XI} {g : XG} {tb : XS} (q : it e fun ds kd lk e1 => forL g tb kd ds e1 (fun e2 => thaw lk e2 nx) (ZL lk rt)) : qbg it g tb e nx rt := q
theorem Jh {lk : Lok} {k : D → En → Prop} {d : D} (q : thaw lk e fun e3 => k d (mkX e3)) : ZL lk k d (mkX e) := q
theorem qbT {j : Nat} : yw (dVar j) := fun env Q Q' h q => by
 unfold dVar at q ⊢
 split at q <;> first | exact q.elim | exact h _ _ q
theorem qbU : vz aNil := fun env Q Q' h q => h _ _ q
theorem qaf {t : XE} {u : XA} (m : yw t) (n : vz u) : vz (qm t u) := fun env Q Q' h q => m _ _ _ (fun r e q => n _ _ _ (fun rs e q => h _ _ q) q) q
theorem VF {S : FS} {u : XA} (q : u e fun rs e1 => yq S.ms rs e1 = true ∧ apart S.ms rs = true ∧ jo 2 rs e1 fun ds => S.wp ds fun d ds' => match ds' with
 | [] => rt d (mkX e1)
 | _ => isX e1 = none ∧ aN nx e1) (hu : vz u) (hS : uM S) : vW (dFnX S u) e nx rt :=
 hu _ _ _ (fun rs e1 q => ⟨q.1, q.2.1, xj (fun ds q => hS _ _ _ (fun d ds' q => by
  cases ds' with
  | nil => exact q
  | cons _ _ =>
    obtain ⟨h, q⟩ := q
    show (match isX e1, R.tmp d with
     | some _, .tmp d => rt d e1
     | some _, _ => False
     | none, _ => nx e1)
    rw [h]
    exact q) q) q.2.2⟩) q
theorem Vb (a : α) {k : Exc ⊕ κ → Prop} (h : w a k) (hr : RvL e 2 rs (ia a)) (h1 : yq ms rs e = true) (h2 : apart ms rs = true) (he : isX e = none) (hn : ia a ≠ []) (qx : ∀ x, k (.inl x) → rt (eEx x) (mkX e)) (q : ∀ v, k (.inr v) → aN nx e) :
 yq (mkSX ms ia w fo).ms rs e = true ∧ apart (mkSX ms ia w fo).ms rs = true ∧ jo 2 rs e fun ds => (mkSX ms ia w fo).wp ds fun d ds' => match ds' with
  | [] => rt d (mkX e)
  | _ => isX e = none ∧ aN nx e :=
 ⟨h1, h2, hr.go (k := fun ds => (mkSX ms ia w fo).wp ds fun d ds' => match ds' with
  | [] => rt d (mkX e)
  | _ => isX e = none ∧ aN nx e) ⟨a, k, rfl, h, fun r hk => by
  cases r with
  | inl x => exact qx x hk
  | inr v =>
    show (match ia a with
    | [] => rt (fo v) (mkX e)
    | _ => isX e = none ∧ aN nx e)
    cases hia : ia a with
    | nil => exact absurd hia hn
    | cons _ _ => exact ⟨he, q v hk⟩⟩⟩
end
end TX
namespace BX
open PySem PySem.Spec PyProof.Rows L2
structure Xd (K : PySem.W.Frag) (n : Str) (D : Addr) : Prop where
 a : PySem.W.nsIn K mainGlobals n = some (some (.ref D))
 c : PySem.W.isClsIn K D = true
 t : PySem.W.typeIn K (.ref D) = some (.type "type")
 b : PySem.W.subIn K (.ref D) (.type "BaseException") = some true
 s : PySem.W.subIn K (.ref D) (.ref D) = some true
 nn : PySem.W.subIn K (.type "NoneType") (.ref D) = some false
theorem qbq {K : PySem.W.Frag} {T : String} (h : PySem.W.kitMeta T = true) (ne : ("NoneType" : String) ≠ T) (s : PySem.W.subIn K (.type "NoneType") (.type T) = some false) : PySem.W.kitOne K (.type "NoneType") (.type T) = some false := by
 unfold PySem.W.kitOne
 split
 ·rename_i e
  have := beq_iff_eq.mp e
  injection this with e
  exact absurd e ne
 ·unfold PySem.W.kitCls
  dsimp only
  rw [if_pos h, s]
theorem qgc {K : PySem.W.Frag} {C : Addr} {gt : Option Value} (c0 : PySem.W.isClsIn K C = true) (c1 : PySem.W.findIn K (.ref C) "__getattribute__" = some (some (.builtin "BaseException.__getattribute__"))) (c2 : PySem.W.findIn K (.ref C) "__getattr__" = some gt)
 (c3 : PySem.W.subIn K (.ref C) (.type "BaseException") = some true) (c4 : PySem.W.findIn K (.ref C) "__class__" = some (some (.builtin "object.__class__"))) (c5 : PySem.W.specialIn K (.builtin "object.__class__") "__get__" = some (some (.builtin "getset_descriptor.__get__")))
 (c6 : PySem.W.takesIn K (.builtin "object.__class__") = some true) (c7 : PySem.W.mroIn K C (.type "object") = some true) : XcF K C := ⟨c0, c1, ⟨gt, c2⟩, c3, c4, c5, c6, c7⟩
section
variable {P : Program} {w : World} {K : PySem.W.Frag} {mg : Str → Option Value} {base h : Heap} {n m : Str} {C D : Addr}
theorem Xd.yes (c : Xd K n C) (F : XcF K C) (d : Xd K m D) (s : PySem.W.subIn K (.ref C) (.ref D) = some true) : IsX K (.ref D) n true := qad c.a F (qc0 d.c d.t s)
theorem Xd.no (c : Xd K n C) (F : XcF K C) (d : Xd K m D) (s : PySem.W.subIn K (.ref C) (.ref D) = some false) : IsX K (.ref D) n false := qad c.a F (qeB d.c d.t s d.s)
theorem Xd.ty {T : String} {b : Bool} (c : Xd K n C) (F : XcF K C) (h : PySem.W.kitMeta T = true) (s : PySem.W.subIn K (.ref C) (.type T) = some b) : IsX K (.type T) n b := qad c.a F (qc1 h s)
theorem Xd.exm (c : Xd K n C) (d : Xd K m D) (s : PySem.W.subIn K (.ref C) (.ref D) = some true) : ExM K (.ref D) n := qew c.a (qc8 d.b d.c d.t s)
theorem Xd.cl {ns : List Str} (d : Xd K m D) (X : K.In h) (G : h.Ns mainGlobals mg) (k : ∀ n ∈ ns, ExM K (.ref D) n) : Cl K mg m ns := qgf X G d.a k
theorem Xd.xk {tab : List (Str × Bool)} (d : Xd K m D) (X : K.In h) (G : h.Ns mainGlobals mg) (k : ∀ p ∈ tab, IsX K (.ref D) p.1 p.2) : Xk K mg m tab := qgb X G d.a (qc2 d.c d.t d.nn) k
variable {x y : Str} {st : Stmt} {N ps : List Str} {j k : Nat} {S : FS} {t : XS}
theorem fux (F : FnX P w K mg base x j ps S) (h : j ≤ k := by decide) : FnX P w K mg base x k ps S :=
 let ⟨f, fd, a, b⟩ := F.ex; ⟨⟨f, fd, a.mono h, b⟩, F.mono, F.ne⟩
abbrev DerX (P : Program) (w : World) (K : PySem.W.Frag) (mg : Str → Option Value) (base : Heap) (N : List Str) (y : Str) (st : Stmt) (k : Nat) (t : XS) : Prop :=
 ∀ (f : Addr) (cdv : Value) (A : Around) (outer : List PySem.Env) (s : Shared) (H : Hp) (E : XK), Room k (A.deeper (envOfC y (defScope st) s.heap.objs.size f cdv)) → DSsX (cxOf (L2.CX P w) P w K mg base N y (defScope st) f cdv A outer s H E) (fun cls d _ H => E cls d H) (defBody st) t
abbrev HbX (y : Str) (st : Stmt) (ps : List Str) : Prop := ∀ (kV doc pm : Value) (an : Option Addr) (cdv ct : Value) (us : List Value), us.length = ps.length → bindArgs (PySem.W.fnOf y y (defArgs st) (defBody st) (defScope st) Value.none kV doc pm an cdv ct) { pos := us } = pure (ps.zip us)
theorem fmX (k : Nat) {f : Addr} {fd : FuncData} (X : K.In h) (G : h.Ns mainGlobals mg) (a : PySem.W.nsIn K mainGlobals x = some (some (.ref f))) (U : Fun K y y st f fd) (Sc : FnScope N ps (defScope st)) (D : DerX P w K mg base N y st k t) (B : vO S N.length t) (M : uM S)
 (hb : HbX y st ps := by intro _ _ _ _ _ _ us hl; rcases us with _ | ⟨_, _ | ⟨_, _ | ⟨_, _ | ⟨_, _ | ⟨_, _ | ⟨_, us⟩⟩⟩⟩⟩⟩ <;> first | (simp at hl; done) | rfl) (hms : S.ms.length = ps.length := by rfl) (okm : RoMs S.ms := by unfold RoMs; decide) (hne : S.ms ≠ [] := by decide) : FnX P w K mg base x (k + 1) ps S :=
 ⟨⟨f, fd, qbt U Sc hms okm hne (D f) B, PySem.W.mg_of X G a, U.kp, U.binds hb⟩, M, hne⟩
end
end BX
namespace BX
open PySem PySem.Spec PyProof.Rows L2
structure Pn (X : Cx) (q C : Addr) (dd : Option Addr) : Prop where
 ex : ∃ ob fv, (q, ob) ∈ X.pn ∧ Zc (.ref C) dd ob ∧ ob.data = .fields fv
section
variable {X : Cx} {q C : Addr} {dd : Option Addr} {fs : List (Str × V)}
theorem Jr {pins : List (Addr × Obj)} {σ : L2.St} {H : Hp} {s : Shared} (I : Inv X pins σ H s) (P : Pn X q C dd) (hd : ∀ y, dd = some y → H y = some (.xd fs)) : ∃ oe od, PySem.W.InstAt s.heap q oe C od := by
 obtain ⟨ob, fv, hp, z, hdat⟩ := P.ex
 have g := (I.pin (q, ob) (List.mem_append_left _ hp)).1
 have no : PySem.W.notCls ob = true := by unfold PySem.W.notCls; rw [hdat]
 cases hdd : dd with
 | none =>
   rw [hdd] at z
   exact ⟨ob, none, g, z.1, no, by rw [z.2]; trivial⟩
 | some y =>
   rw [hdd] at z
   obtain ⟨mA, ⟨o, es, ep, e1, _⟩, _⟩ := (show ObjOk X.prog X.w H s.heap y (.xd fs) from I.hok y _ (hd y hdd))
   exact ⟨ob, some o, g, z.1, no, by rw [z.2]; exact e1⟩
def rIsP (q : Addr) (dd : Option Addr) (fs : List (Str × V)) (u : Value) (b : Bool) : List V → Hp → VK → Prop := fun xs H Q => ∃ c, xs = [.ref q, c] ∧ ClsV c u ∧ (∀ y, dd = some y → H y = some (.xd fs)) ∧ Q (.bl b) H
theorem qb9 {u : Value} {b : Bool} (P : Pn X q C dd) (F : XcF X.K C) (e : PySem.W.kitOne X.K (.ref C) u = some b) : CallR X (.builtin "isinstance") (rIsP q dd fs u b) := by
 intro pins s σ H xs us Q I r h
 obtain ⟨c, rfl, kc, hd, qq⟩ := h
 obtain ⟨u1, u2, rfl, r1, r2⟩ := vals2 r
 have e2 := kc.eq r2
 subst e2
 cases (show u1 = Value.ref q from r1)
 obtain ⟨oe, od, inst⟩ := Jr I P hd
 obtain ⟨gt, hg⟩ := F.c2
 exact PySem.W.kia_one (PySem.W.kitx_exc F.c0 F.c1 hg F.c3 F.c4 F.c5 F.c6 F.c7) I.kIn inst e (fun z => nomatch z) fun tk => ⟨.bl b, H, I.tok tk, rfl, qq⟩
def qfY (q : Addr) (dd : Option Addr) (fs : List (Str × V)) (us : List Value) (b : Bool) : List V → Hp → VK → Prop := fun xs H Q => ∃ tp cs, xs = [.ref q, .ref tp] ∧ H tp = some (.tup cs) ∧ Paired ClsV cs us ∧ (∀ y, dd = some y → H y = some (.xd fs)) ∧ Q (.bl b) H
theorem qdj {us : List Value} {b : Bool} (P : Pn X q C dd) (F : XcF X.K C) (e : PySem.W.kitAny X.K (.ref C) us = some b) : CallR X (.builtin "isinstance") (qfY q dd fs us b) := by
 intro pins s σ H xs vs Q I r h
 obtain ⟨tp, cs, rfl, hT, k, hd, qq⟩ := h
 obtain ⟨u1, u2, rfl, r1, r2⟩ := vals2 r
 cases (show u1 = Value.ref q from r1)
 obtain rfl : u2 = Value.ref tp := r2
 obtain ⟨oe, od, inst⟩ := Jr I P hd
 obtain ⟨gt, hg⟩ := F.c2
 obtain ⟨_, its, rv, ⟨oc, ods, dt, sl⟩, h1, h2, n, h3⟩ := (show ObjOk X.prog X.w H s.heap tp (.tup cs) from I.hok tp _ hT)
 obtain rfl := ClsV.all k rv
 simp only at h2 h3
 subst h2 h3
 exact PySem.W.kia_tup (PySem.W.kitx_exc F.c0 F.c1 hg F.c3 F.c4 F.c5 F.c6 F.c7) I.kIn inst h1 e (fun z => nomatch z) fun tk => ⟨.bl b, H, I.tok tk, rfl, qq⟩
def tPin (i : Nat) (q : Addr) (dd : Option Addr) (fs : List (Str × V)) (b : Bool) : TE := fun σ H Q => σ[i]? = some (some (.ref q)) ∧ (∀ y, dd = some y → H y = some (.xd fs)) ∧ Q (.bl b) H
variable {i : Nat} {n T T2 : Str} {p p1 p2 p3 p4 pos : Pos} {x1 : Nat}
theorem qd5 {D : Addr} {b : Bool} (P : Pn X q C dd) (F : XcF X.K C) (hm : X.mg "isinstance" = none) (hmT : X.mg T = some (.ref D)) (e : PySem.W.kitOne X.K (.ref C) (.ref D) = some b) (hi : X.N[i]? = some n) (hv : Vis X.env.scope n) (hnd : (n == ("__debug__" : Str)) = false) (hncd : (n == ("__classdict__" : Str)) = false)
 (hg : Gl X "isinstance") (hgT : Gl X T) (hd : (T == ("__debug__" : Str)) = false) (h1 : starEach [.Name n p1, .Name T p2] X.env = (false, eval (.Name n p1) X.env) :: starEach [.Name T p2] X.env) (h2 : starEach [Expr.Name T p2] X.env = (false, eval (.Name T p2) X.env) :: starEach [] X.env)
 (hpl : (backTo pos (starEach [Expr.Name T p2] X.env)).any (·.1) = false) : PE X (.Call (.Name "isinstance" p) [.Name n p1, .Name T p2] [] pos) (tPin i q dd fs b) :=
 PE.imp (pe_callB (qb9 (fs := fs) P F e) hg hm (by rfl) (pa_cons (pe_var hi hv hnd hncd) (pa_cons (pe_glob (v := .ref D) hgT hmT rfl hd) pa_nil h2) h1) (by decide) (by decide) h1 hpl) fun σ H Q ⟨a, b, c⟩ => ⟨_, a, _, rfl, ClsV.own D, b, c⟩
theorem qcI {T0 : String} {b : Bool} (P : Pn X q C dd) (F : XcF X.K C) (hm : X.mg "isinstance" = none) (hmT : X.mg T = none) (hT : bootBuiltins T = some (.type T0)) (e : PySem.W.kitOne X.K (.ref C) (.type T0) = some b) (hi : X.N[i]? = some n) (hv : Vis X.env.scope n) (hnd : (n == ("__debug__" : Str)) = false) (hncd : (n == ("__classdict__" : Str)) = false)
 (hg : Gl X "isinstance") (hgT : Gl X T) (hnn : T ≠ "__name__") (hd : (T == ("__debug__" : Str)) = false) (h1 : starEach [.Name n p1, .Name T p2] X.env = (false, eval (.Name n p1) X.env) :: starEach [.Name T p2] X.env) (h2 : starEach [Expr.Name T p2] X.env = (false, eval (.Name T p2) X.env) :: starEach [] X.env)
 (hpl : (backTo pos (starEach [Expr.Name T p2] X.env)).any (·.1) = false) : PE X (.Call (.Name "isinstance" p) [.Name n p1, .Name T p2] [] pos) (tPin i q dd fs b) :=
 PE.imp (pe_callB (qb9 (fs := fs) P F e) hg hm (by rfl) (pa_cons (pe_var hi hv hnd hncd) (pa_cons (pe_bltn (v := .ty T0) hgT hmT hT rfl hnn hd) pa_nil h2) h1) (by decide) (by decide) h1 hpl) fun σ H Q ⟨a, b, c⟩ => ⟨_, a, _, rfl, ClsV.ty T0, b, c⟩
theorem qcJ {D D2 : Addr} {b : Bool} (P : Pn X q C dd) (F : XcF X.K C) (hm : X.mg "isinstance" = none) (hmT : X.mg T = some (.ref D)) (hmT2 : X.mg T2 = some (.ref D2)) (e : PySem.W.kitAny X.K (.ref C) [.ref D, .ref D2] = some b) (hi : X.N[i]? = some n) (hv : Vis X.env.scope n) (hnd : (n == ("__debug__" : Str)) = false) (hncd : (n == ("__classdict__" : Str)) = false)
 (hg : Gl X "isinstance") (hgT : Gl X T) (hgT2 : Gl X T2) (hd : (T == ("__debug__" : Str)) = false) (hd2 : (T2 == ("__debug__" : Str)) = false)
 (h1 : starEach [.Name n p1, .Tuple [.Name T p2, .Name T2 p3] x1 p4] X.env = (false, eval (.Name n p1) X.env) :: starEach [.Tuple [.Name T p2, .Name T2 p3] x1 p4] X.env) (h2 : starEach [Expr.Tuple [.Name T p2, .Name T2 p3] x1 p4] X.env = (false, eval (.Tuple [.Name T p2, .Name T2 p3] x1 p4) X.env) :: starEach [] X.env)
 (h3 : starEach [Expr.Name T p2, .Name T2 p3] X.env = (false, eval (.Name T p2) X.env) :: starEach [.Name T2 p3] X.env) (h4 : starEach [Expr.Name T2 p3] X.env = (false, eval (.Name T2 p3) X.env) :: starEach [] X.env)
 (hpl : (backTo pos (starEach [Expr.Tuple [.Name T p2, .Name T2 p3] x1 p4] X.env)).any (·.1) = false) : PE X (.Call (.Name "isinstance" p) [.Name n p1, .Tuple [.Name T p2, .Name T2 p3] x1 p4] [] pos) (fun σ H Q => σ[i]? = some (some (.ref q)) ∧ (∀ y, dd = some y → H y = some (.xd fs)) ∧ ∀ tp, H tp = none → Q (.bl b) (L2.upd H tp (.tup [.ref D, .ref D2]))) :=
 PE.imp (pe_callB (qdj (fs := fs) P F e) hg hm (by rfl) (pa_cons (pe_var hi hv hnd hncd) (pa_cons (pe_tup (pa_cons (pe_glob (v := .ref D) hgT hmT rfl hd) (pa_cons (pe_glob (v := .ref D2) hgT2 hmT2 rfl hd2) pa_nil h4) h3)) pa_nil h2) h1) (by decide) (by decide) h1 hpl) fun σ H Q ⟨a, b, c⟩ =>
  ⟨_, a, by show 2 ≤ sizeLine; decide, fun tp ht => ⟨tp, _, rfl, upd_same, .cons (ClsV.own D) (.cons (ClsV.own D2) .nil), fun y hy => by rw [upd_ne (ne_of_none (b y hy) ht)]; exact b y hy, c tp ht⟩⟩
end
end BX
namespace BX
open PySem PySem.Spec PyProof.Rows L2
end BX
namespace BX
open PySem PySem.Spec PyProof.Rows L2
def qdp (X : Cx) (Ok : Addr → Prop) (i : Nat) (c : Expr) : Prop := ∀ (q C : Addr) (dd : Option Addr) (fs : List (Str × V)) (pn : List (Addr × Obj)), Pn (X.suite q pn) q C dd → Ok C →
 PT (X.suite q pn) c (fun σ H Q => σ[i]? = some (some (.ref q)) ∧ (∀ y, dd = some y → H y = some (.xd fs)) ∧ ∀ H', Kept H H' → Q true H')
end BX
namespace BX
open PySem PySem.Spec PyProof.Rows L2
theorem qe2 {K : PySem.W.Frag} {t u v : Value} (h : PySem.W.kitOne K t u = some false) (k : PySem.W.kitOne K t v = some false) : PySem.W.kitAny K t [u, v] = some false := by
 unfold PySem.W.kitAny
 rw [h]
 unfold PySem.W.kitAny
 rw [k]
 rfl
section
variable {X : Cx} {x n y T1 T2 T3 T4 m : Str} {i l : Nat} {st : Stmt} {tb : XS} {np p1 p2 p3 p4 hp pos : Pos} {te : Expr} {jn x1 : Nat} {a1 a2 a3 a4 b1 b2 b3 b4 c1 c2 c3 c4 d0 d1 d2 d3 d4 : Pos}
theorem qfT {T0 : String} (hi : X.N[i]? = some n) (hv : X.env.kindOf n = some .local) (F1 : Xk X.K X.mg T1 [(m, true)]) (F2 : XkB X.K X.mg T2 T0 [(m, true)]) (F3 : Xk X.K X.mg T3 [(m, false)]) (F4 : Xk X.K X.mg T4 [(m, false)]) (hm : X.mg "isinstance" = none) (hT : bootBuiltins T2 = some (.type T0)) (hnn : T2 ≠ "__name__")
 (hg : Gl X "isinstance") (g1 : Gl X T1) (g2 : Gl X T2) (g3 : Gl X T3) (g4 : Gl X T4) (hnd : (n == ("__debug__" : Str)) = false) (hncd : (n == ("__classdict__" : Str)) = false) (e1 : (T1 == ("__debug__" : Str)) = false) (e2 : (T2 == ("__debug__" : Str)) = false) (e3 : (T3 == ("__debug__" : Str)) = false) (e4 : (T4 == ("__debug__" : Str)) = false)
 (h1 : ∀ q pn, starEach [.Name n a1, .Name T1 a2] (X.suite q pn).env = (false, eval (.Name n a1) (X.suite q pn).env) :: starEach [.Name T1 a2] (X.suite q pn).env) (k1 : ∀ q pn, starEach [Expr.Name T1 a2] (X.suite q pn).env = (false, eval (.Name T1 a2) (X.suite q pn).env) :: starEach [] (X.suite q pn).env) (pl1 : ∀ q pn, (backTo a4 (starEach [Expr.Name T1 a2] (X.suite q pn).env)).any (·.1) = false)
 (h2 : ∀ q pn, starEach [.Name n b1, .Name T2 b2] (X.suite q pn).env = (false, eval (.Name n b1) (X.suite q pn).env) :: starEach [.Name T2 b2] (X.suite q pn).env) (k2 : ∀ q pn, starEach [Expr.Name T2 b2] (X.suite q pn).env = (false, eval (.Name T2 b2) (X.suite q pn).env) :: starEach [] (X.suite q pn).env) (pl2 : ∀ q pn, (backTo b4 (starEach [Expr.Name T2 b2] (X.suite q pn).env)).any (·.1) = false)
 (h3 : ∀ q pn, starEach [.Name n c1, .Tuple [.Name T3 c2, .Name T4 c3] x1 d1] (X.suite q pn).env = (false, eval (.Name n c1) (X.suite q pn).env) :: starEach [.Tuple [.Name T3 c2, .Name T4 c3] x1 d1] (X.suite q pn).env)
 (k3 : ∀ q pn, starEach [Expr.Tuple [.Name T3 c2, .Name T4 c3] x1 d1] (X.suite q pn).env = (false, eval (.Tuple [.Name T3 c2, .Name T4 c3] x1 d1) (X.suite q pn).env) :: starEach [] (X.suite q pn).env)
 (j3 : ∀ q pn, starEach [Expr.Name T3 c2, .Name T4 c3] (X.suite q pn).env = (false, eval (.Name T3 c2) (X.suite q pn).env) :: starEach [.Name T4 c3] (X.suite q pn).env) (j4 : ∀ q pn, starEach [Expr.Name T4 c3] (X.suite q pn).env = (false, eval (.Name T4 c3) (X.suite q pn).env) :: starEach [] (X.suite q pn).env)
 (pl3 : ∀ q pn, (backTo c4 (starEach [Expr.Tuple [.Name T3 c2, .Name T4 c3] x1 d1] (X.suite q pn).env)).any (·.1) = false) :
 qdp X (fun C => PySem.W.nsIn X.K mainGlobals m = some (some (.ref C))) i (.BoolOp .And [.Call (.Name "isinstance" a3) [.Name n a1, .Name T1 a2] [] a4, .Call (.Name "isinstance" b3) [.Name n b1, .Name T2 b2] [] b4,
  .UnaryOp .Not (.Call (.Name "isinstance" d3) [.Name n c1, .Tuple [.Name T3 c2, .Name T4 c3] x1 d1] [] c4) d2] d4) := by
 intro q C dd fs pn P ok
 obtain ⟨D1, m1, _, w1⟩ := F1.ex
 obtain ⟨m2, _, w2⟩ := F2.ex
 obtain ⟨D3, m3, _, w3⟩ := F3.ex
 obtain ⟨D4, m4, _, w4⟩ := F4.ex
 obtain ⟨F, o1⟩ := (w1 _ (List.mem_cons_self ..)).ok C ok
 obtain ⟨_, o2⟩ := (w2 _ (List.mem_cons_self ..)).ok C ok
 obtain ⟨_, o3⟩ := (w3 _ (List.mem_cons_self ..)).ok C ok
 obtain ⟨_, o4⟩ := (w4 _ (List.mem_cons_self ..)).ok C ok
 have A := pt_val (qd5 (pos := a4) (X := X.suite q pn) (p := a3) (fs := fs) P F hm m1 o1 hi (.inl hv) hnd hncd hg g1 e1 (h1 q pn) (k1 q pn) (pl1 q pn))
 have B := pt_val (qcI (pos := b4) (X := X.suite q pn) (p := b3) (fs := fs) P F hm m2 hT o2 hi (.inl hv) hnd hncd hg g2 hnn e2 (h2 q pn) (k2 q pn) (pl2 q pn))
 have N := pt_not (pos := d2) (pt_val (qcJ (pos := c4) (X := X.suite q pn) (p := d3) (fs := fs) P F hm m3 m4 (qe2 o3 o4) hi (.inl hv) hnd hncd hg g3 g4 e3 e4 (h3 q pn) (k3 q pn) (j3 q pn) (j4 q pn) (pl3 q pn)))
 have all := pw_and (pos := d4) A (pw_and B (pw_and1 N))
 refine ⟨fun pins s σ H Q I ⟨z1, z2, z3⟩ => ?_⟩
 refine all.run _ pins s σ H Q I ?_
 refine ⟨z1, z2, true, rfl, ?_⟩
 show (if true = true then _ else _)
 rw [if_pos rfl]
 refine ⟨z1, z2, true, rfl, ?_⟩
 show (if true = true then _ else _)
 rw [if_pos rfl]
 exact ⟨z1, z2, fun tp ht => ⟨false, rfl, z3 _ fun b o hb => by rw [upd_ne (ne_of_none hb ht)]; exact hb⟩⟩
end
end BX
namespace TX
open PySem PySem.Spec PyProof.Rows L2 BX
end TX
namespace TX
open PySem PySem.Spec PyProof.Rows L2 BX
end TX
namespace TX
open PySem PySem.Spec PyProof.Rows L2 BX
end TX
namespace L2
open PySem PySem.Spec PyProof.Rows
section
variable {X : Cx} {e : Expr} {es : List Expr} {ta : TA} {p1 p2 pos : Pos} {B : Addr} {b : Str} {mc : Value}
theorem VR {pl : Sem Bool} (hg : Gl X b) (hm : X.mg b = some (.ref B)) (ga : PySem.W.specialIn X.K (.ref B) "__getattribute__" = some (some (.builtin "type.__getattribute__"))) (rd : PySem.W.readsIn X.K B mc = true)
 (vV : PySem.W.findCls X.K (.ref B) mc "__init__" = some (.val (.builtin "ValueError.__init__"))) (ha : PA X (e :: es) ta)
 (hc : eval (.Call (.Attribute (.Name b p1) "__init__" p2) (e :: es) [] pos) X.env = (do
  let ov ← eval (.Name b p1) X.env
  standAt p2.atName
  let (f, first) ← holding [ov] (getMethod ov "__init__" pl)
  callWith pos f first (backTo pos (starEach (e :: es) X.env)) (backToKw pos (keywordEach [] X.env))) := by rfl)
 (hdb : (b == ("__debug__" : Str)) = false := by decide)
 (he : starEach (e :: es) X.env = (false, eval e X.env) :: starEach es X.env := by rfl) (hpl : (backTo pos (starEach es X.env)).any (·.1) = false := by rfl) :
 PE X (.Call (.Attribute (.Name b p1) "__init__" p2) (e :: es) [] pos) (tVeI X.K ta) := by
 refine ⟨fun pins s σ H Q I h => ?_⟩
 refine PySem.W.methodCall_KW (ld_glob I hg hm ?_ hdb) hc
 refine PySem.W.method_cls I.kIn ga (PySem.W.cls_value I.kIn rd vV (by decide +kernel) ?_)
 show wpAny _ _ (callWith pos (Value.builtin "ValueError.__init__") [] (backTo pos (starEach (e :: es) X.env)) []) _ _ _
 refine PyProof.Rows.callWith_method1 (thn (ha.run pos pins _ σ H _ (I.tok _) h) fun us s1 ⟨vs, H1, I1, r1, a, C, ws, ev, hl, T, ea, q⟩ => ?_) he hpl
 subst ev
 cases r1 with
 | @cons _ u0 _ ur ra rw' =>
   obtain rfl : u0 = Value.ref a := ra
   have hlen : ur.length ≤ sizeLine := by
    rw [← Paired.length rw', sizeLine_eq]
    omega
   exact oinit_ok T I1 ea hlen fun s' J => ⟨.non, H1, J, rfl, q⟩
end
end L2
namespace L2
open PySem PySem.Spec PyProof.Rows
section
variable {P : Program} {w : World} {K : PySem.W.Frag} {mg : Str → Option Value} {base : Heap}
def spE (K : PySem.W.Frag) : Sp := fun vs H Q _ => ∃ (a C : Addr) (i : Int), vs = [.ref a, .int i] ∧ OexC K C ∧ PySem.W.findIn K (.ref C) "line" = some none ∧ H a = some (exo a C none) ∧
 ∀ dx, H dx = none → dx ≠ a → Q .non (upd (upd H dx (exd dx [("line", .int i)])) a (exo a C (some dx)))
theorem qeH {x qual m : Str} {st s1 s2 : Stmt} {f : Addr} {fd : FuncData} {k : Nat} (F : Fun K x qual st f fd) (Sc : FnScope ["self", "line"] ["self", "line"] (defScope st)) (hb : defBody st = [s1, s2])
 (h1 : ∀ (cdv : Value) (A : Around) (outer : List PySem.Env) (s : Shared) (H : Hp) (E : XK), PS (cxOf CX0 P w K mg base ["self", "line"] qual (defScope st) f cdv A outer s H E).nox s1 (tDrop (tVeI K (tCons (tVar 0) (tCons (tC (.str m)) tNil)))))
 (h2 : ∀ (cdv : Value) (A : Around) (outer : List PySem.Env) (s : Shared) (H : Hp) (E : XK), PS (cxOf CX0 P w K mg base ["self", "line"] qual (defScope st) f cdv A outer s H E).nox s2 (tOst K "line" (tVar 0) (tVar 1))) : FnOk P w K mg base CX0 (k + 1) f fd ["self", "line"] (spE K) := by
 refine F.ok Sc (fun vs H Q E h => by obtain ⟨a, C, i, rfl, _⟩ := h; rfl) fun cdv A outer s H vs Q E hr h => ?_
 obtain ⟨a, C, i, rfl, T, hl, ha, q⟩ := h
 rw [hb]
 refine ⟨_, pss_cons (h1 cdv A outer s H E) (pss_cons (h2 cdv A outer s H E) pss_nil), ?_⟩
 show tSeq _ _ _ _ _
 unfold tSeq tDrop tVeI
 refine ⟨_, rfl, a, C, [.str m], rfl, by simp, T, ha, ?_⟩
 unfold tOst
 refine ⟨_, rfl, _, rfl, a, C, rfl, T, hl, .inl ⟨ha, fun dx h1 h2 => ?_⟩⟩
 exact q dx h1 h2
end
end L2
namespace BX
open PySem PySem.Spec PyProof.Rows L2
def QF (n : Str) (te : XE) : XS := fun env _ rt => te env fun r e => rd 1 r e fun d => match d with
 | .int i => rt (.ex n [("line", i)]) (mkX e)
 | _ => False
structure RsE (P : Program) (w : World) (K : PySem.W.Frag) (mg : Str → Option Value) (base : Heap) (k : Nat) (n : Str) : Prop where
 ex : ∃ C fI fd, mg n = some (.ref C) ∧ PySem.W.nsIn K mainGlobals n = some (some (.ref C)) ∧ OexC K C ∧ PySem.W.findIn K (.ref C) "__init__" = some (some (.ref fI)) ∧ PySem.W.typeIn K (.ref fI) = some (.type "function") ∧
  PySem.W.findIn K (.ref C) "line" = some none ∧ FnOk P w K mg base CX0 k fI fd ["self", "line"] (spE K) ∧ Binds K fd ["self", "line"] []
section
variable {X : Cx} {W : WX} {e : Expr} {te : XE}
theorem qaB {x : Str} {k : Nat} {p p3 pos : Pos} (hc : X.calm = true) (tk : Takes X W) (F : RsE X.prog X.w X.K X.mg X.base k x) (hr : Room (k + 1) X.A) (hp : Passes CX0 X (fun _ _ _ => False)) (he : DE X e te) (hg : Gl X x := by rfl) (hdb : (x == ("__debug__" : Str)) = false := by decide)
 (hs : starEach [e] X.env = (false, eval e X.env) :: starEach [] X.env := by rfl) (hpl : (backTo p3 (starEach [] X.env)).any (·.1) = false := by rfl) :
 DSX X W (.Raise (some (.Call (.Name x p) [e] [] p3)) none pos) (QF x te) := by
 obtain ⟨C, fI, fd, gC, hC, T, iC, tI, nl, FI, hb⟩ := F.ex
 refine ⟨PS.imp (ps_raise hc tk (pmk_oex T iC tI FI hr hb .nil hp hg gC (pa_cons he.run pa_nil hs) hdb hs hpl)) fun D σ H q => ?_, fun env nx nx' rt rt' h h' q => he.mono _ _ _ (fun r e q => qL (fun d q => by
  split at q
  ·exact h' _ _ q
  ·exact q.elim) q) q⟩
 obtain ⟨env, f, A, q⟩ := q
 refine ⟨env, f, A, he.mono _ _ _ (fun r e1 q => ?_) q⟩
 intro y H1 f1 g1 A1 R1 S1 K1
 obtain ⟨d, g', rp, q⟩ := yg A1 R1 q
 split at q
 ·rename_i i
  cases rp
  refine ⟨by simp, fun a ha => ⟨a, C, i, rfl, T, nl, upd_same, fun dx h1 h2 => ⟨rfl, dx, [("line", .int i)], upd_same, ?_, ?_, ?_⟩⟩⟩
  ·rw [upd_ne h2, upd_same]
  ·rwa [upd_ne h2] at h1
  ·have h1 : H1 dx = none := by rwa [upd_ne h2] at h1
   have eH : upd (del (upd (upd (upd H1 a (exo a C none)) dx (exd dx [("line", V.int i)])) a (exo a C (some dx))) a) dx (.xd [("line", V.int i)]) = upd H1 dx (.xd [("line", V.int i)]) := by
    funext b
    by_cases hb : b = dx
    ·rw [hb, upd_same, upd_same]
    ·rw [upd_ne hb, upd_ne hb]
     by_cases hba : b = a
     ·rw [hba, del_same, ha]
     ·rw [del_ne hba, upd_ne hba, upd_ne hb, upd_ne hba]
   rw [eH]
   have x : Ext H1 (upd H1 dx (.xd [("line", V.int i)])) [] := .updT h1
   obtain ⟨A3, R3, S3⟩ := xX A1 S1 x .non
   refine (show Yx _ _ _ _ _ _ _ _ _ from q) C (some dx) σ _ f1 hC (fun z hz => ?_) (fun z => by cases z) A3 (S3.drop (G2 := []) fun _ z => z) K1.kq
   injection hz with hz
   rw [← hz, upd_same]; rfl
 ·exact q.elim
end
end BX
namespace BX
open PySem PySem.Spec PyProof.Rows L2
def qbG (K : PySem.W.Frag) (Ok : Addr → Prop) (c : Value) (i l : Nat) (m fl : Str) (Wout : WX) (D : Ends) : WX := fun k dd ρ U => ∃ b, PySem.W.exmOne K k c = some b ∧
 (b = true → ∃ C fs y v, k = .ref C ∧ Ok C ∧ dd = some y ∧ U y = some (.xd fs) ∧ fs.lookup fl = some v ∧ ∀ q U', Kept U U' → D.nx ((((ρ.set i (some (.ref q))).set l (some (.str m))).set l (some v)).set i none) U') ∧ (b = false → Wout k dd ρ U)
structure XfM (K : PySem.W.Frag) (n fl : Str) : Prop where
 ok : ∀ C, PySem.W.nsIn K mainGlobals n = some (some (.ref C)) → XfC K C ∧ PySem.W.findIn K (.ref C) fl = some none
section
variable {X : Cx} {x n y : Str} {c : Value} {i l : Nat} {body : List Stmt} {np p1 p2 p3 p4 hp pos : Pos} {tb : WX → TS} {Wout : WX} {Ok : Addr → Prop} {te : Expr} {jn : Nat} {m fl : Str} {q1 q2 q3 q4 : Pos}
theorem qcG (hst : X.stack = X.env :: X.outer) (hfr : X.env.frame = some X.env.locals) (hex : X.ex = []) (hN : X.N.Nodup) (hi : X.N[i]? = some n) (hln : X.env.kindOf n = some .local) (hl : X.N[l]? = some y) (hly : X.env.scope.names.lookup y = some .local) (hlen : i < X.N.length) (hc : Names X x c) (tk : Takes X Wout)
 (hb : ∀ (W : WX) (pn : List (Addr × Obj)) (xe : Value → Shared → Prop), Takes (X.tr pn xe) W → PassesOwn (model X.prog X.w) X.A X.env xe → PSs (X.tr pn xe) body (tb W)) (ht : qdp X Ok i te)
 (hsw : ∀ (q : Addr) (pn : List (Addr × Obj)), swapsWith (.Constant (.str m) jn p2) (some (.Name y p1)) p3.line (X.suite q pn).env = pure false)
 (hsw2 : ∀ (q : Addr) (pn : List (Addr × Obj)), swapsWith (.Attribute (.Name n q1) fl q2) (some (.Name y q3)) q4.line (X.suite q pn).env = pure false)
 (hab : ∀ (q : Addr) (pn : List (Addr × Obj)), attributeBase (.Name n q1) fl (X.suite q pn).env (eval (.Name n q1) (X.suite q pn).env) = eval (.Name n q1) (X.suite q pn).env)
 (hnd : (n == ("__debug__" : Str)) = false) (hncd : (n == ("__classdict__" : Str)) = false) (hil : l ≠ i) (hT : ∀ C, Ok C → XfC X.K C ∧ PySem.W.findIn X.K (.ref C) fl = some none) :
 PS X (.Try body [.ExceptHandler (some (.Name x np)) (some n) [.Assign [.Name y p1] (.Constant (.str m) jn p2) p3, .If te [.Assign [.Name y q3] (.Attribute (.Name n q1) fl q2) q4] [] p4] hp] [] [] pos) (fun D σ H => tb (qbG X.K Ok c i l m fl Wout D) D σ H) := by
 refine ⟨fun pins s σ H D I h => ?_⟩
 have good := I.ok
 have frm : X.A.frames = some (X.env :: X.outer) := by rw [good.frames, hst]
 have locN : Loc X.env.scope n := .inl hln
 refine wpAny_Try_except (wpAny_mono ((hb (qbG X.K Ok c i l m fl Wout D) (X.pn ++ pins) (fun e z1 => wpAny (model X.prog X.w) X.A (noteFrame e X.env) (fun _ z2 => wpAny (model X.prog X.w) X.A (setFlight e none) (fun _ z3 =>
  wpAny (model X.prog X.w) X.A (handleBy e X.env [.ExceptHandler (some (.Name x np)) (some n) [.Assign [.Name y p1] (.Constant (.str m) jn p2) p3, .If te [.Assign [.Name y q3] (.Attribute (.Name n q1) fl q2) q4] [] p4] hp]) (SP X pins D) X.xe z3) X.xe z2) X.xe z1) (fun e z caught => ?_) PassesOwn.looking).run [] s σ H D (I.toTry _) h) (fun fl z done => ?_) (fun _ _ w => w))
 ·obtain ⟨q, G, zB, pn2, ρ, U, k, dd, rfl, IB, grd, ups, sky, nu, os, ag, b, eb, yes, no⟩ := caught
  have JB : Inv X pins ρ U zB := IB.ofTry good
  have sky1 : Sky G (X.env :: X.outer) q (Zc k dd) X.env.locals z.heap := by rw [← hst]; exact sky
  have nG : G.get? q = none := by
   rcases sky1 with w | w | w
   ·exact w.2.1
   ·exact w.2.1
   ·exact w.2.1
  show wpAny (model X.prog X.w) X.A (noteFrame (.ref q) X.env) _ _ _
  refine Sky.land Zc.steady frm hfr sky1 fun h3 fly3 up3 => ?_
  have J3 : Inv X pins ρ U { z with heap := h3 } := JB.landed grd fly3.1 (ups.trans up3) os ag
  obtain ⟨ob3, fv3, e3, z3, d3⟩ := fly3.there
  have nofr : q ∉ frs (X.env :: X.outer) := fun hm => by
   obtain ⟨_, ob, e, nf⟩ := fly3.2.2.1.mem hm
   rw [e3] at e; cases e
   exact nf _ d3
  have nl : q ≠ X.env.locals := fun w => nofr (List.mem_filterMap.mpr ⟨X.env, List.mem_cons_self, by rw [hfr, w]⟩)
  have nf : q ∉ X.fs := fun hm => by
   obtain ⟨e, he, w⟩ := List.mem_filterMap.mp hm
   exact nofr (List.mem_filterMap.mpr ⟨e, List.mem_cons_of_mem _ he, w⟩)
  have S3 := J3.suite e3 d3 nu nl nf
  refine wpAny_handleBy_cons (codeAny_handlers_test ?_) (by intro w; cases w)
  have lt : PySem.W.Looks (model X.prog X.w) h3 (typeOf (.ref q)) k := fun A Q E s kk w => wpAny_typeOf_ref (kk _ _ e3) (by rw [z3.1]; exact w)
  have lm := PySem.W.exm_one (M := model X.prog X.w) J3.kIn lt eb
  have asked : ∀ {Q E : Value → Shared → Prop}, Q c { z with heap := h3 } → wpAny (model X.prog X.w) (X.A.mark (some (.ref q))) (eval (.Name x np) X.env) Q E { z with heap := h3 } := fun {Q E} w => by
   obtain ⟨g1, g2, m | ⟨m1, m2, m3⟩⟩ := hc
   ·exact ld_glob (X := X.suite q ((q, ob3) :: (X.pn ++ pins))) S3 g1 m w g2
   ·exact ld_blt (X := X.suite q ((q, ob3) :: (X.pn ++ pins))) S3 g1 m1 m2 w m3 g2
  refine asked (lm.here ?_)
  cases b with
  | true =>
    obtain ⟨C, fs, dy, v, rfl, okC, rfl, hdy, hlk, yes⟩ := yes rfl
    refine codeAny_handlers_suite_as (HandSPX.lands_againZ fly3 fun h4 fly4 up4 => ?_)
    have J4 : Inv X pins ρ U { z with heap := h4 } := JB.landed grd fly4.1 ((ups.trans up3).trans up4) os ag
    obtain ⟨ob4, fv4, e4, z4, d4⟩ := fly4.there
    have S4 := J4.suite e4 d4 nu nl nf
    refine store_ok (X := X.suite q ((q, ob4) :: (X.pn ++ pins))) (v := .ref q) S4 hN hi locN rfl (fun z5 S5 => ?_) (.inr hln)
    have pnq : Pn (X.suite q ((q, ob4) :: (X.pn ++ pins))) q C (some dy) := ⟨ob4, fv4, List.mem_cons_self .., z4, d4⟩
    have rd := pe_xf (pos := q2) (X := X) (a := q) (oe := ob4) (pn := X.pn ++ pins) (d := some dy) (hT C okC).1 (hT C okC).2 z4 ⟨fv4, d4⟩ (pe_var (X := X.suite q ((q, ob4) :: (X.pn ++ pins))) (pos := q1) hi (.inl hln) hnd hncd) (hab q ((q, ob4) :: (X.pn ++ pins)))
    have asg := pss_cons (ps_set (X := X.suite q ((q, ob4) :: (X.pn ++ pins))) (pos := p3) (pos' := p1) hN hl (.inl hly) (pe_str (X := X.suite q ((q, ob4) :: (X.pn ++ pins))) (j := jn) (pos := p2) (x := m)) (hsw q ((q, ob4) :: (X.pn ++ pins))) (.inr hly))
     (pss_one (ps_if (pos := p4) (ht q C (some dy) fs ((q, ob4) :: (X.pn ++ pins)) pnq okC) (pss_one (ps_set (X := X.suite q ((q, ob4) :: (X.pn ++ pins))) (pos := q4) (pos' := q3) hN hl (.inl hly) rd (hsw2 q ((q, ob4) :: (X.pn ++ pins))) (.inr hly))) pss_nil))
    have li : ((ρ.set i (some (.ref q))).set l (some (V.str m)))[i]? = some (some (.ref q)) := by
     rw [List.getElem?_set_ne hil, List.getElem?_set_self (by rw [J4.len]; exact hlen)]
    refine wpAny_mono (asg.run [] z5 _ U { nx := fun ρ2 U2 => ρ2 = ((ρ.set i (some (.ref q))).set l (some (.str m))).set l (some v) ∧ Kept U U2, rt := fun _ _ => False } S5 ⟨li, fun y hy => by cases hy; exact hdy, fun U' kp => ?_⟩) (fun fl z6 sp => ?_) (fun _ _ w => w.elim)
    ·show (if true = true then _ else _)
     rw [if_pos rfl]
     exact ⟨.ref q, li, rfl, rfl, dy, fs, v, rfl, kp _ _ hdy, hlk, rfl, kp⟩
    ·cases fl with
     | next =>
       obtain ⟨ρ6, U6, S6, rfl, kp⟩ := sp
       have J6 : Inv X pins _ U6 z6 := S6.unsuite good
       exact gone_ok J6 hN hi hln fun z7 J7 => ⟨_, _, J7, yes q U6 kp⟩
     | brk => obtain ⟨_, _, _, w⟩ := sp; exact w.elim
     | cont => obtain ⟨_, _, _, w⟩ := sp; exact w.elim
     | ret u => obtain ⟨_, _, _, _, _, w⟩ := sp; exact w.elim
  | false =>
    show wpAny _ X.A (handleBy (.ref q) X.env []) _ _ _
    refine wpAny_handleBy_nil ?_
    obtain ⟨_, _, _, oe, vs, T, oT, ts, he, hz, hdt, ht, _⟩ := id fly3
    unfold PySem.passOn
    refine wpAny_bind (wpAny_field he hdt ht ?_)
    rw [if_neg (show ¬((Value.ref T == Value.none) = true) by simp)]
    have out : wpAny (model X.prog X.w) X.A (setFlight (.ref q) X.env.frame) (fun _ z4 => wpAny (model X.prog X.w) X.A (throw (.ref q) : Sem Flow) (SP X pins D) X.xe z4) X.xe { z with heap := h3 } := by
     rw [hfr]
     exact HandSPX.setFlight_upZ fly3 fun h4 held up4 => wpAny_throw (tk _ _ ⟨q, G, zB, pins, ρ, U, k, dd, rfl, JB, grd, (ups.trans up3).trans up4, .inr (.inr (by rw [hst]; exact held)), nu, os, ag, no rfl⟩)
    first
     | exact wpAny_bind (wpAny_pure (wpAny_bind out))
     | exact wpAny_bind out
 ·cases fl with
  | next => obtain ⟨ρ, U, J, w⟩ := done; exact wpAny_execs_nil ⟨ρ, U, J.ofTry good, w⟩
  | brk => obtain ⟨ρ, U, J, w⟩ := done; exact ⟨ρ, U, J.ofTry good, w⟩
  | cont => obtain ⟨ρ, U, J, w⟩ := done; exact ⟨ρ, U, J.ofTry good, w⟩
  | ret u => obtain ⟨v, ρ, U, J, r, w⟩ := done; exact ⟨v, ρ, U, J.ofTry good, r, w⟩
end
def qbf (ns : List Str) (i l : Nat) (tb : XS) : XS := fun env nx _ => tb env nx fun d e => match isX e, d with
 | some e', .ex n fs => n ∈ ns ∧ setOk e' l = true ∧ e'[i]? = some none ∧ ∃ j0 : Int, fs.lookup ("line" : Str) = some j0 ∧ nx (e'.set l (some (.int j0, .own)))
 | _, _ => False
section
variable {X : Cx} {x n y : Str} {c : Value} {i l : Nat} {st : Stmt} {tb : XS} {np p1 p2 p3 p4 hp pos : Pos} {ns : List Str} {Ok : Addr → Prop} {te : Expr} {jn : Nat} {m : Str} {q1 q2 q3 q4 : Pos}
theorem qby (hst : X.stack = X.env :: X.outer) (hfr : X.env.frame = some X.env.locals) (hex : X.ex = []) (hN : X.N.Nodup) (hil : l ≠ i) (hc : Names X x c) (hm : ∀ n ∈ ns, ExM X.K c n) (ho : ∀ n ∈ ns, ∀ C, PySem.W.nsIn X.K mainGlobals n = some (some (.ref C)) → Ok C) (ht : qdp X Ok i te)
 (hE : ∀ (W : WX) (pn : List (Addr × Obj)) (xe : Value → Shared → Prop), Takes (X.tr pn xe) W → PassesOwn (model X.prog X.w) X.A X.env xe → DSX (X.tr pn xe) W st tb) (hi : X.N[i]? = some n) (hl : X.N[l]? = some y) (hln : X.env.kindOf n = some .local) (hly : X.env.scope.names.lookup y = some .local)
 (hsw : ∀ (q : Addr) (pn : List (Addr × Obj)), swapsWith (.Constant (.str m) jn p2) (some (.Name y p1)) p3.line (X.suite q pn).env = pure false)
 (hsw2 : ∀ (q : Addr) (pn : List (Addr × Obj)), swapsWith (.Attribute (.Name n q1) "line" q2) (some (.Name y q3)) q4.line (X.suite q pn).env = pure false)
 (hab : ∀ (q : Addr) (pn : List (Addr × Obj)), attributeBase (.Name n q1) "line" (X.suite q pn).env (eval (.Name n q1) (X.suite q pn).env) = eval (.Name n q1) (X.suite q pn).env)
 (hnd : (n == ("__debug__" : Str)) = false) (hncd : (n == ("__classdict__" : Str)) = false) (hT : ∀ C, Ok C → XfC X.K C ∧ PySem.W.findIn X.K (.ref C) "line" = some none) (mono : Wc tb) :
 DS X (.Try [st] [.ExceptHandler (some (.Name x np)) (some n) [.Assign [.Name y p1] (.Constant (.str m) jn p2) p3, .If te [.Assign [.Name y q3] (.Attribute (.Name n q1) "line" q2) q4] [] p4] hp] [] [] pos) (qbf ns i l tb) := by
 refine ⟨PS.imp (qcG (fl := "line") (tb := fun W => qah X.K W tb) (Wout := fun _ _ _ _ => False) hst hfr hex hN hi hln hl hly (List.getElem?_eq_some_iff.mp hi).1 hc takes0 (fun W pn xe tk po => (QX (hE W pn xe tk po)).run) ht hsw hsw2 hab hnd hncd hil hT) fun D σ H q => ?_, fun env nx nx' rt rt' h _ q => mono _ _ _ _ _ h (fun d e q => ?_) q⟩
 ·obtain ⟨env, f, A, q⟩ := q
  refine ⟨env, f, A, mono _ _ _ _ _ (fun e q => q) (fun d e1 q => ?_) q⟩
  split at q
  ·rename_i e' n' fs he
   obtain ⟨hn, so, ei, j0, hj0, q⟩ := q
   have em : e1 = mkX e' := Jq he
   unfold vN
   rw [he]
   intro C dx σ' H' f' h1 h2 h3 A' S' K'
   have hne : fs ≠ [] := fun z => by rw [z] at hj0; cases hj0
   obtain ⟨dy, rfl⟩ : ∃ y, dx = some y := by
    cases dx with
    | none => exact absurd (h3 rfl) hne
    | some y => exact ⟨y, rfl⟩
   have hlk : (xdV fs).lookup ("line" : Str) = some (V.int j0) := by
    clear q h2 h3 hne
    unfold xdV
    induction fs with
    | nil => cases hj0
    | cons p fs ih =>
      obtain ⟨pa, pb⟩ := p
      rw [List.map_cons]
      rw [List.lookup_cons] at hj0 ⊢
      by_cases e : ("line" : Str) == pa
      ·simp only [e] at hj0 ⊢
       cases hj0; rfl
      ·have e' : (("line" : Str) == pa) = false := by simpa using e
       simp only [e'] at hj0 ⊢
       exact ih hj0
   refine ⟨true, (hm n' hn).ok C h1, fun _ => ⟨C, _, dy, .int j0, rfl, ho n' hn C h1, rfl, h2 _ rfl, hlk, fun a U' kp => ?_⟩, fun z => by cases z⟩
   have A2 := A'.ext kp
   have ow : (Md.own ≠ Md.io ∧ Md.own ≠ Md.lk) := ⟨(fun z => nomatch z), (fun z => nomatch z)⟩
   obtain ⟨A3, S3, K3, _⟩ := A2.put (m := .own) (d := .int j0) (v := .int j0) (g := []) (G := []) so (.int j0) ow (fun _ b hb => by simp at hb) (fun b hb => by simp at hb) fun _ b hb => hb
   have ei2 : (e'.set l (some (.int j0, .own)))[i]? = some none := by rw [List.getElem?_set_ne hil]; exact ei
   have A4 := qaU (o := none) A3 ei2
   have es : (((σ'.set i (some (.ref a))).set l (some (.str m))).set l (some (V.int j0))).set i none = (σ'.set l (some (V.int j0))).set i none := by
    rw [List.set_set]
    apply List.ext_getElem?
    intro k
    by_cases hk : i = k
    ·subst hk
     by_cases hlt : i < σ'.length
     ·rw [List.getElem?_set_self (by simpa using hlt), List.getElem?_set_self (by simpa using hlt)]
     ·rw [List.getElem?_eq_none (by simp; omega), List.getElem?_eq_none (by simp; omega)]
    ·rw [List.getElem?_set_ne hk, List.getElem?_set_ne hk]
     by_cases hk2 : l = k
     ·subst hk2
      by_cases hlt : l < σ'.length
      ·rw [List.getElem?_set_self (by simpa using hlt), List.getElem?_set_self (by simpa using hlt)]
      ·rw [List.getElem?_eq_none (by simp; omega), List.getElem?_eq_none (by simp; omega)]
     ·rw [List.getElem?_set_ne hk2, List.getElem?_set_ne hk2, List.getElem?_set_ne hk]
   rw [es]
   have K4 : Kq σ' e' f' ((σ'.set l (some (V.int j0))).set i none) (e'.set l (some (.int j0, .own))) (fset f' l []) := by
    refine ⟨fun j d hj => ?_, fun j d hj => ?_, fun j d hj => K3.lkr j d hj⟩
    ·have ne : i ≠ j := fun z => by subst z; rw [ei] at hj; cases hj
     obtain ⟨x1, x2⟩ := K3.io j d hj
     exact ⟨by rw [List.getElem?_set_ne ne]; exact x1, x2⟩
    ·have ne : i ≠ j := fun z => by subst z; rw [ei] at hj; cases hj
     obtain ⟨x1, x2⟩ := K3.lk j d hj
     exact ⟨by rw [List.getElem?_set_ne ne]; exact x1, x2⟩
   exact q _ _ _ A4 ((S'.ext kp).trans S3) (K'.trans K4)
  ·exact q.elim
 ·split at q
  ·obtain ⟨a1, a2, a3, j0, a4, a5⟩ := q
   exact ⟨a1, a2, a3, j0, a4, h _ a5⟩
  ·exact q.elim
end
section
variable {X : Cx} {x n y T1 T2 T3 T4 m tx : Str} {i l : Nat} {st : Stmt} {tb : XS} {np p1 p2 p3 p4 hp pos q1 q2 q3 q4 : Pos} {te : Expr} {jn x1 : Nat} {a1 a2 a3 a4 b1 b2 b3 b4 c1 c2 c3 c4 d0 d1 d2 d3 d4 : Pos}
theorem qdb {T0 : String} (hN : X.N.Nodup) (F : Cl X.K X.mg x [m]) (F1 : Xk X.K X.mg T1 [(m, true)]) (F2 : XkB X.K X.mg T2 T0 [(m, true)]) (F3 : Xk X.K X.mg T3 [(m, false)]) (F4 : Xk X.K X.mg T4 [(m, false)]) (hm : X.mg "isinstance" = none)
 (Fx : XfM X.K m "line") (hE : ∀ (W : WX) (pn : List (Addr × Obj)) (xe : Value → Shared → Prop), Takes (X.tr pn xe) W → DSX (X.tr pn xe) W st tb) (hil : l ≠ i := by decide) (hst : X.stack = X.env :: X.outer := by rfl) (hfr : X.env.frame = some X.env.locals := by rfl) (hex : X.ex = [] := by rfl)
 (hgx : Gl X x := by rfl) (hdx : (x == ("__debug__" : Str)) = false := by decide) (hi : X.N[i]? = some n := by rfl) (hl : X.N[l]? = some y := by rfl) (hln : X.env.kindOf n = some .local := by rfl) (hly : X.env.scope.names.lookup y = some .local := by rfl) (hT : bootBuiltins T2 = some (.type T0) := by rfl) (hnn : T2 ≠ "__name__" := by decide)
 (hg : Gl X "isinstance" := by rfl) (g1 : Gl X T1 := by rfl) (g2 : Gl X T2 := by rfl) (g3 : Gl X T3 := by rfl) (g4 : Gl X T4 := by rfl) (hnd : (n == ("__debug__" : Str)) = false := by decide) (hncd : (n == ("__classdict__" : Str)) = false := by decide) (e1 : (T1 == ("__debug__" : Str)) = false := by decide) (e2 : (T2 == ("__debug__" : Str)) = false := by decide)
 (e3 : (T3 == ("__debug__" : Str)) = false := by decide) (e4 : (T4 == ("__debug__" : Str)) = false := by decide)
 (hsw : ∀ (q : Addr) (pn : List (Addr × Obj)), swapsWith (.Constant (.str tx) jn p2) (some (.Name y p1)) p3.line (X.suite q pn).env = pure false := by intro _ _; rfl)
 (hsw2 : ∀ (q : Addr) (pn : List (Addr × Obj)), swapsWith (.Attribute (.Name n q1) "line" q2) (some (.Name y q3)) q4.line (X.suite q pn).env = pure false := by intro _ _; rfl)
 (hab : ∀ (q : Addr) (pn : List (Addr × Obj)), attributeBase (.Name n q1) "line" (X.suite q pn).env (eval (.Name n q1) (X.suite q pn).env) = eval (.Name n q1) (X.suite q pn).env := by intro _ _; rfl)
 (h1 : ∀ q pn, starEach [.Name n a1, .Name T1 a2] (X.suite q pn).env = (false, eval (.Name n a1) (X.suite q pn).env) :: starEach [.Name T1 a2] (X.suite q pn).env := by intro _ _; rfl) (k1 : ∀ q pn, starEach [Expr.Name T1 a2] (X.suite q pn).env = (false, eval (.Name T1 a2) (X.suite q pn).env) :: starEach [] (X.suite q pn).env := by intro _ _; rfl) (pl1 : ∀ q pn, (backTo a4 (starEach [Expr.Name T1 a2] (X.suite q pn).env)).any (·.1) = false := by intro _ _; rfl)
 (h2 : ∀ q pn, starEach [.Name n b1, .Name T2 b2] (X.suite q pn).env = (false, eval (.Name n b1) (X.suite q pn).env) :: starEach [.Name T2 b2] (X.suite q pn).env := by intro _ _; rfl) (k2 : ∀ q pn, starEach [Expr.Name T2 b2] (X.suite q pn).env = (false, eval (.Name T2 b2) (X.suite q pn).env) :: starEach [] (X.suite q pn).env := by intro _ _; rfl) (pl2 : ∀ q pn, (backTo b4 (starEach [Expr.Name T2 b2] (X.suite q pn).env)).any (·.1) = false := by intro _ _; rfl)
 (h3 : ∀ q pn, starEach [.Name n c1, .Tuple [.Name T3 c2, .Name T4 c3] x1 d1] (X.suite q pn).env = (false, eval (.Name n c1) (X.suite q pn).env) :: starEach [.Tuple [.Name T3 c2, .Name T4 c3] x1 d1] (X.suite q pn).env := by intro _ _; rfl)
 (k3 : ∀ q pn, starEach [Expr.Tuple [.Name T3 c2, .Name T4 c3] x1 d1] (X.suite q pn).env = (false, eval (.Tuple [.Name T3 c2, .Name T4 c3] x1 d1) (X.suite q pn).env) :: starEach [] (X.suite q pn).env := by intro _ _; rfl)
 (j3 : ∀ q pn, starEach [Expr.Name T3 c2, .Name T4 c3] (X.suite q pn).env = (false, eval (.Name T3 c2) (X.suite q pn).env) :: starEach [.Name T4 c3] (X.suite q pn).env := by intro _ _; rfl) (j4 : ∀ q pn, starEach [Expr.Name T4 c3] (X.suite q pn).env = (false, eval (.Name T4 c3) (X.suite q pn).env) :: starEach [] (X.suite q pn).env := by intro _ _; rfl)
 (pl3 : ∀ q pn, (backTo c4 (starEach [Expr.Tuple [.Name T3 c2, .Name T4 c3] x1 d1] (X.suite q pn).env)).any (·.1) = false := by intro _ _; rfl) :
 DS X (.Try [st] [.ExceptHandler (some (.Name x np)) (some n) [.Assign [.Name y p1] (.Constant (.str tx) jn p2) p3, .If (.BoolOp .And [.Call (.Name "isinstance" a3) [.Name n a1, .Name T1 a2] [] a4, .Call (.Name "isinstance" b3) [.Name n b1, .Name T2 b2] [] b4, .UnaryOp .Not (.Call (.Name "isinstance" d3) [.Name n c1, .Tuple [.Name T3 c2, .Name T4 c3] x1 d1] [] c4) d2] d4)
  [.Assign [.Name y q3] (.Attribute (.Name n q1) "line" q2) q4] [] p4] hp] [] [] pos) (qbf [m] i l tb) := by
 obtain ⟨c, hc, hm2⟩ := F.ex
 exact qby (Ok := fun C => PySem.W.nsIn X.K mainGlobals m = some (some (.ref C))) hst hfr hex hN hil ⟨hgx, hdx, .inl hc⟩ hm2 (fun n hn C h => by rw [List.mem_singleton.mp hn] at h; exact h)
  (qfT hi hln F1 F2 F3 F4 hm hT hnn hg g1 g2 g3 g4 hnd hncd e1 e2 e3 e4 h1 k1 pl1 h2 k2 pl2 h3 k3 j3 j4 pl3) (fun W pn xe tk _ => hE W pn xe tk) hi hl hln hly hsw hsw2 hab hnd hncd (fun C h => Fx.ok C h) (hE (fun _ _ _ _ => False) [] (fun _ _ => True) (fun _ _ _ => trivial)).mono
end
structure RsU (P : Program) (w : World) (K : PySem.W.Frag) (mg : Str → Option Value) (base : Heap) (k : Nat) (n : Str) : Prop where
 ex : ∃ j, j + 1 ≤ k ∧ RsE P w K mg base j n
theorem Ye {X : Cx} {W : WX} {e : Expr} {te : XE} {x : Str} {k : Nat} {p p3 pos : Pos} (hc : X.calm = true) (tk : Takes X W) (F : RsU X.prog X.w X.K X.mg X.base k x) (hr : Room k X.A) (he : DE X e te) (hg : Gl X x := by rfl) (hdb : (x == ("__debug__" : Str)) = false := by decide)
 (hs : starEach [e] X.env = (false, eval e X.env) :: starEach [] X.env := by rfl) (hpl : (backTo p3 (starEach [] X.env)).any (·.1) = false := by rfl) :
 DSX X W (.Raise (some (.Call (.Name x p) [e] [] p3)) none pos) (QF x te) := by
 obtain ⟨j, hj, F⟩ := F.ex
 exact qaB hc tk F (hr.mono hj) pass0 he hg hdb hs hpl
end BX
namespace BX
open PySem PySem.Spec PyProof.Rows L2
structure Fv (K : PySem.W.Frag) (mg : Str → Option Value) (x : Str) : Prop where
 ex : ∃ f, mg x = some (.ref f) ∧ PySem.W.nsIn K mainGlobals x = some (some (.ref f))
def dFv (x : Str) : XE := fun env Q => Q (.tmp (.op (some x))) env
def pk2 (b : Bool) (x0 x1 : Str) : Str := if b then x1 else x0
def UV (i : Nat) (x0 : Str) (S0 : FS) (x1 : Str) (S1 : FS) (u : XA) : XE := fun env Q => match env[i]? with
 | some (some (.op (some x), _)) => ∃ b : Bool, x = pk2 b x0 x1 ∧ dFn (pkS b S0 S1) u env Q
 | _ => False
def UT (i : Nat) (x0 : Str) (S0 : FS) (x1 : Str) (S1 : FS) (u : XA) : XE := fun env Q => match env[i]? with
 | some (some (.op (some x), _)) => ∃ b : Bool, x = pk2 b x0 x1 ∧ dFnX (pkS b S0 S1) u env Q
 | _ => False
section
variable {X : Cx} {W : WX} {k0 k1 : Nat} {ps0 ps1 : List Str} {x0 x1 x y : Str} {p pos : Pos} {e : Expr} {es : List Expr} {u : XA} {S0 S1 : FS} {i : Nat}
theorem Wm (F : Fv X.K X.mg x) (hg : Gl X x := by rfl) (hdb : (x == ("__debug__" : Str)) = false := by decide) : DE X (.Name x p) (dFv x) := by
 obtain ⟨f, hm, hn⟩ := F.ex
 exact ⟨PE.imp (pe_glob (v := .ref f) hg hm rfl hdb) fun σ H Q ⟨env, f1, A, q⟩ => q _ H f1 _ A (.tmp (.opF hn) ql) .refl .refl, fun env Q Q' h q => h _ _ q⟩
theorem Jy {S : FS} {σ : L2.St} {H : Hp} {Q : VK} (mS : uM S) (ma : vz u) (q : Jl X.K W (dFnX S u) σ H Q) : tCallS (spX X.K S) (fun σ c d H' => W c d σ H') (Ux X.K u) σ H Q := by
 obtain ⟨env, f, A, q⟩ := q
 refine ⟨env, f, A, ma _ _ _ (fun rs e q => ?_) q⟩
 intro vs H1 f1 gs A1 R1 S1 K1
 obtain ⟨o1, o2, q⟩ := q
 obtain ⟨ds, fa, l1, l2, Aa, q, _⟩ := Xl A1 R1 o1 o2 q
 refine ⟨l2, ds, fa, l1, Aa, mS _ _ _ (fun d ds' q => ?_) q⟩
 have S01 := S1.drop (G2 := []) fun _ z => by simp at z
 have nrm : Yw X.K σ H env f W Q (.tmp d) e → ∀ v H' g, Kept H1 H' → Rep X.K H' 0 d v g → (∀ b ∈ g, H1 b = none) → Q v H' := fun q v H' g kp rv ng => by
  unfold Yw at q
  rw [qcT A1] at q
  obtain ⟨A2, R2, S2⟩ := xX A1 S01 ⟨kp, ng⟩ rv
  exact q v H' f1 g A2 R2 S2 K1
 have exc : ∀ {n : Str} {fs : List (Str × Int)}, Yw X.K σ H env f W Q (.tmp (.ex n fs)) (mkX e) → ∀ C x H', PySem.W.nsIn X.K mainGlobals n = some (some (.ref C)) → (∀ y, x = some y → H' y = some (.xd (xdV fs))) → (x = none → fs = []) → Kept H1 H' → W (.ref C) x σ H' := fun q C x H' h1 h2 h3 kp =>
  (show Yx _ _ _ _ _ _ _ _ _ from q) C x σ H' f1 h1 h2 h3 (A1.ext kp) (S01.ext kp) K1.kq
 cases ds' with
 | nil =>
   cases d with
   | ex n fs => exact exc q
   | _ => exact q.elim
 | cons d0 ds' => exact nrm q
theorem Yj {S : FS} (mS : uM S) (ma : vz u) : yw (dFnX S u) := fun env Q Q' h q => ma _ _ _ (fun rs e q => ⟨q.1, q.2.1, xj (fun ds q => mS _ _ _ (fun d es q => by
 cases es with
 | nil => exact h _ _ q
 | cons _ _ => exact h _ _ q) q) q.2.2⟩) q
theorem Jd {K : PySem.W.Frag} {mg : Str → Option Value} {H : Hp} {lv : Nat} {v : V} {g : List Addr} {f : Addr} (F : Fv K mg x) (hm : mg x = some (.ref f)) (r : Rep K H lv (.op (some x)) v g) : v = .ref f := by
 obtain ⟨f', h1, h2⟩ := F.ex
 rw [hm] at h1
 cases h1
 cases r with
 | opF h => rw [h2] at h; cases h; rfl
theorem qdg (i : Nat) (F0 : Fn X.prog X.w X.K X.mg X.base x0 k0 ps0 S0) (F1 : Fn X.prog X.w X.K X.mg X.base x1 k1 ps1 S1) (v0 : Fv X.K X.mg x0) (v1 : Fv X.K X.mg x1) (r0 : Room k0 X.A) (r1 : Room k1 X.A) (ha : DA X (e :: es) u) (hi : X.N[i]? = some y := by rfl)
 (hv : Vis X.env.scope y := by first | exact Or.inl rfl | exact Or.inr (Or.inl rfl) | exact Or.inr (Or.inr rfl)) (hd : (y == ("__debug__" : Str)) = false := by decide) (hcd : (y == ("__classdict__" : Str)) = false := by decide)
 (he : starEach (e :: es) X.env = (false, eval e X.env) :: starEach es X.env := by rfl) (hpl : (backTo pos (starEach es X.env)).any (·.1) = false := by rfl)
 (hc : eval (.Call (.Name y p) (e :: es) [] pos) X.env = (do callWith pos (← eval (.Name y p) X.env) [] (backTo pos (starEach (e :: es) X.env)) (backToKw pos (keywordEach [] X.env))) := by rfl) :
 DE X (.Call (.Name y p) (e :: es) [] pos) (UV i x0 S0 x1 S1 u) := by
 obtain ⟨f0, fd0, hF0, hm0, hk0, hb0⟩ := F0.ex
 obtain ⟨f1, fd1, hF1, hm1, hk1, hb1⟩ := F1.ex
 refine ⟨⟨fun pins s σ H Q I h => ?_⟩, fun env Q Q' h q => ?_⟩
 ·rw [hc]
  refine wpAny_bind (thn ((pe_var hi hv hd hcd).run pins s σ H (fun v H' => (v = .ref f0 ∧ xN X.K (dFn S0 u) σ H' Q) ∨ (v = .ref f1 ∧ xN X.K (dFn S1 u) σ H' Q)) I ?_) ?_)
  ·obtain ⟨env, f, A, q⟩ := h
   unfold UV at q
   split at q
   ·rename_i z m ei
    obtain ⟨b, rfl, q⟩ := q
    obtain ⟨v, h1, rp⟩ := A.rep _ _ _ ei
    refine ⟨v, h1, ?_⟩
    cases b with
    | false => exact .inl ⟨Jd v0 hm0 rp, env, f, A, q⟩
    | true => exact .inr ⟨Jd v1 hm1 rp, env, f, A, q⟩
   ·exact q.elim
  ·rintro fv s1 ⟨v, H1, I1, rv, q⟩
   rcases q with ⟨rfl, q⟩ | ⟨rfl, q⟩
   ·obtain rfl : fv = Value.ref f0 := rv
    refine PySem.W.callWith_K (h₀ := X.base) I1.ok.mod.kin hk0 (thn (ha.run.run pos pins s1 σ H1 _ I1 (qas (E := fun _ _ _ => False) F0.mono ha.mono q)) fun us s2 ⟨vs, H2, I2, r, q⟩ => ⟨I2.kIn, ?_⟩) he hpl
    exact run_fn hF0 r0 hb0 .nil pass0 I2 r q
   ·obtain rfl : fv = Value.ref f1 := rv
    refine PySem.W.callWith_K (h₀ := X.base) I1.ok.mod.kin hk1 (thn (ha.run.run pos pins s1 σ H1 _ I1 (qas (E := fun _ _ _ => False) F1.mono ha.mono q)) fun us s2 ⟨vs, H2, I2, r, q⟩ => ⟨I2.kIn, ?_⟩) he hpl
    exact run_fn hF1 r1 hb1 .nil pass0 I2 r q
 ·unfold UV at q ⊢
  split at q
  ·obtain ⟨b, e1, q⟩ := q
   refine ⟨b, e1, ?_⟩
   cases b with
   | false => exact JF (K := X.K) F0.mono ha.mono _ _ _ h q
   | true => exact JF (K := X.K) F1.mono ha.mono _ _ _ h q
  ·exact q.elim
theorem qbA (i : Nat) (F0 : FnX X.prog X.w X.K X.mg X.base x0 k0 ps0 S0) (F1 : FnX X.prog X.w X.K X.mg X.base x1 k1 ps1 S1) (v0 : Fv X.K X.mg x0) (v1 : Fv X.K X.mg x1) (r0 : Room k0 X.A) (r1 : Room k1 X.A) (tk : Takes X W) (ha : DA X (e :: es) u) (hi : X.N[i]? = some y := by rfl)
 (hv : Vis X.env.scope y := by first | exact Or.inl rfl | exact Or.inr (Or.inl rfl) | exact Or.inr (Or.inr rfl)) (hd : (y == ("__debug__" : Str)) = false := by decide) (hcd : (y == ("__classdict__" : Str)) = false := by decide)
 (he : starEach (e :: es) X.env = (false, eval e X.env) :: starEach es X.env := by rfl) (hpl : (backTo pos (starEach es X.env)).any (·.1) = false := by rfl)
 (hc : eval (.Call (.Name y p) (e :: es) [] pos) X.env = (do callWith pos (← eval (.Name y p) X.env) [] (backTo pos (starEach (e :: es) X.env)) (backToKw pos (keywordEach [] X.env))) := by rfl) :
 DEX X W (.Call (.Name y p) (e :: es) [] pos) (UT i x0 S0 x1 S1 u) := by
 obtain ⟨f0, fd0, hF0, hm0, hk0, hb0⟩ := F0.ex
 obtain ⟨f1, fd1, hF1, hm1, hk1, hb1⟩ := F1.ex
 refine ⟨⟨fun pins s σ H Q I h => ?_⟩, fun env Q Q' h q => ?_⟩
 ·rw [hc]
  refine wpAny_bind (thn ((pe_var hi hv hd hcd).run pins s σ H (fun v H' => (v = .ref f0 ∧ Jl X.K W (dFnX S0 u) σ H' Q) ∨ (v = .ref f1 ∧ Jl X.K W (dFnX S1 u) σ H' Q)) I ?_) ?_)
  ·obtain ⟨env, f, A, q⟩ := h
   unfold UT at q
   split at q
   ·rename_i z m ei
    obtain ⟨b, rfl, q⟩ := q
    obtain ⟨v, h1, rp⟩ := A.rep _ _ _ ei
    refine ⟨v, h1, ?_⟩
    cases b with
    | false => exact .inl ⟨Jd v0 hm0 rp, env, f, A, q⟩
    | true => exact .inr ⟨Jd v1 hm1 rp, env, f, A, q⟩
   ·exact q.elim
  ·rintro fv s1 ⟨v, H1, I1, rv, q⟩
   rcases q with ⟨rfl, q⟩ | ⟨rfl, q⟩
   ·obtain rfl : fv = Value.ref f0 := rv
    refine PySem.W.callWith_K (h₀ := X.base) I1.ok.mod.kin hk0 (thn (ha.run.run pos pins s1 σ H1 _ I1 (Jy F0.mono ha.mono q)) fun us s2 ⟨vs, H2, I2, r, q⟩ => ⟨I2.kIn, ?_⟩) he hpl
    exact run_fnS hF0 r0 hb0 (passAt tk σ) I2 r q
   ·obtain rfl : fv = Value.ref f1 := rv
    refine PySem.W.callWith_K (h₀ := X.base) I1.ok.mod.kin hk1 (thn (ha.run.run pos pins s1 σ H1 _ I1 (Jy F1.mono ha.mono q)) fun us s2 ⟨vs, H2, I2, r, q⟩ => ⟨I2.kIn, ?_⟩) he hpl
    exact run_fnS hF1 r1 hb1 (passAt tk σ) I2 r q
 ·unfold UT at q ⊢
  split at q
  ·obtain ⟨b, e1, q⟩ := q
   refine ⟨b, e1, ?_⟩
   cases b with
   | false => exact Yj F0.mono ha.mono _ _ _ h q
   | true => exact Yj F1.mono ha.mono _ _ _ h q
  ·exact q.elim
end
end BX
namespace BX
open PySem PySem.Spec PyProof.Rows L2
section
variable {P : Program} {w : World} {H : Hp} {h : Heap}
abbrev PNd (xs : List (NK × Addr × V)) (ys : List (NK × Addr × Value)) : Prop := Paired (fun p q => p.1 = q.1 ∧ p.2.1 = q.2.1 ∧ L2.RelV p.2.2 q.2.2) xs ys
theorem PNd.mem : ∀ {xs : List (NK × Addr × V)} {ys : List (NK × Addr × Value)}, PNd xs ys → ∀ y ∈ ys, ∃ x ∈ xs, x.1 = y.1 ∧ x.2.1 = y.2.1
 | _, _, .nil, y, hy => by cases hy
 | _, _, .cons (a := a) r t, y, hy => by
   rcases List.mem_cons.mp hy with rfl | hy
   ·exact ⟨a, List.mem_cons_self .., r.1, r.2.1⟩
   ·obtain ⟨x, hx, e⟩ := PNd.mem t y hy
    exact ⟨x, List.mem_cons_of_mem _ hx, e⟩
def atN (xs : List (NK × Addr × V)) (k : NK) : Option (Addr × V) := (xs.find? fun x => decide (x.1 = k)).map (·.2)
def putN (xs : List (NK × Addr × V)) (k : NK) (a : Addr) (v : V) : List (NK × Addr × V) := if (atN xs k).isSome then xs.map fun x => if x.1 = k then (x.1, x.2.1, v) else x else xs ++ [(k, a, v)]
theorem PNd.at : ∀ {xs : List (NK × Addr × V)} {ys : List (NK × Addr × Value)} (k : NK), PNd xs ys → (atN xs k = none ∧ atKey ys k = none) ∨ ∃ a v u, atN xs k = some (a, v) ∧ atKey ys k = some (a, u) ∧ L2.RelV v u
 | _, _, k, .nil => .inl ⟨rfl, rfl⟩
 | _, _, k, .cons (a := x) (b := y) r t => by
   obtain ⟨r1, r2, r3⟩ := r
   by_cases e : x.1 = k
   ·refine .inr ⟨x.2.1, x.2.2, y.2.2, ?_, ?_, r3⟩
    ·unfold atN; rw [List.find?_cons_of_pos (by exact decide_eq_true e)]; rfl
    ·unfold atKey; rw [List.find?_cons_of_pos (by exact decide_eq_true (r1 ▸ e)), r2]; rfl
   ·have e' : ¬ y.1 = k := r1 ▸ e
    have := PNd.at k t
    unfold atN atKey at this ⊢
    rw [List.find?_cons_of_neg (by simpa using e), List.find?_cons_of_neg (by simpa using e')]
    exact this
theorem PNd.put {xs : List (NK × Addr × V)} {ys : List (NK × Addr × Value)} (k : NK) (a : Addr) {v : V} {u : Value} (rv : L2.RelV v u) (p : PNd xs ys) : PNd (putN xs k a v) (storedH ys k a u) := by
 have go : ∀ {xs : List (NK × Addr × V)} {ys : List (NK × Addr × Value)}, PNd xs ys → PNd (xs.map fun x => if x.1 = k then (x.1, x.2.1, v) else x) (ys.map (putAt k u)) := fun {xs ys} p => by
  induction p with
  | nil => exact .nil
  | cons r t ih =>
    refine .cons ?_ ih
    unfold putAt
    obtain ⟨r1, r2, r3⟩ := r
    dsimp only
    split
    ·rename_i e
     rw [if_pos (r1 ▸ e)]
     exact ⟨r1, r2, rv⟩
    ·rename_i e
     rw [if_neg (r1 ▸ e)]
     exact ⟨r1, r2, r3⟩
 have app : ∀ {xs : List (NK × Addr × V)} {ys : List (NK × Addr × Value)}, PNd xs ys → PNd (xs ++ [(k, a, v)]) (ys ++ [(k, a, u)]) := fun {xs ys} p => by
  induction p with
  | nil => exact .cons ⟨rfl, rfl, rv⟩ .nil
  | cons r t ih => exact .cons r ih
 unfold putN storedH
 rcases PNd.at k p with ⟨e1, e2⟩ | ⟨b, v', u', e1, e2, _⟩
 ·rw [e1, e2]; exact app p
 ·rw [e1, e2]; exact go p
end
end BX
namespace BX
open PySem PySem.Spec PyProof.Rows L2
mutual
def toK : D → Option NK
 | .int i => some (.num i)
 | .tup xs => (toKs xs).map .tup
 | _ => none
def toKs : List D → Option (List NK)
 | [] => some []
 | d :: ds => match toK d, toKs ds with
   | some k, some l => some (k :: l)
   | _, _ => none
end
end BX
namespace BX
open PySem PySem.Spec PyProof.Rows L2
end BX
namespace BX
open PySem PySem.Spec PyProof.Rows L2 RT PySem.W
end BX
namespace BX
open PySem PySem.Spec PyProof.Rows L2 RT PySem.W
end BX
namespace BX
open PySem PySem.Spec PyProof.Rows L2
end BX
namespace BX
open PySem PySem.Spec PyProof.Rows L2 RZ
end BX
namespace TX
open PySem PySem.Spec PyProof.Rows L2 BX RT PySem.W
instance {α : Type} {f : α → D} : Nn (eF f) := ⟨fun _ => rfl⟩
end TX
namespace BX
open PySem PySem.Spec PyProof.Rows L2
end BX
namespace TX
open PySem PySem.Spec PyProof.Rows L2 BX
end TX
namespace BX
open PySem PySem.Spec PyProof.Rows L2 RT
end BX
namespace BX
open PySem PySem.Spec PyProof.Rows L2 HT
end BX
namespace TX
open PySem PySem.Spec PyProof.Rows L2 BX RT PySem.W
end TX
namespace TX
open PySem PySem.Spec PyProof.Rows L2 BX RT PySem.W
end TX
namespace TX
open PySem PySem.Spec PyProof.Rows L2 BX RT PySem.W
section
variable {α β γ δ κ : Type}
def nI (i : Int) : NK := .num i
def nT2 (f : α → NK) (g : β → NK) (p : α × β) : NK := .tup [f p.1, g p.2]
def nT4 (f : α → NK) (g : β → NK) (h : γ → NK) (i : δ → NK) (p : α × β × γ × δ) : NK := .tup [f p.1, g p.2.1, h p.2.2.1, i p.2.2.2]
def nV (f : α → NK) (l : List α) : NK := .tup (l.map f)
class Kn (c : α → D) (kf : outParam (α → NK)) (n : outParam Nat) : Prop where
 ok : ∀ a, toK (c a) = some (kf a)
 inj : ∀ a b, kf a = kf b → a = b
 dep : ∀ a, Xe (kf a) ≤ n
class KnT (kf : α → NK) : Prop where
 tup : ∀ a, ∃ l, kf a = .tup l
instance : Kn D.int nI 0 := ⟨fun a => by rw [toK]; rfl, fun a b h => by unfold nI at h; injection h, fun a => by unfold nI; rw [Xe] <;> exact Nat.le_refl _⟩
theorem XJ {c : α → D} {kf : α → NK} {n : Nat} [h : Kn c kf n] : ∀ l : List α, toKs (l.map c) = some (l.map kf)
 | [] => by rw [List.map_nil, toKs]; rfl
 | a :: l => by rw [List.map_cons, toKs, h.ok, XJ l]; rfl
theorem WD {c : α → D} {kf : α → NK} {n : Nat} [h : Kn c kf n] : ∀ l : List α, jr (l.map kf) ≤ n
 | [] => by rw [List.map_nil, jr]; exact Nat.zero_le _
 | a :: l => by
   rw [List.map_cons, jr]
   exact Nat.max_le.mpr ⟨h.dep (c := c) a, WD (c := c) l⟩
theorem map_inj {c : α → D} {kf : α → NK} {n : Nat} [h : Kn c kf n] : ∀ {l m : List α}, l.map kf = m.map kf → l = m
 | [], [], _ => rfl
 | [], _ :: _, e => by simp at e
 | _ :: _, [], e => by simp at e
 | a :: l, b :: m, e => by
   rw [List.map_cons, List.map_cons, List.cons.injEq] at e
   rw [h.inj (c := c) a b e.1, map_inj (c := c) e.2]
instance {c : α → D} {kf : α → NK} {n : Nat} [h : Kn c kf n] : Kn (eV c) (nV kf) (n + 1) := ⟨fun l => by unfold eV nV; rw [toK, XJ (c := c)]; rfl, fun l m e => by unfold nV at e; injection e with e; exact map_inj (c := c) e, fun l => by unfold nV; rw [Xe]; exact Nat.succ_le_succ (WD (c := c) l)⟩
instance {c : α → D} {d : β → D} {kf : α → NK} {kg : β → NK} {m n : Nat} [h : Kn c kf m] [g : Kn d kg n] : Kn (eT2 c d) (nT2 kf kg) (max m n + 1) := ⟨fun p => by unfold eT2 nT2; rw [toK, toKs, toKs, toKs, h.ok, g.ok]; rfl, fun p q e => by
 unfold nT2 at e
 injection e with e
 injection e with e1 e
 injection e with e2 _
 exact Prod.ext (h.inj (c := c) _ _ e1) (g.inj (c := d) _ _ e2), fun p => by
 unfold nT2
 rw [Xe, jr, jr, jr]
 have a := h.dep (c := c) p.1
 have b := g.dep (c := d) p.2
 omega⟩
instance {c : α → D} {d : β → D} {e : γ → D} {i : δ → D} {kf : α → NK} {kg : β → NK} {kh : γ → NK} {ki : δ → NK} {a b m n : Nat} [h1 : Kn c kf a] [h2 : Kn d kg b] [h3 : Kn e kh m] [h4 : Kn i ki n] : Kn (eT4 c d e i) (nT4 kf kg kh ki) (max (max a b) (max m n) + 1) := ⟨fun p => by unfold eT4 nT4; rw [toK, toKs, toKs, toKs, toKs, toKs, h1.ok, h2.ok, h3.ok, h4.ok]; rfl, fun p q e' => by
 unfold nT4 at e'
 injection e' with e'
 injection e' with e1 e'
 injection e' with e2 e'
 injection e' with e3 e'
 injection e' with e4 _
 obtain ⟨p1, p2, p3, p4⟩ := p
 obtain ⟨q1, q2, q3, q4⟩ := q
 have := h1.inj (c := c) _ _ e1
 have := h2.inj (c := d) _ _ e2
 have := h3.inj (c := e) _ _ e3
 have := h4.inj (c := i) _ _ e4
 dsimp only at *
 subst_vars
 rfl, fun p => by
 unfold nT4
 rw [Xe, jr, jr, jr, jr, jr]
 have := h1.dep (c := c) p.1
 have := h2.dep (c := d) p.2.1
 have := h3.dep (c := e) p.2.2.1
 have := h4.dep (c := i) p.2.2.2
 omega⟩
instance {kf : α → NK} : KnT (nV kf) := ⟨fun l => ⟨_, rfl⟩⟩
instance {kf : α → NK} {kg : β → NK} : KnT (nT2 kf kg) := ⟨fun l => ⟨_, rfl⟩⟩
instance {kf : α → NK} {kg : β → NK} {kh : γ → NK} {ki : δ → NK} : KnT (nT4 kf kg kh ki) := ⟨fun l => ⟨_, rfl⟩⟩
def eDN (kf : κ → NK) (f : α → D) (m : List (κ × α)) : D := .dN (m.map fun p => (kf p.1, f p.2))
instance {kf : κ → NK} {f : α → D} : Nn (eDN kf f) := ⟨fun _ => rfl⟩
variable [DecidableEq κ] {c : κ → D} {kf : κ → NK} {n : Nat} [hc : Kn c kf n] [ht : KnT kf] {f : α → D} {l : List (κ × α)} {k : κ} {v : α}
variable {e : En} {i : Nat} {Q : R → En → Prop} {nx : En → Prop} {rt : D → En → Prop}
end
end TX
namespace TX
open PySem PySem.Spec PyProof.Rows L2 BX RT PySem.W
end TX
namespace BX
open PySem PySem.Spec PyProof.Rows L2
mutual
def thwD : D → D
 | .tup xs => .tup (W4 xs)
 | .lF xs => .lst (W4 xs)
 | .non => .non
 | .bl b => .bl b
 | .int i => .int i
 | .str s => .str s
 | .lst xs => .lst xs
 | .dT m => .dT m
 | .dK m => .dK m
 | .dF m => .dF m
 | .ob n fs => .ob n fs
 | .ex n fs => .ex n fs
 | .dN m => .dN m
 | .dG m => .dG m
 | .op m => .op m
def W4 : List D → List D
 | [] => []
 | d :: ds => thwD d :: W4 ds
end
section
variable {K : PySem.W.Frag} {H : Hp}
mutual
theorem Rep.thaw : ∀ {d : D} {v : V} {f : List Addr}, Rep K H 0 d v f → d.imm = true → Rep K H 2 (BX.thwD d) v []
 | _, _, _, .non, _ => by rw [BX.thwD]; exact .non
 | _, _, _, .bl b, _ => by rw [BX.thwD]; exact .bl b
 | _, _, _, .int i, _ => by rw [BX.thwD]; exact .int i
 | _, _, _, .str s, _ => by rw [BX.thwD]; exact .str s
 | _, _, _, .tup h r, e => by
   rw [D.imm] at e
   rw [BX.thwD]; exact .tup h (Reps.thaw r e)
 | _, _, _, .tupK l h r, e => absurd l (by omega)
 | _, _, _, .lst h r n, e => by rw [D.imm] at e; cases e
 | _, _, _, .lstF l h r, e => absurd l (by omega)
 | _, _, _, .dT h e' nd r n, e => by rw [D.imm] at e; cases e
 | _, _, _, .dTF l h e' nd r, e => absurd l (by omega)
 | _, _, _, .dF h e' nd r, e => by rw [D.imm] at e; cases e
 | _, _, _, .lF h r, e => by
   rw [D.imm] at e
   rw [BX.thwD]; exact .lstF (Nat.le_refl _) (.inl ⟨_, h⟩) (Reps.thaw r e)
 | _, _, _, .ob h c e' r n, e => by rw [D.imm] at e; cases e
 | _, _, _, .ex h c e' z, e => by rw [D.imm] at e; cases e
 | _, _, _, .dK h e' nd r n, e => by rw [D.imm] at e; cases e
 | _, _, _, .dN h e' nd kk r n, e => by rw [D.imm] at e; cases e
 | _, _, _, .dG h e' nd r, e => by rw [D.imm] at e; cases e
 | _, _, _, .opN v, e => by rw [D.imm] at e; cases e
 | _, _, _, .opF h, e => by rw [D.imm] at e; cases e
theorem Reps.thaw : ∀ {ds : List D} {vs : List V} {f : List Addr}, Reps K H 0 ds vs f → immL ds = true → Reps K H 2 (W4 ds) vs []
 | _, _, _, .nil, _ => by rw [W4]; exact .nil
 | _, _, _, .cons r t n, e => by
   rw [immL, Bool.and_eq_true] at e
   rw [W4]
   exact .cons (f := []) (g := []) (Rep.thaw r e.1) (Reps.thaw t e.2) fun _ b hb => by simp at hb
end
end
def qdh (t : XE) : XE := fun env Q => t env fun r e => rd 1 r e fun d => d.imm = true ∧ Q (.ro true (thwD d)) e
section
variable {X : Cx} {e : Expr} {t : XE}
theorem qdc (ha : DE X e t) : DE X e (qdh t) := by
 refine ⟨PE.imp ha.run fun σ H Q q => ?_, fun env Q Q' h q => ha.mono _ _ _ (fun r e q => qL (fun d q => ⟨q.1, h _ _ q.2⟩) q) q⟩
 obtain ⟨env, f, A, q⟩ := q
 refine ⟨env, f, A, ha.mono _ _ _ (fun r1 e1 q => ?_) q⟩
 intro x H1 f1 g1 A1 R1 S1 K1
 obtain ⟨d, g', rp, im, q⟩ := yg A1 R1 q
 obtain ⟨_, r0⟩ := rp.imm (Nat.le_refl _) im
 exact q x H1 f1 [] A1 (.ro (c := true) (r0.thaw im) ql) (S1.drop fun _ z => by simp at z) K1
end
end BX
namespace TX
open PySem PySem.Spec PyProof.Rows L2 BX
variable {e : En} {Q : R → En → Prop}
theorem qeT {t : XE} (q : t e fun r e => rd 1 r e fun d => d.imm = true ∧ aR Q (.ro true (thwD d)) e) : qdh t e Q := q
theorem qee {d d' : D} {r : R} (h : Rv e 1 r d) (im : d.imm = true) (ed : thwD d = d') (q : aR Q (.ro true d') e) : rd 1 r e fun d => d.imm = true ∧ aR Q (.ro true (thwD d)) e := h.rd ⟨im, by rw [ed]; exact q⟩
end TX
namespace TX
open PySem PySem.Spec PyProof.Rows L2 BX
theorem ZK {α : Type} {f g : α → D} (h : ∀ a, thwD (f a) = g a) : ∀ l : List α, W4 (l.map f) = l.map g
 | [] => by rw [List.map_nil, W4]; rfl
 | a :: l => by rw [List.map_cons, W4, h, ZK h l]; rfl
end TX
namespace TX
open PySem PySem.Spec PyProof.Rows L2 BX
def rsK (n : Str) (rt : D → En → Prop) (e : En) (d : D) : Prop := match d with
 | .int i => rt (.ex n [("line", i)]) (mkX e)
 | _ => False
section
variable {e e' : En} {nx : En → Prop} {rt : D → En → Prop} {i l : Nat} {α κ : Type} {ms : List Md} {ia : α → List D} {rs : List R} {Q : R → En → Prop} {r : R}
theorem X3 {n : Str} {te : XE} (q : te e fun r e => rd 1 r e (rsK n rt e)) : QF n te e nx rt := q
theorem Ji {n : Str} {z : Int} (hr : Rv e 1 r (.int z)) (q : rt (.ex n [("line", z)]) (mkX e)) : rd 1 r e (rsK n rt e) := hr.rd q
theorem c_fv {x : Str} (q : aR Q (.tmp (.op (some x))) e) : dFv x e Q := q
theorem qfZ {w0 w1 : α → (κ → Prop) → Prop} {fo : κ → D} {od : α → κ → List D} {u : XA} (b : Bool) (q : dFn (mkS ms ia (fun a => ifW b (w1 a) (w0 a)) fo od) u e Q) : dFn (pkS b (mkS ms ia w0 fo od) (mkS ms ia w1 fo od)) u e Q := by
 cases b with
 | false =>
   have : (fun a : α => ifW false (w1 a) (w0 a)) = w0 := funext fun a => funext fun k => propext ⟨fun h => h.2 rfl, fun h => ⟨fun z => by (cases z), fun _ => h⟩⟩
   rw [this] at q
   exact q
 | true =>
   have : (fun a : α => ifW true (w1 a) (w0 a)) = w1 := funext fun a => funext fun k => propext ⟨fun h => h.1 rfl, fun h => ⟨fun _ => h, fun z => by (cases z)⟩⟩
   rw [this] at q
   exact q
theorem qeV {w0 w1 : α → (κ → Prop) → Prop} {fo : κ → D} {od : α → κ → List D} {u : XA} {x0 x1 : Str} {m : Md} (b : Bool) (h0 : e[i]? = some (some (.op (some (pk2 b x0 x1)), m))) (q : dFn (mkS ms ia (fun a => ifW b (w1 a) (w0 a)) fo od) u e Q) :
 UV i x0 (mkS ms ia w0 fo od) x1 (mkS ms ia w1 fo od) u e Q := by
 unfold UV
 rw [h0]
 exact ⟨b, rfl, qfZ b q⟩
def Z6 {κ : Type} : Exc ⊕ κ → Option Int
 | .inl x => x.2.lookup ("line" : Str)
 | .inr _ => none
def LnOk {κ : Type} (n : Str) : Exc ⊕ κ → Prop
 | .inl x => x.1 = n ∧ ∃ j, x.2.lookup ("line" : Str) = some j
 | .inr _ => True
def rtF (ns : List Str) (i l : Nat) (nx : En → Prop) (d : D) (e : En) : Prop := match isX e, d with
 | some e', .ex n fs => n ∈ ns ∧ setOk e' l = true ∧ e'[i]? = some none ∧ ∃ j0 : Int, fs.lookup ("line" : Str) = some j0 ∧ nx (e'.set l (some (.int j0, .own)))
 | _, _ => False
theorem qdW {ns : List Str} {t : XS} (q : t e nx (rtF ns i l nx)) : qbf ns i l t e nx rt := q
theorem qdY {S0 S1 : FS} {u : XA} {x0 x1 : Str} {m : Md} (b : Bool) (h0 : e[i]? = some (some (.op (some (pk2 b x0 x1)), m))) (q : vW (dFnX (pkS b S0 S1) u) e nx rt) : vW (UT i x0 S0 x1 S1 u) e nx rt := by
 unfold vW UT
 rw [h0]
 exact ⟨b, rfl, q⟩
theorem qef {n : Str} {x : Exc} {k : Option Int → Prop} {κ : Type} (h1 : LnOk (κ := κ) n (.inl x)) (hl : setOk e l = true) (hi : e[i]? = some none) (hk : k (Z6 (κ := κ) (.inl x))) (q : ∀ o, k o → nx (e.set l (some (eO D.int o, .own)))) : rtF [n] i l nx (eEx x) (mkX e) := by
 obtain ⟨n1, j, ej⟩ := h1
 have := q _ hk
 unfold Z6 at this
 dsimp only at this
 rw [ej] at this
 unfold rtF
 rw [qeC]
 exact ⟨by rw [n1]; simp, hl, hi, j, ej, this⟩
end
end TX
namespace TX
open PySem PySem.Spec PyProof.Rows L2 BX
theorem V3 {x : Option Int} {b : Int} : OpTo opEq (eO D.int x) (.int b) (.bl (decide (x = some b))) := fun k q => by
 cases x with
 | none => exact ⟨by rfl, by rfl, q⟩
 | some a =>
   refine (op_eq (f := D.int) (a := a) (b := b)) k ?_
   have : decide (some a = some b) = decide (a = b) := by
    by_cases h : a = b
    ·rw [decide_eq_true h, decide_eq_true (congrArg some h)]
    ·rw [decide_eq_false h, decide_eq_false fun z => h (Option.some.inj z)]
   rw [this] at q
   exact q
end TX
namespace TX
open PySem PySem.Spec PyProof.Rows L2 BX
theorem V4 {α β : Type} {f : α → D} {g : β → D} {l : List α} (h : eqOk (eL f l) = true) (_ : True) : OpTo opEq (eL f l) (eL g []) (.bl l.isEmpty) := fun k q => by
 refine ⟨h, (by show eqOk (D.lst []) = true; decide), ?_⟩
 have e : deq (eL f l) (eL g []) = l.isEmpty := by
  cases l with
  | nil => show deq (D.lst []) (D.lst []) = true; decide
  | cons a r =>
    show deq (D.lst (f a :: r.map f)) (D.lst []) = false
    unfold deq
    rw [D.py, D.py]
    rfl
 rw [e]; exact q
end TX
namespace TX
open PySem PySem.Spec PyProof.Rows L2 BX
theorem qdU (l : List Str) : thwD (eF D.str l) = eL D.str l := by
 unfold eF eL
 rw [thwD, ZK fun a => by rw [thwD]]
theorem qbu {s : Str} : ∀ {l : List Str}, findIn (.str s) (l.map D.str) = memB s l := fun {l} => by
 induction l with
 | nil => rfl
 | cons a l ih =>
   have e1 : findIn (.str s) ((a :: l).map D.str) = (deq (D.str a) (D.str s) || findIn (.str s) (l.map D.str)) := rfl
   have e2 : memB s (a :: l) = (decide (a = s) || memB s l) := by
    rw [Bool.eq_iff_iff]
    unfold memB
    rw [decide_eq_true_eq, Bool.or_eq_true, decide_eq_true_eq, decide_eq_true_eq, List.mem_cons]
    exact ⟨fun h => h.imp_left Eq.symm, fun h => h.imp_left Eq.symm⟩
   have e3 : deq (D.str a) (D.str s) = decide (a = s) := by
    have := os_eq (o := some a) (b := s)
    show deq (eO D.str (some a)) (D.str s) = _
    rw [this]
    by_cases h : a = s
    ·rw [decide_eq_true h, decide_eq_true (congrArg some h)]
    ·rw [decide_eq_false h, decide_eq_false fun z => h (Option.some.inj z)]
   rw [e1, e2, e3, ih]
theorem YS {l : List Str} (h : ∀ c ∈ l, PyData.strOk c = true) : eqOk (eL D.str l) = true := by
 have all : ∀ {l : List Str}, (∀ c ∈ l, PyData.strOk c = true) → PyData.canLayAll0 (pyL (l.map D.str)) = true ∧ PyData.depthAll (pyL (l.map D.str)) ≤ 4 := fun {l} h => by
  induction l with
  | nil => simp [pyL, PyData.canLayAll0, PyData.depthAll]
  | cons p l ih =>
    have hp := h p (List.mem_cons_self ..)
    have := ih fun c hc => h c (List.mem_cons_of_mem _ hc)
    rw [List.map_cons, pyL, D.py]
    refine ⟨by simp only [PyData.canLayAll0, PyData.canLay0, hp, this.1, Bool.and_true], ?_⟩
    simp only [PyData.depthAll, PyData.depth]
    exact Nat.max_le.mpr ⟨by omega, this.2⟩
 have := all h
 unfold eqOk SeqAt.shaped
 simp only [eL, D.py, PyData.canLay0, PyData.depth, this.1, Bool.true_and, decide_eq_true_eq]
 omega
theorem qcM {s : Str} {l : List Str} (h1 : PyData.strOk s = true) (h2 : ∀ a ∈ l, PyData.strOk a = true) : OpTo opIn (.str s) (eL D.str l) (.bl (memB s l)) := fun k q => by
 refine ⟨Vv h1, YS h2, ?_⟩
 rw [qbu]; simpa using q
end TX
namespace K42
open PySem PySem.Spec PyProof.Rows L2 BX TX COM BC
def uF (x y : D) (kr : Bool → Prop) : Prop := ZG 1 x y kr
def wG : FS := mkS (α := D × D) (κ := Bool) [.cst, .cst] (fun a => [eA a.1, eA a.2]) (fun a => uF a.1 a.2) (fun r => D.bl r) fun a r => [eA a.1, eA a.2]
def Qu (wz : FS) : XS :=
 (sSeq (sIf (xVal (dBin 2 opEq (dVar 0) (dC (.str (Str.ofString ""))))) (sRet (dTup aNil)) sNil)
 (sSeq (sAsg (dMn isStr jO (dVar 0) (qm (dC (.str (Str.ofString "\n"))) aNil)) (gN 1))
 (sSeq (sAsg (dLst aNil) (gN 2))
 (sSeq (qbg (WK (dVar 1)) (gT 2 (yR (gN 3) (yR (gN 4) Wj))) (sSeq (sIf (xNot (xVal (dFn wz (qm (dVar 4) (qm (dCall 2 (op1 bLen) (qm (dIdx (dVar 1) (dC (.int 0))) aNil)) aNil))))) (QF "BadRow" (dVar 3)) sNil)
 (VG (dM1 D.isLst vL (dVar 2) (dLc (qaq (dVar 4)) (gT 2 (yR (gN 5) (yR (gN 6) Wj))) (xVal (dBin 2 opEq (dVar 6) (dC (.str (Str.ofString "#"))))) (dTup (qm (dVar 5) (qm (dBin 2 qbi (dBin 2 qbi (dCall 2 (op1 bLen) (qm (dVar 1) aNil)) (dC (.int 1))) (dVar 3)) aNil))) [5, 6])))))
 (sRet (dCall 1 (op1 vY) (qm (dCall 1 (op1 xP) (qm (dVar 2) aNil)) aNil)))))))
def jQ (text : Str) (kr : Exc ⊕ (List (Int × Int)) → Prop) : Prop :=
 (PyData.strOk text = true ∧ PyData.strOk (Str.ofString "") = true) ∧
 (ifP (decide (text = (Str.ofString ""))) (kr (.inr ([] : (List (Int × Int))))) <|
 (((Str.ofString "\n").length == 0) = false ∧ text.length + 2 ≤ sizeLine) ∧
 lt ((Txt.split text (Str.ofString "\n")) : (List Str)) fun rows =>
 lt (([] : List (Int × Int)) : (List (Int × Int))) fun found =>
 forW (yN rows) found (fun a5 (found : (List (Int × Int))) kk6 => exW (atI rows 0) fun x7 =>
 (x7.length ≤ sizeLine) ∧
 zU a5.2 (x7.length : Int) fun t10 =>
 ifP (!t10) (kr (.inl ("BadRow", [("line", a5.1)]))) <|
 ((yN (sgns a5.2)).length ≤ sizeLine) ∧
 (∀ a11 ∈ (yN (sgns a5.2)), (PyData.strOk a11.2 = true ∧ PyData.strOk (Str.ofString "#") = true) ∧
 True) ∧
 (found.length + (((yN (sgns a5.2)).filter (fun a11 => (decide (a11.2 = (Str.ofString "#"))))).map (fun a11 => (a11.1, (((rows.length : Int) - 1) - a5.1)))).length ≤ sizeLine) ∧
 lt (found ++ (((yN (sgns a5.2)).filter (fun a11 => (decide (a11.2 = (Str.ofString "#"))))).map (fun a11 => (a11.1, (((rows.length : Int) - 1) - a5.1))))) fun found =>
 kk6 found) fun found =>
 kr (.inr (srt tl2 found)))
def yH : FS := mkSX (α := Str) (κ := (List (Int × Int))) [.cst] (fun a => [D.str a]) (fun a => jQ a) (fun r => (eV (eT2 D.int D.int)) r)
theorem Vu : vO yH 7 (Qu wz) := by
 intro ds Q hl h
 obtain ⟨text, kr, rfl, h, q⟩ := h
 refine uL (e' := [_, _, _, _, _, _, _]) rfl ?_
 unfold Qu
 unfold jQ at h
 refine wO <| s_if <| yJ <| qQ <| qu rfl <| c_C ?_
 obtain ⟨p1, h⟩ := h
 refine qP .tmp .tmp (QK p1.1 p1.2) <| yI .tmp tr_b ?_
 refine uY h (fun hb h => ?_) (fun hb h => ?_)
 ·skip
  refine s_ret <| qeS <| qC <| qed zP <| xM ?_
  exact q (.inr ([] : (List (Int × Int)))) h
 refine uI <| wO <| s_asg <| Q7 <| qu rfl <| QR .tmp (by rfl) <| qd <| c_C <| qC ?_
 obtain ⟨p2, h⟩ := h
 refine uJ .tmp .tmp p2 ?_
 refine g_N (f := (eL D.str)) (fun rows => [_, zO (eL D.str rows), _, _, _, _, _]) h rfl (fun _ => rfl) fun rows h => ?_
 refine wO <| s_asg <| yX <| qC <| zW zP ([] : List (Int × Int)) .nil ?_
 refine g_N (f := zL) (fun found => [_, _, zO (zL found), _, _, _, _]) h rfl (fun _ => rfl) fun found h => ?_
 refine wO <| qbL <| JQ <| qu rfl <| qem (e' := [_, _, _, _, _, _, _]) rfl rfl rfl ?_
 refine Xa (fI := (eT2 D.int D.str)) (sh := fun (found : (List (Int × Int))) e => ∃ c3 c4 : Option (D × Md), (setS (some c3) = true ∧ setS (some c4) = true) ∧ e = [zS (D.str text), some ((eL D.str) rows, .lk), zO (zL found), c3, c4, none, none]) h ⟨_, _, ⟨rfl, rfl⟩, rfl⟩ (fun a5 ha found e hs kk6 nxkk6 hJ6 h => ?_) ?_
 ·skip
  obtain ⟨c3, c4, ⟨hc3, hc4⟩, rfl⟩ := hs
  refine g_T (by rfl) (uw (g_n (e' := [_, _, _, _, _, _, _]) hc3 rfl (uw (g_n (e' := [_, _, _, _, _, _, _]) hc4 rfl (qar (?_))))))
  refine wO <| s_if <| vq <| yJ <| c_fn <| qd <| qu rfl <| qd <| zj <| qd <| jL <| qu rfl <| c_C ?_
  obtain ⟨x7, p8, h⟩ := h
  refine o_idx .z .tmp (ix_L p8) (.sl (Im.im (f := D.str) _)) <| qC ?_
  obtain ⟨p9, h⟩ := h
  refine zg (.cons .tmp .nil) (uZ p9) <| qC ?_
  refine x_call (a5.2, (x7.length : Int)) (fun t10 => [_, _, _, _, _, _, _]) h (.cons .tmp (.cons .tmp .nil)) (qD qT (qD qT qZ)) (zp (by rfl)) (fun _ => rfl) fun t10 h => ?_
  refine yI .tmp tr_b ?_
  refine uY h (fun hb h => ?_) (fun hb h => ?_)
  ·skip
   refine X3 <| qu rfl <| Ji .tmp <| Jh <| QM (e' := [_, _, _, _, _, _, _]) rfl rfl ?_
   exact q (.inl ("BadRow", [("line", a5.1)])) h
  refine uI <| qbM <| c_m1 (by rfl) (by rfl) (by decide) (by rfl) <| c_lc <| qdm <| qu rfl <| qcQ .tmp ?_
  obtain ⟨p12, h⟩ := h
  obtain ⟨p13, h⟩ := h
  refine qej (e := [_, _, _, _, _, _, _]) (fI := (eT2 D.int D.str)) (fo := zP) (fun a11 => (decide (a11.2 = (Str.ofString "#")))) (fun a11 => (a11.1, (((rows.length : Int) - 1) - a5.1))) (all2 rfl rfl) p12 rfl (fun a11 ha c k1 k2 hc h1 h2 => ?_) ?_
  ·have h := p13 a11 ha
   refine g_T (by rfl) (uw (g_n (e' := [_, _, _, _, _, _, _]) rfl rfl (uw (g_n (e' := [_, _, _, _, _, _, _]) rfl rfl (qar (?_))))))
   refine yJ <| qQ <| qu rfl <| c_C ?_
   obtain ⟨p14, h⟩ := h
   refine qP .tmp .tmp (QK p14.1 p14.2) <| yI .tmp tr_b ?_
   refine ⟨fun hb => ?_, fun hb => h2 hb⟩
   refine qeS <| qd <| qu rfl <| qd <| qQ <| qQ <| zj <| qd <| qu rfl <| qC <| zg (.cons .z .nil) QS <| c_C <| qP .tmp .tmp V2 <| qu rfl <| qP .tmp .tmp V2 <| qC <| qec D.int D.int a11.1 (((rows.length : Int) - 1) - a5.1) (.cons .tmp (.cons .tmp .nil)) ?_
   exact o_el .tmp hc rfl (h1 hb)
  refine jN (e' := [_, _, _, _, _, _, _]) rfl <| zA ?_
  obtain ⟨p15, h⟩ := h
  refine V6 (fun found => [_, _, zO (zL found), _, _, _, _]) h (by rfl) p15 (fun _ => rfl) fun found h => ?_
  exact hJ6 found _ ⟨_, _, ⟨rfl, rfl⟩, rfl⟩ h
 rintro found e hs h
 obtain ⟨c3, c4, ⟨hc3, hc4⟩, rfl⟩ := hs
 refine QM (e' := [_, _, _, _, _, _, _]) rfl rfl <| s_ret <| zj <| qd <| zj <| qd <| qu rfl <| qC <| zg (.cons .z .nil) (qcU (f := zP)) <| qC <| zg (.cons .tmp .nil) (qbS (f := zP)) <| xM ?_
 exact q (.inr (srt tl2 found)) h
def yV : XS :=
 (sSeq (sIf (xOr (xNot (xVal (dChn 2 opLe 2 opLe (dC (.int 1)) (dCall 2 (op1 bLen) (qm (dVar 0) aNil)) (dC (.int 2))))) (xNot (xVal (dCall 2 (op1 bAll) (qm (dLc (UG (dVar 0)) (gN 1) xYes (dBin 1 opIn (dVar 1) (dG Q8)) [1]) aNil))))) (sRet (dC (.bl false))) sNil)
 (sRet (dOr (dBin 2 opEq (dCall 2 (op1 bLen) (qm (dVar 0) aNil)) (dC (.int 1))) (dBin 2 opNe (dIdx (dVar 0) (dC (.int 0))) (dC (.str (Str.ofString "0")))))))
def zV (word : Str) (kr : Bool → Prop) : Prop :=
 ((word.length ≤ sizeLine) ∧
 True) ∧
 ((!((decide (1 ≤ (word.length : Int))) && (decide ((word.length : Int) ≤ 2)))) = false → ((sgns word).length ≤ sizeLine) ∧
 True) ∧
 (ifP ((!((decide (1 ≤ (word.length : Int))) && (decide ((word.length : Int) ≤ 2)))) || (!(((sgns word).map (fun sign => (inS sign uh))).all id))) (kr false) <|
 (word.length ≤ sizeLine) ∧
 ifW (decide ((word.length : Int) = 1)) (fun kk6 => kk6 (true, ())) (fun kk6 => (word.length ≤ sizeLine) ∧
 exW (atI (sgns word) 0) fun x7 =>
 (PyData.strOk x7 = true ∧ PyData.strOk (Str.ofString "0") = true) ∧
 kk6 ((!(decide (x7 = (Str.ofString "0")))), ())) fun (b11 : Bool × Unit) =>
 kr b11.1)
def wA : FS := mkS (α := Str) (κ := Bool) [.cst] (fun a => [D.str a]) (fun a => zV a) (fun r => D.bl r) fun a r => [D.str a]
theorem v4 : BodyOk wA 2 yV := by
 intro ds Q hl h
 obtain ⟨word, kr, rfl, h, q⟩ := h
 refine uL (e' := [_, _]) rfl ?_
 unfold yV
 unfold zV at h
 refine wO <| s_if ?_
 obtain ⟨p1, h⟩ := h
 obtain ⟨p2, h⟩ := h
 refine qgm (!((decide (1 ≤ (word.length : Int))) && (decide ((word.length : Int) ≤ 2)))) (!(((sgns word).map (fun sign => (inS sign uh))).all id)) (fun Q q => ?_) (fun hb Q q => ?_) ?_
 ·have h := p1
  refine vq <| yJ <| qeU <| c_C <| zj <| qd <| qu rfl <| qC ?_
  obtain ⟨p3, h⟩ := h
  refine zg (.cons .tmp .nil) (uZ p3) ?_
  refine qen (decide (1 ≤ (word.length : Int))) (decide ((word.length : Int) ≤ 2)) .tmp .tmp .tmp Jf (fun hb Q q => ?_) (fun _ => Jf) ?_
  ·skip
   refine c_C ?_
   exact q _ .tmp
  refine yI .tmp tr_b ?_
  exact q
 ·have h := p2 hb
  refine vq <| yJ <| zj <| qd <| c_lc <| JP <| qu rfl <| Jj .tmp ?_
  obtain ⟨p4, h⟩ := h
  refine qei (e := [_, _]) (fI := D.str) (fo := D.bl) (fun sign => (inS sign uh)) (all1 rfl) p4 rfl (fun sign ha c k1 hc h1 => ?_) ?_
  ·skip
   refine g_n (e' := [_, _]) rfl rfl (?_)
   refine qQ <| qu rfl <| c_GS (s := uh) <| qP .tmp .tmp op_inS ?_
   exact o_el .tmp hc rfl h1
  refine jN (e' := [_, _]) rfl <| zA <| qC <| zg (.cons .tmp .nil) qbm <| yI .tmp tr_b ?_
  exact q
 refine uY h (fun hb h => ?_) (fun hb h => ?_)
 ·skip
  refine s_ret <| c_C <| xM ?_
  exact q false h
 refine uI <| s_ret <| qcd <| qQ <| zj <| qd <| qu rfl <| qC ?_
 obtain ⟨p5, h⟩ := h
 refine zg (.cons .tmp .nil) (uZ p5) <| c_C <| qP .tmp .tmp (op_eq (f := D.int)) <| Z5 .tmp ?_
 refine qbP (sh := fun (s : Unit) e => e = [zS (D.str word), none]) h rfl (fun hb kk6 N hJ6 h => ?_) ?_
 ·skip
  refine qQ <| jL <| qu rfl <| c_C ?_
  obtain ⟨p9, x7, p8, h⟩ := h
  refine o_idx .tmp .tmp (ix_S p8 p9) .tmp <| c_C ?_
  obtain ⟨p10, h⟩ := h
  refine qP .tmp .tmp (Je p10.1 p10.2) ?_
  exact hJ6 ((!(decide (x7 = (Str.ofString "0")))), ()) _ rfl h
 rintro b11 e hs h
 obtain rfl := hs
 refine xM ?_
 exact q b11.1 h
def W6 (wA : FS) : XS :=
 (sSeq (sAsg (dMn isStr jO (dVar 0) (qm (dC (.str (Str.ofString " "))) aNil)) (gN 1))
 (sSeq (sIf (xOr (xVal (dBin 2 opNe (dCall 2 (op1 bLen) (qm (dVar 1) aNil)) (dC (.int 4)))) (xNot (xVal (dCall 2 (op1 bAll) (qm (dLc (iSeq (dVar 1)) (gN 3) xYes (dFn wA (qm (dVar 3) aNil)) [3]) aNil))))) (sRet (dC .non)) sNil)
 (sSeq (sAsg (dCall 1 (op1 vY) (qm (dLc (iSeq (dVar 1)) (gN 3) xYes (dCall 2 (op1 U7) (qm (dVar 3) aNil)) [3]) aNil)) (gN 2))
 (sRet (dIf (xAnd (xVal (dBin 2 opGt (dIdx (dVar 2) (dC (.int 2))) (dC (.int 0)))) (xVal (dBin 2 opGt (dIdx (dVar 2) (dC (.int 3))) (dC (.int 0))))) (dVar 2) (dC .non))))))
def uN (row : Str) (kr : (Option (List Int)) → Prop) : Prop :=
 (((Str.ofString " ").length == 0) = false ∧ row.length + 2 ≤ sizeLine) ∧
 lt ((Txt.split row (Str.ofString " ")) : (List Str)) fun words =>
 ifW (!(decide ((words.length : Int) = 4))) (fun kk2 => kk2 (true, ())) (fun kk2 => (words.length ≤ sizeLine) ∧
 lcW words ([] : List Bool) () (fun word (s : Unit) w => zV word fun t4 =>
 w (some t4) ()) fun l5 s6 =>
 kk2 ((!(l5.all id)), ())) fun (b7 : Bool × Unit) =>
 ifP b7.1 (kr (none : (Option (List Int)))) <|
 (words.length ≤ sizeLine) ∧
 lcW words ([] : List Int) () (fun word (s : Unit) w => (word.length ≤ 640) ∧
 exW (PySem.intText? word) fun x9 =>
 w (some x9) ()) fun l12 s13 =>
 lt (l12 : (List Int)) fun box =>
 exW (atI box 2) fun x14 =>
 ifW (decide (0 < x14)) (fun kk16 => exW (atI box 3) fun x17 =>
 kk16 ((decide (0 < x17)), ())) (fun kk16 => kk16 (false, ())) fun (b19 : Bool × Unit) =>
 ifP b19.1 (kr (some box)) <|
 kr (none : (Option (List Int)))
def xU : FS := mkS (α := Str) (κ := (Option (List Int))) [.cst] (fun a => [D.str a]) (fun a => uN a) (fun r => (eO (eV D.int)) r) fun a r => [D.str a]
theorem qa6 : BodyOk xU 4 (W6 wA) := by
 intro ds Q hl h
 obtain ⟨row, kr, rfl, h, q⟩ := h
 refine uL (e' := [_, _, _, _]) rfl ?_
 unfold W6
 unfold uN at h
 refine wO <| s_asg <| Q7 <| qu rfl <| QR .tmp (by rfl) <| qd <| c_C <| qC ?_
 obtain ⟨p1, h⟩ := h
 refine uJ .tmp .tmp p1 ?_
 refine g_N (f := (eL D.str)) (fun words => [_, zO (eL D.str words), _, _]) h rfl (fun _ => rfl) fun words h => ?_
 refine wO <| s_if <| WQ <| yJ <| qQ <| zj <| qd <| qu rfl <| qC <| zg (.cons .z .nil) QS <| c_C <| qP .tmp .tmp (op_ne (f := D.int)) <| yI .tmp tr_b ?_
 refine Wz (sh := fun (s : Unit) e => e = [zS (D.str row), zO (eL D.str words), none, none]) h rfl (fun hb kk2 N hJ2 h => ?_) ?_
 ·skip
  refine vq <| yJ <| zj <| qd <| c_lc <| qaP <| qu rfl <| qcP (e' := [_, _, _, _]) rfl rfl rfl ?_
  obtain ⟨p3, h⟩ := h
  refine Y9 (fI := D.str) (fo := D.bl) (sh := fun (s : Unit) e => e = [zS (D.str row), some ((eL D.str) words, .lk), none, none]) h (all1 rfl) p3 rfl (fun word ha s e hs w c k1 k2 hc h1 h2 h => ?_) ?_
  ·obtain rfl := hs
   refine g_n (e' := [_, _, _, _]) rfl rfl (?_)
   refine Xv <| c_fn <| qd <| qu rfl <| qC ?_
   refine x_call word (fun t4 => [_, _, _, _]) h (.cons .tmp .nil) (qD qT qZ) (zp (by rfl)) (fun _ => rfl) fun t4 h => ?_
   exact o_el .tmp hc rfl (h1 _ () _ rfl h)
  rintro l5 s6 e hs h
  obtain rfl := hs
  refine jN (e' := [_, _, _, _]) rfl <| QM (e' := [_, _, _, _]) rfl rfl <| qC <| zg (.cons .tmp .nil) qbm <| yI .tmp tr_b ?_
  exact hJ2 ((!(l5.all id)), ()) _ rfl h
 rintro b7 e hs h
 obtain rfl := hs
 refine uY h (fun hb h => ?_) (fun hb h => ?_)
 ·skip
  refine s_ret <| c_C <| xM ?_
  exact q (none : (Option (List Int))) h
 refine uI <| wO <| s_asg <| zj <| qd <| c_lc <| qaP <| qu rfl <| qcP (e' := [_, _, _, _]) rfl rfl rfl ?_
 obtain ⟨p8, h⟩ := h
 refine Y9 (fI := D.str) (fo := D.int) (sh := fun (s : Unit) e => e = [zS (D.str row), some ((eL D.str) words, .lk), none, none]) h (all1 rfl) p8 rfl (fun word ha s e hs w c k1 k2 hc h1 h2 h => ?_) ?_
 ·obtain rfl := hs
  refine g_n (e' := [_, _, _, _]) rfl rfl (?_)
  refine Xv <| zj <| qd <| qu rfl <| qC ?_
  obtain ⟨p11, x9, p10, h⟩ := h
  refine zg (.cons .tmp .nil) (qer p10 p11) ?_
  exact o_el .tmp hc rfl (h1 _ () _ rfl h)
 rintro l12 s13 e hs h
 obtain rfl := hs
 refine jN (e' := [_, _, _, _]) rfl <| QM (e' := [_, _, _, _]) rfl rfl <| qC <| zg (.cons .tmp .nil) (qbS (f := D.int)) ?_
 refine g_N (f := (eV D.int)) (fun box => [_, _, zO (eV D.int box), _]) h rfl (fun _ => rfl) fun box h => ?_
 refine qcC <| s_if <| qdn <| yJ <| qQ <| jL <| qu rfl <| c_C ?_
 obtain ⟨x14, p15, h⟩ := h
 refine o_idx .z .tmp (ix_V p15) (.sl (Im.im (f := D.int) _)) <| c_C <| qP .tmp .tmp Z3 <| yI .tmp tr_b ?_
 refine qcR (sh := fun (s : Unit) e => e = [zS (D.str row), zO (eL D.str words), zO (eV D.int box), none]) h rfl (fun hb kk16 N hJ16 h => ?_) ?_
 ·skip
  refine yJ <| qQ <| jL <| qu rfl <| c_C ?_
  obtain ⟨x17, p18, h⟩ := h
  refine o_idx .z .tmp (ix_V p18) (.sl (Im.im (f := D.int) _)) <| c_C <| qP .tmp .tmp Z3 <| yI .tmp tr_b ?_
  exact hJ16 ((decide (0 < x17)), ()) _ rfl h
 rintro b19 e hs h
 obtain rfl := hs
 refine uY h (fun hb h => ?_) (fun hb h => ?_)
 ·skip
  refine s_ret <| qu rfl <| V5 (m := .own) (by rfl) ?_
  exact q (some box) h
 refine s_ret <| c_C <| xM ?_
 exact q (none : (Option (List Int))) h
def vC (xU : FS) : XS :=
 (sSeq (sIf (xVal (dBin 2 opEq (dVar 0) (dC (.str (Str.ofString ""))))) (sRet (dLst aNil)) sNil)
 (sSeq (sAsg (dLst aNil) (gN 1))
 (sSeq (qbg (WK (dMn isStr jO (dVar 0) (qm (dC (.str (Str.ofString "\n"))) aNil))) (gT 2 (yR (gN 2) (yR (gN 3) Wj))) (sSeq (sAsg (dFn xU (qm (dVar 3) aNil)) (gN 4))
 (sSeq (sIf (xVal (dBin 2 opIs (dVar 4) (dC .non))) (QF "BadRow" (dVar 2)) sNil)
 (VG (dM1 D.isLst bAppend (dVar 1) (dVar 4))))))
 (sRet (dVar 1)))))
def je (text : Str) (kr : Exc ⊕ (List (List Int)) → Prop) : Prop :=
 (PyData.strOk text = true ∧ PyData.strOk (Str.ofString "") = true) ∧
 (ifP (decide (text = (Str.ofString ""))) (kr (.inr ([] : List (List Int)))) <|
 lt (([] : List (List Int)) : (List (List Int))) fun found =>
 (((Str.ofString "\n").length == 0) = false ∧ text.length + 2 ≤ sizeLine) ∧
 forW (yN (Txt.split text (Str.ofString "\n"))) found (fun a6 (found : (List (List Int))) kk7 => uN a6.2 fun t8 =>
 ifP t8.isNone (kr (.inl ("BadRow", [("line", a6.1)]))) <|
 exW t8 fun x11 =>
 (found.length < sizeLine) ∧
 lt (found ++ [x11]) fun found =>
 kk7 found) fun found =>
 kr (.inr found))
def yo : FS := mkSX (α := Str) (κ := (List (List Int))) [.cst] (fun a => [D.str a]) (fun a => je a) (fun r => (eL (eV D.int)) r)
theorem Uo : vO yo 5 (vC xU) := by
 intro ds Q hl h
 obtain ⟨text, kr, rfl, h, q⟩ := h
 refine uL (e' := [_, _, _, _, _]) rfl ?_
 unfold vC
 unfold je at h
 refine wO <| s_if <| yJ <| qQ <| qu rfl <| c_C ?_
 obtain ⟨p1, h⟩ := h
 refine qP .tmp .tmp (QK p1.1 p1.2) <| yI .tmp tr_b ?_
 refine uY h (fun hb h => ?_) (fun hb h => ?_)
 ·skip
  refine s_ret <| yX <| qC <| zW (eV D.int) ([] : List (List Int)) .nil <| xM ?_
  exact q (.inr ([] : List (List Int))) h
 refine uI <| wO <| s_asg <| yX <| qC <| zW (eV D.int) ([] : List (List Int)) .nil ?_
 refine g_N (f := (eL (eV D.int))) (fun found => [_, zO (eL (eV D.int) found), _, _, _]) h rfl (fun _ => rfl) fun found h => ?_
 refine wO <| qbL <| JQ <| Q7 <| qu rfl <| QR .tmp (by rfl) <| qd <| c_C <| qC ?_
 obtain ⟨p2, h⟩ := h
 refine uJ .tmp .tmp p2 <| qel ?_
 refine Xa (fI := (eT2 D.int D.str)) (sh := fun (found : (List (List Int))) e => ∃ c3 c4 c5 : Option (D × Md), (setS (some c3) = true ∧ setS (some c4) = true ∧ setS (some c5) = true) ∧ e = [zS (D.str text), zO (eL (eV D.int) found), c3, c4, c5]) h ⟨_, _, _, ⟨rfl, rfl, rfl⟩, rfl⟩ (fun a6 ha found e hs kk7 nxkk7 hJ7 h => ?_) ?_
 ·skip
  obtain ⟨c3, c4, c5, ⟨hc3, hc4, hc5⟩, rfl⟩ := hs
  refine g_T (by rfl) (uw (g_n (e' := [_, _, _, _, _]) hc3 rfl (uw (g_n (e' := [_, _, _, _, _]) hc4 rfl (qar (?_))))))
  refine wO <| s_asg <| c_fn <| qd <| qu rfl <| qC ?_
  refine x_call a6.2 (fun t8 => [_, _, _, _, _]) h (.cons .tmp .nil) (qD qT qZ) (zp (by rfl)) (fun _ => rfl) fun t8 h => ?_
  refine g_n (e' := [_, _, _, _, _]) hc5 rfl ?_
  refine wO <| s_if <| yJ <| qQ <| qcc (by rfl) rfl fun r9 hr10 => c_C <| qP hr10.up .tmp qd6 <| yI .tmp tr_b ?_
  refine uY h (fun hb h => ?_) (fun hb h => ?_)
  ·skip
   refine X3 <| qu rfl <| Ji .tmp <| Jh <| zA ?_
   exact q (.inl ("BadRow", [("line", a6.1)])) h
  refine uI ?_
  obtain ⟨x11, p12, h⟩ := h
  refine uL (e' := [_, _, _, _, _]) (by rw [p12] <;> rfl) <| qbM <| c_m1 (by rfl) (by rfl) (by decide) (by rfl) <| qu rfl ?_
  obtain ⟨p13, h⟩ := h
  refine qbl (fun found => [_, zO (eL (eV D.int) found), _, _, _]) h (.of .z (Im.im (f := (eV D.int)) _)) (by rfl) p13 (fun _ => rfl) fun found h => ?_
  exact hJ7 found _ ⟨_, _, _, ⟨rfl, rfl, rfl⟩, rfl⟩ h
 rintro found e hs h
 obtain ⟨c3, c4, c5, ⟨hc3, hc4, hc5⟩, rfl⟩ := hs
 refine zA <| s_ret <| qu rfl <| V5 (m := .own) (by rfl) ?_
 exact q (.inr found) h
def xV (yH yo : FS) : XS :=
 (sSeq (sAsg (dC .non) (gN 2))
 (sSeq (qbf ["BadRow"] 3 2 (vW (UT 0 "room_in" yH "boxes_in" yo (qm (dVar 1) aNil))))
 (sRet (dVar 2))))
abbrev Xn (b : Bool) : D := .op (some (pk2 b (Str.ofString "room_in") (Str.ofString "boxes_in")))
abbrev qb3 (b : Bool) : D := .op (some (pk2 b (Str.ofString "_law_picture_fault") (Str.ofString "_law_boxes_fault")))
def wg (call : Bool) (text : Str) (kr : Option Int → Prop) : Prop :=
 ifP call (je text fun r => LnOk "BadRow" r ∧ kr (Z6 r)) (jQ text fun r => LnOk "BadRow" r ∧ kr (Z6 r))
def qI : FS := mkS (α := (Bool × Str)) (κ := Option Int) [.cst, .cst] (fun a => [Xn a.1, D.str a.2]) (fun a => wg a.1 a.2) (fun r => (eO D.int) r) fun a r => [Xn a.1, D.str a.2]
theorem We : BodyOk qI 4 (xV yH yo) := by
 intro ds Q hl h
 obtain ⟨⟨call, text⟩, kr, rfl, h, q⟩ := h
 refine uL (e' := [_, _, _, _]) rfl ?_
 unfold xV
 have h : wg call text kr := h
 unfold wg at h
 refine wO <| s_asg <| c_C ?_
 refine g_n (e' := [_, _, _, _]) rfl rfl ?_
 refine wO <| qdW <| qdY call (by rfl) ?_
 have fin : ∀ o, kr o → sRet (dVar 2) [zS (Xn call), zS (D.str text), zO (eO D.int o), none] (outD qI [Xn call, D.str text] Q .non) (outD qI [Xn call, D.str text] Q) := fun o ho => by
  refine s_ret <| qcc (by rfl) rfl fun r1 hr2 => qeg hr2 (Im.im (f := eO D.int) _) ?_
  exact q o ho
 cases call with
 | false =>
   show vW (dFnX yH _) _ _ _
   refine VF ?_ (qaf qbT qbU) wW
   refine qd <| qu rfl <| qC ?_
   exact Vb text (h.2 rfl) (.cons .tmp .nil) (qD qT qZ) (zp (by rfl)) rfl (by simp) (fun x hx => qef hx.1 rfl rfl hx.2 fin) (fun v hv => fin none hv.2)
 | true =>
   show vW (dFnX yo _) _ _ _
   refine VF ?_ (qaf qbT qbU) wW
   refine qd <| qu rfl <| qC ?_
   exact Vb text (h.1 rfl) (.cons .tmp .nil) (qD qT qZ) (zp (by rfl)) rfl (by simp) (fun x hx => qef hx.1 rfl rfl hx.2 fin) (fun v hv => fin none hv.2)
def yt : XS :=
 (sSeq (sIf (xVal (dBin 2 opEq (dVar 0) (dC (.str (Str.ofString ""))))) (sRet (dC .non)) sNil)
 (sSeq (sAsg (dMn isStr jO (dVar 0) (qm (dC (.str (Str.ofString "\n"))) aNil)) (gN 1))
 (sSeq (sFor (WK (dVar 1)) (gT 2 (yR (gN 2) (yR (gN 3) Wj))) (sIf (xOr (xVal (dBin 2 opEq (dVar 3) (dC (.str (Str.ofString ""))))) (xOr (xVal (dBin 2 opNe (dCall 2 (op1 bLen) (qm (dVar 3) aNil)) (dCall 2 (op1 bLen) (qm (dIdx (dVar 1) (dC (.int 0))) aNil)))) (xVal (dBin 2 opNe (dLc (UG (dVar 3)) (gN 4) (xAnd (xVal (dBin 2 opNe (dVar 4) (dC (.str (Str.ofString "#"))))) (xVal (dBin 2 opNe (dVar 4) (dC (.str (Str.ofString ".")))))) (dVar 4) [4]) (dLst aNil))))) (sRet (dVar 2)) sNil))
 (sRet (dC .non)))))
def wN (text : Str) (kr : (Option Int) → Prop) : Prop :=
 (PyData.strOk text = true ∧ PyData.strOk (Str.ofString "") = true) ∧
 (ifP (decide (text = (Str.ofString ""))) (kr (none : (Option Int))) <|
 (((Str.ofString "\n").length == 0) = false ∧ text.length + 2 ≤ sizeLine) ∧
 lt ((Txt.split text (Str.ofString "\n")) : (List Str)) fun rows =>
 forW (yN rows) () (fun a6 (s3 : Unit) kk7 => (PyData.strOk a6.2 = true ∧ PyData.strOk (Str.ofString "") = true) ∧
 ifW (decide (a6.2 = (Str.ofString ""))) (fun kk9 => kk9 (true, ())) (fun kk9 => (a6.2.length ≤ sizeLine) ∧
 exW (atI rows 0) fun x11 =>
 (x11.length ≤ sizeLine) ∧
 ifW (!(decide ((a6.2.length : Int) = (x11.length : Int)))) (fun kk14 => kk14 (true, ())) (fun kk14 => ((sgns a6.2).length ≤ sizeLine) ∧
 (∀ sign ∈ (sgns a6.2), ((PyData.strOk sign = true ∧ PyData.strOk (Str.ofString "#") = true) ∧
 True) ∧
 ((!(decide (sign = (Str.ofString "#")))) = true → (PyData.strOk sign = true ∧ PyData.strOk (Str.ofString ".") = true) ∧
 True) ∧
 True) ∧
 (eqOk ((eL D.str) ((sgns a6.2).filter (fun sign => ((!(decide (sign = (Str.ofString "#")))) && (!(decide (sign = (Str.ofString ".")))))))) = true ∧ True) ∧
 kk14 ((!(((sgns a6.2).filter (fun sign => ((!(decide (sign = (Str.ofString "#")))) && (!(decide (sign = (Str.ofString "."))))))).isEmpty)), ())) fun (b22 : Bool × Unit) =>
 kk9 (b22.1, ())) fun (b23 : Bool × Unit) =>
 ifP b23.1 (kr (some a6.1)) <|
 kk7 ()) fun s3 =>
 kr (none : (Option Int)))
def qO : FS := mkS (α := Str) (κ := (Option Int)) [.cst] (fun a => [D.str a]) (fun a => wN a) (fun r => (eO D.int) r) fun a r => [D.str a]
theorem uo : BodyOk qO 5 yt := by
 intro ds Q hl h
 obtain ⟨text, kr, rfl, h, q⟩ := h
 refine uL (e' := [_, _, _, _, _]) rfl ?_
 unfold yt
 unfold wN at h
 refine wO <| s_if <| yJ <| qQ <| qu rfl <| c_C ?_
 obtain ⟨p1, h⟩ := h
 refine qP .tmp .tmp (QK p1.1 p1.2) <| yI .tmp tr_b ?_
 refine uY h (fun hb h => ?_) (fun hb h => ?_)
 ·skip
  refine s_ret <| c_C <| xM ?_
  exact q (none : (Option Int)) h
 refine uI <| wO <| s_asg <| Q7 <| qu rfl <| QR .tmp (by rfl) <| qd <| c_C <| qC ?_
 obtain ⟨p2, h⟩ := h
 refine uJ .tmp .tmp p2 ?_
 refine g_N (f := (eL D.str)) (fun rows => [_, zO (eL D.str rows), _, _, _]) h rfl (fun _ => rfl) fun rows h => ?_
 refine wO <| qbe <| JQ <| qu rfl <| qem (e' := [_, _, _, _, _]) rfl rfl rfl ?_
 refine Xa (fI := (eT2 D.int D.str)) (sh := fun (s3 : Unit) e => ∃ c4 c5 : Option (D × Md), (setS (some c4) = true ∧ setS (some c5) = true) ∧ e = [zS (D.str text), some ((eL D.str) rows, .lk), c4, c5, none]) h ⟨_, _, ⟨rfl, rfl⟩, rfl⟩ (fun a6 ha s3 e hs kk7 nxkk7 hJ7 h => ?_) ?_
 ·skip
  obtain ⟨c4, c5, ⟨hc4, hc5⟩, rfl⟩ := hs
  refine g_T (by rfl) (uw (g_n (e' := [_, _, _, _, _]) hc4 rfl (uw (g_n (e' := [_, _, _, _, _]) hc5 rfl (qar (?_))))))
  refine s_if <| WQ <| yJ <| qQ <| qu rfl <| c_C ?_
  obtain ⟨p8, h⟩ := h
  refine qP .tmp .tmp (QK p8.1 p8.2) <| yI .tmp tr_b ?_
  refine Wz (sh := fun (s : Unit) e => e = [zS (D.str text), some ((eL D.str) rows, .lk), zO (D.int a6.1), zO (D.str a6.2), none]) h rfl (fun hb kk9 N hJ9 h => ?_) ?_
  ·skip
   refine WQ <| yJ <| qQ <| zj <| qd <| qu rfl <| qC ?_
   obtain ⟨p10, h⟩ := h
   refine zg (.cons .tmp .nil) (uZ p10) <| zj <| qd <| jL <| qu rfl <| c_C ?_
   obtain ⟨x11, p12, h⟩ := h
   refine o_idx .z .tmp (ix_L p12) (.sl (Im.im (f := D.str) _)) <| qC ?_
   obtain ⟨p13, h⟩ := h
   refine zg (.cons .tmp .nil) (uZ p13) <| qP .tmp .tmp (op_ne (f := D.int)) <| yI .tmp tr_b ?_
   refine Wz (sh := fun (s : Unit) e => e = [zS (D.str text), some ((eL D.str) rows, .lk), zO (D.int a6.1), zO (D.str a6.2), none]) h rfl (fun hb kk14 N hJ14 h => ?_) ?_
   ·skip
    refine yJ <| qQ <| c_lc <| JP <| qu rfl <| Jj .tmp ?_
    obtain ⟨p15, h⟩ := h
    obtain ⟨p16, h⟩ := h
    refine qbQ (e := [_, _, _, _, _]) (fI := D.str) (fo := D.str) (fun sign => ((!(decide (sign = (Str.ofString "#")))) && (!(decide (sign = (Str.ofString ".")))))) (all1 rfl) p15 rfl (fun sign ha c k1 k2 hc h1 h2 => ?_) ?_
    ·have h := p16 sign ha
     refine g_n (e' := [_, _, _, _, _]) rfl rfl (?_)
     obtain ⟨p17, h⟩ := h
     obtain ⟨p18, h⟩ := h
     refine qeW (!(decide (sign = (Str.ofString "#")))) (!(decide (sign = (Str.ofString ".")))) (fun Q q => ?_) (fun hb Q q => ?_) ?_
     ·have h := p17
      refine yJ <| qQ <| qu rfl <| c_C ?_
      obtain ⟨p19, h⟩ := h
      refine qP .tmp .tmp (Je p19.1 p19.2) <| yI .tmp tr_b ?_
      exact q
     ·have h := p18 hb
      refine yJ <| qQ <| qu rfl <| c_C ?_
      obtain ⟨p20, h⟩ := h
      refine qP .tmp .tmp (Je p20.1 p20.2) <| yI .tmp tr_b ?_
      exact q
     refine ⟨fun hb => ?_, fun hb => h2 hb⟩
     try replace h := h hb
     refine qu rfl ?_
     exact o_el .tmp hc rfl (h1 hb)
    refine jN (e' := [_, _, _, _, _]) rfl <| zA <| yX <| qC <| zW D.str ([] : List Str) .nil ?_
    obtain ⟨p21, h⟩ := h
    refine qP .tmp .tmp ((qbh (f := D.str) (g := D.str)) p21.1 p21.2) <| yI .tmp tr_b ?_
    exact hJ14 ((!(((sgns a6.2).filter (fun sign => ((!(decide (sign = (Str.ofString "#")))) && (!(decide (sign = (Str.ofString "."))))))).isEmpty)), ()) _ rfl h
   rintro b22 e hs h
   obtain rfl := hs
   exact hJ9 (b22.1, ()) _ rfl h
  rintro b23 e hs h
  obtain rfl := hs
  refine uY h (fun hb h => ?_) (fun hb h => ?_)
  ·skip
   refine s_ret <| qu rfl <| xM <| QM (e' := [_, _, _, _, _]) rfl rfl ?_
   exact q (some a6.1) h
  refine uI ?_
  exact hJ7 () _ ⟨_, _, ⟨rfl, rfl⟩, rfl⟩ h
 rintro s3 e hs h
 obtain ⟨c4, c5, ⟨hc4, hc5⟩, rfl⟩ := hs
 refine QM (e' := [_, _, _, _, _]) rfl rfl <| s_ret <| c_C <| xM ?_
 exact q (none : (Option Int)) h
def yW : XS :=
 (sSeq (sAsg (dLc (UG (dVar 0)) (gN 2) (xVal (dBin 1 Y6 (dVar 2) (dC (.str (Str.ofString "0123456789"))))) (dVar 2) [2]) (gN 1))
 (sRet (dAnd (dBin 2 opEq (dVar 1) (dLst aNil)) (dAnd (dChn 2 opLe 2 opLe (dC (.int 1)) (dCall 2 (op1 bLen) (qm (dVar 0) aNil)) (dC (.int 2))) (dOr (dBin 2 opEq (dVar 0) (dC (.str (Str.ofString "0")))) (dBin 2 opNe (dIdx (dVar 0) (dC (.int 0))) (dC (.str (Str.ofString "0")))))))))
def wY (word : Str) (kr : Bool → Prop) : Prop :=
 ((sgns word).length ≤ sizeLine) ∧
 lt (((sgns word).filter (fun sign => (!inS sign (Str.ofString "0123456789")))) : (List Str)) fun some' =>
 (eqOk ((eL D.str) some') = true ∧ True) ∧
 ifW (some'.isEmpty) (fun kk3 => (word.length ≤ sizeLine) ∧
 ifW ((decide (1 ≤ (word.length : Int))) && (decide ((word.length : Int) ≤ 2))) (fun kk5 => (PyData.strOk word = true ∧ PyData.strOk (Str.ofString "0") = true) ∧
 ifW (decide (word = (Str.ofString "0"))) (fun kk7 => kk7 (true, ())) (fun kk7 => (word.length ≤ sizeLine) ∧
 exW (atI (sgns word) 0) fun x8 =>
 (PyData.strOk x8 = true ∧ PyData.strOk (Str.ofString "0") = true) ∧
 kk7 ((!(decide (x8 = (Str.ofString "0")))), ())) fun (b12 : Bool × Unit) =>
 kk5 (b12.1, ())) (fun kk5 => kk5 (false, ())) fun (b13 : Bool × Unit) =>
 kk3 (b13.1, ())) (fun kk3 => kk3 (false, ())) fun (b14 : Bool × Unit) =>
 kr b14.1
def wC : FS := mkS (α := Str) (κ := Bool) [.cst] (fun a => [D.str a]) (fun a => wY a) (fun r => D.bl r) fun a r => [D.str a]
theorem v5 : BodyOk wC 3 yW := by
 intro ds Q hl h
 obtain ⟨word, kr, rfl, h, q⟩ := h
 refine uL (e' := [_, _, _]) rfl ?_
 unfold yW
 unfold wY at h
 refine wO <| s_asg <| c_lc <| JP <| qu rfl <| Jj .tmp ?_
 obtain ⟨p1, h⟩ := h
 refine qbQ (e := [_, _, _]) (fI := D.str) (fo := D.str) (fun sign => (!inS sign (Str.ofString "0123456789"))) (all1 rfl) p1 rfl (fun sign ha c k1 k2 hc h1 h2 => ?_) ?_
 ·skip
  refine g_n (e' := [_, _, _]) rfl rfl (?_)
  refine yJ <| qQ <| qu rfl <| c_C <| qP .tmp .tmp qcK <| yI .tmp tr_b ?_
  refine ⟨fun hb => ?_, fun hb => h2 hb⟩
  refine qu rfl ?_
  exact o_el .tmp hc rfl (h1 hb)
 refine jN (e' := [_, _, _]) rfl <| zA ?_
 refine g_N (f := (eL D.str)) (fun some' => [zS (D.str word), zO (eL D.str some'), none]) h rfl (fun _ => rfl) fun some' h => ?_
 refine s_ret <| Xw <| qQ <| qu rfl <| yX <| qC <| zW D.str ([] : List Str) .nil ?_
 obtain ⟨p2, h⟩ := h
 refine qP .z .tmp ((V4 (f := D.str) (g := D.str)) p2.1 p2.2) <| Z5 .tmp ?_
 refine Xb (sh := fun (s : Unit) e => e = [zS (D.str word), zO (eL D.str some'), none]) h rfl (fun hb kk3 N hJ3 h => ?_) ?_
 ·skip
  refine Xw <| qeU <| c_C <| zj <| qd <| qu rfl <| qC ?_
  obtain ⟨p4, h⟩ := h
  refine zg (.cons .tmp .nil) (uZ p4) ?_
  refine qen (decide (1 ≤ (word.length : Int))) (decide ((word.length : Int) ≤ 2)) .tmp .tmp .tmp Jf (fun hb Q q => ?_) (fun _ => Jf) ?_
  ·skip
   refine c_C ?_
   exact q _ .tmp
  refine Z5 .tmp ?_
  refine Xb (sh := fun (s : Unit) e => e = [zS (D.str word), zO (eL D.str some'), none]) h rfl (fun hb kk5 N hJ5 h => ?_) ?_
  ·skip
   refine qcd <| qQ <| qu rfl <| c_C ?_
   obtain ⟨p6, h⟩ := h
   refine qP .tmp .tmp (QK p6.1 p6.2) <| Z5 .tmp ?_
   refine qbP (sh := fun (s : Unit) e => e = [zS (D.str word), zO (eL D.str some'), none]) h rfl (fun hb kk7 N hJ7 h => ?_) ?_
   ·skip
    refine qQ <| jL <| qu rfl <| c_C ?_
    obtain ⟨p10, x8, p9, h⟩ := h
    refine o_idx .tmp .tmp (ix_S p9 p10) .tmp <| c_C ?_
    obtain ⟨p11, h⟩ := h
    refine qP .tmp .tmp (Je p11.1 p11.2) ?_
    exact hJ7 ((!(decide (x8 = (Str.ofString "0")))), ()) _ rfl h
   rintro b12 e hs h
   obtain rfl := hs
   exact hJ5 (b12.1, ()) _ rfl h
  rintro b13 e hs h
  obtain rfl := hs
  exact hJ3 (b13.1, ()) _ rfl h
 rintro b14 e hs h
 obtain rfl := hs
 refine xM ?_
 exact q b14.1 h
def yE (wC : FS) : XS :=
 (sSeq (sIf (xVal (dBin 2 opEq (dVar 0) (dC (.str (Str.ofString ""))))) (sRet (dC .non)) sNil)
 (sSeq (sFor (WK (dMn isStr jO (dVar 0) (qm (dC (.str (Str.ofString "\n"))) aNil))) (gT 2 (yR (gN 1) (yR (gN 2) Wj))) (sSeq (sAsg (dMn isStr jO (dVar 2) (qm (dC (.str (Str.ofString " "))) aNil)) (gN 3))
 (sIf (xOr (xVal (dBin 2 opNe (dCall 2 (op1 bLen) (qm (dVar 3) aNil)) (dC (.int 4)))) (xOr (xNot (xVal (dCall 2 (op1 bAll) (qm (dLc (iSeq (dVar 3)) (gN 4) xYes (dFn wC (qm (dVar 4) aNil)) [4]) aNil)))) (xVal (dBin 1 opIn (dC (.str (Str.ofString "0"))) (xg (dVar 3) (xQ (dC (.int 2))) xR))))) (sRet (dVar 1)) sNil)))
 (sRet (dC .non))))
def zf (text : Str) (kr : (Option Int) → Prop) : Prop :=
 (PyData.strOk text = true ∧ PyData.strOk (Str.ofString "") = true) ∧
 (ifP (decide (text = (Str.ofString ""))) (kr (none : (Option Int))) <|
 (((Str.ofString "\n").length == 0) = false ∧ text.length + 2 ≤ sizeLine) ∧
 forW (yN (Txt.split text (Str.ofString "\n"))) () (fun a7 (s3 : Unit) kk8 => (((Str.ofString " ").length == 0) = false ∧ a7.2.length + 2 ≤ sizeLine) ∧
 lt ((Txt.split a7.2 (Str.ofString " ")) : (List Str)) fun words =>
 ifW (!(decide ((words.length : Int) = 4))) (fun kk10 => kk10 (true, ())) (fun kk10 => (words.length ≤ sizeLine) ∧
 lcW words ([] : List Bool) () (fun word (s : Unit) w => wY word fun t12 =>
 w (some t12) ()) fun l13 s14 =>
 ifW (!(l13.all id)) (fun kk15 => kk15 (true, ())) (fun kk15 => (PyData.strOk (Str.ofString "0") = true ∧ ∀ a ∈ (cutA words (some 2) none), PyData.strOk a = true) ∧
 kk15 ((memB (Str.ofString "0") (cutA words (some 2) none)), ())) fun (b17 : Bool × Unit) =>
 kk10 (b17.1, ())) fun (b18 : Bool × Unit) =>
 ifP b18.1 (kr (some a7.1)) <|
 kk8 ()) fun s3 =>
 kr (none : (Option Int)))
def qW : FS := mkS (α := Str) (κ := (Option Int)) [.cst] (fun a => [D.str a]) (fun a => zf a) (fun r => (eO D.int) r) fun a r => [D.str a]
theorem uO : BodyOk qW 5 (yE wC) := by
 intro ds Q hl h
 obtain ⟨text, kr, rfl, h, q⟩ := h
 refine uL (e' := [_, _, _, _, _]) rfl ?_
 unfold yE
 unfold zf at h
 refine wO <| s_if <| yJ <| qQ <| qu rfl <| c_C ?_
 obtain ⟨p1, h⟩ := h
 refine qP .tmp .tmp (QK p1.1 p1.2) <| yI .tmp tr_b ?_
 refine uY h (fun hb h => ?_) (fun hb h => ?_)
 ·skip
  refine s_ret <| c_C <| xM ?_
  exact q (none : (Option Int)) h
 refine uI <| wO <| qbe <| JQ <| Q7 <| qu rfl <| QR .tmp (by rfl) <| qd <| c_C <| qC ?_
 obtain ⟨p2, h⟩ := h
 refine uJ .tmp .tmp p2 <| qel ?_
 refine Xa (fI := (eT2 D.int D.str)) (sh := fun (s3 : Unit) e => ∃ c4 c5 c6 : Option (D × Md), (setS (some c4) = true ∧ setS (some c5) = true ∧ setS (some c6) = true) ∧ e = [zS (D.str text), c4, c5, c6, none]) h ⟨_, _, _, ⟨rfl, rfl, rfl⟩, rfl⟩ (fun a7 ha s3 e hs kk8 nxkk8 hJ8 h => ?_) ?_
 ·skip
  obtain ⟨c4, c5, c6, ⟨hc4, hc5, hc6⟩, rfl⟩ := hs
  refine g_T (by rfl) (uw (g_n (e' := [_, _, _, _, _]) hc4 rfl (uw (g_n (e' := [_, _, _, _, _]) hc5 rfl (qar (?_))))))
  refine wO <| s_asg <| Q7 <| qu rfl <| QR .tmp (by rfl) <| qd <| c_C <| qC ?_
  obtain ⟨p9, h⟩ := h
  refine uJ .tmp .tmp p9 ?_
  refine g_N (f := (eL D.str)) (fun words => [_, _, _, zO (eL D.str words), _]) h hc6 (fun _ => rfl) fun words h => ?_
  refine s_if <| WQ <| yJ <| qQ <| zj <| qd <| qu rfl <| qC <| zg (.cons .z .nil) QS <| c_C <| qP .tmp .tmp (op_ne (f := D.int)) <| yI .tmp tr_b ?_
  refine Wz (sh := fun (s : Unit) e => e = [zS (D.str text), zO (D.int a7.1), zO (D.str a7.2), zO (eL D.str words), none]) h rfl (fun hb kk10 N hJ10 h => ?_) ?_
  ·skip
   refine WQ <| vq <| yJ <| zj <| qd <| c_lc <| qaP <| qu rfl <| qcP (e' := [_, _, _, _, _]) rfl rfl rfl ?_
   obtain ⟨p11, h⟩ := h
   refine Y9 (fI := D.str) (fo := D.bl) (sh := fun (s : Unit) e => e = [zS (D.str text), zO (D.int a7.1), zO (D.str a7.2), some ((eL D.str) words, .lk), none]) h (all1 rfl) p11 rfl (fun word ha s e hs w c k1 k2 hc h1 h2 h => ?_) ?_
   ·obtain rfl := hs
    refine g_n (e' := [_, _, _, _, _]) rfl rfl (?_)
    refine Xv <| c_fn <| qd <| qu rfl <| qC ?_
    refine x_call word (fun t12 => [_, _, _, _, _]) h (.cons .tmp .nil) (qD qT qZ) (zp (by rfl)) (fun _ => rfl) fun t12 h => ?_
    exact o_el .tmp hc rfl (h1 _ () _ rfl h)
   rintro l13 s14 e hs h
   obtain rfl := hs
   refine jN (e' := [_, _, _, _, _]) rfl <| QM (e' := [_, _, _, _, _]) rfl rfl <| qC <| zg (.cons .tmp .nil) qbm <| yI .tmp tr_b ?_
   refine Wz (sh := fun (s : Unit) e => e = [zS (D.str text), zO (D.int a7.1), zO (D.str a7.2), zO (eL D.str words), none]) h rfl (fun hb kk15 N hJ15 h => ?_) ?_
   ·skip
    refine yJ <| qQ <| c_C <| yG <| qu rfl <| zJ <| c_C <| zE .tmp <| zK <| uX (f := D.str) (lo := (some 2)) (hi := none) .z ?_
    obtain ⟨p16, h⟩ := h
    refine qP .tmp .tmp (qcM p16.1 p16.2) <| yI .tmp tr_b ?_
    exact hJ15 ((memB (Str.ofString "0") (cutA words (some 2) none)), ()) _ rfl h
   rintro b17 e hs h
   obtain rfl := hs
   exact hJ10 (b17.1, ()) _ rfl h
  rintro b18 e hs h
  obtain rfl := hs
  refine uY h (fun hb h => ?_) (fun hb h => ?_)
  ·skip
   refine s_ret <| qu rfl <| xM <| zA ?_
   exact q (some a7.1) h
  refine uI ?_
  exact hJ8 () _ ⟨_, _, _, ⟨rfl, rfl, rfl⟩, rfl⟩ h
 rintro s3 e hs h
 obtain ⟨c4, c5, c6, ⟨hc4, hc5, hc6⟩, rfl⟩ := hs
 refine zA <| s_ret <| c_C <| xM ?_
 exact q (none : (Option Int)) h
def xr (qw : FS) : XS :=
 (sSeq (sAsg (dC (.str (Str.ofString " !\"#$&'()*+,-./0123456789:;<=>?@ABCDEFGHIJKLMNOPQRSTUVWXYZ"))) (gN 1))
 (sSeq (sAsg (dBin 1 wH (dVar 1) (dC (.str (Str.ofString "[\\]^_`abcdefghijklmnopqrstuvwxyz{|}~")))) (gN 1))
 (sRet (dIdx (dVar 1) (dFn qw (qm (dVar 0) (qm (dCall 2 (op1 bLen) (qm (dVar 1) aNil)) aNil)))))))
def zq (tape : (Int × Int)) (kr : (Str × (Int × Int)) → Prop) : Prop :=
 ((Str.ofString " !\"#$&'()*+,-./0123456789:;<=>?@ABCDEFGHIJKLMNOPQRSTUVWXYZ").length + (Str.ofString "[\\]^_`abcdefghijklmnopqrstuvwxyz{|}~").length ≤ sizeLine) ∧
 lt (((Str.ofString " !\"#$&'()*+,-./0123456789:;<=>?@ABCDEFGHIJKLMNOPQRSTUVWXYZ") ++ (Str.ofString "[\\]^_`abcdefghijklmnopqrstuvwxyz{|}~")) : Str) fun signs =>
 (signs.length ≤ sizeLine) ∧
 qH tape (signs.length : Int) fun t3 =>
 (signs.length ≤ sizeLine) ∧
 exW (atI (sgns signs) t3.1) fun x4 =>
 kr (x4, t3.2)
def qM : FS := mkS (α := (Int × Int)) (κ := (Str × (Int × Int))) [.io] (fun a => [eP a]) (fun a => zq a) (fun r => D.str r.1) fun a r => [eP r.2]
theorem Qq : BodyOk qM 2 (xr qw) := by
 intro ds Q hl h
 obtain ⟨tape, kr, rfl, h, q⟩ := h
 refine uL (e' := [_, _]) rfl ?_
 unfold xr
 unfold zq at h
 refine wO <| s_asg <| c_C ?_
 refine g_n (e' := [_, _]) rfl rfl ?_
 refine wO <| s_asg <| qQ <| qu rfl <| c_C ?_
 obtain ⟨p1, h⟩ := h
 refine qP .tmp .tmp (xW p1) ?_
 refine g_N (f := D.str) (fun signs => [_, zO (D.str signs)]) h rfl (fun _ => rfl) fun signs h => ?_
 refine s_ret <| jL <| qu rfl <| c_fn <| qd <| qu rfl <| qd <| zj <| qd <| qu rfl <| qC ?_
 obtain ⟨p2, h⟩ := h
 refine zg (.cons .tmp .nil) (uZ p2) <| qC ?_
 refine x_call (tape, (signs.length : Int)) (fun t3 => [some (eP t3.2, .io), _]) h (.cons .z (.cons .tmp .nil)) (qD (by rfl) (qD qT qZ)) (by rfl) (fun _ => rfl) fun t3 h => ?_
 obtain ⟨p6, x4, p5, h⟩ := h
 refine o_idx .tmp .tmp (ix_S p5 p6) .tmp <| xM ?_
 exact q (x4, t3.2) h
def yz (qw qM : FS) : XS :=
 (sSeq (sAsg (dFn qw (qm (dVar 0) (qm (dCall 2 (op1 bLen) (qm (dVar 1) aNil)) aNil))) (gN 2))
 (sSeq (sAsg (dIdx (dVar 1) (dVar 2)) (gN 3))
 (sSeq (sAsg (dFn qw (qm (dVar 0) (qm (dBin 1 wH (dCall 2 (op1 bLen) (qm (dVar 3) aNil)) (dC (.int 1))) aNil))) (gN 4))
 (sSeq (sAsg (dIdx (dLst (qm (dIdx (dLst (qm (dC (.str (Str.ofString "+"))) (qm (dC (.str (Str.ofString " "))) (qm (dC (.str (Str.ofString "0"))) (qm (dC (.str (Str.ofString ":"))) (qm (dC (.str (Str.ofString ","))) (qm (dC (.str (Str.ofString "#"))) (qm (dC (.str (Str.ofString "."))) aNil)))))))) (dFn qw (qm (dVar 0) (qm (dC (.int 7)) aNil)))) (qm (dFn qM (qm (dVar 0) aNil)) aNil))) (dFn qw (qm (dVar 0) (qm (dC (.int 2)) aNil)))) (gN 5))
 (sSeq (sAsg (dLst (qm (dBin 1 wH (dBin 1 wH (j6 (dVar 3) xR (xQ (dVar 4))) (dVar 5)) (j6 (dVar 3) (xQ (dBin 1 wH (dVar 4) (dC (.int 1)))) xR)) (qm (dBin 1 wH (dBin 1 wH (j6 (dVar 3) xR (xQ (dVar 4))) (dVar 5)) (j6 (dVar 3) (xQ (dVar 4)) xR)) (qm (j6 (dVar 3) xR (xQ (dNeg (dC (.int 1))))) (qm (dBin 1 wH (dVar 3) (dC (.str (Str.ofString ".")))) (qm (dBin 1 wH (dVar 3) (dC (.str (Str.ofString "#")))) (qm (dC (.str (Str.ofString ""))) (qm (dBin 1 wH (dC (.str (Str.ofString " "))) (dVar 3)) aNil)))))))) (gN 6))
 (sRet (dBin 1 wH (dBin 1 wH (xg (dVar 1) xR (xQ (dVar 2))) (dLst (qm (dIdx (dVar 6) (dFn qw (qm (dVar 0) (qm (dC (.int 7)) aNil)))) aNil))) (xg (dVar 1) (xQ (dBin 1 wH (dVar 2) (dC (.int 1)))) xR))))))))
def wD (tape : (Int × Int)) (rows : (List Str)) (kr : ((List Str) × (Int × Int)) → Prop) : Prop :=
 qH tape (rows.length : Int) fun t1 =>
 exW (atI rows t1.1) fun x2 =>
 (x2.length ≤ sizeLine) ∧
 qH t1.2 ((x2.length : Int) + 1) fun t5 =>
 qH t5.2 7 fun t6 =>
 exW (atI [(Str.ofString "+"), (Str.ofString " "), (Str.ofString "0"), (Str.ofString ":"), (Str.ofString ","), (Str.ofString "#"), (Str.ofString ".")] t6.1) fun x7 =>
 zq t6.2 fun t9 =>
 qH t9.2 2 fun t10 =>
 exW (atI [x7, t9.1] t10.1) fun x11 =>
 (x2.length ≤ sizeLine) ∧
 ((cutS x2 none (some t5.1)).length + x11.length ≤ sizeLine) ∧
 (x2.length ≤ sizeLine) ∧
 (((cutS x2 none (some t5.1)) ++ x11).length + (cutS x2 (some (t5.1 + 1)) none).length ≤ sizeLine) ∧
 (x2.length ≤ sizeLine) ∧
 ((cutS x2 none (some t5.1)).length + x11.length ≤ sizeLine) ∧
 (x2.length ≤ sizeLine) ∧
 (((cutS x2 none (some t5.1)) ++ x11).length + (cutS x2 (some t5.1) none).length ≤ sizeLine) ∧
 (x2.length ≤ sizeLine) ∧
 (x2.length + (Str.ofString ".").length ≤ sizeLine) ∧
 (x2.length + (Str.ofString "#").length ≤ sizeLine) ∧
 ((Str.ofString " ").length + x2.length ≤ sizeLine) ∧
 lt ([(((cutS x2 none (some t5.1)) ++ x11) ++ (cutS x2 (some (t5.1 + 1)) none)), (((cutS x2 none (some t5.1)) ++ x11) ++ (cutS x2 (some t5.1) none)), (cutS x2 none (some (-1))), (x2 ++ (Str.ofString ".")), (x2 ++ (Str.ofString "#")), (Str.ofString ""), ((Str.ofString " ") ++ x2)] : (List Str)) fun some' =>
 qH t10.2 7 fun t25 =>
 exW (atI some' t25.1) fun x26 =>
 ((cutA rows none (some t1.1)).length + [x26].length ≤ sizeLine) ∧
 (((cutA rows none (some t1.1)) ++ [x26]).length + (cutA rows (some (t1.1 + 1)) none).length ≤ sizeLine) ∧
 kr ((((cutA rows none (some t1.1)) ++ [x26]) ++ (cutA rows (some (t1.1 + 1)) none)), t25.2)
def qN : FS := mkS (α := ((Int × Int) × (List Str))) (κ := ((List Str) × (Int × Int))) [.io, .ro] (fun a => [eP a.1, (eL D.str) a.2]) (fun a => wD a.1 a.2) (fun r => (eL D.str) r.1) fun a r => [eP r.2, (eL D.str) a.2]
theorem uG : BodyOk qN 7 (yz qw qM) := by
 intro ds Q hl h
 obtain ⟨⟨tape, rows⟩, kr, rfl, h, q⟩ := h
 refine uL (e' := [_, _, _, _, _, _, _]) rfl ?_
 unfold yz
 unfold wD at h
 refine wO <| s_asg <| c_fn <| qd <| qu rfl <| qd <| zj <| qd <| qu rfl <| qC <| zg (.cons .ro .nil) QS <| qC ?_
 refine x_call (tape, (rows.length : Int)) (fun t1 => [some (eP t1.2, .io), _, _, _, _, _, _]) h (.cons .z (.cons .tmp .nil)) (qD (by rfl) (qD qT qZ)) (by rfl) (fun _ => rfl) fun t1 h => ?_
 refine g_n (e' := [_, _, _, _, _, _, _]) rfl rfl ?_
 refine wO <| s_asg <| jL <| qu rfl <| qu rfl ?_
 obtain ⟨x2, p3, h⟩ := h
 refine o_idx .ro .tmp (ix_L p3) (.ro rfl) ?_
 refine g_n (e' := [_, _, _, _, _, _, _]) rfl rfl ?_
 refine wO <| s_asg <| c_fn <| qd <| qu rfl <| qd <| qQ <| zj <| qd <| qu rfl <| qC ?_
 obtain ⟨p4, h⟩ := h
 refine zg (.cons .tmp .nil) (uZ p4) <| c_C <| qP .tmp .tmp xK <| qC ?_
 refine x_call (t1.2, ((x2.length : Int) + 1)) (fun t5 => [some (eP t5.2, .io), _, _, _, _, _, _]) h (.cons .z (.cons .tmp .nil)) (qD (by rfl) (qD qT qZ)) (by rfl) (fun _ => rfl) fun t5 h => ?_
 refine g_n (e' := [_, _, _, _, _, _, _]) rfl rfl ?_
 refine wO <| s_asg <| jL <| yX <| qd <| jL <| yX <| qd <| c_C <| qd <| c_C <| qd <| c_C <| qd <| c_C <| qd <| c_C <| qd <| c_C <| qd <| c_C <| qC <| zW D.str [(Str.ofString "+"), (Str.ofString " "), (Str.ofString "0"), (Str.ofString ":"), (Str.ofString ","), (Str.ofString "#"), (Str.ofString ".")] (.cons .tmp (.cons .tmp (.cons .tmp (.cons .tmp (.cons .tmp (.cons .tmp (.cons .tmp .nil))))))) <| c_fn <| qd <| qu rfl <| qd <| c_C <| qC ?_
 refine x_call (t5.2, 7) (fun t6 => [some (eP t6.2, .io), _, _, _, _, _, _]) h (.cons .z (.cons .tmp .nil)) (qD (by rfl) (qD qT qZ)) (by rfl) (fun _ => rfl) fun t6 h => ?_
 obtain ⟨x7, p8, h⟩ := h
 refine o_idx .tmp .tmp (ix_L p8) .tmp <| qd <| c_fn <| qd <| qu rfl <| qC ?_
 refine x_call t6.2 (fun t9 => [some (eP t9.2, .io), _, _, _, _, _, _]) h (.cons .z .nil) (qD (by rfl) qZ) (by rfl) (fun _ => rfl) fun t9 h => ?_
 refine qC <| zW D.str [x7, t9.1] (.cons .tmp (.cons .tmp .nil)) <| c_fn <| qd <| qu rfl <| qd <| c_C <| qC ?_
 refine x_call (t9.2, 2) (fun t10 => [some (eP t10.2, .io), _, _, _, _, _, _]) h (.cons .z (.cons .tmp .nil)) (qD (by rfl) (qD qT qZ)) (by rfl) (fun _ => rfl) fun t10 h => ?_
 obtain ⟨x11, p12, h⟩ := h
 refine o_idx .tmp .tmp (ix_L p12) .tmp ?_
 refine g_n (e' := [_, _, _, _, _, _, _]) rfl rfl ?_
 refine wO <| s_asg <| yX <| qd <| qQ <| qQ <| ug <| qu rfl <| zK <| zJ <| qu rfl <| zE .tmp ?_
 obtain ⟨p13, h⟩ := h
 refine Uu (lo := none) (hi := (some t5.1)) .tmp p13 <| qu rfl ?_
 obtain ⟨p14, h⟩ := h
 refine qP .tmp .tmp (xW p14) <| ug <| qu rfl <| zJ <| qQ <| qu rfl <| c_C <| qP .tmp .tmp xK <| zE .tmp <| zK ?_
 obtain ⟨p15, h⟩ := h
 refine Uu (lo := (some (t5.1 + 1))) (hi := none) .tmp p15 ?_
 obtain ⟨p16, h⟩ := h
 refine qP .tmp .tmp (xW p16) <| qd <| qQ <| qQ <| ug <| qu rfl <| zK <| zJ <| qu rfl <| zE .tmp ?_
 obtain ⟨p17, h⟩ := h
 refine Uu (lo := none) (hi := (some t5.1)) .tmp p17 <| qu rfl ?_
 obtain ⟨p18, h⟩ := h
 refine qP .tmp .tmp (xW p18) <| ug <| qu rfl <| zJ <| qu rfl <| zE .tmp <| zK ?_
 obtain ⟨p19, h⟩ := h
 refine Uu (lo := (some t5.1)) (hi := none) .tmp p19 ?_
 obtain ⟨p20, h⟩ := h
 refine qP .tmp .tmp (xW p20) <| qd <| ug <| qu rfl <| zK <| zJ <| qgn <| c_C <| qf4 .tmp <| zE .tmp ?_
 obtain ⟨p21, h⟩ := h
 refine Uu (lo := none) (hi := (some (-1))) .tmp p21 <| qd <| qQ <| qu rfl <| c_C ?_
 obtain ⟨p22, h⟩ := h
 refine qP .tmp .tmp (xW p22) <| qd <| qQ <| qu rfl <| c_C ?_
 obtain ⟨p23, h⟩ := h
 refine qP .tmp .tmp (xW p23) <| qd <| c_C <| qd <| qQ <| c_C <| qu rfl ?_
 obtain ⟨p24, h⟩ := h
 refine qP .tmp .tmp (xW p24) <| qC <| zW D.str [(((cutS x2 none (some t5.1)) ++ x11) ++ (cutS x2 (some (t5.1 + 1)) none)), (((cutS x2 none (some t5.1)) ++ x11) ++ (cutS x2 (some t5.1) none)), (cutS x2 none (some (-1))), (x2 ++ (Str.ofString ".")), (x2 ++ (Str.ofString "#")), (Str.ofString ""), ((Str.ofString " ") ++ x2)] (.cons .tmp (.cons .tmp (.cons .tmp (.cons .tmp (.cons .tmp (.cons .tmp (.cons .tmp .nil))))))) ?_
 refine g_N (f := (eL D.str)) (fun some' => [some (eP t10.2, .io), zR (eL D.str rows), zO (D.int t1.1), zO (D.str x2), zO (D.int t5.1), zO (D.str x11), zO (eL D.str some')]) h rfl (fun _ => rfl) fun some' h => ?_
 refine s_ret <| qQ <| qQ <| yG <| qu rfl <| zK <| zJ <| qu rfl <| zE .tmp <| uX (f := D.str) (lo := none) (hi := (some t1.1)) .ro <| yX <| qd <| jL <| qu rfl <| c_fn <| qd <| qu rfl <| qd <| c_C <| qC ?_
 refine x_call (t10.2, 7) (fun t25 => [some (eP t25.2, .io), _, _, _, _, _, _]) h (.cons .z (.cons .tmp .nil)) (qD (by rfl) (qD qT qZ)) (by rfl) (fun _ => rfl) fun t25 h => ?_
 obtain ⟨x26, p27, h⟩ := h
 refine o_idx .z .tmp (ix_L p27) (.sl (Im.im (f := D.str) _)) <| qC <| zW D.str [x26] (.cons .tmp .nil) ?_
 obtain ⟨p28, h⟩ := h
 refine qP .tmp .tmp (yh (f := D.str) p28) <| yG <| qu rfl <| zJ <| qQ <| qu rfl <| c_C <| qP .tmp .tmp xK <| zE .tmp <| zK <| uX (f := D.str) (lo := (some (t1.1 + 1))) (hi := none) .ro ?_
 obtain ⟨p29, h⟩ := h
 refine qP .tmp .tmp (yh (f := D.str) p29) <| xM ?_
 exact q ((((cutA rows none (some t1.1)) ++ [x26]) ++ (cutA rows (some (t1.1 + 1)) none)), t25.2) h
def yK (qw qM : FS) : XS :=
 (sSeq (sAsg (dFn qw (qm (dVar 0) (qm (dCall 2 (op1 bLen) (qm (dVar 1) aNil)) aNil))) (gN 2))
 (sSeq (sAsg (dMn isStr jO (dIdx (dVar 1) (dVar 2)) (qm (dC (.str (Str.ofString " "))) aNil)) (gN 3))
 (sSeq (sAsg (dFn qw (qm (dVar 0) (qm (dCall 2 (op1 bLen) (qm (dVar 3) aNil)) aNil))) (gN 4))
 (sSeq (sAsg (dIdx (dLst (qm (dC (.str (Str.ofString ""))) (qm (dC (.str (Str.ofString "00"))) (qm (dC (.str (Str.ofString "0"))) (qm (dC (.str (Str.ofString "07"))) (qm (dC (.str (Str.ofString "100"))) (qm (dC (.str (Str.ofString "-1"))) (qm (dC (.str (Str.ofString "+1"))) (qm (dC (.str (Str.ofString "1."))) (qm (dC (.str (Str.ofString "a"))) (qm (dC (.str (Str.ofString "#"))) (qm (dC (.str (Str.ofString "1_0"))) (qm (dC (.str (Str.ofString "9"))) (qm (dC (.str (Str.ofString "99"))) (qm (dC (.str (Str.ofString "40"))) (qm (dC (.str (Str.ofString "0"))) aNil)))))))))))))))) (dFn qw (qm (dVar 0) (qm (dC (.int 15)) aNil)))) (gN 5))
 (sSeq (sIf (xVal (dBin 2 opEq (dFn qw (qm (dVar 0) (qm (dC (.int 3)) aNil))) (dC (.int 0)))) (sSeq (sAsg (dFn qM (qm (dVar 0) aNil)) (gN 6))
 (sAsg (dIdx (dLst (qm (dVar 6) (qm (dBin 1 wH (dVar 6) (dC (.str (Str.ofString "1")))) (qm (dBin 1 wH (dC (.str (Str.ofString "1"))) (dVar 6)) (qm (j6 (dIdx (dVar 3) (dVar 4)) (xQ (dC (.int 1))) xR) aNil))))) (dFn qw (qm (dVar 0) (qm (dC (.int 4)) aNil)))) (gN 5))) sNil)
 (sSeq (sAsg (dLst (qm (dFz (dBin 1 wH (dBin 1 wH (xg (dVar 3) xR (xQ (dVar 4))) (dLst (qm (dVar 5) aNil))) (xg (dVar 3) (xQ (dBin 1 wH (dVar 4) (dC (.int 1)))) xR))) (qm (dFz (dBin 1 wH (dBin 1 wH (xg (dVar 3) xR (xQ (dVar 4))) (dLst (qm (dVar 5) aNil))) (xg (dVar 3) (xQ (dVar 4)) xR))) (qm (dFz (dBin 1 wH (xg (dVar 3) xR (xQ (dVar 4))) (xg (dVar 3) (xQ (dBin 1 wH (dVar 4) (dC (.int 1)))) xR))) (qm (dFz (dBin 1 wH (dLst (qm (dC (.str (Str.ofString ""))) aNil)) (dVar 3))) aNil))))) (gN 7))
 (sSeq (sAsg (dBin 1 wH (dVar 7) (dLst (qm (dFz (dBin 1 wH (dVar 3) (dLst (qm (dC (.str (Str.ofString ""))) aNil)))) (qm (dFz (dLst aNil)) (qm (dFz (dBin 1 wH (dBin 1 wH (xg (dVar 3) xR (xQ (dC (.int 2)))) (dLst (qm (dC (.str (Str.ofString "0"))) aNil))) (xg (dVar 3) (xQ (dC (.int 3))) xR))) (qm (dFz (dBin 1 wH (xg (dVar 3) xR (xQ (dC (.int 3)))) (dLst (qm (dC (.str (Str.ofString "0"))) aNil)))) aNil)))))) (gN 7))
 (sRet (dBin 1 wH (dBin 1 wH (xg (dVar 1) xR (xQ (dVar 2))) (dLst (qm (dMn isStr Zy (dC (.str (Str.ofString " "))) (qm (qdh (dIdx (dVar 7) (dFn qw (qm (dVar 0) (qm (dC (.int 8)) aNil))))) aNil)) aNil))) (xg (dVar 1) (xQ (dBin 1 wH (dVar 2) (dC (.int 1)))) xR))))))))))
def wR (tape : (Int × Int)) (rows : (List Str)) (kr : ((List Str) × (Int × Int)) → Prop) : Prop :=
 qH tape (rows.length : Int) fun t1 =>
 exW (atI rows t1.1) fun x2 =>
 (((Str.ofString " ").length == 0) = false ∧ x2.length + 2 ≤ sizeLine) ∧
 lt ((Txt.split x2 (Str.ofString " ")) : (List Str)) fun words =>
 qH t1.2 (words.length : Int) fun t5 =>
 qH t5.2 15 fun t6 =>
 exW (atI [(Str.ofString ""), (Str.ofString "00"), (Str.ofString "0"), (Str.ofString "07"), (Str.ofString "100"), (Str.ofString "-1"), (Str.ofString "+1"), (Str.ofString "1."), (Str.ofString "a"), (Str.ofString "#"), (Str.ofString "1_0"), (Str.ofString "9"), (Str.ofString "99"), (Str.ofString "40"), (Str.ofString "0")] t6.1) fun x7 =>
 qH t6.2 3 fun t9 =>
 ifW (decide (t9.1 = 0)) (fun kk12 => zq t9.2 fun t13 =>
 (t13.1.length + (Str.ofString "1").length ≤ sizeLine) ∧
 ((Str.ofString "1").length + t13.1.length ≤ sizeLine) ∧
 exW (atI words t5.1) fun x16 =>
 (x16.length ≤ sizeLine) ∧
 qH t13.2 4 fun t19 =>
 exW (atI [t13.1, (t13.1 ++ (Str.ofString "1")), ((Str.ofString "1") ++ t13.1), (cutS x16 (some 1) none)] t19.1) fun x20 =>
 kk12 (t19.2, x20)) (fun kk12 => kk12 (t9.2, x7)) fun (s10 : ((Int × Int) × Str)) =>
 ((cutA words none (some t5.1)).length + [s10.2].length ≤ sizeLine) ∧
 (((cutA words none (some t5.1)) ++ [s10.2]).length + (cutA words (some (t5.1 + 1)) none).length ≤ sizeLine) ∧
 ((cutA words none (some t5.1)).length + [s10.2].length ≤ sizeLine) ∧
 (((cutA words none (some t5.1)) ++ [s10.2]).length + (cutA words (some t5.1) none).length ≤ sizeLine) ∧
 ((cutA words none (some t5.1)).length + (cutA words (some (t5.1 + 1)) none).length ≤ sizeLine) ∧
 ([(Str.ofString "")].length + words.length ≤ sizeLine) ∧
 lt ([(((cutA words none (some t5.1)) ++ [s10.2]) ++ (cutA words (some (t5.1 + 1)) none)), (((cutA words none (some t5.1)) ++ [s10.2]) ++ (cutA words (some t5.1) none)), ((cutA words none (some t5.1)) ++ (cutA words (some (t5.1 + 1)) none)), ([(Str.ofString "")] ++ words)] : (List (List Str))) fun some' =>
 (words.length + [(Str.ofString "")].length ≤ sizeLine) ∧
 ((cutA words none (some 2)).length + [(Str.ofString "0")].length ≤ sizeLine) ∧
 (((cutA words none (some 2)) ++ [(Str.ofString "0")]).length + (cutA words (some 3) none).length ≤ sizeLine) ∧
 ((cutA words none (some 3)).length + [(Str.ofString "0")].length ≤ sizeLine) ∧
 (some'.length + [(words ++ [(Str.ofString "")]), ([] : List Str), (((cutA words none (some 2)) ++ [(Str.ofString "0")]) ++ (cutA words (some 3) none)), ((cutA words none (some 3)) ++ [(Str.ofString "0")])].length ≤ sizeLine) ∧
 lt ((some' ++ [(words ++ [(Str.ofString "")]), ([] : List Str), (((cutA words none (some 2)) ++ [(Str.ofString "0")]) ++ (cutA words (some 3) none)), ((cutA words none (some 3)) ++ [(Str.ofString "0")])]) : (List (List Str))) fun some' =>
 qH s10.1 8 fun t33 =>
 exW (atI some' t33.1) fun x34 =>
 ((x34.map (·.length)).sum + x34.length * (Str.ofString " ").length ≤ 16777216) ∧
 ((cutA rows none (some t1.1)).length + [(Txt.join (Str.ofString " ") x34)].length ≤ sizeLine) ∧
 (((cutA rows none (some t1.1)) ++ [(Txt.join (Str.ofString " ") x34)]).length + (cutA rows (some (t1.1 + 1)) none).length ≤ sizeLine) ∧
 kr ((((cutA rows none (some t1.1)) ++ [(Txt.join (Str.ofString " ") x34)]) ++ (cutA rows (some (t1.1 + 1)) none)), t33.2)
def qU : FS := mkS (α := ((Int × Int) × (List Str))) (κ := ((List Str) × (Int × Int))) [.io, .ro] (fun a => [eP a.1, (eL D.str) a.2]) (fun a => wR a.1 a.2) (fun r => (eL D.str) r.1) fun a r => [eP r.2, (eL D.str) a.2]
theorem vA : BodyOk qU 8 (yK qw qM) := by
 intro ds Q hl h
 obtain ⟨⟨tape, rows⟩, kr, rfl, h, q⟩ := h
 refine uL (e' := [_, _, _, _, _, _, _, _]) rfl ?_
 unfold yK
 unfold wR at h
 refine wO <| s_asg <| c_fn <| qd <| qu rfl <| qd <| zj <| qd <| qu rfl <| qC <| zg (.cons .ro .nil) QS <| qC ?_
 refine x_call (tape, (rows.length : Int)) (fun t1 => [some (eP t1.2, .io), _, _, _, _, _, _, _]) h (.cons .z (.cons .tmp .nil)) (qD (by rfl) (qD qT qZ)) (by rfl) (fun _ => rfl) fun t1 h => ?_
 refine g_n (e' := [_, _, _, _, _, _, _, _]) rfl rfl ?_
 refine wO <| s_asg <| Q7 <| jL <| qu rfl <| qu rfl ?_
 obtain ⟨x2, p3, h⟩ := h
 refine o_idx .ro .tmp (ix_L p3) (.ro rfl) <| QR .tmp (by rfl) <| qd <| c_C <| qC ?_
 obtain ⟨p4, h⟩ := h
 refine uJ .tmp .tmp p4 ?_
 refine g_N (f := (eL D.str)) (fun words => [_, _, _, zO (eL D.str words), _, _, _, _]) h rfl (fun _ => rfl) fun words h => ?_
 refine wO <| s_asg <| c_fn <| qd <| qu rfl <| qd <| zj <| qd <| qu rfl <| qC <| zg (.cons .z .nil) QS <| qC ?_
 refine x_call (t1.2, (words.length : Int)) (fun t5 => [some (eP t5.2, .io), _, _, _, _, _, _, _]) h (.cons .z (.cons .tmp .nil)) (qD (by rfl) (qD qT qZ)) (by rfl) (fun _ => rfl) fun t5 h => ?_
 refine g_n (e' := [_, _, _, _, _, _, _, _]) rfl rfl ?_
 refine wO <| s_asg <| jL <| yX <| qd <| c_C <| qd <| c_C <| qd <| c_C <| qd <| c_C <| qd <| c_C <| qd <| c_C <| qd <| c_C <| qd <| c_C <| qd <| c_C <| qd <| c_C <| qd <| c_C <| qd <| c_C <| qd <| c_C <| qd <| c_C <| qd <| c_C <| qC <| zW D.str [(Str.ofString ""), (Str.ofString "00"), (Str.ofString "0"), (Str.ofString "07"), (Str.ofString "100"), (Str.ofString "-1"), (Str.ofString "+1"), (Str.ofString "1."), (Str.ofString "a"), (Str.ofString "#"), (Str.ofString "1_0"), (Str.ofString "9"), (Str.ofString "99"), (Str.ofString "40"), (Str.ofString "0")] (.cons .tmp (.cons .tmp (.cons .tmp (.cons .tmp (.cons .tmp (.cons .tmp (.cons .tmp (.cons .tmp (.cons .tmp (.cons .tmp (.cons .tmp (.cons .tmp (.cons .tmp (.cons .tmp (.cons .tmp .nil))))))))))))))) <| c_fn <| qd <| qu rfl <| qd <| c_C <| qC ?_
 refine x_call (t5.2, 15) (fun t6 => [some (eP t6.2, .io), _, _, _, _, _, _, _]) h (.cons .z (.cons .tmp .nil)) (qD (by rfl) (qD qT qZ)) (by rfl) (fun _ => rfl) fun t6 h => ?_
 obtain ⟨x7, p8, h⟩ := h
 refine o_idx .tmp .tmp (ix_L p8) .tmp ?_
 refine g_n (e' := [_, _, _, _, _, _, _, _]) rfl rfl ?_
 refine wO <| s_if <| yJ <| qQ <| c_fn <| qd <| qu rfl <| qd <| c_C <| qC ?_
 refine x_call (t6.2, 3) (fun t9 => [some (eP t9.2, .io), _, _, _, _, _, _, _]) h (.cons .z (.cons .tmp .nil)) (qD (by rfl) (qD qT qZ)) (by rfl) (fun _ => rfl) fun t9 h => ?_
 refine c_C <| qP .tmp .tmp (op_eq (f := D.int)) <| yI .tmp tr_b ?_
 refine qek (sh := fun (s10 : ((Int × Int) × Str)) e => ∃ c11 : Option (D × Md), (setS (some c11) = true) ∧ e = [some (eP s10.1, .io), zR (eL D.str rows), zO (D.int t1.1), zO (eL D.str words), zO (D.int t5.1), zO (D.str s10.2), c11, none]) h (fun hb kk12 nxkk12 hJ12 h => ?_) (fun hb kk12 nxkk12 hJ12 h => ?_) ?_
 ·skip
  refine wO <| s_asg <| c_fn <| qd <| qu rfl <| qC ?_
  refine x_call t9.2 (fun t13 => [some (eP t13.2, .io), _, _, _, _, _, _, _]) h (.cons .z .nil) (qD (by rfl) qZ) (by rfl) (fun _ => rfl) fun t13 h => ?_
  refine g_n (e' := [_, _, _, _, _, _, _, _]) rfl rfl ?_
  refine s_asg <| jL <| yX <| qd <| qu rfl <| qd <| qQ <| qu rfl <| c_C ?_
  obtain ⟨p14, h⟩ := h
  refine qP .tmp .tmp (xW p14) <| qd <| qQ <| c_C <| qu rfl ?_
  obtain ⟨p15, h⟩ := h
  refine qP .tmp .tmp (xW p15) <| qd <| ug <| jL <| qu rfl <| qu rfl ?_
  obtain ⟨x16, p17, h⟩ := h
  refine o_idx .z .tmp (ix_L p17) (.sl (Im.im (f := D.str) _)) <| zJ <| c_C <| zE .tmp <| zK ?_
  obtain ⟨p18, h⟩ := h
  refine Uu (lo := (some 1)) (hi := none) .tmp p18 <| qC <| zW D.str [t13.1, (t13.1 ++ (Str.ofString "1")), ((Str.ofString "1") ++ t13.1), (cutS x16 (some 1) none)] (.cons .tmp (.cons .tmp (.cons .tmp (.cons .tmp .nil)))) <| c_fn <| qd <| qu rfl <| qd <| c_C <| qC ?_
  refine x_call (t13.2, 4) (fun t19 => [some (eP t19.2, .io), _, _, _, _, _, _, _]) h (.cons .z (.cons .tmp .nil)) (qD (by rfl) (qD qT qZ)) (by rfl) (fun _ => rfl) fun t19 h => ?_
  obtain ⟨x20, p21, h⟩ := h
  refine o_idx .tmp .tmp (ix_L p21) .tmp ?_
  refine g_n (e' := [_, _, _, _, _, _, _, _]) rfl rfl ?_
  exact hJ12 (t19.2, x20) _ ⟨_, rfl, rfl⟩ h
 ·skip
  refine uI ?_
  exact hJ12 (t9.2, x7) _ ⟨_, rfl, rfl⟩ h
 rintro s10 e hs h
 obtain ⟨c11, hc11, rfl⟩ := hs
 refine wO <| s_asg <| yX <| qd <| c_fz <| qQ <| qQ <| yG <| qu rfl <| zK <| zJ <| qu rfl <| zE .tmp <| uX (f := D.str) (lo := none) (hi := (some t5.1)) .z <| yX <| qd <| qu rfl <| qC <| zW D.str [s10.2] (.cons .tmp .nil) ?_
 obtain ⟨p22, h⟩ := h
 refine qP .tmp .tmp (yh (f := D.str) p22) <| yG <| qu rfl <| zJ <| qQ <| qu rfl <| c_C <| qP .tmp .tmp xK <| zE .tmp <| zK <| uX (f := D.str) (lo := (some (t5.1 + 1))) (hi := none) .z ?_
 obtain ⟨p23, h⟩ := h
 refine qP .tmp .tmp (yh (f := D.str) p23) <| o_fz (f := D.str) <| qd <| c_fz <| qQ <| qQ <| yG <| qu rfl <| zK <| zJ <| qu rfl <| zE .tmp <| uX (f := D.str) (lo := none) (hi := (some t5.1)) .z <| yX <| qd <| qu rfl <| qC <| zW D.str [s10.2] (.cons .tmp .nil) ?_
 obtain ⟨p24, h⟩ := h
 refine qP .tmp .tmp (yh (f := D.str) p24) <| yG <| qu rfl <| zJ <| qu rfl <| zE .tmp <| zK <| uX (f := D.str) (lo := (some t5.1)) (hi := none) .z ?_
 obtain ⟨p25, h⟩ := h
 refine qP .tmp .tmp (yh (f := D.str) p25) <| o_fz (f := D.str) <| qd <| c_fz <| qQ <| yG <| qu rfl <| zK <| zJ <| qu rfl <| zE .tmp <| uX (f := D.str) (lo := none) (hi := (some t5.1)) .z <| yG <| qu rfl <| zJ <| qQ <| qu rfl <| c_C <| qP .tmp .tmp xK <| zE .tmp <| zK <| uX (f := D.str) (lo := (some (t5.1 + 1))) (hi := none) .z ?_
 obtain ⟨p26, h⟩ := h
 refine qP .tmp .tmp (yh (f := D.str) p26) <| o_fz (f := D.str) <| qd <| c_fz <| qQ <| yX <| qd <| c_C <| qC <| zW D.str [(Str.ofString "")] (.cons .tmp .nil) <| qu rfl ?_
 obtain ⟨p27, h⟩ := h
 refine qP .tmp .z (yh (f := D.str) p27) <| o_fz (f := D.str) <| qC <| zW (eF D.str) [(((cutA words none (some t5.1)) ++ [s10.2]) ++ (cutA words (some (t5.1 + 1)) none)), (((cutA words none (some t5.1)) ++ [s10.2]) ++ (cutA words (some t5.1) none)), ((cutA words none (some t5.1)) ++ (cutA words (some (t5.1 + 1)) none)), ([(Str.ofString "")] ++ words)] (.cons .tmp (.cons .tmp (.cons .tmp (.cons .tmp .nil)))) ?_
 refine g_N (f := (eL (eF D.str))) (fun some' => [some (eP s10.1, .io), zR (eL D.str rows), zO (D.int t1.1), zO (eL D.str words), zO (D.int t5.1), zO (D.str s10.2), c11, zO (eL (eF D.str) some')]) h rfl (fun _ => rfl) fun some' h => ?_
 refine wO <| s_asg <| qQ <| qu rfl <| yX <| qd <| c_fz <| qQ <| qu rfl <| yX <| qd <| c_C <| qC <| zW D.str [(Str.ofString "")] (.cons .tmp .nil) ?_
 obtain ⟨p28, h⟩ := h
 refine qP .z .tmp (yh (f := D.str) p28) <| o_fz (f := D.str) <| qd <| c_fz <| yX <| qC <| zW D.str ([] : List Str) .nil <| o_fz (f := D.str) <| qd <| c_fz <| qQ <| qQ <| yG <| qu rfl <| zK <| zJ <| c_C <| zE .tmp <| uX (f := D.str) (lo := none) (hi := (some 2)) .z <| yX <| qd <| c_C <| qC <| zW D.str [(Str.ofString "0")] (.cons .tmp .nil) ?_
 obtain ⟨p29, h⟩ := h
 refine qP .tmp .tmp (yh (f := D.str) p29) <| yG <| qu rfl <| zJ <| c_C <| zE .tmp <| zK <| uX (f := D.str) (lo := (some 3)) (hi := none) .z ?_
 obtain ⟨p30, h⟩ := h
 refine qP .tmp .tmp (yh (f := D.str) p30) <| o_fz (f := D.str) <| qd <| c_fz <| qQ <| yG <| qu rfl <| zK <| zJ <| c_C <| zE .tmp <| uX (f := D.str) (lo := none) (hi := (some 3)) .z <| yX <| qd <| c_C <| qC <| zW D.str [(Str.ofString "0")] (.cons .tmp .nil) ?_
 obtain ⟨p31, h⟩ := h
 refine qP .tmp .tmp (yh (f := D.str) p31) <| o_fz (f := D.str) <| qC <| zW (eF D.str) [(words ++ [(Str.ofString "")]), ([] : List Str), (((cutA words none (some 2)) ++ [(Str.ofString "0")]) ++ (cutA words (some 3) none)), ((cutA words none (some 3)) ++ [(Str.ofString "0")])] (.cons .tmp (.cons .tmp (.cons .tmp (.cons .tmp .nil)))) ?_
 obtain ⟨p32, h⟩ := h
 refine qP .z .tmp (yh (f := (eF D.str)) p32) ?_
 refine g_N (f := (eL (eF D.str))) (fun some' => [some (eP s10.1, .io), zR (eL D.str rows), zO (D.int t1.1), zO (eL D.str words), zO (D.int t5.1), zO (D.str s10.2), c11, zO (eL (eF D.str) some')]) h rfl (fun _ => rfl) fun some' h => ?_
 refine s_ret <| qQ <| qQ <| yG <| qu rfl <| zK <| zJ <| qu rfl <| zE .tmp <| uX (f := D.str) (lo := none) (hi := (some t1.1)) .ro <| yX <| qd <| Q7 <| c_C <| QR .tmp (by rfl) <| qd <| qeT <| jL <| qu rfl <| c_fn <| qd <| qu rfl <| qd <| c_C <| qC ?_
 refine x_call (s10.1, 8) (fun t33 => [some (eP t33.2, .io), _, _, _, _, _, _, _]) h (.cons .z (.cons .tmp .nil)) (qD (by rfl) (qD qT qZ)) (by rfl) (fun _ => rfl) fun t33 h => ?_
 obtain ⟨x34, p35, h⟩ := h
 refine o_idx .z .tmp (ix_L p35) (.sl (Im.im (f := (eF D.str)) _)) <| qee .tmp (Im.im (f := (eF D.str)) _) (qdU _) <| qC ?_
 obtain ⟨p36, h⟩ := h
 refine Zf .tmp .cst p36 <| qC <| zW D.str [(Txt.join (Str.ofString " ") x34)] (.cons .tmp .nil) ?_
 obtain ⟨p37, h⟩ := h
 refine qP .tmp .tmp (yh (f := D.str) p37) <| yG <| qu rfl <| zJ <| qQ <| qu rfl <| c_C <| qP .tmp .tmp xK <| zE .tmp <| zK <| uX (f := D.str) (lo := (some (t1.1 + 1))) (hi := none) .ro ?_
 obtain ⟨p38, h⟩ := h
 refine qP .tmp .tmp (yh (f := D.str) p38) <| xM ?_
 exact q ((((cutA rows none (some t1.1)) ++ [(Txt.join (Str.ofString " ") x34)]) ++ (cutA rows (some (t1.1 + 1)) none)), t33.2) h
def jR (wG qI qO qW : FS) : XS :=
 (sSeq (sAsg (dMn isStr Zy (dC (.str (Str.ofString "\n"))) (qm (dVar 2) aNil)) (gN 3))
 (sRet (dFn wG (qm (dFn qI (qm (dVar 0) (qm (dVar 3) aNil))) (qm (UV 1 "_law_picture_fault" qO "_law_boxes_fault" qW (qm (dVar 3) aNil)) aNil)))))
def wy (call : Bool) (fault : Bool) (rows : (List Str)) (kr : Bool → Prop) : Prop :=
 ((rows.map (·.length)).sum + rows.length * (Str.ofString "\n").length ≤ 16777216) ∧
 lt ((Txt.join (Str.ofString "\n") rows) : Str) fun text =>
 wg call text fun t2 =>
 ifW fault (zf text) (wN text) fun t3 =>
 uF ((eO D.int) t2) ((eO D.int) t3) fun t4 =>
 kr t4
def wI : FS := mkS (α := (Bool × Bool × (List Str))) (κ := Bool) [.cst, .cst, .ro] (fun a => [Xn a.1, qb3 a.2.1, (eL D.str) a.2.2]) (fun a => wy a.1 a.2.1 a.2.2) (fun r => D.bl r) fun a r => [Xn a.1, qb3 a.2.1, (eL D.str) a.2.2]
theorem ZJ : BodyOk wI 4 (jR wG qI qO qW) := by
 intro ds Q hl h
 obtain ⟨⟨call, fault, rows⟩, kr, rfl, h, q⟩ := h
 refine uL (e' := [_, _, _, _]) rfl ?_
 unfold jR
 unfold wy at h
 refine wO <| s_asg <| Q7 <| c_C <| QR .tmp (by rfl) <| qd <| qu rfl <| qC ?_
 obtain ⟨p1, h⟩ := h
 refine Zf .tmp .ro p1 ?_
 refine g_N (f := D.str) (fun text => [_, _, _, zO (D.str text)]) h rfl (fun _ => rfl) fun text h => ?_
 refine s_ret <| c_fn <| qd <| c_fn <| qd <| qu rfl <| qd <| qu rfl <| qC ?_
 refine x_call (call, text) (fun t2 => [_, _, _, _]) h (.cons .cst (.cons .tmp .nil)) (qD qT (qD qT qZ)) (zp (by rfl)) (fun _ => rfl) fun t2 h => ?_
 refine qd <| qeV fault (by rfl) <| c_fn <| qd <| qu rfl <| qC ?_
 refine x_call text (fun t3 => [_, _, _, _]) h (.cons .tmp .nil) (qD qT qZ) (zp (by rfl)) (fun _ => rfl) fun t3 h => ?_
 refine qC ?_
 refine x_call (((eO D.int) t2), ((eO D.int) t3)) (fun t4 => [_, _, _, _]) h (.cons .tmp (.cons .tmp .nil)) (qD qT (qD qT qZ)) (zp (by rfl)) (fun _ => rfl) fun t4 h => ?_
 refine xM ?_
 exact q t4 h
def qcx (qI wI qw qN qU ym : FS) : XS :=
 (sSeq (sFor (jJ (dBin 1 wH (dC (.int 1)) (dCall 2 (op2 U5) (qm (dC (.int 8)) (qm (dCall 2 (op1 bLen) (qm (dVar 0) aNil)) aNil))))) (gN 1) (sSeq (sAsg (dFn ym (qm (dVar 0) (qm (dVar 1) aNil))) (gN 2))
 (sSeq (sAsg (dIdx (dLst (qm (dBin 1 wH (dC (.int 1)) (dFn qw (qm (dVar 2) (qm (dC (.int 6)) aNil)))) (qm (dBin 1 wH (dC (.int 7)) (dFn qw (qm (dVar 2) (qm (dC (.int 34)) aNil)))) aNil))) (dCall 2 (op1 bInt) (qm (dBin 2 opEq (dFn qw (qm (dVar 2) (qm (dC (.int 8)) aNil))) (dC (.int 0))) aNil))) (gN 3))
 (sSeq (sAsg (dBin 1 wH (dC (.int 1)) (dFn qw (qm (dVar 2) (qm (dC (.int 5)) aNil)))) (gN 4))
 (sSeq (sAsg (dLc (jJ (dVar 3)) (gN 11) xYes (dMn isStr Zy (dC (.str (Str.ofString ""))) (qm (dLc (jJ (dVar 4)) (gN 12) xYes (dIdx (dC (.str (Str.ofString "#."))) (dFn qw (qm (dVar 2) (qm (dC (.int 2)) aNil)))) [12]) aNil)) [11]) (gN 5))
 (sSeq (sAsg (dLc (jJ (dVar 3)) (gN 11) xYes (dMn isStr Zy (dC (.str (Str.ofString " "))) (qm (dLc (jJ (dC (.int 4))) (gN 12) xYes (dCall 2 (op1 bStr) (qm (dBin 1 wH (dFn qw (qm (dVar 2) (qm (dC (.int 12)) aNil))) (dCall 2 (op1 bInt) (qm (dBin 2 opGt (dVar 12) (dC (.int 1))) aNil))) aNil)) [12]) aNil)) [11]) (gN 6))
 (sSeq (sFor (jJ (dC (.int 5))) (gN 7) (sSeq (sPar 8 9 (qm (dFn qN (qm (dVar 2) (qm (dVar 5) aNil))) (qm (dFn qU (qm (dVar 2) (qm (dVar 6) aNil))) aNil)))
 (sSeq (sIf (xVal (dBin 2 opEq (dFn qw (qm (dVar 2) (qm (dC (.int 3)) aNil))) (dC (.int 0)))) (sPar 8 9 (qm (dFn qN (qm (dVar 2) (qm (dVar 8) aNil))) (qm (dFn qU (qm (dVar 2) (qm (dVar 9) aNil))) aNil))) sNil)
 (sSeq (sAsg (dIdx (dLst (qm (dLst (qm (dC (.str (Str.ofString ""))) aNil)) (qm (dLst aNil) aNil))) (dCall 2 (op1 bInt) (qm (dBin 2 opGt (dFn qw (qm (dVar 2) (qm (dC (.int 6)) aNil))) (dC (.int 0))) aNil))) (gN 10))
 (sSeq (sIf (xNot (xVal (dFn wI (qm (dFv "room_in") (qm (dFv "_law_picture_fault") (qm (dBin 1 wH (dVar 8) (dVar 10)) aNil)))))) (sRet (dC (.bl false))) sNil)
 (sIf (xNot (xVal (dFn wI (qm (dFv "boxes_in") (qm (dFv "_law_boxes_fault") (qm (dBin 1 wH (dVar 9) (dVar 10)) aNil)))))) (sRet (dC (.bl false))) sNil))))))
 (sIf (xOr (xNot (xVal (dFn wI (qm (dFv "room_in") (qm (dFv "_law_picture_fault") (qm (dVar 5) aNil)))))) (xNot (xVal (dFn wI (qm (dFv "boxes_in") (qm (dFv "_law_boxes_fault") (qm (dVar 6) aNil))))))) (sRet (dC (.bl false))) sNil))))))))
 (sRet (dAnd (dBin 2 opEq (dFn qI (qm (dFv "room_in") (qm (dC (.str (Str.ofString "\n"))) aNil))) (dC (.int 0))) (dBin 2 opEq (dFn qI (qm (dFv "boxes_in") (qm (dC (.str (Str.ofString "\n"))) aNil))) (dC (.int 0))))))
def qa5 (script : (List Int)) (kr : Bool → Prop) : Prop :=
 (Zz 0 (1 + (min 8 (script.length : Int)))) ∧
 forW (rng 0 (1 + (min 8 (script.length : Int)))) () (fun k' (s2 : Unit) kk13 => uE script k' fun t14 =>
 qH t14 6 fun t15 =>
 qH t15.2 34 fun t16 =>
 qH t16.2 8 fun t17 =>
 exW (atI [(1 + t15.1), (7 + t16.1)] (intB (decide (t17.1 = 0)))) fun x18 =>
 qH t17.2 5 fun t20 =>
 lt ((1 + t20.1) : Int) fun wide =>
 (Zz 0 x18) ∧
 ((rng 0 x18).length ≤ sizeLine) ∧
 lcW (rng 0 x18) ([] : List Str) t20.2 (fun row (s : (Int × Int)) w => (Zz 0 wide) ∧
 ((rng 0 wide).length ≤ sizeLine) ∧
 lcW (rng 0 wide) ([] : List Str) s (fun j (s : (Int × Int)) w => qH s 2 fun t25 =>
 ((Str.ofString "#.").length ≤ sizeLine) ∧
 exW (atI (sgns (Str.ofString "#.")) t25.1) fun x26 =>
 w (some x26) t25.2) fun l29 s30 =>
 ((l29.map (·.length)).sum + l29.length * (Str.ofString "").length ≤ 16777216) ∧
 w (some (Txt.join (Str.ofString "") l29)) s30) fun l32 s33 =>
 (Zz 0 x18) ∧
 ((rng 0 x18).length ≤ sizeLine) ∧
 lcW (rng 0 x18) ([] : List Str) s33 (fun row (s : (Int × Int)) w => (Zz 0 4) ∧
 ((rng 0 4).length ≤ sizeLine) ∧
 lcW (rng 0 4) ([] : List Str) s (fun j (s : (Int × Int)) w => qH s 12 fun t38 =>
 (((t38.1 + (intB (decide (1 < j)))) : Int).natAbs.log2 < 1920) ∧
 w (some (Str.ofString (toString (t38.1 + (intB (decide (1 < j))))))) t38.2) fun l40 s41 =>
 ((l40.map (·.length)).sum + l40.length * (Str.ofString " ").length ≤ 16777216) ∧
 w (some (Txt.join (Str.ofString " ") l40)) s41) fun l43 s44 =>
 (Zz 0 5) ∧
 forW (rng 0 5) s44 (fun turn (tape : (Int × Int)) kk50 => wD tape l32 fun t51 =>
 wR t51.2 l43 fun t52 =>
 lt (t51.1 : (List Str)) fun bent =>
 lt (t52.1 : (List Str)) fun other =>
 qH t52.2 3 fun t53 =>
 ifW (decide (t53.1 = 0)) (fun kk55 => wD t53.2 bent fun t56 =>
 wR t56.2 other fun t57 =>
 lt (t56.1 : (List Str)) fun bent =>
 lt (t57.1 : (List Str)) fun other =>
 kk55 (t57.2, bent, other)) (fun kk55 => kk55 (t53.2, bent, other)) fun (s54 : ((Int × Int) × (List Str) × (List Str))) =>
 qH s54.1 6 fun t58 =>
 exW (atI [[(Str.ofString "")], ([] : List Str)] (intB (decide (0 < t58.1)))) fun x59 =>
 (s54.2.1.length + x59.length ≤ sizeLine) ∧
 wy false false (s54.2.1 ++ x59) fun t62 =>
 ifP (!t62) (kr false) <|
 (s54.2.2.length + x59.length ≤ sizeLine) ∧
 wy true true (s54.2.2 ++ x59) fun t64 =>
 ifP (!t64) (kr false) <|
 kk50 t58.2) fun tape =>
 wy false false l32 fun t65 =>
 ifW (!t65) (fun kk66 => kk66 (true, ())) (fun kk66 => wy true true l43 fun t67 =>
 kk66 ((!t67), ())) fun (b68 : Bool × Unit) =>
 ifP b68.1 (kr false) <|
 kk13 ()) fun s2 =>
 wg false (Str.ofString "\n") fun t69 =>
 ifW (decide (t69 = some 0)) (fun kk70 => wg true (Str.ofString "\n") fun t71 =>
 kk70 ((decide (t71 = some 0)), ())) (fun kk70 => kk70 (false, ())) fun (b72 : Bool × Unit) =>
 kr b72.1
def Xy : FS := mkS (α := (List Int)) (κ := Bool) [.cst] (fun a => [(eL D.int) a]) (fun a => qa5 a) (fun r => D.bl r) fun a r => [(eL D.int) a]
theorem qfS : BodyOk Xy 13 (qcx qI wI qw qN qU ym) := by
 intro ds Q hl h
 obtain ⟨script, kr, rfl, h, q⟩ := h
 refine uL (e' := [_, _, _, _, _, _, _, _, _, _, _, _, _]) rfl ?_
 unfold qcx
 unfold qa5 at h
 refine wO <| qbe <| UW <| qQ <| c_C <| zj <| qd <| c_C <| qd <| zj <| qd <| qu rfl <| qC <| zg (.cons .cst .nil) QS <| qC <| zg (.cons .tmp (.cons .tmp .nil)) qeq <| qP .tmp .tmp xK ?_
 obtain ⟨p1, h⟩ := h
 refine Uv p1 ?_
 refine Xa (fI := D.int) (sh := fun (s2 : Unit) e => ∃ c3 c4 c5 c6 c7 c8 c9 c10 c11 c12 : Option (D × Md), (setS (some c3) = true ∧ setS (some c4) = true ∧ setS (some c5) = true ∧ setS (some c6) = true ∧ setS (some c7) = true ∧ setS (some c8) = true ∧ setS (some c9) = true ∧ setS (some c10) = true ∧ setS (some c11) = true ∧ setS (some c12) = true) ∧ e = [zS (eL D.int script), c3, c4, c5, c6, c7, c8, c9, c10, c11, c12, none, none]) h ⟨_, _, _, _, _, _, _, _, _, _, ⟨rfl, rfl, rfl, rfl, rfl, rfl, rfl, rfl, rfl, rfl⟩, rfl⟩ (fun k' ha s2 e hs kk13 nxkk13 hJ13 h => ?_) ?_
 ·skip
  obtain ⟨c3, c4, c5, c6, c7, c8, c9, c10, c11, c12, ⟨hc3, hc4, hc5, hc6, hc7, hc8, hc9, hc10, hc11, hc12⟩, rfl⟩ := hs
  refine g_n (e' := [_, _, _, _, _, _, _, _, _, _, _, _, _]) hc3 rfl (?_)
  refine wO <| s_asg <| c_fn <| qd <| qu rfl <| qd <| qu rfl <| qC ?_
  refine x_call (script, k') (fun t14 => [_, _, _, _, _, _, _, _, _, _, _, _, _]) h (.cons .cst (.cons .tmp .nil)) (qD qT (qD qT qZ)) (zp (by rfl)) (fun _ => rfl) fun t14 h => ?_
  refine g_n (e' := [_, _, _, _, _, _, _, _, _, _, _, _, _]) hc4 rfl ?_
  refine wO <| s_asg <| jL <| yX <| qd <| qQ <| c_C <| c_fn <| qd <| qu rfl <| qd <| c_C <| qC ?_
  refine x_call (t14, 6) (fun t15 => [_, _, zO (eP t15.2), _, _, _, _, _, _, _, _, _, _]) h (.cons .z (.cons .tmp .nil)) (qD (by rfl) (qD qT qZ)) (by rfl) (fun _ => rfl) fun t15 h => ?_
  refine qP .tmp .tmp xK <| qd <| qQ <| c_C <| c_fn <| qd <| qu rfl <| qd <| c_C <| qC ?_
  refine x_call (t15.2, 34) (fun t16 => [_, _, zO (eP t16.2), _, _, _, _, _, _, _, _, _, _]) h (.cons .z (.cons .tmp .nil)) (qD (by rfl) (qD qT qZ)) (by rfl) (fun _ => rfl) fun t16 h => ?_
  refine qP .tmp .tmp xK <| qC <| zW D.int [(1 + t15.1), (7 + t16.1)] (.cons .tmp (.cons .tmp .nil)) <| zj <| qd <| qQ <| c_fn <| qd <| qu rfl <| qd <| c_C <| qC ?_
  refine x_call (t16.2, 8) (fun t17 => [_, _, zO (eP t17.2), _, _, _, _, _, _, _, _, _, _]) h (.cons .z (.cons .tmp .nil)) (qD (by rfl) (qD qT qZ)) (by rfl) (fun _ => rfl) fun t17 h => ?_
  refine c_C <| qP .tmp .tmp (op_eq (f := D.int)) <| qC <| zg (.cons .tmp .nil) V9 ?_
  obtain ⟨x18, p19, h⟩ := h
  refine o_idx .tmp .tmp (ix_L p19) .tmp ?_
  refine g_n (e' := [_, _, _, _, _, _, _, _, _, _, _, _, _]) hc5 rfl ?_
  refine wO <| s_asg <| qQ <| c_C <| c_fn <| qd <| qu rfl <| qd <| c_C <| qC ?_
  refine x_call (t17.2, 5) (fun t20 => [_, _, zO (eP t20.2), _, _, _, _, _, _, _, _, _, _]) h (.cons .z (.cons .tmp .nil)) (qD (by rfl) (qD qT qZ)) (by rfl) (fun _ => rfl) fun t20 h => ?_
  refine qP .tmp .tmp xK ?_
  refine g_N (f := D.int) (fun wide => [_, _, _, _, zO (D.int wide), _, _, _, _, _, _, _, _]) h hc6 (fun _ => rfl) fun wide h => ?_
  refine wO <| s_asg <| c_lc <| UW <| qu rfl ?_
  obtain ⟨p21, h⟩ := h
  refine Uv p21 ?_
  obtain ⟨p22, h⟩ := h
  refine Y9 (fI := D.int) (fo := D.str) (sh := fun (s : (Int × Int)) e => e = [zS (eL D.int script), zO (D.int k'), zO (eP s), zO (D.int x18), zO (D.int wide), c7, c8, c9, c10, c11, c12, none, none]) h (all1 rfl) p22 rfl (fun row ha s e hs w c k1 k2 hc h1 h2 h => ?_) ?_
  ·obtain rfl := hs
   refine g_n (e' := [_, _, _, _, _, _, _, _, _, _, _, _, _]) rfl rfl (?_)
   refine Xv <| Q7 <| c_C <| QR .tmp (by rfl) <| qd <| c_lc <| UW <| qu rfl ?_
   obtain ⟨p23, h⟩ := h
   refine Uv p23 ?_
   obtain ⟨p24, h⟩ := h
   refine Y9 (fI := D.int) (fo := D.str) (sh := fun (s : (Int × Int)) e => e = [zS (eL D.int script), zO (D.int k'), zO (eP s), zO (D.int x18), zO (D.int wide), c7, c8, c9, c10, c11, c12, zO (D.int row), none]) h (all1 rfl) p24 rfl (fun j ha s e hs w c k1 k2 hc h1 h2 h => ?_) ?_
   ·obtain rfl := hs
    refine g_n (e' := [_, _, _, _, _, _, _, _, _, _, _, _, _]) rfl rfl (?_)
    refine Xv <| jL <| c_C <| c_fn <| qd <| qu rfl <| qd <| c_C <| qC ?_
    refine x_call (s, 2) (fun t25 => [_, _, zO (eP t25.2), _, _, _, _, _, _, _, _, _, _]) h (.cons .z (.cons .tmp .nil)) (qD (by rfl) (qD qT qZ)) (by rfl) (fun _ => rfl) fun t25 h => ?_
    obtain ⟨p28, x26, p27, h⟩ := h
    refine o_idx .tmp .tmp (ix_S p27 p28) .tmp ?_
    exact o_el .tmp hc rfl (h1 _ t25.2 _ rfl h)
   rintro l29 s30 e hs h
   obtain rfl := hs
   refine jN (e' := [_, _, _, _, _, _, _, _, _, _, _, _, _]) rfl <| zA <| qC ?_
   obtain ⟨p31, h⟩ := h
   refine Zf .tmp .tmp p31 ?_
   exact o_el .tmp hc rfl (h1 _ s30 _ rfl h)
  rintro l32 s33 e hs h
  obtain rfl := hs
  refine jN (e' := [_, _, _, _, _, _, _, _, _, _, _, _, _]) rfl <| zA ?_
  refine g_n (e' := [_, _, _, _, _, _, _, _, _, _, _, _, _]) hc7 rfl ?_
  refine wO <| s_asg <| c_lc <| UW <| qu rfl ?_
  obtain ⟨p34, h⟩ := h
  refine Uv p34 ?_
  obtain ⟨p35, h⟩ := h
  refine Y9 (fI := D.int) (fo := D.str) (sh := fun (s : (Int × Int)) e => e = [zS (eL D.int script), zO (D.int k'), zO (eP s), zO (D.int x18), zO (D.int wide), zO (eL D.str l32), c8, c9, c10, c11, c12, none, none]) h (all1 rfl) p35 rfl (fun row ha s e hs w c k1 k2 hc h1 h2 h => ?_) ?_
  ·obtain rfl := hs
   refine g_n (e' := [_, _, _, _, _, _, _, _, _, _, _, _, _]) rfl rfl (?_)
   refine Xv <| Q7 <| c_C <| QR .tmp (by rfl) <| qd <| c_lc <| UW <| c_C ?_
   obtain ⟨p36, h⟩ := h
   refine Uv p36 ?_
   obtain ⟨p37, h⟩ := h
   refine Y9 (fI := D.int) (fo := D.str) (sh := fun (s : (Int × Int)) e => e = [zS (eL D.int script), zO (D.int k'), zO (eP s), zO (D.int x18), zO (D.int wide), zO (eL D.str l32), c8, c9, c10, c11, c12, zO (D.int row), none]) h (all1 rfl) p37 rfl (fun j ha s e hs w c k1 k2 hc h1 h2 h => ?_) ?_
   ·obtain rfl := hs
    refine g_n (e' := [_, _, _, _, _, _, _, _, _, _, _, _, _]) rfl rfl (?_)
    refine Xv <| zj <| qd <| qQ <| c_fn <| qd <| qu rfl <| qd <| c_C <| qC ?_
    refine x_call (s, 12) (fun t38 => [_, _, zO (eP t38.2), _, _, _, _, _, _, _, _, _, _]) h (.cons .z (.cons .tmp .nil)) (qD (by rfl) (qD qT qZ)) (by rfl) (fun _ => rfl) fun t38 h => ?_
    refine zj <| qd <| qQ <| qu rfl <| c_C <| qP .tmp .tmp Z3 <| qC <| zg (.cons .tmp .nil) V9 <| qP .tmp .tmp xK <| qC ?_
    obtain ⟨p39, h⟩ := h
    refine zg (.cons .tmp .nil) (qep p39) ?_
    exact o_el .tmp hc rfl (h1 _ t38.2 _ rfl h)
   rintro l40 s41 e hs h
   obtain rfl := hs
   refine jN (e' := [_, _, _, _, _, _, _, _, _, _, _, _, _]) rfl <| zA <| qC ?_
   obtain ⟨p42, h⟩ := h
   refine Zf .tmp .tmp p42 ?_
   exact o_el .tmp hc rfl (h1 _ s41 _ rfl h)
  rintro l43 s44 e hs h
  obtain rfl := hs
  refine jN (e' := [_, _, _, _, _, _, _, _, _, _, _, _, _]) rfl <| zA ?_
  refine g_n (e' := [_, _, _, _, _, _, _, _, _, _, _, _, _]) hc8 rfl ?_
  refine wO <| qbe <| UW <| c_C ?_
  obtain ⟨p45, h⟩ := h
  refine Uv p45 ?_
  refine Xa (fI := D.int) (sh := fun (tape : (Int × Int)) e => ∃ c46 c47 c48 c49 : Option (D × Md), (setS (some c46) = true ∧ setS (some c47) = true ∧ setS (some c48) = true ∧ setS (some c49) = true) ∧ e = [zS (eL D.int script), zO (D.int k'), zO (eP tape), zO (D.int x18), zO (D.int wide), zO (eL D.str l32), zO (eL D.str l43), c46, c47, c48, c49, none, none]) h ⟨_, _, _, _, ⟨hc9, hc10, hc11, hc12⟩, rfl⟩ (fun turn ha tape e hs kk50 nxkk50 hJ50 h => ?_) ?_
  ·skip
   obtain ⟨c46, c47, c48, c49, ⟨hc46, hc47, hc48, hc49⟩, rfl⟩ := hs
   refine g_n (e' := [_, _, _, _, _, _, _, _, _, _, _, _, _]) hc46 rfl (?_)
   refine wO <| qdX <| qd <| c_fn <| qd <| qu rfl <| qd <| qu rfl <| qC ?_
   refine x_call (tape, l32) (fun t51 => [_, _, zO (eP t51.2), _, _, _, _, _, _, _, _, _, _]) h (.cons .z (.cons .z .nil)) (qD (by rfl) (qD (Z4 .z) qZ)) (by rfl) (fun _ => rfl) fun t51 h => ?_
   refine qd <| c_fn <| qd <| qu rfl <| qd <| qu rfl <| qC ?_
   refine x_call (t51.2, l43) (fun t52 => [_, _, zO (eP t52.2), _, _, _, _, _, _, _, _, _, _]) h (.cons .z (.cons .z .nil)) (qD (by rfl) (qD (Z4 .z) qZ)) (by rfl) (fun _ => rfl) fun t52 h => ?_
   refine qC <| qeh (f := (eL D.str)) (g := (eL D.str)) (fun bent other => [zS (eL D.int script), zO (D.int k'), zO (eP t52.2), zO (D.int x18), zO (D.int wide), zO (eL D.str l32), zO (eL D.str l43), zO (D.int turn), zO (eL D.str bent), zO (eL D.str other), c49, none, none]) .tmp .tmp h hc47 hc48 (fun _ _ => rfl) fun bent other h => wO <| s_if <| yJ <| qQ <| c_fn <| qd <| qu rfl <| qd <| c_C <| qC ?_
   refine x_call (t52.2, 3) (fun t53 => [_, _, zO (eP t53.2), _, _, _, _, _, _, _, _, _, _]) h (.cons .z (.cons .tmp .nil)) (qD (by rfl) (qD qT qZ)) (by rfl) (fun _ => rfl) fun t53 h => ?_
   refine c_C <| qP .tmp .tmp (op_eq (f := D.int)) <| yI .tmp tr_b ?_
   refine qek (sh := fun (s54 : ((Int × Int) × (List Str) × (List Str))) e => e = [zS (eL D.int script), zO (D.int k'), zO (eP s54.1), zO (D.int x18), zO (D.int wide), zO (eL D.str l32), zO (eL D.str l43), zO (D.int turn), zO (eL D.str s54.2.1), zO (eL D.str s54.2.2), c49, none, none]) h (fun hb kk55 nxkk55 hJ55 h => ?_) (fun hb kk55 nxkk55 hJ55 h => ?_) ?_
   ·skip
    refine qdX <| qd <| c_fn <| qd <| qu rfl <| qd <| qu rfl <| qC ?_
    refine x_call (t53.2, bent) (fun t56 => [_, _, zO (eP t56.2), _, _, _, _, _, _, _, _, _, _]) h (.cons .z (.cons .z .nil)) (qD (by rfl) (qD (Z4 .z) qZ)) (by rfl) (fun _ => rfl) fun t56 h => ?_
    refine qd <| c_fn <| qd <| qu rfl <| qd <| qu rfl <| qC ?_
    refine x_call (t56.2, other) (fun t57 => [_, _, zO (eP t57.2), _, _, _, _, _, _, _, _, _, _]) h (.cons .z (.cons .z .nil)) (qD (by rfl) (qD (Z4 .z) qZ)) (by rfl) (fun _ => rfl) fun t57 h => ?_
    refine qC <| qeh (f := (eL D.str)) (g := (eL D.str)) (fun bent other => [zS (eL D.int script), zO (D.int k'), zO (eP t57.2), zO (D.int x18), zO (D.int wide), zO (eL D.str l32), zO (eL D.str l43), zO (D.int turn), zO (eL D.str bent), zO (eL D.str other), c49, none, none]) .tmp .tmp h rfl rfl (fun _ _ => rfl) fun bent other h => ?_
    exact hJ55 (t57.2, bent, other) _ rfl h
   ·skip
    refine uI ?_
    exact hJ55 (t53.2, bent, other) _ rfl h
   rintro s54 e hs h
   obtain rfl := hs
   refine wO <| s_asg <| jL <| yX <| qd <| yX <| qd <| c_C <| qC <| zW D.str [(Str.ofString "")] (.cons .tmp .nil) <| qd <| yX <| qC <| zW D.str ([] : List Str) .nil <| qC <| zW (eL D.str) [[(Str.ofString "")], ([] : List Str)] (.cons .tmp (.cons .tmp .nil)) <| zj <| qd <| qQ <| c_fn <| qd <| qu rfl <| qd <| c_C <| qC ?_
   refine x_call (s54.1, 6) (fun t58 => [_, _, zO (eP t58.2), _, _, _, _, _, _, _, _, _, _]) h (.cons .z (.cons .tmp .nil)) (qD (by rfl) (qD qT qZ)) (by rfl) (fun _ => rfl) fun t58 h => ?_
   refine c_C <| qP .tmp .tmp Z3 <| qC <| zg (.cons .tmp .nil) V9 ?_
   obtain ⟨x59, p60, h⟩ := h
   refine o_idx .tmp .tmp (ix_L p60) .tmp ?_
   refine g_n (e' := [_, _, _, _, _, _, _, _, _, _, _, _, _]) hc49 rfl ?_
   refine wO <| s_if <| vq <| yJ <| c_fn <| qd <| c_fv <| qd <| c_fv <| qd <| qQ <| qu rfl <| qu rfl ?_
   obtain ⟨p61, h⟩ := h
   refine qP .z .z (yh (f := D.str) p61) <| qC ?_
   refine x_call (false, false, (s54.2.1 ++ x59)) (fun t62 => [_, _, _, _, _, _, _, _, _, _, _, _, _]) h (.cons .tmp (.cons .tmp (.cons .tmp .nil))) (qD qT (qD qT (qD (Z4 .tmp) qZ))) (zp (by rfl)) (fun _ => rfl) fun t62 h => ?_
   refine yI .tmp tr_b ?_
   refine uY h (fun hb h => ?_) (fun hb h => ?_)
   ·skip
    refine s_ret <| c_C <| xM <| zA <| zA ?_
    exact q false h
   refine uI <| s_if <| vq <| yJ <| c_fn <| qd <| c_fv <| qd <| c_fv <| qd <| qQ <| qu rfl <| qu rfl ?_
   obtain ⟨p63, h⟩ := h
   refine qP .z .z (yh (f := D.str) p63) <| qC ?_
   refine x_call (true, true, (s54.2.2 ++ x59)) (fun t64 => [_, _, _, _, _, _, _, _, _, _, _, _, _]) h (.cons .tmp (.cons .tmp (.cons .tmp .nil))) (qD qT (qD qT (qD (Z4 .tmp) qZ))) (zp (by rfl)) (fun _ => rfl) fun t64 h => ?_
   refine yI .tmp tr_b ?_
   refine uY h (fun hb h => ?_) (fun hb h => ?_)
   ·skip
    refine s_ret <| c_C <| xM <| zA <| zA ?_
    exact q false h
   refine uI ?_
   exact hJ50 t58.2 _ ⟨_, _, _, _, ⟨rfl, rfl, rfl, rfl⟩, rfl⟩ h
  rintro tape e hs h
  obtain ⟨c46, c47, c48, c49, ⟨hc46, hc47, hc48, hc49⟩, rfl⟩ := hs
  refine zA <| s_if <| WQ <| vq <| yJ <| c_fn <| qd <| c_fv <| qd <| c_fv <| qd <| qu rfl <| qC ?_
  refine x_call (false, false, l32) (fun t65 => [_, _, _, _, _, _, _, _, _, _, _, _, _]) h (.cons .tmp (.cons .tmp (.cons .z .nil))) (qD qT (qD qT (qD (Z4 .z) qZ))) (zp (by rfl)) (fun _ => rfl) fun t65 h => ?_
  refine yI .tmp tr_b ?_
  refine Wz (sh := fun (s : Unit) e => e = [zS (eL D.int script), zO (D.int k'), zO (eP tape), zO (D.int x18), zO (D.int wide), zO (eL D.str l32), zO (eL D.str l43), c46, c47, c48, c49, none, none]) h rfl (fun hb kk66 N hJ66 h => ?_) ?_
  ·skip
   refine vq <| yJ <| c_fn <| qd <| c_fv <| qd <| c_fv <| qd <| qu rfl <| qC ?_
   refine x_call (true, true, l43) (fun t67 => [_, _, _, _, _, _, _, _, _, _, _, _, _]) h (.cons .tmp (.cons .tmp (.cons .z .nil))) (qD qT (qD qT (qD (Z4 .z) qZ))) (zp (by rfl)) (fun _ => rfl) fun t67 h => ?_
   refine yI .tmp tr_b ?_
   exact hJ66 ((!t67), ()) _ rfl h
  rintro b68 e hs h
  obtain rfl := hs
  refine uY h (fun hb h => ?_) (fun hb h => ?_)
  ·skip
   refine s_ret <| c_C <| xM <| zA ?_
   exact q false h
  refine uI ?_
  exact hJ13 () _ ⟨_, _, _, _, _, _, _, _, _, _, ⟨rfl, rfl, rfl, rfl, rfl, rfl, hc46, hc47, hc48, hc49⟩, rfl⟩ h
 rintro s2 e hs h
 obtain ⟨c3, c4, c5, c6, c7, c8, c9, c10, c11, c12, ⟨hc3, hc4, hc5, hc6, hc7, hc8, hc9, hc10, hc11, hc12⟩, rfl⟩ := hs
 refine zA <| s_ret <| Xw <| qQ <| c_fn <| qd <| c_fv <| qd <| c_C <| qC ?_
 refine x_call (false, (Str.ofString "\n")) (fun t69 => [_, _, _, _, _, _, _, _, _, _, _, _, _]) h (.cons .tmp (.cons .tmp .nil)) (qD qT (qD qT qZ)) (zp (by rfl)) (fun _ => rfl) fun t69 h => ?_
 refine c_C <| qP .tmp .tmp V3 <| Z5 .tmp ?_
 refine Xb (sh := fun (s : Unit) e => e = [zS (eL D.int script), c3, c4, c5, c6, c7, c8, c9, c10, c11, c12, none, none]) h rfl (fun hb kk70 N hJ70 h => ?_) ?_
 ·skip
  refine qQ <| c_fn <| qd <| c_fv <| qd <| c_C <| qC ?_
  refine x_call (true, (Str.ofString "\n")) (fun t71 => [_, _, _, _, _, _, _, _, _, _, _, _, _]) h (.cons .tmp (.cons .tmp .nil)) (qD qT (qD qT qZ)) (zp (by rfl)) (fun _ => rfl) fun t71 h => ?_
  refine c_C <| qP .tmp .tmp V3 ?_
  exact hJ70 ((decide (t71 = some 0)), ()) _ rfl h
 rintro b72 e hs h
 obtain rfl := hs
 refine xM ?_
 exact q b72.1 h
end K42
namespace K42
open PySem PySem.Spec PyProof.Rows L2 BX TX COM BC TL PySem.StrLaws
theorem qa2 : ∀ (n : Nat) (s : Str), (tl s).length = n → ∃ l : List Str, l ≠ [] ∧ Txt.join blS l = s ∧ (∀ p ∈ l, 32 ∉ tl p ∧ ∀ c ∈ tl p, c ∈ tl s) ∧ l.length ≤ n + 1 ∧ ∀ p ∈ l, (tl p).length ≤ n := by
 intro n
 induction n with
 | zero =>
   intro s h
   have hs : tl s = [] := List.eq_nil_of_length_eq_zero h
   refine ⟨[s], by simp, rfl, fun p hp => ?_, by simp, fun p hp => by rw [List.mem_singleton.mp hp]; omega⟩
   rw [List.mem_singleton.mp hp, hs]
   exact ⟨by simp, fun c hc => hc⟩
 | succ n ih =>
   intro s h
   cases e : tl s with
   | nil => rw [e] at h; cases h
   | cons c cs =>
     have hcs : cs.length = n := by rw [e] at h; simpa using h
     obtain ⟨l, l1, l2, l3, l4, l5⟩ := ih ⟨cs.toArray⟩ (by show (cs.toArray.toList).length = n; simpa using hcs)
     have tcs : tl (⟨cs.toArray⟩ : Str) = cs := by simp [tl]
     rw [tcs] at l3
     cases l with
     | nil => exact absurd rfl l1
     | cons a r =>
       by_cases hc : c = 32
       ·-- a blank: an empty word ahead
        refine ⟨Str.ofString "" :: a :: r, by simp, ext_tl ?_, fun p hp => ?_, by simp at l4 ⊢; omega, fun p hp => ?_⟩
        ·rw [join_eq]
         show tl (Str.ofString "" ++ blS ++ Str.join blS (a :: r)) = _
         rw [join_eq] at l2
         rw [tl_append, tl_append, l2, tcs, qa7, e, hc]; rfl
        ·rcases List.mem_cons.mp hp with rfl | hp
         ·have : tl (Str.ofString "") = [] := by rfl
          rw [this]; exact ⟨by simp, fun c hc => by cases hc⟩
         ·exact ⟨(l3 p hp).1, fun x hx => List.mem_cons_of_mem _ ((l3 p hp).2 x hx)⟩
        ·rcases List.mem_cons.mp hp with rfl | hp
         ·have : tl (Str.ofString "") = [] := by rfl
          rw [this]; simp
         ·have := l5 p hp; omega
       ·-- another sign: it goes to the first word
        have ta : tl ((⟨#[c]⟩ : Str) ++ a) = c :: tl a := by rw [tl_append]; rfl
        refine ⟨((⟨#[c]⟩ : Str) ++ a) :: r, by simp, ext_tl ?_, fun p hp => ?_, by simp at l4 ⊢; omega, fun p hp => ?_⟩
        ·rw [e]
         have l2' := congrArg tl l2
         rw [tcs] at l2'
         cases r with
         | nil =>
           rw [join_eq] at l2'
           have l2' : tl a = cs := l2'
           rw [join_eq]
           show tl ((⟨#[c]⟩ : Str) ++ a) = _
           rw [ta, l2']
         | cons b r =>
           rw [join_eq] at l2'
           have l2' : tl (a ++ blS ++ Str.join blS (b :: r)) = cs := l2'
           rw [join_eq]
           show tl (((⟨#[c]⟩ : Str) ++ a) ++ blS ++ Str.join blS (b :: r)) = _
           rw [tl_append, tl_append] at l2'
           rw [tl_append, tl_append, ta, ← l2']; rfl
        ·rcases List.mem_cons.mp hp with rfl | hp
         ·rw [ta]
          have := l3 a (List.mem_cons_self ..)
          refine ⟨fun z => ?_, fun x hx => ?_⟩
          ·rcases List.mem_cons.mp z with z | z
           ·exact hc z.symm
           ·exact this.1 z
          ·rcases List.mem_cons.mp hx with rfl | hx
           ·exact List.mem_cons_self ..
           ·exact List.mem_cons_of_mem _ (this.2 x hx)
         ·exact ⟨(l3 p (List.mem_cons_of_mem _ hp)).1, fun x hx => List.mem_cons_of_mem _ ((l3 p (List.mem_cons_of_mem _ hp)).2 x hx)⟩
        ·rcases List.mem_cons.mp hp with rfl | hp
         ·rw [ta]
          have := l5 a (List.mem_cons_self ..)
          simp; omega
         ·have := l5 p (List.mem_cons_of_mem _ hp); omega
theorem uD (s : Str) : ∃ l : List Str, Txt.split s blS = l ∧ l ≠ [] ∧ (∀ p ∈ l, ∀ c ∈ tl p, c ∈ tl s) ∧ l.length ≤ s.length + 1 ∧ ∀ p ∈ l, p.length ≤ s.length := by
 obtain ⟨l, h1, h2, h3, h4, h5⟩ := qa2 _ s rfl
 refine ⟨l, ?_, h1, fun p hp => (h3 p hp).2, by rw [len_tl]; exact h4, fun p hp => by rw [len_tl, len_tl]; exact h5 p hp⟩
 have := qba h1 fun p hp => (h3 p hp).1
 rw [h2] at this
 exact this
def fb {α : Type} (p : α → Bool) : List α → Nat → Option Int
 | [], _ => none
 | a :: l, k => if p a then fb p l (k + 1) else some (k : Int)
theorem qav {α : Type} {p : α → Bool} : ∀ {l : List α} {k : Nat}, (∀ a ∈ l, p a = true) → fb p l k = none
 | [], _, _ => rfl
 | a :: l, k, h => by rw [fb, if_pos (h a (List.mem_cons_self ..)), qav fun x hx => h x (List.mem_cons_of_mem _ hx)]
theorem qb1 {α : Type} {p : α → Bool} : ∀ {pre : List α} {a : α} {suf : List α} {k : Nat}, (∀ x ∈ pre, p x = true) → p a = false → fb p (pre ++ a :: suf) k = some ((k + pre.length : Nat) : Int)
 | [], a, suf, k, _, h => by rw [List.nil_append, fb, if_neg (by rw [h]; simp)]; simp
 | x :: pre, a, suf, k, hp, h => by
   rw [List.cons_append, fb, if_pos (hp x (List.mem_cons_self ..)), qb1 (fun y hy => hp y (List.mem_cons_of_mem _ hy)) h, List.length_cons]
   congr 1
   omega
theorem UJ {α : Type} {l : List α} {p : List (Int × α)} {a : Int × α} {q : List (Int × α)} (e : yN l = p ++ a :: q) : l = p.map (·.2) ++ a.2 :: q.map (·.2) ∧ a.1 = ((p.map (·.2)).length : Int) := by
 refine ⟨?_, by rw [List.length_map]; exact qbv e⟩
 have := congrArg (List.map (·.2)) e
 rw [QW] at this
 rw [this]; simp
theorem vg {α σ : Type} (p : α → Bool) {body : (Int × α) → σ → (σ → Prop) → Prop} {k : σ → Prop} (I : List α → σ → Prop) {l : List α} {s : σ} (h0 : I [] s)
 (hg : ∀ (pre : List α) (a : Int × α) (s : σ) (kk : σ → Prop), a.2 ∈ l → pre.length < l.length → I pre s → p a.2 = true → (∀ s', I (pre ++ [a.2]) s' → kk s') → body a s kk)
 (hb : ∀ (a : Int × α) (s : σ) (kk : σ → Prop), a.2 ∈ l → fb p l 0 = some a.1 → p a.2 = false → body a s kk)
 (he : fb p l 0 = none → ∀ s, k s) : forW (yN l) s body k := by
 refine Jw (fun q s => (∀ x ∈ q.map (·.2), p x = true) ∧ I (q.map (·.2)) s) ⟨(fun x hx => by cases hx), h0⟩ ?_ ?_
 ·rintro q a suf s kk e ⟨h1, h2⟩ hkk
  obtain ⟨e1, e2⟩ := UJ e
  have ha : a.2 ∈ l := by rw [e1]; simp
  cases hp : p a.2 with
  | true =>
    refine hg (q.map (·.2)) a s kk ha (by rw [e1]; simp) h2 hp fun s' hs' => hkk s' ⟨fun x hx => ?_, ?_⟩
    ·rw [List.map_append, List.mem_append] at hx
     rcases hx with hx | hx
     ·exact h1 x hx
     ·have : x = a.2 := by simpa using hx
      rw [this]; exact hp
    ·rw [List.map_append]; exact hs'
  | false =>
    refine hb a s kk ha ?_ hp
    rw [e1, qb1 h1 hp, e2]; simp
 ·rintro s ⟨h1, _⟩
  rw [QW] at h1
  exact he (qav h1) s
structure RowsP (N : Nat) (rows : List Str) : Prop where
 ne : rows ≠ []
 many : rows.length ≤ 42
 len : ∀ s ∈ rows, s.length ≤ N
 cod : ∀ s ∈ rows, ∀ c ∈ tl s, 32 ≤ c ∧ c ≤ 126
theorem qaL {s : Str} (h : ∀ c ∈ tl s, 32 ≤ c ∧ c ≤ 126) : PyData.strOk s = true := uP fun c hc => by have := h c hc; omega
section
variable {N : Nat} {rows : List Str}
theorem RowsP.split (h : RowsP N rows) : Txt.split (Txt.join nlS rows) nlS = rows := qbb h.ne fun p hp z => by have := h.cod p hp 10 z; omega
theorem RowsP.txlen (h : RowsP N rows) : (Txt.join nlS rows).length ≤ 42 * (N + 1) := by
 have := vf nlS N (l := rows) h.len
 rw [qbX] at this
 rw [join_eq]
 exact Nat.le_trans this (Nat.mul_le_mul_right _ h.many)
theorem RowsP.sum (h : RowsP N rows) : (rows.map (·.length)).sum + rows.length * nlS.length ≤ 42 * (N + 1) := by
 have := Qv N (l := rows) h.len
 have hm := h.many
 rw [qbX, Nat.mul_one]
 have : rows.length * (N + 1) ≤ 42 * (N + 1) := Nat.mul_le_mul_right _ hm
 rw [Nat.mul_succ] at this
 omega
theorem RowsP.ok (h : RowsP N rows) : PyData.strOk (Txt.join nlS rows) = true := uP fun c hc => by
 rw [join_eq] at hc
 rcases u9 nlS hc with hc | ⟨a, ha, hc⟩
 ·rw [qdS] at hc
  rw [List.mem_singleton.mp hc]; decide
 ·have := h.cod a ha c hc; omega
end
theorem VB : PyData.strOk (Str.ofString "") = true := by decide +kernel
theorem Jm {s : Str} : s.length = 0 ↔ s = Str.ofString "" := by
 constructor
 ·intro h
  rw [len_tl] at h
  exact ext_tl (by rw [List.eq_nil_of_length_eq_zero h]; rfl)
 ·rintro rfl; rfl
def okP (w : Nat) (s : Str) : Bool := decide (0 < w) && (decide (s.length = w) && (tl s).all fun c => c == 35 || c == 46)
theorem Y7 {w : Nat} {s : Str} : okP w s = true ↔ 0 < w ∧ s.length = w ∧ ∀ c ∈ tl s, c = 35 ∨ c = 46 := by
 unfold okP
 rw [Bool.and_eq_true, Bool.and_eq_true, decide_eq_true_eq, decide_eq_true_eq, List.all_eq_true]
 refine and_congr_right fun _ => and_congr_right fun _ => forall_congr' fun c => forall_congr' fun _ => ?_
 rw [Bool.or_eq_true, beq_iff_eq, beq_iff_eq]
def jY (rows : List Str) : Option Int := if Txt.join nlS rows = Str.ofString "" then none else fb (okP (rows.headD (Str.ofString "")).length) rows 0
section
variable {N : Nat} {rows : List Str}
theorem at0 (h : rows ≠ []) : atI rows 0 = some (rows.headD (Str.ofString "")) := by
 cases rows with
 | nil => exact absurd rfl h
 | cons a l => simp [atI, ixN]
theorem Ju (h : rows ≠ []) : rows.headD (Str.ofString "") ∈ rows := by
 cases rows with
 | nil => exact absurd rfl h
 | cons a l => exact List.mem_cons_self ..
theorem ZX {s : Str} {w : Nat} (hs : s.length ≤ 100000) {kr : Bool → Prop} (hk : kr (okP w s)) : zU s (w : Int) kr := by
 have e : (decide (0 < (w : Int)) && (decide ((s.length : Int) = (w : Int)) && (((sgns s).map (fun sign => (inS sign (Str.ofString "#.")))).all id))) = okP w s := by
  unfold okP
  have e1 : decide (0 < (w : Int)) = decide (0 < w) := by
   by_cases h : 0 < w
   ·rw [decide_eq_true h, decide_eq_true (by omega)]
   ·rw [decide_eq_false h, decide_eq_false (by omega)]
  have e2 : decide ((s.length : Int) = (w : Int)) = decide (s.length = w) := by
   by_cases h : s.length = w
   ·rw [decide_eq_true h, decide_eq_true (by omega)]
   ·rw [decide_eq_false h, decide_eq_false (by omega)]
  have e3 : (((sgns s).map (fun sign => (inS sign (Str.ofString "#.")))).all id) = (tl s).all fun c => c == 35 || c == 46 := by
   rw [zr, List.map_map, List.all_map]
   refine congrArg (fun f => List.all (tl s) f) (funext fun c => ?_)
   show inS ⟨#[c]⟩ (Str.ofString "#.") = _
   rw [qap]
   have : tl (Str.ofString "#.") = [35, 46] := by rfl
   rw [this]
   by_cases h1 : c = 35
   ·subst h1; rfl
   ·by_cases h2 : c = 46
    ·subst h2; rfl
    ·simp [h1, h2]
  rw [e1, e2, e3]
 unfold zU
 refine ⟨fun _ => ⟨⟨by rw [sz]; omega, trivial⟩, fun _ => ⟨by rw [zr, List.length_map, ← len_tl, sz]; omega, trivial⟩, trivial⟩, ?_⟩
 rw [e]
 exact hk
theorem VH (h : RowsP N rows) (hN : N ≤ 100000) {kr : Exc ⊕ (List (Int × Int)) → Prop} (h1 : ∀ f, jY rows = some f → kr (.inl ("BadRow", [("line", f)]))) (h2 : jY rows = none → ∀ v, kr (.inr v)) : jQ (Txt.join nlS rows) kr := by
 have tl0 := h.txlen
 have hm := h.many
 unfold jQ
 refine ⟨⟨h.ok, VB⟩, ?_⟩
 by_cases he : Txt.join nlS rows = Str.ofString ""
 ·exact jW (decide_eq_true he) (h2 (by unfold jY; rw [if_pos he]) _)
 refine jX (decide_eq_false he) ⟨⟨by rfl, by rw [sz]; omega⟩, ?_⟩
 have ef : jY rows = fb (okP (rows.headD (Str.ofString "")).length) rows 0 := by unfold jY; rw [if_neg he]
 rw [h.split]
 simp only [lt]
 have hh := h.len _ (Ju h.ne)
 refine vg (okP (rows.headD (Str.ofString "")).length) (fun pre (found : List (Int × Int)) => found.length ≤ pre.length * N) (by simp) ?_ ?_ ?_
 ·intro pre a s kk ha hp hI hok hkk
  have la := h.len _ ha
  have le : (yN (sgns a.2)).length = a.2.length := by rw [qay, zr, List.length_map, ← len_tl]
  refine ⟨_, at0 h.ne, by rw [sz]; omega, ZX (by omega) ?_⟩
  rw [hok]
  have lf : ((((yN (sgns a.2)).filter (fun a11 => (decide (a11.2 = (Str.ofString "#"))))).map (fun a11 => (a11.1, (((rows.length : Int) - 1) - a.1))))).length ≤ N := by
   rw [List.length_map]
   exact Nat.le_trans (List.length_filter_le ..) (by omega)
  have hb : pre.length * N ≤ 42 * N := Nat.mul_le_mul_right _ (by omega)
  refine jX rfl ⟨by rw [le, sz]; omega, fun b hb => ⟨⟨?_, by decide +kernel⟩, trivial⟩, by rw [sz]; omega, hkk _ ?_⟩
  ·have : b.2 ∈ (yN (sgns a.2)).map (·.2) := List.mem_map.mpr ⟨b, hb, rfl⟩
   rw [QW, zr] at this
   obtain ⟨c, hc, e⟩ := List.mem_map.mp this
   rw [← e]
   exact uP fun d hd => by
    have : d = c := by simpa [tl] using hd
    have := h.cod _ ha c hc
    omega
  ·rw [List.length_append, List.length_append, Nat.add_mul, List.length_singleton, Nat.one_mul]
   omega
 ·intro a s kk ha hf hbad
  have la := h.len _ ha
  refine ⟨_, at0 h.ne, by rw [sz]; omega, ZX (by omega) ?_⟩
  rw [hbad]
  exact jW rfl (h1 _ (by rw [ef]; exact hf))
 ·intro hf s
  exact h2 (by rw [ef]; exact hf) _
theorem Y5 (h : RowsP N rows) (hN : N ≤ 100000) {kr : Option Int → Prop} (hk : kr (jY rows)) : wN (Txt.join nlS rows) kr := by
 have tl0 := h.txlen
 have hm := h.many
 unfold wN
 refine ⟨⟨h.ok, VB⟩, ?_⟩
 by_cases he : Txt.join nlS rows = Str.ofString ""
 ·unfold jY at hk
  rw [if_pos he] at hk
  exact jW (decide_eq_true he) hk
 refine jX (decide_eq_false he) ⟨⟨by rfl, by rw [sz]; omega⟩, ?_⟩
 have ef : jY rows = fb (okP (rows.headD (Str.ofString "")).length) rows 0 := by unfold jY; rw [if_neg he]
 rw [ef] at hk
 rw [h.split]
 simp only [lt]
 have hh := h.len _ (Ju h.ne)
 have turn : ∀ (a : Int × Str), a.2 ∈ rows → ∀ (K : Bool × Unit → Prop), K ((!okP (rows.headD (Str.ofString "")).length a.2), ()) →
  (PyData.strOk a.2 = true ∧ PyData.strOk (Str.ofString "") = true) ∧ ifW (decide (a.2 = (Str.ofString ""))) (fun kk9 => kk9 (true, ())) (fun kk9 => (a.2.length ≤ sizeLine) ∧ exW (atI rows 0) fun x11 => (x11.length ≤ sizeLine) ∧
   ifW (!(decide ((a.2.length : Int) = (x11.length : Int)))) (fun kk14 => kk14 (true, ())) (fun kk14 => ((sgns a.2).length ≤ sizeLine) ∧
    (∀ sign ∈ (sgns a.2), ((PyData.strOk sign = true ∧ PyData.strOk (Str.ofString "#") = true) ∧ True) ∧ ((!(decide (sign = (Str.ofString "#")))) = true → (PyData.strOk sign = true ∧ PyData.strOk (Str.ofString ".") = true) ∧ True) ∧ True) ∧
    (eqOk ((eL D.str) ((sgns a.2).filter (fun sign => ((!(decide (sign = (Str.ofString "#")))) && (!(decide (sign = (Str.ofString ".")))))))) = true ∧ True) ∧ kk14 ((!(((sgns a.2).filter (fun sign => ((!(decide (sign = (Str.ofString "#")))) && (!(decide (sign = (Str.ofString "."))))))).isEmpty)), ())) fun (b21 : Bool × Unit) => kk9 (b21.1, ())) K := fun a ha K hK => by
  have la := h.len _ ha
  refine ⟨⟨qaL (h.cod _ ha), VB⟩, ?_⟩
  by_cases h0 : a.2 = Str.ofString ""
  ·have : okP (rows.headD (Str.ofString "")).length a.2 = false := by
    rw [← Bool.not_eq_true, Y7]
    rintro ⟨z1, z2, _⟩
    have := Jm.mpr h0
    omega
   rw [this] at hK
   exact jP (decide_eq_true h0) hK
  refine jH (decide_eq_false h0) ⟨by rw [sz]; omega, _, at0 h.ne, by rw [sz]; omega, ?_⟩
  have lpos : 0 < a.2.length := Nat.pos_of_ne_zero fun z => h0 (Jm.mp z)
  by_cases hl : a.2.length = (rows.headD (Str.ofString "")).length
  ·have oks : ∀ sg ∈ sgns a.2, PyData.strOk sg = true := fun sg hs => by
    rw [zr] at hs
    obtain ⟨c, hc, rfl⟩ := List.mem_map.mp hs
    exact uP fun d hd => by
     have : d = c := by simpa [tl] using hd
     have := h.cod _ ha c hc
     omega
   refine jH (by rw [decide_eq_true (by omega)]; rfl) ⟨by rw [zr, List.length_map, ← len_tl, sz]; omega, fun sg hs => ?_, ⟨YS fun c hc => oks c (List.mem_filter.mp hc).1, trivial⟩, ?_⟩
   ·have ok := oks sg hs
    exact ⟨⟨⟨ok, by decide +kernel⟩, trivial⟩, fun _ => ⟨⟨ok, by decide +kernel⟩, trivial⟩, trivial⟩
   ·have key : (!(((sgns a.2).filter (fun sign => ((!(decide (sign = (Str.ofString "#")))) && (!(decide (sign = (Str.ofString "."))))))).isEmpty)) = !okP (rows.headD (Str.ofString "")).length a.2 := by
     congr 1
     rw [Bool.eq_iff_iff, List.isEmpty_iff, Y7, List.filter_eq_nil_iff]
     have one : ∀ c : Nat, ((!(decide ((⟨#[c]⟩ : Str) = (Str.ofString "#")))) && (!(decide ((⟨#[c]⟩ : Str) = (Str.ofString "."))))) = true ↔ ¬ (c = 35 ∨ c = 46) := fun c => by
      have i1 : ((⟨#[c]⟩ : Str) = Str.ofString "#") ↔ c = 35 := by
       constructor
       ·intro z; have := congrArg tl z; have e : tl (Str.ofString "#") = [35] := by rfl
        rw [e] at this; simpa [tl] using this
       ·rintro rfl; exact ext_tl (by rfl)
      have i2 : ((⟨#[c]⟩ : Str) = Str.ofString ".") ↔ c = 46 := by
       constructor
       ·intro z; have := congrArg tl z; have e : tl (Str.ofString ".") = [46] := by rfl
        rw [e] at this; simpa [tl] using this
       ·rintro rfl; exact ext_tl (by rfl)
      rw [Bool.and_eq_true, Bool.not_eq_true', Bool.not_eq_true', decide_eq_false_iff_not, decide_eq_false_iff_not, i1, i2]
      omega
     constructor
     ·intro z
      refine ⟨by omega, hl, fun c hc => ?_⟩
      have := z ⟨#[c]⟩ (by rw [zr]; exact List.mem_map.mpr ⟨c, hc, rfl⟩)
      rw [one] at this
      exact Classical.not_not.mp this
     ·rintro ⟨_, _, z⟩ sg hs
      rw [zr] at hs
      obtain ⟨c, hc, rfl⟩ := List.mem_map.mp hs
      rw [one]
      exact fun y => y (z c hc)
    rw [key]
    exact hK
  ·have : okP (rows.headD (Str.ofString "")).length a.2 = false := by
    rw [← Bool.not_eq_true, Y7]
    rintro ⟨_, z2, _⟩
    exact hl z2
   rw [this] at hK
   exact jP (by rw [decide_eq_false (by omega)]; rfl) hK
 refine vg (okP (rows.headD (Str.ofString "")).length) (fun _ _ => True) trivial ?_ ?_ ?_
 ·intro pre a s kk ha hp hI hok hkk
  refine turn a ha _ ?_
  rw [hok]
  exact jX rfl (hkk _ trivial)
 ·intro a s kk ha hf hbad
  refine turn a ha _ ?_
  rw [hbad]
  exact jW rfl (by rw [hf] at hk; exact hk)
 ·intro hf s
  rw [hf] at hk
  exact hk
end
end K42
namespace K42
open PySem PySem.Spec PyProof.Rows L2 BX TX COM BC TL PySem.StrLaws
def dg (c : Nat) : Bool := decide (48 ≤ c) && decide (c ≤ 57)
theorem qaF {c : Nat} : dg c = true ↔ 48 ≤ c ∧ c ≤ 57 := by unfold dg; rw [Bool.and_eq_true, decide_eq_true_eq, decide_eq_true_eq]
def numW (s : Str) : Bool := match tl s with
 | [c] => dg c
 | [c, d] => dg c && (dg d && !decide (c = 48))
 | _ => false
theorem qcv : tl (Str.ofString "0123456789") = [48, 49, 50, 51, 52, 53, 54, 55, 56, 57] := by rfl
theorem Xj {c : Nat} : inS ⟨#[c]⟩ (Str.ofString "0123456789") = dg c := by
 rw [qap, qcv, Bool.eq_iff_iff, decide_eq_true_eq, qaF]
 simp only [List.mem_cons, List.not_mem_nil, or_false]
 omega
theorem Ze {c : Nat} : decide ((⟨#[c]⟩ : Str) = Str.ofString "0") = decide (c = 48) := by
 rw [Bool.eq_iff_iff, decide_eq_true_eq, decide_eq_true_eq]
 constructor
 ·intro z; have := congrArg tl z; have e : tl (Str.ofString "0") = [48] := by rfl
  rw [e] at this; simpa [tl] using this
 ·rintro rfl; exact ext_tl (by rfl)
theorem is_zero {s : Str} : s = Str.ofString "0" ↔ tl s = [48] := by
 constructor
 ·rintro rfl; rfl
 ·intro h; exact ext_tl (by rw [h] <;> rfl)
theorem qbc {s : Str} (h : ∀ c ∈ tl s, 32 ≤ c ∧ c ≤ 126) : ∀ sg ∈ sgns s, PyData.strOk sg = true := fun sg hs => by
 rw [zr] at hs
 obtain ⟨c, hc, rfl⟩ := List.mem_map.mp hs
 exact uP fun d hd => by
  have : d = c := by simpa [tl] using hd
  have := h c hc
  omega
theorem sg0 {s : Str} {c : Nat} {l : List Nat} (e : tl s = c :: l) : atI (sgns s) 0 = some ⟨#[c]⟩ := by
 rw [zr, e]; simp [atI, ixN]
theorem Zg {s : Str} (hl : s.length ≤ 100000) (hc : ∀ c ∈ tl s, 32 ≤ c ∧ c ≤ 126) {kr : Bool → Prop} (hk : kr (numW s)) : zV s kr := by
 have ls := len_tl s
 have all : ((sgns s).map (fun sign => (inS sign uh))).all id = (tl s).all dg := by
  rw [zr, List.map_map, List.all_map]
  exact congrArg (fun f => List.all (tl s) f) (funext fun c => Xj)
 unfold zV
 refine ⟨⟨by rw [sz]; omega, trivial⟩, fun _ => ⟨by rw [zr, List.length_map, ← len_tl, sz]; omega, trivial⟩, ?_⟩
 rw [all]
 match e : tl s with
 | [] =>
   have : numW s = false := by unfold numW; rw [e]
   rw [this] at hk
   rw [e] at ls
   exact jW (by simp [ls]) hk
 | [c] =>
   have h1 : s.length = 1 := by rw [ls, e]; rfl
   have en : numW s = dg c := by unfold numW; rw [e]
   rw [en] at hk
   cases hd : dg c with
   | false => rw [hd] at hk; exact jW (by simp [hd]) hk
   | true =>
     rw [hd] at hk
     exact jX (by simp [hd, h1]) ⟨by rw [sz]; omega, jP (decide_eq_true (by omega)) hk⟩
 | [c, d] =>
   have h1 : s.length = 2 := by rw [ls, e]; rfl
   have en : numW s = (dg c && (dg d && !decide (c = 48))) := by unfold numW; rw [e]
   rw [en] at hk
   cases hd : dg c with
   | false => rw [hd] at hk; exact jW (by simp [hd]) hk
   | true =>
     cases hd2 : dg d with
     | false => rw [hd, hd2] at hk; exact jW (by simp [hd, hd2]) hk
     | true =>
       rw [hd, hd2, Bool.true_and, Bool.true_and] at hk
       refine jX (by simp [hd, hd2, h1]) ⟨by rw [sz]; omega, jH (decide_eq_false (by omega)) ⟨by rw [sz]; omega, _, sg0 e, ⟨qbc hc _ (by rw [zr, e]; simp), by decide +kernel⟩, ?_⟩⟩
       rw [Ze]
       exact hk
 | c :: d :: x :: l =>
   have : numW s = false := by unfold numW; rw [e]
   rw [this] at hk
   have h1 : 3 ≤ s.length := by rw [ls, e]; simp
   refine jW ?_ hk
   have : decide ((s.length : Int) ≤ 2) = false := decide_eq_false (by omega)
   rw [this]; simp
theorem Z8 {s : Str} (hl : s.length ≤ 100000) (hc : ∀ c ∈ tl s, 32 ≤ c ∧ c ≤ 126) {kr : Bool → Prop} (hk : kr (numW s)) : wY s kr := by
 have ls := len_tl s
 have all : ((sgns s).filter (fun sign => (!inS sign (Str.ofString "0123456789")))).isEmpty = (tl s).all dg := by
  rw [Bool.eq_iff_iff, List.isEmpty_iff, List.filter_eq_nil_iff, List.all_eq_true]
  constructor
  ·intro h c hc
   have := h ⟨#[c]⟩ (by rw [zr]; exact List.mem_map.mpr ⟨c, hc, rfl⟩)
   rw [Xj] at this
   simpa using this
  ·intro h sg hs
   rw [zr] at hs
   obtain ⟨c, hc, rfl⟩ := List.mem_map.mp hs
   rw [Xj, h c hc]; simp
 unfold wY
 simp only [lt]
 refine ⟨by rw [zr, List.length_map, ← len_tl, sz]; omega, ⟨YS fun c h => qbc hc c (List.mem_filter.mp h).1, trivial⟩, ?_⟩
 rw [all]
 have zok : PyData.strOk s = true := qaL hc
 have zz : PyData.strOk (Str.ofString "0") = true := by decide +kernel
 match e : tl s with
 | [] =>
   have : numW s = false := by unfold numW; rw [e]
   rw [this] at hk
   have h1 : s.length = 0 := by rw [ls, e]; rfl
   exact jP (by simp) ⟨by rw [sz]; omega, jH (by simp [h1]) hk⟩
 | [c] =>
   have h1 : s.length = 1 := by rw [ls, e]; rfl
   have en : numW s = dg c := by unfold numW; rw [e]
   rw [en] at hk
   cases hd : dg c with
   | false => rw [hd] at hk; exact jH (by simp [hd]) hk
   | true =>
     rw [hd] at hk
     refine jP (by simp [hd]) ⟨by rw [sz]; omega, jP (by simp [h1]) ⟨⟨zok, zz⟩, ?_⟩⟩
     by_cases h48 : c = 48
     ·exact jP (decide_eq_true (is_zero.mpr (by rw [e, h48]))) hk
     ·refine jH (decide_eq_false fun z => h48 (by have := is_zero.mp z; rw [e] at this; simpa using this)) ⟨by rw [sz]; omega, _, sg0 e, ⟨qbc hc _ (by rw [zr, e]; simp), zz⟩, ?_⟩
      rw [Ze, decide_eq_false h48]
      exact hk
 | [c, d] =>
   have h1 : s.length = 2 := by rw [ls, e]; rfl
   have en : numW s = (dg c && (dg d && !decide (c = 48))) := by unfold numW; rw [e]
   rw [en] at hk
   cases hd : dg c with
   | false => rw [hd] at hk; exact jH (by simp [hd]) hk
   | true =>
     cases hd2 : dg d with
     | false => rw [hd, hd2] at hk; exact jH (by simp [hd, hd2]) hk
     | true =>
       rw [hd, hd2, Bool.true_and, Bool.true_and] at hk
       refine jP (by simp [hd, hd2]) ⟨by rw [sz]; omega, jP (by simp [h1]) ⟨⟨zok, zz⟩, ?_⟩⟩
       refine jH (decide_eq_false fun z => by have := is_zero.mp z; rw [e] at this; simp at this) ⟨by rw [sz]; omega, _, sg0 e, ⟨qbc hc _ (by rw [zr, e]; simp), zz⟩, ?_⟩
       rw [Ze]
       exact hk
 | c :: d :: x :: l =>
   have : numW s = false := by unfold numW; rw [e]
   rw [this] at hk
   have h1 : 3 ≤ s.length := by rw [ls, e]; simp
   cases hd : (c :: d :: x :: l).all dg with
   | false => exact jH rfl hk
   | true =>
     refine jP rfl ⟨by rw [sz]; omega, jH ?_ hk⟩
     have : decide ((s.length : Int) ≤ 2) = false := decide_eq_false (by omega)
     rw [this]; simp
theorem qcS {s : Str} (h : numW s = true) : ∃ n : Nat, n < 100 ∧ s = num (n : Int) ∧ (n = 0 ↔ s = Str.ofString "0") := by
 unfold numW at h
 match e : tl s with
 | [] => rw [e] at h; cases h
 | [c] =>
   rw [e] at h
   have hc := qaF.mp h
   refine ⟨c - 48, by omega, ext_tl ?_, ?_⟩
   ·rw [e, tl_num, numL_lt (by omega)]
    congr 1; omega
   ·rw [is_zero, e]
    constructor
    ·intro z; congr 1; omega
    ·intro z; simp at z; omega
 | [c, d] =>
   rw [e] at h
   simp only [Bool.and_eq_true, qaF, Bool.not_eq_true', decide_eq_false_iff_not] at h
   obtain ⟨h1, h2, h3⟩ := h
   refine ⟨(c - 48) * 10 + (d - 48), by omega, ext_tl ?_, ?_⟩
   ·rw [e, tl_num, numL_step (by omega), numL_lt (by omega)]
    have e1 : ((c - 48) * 10 + (d - 48)) / 10 = c - 48 := by omega
    have e2 : ((c - 48) * 10 + (d - 48)) % 10 = d - 48 := by omega
    rw [e1, e2]
    show [c, d] = [48 + (c - 48), 48 + (d - 48)]
    congr 1
    ·omega
    ·congr 1; omega
   ·rw [is_zero, e]
    constructor
    ·intro z; omega
    ·intro z; simp at z
 | c :: d :: x :: l => rw [e] at h; cases h
theorem Xc {s : Str} (h : numW s = true) : ∃ n : Nat, intText? s = some (n : Int) ∧ (n = 0 ↔ s = Str.ofString "0") ∧ s.length ≤ 2 := by
 obtain ⟨n, hn, rfl, h0⟩ := qcS h
 have l2 := len_num hn
 refine ⟨n, int_num ?_, h0, l2⟩
 rw [len_tl, tl_num] at l2
 omega
def okW (l : List Str) : Bool := decide (l.length = 4) && (l.all numW && !memB (Str.ofString "0") (cutA l (some 2) none))
def okB (s : Str) : Bool := okW (Txt.split s blS)
theorem qae {s : Str} {l : List Str} : memB s l = true ↔ s ∈ l := by unfold memB; simp
theorem Yo {s : Str} (hl : s.length ≤ 100000) (hc : ∀ c ∈ tl s, 32 ≤ c ∧ c ≤ 126) {kr : Option (List Int) → Prop} (h1 : okB s = true → ∀ b, kr (some b)) (h2 : okB s = false → kr none) : uN s kr := by
 obtain ⟨l, e, ne, hm, hn, hw⟩ := uD s
 unfold okB at h1 h2
 rw [e] at h1 h2
 unfold uN
 refine ⟨⟨by rfl, by rw [sz]; omega⟩, ?_⟩
 simp only [lt]
 rw [e]
 by_cases h4 : l.length = 4
 ·have e4 : (!(decide ((l.length : Int) = 4))) = false := by rw [decide_eq_true (by omega)]; rfl
  refine jH e4 ⟨by rw [sz]; omega, Xi numW (fun w hw' k hk => Zg (by have := hw w hw'; omega) (fun c hc' => hc c (hm w hw' c hc')) hk) ?_⟩
  have ea : ((l.map numW).all id) = l.all numW := by rw [List.all_map]; rfl
  rw [ea]
  cases ha : l.all numW with
  | false =>
    exact jW rfl (h2 (by unfold okW; rw [ha]; simp))
  | true =>
    rw [List.all_eq_true] at ha
    refine jX rfl ⟨by rw [sz]; omega, Xi (fun w => (intText? w).getD 0) (fun w hw' k hk => ?_) ?_⟩
    ·obtain ⟨n, e1, _, e3⟩ := Xc (ha w hw')
     refine ⟨by omega, _, e1, ?_⟩
     rw [e1] at hk
     exact hk
    ·match l, h4 with
     | [a, b, c, d], _ =>
       obtain ⟨n, n1, n2, _⟩ := Xc (ha c (by simp))
       obtain ⟨m, m1, m2, _⟩ := Xc (ha d (by simp))
       have okv : okW [a, b, c, d] = (!(decide (n = 0)) && !(decide (m = 0))) := by
        unfold okW
        have e1 : [a, b, c, d].all numW = true := List.all_eq_true.mpr ha
        have e2 : cutA [a, b, c, d] (some 2) none = [c, d] := by rfl
        rw [e1, e2]
        have e3 : memB (Str.ofString "0") [c, d] = (decide (n = 0) || decide (m = 0)) := by
         rw [Bool.eq_iff_iff, qae, Bool.or_eq_true, decide_eq_true_eq, decide_eq_true_eq, n2, m2]
         simp only [List.mem_cons, List.not_mem_nil, or_false]
         exact ⟨fun h => h.imp Eq.symm Eq.symm, fun h => h.imp Eq.symm Eq.symm⟩
        rw [e3]; simp
       rw [okv] at h1 h2
       have b2 : atI ([a, b, c, d].map fun w => (intText? w).getD 0) 2 = some (n : Int) := by
        show some ((intText? c).getD 0) = _
        rw [n1]; rfl
       have b3 : atI ([a, b, c, d].map fun w => (intText? w).getD 0) 3 = some (m : Int) := by
        show some ((intText? d).getD 0) = _
        rw [m1]; rfl
       refine ⟨_, b2, ?_⟩
       by_cases hn0 : n = 0
       ·refine jH (decide_eq_false (by omega)) (jX rfl (h2 (by rw [decide_eq_true hn0]; rfl)))
       ·refine jP (decide_eq_true (by omega)) ⟨_, b3, ?_⟩
        by_cases hm0 : m = 0
        ·exact jX (decide_eq_false (by omega)) (h2 (by rw [decide_eq_false hn0, decide_eq_true hm0]; rfl))
        ·exact jW (decide_eq_true (by omega)) (h1 (by rw [decide_eq_false hn0, decide_eq_false hm0]; rfl) _)
 ·refine jP (by rw [decide_eq_false (by omega)]; rfl) (jW rfl (h2 ?_))
  unfold okW
  rw [decide_eq_false h4]; rfl
def jZ (rows : List Str) : Option Int := if Txt.join nlS rows = Str.ofString "" then none else fb okB rows 0
section
variable {N : Nat} {rows : List Str}
theorem U3 (h : RowsP N rows) (hN : N ≤ 100000) {kr : Exc ⊕ (List (List Int)) → Prop} (h1 : ∀ f, jZ rows = some f → kr (.inl ("BadRow", [("line", f)]))) (h2 : jZ rows = none → ∀ v, kr (.inr v)) : je (Txt.join nlS rows) kr := by
 have tl0 := h.txlen
 have hm := h.many
 unfold je
 refine ⟨⟨h.ok, VB⟩, ?_⟩
 by_cases he : Txt.join nlS rows = Str.ofString ""
 ·exact jW (decide_eq_true he) (h2 (by unfold jZ; rw [if_pos he]) _)
 have ef : jZ rows = fb okB rows 0 := by unfold jZ; rw [if_neg he]
 refine jX (decide_eq_false he) ?_
 simp only [lt]
 refine ⟨⟨by rfl, by rw [sz]; omega⟩, ?_⟩
 rw [h.split]
 refine vg okB (fun pre (found : List (List Int)) => found.length = pre.length) rfl ?_ ?_ ?_
 ·intro pre a s kk ha hp hI hok hkk
  have la := h.len _ ha
  refine Yo (by omega) (h.cod _ ha) (fun _ b => ?_) (fun z => by rw [hok] at z; cases z)
  exact jX rfl ⟨_, rfl, by rw [sz]; omega, hkk _ (by rw [List.length_append, List.length_append, hI]; rfl)⟩
 ·intro a s kk ha hf hbad
  have la := h.len _ ha
  refine Yo (by omega) (h.cod _ ha) (fun z => by rw [hbad] at z; cases z) (fun _ => ?_)
  exact jW rfl (h1 _ (by rw [ef]; exact hf))
 ·intro hf s
  exact h2 (by rw [ef]; exact hf) _
theorem Xx (h : RowsP N rows) (hN : N ≤ 100000) {kr : Option Int → Prop} (hk : kr (jZ rows)) : zf (Txt.join nlS rows) kr := by
 have tl0 := h.txlen
 have hm := h.many
 unfold zf
 refine ⟨⟨h.ok, VB⟩, ?_⟩
 by_cases he : Txt.join nlS rows = Str.ofString ""
 ·unfold jZ at hk
  rw [if_pos he] at hk
  exact jW (decide_eq_true he) hk
 have ef : jZ rows = fb okB rows 0 := by unfold jZ; rw [if_neg he]
 rw [ef] at hk
 refine jX (decide_eq_false he) ⟨⟨by rfl, by rw [sz]; omega⟩, ?_⟩
 rw [h.split]
 simp only [lt]
 have turn : ∀ (a : Int × Str), a.2 ∈ rows → ∀ (K : Bool × Unit → Prop), K ((!okB a.2), ()) →
  (((Str.ofString " ").length == 0) = false ∧ a.2.length + 2 ≤ sizeLine) ∧ ifW (!(decide (((Txt.split a.2 (Str.ofString " ")).length : Int) = 4))) (fun kk10 => kk10 (true, ())) (fun kk10 => ((Txt.split a.2 (Str.ofString " ")).length ≤ sizeLine) ∧
    lcW (Txt.split a.2 (Str.ofString " ")) ([] : List Bool) () (fun word (s : Unit) w => wY word fun t12 => w (some t12) ()) fun l13 s14 =>
    ifW (!(l13.all id)) (fun kk15 => kk15 (true, ())) (fun kk15 => (PyData.strOk (Str.ofString "0") = true ∧ ∀ y ∈ (cutA (Txt.split a.2 (Str.ofString " ")) (some 2) none), PyData.strOk y = true) ∧
     kk15 ((memB (Str.ofString "0") (cutA (Txt.split a.2 (Str.ofString " ")) (some 2) none)), ())) fun (b17 : Bool × Unit) => kk10 (b17.1, ())) K := fun a ha K hK => by
  have la := h.len _ ha
  obtain ⟨l, e, ne, hmm, hn, hw⟩ := uD a.2
  unfold okB at hK
  rw [e] at hK
  have hcl : ∀ w ∈ l, ∀ c ∈ tl w, 32 ≤ c ∧ c ≤ 126 := fun w hw' c hc => h.cod _ ha c (hmm w hw' c hc)
  refine ⟨⟨by rfl, by rw [sz]; omega⟩, ?_⟩
  rw [e]
  by_cases h4 : l.length = 4
  ·refine jH (by rw [decide_eq_true (by omega)]; rfl) ⟨by rw [sz]; omega, Xi numW (fun w hw' k hk => Z8 (by have := hw w hw'; omega) (hcl w hw') hk) ?_⟩
   have ea : ((l.map numW).all id) = l.all numW := by rw [List.all_map]; rfl
   rw [ea]
   unfold okW at hK
   rw [decide_eq_true h4, Bool.true_and] at hK
   cases hal : l.all numW with
   | false => rw [hal] at hK; exact jP rfl hK
   | true =>
     rw [hal, Bool.true_and, Bool.not_not] at hK
     exact jH rfl ⟨⟨by decide +kernel, fun w hw' => qaL (hcl w (List.mem_of_mem_drop (List.mem_of_mem_take hw')))⟩, hK⟩
  ·unfold okW at hK
   rw [decide_eq_false h4] at hK
   exact jP (by rw [decide_eq_false (by omega)]; rfl) hK
 refine vg okB (fun _ _ => True) trivial ?_ ?_ ?_
 ·intro pre a s kk ha hp hI hok hkk
  refine turn a ha _ ?_
  rw [hok]
  exact jX rfl (hkk _ trivial)
 ·intro a s kk ha hf hbad
  refine turn a ha _ ?_
  rw [hbad]
  exact jW rfl (by rw [hf] at hk; exact hk)
 ·intro hf s
  rw [hf] at hk
  exact hk
end
end K42
namespace K42
open PySem PySem.Spec PyProof.Rows L2 BX TX COM BC TL PySem.StrLaws
structure RwP (N : Nat) (s : Str) : Prop where
 len : s.length ≤ N
 cod : ∀ c ∈ tl s, 32 ≤ c ∧ c ≤ 126
theorem RwP.up {N M : Nat} {s : Str} (h : RwP N s) (hn : N ≤ M) : RwP M s := ⟨Nat.le_trans h.len hn, h.cod⟩
theorem RwP.app {N M : Nat} {s t : Str} (h : RwP N s) (k : RwP M t) : RwP (N + M) (s ++ t) := by
 refine ⟨by rw [len_app]; have := h.len; have := k.len; omega, fun c hc => ?_⟩
 rw [tl_append, List.mem_append] at hc
 exact hc.elim (h.cod c) (k.cod c)
theorem QG {N : Nat} {rows : List Str} (h : RowsP N rows) {s : Str} (hs : s ∈ rows) : RwP N s := ⟨h.len s hs, h.cod s hs⟩
theorem Q9 {α : Type} {l : List α} {i : Int} (h1 : 0 ≤ i) (h2 : i < l.length) : ∃ a, atI l i = some a ∧ a ∈ l := by
 have hi : i.toNat < l.length := by omega
 refine ⟨l[i.toNat], ?_, List.getElem_mem hi⟩
 unfold atI
 have : ixN l.length i = some i.toNat := by
  unfold ixN
  rw [if_pos h1, if_pos (by omega)]
 rw [this]
 show l[i.toNat]? = _
 rw [List.getElem?_eq_getElem hi]
theorem Yk {α : Type} (l : List α) (k : Nat) : cutA l none (some (k : Int)) = l.take k := by
 unfold cutA
 rw [HT.sIx_none, HT.sIx_nat, List.drop_zero, Nat.sub_zero]
 rw [List.take_eq_take_iff]
 omega
theorem uf {α : Type} (l : List α) (k : Nat) : cutA l (some (k : Int)) none = l.drop k := by
 unfold cutA
 rw [HT.sIx_none, HT.sIx_nat]
 have : l.drop (min k l.length) = l.drop k := by
  by_cases h : k ≤ l.length
  ·rw [Nat.min_eq_left h]
  ·rw [Nat.min_eq_right (by omega), List.drop_of_length_le (Nat.le_refl _), List.drop_of_length_le (by omega)]
 rw [this, List.take_of_length_le]
 rw [List.length_drop]; omega
theorem cut_mem {α : Type} {l : List α} {lo hi : Option Int} {x : α} (h : x ∈ cutA l lo hi) : x ∈ l := List.mem_of_mem_drop (List.mem_of_mem_take h)
theorem Zv {α : Type} {l : List α} {lo hi : Option Int} : (cutA l lo hi).length ≤ l.length := by
 unfold cutA
 rw [List.length_take, List.length_drop]
 omega
theorem Q5 (s : Str) (lo hi : Option Int) : tl (cutS s lo hi) = cutA (tl s) lo hi := by
 unfold cutS cutA tl
 rfl
theorem Q6 {N : Nat} {s : Str} (h : RwP N s) (lo hi : Option Int) : RwP N (cutS s lo hi) := by
 refine ⟨?_, fun c hc => ?_⟩
 ·rw [len_tl, Q5]
  have := Zv (l := tl s) (lo := lo) (hi := hi)
  have := h.len
  rw [len_tl] at this
  omega
 ·rw [Q5] at hc
  exact h.cod c (cut_mem hc)
def plain (s : Str) : Bool := (tl s).all fun c => decide (32 ≤ c) && decide (c ≤ 126)
theorem ZW {s : Str} (h : plain s = true) : ∀ c ∈ tl s, 32 ≤ c ∧ c ≤ 126 := fun c hc => by
 unfold plain at h
 rw [List.all_eq_true] at h
 have := h c hc
 rw [Bool.and_eq_true, decide_eq_true_eq, decide_eq_true_eq] at this
 exact this
theorem WF {N : Nat} {s : Str} (h : (decide (s.length ≤ N) && plain s) = true) : RwP N s := by
 rw [Bool.and_eq_true, decide_eq_true_eq] at h
 exact ⟨h.1, ZW h.2⟩
theorem Xh {N : Nat} {l : List Str} (h : (l.all fun s => decide (s.length ≤ N) && plain s) = true) : ∀ s ∈ l, RwP N s := fun s hs => WF (List.all_eq_true.mp h s hs)
theorem WW {t : Int × Int} (ht : TpOk t) {kr : Str × (Int × Int) → Prop} (hk : ∀ s t', RwP 1 s → TpOk t' → kr (s, t')) : zq t kr := by
 unfold zq
 simp only [lt]
 have l1 : (Str.ofString " !\"#$&'()*+,-./0123456789:;<=>?@ABCDEFGHIJKLMNOPQRSTUVWXYZ").length = 58 := by rfl
 have l2 : (Str.ofString "[\\]^_`abcdefghijklmnopqrstuvwxyz{|}~").length = 36 := by rfl
 have pl : plain ((Str.ofString " !\"#$&'()*+,-./0123456789:;<=>?@ABCDEFGHIJKLMNOPQRSTUVWXYZ") ++ (Str.ofString "[\\]^_`abcdefghijklmnopqrstuvwxyz{|}~")) = true := by decide +kernel
 have ll : ((Str.ofString " !\"#$&'()*+,-./0123456789:;<=>?@ABCDEFGHIJKLMNOPQRSTUVWXYZ") ++ (Str.ofString "[\\]^_`abcdefghijklmnopqrstuvwxyz{|}~")).length = 94 := by rw [len_app, l1, l2]
 refine ⟨by rw [l1, l2, sz]; decide, by rw [ll, sz]; decide, ?_⟩
 generalize (Str.ofString " !\"#$&'()*+,-./0123456789:;<=>?@ABCDEFGHIJKLMNOPQRSTUVWXYZ") ++ (Str.ofString "[\\]^_`abcdefghijklmnopqrstuvwxyz{|}~") = S at pl ll ⊢
 refine yC ht (by omega) (by omega) fun i t' h0 h1 h2 => ⟨by rw [ll, sz]; decide, ?_⟩
 obtain ⟨a, ha, hm⟩ := Q9 (l := sgns S) h0 (by rw [zr, List.length_map, ← len_tl]; exact h1)
 refine ⟨a, ha, hk a t' ?_ h2⟩
 rw [zr] at hm
 obtain ⟨c, hc, rfl⟩ := List.mem_map.mp hm
 exact ⟨by rw [len_tl]; simp [tl], fun d hd => by
  have : d = c := by simpa [tl] using hd
  rw [this]; exact ZW pl c hc⟩
theorem qbN {N M : Nat} {rows : List Str} (h : RowsP N rows) (hM : N ≤ M) {k : Nat} (hk : k < rows.length) {x : Str} (hx : RwP M x) :
 RowsP M ((cutA rows none (some (k : Int)) ++ [x]) ++ cutA rows (some ((k : Int) + 1)) none) ∧ ((cutA rows none (some (k : Int)) ++ [x]) ++ cutA rows (some ((k : Int) + 1)) none).length = rows.length := by
 have e : ((k : Int) + 1) = ((k + 1 : Nat) : Int) := rfl
 rw [e, Yk, uf]
 have hl : ((rows.take k ++ [x]) ++ rows.drop (k + 1)).length = rows.length := by
  rw [List.length_append, List.length_append, List.length_take, List.length_drop, List.length_singleton]; omega
 have hm : ∀ s ∈ (rows.take k ++ [x]) ++ rows.drop (k + 1), RwP M s := fun s hs => by
  rw [List.mem_append, List.mem_append, List.mem_singleton] at hs
  rcases hs with (hs | rfl) | hs
  ·exact (QG h (List.mem_of_mem_take hs)).up hM
  ·exact hx
  ·exact (QG h (List.mem_of_mem_drop hs)).up hM
 refine ⟨⟨by simp, by rw [hl]; exact h.many, fun s hs => (hm s hs).len, fun s hs => (hm s hs).cod⟩, hl⟩
theorem Zb {rows : List Str} (h : rows.length ≤ 42) {i j : Int} {x : Str} : (cutA rows none (some i)).length + [x].length ≤ sizeLine ∧ ((cutA rows none (some i)) ++ [x]).length + (cutA rows (some j) none).length ≤ sizeLine := by
 have a := Zv (l := rows) (lo := none) (hi := some i)
 have b := Zv (l := rows) (lo := some j) (hi := none)
 rw [List.length_append, sz]
 simp only [List.length_singleton]
 omega
theorem WR {N : Nat} {rows : List Str} {t : Int × Int} (h : RowsP N rows) (hN : N ≤ 1000) (ht : TpOk t) {kr : List Str × (Int × Int) → Prop} (hk : ∀ R t', RowsP (N + 1) R → R.length = rows.length → TpOk t' → kr (R, t')) : wD t rows kr := by
 have hm := h.many
 have hp := List.length_pos_iff.mpr h.ne
 unfold wD
 refine yC ht (by omega) (by omega) fun i t1 i0 i1 ht1 => ?_
 obtain ⟨x, hx, hxm⟩ := Q9 i0 i1
 have hxp := QG h hxm
 have hxl := hxp.len
 refine ⟨x, hx, by rw [sz]; omega, yC ht1 (by omega) (by omega) fun j t2 j0 j1 ht2 => yC ht2 (by decide) (by decide) fun a t3 a0 a1 ht3 => ?_⟩
 obtain ⟨y, hy, hym⟩ := Q9 (l := [(Str.ofString "+"), (Str.ofString " "), (Str.ofString "0"), (Str.ofString ":"), (Str.ofString ","), (Str.ofString "#"), (Str.ofString ".")]) a0 a1
 have hyp : RwP 1 y := Xh (by decide +kernel) y hym
 refine ⟨y, hy, WW ht3 fun z t4 hz ht4 => yC ht4 (by decide) (by decide) fun b t5 b0 b1 ht5 => ?_⟩
 obtain ⟨u, hu, hum⟩ := Q9 (l := [y, z]) b0 b1
 have hup : RwP 1 u := by
  rcases List.mem_cons.mp hum with rfl | hum
  ·exact hyp
  ·rw [List.mem_singleton.mp hum]; exact hz
 have hul := hup.len
 have c1 := Q6 hxp none (some j)
 have c2 := Q6 hxp (some (j + 1)) none
 have c3 := Q6 hxp (some j) none
 have l1 := c1.len; have l2 := c2.len; have l3 := c3.len
 have d1 : (Str.ofString ".").length = 1 := by rfl
 have d2 : (Str.ofString "#").length = 1 := by rfl
 have d3 : (Str.ofString " ").length = 1 := by rfl
 simp only [lt]
 refine ⟨u, hu, by rw [sz]; omega, by rw [sz]; omega, by rw [sz]; omega, by rw [len_app, sz]; omega, by rw [sz]; omega, by rw [sz]; omega, by rw [sz]; omega, by rw [len_app, sz]; omega, by rw [sz]; omega, by rw [d1, sz]; omega, by rw [d2, sz]; omega, by rw [d3, sz]; omega, ?_⟩
 obtain ⟨jn, rfl⟩ : ∃ n : Nat, j = (n : Int) := ⟨j.toNat, by omega⟩
 have around : (cutS x none (some (jn : Int))).length + (cutS x (some (jn : Int)) none).length ≤ x.length ∧ (cutS x none (some (jn : Int))).length + (cutS x (some ((jn : Int) + 1)) none).length ≤ x.length := by
  have e : ((jn : Int) + 1) = ((jn + 1 : Nat) : Int) := rfl
  rw [len_tl, len_tl, len_tl, len_tl, Q5, Q5, e, Q5, Yk, uf, uf, List.length_take, List.length_drop, List.length_drop]
  omega
 have seven : ∀ s ∈ [(((cutS x none (some (jn : Int))) ++ u) ++ (cutS x (some ((jn : Int) + 1)) none)), (((cutS x none (some (jn : Int))) ++ u) ++ (cutS x (some (jn : Int)) none)), (cutS x none (some (-1))), (x ++ (Str.ofString ".")), (x ++ (Str.ofString "#")), (Str.ofString ""), ((Str.ofString " ") ++ x)], RwP (N + 1) s := fun s hs => by
  simp only [List.mem_cons, List.not_mem_nil, or_false] at hs
  rcases hs with rfl | rfl | rfl | rfl | rfl | rfl | rfl
  ·exact ⟨by rw [len_app, len_app]; omega, ((c1.app hup).app c2).cod⟩
  ·exact ⟨by rw [len_app, len_app]; omega, ((c1.app hup).app c3).cod⟩
  ·exact (Q6 hxp none (some (-1))).up (by omega)
  ·exact hxp.app (WF (by decide +kernel))
  ·exact hxp.app (WF (by decide +kernel))
  ·exact ⟨Nat.zero_le _, fun c hc => by cases (show c ∈ ([] : List Nat) from hc)⟩
  ·rw [Nat.add_comm]; exact RwP.app (WF (by decide +kernel)) hxp
 refine yC ht5 (by decide) (by decide) fun e t6 e0 e1 ht6 => ?_
 obtain ⟨v, hv, hvm⟩ := Q9 (l := [(((cutS x none (some (jn : Int))) ++ u) ++ (cutS x (some ((jn : Int) + 1)) none)), (((cutS x none (some (jn : Int))) ++ u) ++ (cutS x (some (jn : Int)) none)), (cutS x none (some (-1))), (x ++ (Str.ofString ".")), (x ++ (Str.ofString "#")), (Str.ofString ""), ((Str.ofString " ") ++ x)]) e0 e1
 obtain ⟨kn, rfl⟩ : ∃ n : Nat, i = (n : Int) := ⟨i.toNat, by omega⟩
 obtain ⟨P, L⟩ := qbN h (Nat.le_succ N) (k := kn) (by omega) (seven v hvm)
 exact ⟨v, hv, (Zb (j := 0) hm).1, (Zb hm).2, hk _ _ P L ht6⟩
theorem WT {N : Nat} {rows : List Str} {t : Int × Int} (h : RowsP N rows) (hN : N ≤ 1000) (ht : TpOk t) {kr : List Str × (Int × Int) → Prop} (hk : ∀ R t', RowsP ((N + 2) * (N + 4)) R → R.length = rows.length → TpOk t' → kr (R, t')) : wR t rows kr := by
 have hm := h.many
 have hp := List.length_pos_iff.mpr h.ne
 unfold wR
 refine yC ht (by omega) (by omega) fun i t1 i0 i1 ht1 => ?_
 obtain ⟨x, hx, hxm⟩ := Q9 i0 i1
 have hxp := QG h hxm
 have hxl := hxp.len
 obtain ⟨l, e, ne, hmm, hn, hw⟩ := uD x
 refine ⟨x, hx, ⟨by rfl, by rw [sz]; omega⟩, ?_⟩
 simp only [lt]
 rw [e]
 have hlp := List.length_pos_iff.mpr ne
 have hwp : ∀ w ∈ l, RwP (N + 3) w := fun w hw' => ⟨by have := hw w hw'; omega, fun c hc => hxp.cod c (hmm w hw' c hc)⟩
 refine yC ht1 (by omega) (by omega) fun j t2 j0 j1 ht2 => yC ht2 (by decide) (by decide) fun a t3 a0 a1 ht3 => ?_
 obtain ⟨y, hy, hym⟩ := Q9 (l := [(Str.ofString ""), (Str.ofString "00"), (Str.ofString "0"), (Str.ofString "07"), (Str.ofString "100"), (Str.ofString "-1"), (Str.ofString "+1"), (Str.ofString "1."), (Str.ofString "a"), (Str.ofString "#"), (Str.ofString "1_0"), (Str.ofString "9"), (Str.ofString "99"), (Str.ofString "40"), (Str.ofString "0")]) a0 a1
 have hyp : RwP 3 y := Xh (by decide +kernel) y hym
 refine ⟨y, hy, yC ht3 (by decide) (by decide) fun b t4 b0 b1 ht4 => ?_⟩
 have one : (Str.ofString "1").length = 1 := by rfl
 have p1 : RwP 1 (Str.ofString "1") := WF (by decide +kernel)
 have p0 : RwP (N + 3) (Str.ofString "0") := (WF (N := 1) (by decide +kernel)).up (by omega)
 have pe : RwP (N + 3) (Str.ofString "") := ⟨Nat.zero_le _, fun c hc => by cases (show c ∈ ([] : List Nat) from hc)⟩
 have go : ∀ (o : Str) (t5 : Int × Int), RwP (N + 3) o → TpOk t5 → (fun (s10 : ((Int × Int) × Str)) =>
  ((cutA l none (some j)).length + [s10.2].length ≤ sizeLine) ∧ (((cutA l none (some j)) ++ [s10.2]).length + (cutA l (some (j + 1)) none).length ≤ sizeLine) ∧ ((cutA l none (some j)).length + [s10.2].length ≤ sizeLine) ∧ (((cutA l none (some j)) ++ [s10.2]).length + (cutA l (some j) none).length ≤ sizeLine) ∧
  ((cutA l none (some j)).length + (cutA l (some (j + 1)) none).length ≤ sizeLine) ∧ ([(Str.ofString "")].length + l.length ≤ sizeLine) ∧ (l.length + [(Str.ofString "")].length ≤ sizeLine) ∧ ((cutA l none (some 2)).length + [(Str.ofString "0")].length ≤ sizeLine) ∧
  (((cutA l none (some 2)) ++ [(Str.ofString "0")]).length + (cutA l (some 3) none).length ≤ sizeLine) ∧ ((cutA l none (some 3)).length + [(Str.ofString "0")].length ≤ sizeLine) ∧
  (([(((cutA l none (some j)) ++ [s10.2]) ++ (cutA l (some (j + 1)) none)), (((cutA l none (some j)) ++ [s10.2]) ++ (cutA l (some j) none)), ((cutA l none (some j)) ++ (cutA l (some (j + 1)) none)), ([(Str.ofString "")] ++ l)] : List (List Str)).length + [(l ++ [(Str.ofString "")]), ([] : List Str), (((cutA l none (some 2)) ++ [(Str.ofString "0")]) ++ (cutA l (some 3) none)), ((cutA l none (some 3)) ++ [(Str.ofString "0")])].length ≤ sizeLine) ∧
  qH s10.1 8 fun t33 => exW (atI (([(((cutA l none (some j)) ++ [s10.2]) ++ (cutA l (some (j + 1)) none)), (((cutA l none (some j)) ++ [s10.2]) ++ (cutA l (some j) none)), ((cutA l none (some j)) ++ (cutA l (some (j + 1)) none)), ([(Str.ofString "")] ++ l)] : List (List Str)) ++ [(l ++ [(Str.ofString "")]), ([] : List Str), (((cutA l none (some 2)) ++ [(Str.ofString "0")]) ++ (cutA l (some 3) none)), ((cutA l none (some 3)) ++ [(Str.ofString "0")])]) t33.1) fun x34 =>
   ((x34.map (·.length)).sum + x34.length * (Str.ofString " ").length ≤ 16777216) ∧ ((cutA rows none (some i)).length + [(Txt.join (Str.ofString " ") x34)].length ≤ sizeLine) ∧ (((cutA rows none (some i)) ++ [(Txt.join (Str.ofString " ") x34)]).length + (cutA rows (some (i + 1)) none).length ≤ sizeLine) ∧
   kr ((((cutA rows none (some i)) ++ [(Txt.join (Str.ofString " ") x34)]) ++ (cutA rows (some (i + 1)) none)), t33.2)) (t5, o) := fun o t5 ho ht5 => by
  have q : ∀ lo hi, (cutA l lo hi).length ≤ N + 1 := fun lo hi => by
   have := Zv (l := l) (lo := lo) (hi := hi); omega
  have q1 := q none (some j); have q2 := q (some (j + 1)) none; have q3 := q (some j) none; have q4 := q none (some 2); have q5 := q (some 3) none; have q6 := q none (some 3)
  dsimp only
  refine ⟨by rw [sz]; simp only [List.length_singleton]; omega, by rw [sz, List.length_append]; simp only [List.length_singleton]; omega, by rw [sz]; simp only [List.length_singleton]; omega, by rw [sz, List.length_append]; simp only [List.length_singleton]; omega,
   by rw [sz]; omega, by rw [sz]; simp only [List.length_singleton]; omega, by rw [sz]; simp only [List.length_singleton]; omega, by rw [sz]; simp only [List.length_singleton]; omega, by rw [sz, List.length_append]; simp only [List.length_singleton]; omega, by rw [sz]; simp only [List.length_singleton]; omega,
   by rw [sz]; simp, yC ht5 (by decide) (by decide) fun c t6 c0 c1 ht6 => ?_⟩
  obtain ⟨v, hv, hvm⟩ := Q9 (l := ([(((cutA l none (some j)) ++ [o]) ++ (cutA l (some (j + 1)) none)), (((cutA l none (some j)) ++ [o]) ++ (cutA l (some j) none)), ((cutA l none (some j)) ++ (cutA l (some (j + 1)) none)), ([(Str.ofString "")] ++ l)] : List (List Str)) ++ [(l ++ [(Str.ofString "")]), ([] : List Str), (((cutA l none (some 2)) ++ [(Str.ofString "0")]) ++ (cutA l (some 3) none)), ((cutA l none (some 3)) ++ [(Str.ofString "0")])]) c0 c1
  obtain ⟨jn, rfl⟩ : ∃ n : Nat, j = (n : Int) := ⟨j.toNat, by omega⟩
  have e1 : ((jn : Int) + 1) = ((jn + 1 : Nat) : Int) := rfl
  have vv : v.length ≤ N + 2 ∧ ∀ w ∈ v, RwP (N + 3) w := by
   rw [e1, Yk, uf, uf, show (2 : Int) = ((2 : Nat) : Int) from rfl, show (3 : Int) = ((3 : Nat) : Int) from rfl, Yk, uf, Yk] at hvm
   simp only [List.cons_append, List.nil_append, List.mem_cons, List.not_mem_nil, or_false] at hvm
   have tk : ∀ k, ∀ w ∈ l.take k, RwP (N + 3) w := fun k w hw' => hwp w (List.mem_of_mem_take hw')
   have dk : ∀ k, ∀ w ∈ l.drop k, RwP (N + 3) w := fun k w hw' => hwp w (List.mem_of_mem_drop hw')
   rcases hvm with rfl | rfl | rfl | rfl | rfl | rfl | rfl | rfl
   ·refine ⟨by simp only [List.length_append, List.length_take, List.length_drop, List.length_singleton]; omega, fun w hw' => ?_⟩
    rw [List.mem_append, List.mem_append, List.mem_singleton] at hw'
    rcases hw' with (h1 | rfl) | h1
    ·exact tk _ w h1
    ·exact ho
    ·exact dk _ w h1
   ·refine ⟨by simp only [List.length_append, List.length_take, List.length_drop, List.length_singleton]; omega, fun w hw' => ?_⟩
    rw [List.mem_append, List.mem_append, List.mem_singleton] at hw'
    rcases hw' with (h1 | rfl) | h1
    ·exact tk _ w h1
    ·exact ho
    ·exact dk _ w h1
   ·refine ⟨by simp only [List.length_append, List.length_take, List.length_drop]; omega, fun w hw' => ?_⟩
    rw [List.mem_append] at hw'
    exact hw'.elim (tk _ w) (dk _ w)
   ·refine ⟨by simp only [List.length_cons]; omega, fun w hw' => ?_⟩
    rcases List.mem_cons.mp hw' with rfl | h1
    ·exact pe
    ·exact hwp w h1
   ·refine ⟨by simp only [List.length_append, List.length_singleton]; omega, fun w hw' => ?_⟩
    rw [List.mem_append, List.mem_singleton] at hw'
    rcases hw' with h1 | rfl
    ·exact hwp w h1
    ·exact pe
   ·exact ⟨Nat.zero_le _, fun w hw' => by cases hw'⟩
   ·refine ⟨by simp only [List.length_append, List.length_take, List.length_drop, List.length_singleton]; omega, fun w hw' => ?_⟩
    rw [List.mem_append, List.mem_append, List.mem_singleton] at hw'
    rcases hw' with (h1 | rfl) | h1
    ·exact tk _ w h1
    ·exact p0
    ·exact dk _ w h1
   ·refine ⟨by simp only [List.length_append, List.length_take, List.length_singleton]; omega, fun w hw' => ?_⟩
    rw [List.mem_append, List.mem_singleton] at hw'
    rcases hw' with h1 | rfl
    ·exact tk _ w h1
    ·exact p0
  obtain ⟨v1, v2⟩ := vv
  have sm := Qv (N + 3) (l := v) fun w hw' => (v2 w hw').len
  have jl := vf blS (N + 3) (l := v) fun w hw' => (v2 w hw').len
  have sp : (Str.ofString " ").length = 1 := by rfl
  have mul : v.length * (N + 4) ≤ (N + 2) * (N + 4) := Nat.mul_le_mul_right _ v1
  have m3 : v.length * (N + 4) = v.length * (N + 3) + v.length := by rw [Nat.mul_succ]
  have big : (N + 2) * (N + 4) ≤ 1002 * 1004 := Nat.mul_le_mul (by omega) (by omega)
  have J : RwP ((N + 2) * (N + 4)) (Txt.join (Str.ofString " ") v) := by
   refine ⟨?_, fun c hc => ?_⟩
   ·rw [join_eq]
    rw [qbW] at jl
    exact Nat.le_trans jl mul
   ·rw [join_eq] at hc
    rcases u9 blS hc with hc | ⟨w, hw', hc⟩
    ·rw [qa7] at hc
     rw [List.mem_singleton.mp hc]; decide
    ·exact (v2 w hw').cod c hc
  obtain ⟨kn, rfl⟩ : ∃ n : Nat, i = (n : Int) := ⟨i.toNat, by omega⟩
  have le2 : N ≤ (N + 2) * (N + 4) := by
   have : N + 2 ≤ (N + 2) * (N + 4) := Nat.le_mul_of_pos_right _ (by omega)
   omega
  obtain ⟨P, L⟩ := qbN h le2 (k := kn) (by omega) J
  exact ⟨v, hv, by rw [sp]; omega, (Zb (j := 0) hm).1, (Zb hm).2, hk _ _ P L ht6⟩
 cases hb : decide (b = 0) with
 | false => exact jH rfl (go y t4 (hyp.up (by omega)) ht4)
 | true =>
   refine jP rfl (WW ht4 fun z t5 hz ht5 => ?_)
   have hzl := hz.len
   obtain ⟨u, hu, hum⟩ := Q9 (l := l) j0 j1
   have hup := hwp u hum
   have hul := hup.len
   refine ⟨by rw [one, sz]; exact Nat.le_trans (Nat.add_le_add_right hzl 1) (by decide), by rw [one, sz]; exact Nat.le_trans (Nat.add_le_add_left hzl 1) (by decide), u, hu, by rw [sz]; omega, yC ht5 (by decide) (by decide) fun c t6 c0 c1 ht6 => ?_⟩
   obtain ⟨v, hv, hvm⟩ := Q9 (l := [z, (z ++ (Str.ofString "1")), ((Str.ofString "1") ++ z), (cutS u (some 1) none)]) c0 c1
   refine ⟨v, hv, go v t6 ?_ ht6⟩
   simp only [List.mem_cons, List.not_mem_nil, or_false] at hvm
   rcases hvm with rfl | rfl | rfl | rfl
   ·exact hz.up (by omega)
   ·exact (hz.app p1).up (by omega)
   ·exact (p1.app hz).up (by omega)
   ·exact Q6 hup _ _
theorem qag (f : Int) : Z6 (κ := List (Int × Int)) (.inl (("BadRow" : Str), [(("line" : Str), f)])) = some f := by
 unfold Z6
 simp
theorem Uw (f : Int) : Z6 (κ := List (List Int)) (.inl (("BadRow" : Str), [(("line" : Str), f)])) = some f := by
 unfold Z6
 simp
theorem QH {N : Nat} {rows : List Str} (h : RowsP N rows) (hN : N ≤ 100000) {kr : Option Int → Prop} (hk : kr (jY rows)) : wg false (Txt.join nlS rows) kr := by
 unfold wg
 refine jX rfl (VH h hN (fun f hf => ⟨⟨rfl, f, by simp⟩, ?_⟩) fun hf v => ⟨trivial, ?_⟩)
 ·rw [qag, ← hf]; exact hk
 ·rw [hf] at hk; exact hk
theorem QJ {N : Nat} {rows : List Str} (h : RowsP N rows) (hN : N ≤ 100000) {kr : Option Int → Prop} (hk : kr (jZ rows)) : wg true (Txt.join nlS rows) kr := by
 unfold wg
 refine jW rfl (U3 h hN (fun f hf => ⟨⟨rfl, f, by simp⟩, ?_⟩) fun hf v => ⟨trivial, ?_⟩)
 ·rw [Uw, ← hf]; exact hk
 ·rw [hf] at hk; exact hk
theorem VD {o : Option Int} {kr : Bool → Prop} (hk : kr true) : uF ((eO D.int) o) ((eO D.int) o) kr := ⟨rfl, by cases o <;> exact True.intro, hk⟩
theorem ZR {N : Nat} {rows : List Str} (h : RowsP N rows) (hN : N ≤ 100000) {kr : Bool → Prop} (hk : kr true) : wy false false rows kr := by
 have hs := h.sum
 unfold wy
 simp only [lt]
 refine ⟨Nat.le_trans hs (by omega), QH h hN ?_⟩
 exact jH rfl (Y5 h hN (VD hk))
theorem ZS {N : Nat} {rows : List Str} (h : RowsP N rows) (hN : N ≤ 100000) {kr : Bool → Prop} (hk : kr true) : wy true true rows kr := by
 have hs := h.sum
 unfold wy
 simp only [lt]
 refine ⟨Nat.le_trans hs (by omega), QJ h hN ?_⟩
 exact jP rfl (Xx h hN (VD hk))
theorem RowsP.up {N M : Nat} {rows : List Str} (h : RowsP N rows) (hn : N ≤ M) : RowsP M rows := ⟨h.ne, h.many, fun s hs => Nat.le_trans (h.len s hs) hn, h.cod⟩
theorem qb2 {N : Nat} {rows e : List Str} (h : RowsP N rows) (hl : rows.length ≤ 41) (he : e ∈ [[(Str.ofString "")], ([] : List Str)]) : RowsP N (rows ++ e) := by
 simp only [List.mem_cons, List.not_mem_nil, or_false] at he
 have hm : ∀ s ∈ rows ++ e, RwP N s := fun s hs => by
  rw [List.mem_append] at hs
  rcases hs with hs | hs
  ·exact QG h hs
  ·rcases he with rfl | rfl
   ·rw [List.mem_singleton.mp hs]
    exact ⟨Nat.zero_le _, fun c hc => by cases (show c ∈ ([] : List Nat) from hc)⟩
   ·cases hs
 refine ⟨fun z => h.ne (List.append_eq_nil_iff.mp z).1, ?_, fun s hs => (hm s hs).len, fun s hs => (hm s hs).cod⟩
 rw [List.length_append]
 rcases he with rfl | rfl
 ·simp only [List.length_singleton]; omega
 ·simp only [List.length_nil]; omega
theorem Qo {α : Type} {N : Nat} {l : List α} {body : α → (Int × Int) → (Option Str → (Int × Int) → Prop) → Prop} {k : List Str → (Int × Int) → Prop} {t : Int × Int} (ht : TpOk t) (hb : ∀ a ∈ l, ∀ t w, TpOk t → (∀ s t', RwP N s → TpOk t' → w (some s) t') → body a t w)
 (hk : ∀ R t', R.length = l.length → (∀ s ∈ R, RwP N s) → TpOk t' → k R t') : lcW l [] t body k := by
 have go : ∀ (l : List α) (acc : List Str) (t : Int × Int), TpOk t → (∀ a ∈ l, ∀ t w, TpOk t → (∀ s t', RwP N s → TpOk t' → w (some s) t') → body a t w) → (∀ s ∈ acc, RwP N s) →
  (∀ R t', R.length = acc.length + l.length → (∀ s ∈ R, RwP N s) → TpOk t' → k R t') → lcW l acc t body k := by
  intro l
  induction l with
  | nil => intro acc t ht _ ha hk; exact hk acc t (by simp) ha ht
  | cons a l ih =>
    intro acc t ht hb ha hk
    refine hb a (List.mem_cons_self ..) t _ ht fun s t' hs ht' => ?_
    refine ih (acc ++ [s]) t' ht' (fun b hb' => hb b (List.mem_cons_of_mem _ hb')) (fun x hx => ?_) fun R t2 hl hR h2 => hk R t2 (by rw [hl, List.length_append, List.length_cons]; simp; omega) hR h2
    rcases List.mem_append.mp hx with hx | hx
    ·exact ha x hx
    ·rw [List.mem_singleton.mp hx]; exact hs
 exact go l [] t ht hb (fun s hs => by cases hs) fun R t' hl => hk R t' (by simpa using hl)
theorem qeo : Str.ofString "\n" = Txt.join nlS [Str.ofString "", Str.ofString ""] := by decide +kernel
theorem qbI : RowsP 0 [Str.ofString "", Str.ofString ""] := ⟨by simp, by decide, fun s hs => by
 have : s = Str.ofString "" := by simpa using hs
 rw [this]; exact Nat.zero_le _, fun s hs c hc => by
 have : s = Str.ofString "" := by simpa using hs
 rw [this] at hc
 cases (show c ∈ ([] : List Nat) from hc)⟩
theorem qcr : jY [Str.ofString "", Str.ofString ""] = some 0 := by decide +kernel
theorem qcs : jZ [Str.ofString "", Str.ofString ""] = some 0 := by decide +kernel
theorem qgh (ns : List Int) {kr : Bool → Prop} (hk : kr true) : qa5 ns kr := by
 unfold qa5
 refine ⟨Wu (by omega) (by omega) (by omega) (by omega), Jx (fun _ => True) trivial (fun k hk' _ kk _ hkk => ?_) fun _ _ => ?_⟩
 ·have hkr := qcX.mp hk'
  refine qdV (by omega) (by omega) fun t ht => yC ht (by decide) (by decide) fun a t1 a0 a1 h1 => yC h1 (by decide) (by decide) fun b t2 b0 b1 h2 => yC h2 (by decide) (by decide) fun c t3 c0 c1 h3 => ?_
  have mm : ∃ m, atI [(1 + a), (7 + b)] (intB (decide (c = 0))) = some m ∧ 1 ≤ m ∧ m ≤ 40 := by
   cases decide (c = 0) with
   | false => exact ⟨1 + a, rfl, by omega, by omega⟩
   | true => exact ⟨7 + b, rfl, by omega, by omega⟩
  obtain ⟨m, em, m1, m2⟩ := mm
  have lm : (rng 0 m).length = m.toNat := by rw [Zk]; simp
  simp only [lt]
  refine ⟨m, em, yC h3 (by decide) (by decide) fun d t4 d0 d1 h4 => ?_⟩
  have lw : (rng 0 (1 + d)).length = (1 + d).toNat := by rw [Zk]; simp
  refine ⟨Wu (by omega) (by omega) (by omega) (by omega), by rw [lm, sz]; omega, Qo (N := 5) h4 (fun r _ t w ht hw => ⟨Wu (by omega) (by omega) (by omega) (by omega), by rw [lw, sz]; omega, Qo (N := 1) ht (fun j _ t w ht hw => ?_) fun R t' hl hR ht' => ?_⟩) fun P t5 pl pP h5 => ?_⟩
  ·refine yC ht (by decide) (by decide) fun z t' z0 z1 ht' => ⟨by rw [sz]; decide, ?_⟩
   obtain ⟨x, hx, hxm⟩ := Q9 (l := sgns (Str.ofString "#.")) z0 z1
   have e : sgns (Str.ofString "#.") = [Str.ofString "#", Str.ofString "."] := by decide +kernel
   rw [e] at hxm
   exact ⟨x, hx, hw _ _ (Xh (by decide +kernel) x hxm) ht'⟩
  ·rw [lw] at hl
   have sm := Qv 1 (l := R) fun w hw' => (hR w hw').len
   have jl := vf (Str.ofString "") 1 (l := R) fun w hw' => (hR w hw').len
   have e0 : (Str.ofString "").length = 0 := by rfl
   rw [e0] at jl ⊢
   refine ⟨by omega, hw _ _ ⟨?_, fun c hc => ?_⟩ ht'⟩
   ·rw [join_eq]; omega
   ·rw [join_eq] at hc
    rcases u9 (Str.ofString "") hc with hc | ⟨w', hw', hc⟩
    ·cases (show c ∈ ([] : List Nat) from hc)
    ·exact (hR w' hw').cod c hc
  have RP : RowsP 5 P := ⟨fun z => by rw [z, lm] at pl; simp at pl; omega, by omega, fun s hs => (pP s hs).len, fun s hs => (pP s hs).cod⟩
  have hPl : P.length ≤ 40 := by omega
  refine ⟨Wu (by omega) (by omega) (by omega) (by omega), by rw [lm, sz]; omega, Qo (N := 12) h5 (fun r _ t w ht hw => ⟨Wu (by omega) (by omega) (by omega) (by omega), by rw [Zk, sz]; decide, Qo (N := 2) ht (fun j _ t w ht hw => ?_) fun R t' hl hR ht' => ?_⟩) fun B t6 bl bP h6 => ?_⟩
  ·refine yC ht (by decide) (by decide) fun z t' z0 z1 ht' => ?_
   obtain ⟨n, hn, en⟩ : ∃ n : Nat, n ≤ 12 ∧ z + intB (decide (1 < j)) = (n : Int) := by
    cases decide (1 < j) with
    | false => exact ⟨z.toNat, by omega, by show z + 0 = _; omega⟩
    | true => exact ⟨(z + 1).toNat, by omega, by show z + 1 = _; omega⟩
   rw [en]
   refine ⟨?_, hw _ _ ⟨len_num (n := n) (by omega), fun c hc => ?_⟩ ht'⟩
   ·have : (n : Int).natAbs.log2 < 1920 := by
     rw [Int.natAbs_natCast]
     have : n.log2 ≤ n := Nat.log2_le_self n
     omega
    exact this
   ·have := numL_digits n c (by rw [tl_num] at hc; exact hc)
    omega
  ·have sm := Qv 2 (l := R) fun w hw' => (hR w hw').len
   have jl := vf blS 2 (l := R) fun w hw' => (hR w hw').len
   have l4 : R.length = 4 := by rw [hl, Zk]; rfl
   have sp : (Str.ofString " ").length = 1 := by rfl
   rw [qbW, l4] at jl
   refine ⟨by rw [sp]; omega, hw _ _ ⟨?_, fun c hc => ?_⟩ ht'⟩
   ·rw [join_eq]; exact jl
   ·rw [join_eq] at hc
    rcases u9 blS hc with hc | ⟨w', hw', hc⟩
    ·rw [qa7] at hc
     rw [List.mem_singleton.mp hc]; decide
    ·exact (hR w' hw').cod c hc
  have RB : RowsP 12 B := ⟨fun z => by rw [z, lm] at bl; simp at bl; omega, by omega, fun s hs => (bP s hs).len, fun s hs => (bP s hs).cod⟩
  have hBl : B.length ≤ 40 := by omega
  refine ⟨Wu (by omega) (by omega) (by omega) (by omega), Jx TpOk h6 (fun q _ t kk2 ht hk2 => ?_) fun t7 h7 => ?_⟩
  ·refine WR RP (by decide) ht fun P1 u1 p1 l1 hu1 => WT RB (by decide) hu1 fun B1 u2 b1' l2 hu2 => yC hu2 (by decide) (by decide) fun z u3 z0 z1 hu3 => ?_
   have fin : ∀ (u : Int × Int) (P2 B2 : List Str), TpOk u → RowsP 100000 P2 → P2.length ≤ 40 → RowsP 100000 B2 → B2.length ≤ 40 → (fun (s54 : ((Int × Int) × (List Str) × (List Str))) => qH s54.1 6 fun t58 => exW (atI [[(Str.ofString "")], ([] : List Str)] (intB (decide (0 < t58.1)))) fun x59 =>
    (s54.2.1.length + x59.length ≤ sizeLine) ∧ wy false false (s54.2.1 ++ x59) fun t62 => ifP (!t62) (kr false) <| (s54.2.2.length + x59.length ≤ sizeLine) ∧ wy true true (s54.2.2 ++ x59) fun t64 => ifP (!t64) (kr false) <| kk2 t58.2) (u, P2, B2) := fun u P2 B2 hu rp lp rb lb => by
    refine yC hu (by decide) (by decide) fun y u4 y0 y1 hu4 => ?_
    obtain ⟨e, he, hem⟩ : ∃ e, atI [[(Str.ofString "")], ([] : List Str)] (intB (decide (0 < y))) = some e ∧ e ∈ [[(Str.ofString "")], ([] : List Str)] := by
     cases decide (0 < y) with
     | false => exact ⟨_, rfl, by simp⟩
     | true => exact ⟨_, rfl, by simp⟩
    have el : e.length ≤ 1 := by
     simp only [List.mem_cons, List.not_mem_nil, or_false] at hem
     rcases hem with rfl | rfl <;> simp
    exact ⟨e, he, by rw [sz]; dsimp only; omega, ZR (qb2 rp (by omega) hem) (Nat.le_refl _) (jX rfl ⟨by rw [sz]; dsimp only; omega, ZS (qb2 rb (by omega) hem) (Nat.le_refl _) (jX rfl (hk2 _ hu4))⟩)⟩
   cases hz : decide (z = 0) with
   | false => exact jH rfl (fin u3 P1 B1 hu3 (p1.up (by decide)) (by omega) (b1'.up (by decide)) (by omega))
   | true => exact jP rfl (WR p1 (by decide) hu3 fun P2 u4 p2 l3 hu4 => WT b1' (by decide) hu4 fun B2 u5 b2 l4 hu5 => fin u5 P2 B2 hu5 (p2.up (by decide)) (by omega) (b2.up (by decide)) (by omega))
  ·exact ZR RP (by decide) (jH rfl (ZS RB (by decide) (jX rfl (hkk _ trivial))))
 ·rw [qeo]
  refine QH qbI (by decide) ?_
  rw [qcr]
  refine jP (by simp) (QJ qbI (by decide) ?_)
  rw [qcs]
  simpa using hk
end K42
namespace K42
open PySem PySem.Spec PyProof.Rows L2 BX COM BC
def topS (i : Nat) : Stmt := PySem.Challenge.pw_boxcut_k42_rows_of_no_picture_and_no_box.main.body.getD i (.Pass ⟨0, 0, 0, 0⟩)
abbrev w6 : Stmt := topS 7
theorem ji : FnScope ["row", "wide", "sign"] ["row", "wide"] (defScope w6) := ⟨rfl, rfl, rfl, by decide +kernel, rfl, by decide +kernel, by decide +kernel⟩
section
variable {P : Program} {w : World} {K : PySem.W.Frag} {mg : Str → Option Value} {base : Heap} {k : Nat} {f : Addr} {cdv : Value} {A : Around} {outer : List PySem.Env} {s : Shared} {H : Hp} {E : XK}
theorem rk {N : List Str} {x : Str} {sc : Scope} {b : List Stmt} {t : XS} (hr : Room k (A.deeper (envOfC x sc s.heap.objs.size f cdv))) (q : Ok (cxOf CX0 P w K mg base N x sc f cdv A outer s H E).nox → DSs (cxOf CX0 P w K mg base N x sc f cdv A outer s H E).nox b t) : DSs (cxOf CX0 P w K mg base N x sc f cdv A outer s H E).nox b t := q (Room.ok hr)
theorem v9 (m_all : mg "all" = none) (m_len : mg "len" = none)
 (hr : Room k (A.deeper (envOfC "is_picture_row" (defScope w6) s.heap.objs.size f cdv))) :
 DSs (cxOf CX0 P w K mg base ["row", "wide", "sign"] "is_picture_row" (defScope w6) f cdv A outer s H E).nox (defBody w6) yU := by
 refine rk hr fun hx => ?_
 have nd := ji.nd
 exact (wu (wM (uC (yD Ut (qj 1) qF (by rfl)) (uC (yD (jE hx) (qR yF (by rfl) m_len (by decide +kernel) (qb (qj 0) qp)) (qj 1) (by rfl)) (vm (qR (Ym hx) (by rfl) m_all (by decide +kernel) (qb (Wl (own := [("sign", 2)]) (ts := [2]) hx nd (JC (qj 0)) (blkOk_by (own := [("sign", 2)]) (N := ["row", "wide", "sign"]) (sc := defScope w6) (by decide +kernel)) (fun _ _ _ _ _ => (wF nd)) (fun _ _ _ _ _ => xZ) (fun _ _ _ _ _ => (yD (qcO (hx).blk) (qj 2) qJ (by rfl))) (by decide)) qp)))))))
abbrev ye : Stmt := topS 8
theorem Wt : FnScope ["text", "rows", "found", "line", "row", "x", "sign"] ["text"] (defScope ye) := ⟨rfl, rfl, rfl, by decide +kernel, rfl, by decide +kernel, by decide +kernel⟩
theorem qaJ {wz : FS} (F_is_picture_row : Fn P w K mg base "is_picture_row" k ["row", "wide"] wz) (m_sorted : mg "sorted" = none) (m_tuple : mg "tuple" = none) (m_enumerate : mg "enumerate" = none) (m_len : mg "len" = none) (r_BadRow : RsU P w K mg base k "BadRow")
 (hr : Room k (A.deeper (envOfC "room_in" (defScope ye) s.heap.objs.size f cdv))) :
 DSsX (cxOf (L2.CX P w) P w K mg base ["text", "rows", "found", "line", "row", "x", "sign"] "room_in" (defScope ye) f cdv A outer s H E) (fun cls d _ H => E cls d H) (defBody ye) (Qu wz) := by
 have hx : Ok (cxOf (L2.CX P w) P w K mg base ["text", "rows", "found", "line", "row", "x", "sign"] "room_in" (defScope ye) f cdv A outer s H E) := Room.ok hr
 have tk : Takes (cxOf (L2.CX P w) P w K mg base ["text", "rows", "found", "line", "row", "x", "sign"] "room_in" (defScope ye) f cdv A outer s H E) (fun cls d _ H => E cls d H) := takes_of rfl rfl rfl rfl
 have po : PassesOwn (model P w) (cxOf (L2.CX P w) P w K mg base ["text", "rows", "found", "line", "row", "x", "sign"] "room_in" (defScope ye) f cdv A outer s H E).A (cxOf (L2.CX P w) P w K mg base ["text", "rows", "found", "line", "row", "x", "sign"] "room_in" (defScope ye) f cdv A outer s H E).env (cxOf (L2.CX P w) P w K mg base ["text", "rows", "found", "line", "row", "x", "sign"] "room_in" (defScope ye) f cdv A outer s H E).xe := passes_of rfl
 have nd := Wt.nd
 exact (xY (DS.x (ju (yc (jE hx) (qj 0) qJ (by rfl) Yr) (wu (wM (qb8 qp))) yr))
  (xY (DS.x (wL nd (jK (qj 0) (qb qJ qp))))
  (xY (DS.x (wL nd (zN qp)))
  (xY (qb4 hx (Zt (qj 1) m_enumerate) (WM hx (yx (wF nd) (yx (wF nd) vJ))) (xY (qeK (vh (j5 (zM F_is_picture_row hr (by rfl) (qb (qj 4) (qb (qR yF (by rfl) m_len (by decide +kernel) (qb (zQ hx (qj 1) qF) qp)) qp))))) (QX (Ye rfl tk r_BadRow hr (qj 3))) (DSs.x yr))
  (QX (DS.x (qaD (qaG (qj 2) (Wl (own := [("x", 5), ("sign", 6)]) (ts := [5, 6]) hx nd (qbz (qj 4) m_enumerate) (blkOk_by (own := [("x", 5), ("sign", 6)]) (N := ["text", "rows", "found", "line", "row", "x", "sign"]) (sc := defScope ye) (by decide +kernel)) (fun _ _ _ _ _ => (WM (hx).blk (yx (wF nd) (yx (wF nd) vJ)))) (fun _ _ _ _ _ => (Xo (yc (jE (hx).blk) (qj 6) qJ (by rfl) Yr))) (fun _ _ _ _ _ => (qb8 (qb (qj 5) (qb (qK qbO (qK qbO (qR yF (by rfl) m_len (by decide +kernel) (qb (qj 1) qp)) qF) (qj 3)) qp)))) (by decide))))))) po)
  (QX (DS.x (wM (yS JM (by rfl) m_tuple (by decide +kernel) (qb (qR (qaN hx) (by rfl) m_sorted (by decide +kernel) (qb (qj 2) qp)) qp)))))))))
abbrev za : Stmt := topS 9
theorem jj : FnScope ["word", "sign"] ["word"] (defScope za) := ⟨rfl, rfl, rfl, by decide +kernel, rfl, by decide +kernel, by decide +kernel⟩
theorem Qa (m_len : mg "len" = none) (m_all : mg "all" = none) (g_FIGURES : Gv K mg "FIGURES" Q8)
 (hr : Room k (A.deeper (envOfC "is_number_word" (defScope za) s.heap.objs.size f cdv))) :
 DSs (cxOf CX0 P w K mg base ["word", "sign"] "is_number_word" (defScope za) f cdv A outer s H E).nox (defBody za) yV := by
 refine rk hr fun hx => ?_
 have nd := jj.nd
 exact (qG (ju (DW.dt (Yg (vh (qbx qbk qbk qgp qF (qR yF (by rfl) m_len (by decide +kernel) (qb (qj 0) qp)) qF)) (WL (vh (j5 (qR (Ym hx) (by rfl) m_all (by decide +kernel) (qb (Wl (own := [("sign", 1)]) (ts := [1]) hx nd (JC (qj 0)) (blkOk_by (own := [("sign", 1)]) (N := ["word", "sign"]) (sc := defScope za) (by decide +kernel)) (fun _ _ _ _ _ => (wF nd)) (fun _ _ _ _ _ => xZ) (fun _ _ _ _ _ => (yD (qcO (hx).blk) (qj 1) (qdf (by rfl) g_FIGURES) (by rfl))) (by decide)) qp))))))) (wu (wM qaH)) yr)
  (wu (wM (qeM (yD (jE hx) (qR yF (by rfl) m_len (by decide +kernel) (qb (qj 0) qp)) qF (by rfl)) (vm (yD (Wh hx) (zQ hx (qj 0) qF) qJ (by rfl)))))))
abbrev jC : Stmt := topS 10
theorem ZP : FnScope ["row", "words", "box", "word"] ["row"] (defScope jC) := ⟨rfl, rfl, rfl, by decide +kernel, rfl, by decide +kernel, by decide +kernel⟩
theorem qbC {wA : FS} (F_is_number_word : Fn P w K mg base "is_number_word" k ["word"] wA) (m_int : mg "int" = none) (m_tuple : mg "tuple" = none) (m_all : mg "all" = none) (m_len : mg "len" = none)
 (hr : Room k (A.deeper (envOfC "box_in" (defScope jC) s.heap.objs.size f cdv))) :
 DSs (cxOf CX0 P w K mg base ["row", "words", "box", "word"] "box_in" (defScope jC) f cdv A outer s H E).nox (defBody jC) (W6 wA) := by
 refine rk hr fun hx => ?_
 have nd := ZP.nd
 exact (qG (wL nd (jK (qj 0) (qb qJ qp)))
  (qG (ju (DW.dt (Yg (yc (Wh hx) (qR yF (by rfl) m_len (by decide +kernel) (qb (qj 1) qp)) qF (by rfl) Yq) (WL (vh (j5 (qR (Ym hx) (by rfl) m_all (by decide +kernel) (qb (Wl (own := [("word", 3)]) (ts := [3]) hx nd (qaE (qj 1)) (blkOk_by (own := [("word", 3)]) (N := ["row", "words", "box", "word"]) (sc := defScope jC) (by decide +kernel)) (fun _ _ _ _ _ => (wF nd)) (fun _ _ _ _ _ => xZ) (fun _ _ _ _ _ => (zM F_is_number_word hr (by rfl) (qb (qj 3) qp))) (by decide)) qp))))))) (wu (wM ux)) yr)
  (qG (wL nd (yS JM (by rfl) m_tuple (by decide +kernel) (qb (Wl (own := [("word", 3)]) (ts := [3]) hx nd (qaE (qj 1)) (blkOk_by (own := [("word", 3)]) (N := ["row", "words", "box", "word"]) (sc := defScope jC) (by decide +kernel)) (fun _ _ _ _ _ => (wF nd)) (fun _ _ _ _ _ => xZ) (fun _ _ _ _ _ => (yS qdl (by rfl) m_int (by decide +kernel) (qb (qj 3) qp))) (by decide)) qp)))
  (wu (wM (qgk (DW.dt (qb5 (yc Ut (zQ hx (qj 2) qF) qF (by rfl) qdo) (qaC (yc Ut (zQ hx (qj 2) qF) qF (by rfl) qdo)))) (qj 2) ux))))))
abbrev zX : Stmt := topS 11
theorem QD : FnScope ["text", "found", "line", "row", "box"] ["text"] (defScope zX) := ⟨rfl, rfl, rfl, by decide +kernel, rfl, by decide +kernel, by decide +kernel⟩
theorem UL {xU : FS} (F_box_in : Fn P w K mg base "box_in" k ["row"] xU) (m_enumerate : mg "enumerate" = none) (r_BadRow : RsU P w K mg base k "BadRow")
 (hr : Room k (A.deeper (envOfC "boxes_in" (defScope zX) s.heap.objs.size f cdv))) :
 DSsX (cxOf (L2.CX P w) P w K mg base ["text", "found", "line", "row", "box"] "boxes_in" (defScope zX) f cdv A outer s H E) (fun cls d _ H => E cls d H) (defBody zX) (vC xU) := by
 have hx : Ok (cxOf (L2.CX P w) P w K mg base ["text", "found", "line", "row", "box"] "boxes_in" (defScope zX) f cdv A outer s H E) := Room.ok hr
 have tk : Takes (cxOf (L2.CX P w) P w K mg base ["text", "found", "line", "row", "box"] "boxes_in" (defScope zX) f cdv A outer s H E) (fun cls d _ H => E cls d H) := takes_of rfl rfl rfl rfl
 have po : PassesOwn (model P w) (cxOf (L2.CX P w) P w K mg base ["text", "found", "line", "row", "box"] "boxes_in" (defScope zX) f cdv A outer s H E).A (cxOf (L2.CX P w) P w K mg base ["text", "found", "line", "row", "box"] "boxes_in" (defScope zX) f cdv A outer s H E).env (cxOf (L2.CX P w) P w K mg base ["text", "found", "line", "row", "box"] "boxes_in" (defScope zX) f cdv A outer s H E).xe := passes_of rfl
 have nd := QD.nd
 exact (xY (DS.x (ju (yc (jE hx) (qj 0) qJ (by rfl) Yr) (wu (wM (zN qp))) yr))
  (xY (DS.x (wL nd (zN qp)))
  (xY (qb4 hx (Zt (jK (qj 0) (qb qJ qp)) m_enumerate) (WM hx (yx (wF nd) (yx (wF nd) vJ))) (xY (DS.x (wL nd (zM F_box_in hr (by rfl) (qb (qj 3) qp))))
  (xY (qeK (yc qcN (qj 4) ux (by rfl) qeX) (QX (Ye rfl tk r_BadRow hr (qj 2))) (DSs.x yr))
  (QX (DS.x (qaD (qaI (qj 1) (qj 4))))))) po)
  (QX (DS.x (wM (qj 1)))))))
abbrev xH : Stmt := topS 13
theorem vQ : FnScope ["_law_script", "_law_k", "_law_cell", "_law_digits"] ["_law_script", "_law_k"] (defScope xH) := ⟨rfl, rfl, rfl, by decide +kernel, rfl, by decide +kernel, by decide +kernel⟩
theorem Xp (m_abs : mg "abs" = none) (m_int : mg "int" = none) (m_len : mg "len" = none)
 (hr : Room k (A.deeper (envOfC "_law_tape" (defScope xH) s.heap.objs.size f cdv))) :
 DSs (cxOf CX0 P w K mg base ["_law_script", "_law_k", "_law_cell", "_law_digits"] "_law_tape" (defScope xH) f cdv A outer s H E).nox (defBody xH) jA := by
 refine rk hr fun hx => ?_
 have nd := vQ.nd
 exact (qG (wL nd qF)
  (qG (ju (yc (qf1 hx) (qj 1) (qR yF (by rfl) m_len (by decide +kernel) (qb (qj 0) qp)) (by rfl) qgo) (wu (wL nd (zQ hx (qj 0) (qj 1)))) yr)
  (qG (wL nd (qK Wy (qR qcb (by rfl) m_abs (by decide +kernel) (qb (qj 2) qp)) (yS JN (by rfl) m_int (by decide +kernel) (qb (yD qf2 (qR qcb (by rfl) m_abs (by decide +kernel) (qb (qj 2) qp)) (qK qea qF qF) (by rfl)) qp))))
  (wu (wM (zN (qb (qj 3) (qb (qK uW (qK Wy (qK uW (qK qY (qK qY (qj 2) (qK Wy qF (qj 1))) qF) qF) qF) qF) qp))))))))
abbrev xJ : Stmt := topS 14
theorem vU : FnScope ["_law_tape_here", "_law_many", "_law_found", "_law_once"] ["_law_tape_here", "_law_many"] (defScope xJ) := ⟨rfl, rfl, rfl, by decide +kernel, rfl, by decide +kernel, by decide +kernel⟩
theorem Xr
 (hr : Room k (A.deeper (envOfC "_law_draw" (defScope xJ) s.heap.objs.size f cdv))) :
 DSs (cxOf CX0 P w K mg base ["_law_tape_here", "_law_many", "_law_found", "_law_once"] "_law_draw" (defScope xJ) f cdv A outer s H E).nox (defBody xJ) jB := by
 refine rk hr fun hx => ?_
 have nd := vU.nd
 exact (qG (ju (yc Ut (zQ hx (qj 0) qF) qF (by rfl) qdo) (qG (wL nd (qK uW (zQ hx (qj 0) qF) (qj 1)))
  (qG (qb6 hx (qK qeb (zQ hx (qj 0) qF) (qj 1)) (qj 0) qF)
  (wu (wM (qj 2))))) yr)
  (qG (qb6 hx (qK uW (qK qY (qK Wy (zQ hx (qj 0) qF) qF) qF) qF) (qj 0) qF)
  (qG (wL nd (qK uW (qK Wy (zQ hx (qj 0) qF) (qK qY (qK uW (zQ hx (qj 0) qF) qF) qF)) qF))
  (wu (wM (qK uW (qK uW (qK Wy (qj 3) (qK qY (qK uW (qj 3) qF) qF)) qF) (qj 1)))))))
abbrev yL : Stmt := topS 15
theorem vR : FnScope ["_law_found", "_law_due", "_law_one", "_law_other"] ["_law_found", "_law_due"] (defScope yL) := ⟨rfl, rfl, rfl, by decide +kernel, rfl, by decide +kernel, by decide +kernel⟩
theorem Xq {wG : FS} (F__law_same : Fn P w K mg base "_law_same" k ["_law_found", "_law_due"] wG) (m_isinstance : mg "isinstance" = none) (m_bool : mg "bool" = none) (m_int : mg "int" = none) (m_str : mg "str" = none) (m_list : mg "list" = none) (m_tuple : mg "tuple" = none) (m_zip : mg "zip" = none) (m_all : mg "all" = none) (m_len : mg "len" = none)
 (hr : Room k (A.deeper (envOfC "_law_same" (defScope yL) s.heap.objs.size f cdv))) :
 DSs (cxOf CX0 P w K mg base ["_law_found", "_law_due", "_law_one", "_law_other"] "_law_same" (defScope yL) f cdv A outer s H E).nox (defBody yL) (uH wG) := by
 refine rk hr fun hx => ?_
 have nd := vR.nd
 exact (qG (ju (yc qcN (qj 1) ux (by rfl) qeX) (wu (wM (yD qcN (qj 0) ux (by rfl)))) yr)
  (qG (ju (j5 (qde YL W3 (qj 1) m_isinstance m_list m_tuple (by rfl) (by rfl))) (qG (ju (DW.dt (Yg (yc (Wh hx) (uz YL (qj 0) m_isinstance m_list (by rfl)) (uz YL (qj 1) m_isinstance m_list (by rfl)) (by rfl) Yq) (WL (yc (Wh hx) (uz W3 (qj 0) m_isinstance m_tuple (by rfl)) (uz W3 (qj 1) m_isinstance m_tuple (by rfl)) (by rfl) Yq)))) (wu (wM qaH)) yr)
  (wu (wM (uC (yD (jE hx) (qR yF (by rfl) m_len (by decide +kernel) (qb (qj 0) qp)) (qR yF (by rfl) m_len (by decide +kernel) (qb (qj 1) qp)) (by rfl)) (vm (qR (Ym hx) (by rfl) m_all (by decide +kernel) (qb (Wl (own := [("_law_one", 2), ("_law_other", 3)]) (ts := [2, 3]) hx nd (qeL (qj 0) (qj 1) m_zip) (blkOk_by (own := [("_law_one", 2), ("_law_other", 3)]) (N := ["_law_found", "_law_due", "_law_one", "_law_other"]) (sc := defScope yL) (by decide +kernel)) (fun _ _ _ _ _ => (WM (hx).blk (yx (wF nd) (yx (wF nd) vJ)))) (fun _ _ _ _ _ => xZ) (fun _ _ _ _ _ => (zM F__law_same hr (by rfl) (qb (qj 2) (qb (qj 3) qp)))) (by decide)) qp))))))) yr)
  (qG (ju (j5 (uz YM (qj 1) m_isinstance m_bool (by rfl))) (wu (wM (uC (uz YM (qj 0) m_isinstance m_bool (by rfl)) (vm (yD (jE hx) (qj 0) (qj 1) (by rfl)))))) yr)
  (qG (ju (j5 (uz qbJ (qj 1) m_isinstance m_str (by rfl))) (wu (wM (uC (uz qbJ (qj 0) m_isinstance m_str (by rfl)) (vm (yD (jE hx) (qj 0) (qj 1) (by rfl)))))) yr)
  (wu (wM (uC (uz qdT (qj 0) m_isinstance m_int (by rfl)) (uC (qdd (uz YM (qj 0) m_isinstance m_bool (by rfl))) (vm (yD (jE hx) (qj 0) (qj 1) (by rfl)))))))))))
abbrev yu : Stmt := topS 16
theorem jU : FnScope ["_law_call", "_law_text", "_law_found", "e"] ["_law_call", "_law_text"] (defScope yu) := ⟨rfl, rfl, rfl, by decide +kernel, rfl, by decide +kernel, by decide +kernel⟩
theorem Wn {yH yo : FS} (F_room_in : FnX P w K mg base "room_in" k ["text"] yH) (F_boxes_in : FnX P w K mg base "boxes_in" k ["text"] yo) (m_isinstance : mg "isinstance" = none) (fv_room_in : Fv K mg "room_in") (fv_boxes_in : Fv K mg "boxes_in") (xm_BadRow : XfM K "BadRow" "line") (cl_BoxError : Cl K mg "BoxError" ["BadRow"]) (xk_BadRow : Xk K mg "BadRow" [("BadRow", true)]) (xk_ValueError : XkB K mg "ValueError" "ValueError" [("BadRow", true)]) (xk_NoChord : Xk K mg "NoChord" [("BadRow", false)]) (xk_NoRoom : Xk K mg "NoRoom" [("BadRow", false)])
 (hr : Room k (A.deeper (envOfC "_law_refused" (defScope yu) s.heap.objs.size f cdv))) :
 DSs (cxOf CX0 P w K mg base ["_law_call", "_law_text", "_law_found", "e"] "_law_refused" (defScope yu) f cdv A outer s H E).nox (defBody yu) (xV yH yo) := by
 refine rk hr fun hx => ?_
 have nd := jU.nd
 exact (qG (wL nd ux)
  (qG (qdb nd cl_BoxError xk_BadRow xk_ValueError xk_NoChord xk_NoRoom m_isinstance xm_BadRow (fun W pn xe tk => qda (qbA 0 F_room_in F_boxes_in fv_room_in fv_boxes_in hr hr tk (qb (qj 1) qp))))
  (wu (wM (qj 2)))))
abbrev ww : Stmt := topS 17
theorem yP : FnScope ["_law_text", "_law_rows", "_law_k", "_law_row", "_law_sign"] ["_law_text"] (defScope ww) := ⟨rfl, rfl, rfl, by decide +kernel, rfl, by decide +kernel, by decide +kernel⟩
theorem uv (m_enumerate : mg "enumerate" = none) (m_len : mg "len" = none)
 (hr : Room k (A.deeper (envOfC "_law_picture_fault" (defScope ww) s.heap.objs.size f cdv))) :
 DSs (cxOf CX0 P w K mg base ["_law_text", "_law_rows", "_law_k", "_law_row", "_law_sign"] "_law_picture_fault" (defScope ww) f cdv A outer s H E).nox (defBody ww) yt := by
 refine rk hr fun hx => ?_
 have nd := yP.nd
 exact (qG (ju (yc (jE hx) (qj 0) qJ (by rfl) Yr) (wu (wM ux)) yr)
  (qG (wL nd (jK (qj 0) (qb qJ qp)))
  (qG (Jz hx (Zt (qj 1) m_enumerate) (WM hx (yx (wF nd) (yx (wF nd) vJ))) (wu (ju (DW.dt (Yg (yc (jE hx) (qj 3) qJ (by rfl) Yr) (Yg (yc (Wh hx) (qR yF (by rfl) m_len (by decide +kernel) (qb (qj 3) qp)) (qR yF (by rfl) m_len (by decide +kernel) (qb (zQ hx (qj 1) qF) qp)) (by rfl) Yq) (WL (yc (Wh hx) (Wl (own := [("_law_sign", 4)]) (ts := [4]) hx nd (JC (qj 3)) (blkOk_by (own := [("_law_sign", 4)]) (N := ["_law_text", "_law_rows", "_law_k", "_law_row", "_law_sign"]) (sc := defScope ww) (by decide +kernel)) (fun _ _ _ _ _ => (wF nd)) (fun _ _ _ _ _ => (Xo (DW.dt (qb5 (yc (Wh (hx).blk) (qj 4) qJ (by rfl) Yq) (qaC (yc (Wh (hx).blk) (qj 4) qJ (by rfl) Yq)))))) (fun _ _ _ _ _ => (qj 4)) (by decide)) (zN qp) (by rfl) Yq))))) (wu (wM (qj 2))) yr)))
  (wu (wM ux)))))
abbrev zb : Stmt := topS 18
theorem jk : FnScope ["_law_word", "_law_some", "_law_sign"] ["_law_word"] (defScope zb) := ⟨rfl, rfl, rfl, by decide +kernel, rfl, by decide +kernel, by decide +kernel⟩
theorem Qc (m_len : mg "len" = none)
 (hr : Room k (A.deeper (envOfC "_law_is_number" (defScope zb) s.heap.objs.size f cdv))) :
 DSs (cxOf CX0 P w K mg base ["_law_word", "_law_some", "_law_sign"] "_law_is_number" (defScope zb) f cdv A outer s H E).nox (defBody zb) yW := by
 refine rk hr fun hx => ?_
 have nd := jk.nd
 exact (qG (Zr (own := [("_law_sign", 2)]) (ts := [2]) hx nd (by rfl) (JC (qj 0)) (blkOk_by (own := [("_law_sign", 2)]) (N := ["_law_word", "_law_some", "_law_sign"]) (sc := defScope zb) (by decide +kernel)) (fun _ _ _ _ _ => (wF nd)) (fun _ _ _ _ _ => (Xo (yc (qbj (hx).blk) (qj 2) qJ (by rfl) qcf))) (fun _ _ _ _ _ => (qj 2)) (by decide))
  (wu (wM (uC (yD (jE hx) (qj 1) (zN qp) (by rfl)) (uC (qbB qbk qbk qF (qR yF (by rfl) m_len (by decide +kernel) (qb (qj 0) qp)) qF) (vm (qeM (yD (jE hx) (qj 0) qJ (by rfl)) (vm (yD (Wh hx) (zQ hx (qj 0) qF) qJ (by rfl))))))))))
abbrev wJ : Stmt := topS 19
theorem xG : FnScope ["_law_text", "_law_k", "_law_row", "_law_words", "_law_word"] ["_law_text"] (defScope wJ) := ⟨rfl, rfl, rfl, by decide +kernel, rfl, by decide +kernel, by decide +kernel⟩
theorem vp {wC : FS} (F__law_is_number : Fn P w K mg base "_law_is_number" k ["_law_word"] wC) (m_enumerate : mg "enumerate" = none) (m_all : mg "all" = none) (m_len : mg "len" = none)
 (hr : Room k (A.deeper (envOfC "_law_boxes_fault" (defScope wJ) s.heap.objs.size f cdv))) :
 DSs (cxOf CX0 P w K mg base ["_law_text", "_law_k", "_law_row", "_law_words", "_law_word"] "_law_boxes_fault" (defScope wJ) f cdv A outer s H E).nox (defBody wJ) (yE wC) := by
 refine rk hr fun hx => ?_
 have nd := xG.nd
 exact (qG (ju (yc (jE hx) (qj 0) qJ (by rfl) Yr) (wu (wM ux)) yr)
  (qG (Jz hx (Zt (jK (qj 0) (qb qJ qp)) m_enumerate) (WM hx (yx (wF nd) (yx (wF nd) vJ))) (qG (wL nd (jK (qj 2) (qb qJ qp)))
  (wu (ju (DW.dt (Yg (yc (Wh hx) (qR yF (by rfl) m_len (by decide +kernel) (qb (qj 3) qp)) qF (by rfl) Yq) (Yg (vh (j5 (qR (Ym hx) (by rfl) m_all (by decide +kernel) (qb (Wl (own := [("_law_word", 4)]) (ts := [4]) hx nd (qaE (qj 3)) (blkOk_by (own := [("_law_word", 4)]) (N := ["_law_text", "_law_k", "_law_row", "_law_words", "_law_word"]) (sc := defScope wJ) (by decide +kernel)) (fun _ _ _ _ _ => (wF nd)) (fun _ _ _ _ _ => xZ) (fun _ _ _ _ _ => (zM F__law_is_number hr (by rfl) (qb (qj 4) qp))) (by decide)) qp)))) (WL (yc (qcO hx) qJ (yd (qj 3) (zG qF) zH) (by rfl) qcf))))) (wu (wM (qj 1))) yr))))
  (wu (wM ux))))
abbrev yf : Stmt := topS 20
theorem jM : FnScope ["_law_tape_here", "_law_signs"] ["_law_tape_here"] (defScope yf) := ⟨rfl, rfl, rfl, by decide +kernel, rfl, by decide +kernel, by decide +kernel⟩
theorem QZ {qw : FS} (F__law_draw : Fn P w K mg base "_law_draw" k ["_law_tape_here", "_law_many"] qw) (m_len : mg "len" = none)
 (hr : Room k (A.deeper (envOfC "_law_any_sign" (defScope yf) s.heap.objs.size f cdv))) :
 DSs (cxOf CX0 P w K mg base ["_law_tape_here", "_law_signs"] "_law_any_sign" (defScope yf) f cdv A outer s H E).nox (defBody yf) (xr qw) := by
 refine rk hr fun hx => ?_
 have nd := jM.nd
 exact (qG (wL nd qJ)
  (qG (wL nd (qK qY (qj 1) qJ))
  (wu (wM (zQ hx (qj 1) (zM F__law_draw hr (by rfl) (qb (qj 0) (qb (qR yF (by rfl) m_len (by decide +kernel) (qb (qj 1) qp)) qp))))))))
abbrev wU : Stmt := topS 21
theorem yZ : FnScope ["_law_tape_here", "_law_rows", "_law_at", "_law_row", "_law_k", "_law_sign", "_law_some"] ["_law_tape_here", "_law_rows"] (defScope wU) := ⟨rfl, rfl, rfl, by decide +kernel, rfl, by decide +kernel, by decide +kernel⟩
theorem uK {qw qM : FS} (F__law_draw : Fn P w K mg base "_law_draw" k ["_law_tape_here", "_law_many"] qw) (F__law_any_sign : Fn P w K mg base "_law_any_sign" k ["_law_tape_here"] qM) (m_len : mg "len" = none)
 (hr : Room k (A.deeper (envOfC "_law_bent_picture" (defScope wU) s.heap.objs.size f cdv))) :
 DSs (cxOf CX0 P w K mg base ["_law_tape_here", "_law_rows", "_law_at", "_law_row", "_law_k", "_law_sign", "_law_some"] "_law_bent_picture" (defScope wU) f cdv A outer s H E).nox (defBody wU) (yz qw qM) := by
 refine rk hr fun hx => ?_
 have nd := yZ.nd
 exact (qG (wL nd (zM F__law_draw hr (by rfl) (qb (qj 0) (qb (qR yF (by rfl) m_len (by decide +kernel) (qb (qj 1) qp)) qp))))
  (qG (wL nd (zQ hx (qj 1) (qj 2)))
  (qG (wL nd (zM F__law_draw hr (by rfl) (qb (qj 0) (qb (qK qY (qR yF (by rfl) m_len (by decide +kernel) (qb (qj 3) qp)) qF) qp))))
  (qG (wL nd (zQ hx (zN (qb (zQ hx (zN (qb qJ (qb qJ (qb qJ (qb qJ (qb qJ (qb qJ (qb qJ qp)))))))) (zM F__law_draw hr (by rfl) (qb (qj 0) (qb qF qp)))) (qb (zM F__law_any_sign hr (by rfl) (qb (qj 0) qp)) qp))) (zM F__law_draw hr (by rfl) (qb (qj 0) (qb qF qp)))))
  (qG (wL nd (zN (qb (qK qY (qK qY (jx (qj 3) zH (zG (qj 4))) (qj 5)) (jx (qj 3) (zG (qK qY (qj 4) qF)) zH)) (qb (qK qY (qK qY (jx (qj 3) zH (zG (qj 4))) (qj 5)) (jx (qj 3) (zG (qj 4)) zH)) (qb (jx (qj 3) zH (zG (qeN qF))) (qb (qK qY (qj 3) qJ) (qb (qK qY (qj 3) qJ) (qb qJ (qb (qK qY qJ (qj 3)) qp)))))))))
  (wu (wM (qK qY (qK qY (yd (qj 1) zH (zG (qj 2))) (zN (qb (zQ hx (qj 6) (zM F__law_draw hr (by rfl) (qb (qj 0) (qb qF qp)))) qp))) (yd (qj 1) (zG (qK qY (qj 2) qF)) zH)))))))))
abbrev zu : Stmt := topS 22
theorem xT : FnScope ["_law_tape_here", "_law_rows", "_law_at", "_law_words", "_law_k", "_law_odd", "_law_sign", "_law_some"] ["_law_tape_here", "_law_rows"] (defScope zu) := ⟨rfl, rfl, rfl, by decide +kernel, rfl, by decide +kernel, by decide +kernel⟩
theorem vK {qw qM : FS} (F__law_draw : Fn P w K mg base "_law_draw" k ["_law_tape_here", "_law_many"] qw) (F__law_any_sign : Fn P w K mg base "_law_any_sign" k ["_law_tape_here"] qM) (m_len : mg "len" = none)
 (hr : Room k (A.deeper (envOfC "_law_bent_boxes" (defScope zu) s.heap.objs.size f cdv))) :
 DSs (cxOf CX0 P w K mg base ["_law_tape_here", "_law_rows", "_law_at", "_law_words", "_law_k", "_law_odd", "_law_sign", "_law_some"] "_law_bent_boxes" (defScope zu) f cdv A outer s H E).nox (defBody zu) (yK qw qM) := by
 refine rk hr fun hx => ?_
 have nd := xT.nd
 exact (qG (wL nd (zM F__law_draw hr (by rfl) (qb (qj 0) (qb (qR yF (by rfl) m_len (by decide +kernel) (qb (qj 1) qp)) qp))))
  (qG (wL nd (jK (zQ hx (qj 1) (qj 2)) (qb qJ qp)))
  (qG (wL nd (zM F__law_draw hr (by rfl) (qb (qj 0) (qb (qR yF (by rfl) m_len (by decide +kernel) (qb (qj 3) qp)) qp))))
  (qG (wL nd (zQ hx (zN (qb qJ (qb qJ (qb qJ (qb qJ (qb qJ (qb qJ (qb qJ (qb qJ (qb qJ (qb qJ (qb qJ (qb qJ (qb qJ (qb qJ (qb qJ qp)))))))))))))))) (zM F__law_draw hr (by rfl) (qb (qj 0) (qb qF qp)))))
  (qG (ju (yc (jE hx) (zM F__law_draw hr (by rfl) (qb (qj 0) (qb qF qp))) qF (by rfl) Yr) (qG (wL nd (zM F__law_any_sign hr (by rfl) (qb (qj 0) qp)))
  (wu (wL nd (zQ hx (zN (qb (qj 6) (qb (qK qY (qj 6) qJ) (qb (qK qY qJ (qj 6)) (qb (jx (zQ hx (qj 3) (qj 4)) (zG qF) zH) qp))))) (zM F__law_draw hr (by rfl) (qb (qj 0) (qb qF qp))))))) yr)
  (qG (wL nd (zN (qb (Yh (qK qY (qK qY (yd (qj 3) zH (zG (qj 4))) (zN (qb (qj 5) qp))) (yd (qj 3) (zG (qK qY (qj 4) qF)) zH))) (qb (Yh (qK qY (qK qY (yd (qj 3) zH (zG (qj 4))) (zN (qb (qj 5) qp))) (yd (qj 3) (zG (qj 4)) zH))) (qb (Yh (qK qY (yd (qj 3) zH (zG (qj 4))) (yd (qj 3) (zG (qK qY (qj 4) qF)) zH))) (qb (Yh (qK qY (zN (qb qJ qp)) (qj 3))) qp))))))
  (qG (wL nd (qK qY (qj 7) (zN (qb (Yh (qK qY (qj 3) (zN (qb qJ qp)))) (qb (Yh (zN qp)) (qb (Yh (qK qY (qK qY (yd (qj 3) zH (zG qF)) (zN (qb qJ qp))) (yd (qj 3) (zG qF) zH))) (qb (Yh (qK qY (yd (qj 3) zH (zG qF)) (zN (qb qJ qp)))) qp)))))))
  (wu (wM (qK qY (qK qY (yd (qj 1) zH (zG (qj 2))) (zN (qb (Zu qJ (qb (qdc (zQ hx (qj 7) (zM F__law_draw hr (by rfl) (qb (qj 0) (qb qF qp))))) qp)) qp))) (yd (qj 1) (zG (qK qY (qj 2) qF)) zH)))))))))))
abbrev yQ : Stmt := topS 23
theorem uU : FnScope ["_law_call", "_law_fault", "_law_rows", "_law_text"] ["_law_call", "_law_fault", "_law_rows"] (defScope yQ) := ⟨rfl, rfl, rfl, by decide +kernel, rfl, by decide +kernel, by decide +kernel⟩
theorem Yi {wG qI qO qW : FS} (F__law_same : Fn P w K mg base "_law_same" k ["_law_found", "_law_due"] wG) (F__law_refused : Fn P w K mg base "_law_refused" k ["_law_call", "_law_text"] qI) (F__law_picture_fault : Fn P w K mg base "_law_picture_fault" k ["_law_text"] qO) (F__law_boxes_fault : Fn P w K mg base "_law_boxes_fault" k ["_law_text"] qW) (fv__law_picture_fault : Fv K mg "_law_picture_fault") (fv__law_boxes_fault : Fv K mg "_law_boxes_fault")
 (hr : Room k (A.deeper (envOfC "_law_right" (defScope yQ) s.heap.objs.size f cdv))) :
 DSs (cxOf CX0 P w K mg base ["_law_call", "_law_fault", "_law_rows", "_law_text"] "_law_right" (defScope yQ) f cdv A outer s H E).nox (defBody yQ) (jR wG qI qO qW) := by
 refine rk hr fun hx => ?_
 have nd := uU.nd
 exact (qG (wL nd (Zu qJ (qb (qj 2) qp)))
  (wu (wM (zM F__law_same hr (by rfl) (qb (zM F__law_refused hr (by rfl) (qb (qj 0) (qb (qj 3) qp))) (qb (qdg 1 F__law_picture_fault F__law_boxes_fault fv__law_picture_fault fv__law_boxes_fault hr hr (qb (qj 3) qp)) qp))))))
abbrev W9 : Stmt := topS 24
theorem qbK : FnScope ["_law_script", "_law_k", "_law_tape_here", "_law_many", "_law_wide", "_law_picture", "_law_boxes", "_law_turn", "_law_bent", "_law_other", "_law_end", "_law_row", "_law_j"] ["_law_script"] (defScope W9) := ⟨rfl, rfl, rfl, by decide +kernel, rfl, by decide +kernel, by decide +kernel⟩
theorem qgl {qI wI qw qN qU ym : FS} (F__law_refused : Fn P w K mg base "_law_refused" k ["_law_call", "_law_text"] qI) (F__law_right : Fn P w K mg base "_law_right" k ["_law_call", "_law_fault", "_law_rows"] wI) (F__law_draw : Fn P w K mg base "_law_draw" k ["_law_tape_here", "_law_many"] qw) (F__law_bent_picture : Fn P w K mg base "_law_bent_picture" k ["_law_tape_here", "_law_rows"] qN) (F__law_bent_boxes : Fn P w K mg base "_law_bent_boxes" k ["_law_tape_here", "_law_rows"] qU) (F__law_tape : Fn P w K mg base "_law_tape" k ["_law_script", "_law_k"] ym) (m_len : mg "len" = none) (m_min : mg "min" = none) (m_range : mg "range" = none) (m_int : mg "int" = none) (m_str : mg "str" = none) (fv_boxes_in : Fv K mg "boxes_in") (fv_room_in : Fv K mg "room_in") (fv__law_boxes_fault : Fv K mg "_law_boxes_fault") (fv__law_picture_fault : Fv K mg "_law_picture_fault") (hg : A.guards = some [])
 (hr : Room k (A.deeper (envOfC "law" (defScope W9) s.heap.objs.size f cdv))) :
 DSs (cxOf CX0 P w K mg base ["_law_script", "_law_k", "_law_tape_here", "_law_many", "_law_wide", "_law_picture", "_law_boxes", "_law_turn", "_law_bent", "_law_other", "_law_end", "_law_row", "_law_j"] "law" (defScope W9) f cdv A outer s H E).nox (defBody W9) (qcx qI wI qw qN qU ym) := by
 refine rk hr fun hx => ?_
 have nd := qbK.nd
 exact (qG (Jz hx (jw (qK qY qF (qR (qdk hx) (by rfl) m_min (by decide +kernel) (qb qF (qb (qR yF (by rfl) m_len (by decide +kernel) (qb (qj 0) qp)) qp)))) m_range) (wF nd) (qG (wL nd (zM F__law_tape hr (by rfl) (qb (qj 0) (qb (qj 1) qp))))
  (qG (wL nd (zQ hx (zN (qb (qK qY qF (zM F__law_draw hr (by rfl) (qb (qj 2) (qb qF qp)))) (qb (qK qY qF (zM F__law_draw hr (by rfl) (qb (qj 2) (qb qF qp)))) qp))) (yS JN (by rfl) m_int (by decide +kernel) (qb (yD (jE hx) (zM F__law_draw hr (by rfl) (qb (qj 2) (qb qF qp))) qF (by rfl)) qp))))
  (qG (wL nd (qK qY qF (zM F__law_draw hr (by rfl) (qb (qj 2) (qb qF qp)))))
  (qG (Zr (own := [("_law_row", 11)]) (ts := [11]) hx nd (by rfl) (jw (qj 3) m_range) (blkOk_by (own := [("_law_row", 11)]) (N := ["_law_script", "_law_k", "_law_tape_here", "_law_many", "_law_wide", "_law_picture", "_law_boxes", "_law_turn", "_law_bent", "_law_other", "_law_end", "_law_row", "_law_j"]) (sc := defScope W9) (by decide +kernel)) (fun _ _ _ _ _ => (wF nd)) (fun _ _ _ _ _ => xZ) (fun _ _ _ _ _ => (Zu qJ (qb (Wl (own := [("_law_j", 12)]) (ts := [12]) (hx).blk nd (jw (qj 4) m_range) (JW (own := [("_law_j", 12)]) (N := ["_law_script", "_law_k", "_law_tape_here", "_law_many", "_law_wide", "_law_picture", "_law_boxes", "_law_turn", "_law_bent", "_law_other", "_law_end", "_law_row", "_law_j"]) (sc0 := defScope W9) rfl (by decide +kernel)) (fun _ _ _ _ _ => (wF nd)) (fun _ _ _ _ _ => xZ) (fun _ _ _ _ _ => (zQ ((hx).blk).blk qJ (zM F__law_draw hr (by rfl) (qb (qj 2) (qb qF qp))))) (by decide)) qp))) (by decide))
  (qG (Zr (own := [("_law_row", 11)]) (ts := [11]) hx nd (by rfl) (jw (qj 3) m_range) (blkOk_by (own := [("_law_row", 11)]) (N := ["_law_script", "_law_k", "_law_tape_here", "_law_many", "_law_wide", "_law_picture", "_law_boxes", "_law_turn", "_law_bent", "_law_other", "_law_end", "_law_row", "_law_j"]) (sc := defScope W9) (by decide +kernel)) (fun _ _ _ _ _ => (wF nd)) (fun _ _ _ _ _ => xZ) (fun _ _ _ _ _ => (Zu qJ (qb (Wl (own := [("_law_j", 12)]) (ts := [12]) (hx).blk nd (jw qF m_range) (JW (own := [("_law_j", 12)]) (N := ["_law_script", "_law_k", "_law_tape_here", "_law_many", "_law_wide", "_law_picture", "_law_boxes", "_law_turn", "_law_bent", "_law_other", "_law_end", "_law_row", "_law_j"]) (sc0 := defScope W9) rfl (by decide +kernel)) (fun _ _ _ _ _ => (wF nd)) (fun _ _ _ _ _ => xZ) (fun _ _ _ _ _ => (yS (qeR ((hx).blk).blk hg) (by rfl) m_str (by decide +kernel) (qb (qK qY (zM F__law_draw hr (by rfl) (qb (qj 2) (qb qF qp))) (yS JN (by rfl) m_int (by decide +kernel) (qb (yD Ut (qj 12) qF (by rfl)) qp))) qp))) (by decide)) qp))) (by decide))
  (qG (Jz hx (jw qF m_range) (wF nd) (qG (qb7 hx nd (by decide) (qb (zM F__law_bent_picture hr (by rfl) (qb (qj 2) (qb (qj 5) qp))) (qb (zM F__law_bent_boxes hr (by rfl) (qb (qj 2) (qb (qj 6) qp))) qp)))
  (qG (ju (yc (jE hx) (zM F__law_draw hr (by rfl) (qb (qj 2) (qb qF qp))) qF (by rfl) Yr) (wu (qb7 hx nd (by decide) (qb (zM F__law_bent_picture hr (by rfl) (qb (qj 2) (qb (qj 8) qp))) (qb (zM F__law_bent_boxes hr (by rfl) (qb (qj 2) (qb (qj 9) qp))) qp)))) yr)
  (qG (wL nd (zQ hx (zN (qb (zN (qb qJ qp)) (qb (zN qp) qp))) (yS JN (by rfl) m_int (by decide +kernel) (qb (yD Ut (zM F__law_draw hr (by rfl) (qb (qj 2) (qb qF qp))) qF (by rfl)) qp))))
  (qG (ju (vh (j5 (zM F__law_right hr (by rfl) (qb (Wm fv_room_in) (qb (Wm fv__law_picture_fault) (qb (qK qY (qj 8) (qj 10)) qp)))))) (wu (wM qaH)) yr)
  (wu (ju (vh (j5 (zM F__law_right hr (by rfl) (qb (Wm fv_boxes_in) (qb (Wm fv__law_boxes_fault) (qb (qK qY (qj 9) (qj 10)) qp)))))) (wu (wM qaH)) yr)))))))
  (wu (ju (DW.dt (Yg (vh (j5 (zM F__law_right hr (by rfl) (qb (Wm fv_room_in) (qb (Wm fv__law_picture_fault) (qb (qj 5) qp)))))) (WL (vh (j5 (zM F__law_right hr (by rfl) (qb (Wm fv_boxes_in) (qb (Wm fv__law_boxes_fault) (qb (qj 6) qp))))))))) (wu (wM qaH)) yr)))))))))
  (wu (wM (uC (yD (jE hx) (zM F__law_refused hr (by rfl) (qb (Wm fv_room_in) (qb qJ qp))) qF (by rfl)) (vm (yD (jE hx) (zM F__law_refused hr (by rfl) (qb (Wm fv_boxes_in) (qb qJ qp))) qF (by rfl)))))))
end
end K42
namespace BX
open PySem PySem.Spec PyProof.Rows L2
structure XeC (K : PySem.W.Frag) (C fI B : Addr) (fl : Str) : Prop where
 o : OexC K C
 i : PySem.W.findIn K (.ref C) "__init__" = some (some (.ref fI))
 t : PySem.W.typeIn K (.ref fI) = some (.type "function")
 n : PySem.W.findIn K (.ref C) fl = some none
 g : PySem.W.specialIn K (.ref B) "__getattribute__" = some (some (.builtin "type.__getattribute__"))
 r : PySem.W.readsIn K B (.type "type") = true
 v : PySem.W.findCls K (.ref B) (.type "type") "__init__" = some (.val (.builtin "ValueError.__init__"))
 x : XfC K C
theorem qgd {K : PySem.W.Frag} {C fI B N : Addr} {fl nm q : Str} {bs bm : List Value} {sn : List Str} {sub : List Value} {ab : Bool} {col : Option Bool} {dd : Option Addr} {k0 k1 k2 k3 k5 : Option Value}
 (i : PySem.W.findIn K (.ref C) "__init__" = some (some (.ref fI)))
 (l : K.lookup C = some { cls := .type "type", dict := dd, data := .cls { name := nm, bases := bs, mro := .ref C :: bm, ns := N, qualname := q, hasDict := true, slotNames := sn, subclasses := sub, abstract := ab, collection := col, hasDel := false }, slots := #[k0, k1, k2, k3, some (.builtin "ValueError.__new__"), k5] })
 (m : PySem.HandSPX.refsVE bm = true) (sa : PySem.W.findIn K (.ref C) "__setattr__" = some (some (.builtin "object.__setattr__"))) (ex : PySem.W.subIn K (.ref C) (.type "BaseException") = some true) (ty : PySem.W.typeIn K (.ref C) = some (.type "type")) (kp : PySem.W.keepIn K (.ref C) = true)
 (t : PySem.W.typeIn K (.ref fI) = some (.type "function")) (n : PySem.W.findIn K (.ref C) fl = some none)
 (g : PySem.W.specialIn K (.ref B) "__getattribute__" = some (some (.builtin "type.__getattribute__"))) (r : PySem.W.readsIn K B (.type "type") = true) (v : PySem.W.findCls K (.ref B) (.type "type") "__init__" = some (.val (.builtin "ValueError.__init__")))
 (ga : PySem.W.findIn K (.ref C) "__getattribute__" = some (some (.builtin "BaseException.__getattribute__"))) (gg : PySem.W.findIn K (.ref C) "__getattr__" = some none) (hd : PySem.W.hasDictIn K C = true) : XeC K C fI B fl :=
 ⟨⟨⟨nm, q, N, bs, bm, sn, sub, ab, col, dd, k0, k1, k2, k3, k5, l, m⟩, sa, ex, ty, kp⟩, i, t, n, g, r, v, ⟨ga, gg, ex, hd⟩⟩
structure FiC (K : PySem.W.Frag) (q : Str) (st : Stmt) (fI : Addr) : Prop where
 ex : ∃ fd, Fun K "__init__" q st fI fd ∧ Binds K fd ["self", "line"] []
theorem qge {K : PySem.W.Frag} {q : Str} {st : Stmt} {f : Addr} {oc : Value} {od an : Option Addr} {sl : Array (Option Value)} {kV dc pm cd ct : Value} (l : K.lookup f = some ⟨oc, od, .func (PySem.W.fnOf "__init__" q (defArgs st) (defBody st) (defScope st) .none kV dc pm an cd ct), sl⟩) (c : PySem.W.codeIn K cd q = true) (k : PySem.W.keepIn K (.ref f) = true)
 (hb : ∀ (kV doc pm : Value) (an : Option Addr) (cdv ct : Value) (us : List Value), us.length = 2 → bindArgs (PySem.W.fnOf "__init__" q (defArgs st) (defBody st) (defScope st) Value.none kV doc pm an cdv ct) { pos := us } = pure ((["self", "line"] : List Str).zip us)) : FiC K q st f :=
 let U := fun_mk (st := st) l c k
 ⟨_, U, U.binds (ps := ["self", "line"]) fun _ _ _ _ _ _ us hl => hb _ _ _ _ _ _ us hl⟩
section
variable {P : Program} {w : World} {K : PySem.W.Frag} {mg : Str → Option Value} {base h : Heap} {n m q x b : Str} {C B fI : Addr} {st s1 s2 : Stmt} {k : Nat}
theorem qbo {f : Addr} (X : K.In h) (G : h.Ns mainGlobals mg) (a : PySem.W.nsIn K mainGlobals x = some (some (.ref f))) : Fv K mg x := ⟨f, PySem.W.mg_of X G a, a⟩
theorem qga (a : PySem.W.nsIn K mainGlobals n = some (some (.ref C))) {fl : Str} (e : XeC K C fI B fl) : XfM K n fl := ⟨fun D hD => by
 have := Option.some.inj (Option.some.inj (a.symm.trans hD))
 cases this
 exact ⟨e.x, e.n⟩⟩
theorem qev (X : K.In h) (G : h.Ns mainGlobals mg) (a : PySem.W.nsIn K mainGlobals n = some (some (.ref C))) (aB : PySem.W.nsIn K mainGlobals b = some (some (.ref B))) (e : XeC K C fI B "line") (U : FiC K q st fI) (Sc : FnScope ["self", "line"] ["self", "line"] (defScope st)) (hb : defBody st = [s1, s2])
 (h1 : mg b = some (.ref B) → ∀ (f : Addr) (cdv : Value) (A : Around) (outer : List PySem.Env) (s : Shared) (H : Hp) (E : XK), PS (cxOf CX0 P w K mg base ["self", "line"] q (defScope st) f cdv A outer s H E).nox s1 (tDrop (tVeI K (tCons (tVar 0) (tCons (tC (.str m)) tNil)))))
 (h2 : ∀ (f : Addr) (cdv : Value) (A : Around) (outer : List PySem.Env) (s : Shared) (H : Hp) (E : XK), PS (cxOf CX0 P w K mg base ["self", "line"] q (defScope st) f cdv A outer s H E).nox s2 (tOst K "line" (tVar 0) (tVar 1))) (hk : 2 ≤ k) : RsU P w K mg base k n := by
 obtain ⟨fd, U, ub⟩ := U.ex
 exact ⟨1, hk, ⟨C, fI, fd, PySem.W.mg_of X G a, a, e.o, e.i, e.t, e.n, qeH U Sc hb (h1 (PySem.W.mg_of X G aB) fI) (h2 fI), ub⟩⟩
end
end BX
namespace K42
open PySem PySem.Spec PyProof.Rows L2 BX TX COM BC
theorem YH : ∀ ds Q, wG.wp ds Q → (j7 1).wp ds Q := fun ds Q h => by
 obtain ⟨⟨x, y⟩, kr, rfl, ⟨hxy, hs, h⟩, q⟩ := h
 have hxy : x = y := hxy
 subst hxy
 exact ⟨x, rfl, hs, q true h⟩
section
variable {P : Program} {w : World} {K : PySem.W.Frag} {mg : Str → Option Value} {base : Heap} {x y : Str} {st : Stmt} {N ps : List Str} {j k : Nat} {S : FS} {t : XS} {h : Heap}
theorem fu (F : Fn P w K mg base x j ps S) (h : j ≤ k := by decide) : Fn P w K mg base x k ps S :=
 let ⟨f, fd, a, b⟩ := F.ex; ⟨⟨f, fd, a.mono h, b⟩, F.mono⟩
structure Fr (K : PySem.W.Frag) (x y : Str) (st : Stmt) : Prop where
 ex : ∃ f fd, PySem.W.nsIn K mainGlobals x = some (some (.ref f)) ∧ Fun K y y st f fd
theorem fr {f : Addr} {oc : Value} {od an : Option Addr} {sl : Array (Option Value)} {kV dc pm cd ct : Value} (a : PySem.W.nsIn K mainGlobals x = some (some (.ref f))) (l : K.lookup f = some ⟨oc, od, .func (PySem.W.fnOf y y (defArgs st) (defBody st) (defScope st) .none kV dc pm an cd ct), sl⟩) (c : PySem.W.codeIn K cd y = true) (k : PySem.W.keepIn K (.ref f) = true) : Fr K x y st :=
 ⟨_, _, a, fun_mk l c k⟩
structure Bs (P : Program) (w : World) (K : PySem.W.Frag) (mg : Str → Option Value) (base : Heap) : Prop where
 ex : ∃ h, K.In h ∧ h.Ns mainGlobals mg
abbrev DerF (P : Program) (w : World) (K : PySem.W.Frag) (mg : Str → Option Value) (base : Heap) (N : List Str) (y : Str) (st : Stmt) (k : Nat) (t : XS) : Prop :=
 ∀ (f : Addr) (cdv : Value) (A : Around) (outer : List PySem.Env) (s : Shared) (H : Hp) (E : XK), Room k (A.deeper (envOfC y (defScope st) s.heap.objs.size f cdv)) → DSs (cxOf CX0 P w K mg base N y (defScope st) f cdv A outer s H E).nox (defBody st) t
abbrev DerG (P : Program) (w : World) (K : PySem.W.Frag) (mg : Str → Option Value) (base : Heap) (N : List Str) (y : Str) (st : Stmt) (k : Nat) (t : XS) : Prop :=
 ∀ (f : Addr) (cdv : Value) (A : Around) (outer : List PySem.Env) (s : Shared) (H : Hp) (E : XK), Room k (A.deeper (envOfC y (defScope st) s.heap.objs.size f cdv)) → A.guards = some [] → DSs (cxOf CX0 P w K mg base N y (defScope st) f cdv A outer s H E).nox (defBody st) t
abbrev HbO (y : Str) (st : Stmt) (ps : List Str) : Prop := ∀ (kV doc pm : Value) (an : Option Addr) (cdv ct : Value) (us : List Value), us.length = ps.length → bindArgs (PySem.W.fnOf y y (defArgs st) (defBody st) (defScope st) Value.none kV doc pm an cdv ct) { pos := us } = pure (ps.zip us)
theorem fm (k : Nat) (Z : Bs P w K mg base) (r : Fr K x y st) (Sc : FnScope N ps (defScope st)) (D : DerF P w K mg base N y st k t) (B : BodyOk S N.length t) (M : uM S)
 (hb : HbO y st ps := by intro _ _ _ _ _ _ us hl; rcases us with _ | ⟨_, _ | ⟨_, _ | ⟨_, _ | ⟨_, _ | ⟨_, _ | ⟨_, us⟩⟩⟩⟩⟩⟩ <;> first | (simp at hl; done) | rfl) (hms : S.ms.length = ps.length := by rfl) (okm : ∀ m ∈ S.ms, m ≠ .own ∧ m ≠ .lk := by decide) : Fn P w K mg base x (k + 1) ps S := by
 obtain ⟨h, X, G⟩ := Z.ex; obtain ⟨f, fd, a, U⟩ := r.ex
 exact ⟨⟨f, fd, qat U Sc hms okm (D f) B, PySem.W.mg_of X G a, U.kp, U.binds hb⟩, M⟩
theorem xm (k : Nat) (Z : Bs P w K mg base) (r : Fr K x y st) (Sc : FnScope N ps (defScope st)) (D : DerX P w K mg base N y st k t) (B : vO S N.length t) (M : uM S)
 (hb : HbX y st ps := by intro _ _ _ _ _ _ us hl; rcases us with _ | ⟨_, _ | ⟨_, _ | ⟨_, _ | ⟨_, _ | ⟨_, _ | ⟨_, us⟩⟩⟩⟩⟩⟩ <;> first | (simp at hl; done) | rfl) (hms : S.ms.length = ps.length := by rfl) (okm : RoMs S.ms := by unfold RoMs; decide) (hne : S.ms ≠ [] := by decide) : FnX P w K mg base x (k + 1) ps S := by
 obtain ⟨h, X, G⟩ := Z.ex; obtain ⟨f, fd, a, U⟩ := r.ex
 exact fmX k X G a U Sc D B M hb hms okm hne
theorem rm {SN : Nat → FS} {tN : Nat → XS} (k n : Nat) (Z : Bs P w K mg base) (r : Fr K x y st) (Sc : FnScope N ps (defScope st)) (zero : ∀ ds Q, ¬ (SN 0).wp ds Q) (D : ∀ n, Fn P w K mg base x (k + n) ps (SN n) → DerF P w K mg base N y st (k + n) (tN n)) (B : ∀ n, BodyOk (SN (n + 1)) N.length (tN n)) (M : ∀ n, uM (SN n)) (okm : ∀ n, ∀ m ∈ (SN n).ms, m ≠ .own ∧ m ≠ .lk)
 (hb : HbO y st ps := by intro _ _ _ _ _ _ us hl; rcases us with _ | ⟨_, _ | ⟨_, _ | ⟨_, _ | ⟨_, _ | ⟨_, _ | ⟨_, us⟩⟩⟩⟩⟩⟩ <;> first | (simp at hl; done) | rfl) (hms : ∀ n, (SN n).ms.length = ps.length := by intro n; rfl) : Fn P w K mg base x (k + n) ps (SN n) := by
 obtain ⟨h, X, G⟩ := Z.ex; obtain ⟨f, fd, a, U⟩ := r.ex
 induction n with
 | zero => exact ⟨⟨f, fd, ⟨fun vs H Q E h => by obtain ⟨h, _⟩ := h; exact h.trans (hms 0), fun A outer s H args us vs Q E _ _ _ _ h => by obtain ⟨_, _, _, _, _, h⟩ := h; exact (zero _ _ h).elim⟩, PySem.W.mg_of X G a, U.kp, U.binds hb⟩, M 0⟩
 | succ n F => exact ⟨⟨f, fd, qat U Sc (hms _) (okm _) (D n F f) (B n), PySem.W.mg_of X G a, U.kp, U.binds hb⟩, M _⟩
theorem lawg {fa : Addr} (X : K.In h) (G : h.Ns mainGlobals mg) (hfa : mg "law" = some (.ref fa)) (r : Fr K "law" "law" st) (hb : ∀ (s : Shared) (v kV doc pm : Value) (an : Option Addr) (cdv ct : Value), BindsTo s (PySem.W.fnOf "law" "law" (defArgs st) (defBody st) (defScope st) Value.none kV doc pm an cdv ct) ⟨[v], []⟩ [("_law_script", v)])
 (Sc : FnScope N ["_law_script"] (defScope st)) (D : ∀ base, Bs P w K mg base → DerG P w K mg base N "law" st k t) (B : BodyOk S N.length t) (hms : S.ms.length = 1 := by rfl) (okm : ∀ m ∈ S.ms, m ≠ .own ∧ m ≠ .lk := by decide) : ∃ fd : FuncData, (∀ (s : Shared) (v : Value), BindsTo s fd ⟨[v], []⟩ [("_law_script", v)]) ∧ ∀ base : Heap, K.In base → base.Ns mainGlobals mg → FnG P w K mg base (k + 1) fa fd ["_law_script"] (spOf K S) := by
 obtain ⟨f, fd, a, U⟩ := r.ex
 have e := hfa.symm.trans (PySem.W.mg_of X G a)
 cases e
 have U' := U
 obtain ⟨oc, od, kV, dc, pm, an, cd, ct, sl, rfl, _, _⟩ := U'.ex
 exact ⟨_, fun s v => hb s v kV dc pm an cd ct, fun base _ _ => qc7 U Sc hms okm (D base ⟨h, X, G⟩ _) B⟩
theorem sp_law {K : PySem.W.Frag} {H : Hp} {a : Addr} {ns : List Int} (hs : SqL K H a (ns.map V.int)) {E : XK} : spOf K Xy [.ref a] H (fun v _ => v = .bl true) E := by
 have ri : ∀ ns : List Int, Reps K H 2 (ns.map D.int) (ns.map V.int) [] := fun ns => by
  induction ns with
  | nil => exact .nil
  | cons n ns ih => exact .cons (f := []) (g := []) (.int n) ih fun z => by cases z
 have rp : ∃ g, Rep K H 2 (.lst (ns.map D.int)) (.ref a) g := by
  rcases hs with (h | ⟨o, h⟩) | h
  ·exact ⟨_, .lst h (ri ns) fun z => by cases z⟩
  ·exact ⟨_, .lstF (Nat.le_refl _) (.inl ⟨o, h⟩) (ri ns)⟩
  ·exact ⟨_, .lstF (Nat.le_refl _) (.inr h) (ri ns)⟩
 obtain ⟨g, rp⟩ := rp
 refine ⟨rfl, [.lst (ns.map .int)], fun _ => g, rfl, ⟨fun i d m e => ?_, fun i j d m d' m' hij e1 e2 => ?_, rfl⟩, ns, fun b => b = true, rfl, qgh ns rfl, ?_⟩
 ·match i, e with
  | 0, e => cases e; exact ⟨_, rfl, rp⟩
  | i + 1, e => simp [penv, Xy, mkS] at e
 ·match i, j, e1, e2 with
  | 0, 0, _, _ => exact absurd rfl hij
  | 0, j + 1, _, e2 => simp [penv, Xy, mkS] at e2
  | i + 1, _, e1, _ => simp [penv, Xy, mkS] at e1
 ·intro b hb v H' f' g' _ _ r _ _ _
  subst hb
  cases r
  rfl
end
set_option maxHeartbeats 0 in
theorem qe3 {l : PySem.W.OpenLaw} {w : World} {K : PySem.W.Frag} {h : Heap} {mg : Str → Option Value} {fa : Addr} (X : K.In h) (G : h.Ns mainGlobals mg) (hfa : mg "law" = some (.ref fa))
 (r1 : Fr K "is_picture_row" "is_picture_row" w6)
 (r2 : Fr K "room_in" "room_in" ye)
 (r3 : Fr K "is_number_word" "is_number_word" za)
 (r4 : Fr K "box_in" "box_in" jC)
 (r5 : Fr K "boxes_in" "boxes_in" zX)
 (r6 : Fr K "_law_tape" "_law_tape" xH)
 (r7 : Fr K "_law_draw" "_law_draw" xJ)
 (r8 : Fr K "_law_same" "_law_same" yL)
 (r9 : Fr K "_law_refused" "_law_refused" yu)
 (r10 : Fr K "_law_picture_fault" "_law_picture_fault" ww)
 (r11 : Fr K "_law_is_number" "_law_is_number" zb)
 (r12 : Fr K "_law_boxes_fault" "_law_boxes_fault" wJ)
 (r13 : Fr K "_law_any_sign" "_law_any_sign" yf)
 (r14 : Fr K "_law_bent_picture" "_law_bent_picture" wU)
 (r15 : Fr K "_law_bent_boxes" "_law_bent_boxes" zu)
 (r16 : Fr K "_law_right" "_law_right" yQ)
 (r17 : Fr K "law" "law" W9)
 {tk0 : Tok}
 {C_BoxError C_BadRow C_NoChord C_NoRoom : Addr}
 (xd_BoxError : Xd K "BoxError" C_BoxError)
 (xd_BadRow : Xd K "BadRow" C_BadRow)
 (xd_NoChord : Xd K "NoChord" C_NoChord)
 (xd_NoRoom : Xd K "NoRoom" C_NoRoom)
 (xf_BadRow : XcF K C_BadRow)
 (s_BadRow_BoxError : PySem.W.subIn K (.ref C_BadRow) (.ref C_BoxError) = some true)
 (s_BadRow_BadRow : PySem.W.subIn K (.ref C_BadRow) (.ref C_BadRow) = some true)
 (s_BadRow_NoChord : PySem.W.subIn K (.ref C_BadRow) (.ref C_NoChord) = some false)
 (s_BadRow_NoRoom : PySem.W.subIn K (.ref C_BadRow) (.ref C_NoRoom) = some false)
 (t_BadRow_ValueError : PySem.W.subIn K (.ref C_BadRow) (.type "ValueError") = some true)
 (zx_ValueError : PySem.W.nsIn K mainGlobals "ValueError" = some none)
 (nx_ValueError : PySem.W.subIn K (.type "NoneType") (.type "ValueError") = some false)
 {fi_BadRow : Addr} (xe_BadRow : XeC K C_BadRow fi_BadRow C_BoxError "line") (xi_BadRow : FiC K "BadRow.__init__" (inClass (topS 4) 0) fi_BadRow)
 (ggFIGURES : PySem.W.nsIn K mainGlobals "FIGURES" = some (some (.str (Str.ofString "0123456789") tk0)))
 (z1 : PySem.W.nsIn K mainGlobals "all" = some none)
 (z2 : PySem.W.nsIn K mainGlobals "len" = some none)
 (z3 : PySem.W.nsIn K mainGlobals "sorted" = some none)
 (z4 : PySem.W.nsIn K mainGlobals "tuple" = some none)
 (z5 : PySem.W.nsIn K mainGlobals "enumerate" = some none)
 (z6 : PySem.W.nsIn K mainGlobals "int" = some none)
 (z7 : PySem.W.nsIn K mainGlobals "abs" = some none)
 (z8 : PySem.W.nsIn K mainGlobals "isinstance" = some none)
 (z9 : PySem.W.nsIn K mainGlobals "bool" = some none)
 (z10 : PySem.W.nsIn K mainGlobals "str" = some none)
 (z11 : PySem.W.nsIn K mainGlobals "list" = some none)
 (z12 : PySem.W.nsIn K mainGlobals "zip" = some none)
 (z13 : PySem.W.nsIn K mainGlobals "min" = some none)
 (z14 : PySem.W.nsIn K mainGlobals "range" = some none)
 : ∃ fd : FuncData, (∀ (s : Shared) (v : Value), BindsTo s fd ⟨[v], []⟩ [("_law_script", v)]) ∧ ∀ base : Heap, K.In base → base.Ns mainGlobals mg → FnG l.prog w K mg base 6 fa fd ["_law_script"] (spOf K Xy) := by
 have cl_BoxError := xd_BoxError.cl (ns := ["BadRow"]) X G (Wb (xd_BadRow.exm xd_BoxError s_BadRow_BoxError) all_nil)
 have xk_BadRow := xd_BadRow.xk (tab := [("BadRow", true)]) X G (Wb (xd_BadRow.yes xf_BadRow xd_BadRow s_BadRow_BadRow) all_nil)
 have xk_ValueError := qeu (T := "ValueError") (x := "ValueError") (tab := [("BadRow", true)]) X G zx_ValueError (qbq rfl (by decide) nx_ValueError) (Wb (xd_BadRow.ty xf_BadRow (by rfl) t_BadRow_ValueError) all_nil)
 have xk_NoChord := xd_NoChord.xk (tab := [("BadRow", false)]) X G (Wb (xd_BadRow.no xf_BadRow xd_NoChord s_BadRow_NoChord) all_nil)
 have xk_NoRoom := xd_NoRoom.xk (tab := [("BadRow", false)]) X G (Wb (xd_BadRow.no xf_BadRow xd_NoRoom s_BadRow_NoRoom) all_nil)
 have xm_BadRow : XfM K "BadRow" "line" := qga xd_BadRow.a xe_BadRow
 have fv_room_in : Fv K mg "room_in" := let ⟨_, _, a, _⟩ := r2.ex; qbo X G a
 have fv_boxes_in : Fv K mg "boxes_in" := let ⟨_, _, a, _⟩ := r5.ex; qbo X G a
 have fv__law_picture_fault : Fv K mg "_law_picture_fault" := let ⟨_, _, a, _⟩ := r10.ex; qbo X G a
 have fv__law_boxes_fault : Fv K mg "_law_boxes_fault" := let ⟨_, _, a, _⟩ := r12.ex; qbo X G a
 have g_FIGURES : Gv K mg "FIGURES" Q8 := ⟨_, PySem.W.mg_of X G ggFIGURES, (qeE _ _)⟩
 have m_all := PySem.W.mg_none_of X G z1
 have m_len := PySem.W.mg_none_of X G z2
 have m_sorted := PySem.W.mg_none_of X G z3
 have m_tuple := PySem.W.mg_none_of X G z4
 have m_enumerate := PySem.W.mg_none_of X G z5
 have m_int := PySem.W.mg_none_of X G z6
 have m_abs := PySem.W.mg_none_of X G z7
 have m_isinstance := PySem.W.mg_none_of X G z8
 have m_bool := PySem.W.mg_none_of X G z9
 have m_str := PySem.W.mg_none_of X G z10
 have m_list := PySem.W.mg_none_of X G z11
 have m_zip := PySem.W.mg_none_of X G z12
 have m_min := PySem.W.mg_none_of X G z13
 have m_range := PySem.W.mg_none_of X G z14
 refine lawg (k := 5) X G hfa r17 (fun _ _ _ _ _ _ _ _ => .of_eq rfl) qbK (fun base Z _ _ _ _ _ _ _ hr hg => ?_) qfS
 have ru_BadRow : ∀ k, 2 ≤ k → RsU l.prog w K mg base k "BadRow" := fun k hk => qev X G xd_BadRow.a xd_BoxError.a xe_BadRow xi_BadRow (⟨rfl, rfl, rfl, by decide +kernel, rfl, by decide +kernel, by decide +kernel⟩ : FnScope ["self", "line"] ["self", "line"] (defScope (inClass (topS 4) 0))) rfl (fun hm _ _ _ _ _ _ _ => ps_expr (VR (by rfl) hm xe_BadRow.g xe_BadRow.r xe_BadRow.v (pa_cons (pe_var (i := 0) (by rfl) (Or.inl rfl)) (pa_cons pe_str pa_nil)))) (fun _ _ _ _ _ _ _ => ps_ost (pe_var (i := 0) (by rfl) (Or.inl rfl)) (pe_var (i := 1) (by rfl) (Or.inl rfl))) hk
 have F_is_picture_row := fm (S := BC.wz) 0 Z r1 ji (fun _ _ _ _ _ _ _ hr => v9 m_all m_len hr) BC.vZ wW
 have F_room_in := xm (S := yH) 2 Z r2 Wt (fun _ _ _ _ _ _ _ hr => qaJ (fu F_is_picture_row) m_sorted m_tuple m_enumerate m_len (ru_BadRow _ (by decide)) hr) Vu wW
 have F_is_number_word := fm (S := wA) 0 Z r3 jj (fun _ _ _ _ _ _ _ hr => Qa m_len m_all g_FIGURES hr) v4 wW
 have F_box_in := fm (S := xU) 1 Z r4 ZP (fun _ _ _ _ _ _ _ hr => qbC (fu F_is_number_word) m_int m_tuple m_all m_len hr) qa6 wW
 have F_boxes_in := xm (S := yo) 2 Z r5 QD (fun _ _ _ _ _ _ _ hr => UL (fu F_box_in) m_enumerate (ru_BadRow _ (by decide)) hr) Uo wW
 have F__law_tape := fm (S := BC.ym) 0 Z r6 vQ (fun _ _ _ _ _ _ _ hr => Xp m_abs m_int m_len hr) BC.YJ wW
 have F__law_draw := fm (S := BC.qw) 0 Z r7 vU (fun _ _ _ _ _ _ _ hr => Xr  hr) BC.YK wW
 have F__law_same := rm (SN := j7) 0 1 Z r8 vR (fun _ _ h => by obtain ⟨_, _, z, _⟩ := h; exact z.elim) (fun n F _ _ _ _ _ _ _ hr => Xq F m_isinstance m_bool m_int m_str m_list m_tuple m_zip m_all m_len hr) qeZ qex (fun _ => by show ∀ m ∈ [Md.cst, Md.cst], m ≠ .own ∧ m ≠ .lk; decide)
 have F__law_same := qeG (S' := wG) F__law_same rfl (YH) wW
 have F__law_refused := fm (S := qI) 3 Z r9 jU (fun _ _ _ _ _ _ _ hr => Wn (fux F_room_in) (fux F_boxes_in) m_isinstance fv_room_in fv_boxes_in xm_BadRow cl_BoxError xk_BadRow xk_ValueError xk_NoChord xk_NoRoom hr) We wW
 have F__law_picture_fault := fm (S := qO) 0 Z r10 yP (fun _ _ _ _ _ _ _ hr => uv m_enumerate m_len hr) uo wW
 have F__law_is_number := fm (S := wC) 0 Z r11 jk (fun _ _ _ _ _ _ _ hr => Qc m_len hr) v5 wW
 have F__law_boxes_fault := fm (S := qW) 1 Z r12 xG (fun _ _ _ _ _ _ _ hr => vp (fu F__law_is_number) m_enumerate m_all m_len hr) uO wW
 have F__law_any_sign := fm (S := qM) 1 Z r13 jM (fun _ _ _ _ _ _ _ hr => QZ (fu F__law_draw) m_len hr) Qq wW
 have F__law_bent_picture := fm (S := qN) 2 Z r14 yZ (fun _ _ _ _ _ _ _ hr => uK (fu F__law_draw) (fu F__law_any_sign) m_len hr) uG wW
 have F__law_bent_boxes := fm (S := qU) 2 Z r15 xT (fun _ _ _ _ _ _ _ hr => vK (fu F__law_draw) (fu F__law_any_sign) m_len hr) vA wW
 have F__law_right := fm (S := wI) 4 Z r16 uU (fun _ _ _ _ _ _ _ hr => Yi (fu F__law_same) (fu F__law_refused) (fu F__law_picture_fault) (fu F__law_boxes_fault) fv__law_picture_fault fv__law_boxes_fault hr) ZJ wW
 exact qgl (fu F__law_refused) (fu F__law_right) (fu F__law_draw) (fu F__law_bent_picture) (fu F__law_bent_boxes) (fu F__law_tape) m_len m_min m_range m_int m_str fv_boxes_in fv_room_in fv__law_boxes_fault fv__law_picture_fault hg hr
end K42
open PySem PySem.W PyProof.Rows
set_option maxRecDepth 100000 in
set_option maxHeartbeats 0 in
theorem PySem.Challenge.cw_boxcut_k42_rows_of_no_picture_and_no_box_holds : PySem.Challenge.rw_boxcut_k42_rows_of_no_picture_and_no_box.Holds := by
 w_on; o_law; k_head; (case hw => w_witness2)
 k_fill
 refine BX.qdR (l := PySem.Challenge.rw_boxcut_k42_rows_of_no_picture_and_no_box) (n := 63) (k := 6) (x := "_law_script") (sp := fun w => BX.spOf _ K42.Xy) rfl (by decide) rfl ⟨rfl, by decide, by decide⟩ (fun w h Y => PySem.W.kIn_of Y) ?F (fun _ _ a ns hl _ hS => K42.sp_law hS)
 case F =>
  intro w mg fa h KX G hmg
  refine' K42.qe3 KX G hmg (K42.fr ?a1 ?l1 ?c1 ?k1) (K42.fr ?a2 ?l2 ?c2 ?k2) (K42.fr ?a3 ?l3 ?c3 ?k3) (K42.fr ?a4 ?l4 ?c4 ?k4) (K42.fr ?a5 ?l5 ?c5 ?k5) (K42.fr ?a6 ?l6 ?c6 ?k6) (K42.fr ?a7 ?l7 ?c7 ?k7) (K42.fr ?a8 ?l8 ?c8 ?k8) (K42.fr ?a9 ?l9 ?c9 ?k9) (K42.fr ?a10 ?l10 ?c10 ?k10) (K42.fr ?a11 ?l11 ?c11 ?k11) (K42.fr ?a12 ?l12 ?c12 ?k12) (K42.fr ?a13 ?l13 ?c13 ?k13) (K42.fr ?a14 ?l14 ?c14 ?k14) (K42.fr ?a15 ?l15 ?c15 ?k15) (K42.fr ?a16 ?l16 ?c16 ?k16) (K42.fr ?a17 ?l17 ?c17 ?k17) ⟨?xd_BoxError0, ?xd_BoxError1, ?xd_BoxError2, ?xd_BoxError3, ?xd_BoxError4, ?xd_BoxError5⟩ ⟨?xd_BadRow0, ?xd_BadRow1, ?xd_BadRow2, ?xd_BadRow3, ?xd_BadRow4, ?xd_BadRow5⟩ ⟨?xd_NoChord0, ?xd_NoChord1, ?xd_NoChord2, ?xd_NoChord3, ?xd_NoChord4, ?xd_NoChord5⟩ ⟨?xd_NoRoom0, ?xd_NoRoom1, ?xd_NoRoom2, ?xd_NoRoom3, ?xd_NoRoom4, ?xd_NoRoom5⟩ (BX.qgc ?xf_BadRow0 ?xf_BadRow1 ?xf_BadRow2 ?xf_BadRow3 ?xf_BadRow4 ?xf_BadRow5 ?xf_BadRow6 ?xf_BadRow7) ?s_BadRow_BoxError_0 ?s_BadRow_BadRow_0 ?s_BadRow_NoChord_0 ?s_BadRow_NoRoom_0 ?t_BadRow_ValueError_0 ?zx_ValueError_0 ?nx_ValueError_0 (BX.qgd ?xe_BadRow0 ?xe_BadRow1 ?xe_BadRow2 ?xe_BadRow3 ?xe_BadRow4 ?xe_BadRow5 ?xe_BadRow6 ?xe_BadRow7 ?xe_BadRow8 ?xe_BadRow9 ?xe_BadRow10 ?xe_BadRow11 ?xe_BadRow12 ?xe_BadRow13 ?xe_BadRow14) (BX.qge ?xi_BadRow0 ?xi_BadRow1 ?xi_BadRow2 (fun _ _ _ _ _ _ us hl => match us, hl with | [_, _], _ => rfl)) ?ggFIGURES ?z1 ?z2 ?z3 ?z4 ?z5 ?z6 ?z7 ?z8 ?z9 ?z10 ?z11 ?z12 ?z13 ?z14
  case a1 | l1 | c1 | k1 | a2 | l2 | c2 | k2 | a3 | l3 | c3 | k3 | a4 | l4 | c4 | k4 | a5 | l5 | c5 | k5 | a6 | l6 | c6 | k6 | a7 | l7 | c7 | k7 | a8 | l8 | c8 | k8 | a9 | l9 | c9 | k9 | a10 | l10 | c10 | k10 | a11 | l11 | c11 | k11 | a12 | l12 | c12 | k12 | a13 | l13 | c13 | k13 | a14 | l14 | c14 | k14 | a15 | l15 | c15 | k15 | a16 | l16 | c16 | k16 | a17 | l17 | c17 | k17 | xd_BoxError0 | xd_BoxError1 | xd_BoxError2 | xd_BoxError3 | xd_BoxError4 | xd_BoxError5 | xd_BadRow0 | xd_BadRow1 | xd_BadRow2 | xd_BadRow3 | xd_BadRow4 | xd_BadRow5 | xd_NoChord0 | xd_NoChord1 | xd_NoChord2 | xd_NoChord3 | xd_NoChord4 | xd_NoChord5 | xd_NoRoom0 | xd_NoRoom1 | xd_NoRoom2 | xd_NoRoom3 | xd_NoRoom4 | xd_NoRoom5 | xf_BadRow0 | xf_BadRow1 | xf_BadRow2 | xf_BadRow3 | xf_BadRow4 | xf_BadRow5 | xf_BadRow6 | xf_BadRow7 | s_BadRow_BoxError_0 | s_BadRow_BadRow_0 | s_BadRow_NoChord_0 | s_BadRow_NoRoom_0 | t_BadRow_ValueError_0 | zx_ValueError_0 | nx_ValueError_0 | xe_BadRow0 | xe_BadRow1 | xe_BadRow3 | xe_BadRow4 | xe_BadRow5 | xe_BadRow6 | xe_BadRow7 | xe_BadRow8 | xe_BadRow9 | xe_BadRow10 | xe_BadRow11 | xe_BadRow12 | xe_BadRow13 | xe_BadRow14 | xi_BadRow0 | xi_BadRow1 | xi_BadRow2 | ggFIGURES | z1 | z2 | z3 | z4 | z5 | z6 | z7 | z8 | z9 | z10 | z11 | z12 | z13 | z14 => k_is
  case xe_BadRow2 => rfl
