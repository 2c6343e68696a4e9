import PyProof.Rows.All
import Wide.All
import OpenK.AllK
import Wide.FinOn
import HandS.ForMost
import HandS.TupAny
import HandS.TupLe
import HandS.Deep
import HandS.IsInst
import PyProof.P3In
import HandS.Flow
import HandS.SortOrd
import HandS.TupSets
import HandS.Conv
import HandS.TupLen
import HandS.Small
import HandS.Zip
import KE.KDictPairs
import HandS.DictTup
import HandS.Rev
import KE.DatumOrd
import KE.DatumIndex
import KE.KDictWalk
import KE.KDictDisplayH
import KE.KEqDict
import HandS.Iter
import KE.SortData
import HandS.SetFor
import HandS.SortInts
import HandS.Strs
import PyProof.ListRange
import HandS.Text
import PyProof.StrOps2
import KE.GoesMore
import PyProof.EnumFor
import HandS.RaiseMore
import HandS.Style
import HandS.More
import KE.GoesZip
import KE.GoesEnum
import KE.KDictOf
import KE.KDictCopyH
import PyProof.AutoSeq1
import HandS.DictSubView
import KE.DataMinMax
import KE.KDictKeyed
import KE.SortKeyHeap
import HandS.SortKw
import KE.DataCmp
import KE.LtData
import PySem.Challenge.RW_boxcut_k34_outlines
set_option Elab.async false
set_option linter.all false
set_option maxRecDepth 100000
namespace BX
open PySem PySem.Spec PyProof.Rows L2
inductive NK where
 | num (i : Int) | tup (l : List NK)
mutual
def NK.beq : NK → NK → Bool
 | .num i, .num j => decide (i = j)
 | .tup l, .tup m => NK.beqL l m
 | _, _ => false
def NK.beqL : List NK → List NK → Bool
 | [], [] => true
 | a :: l, b :: m => NK.beq a b && NK.beqL l m
 | _, _ => false
end
mutual
theorem NK.beq_eq : ∀ a b : NK, NK.beq a b = true ↔ a = b
 | .num i, .num j => by rw [NK.beq, decide_eq_true_eq, NK.num.injEq]
 | .tup l, .tup m => by rw [NK.beq, NK.tup.injEq]; exact NK.beqL_eq l m
 | .num i, .tup m => by simp [NK.beq]
 | .tup l, .num j => by simp [NK.beq]
theorem NK.beqL_eq : ∀ l m : List NK, NK.beqL l m = true ↔ l = m
 | [], [] => by simp [NK.beqL]
 | a :: l, b :: m => by rw [NK.beqL, Bool.and_eq_true, NK.beq_eq a b, NK.beqL_eq l m, List.cons.injEq]
 | [], b :: m => by simp [NK.beqL]
 | a :: l, [] => by simp [NK.beqL]
end
instance : DecidableEq NK := fun a b => decidable_of_iff _ (NK.beq_eq a b)
inductive D where
 | non | bl (b : Bool) | int (i : Int) | str (s : Str)
 | tup (xs : List D) | lst (xs : List D)
 | dT (kvs : List (List Key × D)) | dK (kvs : List (Key × D))
 | dF (kvs : List (List Key × D))
 | lF (xs : List D)
 | ob (n : Str) (fs : List (Str × D))
 | ex (n : Str) (fs : List (Str × Int))
 | dN (kvs : List (NK × D))
 | op (x : Option Str)
mutual
def D.imm : D → Bool
 | .non => true
 | .bl _ => true
 | .int _ => true
 | .str _ => true
 | .tup xs => immL xs
 | .lst _ => false
 | .dT _ => false
 | .dK _ => false
 | .dF _ => false
 | .lF xs => immL xs
 | .ob _ _ => false
 | .ex _ _ => false
 | .dN _ => false
 | .op _ => false
def immL : List D → Bool
 | [] => true
 | d :: ds => d.imm && immL ds
end
theorem uO : ∀ {ds : List D}, (∀ d ∈ ds, d.imm = true) → immL ds = true
 | [], _ => by rw [immL]
 | d :: ds, h => by rw [immL, h d (List.mem_cons_self ..), uO fun x hx => h x (List.mem_cons_of_mem _ hx)]; rfl
theorem QT : ∀ {ds : List D}, immL ds = true → ∀ d ∈ ds, d.imm = true
 | [], _, d, h => by simp at h
 | x :: ds, e, d, h => by
   rw [immL, Bool.and_eq_true] at e
   rcases List.mem_cons.mp h with rfl | h
   ·exact e.1
   ·exact QT e.2 d h
theorem Xy {ds : List D} : immL ds = true ↔ ∀ d ∈ ds, d.imm = true := ⟨QT, uO⟩
mutual
def zE : NK → Int
 | .num i => hashInt i
 | .tup l => reduceHash (Builtin.Tuple.tupleHashOf (Wi l))
def Wi : List NK → List Int
 | [] => []
 | k :: l => zE k :: Wi l
end
mutual
def yG : NK → Nat
 | .num _ => 0
 | .tup l => xV l + 1
def xV : List NK → Nat
 | [] => 0
 | k :: l => max (yG k) (xV l)
end
mutual
def NkV (H : Hp) : NK → V → Prop
 | .num i, v => v = .int i
 | .tup l, v => ∃ a vs, v = .ref a ∧ H a = some (.tup vs) ∧ NkVs H l vs
def NkVs (H : Hp) : List NK → List V → Prop
 | [], vs => vs = []
 | k :: l, vs => ∃ v ws, vs = v :: ws ∧ NkV H k v ∧ NkVs H l ws
end
mutual
def nkD : NK → D
 | .num i => .int i
 | .tup l => .tup (nkDs l)
def nkDs : List NK → List D
 | [] => []
 | k :: l => nkD k :: nkDs l
end
def qgw (p : NK × Addr × Value) : DictEntry := { hash := zE p.1, key := .ref p.2.1, val := p.2.2 }
def NdP (a : Addr) (xs : List (NK × Addr × V)) (h : Heap) : Prop := (xs.length ≤ sizeLine ∧ (a == sysModules) = false ∧ (xs.map (·.1)).Nodup) ∧ ∃ ys, Paired (fun p q => p.1 = q.1 ∧ p.2.1 = q.2.1 ∧ L2.RelV p.2.2 q.2.2) xs ys ∧ ∃ o es ep, h.get? a = some o ∧ o.ExactDict ∧ o.data = .dict es ep ∧ es.toList = ys.map qgw
def NdO (a : Addr) (xs : List (NK × Addr × V)) : HO := .ext (NdP a xs)
noncomputable def Mu : HO → Bool
 | .lst _ => true
 | .dT _ => true
 | .dK _ => true
 | .ins _ _ _ => true
 | .ext p => @decide (∃ a xs, p = NdP a xs) (Classical.propDecidable _)
 | _ => false
theorem qgC {a : Addr} {xs : List (NK × Addr × V)} : Mu (NdO a xs) = true := @decide_eq_true _ (Classical.propDecidable _) ⟨a, xs, rfl⟩
def SqLF (K : PySem.W.Frag) (H : Hp) (a : Addr) (xs : List V) : Prop :=
 (∃ o, H a = some (.frz o (.lst xs))) ∨
  ∃ (o : Obj) (its : Array Value) (n : Nat), K.lookup a = some o ∧ o.cls = .type "list" ∧ o.dict = none ∧ o.data = .seq its n ∧ its.size ≤ sizeLine ∧ Vals xs its.toList
def SqTK (K : PySem.W.Frag) (a : Addr) (xs : List V) : Prop :=
 ∃ (o : Obj) (its : Array Value) (n : Nat), K.lookup a = some o ∧ o.cls = .type "tuple" ∧ o.data = .seq its n ∧ its.size ≤ sizeLine ∧ Vals xs its.toList
theorem SqLF.sq {K : PySem.W.Frag} {H : Hp} {a : Addr} {xs : List V} (h : SqLF K H a xs) : SqL K H a xs := by
 rcases h with ⟨o, h⟩ | h
 ·exact .inl (.inr ⟨o, h⟩)
 ·exact .inr h
theorem SqTK.sq {K : PySem.W.Frag} {H : Hp} {a : Addr} {xs : List V} (h : SqTK K a xs) : SqT K H a xs := .inr h
def EO (cls : Value) (d : Option Addr) (a : Addr) : HO := .ext fun h => ∃ (oe : Obj) (vs : Array Value), h.get? a = some oe ∧ (oe.cls = cls ∧ oe.dict = d) ∧ oe.data = .fields vs
theorem qko {cls : Value} {d : Option Addr} {a : Addr} : Mu (EO cls d a) = false := @decide_eq_false _ (Classical.propDecidable _) (by
 rintro ⟨b, xs, e⟩
 have at0 : (⟨Array.replicate (a + 1) { cls := cls, dict := d, data := .fields #[] }, {}⟩ : Heap).get? a = some { cls := cls, dict := d, data := .fields #[] } := by
  unfold Heap.get?
  rw [show ((Array.replicate (a + 1) ({ cls := cls, dict := d, data := .fields #[] } : Obj)) : Array Obj)[a]? = some { cls := cls, dict := d, data := .fields #[] } by simp]
 have h0 : NdP b xs ⟨Array.replicate (a + 1) { cls := cls, dict := d, data := .fields #[] }, {}⟩ := by
  rw [← e]
  exact ⟨_, _, at0, ⟨rfl, rfl⟩, rfl⟩
 obtain ⟨_, ys, _, o, es, ep, h1, _, h2, _⟩ := h0
 unfold Heap.get? at h1
 split at h1
 ·cases h1
 ·rename_i x y
  rw [Array.getElem?_replicate] at h1
  split at h1
  ·cases h1
   cases h2
  ·cases h1)
def xdV (fs : List (Str × Int)) : List (Str × V) := fs.map fun p => (p.1, V.int p.2)
mutual
inductive Rep (K : PySem.W.Frag) (H : Hp) (lv : Nat) : D → V → List Addr → Prop
 | non : Rep K H lv .non .non []
 | bl (b : Bool) : Rep K H lv (.bl b) (.bl b) []
 | int (i : Int) : Rep K H lv (.int i) (.int i) []
 | str (s : Str) : Rep K H lv (.str s) (.str s) []
 | tup {a : Addr} {vs : List V} {ds : List D} {f : List Addr} : H a = some (.tup vs) → Reps K H lv ds vs f → Rep K H lv (.tup ds) (.ref a) f
 | tupK {a : Addr} {vs : List V} {ds : List D} {f : List Addr} : 2 ≤ lv → SqTK K a vs → Reps K H lv ds vs f → Rep K H lv (.tup ds) (.ref a) f
 | lst {a : Addr} {vs : List V} {ds : List D} {f : List Addr} : H a = some (.lst vs) → Reps K H lv ds vs f → (lv = 0 → a ∉ f) → Rep K H lv (.lst ds) (.ref a) (a :: f)
 | lstF {a : Addr} {vs : List V} {ds : List D} {f : List Addr} : 2 ≤ lv → SqLF K H a vs → Reps K H lv ds vs f → Rep K H lv (.lst ds) (.ref a) f
 | dT {a : Addr} {hs : List (List Key × V)} {kvs : List (List Key × D)} {f : List Addr} : H a = some (.dT hs) → hs.map (·.1) = kvs.map (·.1) → (kvs.map (·.1)).Nodup → Reps K H lv (kvs.map (·.2)) (hs.map (·.2)) f → (lv = 0 → a ∉ f) → Rep K H lv (.dT kvs) (.ref a) (a :: f)
 | dTF {a : Addr} {o : Obj} {hs : List (List Key × V)} {kvs : List (List Key × D)} {f : List Addr} : 2 ≤ lv → H a = some (.frz o (.dT hs)) → hs.map (·.1) = kvs.map (·.1) → (kvs.map (·.1)).Nodup → Reps K H lv (kvs.map (·.2)) (hs.map (·.2)) f → Rep K H lv (.dT kvs) (.ref a) f
 | dF {a : Addr} {o : Obj} {hs : List (List Key × V)} {kvs : List (List Key × D)} : H a = some (.frz o (.dT hs)) → hs.map (·.1) = kvs.map (·.1) → (kvs.map (·.1)).Nodup → Reps K H lv (kvs.map (·.2)) (hs.map (·.2)) [] → Rep K H lv (.dF kvs) (.ref a) []
 | lF {a : Addr} {o : Obj} {vs : List V} {ds : List D} {f : List Addr} : H a = some (.frz o (.lst vs)) → Reps K H lv ds vs f → Rep K H lv (.lF ds) (.ref a) f
 | ob {a C dx : Addr} {n : Str} {hs : List (Str × V)} {fs : List (Str × D)} {f : List Addr} : H a = some (.ins C dx hs) → PySem.W.nsIn K mainGlobals n = some (some (.ref C)) → hs.map (·.1) = fs.map (·.1) → Reps K H lv (fs.map (·.2)) (hs.map (·.2)) f → (lv = 0 → a ∉ f) → Rep K H lv (.ob n fs) (.ref a) (a :: f)
 | ex {a C : Addr} {d : Option Addr} {n : Str} {fs : List (Str × Int)} : H a = some (EO (.ref C) d a) → PySem.W.nsIn K mainGlobals n = some (some (.ref C)) → (∀ x, d = some x → H x = some (.xd (xdV fs))) → (d = none → fs = []) → Rep K H lv (.ex n fs) (.ref a) []
 | dK {a : Addr} {hs : List (Key × V)} {kvs : List (Key × D)} {f : List Addr} : H a = some (.dK hs) → hs.map (·.1) = kvs.map (·.1) → (kvs.map (·.1)).Nodup → Reps K H lv (kvs.map (·.2)) (hs.map (·.2)) f → (lv = 0 → a ∉ f) → Rep K H lv (.dK kvs) (.ref a) (a :: f)
 | dN {a : Addr} {xs : List (NK × Addr × V)} {kvs : List (NK × D)} {f : List Addr} : H a = some (NdO a xs) → xs.map (·.1) = kvs.map (·.1) → (kvs.map (·.1)).Nodup → (∀ x ∈ xs, NkV H x.1 (.ref x.2.1) ∧ yG x.1 ≤ 8) → Reps K H lv (kvs.map (·.2)) (xs.map (·.2.2)) f → (lv = 0 → a ∉ f) → Rep K H lv (.dN kvs) (.ref a) (a :: f)
 | opN (a : Addr) : Rep K H lv (.op none) (.ref a) []
 | opF {x : Str} {a : Addr} : PySem.W.nsIn K mainGlobals x = some (some (.ref a)) → Rep K H lv (.op (some x)) (.ref a) []
inductive Reps (K : PySem.W.Frag) (H : Hp) (lv : Nat) : List D → List V → List Addr → Prop
 | nil : Reps K H lv [] [] []
 | cons {d : D} {v : V} {f : List Addr} {ds : List D} {vs : List V} {g : List Addr} : Rep K H lv d v f → Reps K H lv ds vs g → (lv = 0 → ∀ b ∈ f, b ∉ g) → Reps K H lv (d :: ds) (v :: vs) (f ++ g)
end
section
variable {K : PySem.W.Frag} {H H' : Hp} {lv lv' : Nat}
theorem SqLF.keep {a : Addr} {vs : List V} (h : SqLF K H a vs) (k : ∀ o, H a = some o → Mu o = false → H' a = some o) : SqLF K H' a vs := by
 rcases h with ⟨o, h⟩ | h
 ·exact .inl ⟨o, k _ h rfl⟩
 ·exact .inr h
mutual
theorem NkV.keep : ∀ {k : NK} {v : V}, NkV H k v → (∀ b o, H b = some o → Mu o = false → H' b = some o) → NkV H' k v
 | .num i, v, h, _ => by rw [NkV] at h ⊢; exact h
 | .tup l, v, h, k => by
   rw [NkV] at h ⊢
   obtain ⟨a, vs, e, ha, r⟩ := h
   exact ⟨a, vs, e, k _ _ ha rfl, NkVs.keep r k⟩
theorem NkVs.keep : ∀ {l : List NK} {vs : List V}, NkVs H l vs → (∀ b o, H b = some o → Mu o = false → H' b = some o) → NkVs H' l vs
 | [], vs, h, _ => by rw [NkVs] at h ⊢; exact h
 | x :: l, vs, h, k => by
   rw [NkVs] at h ⊢
   obtain ⟨v, ws, e, r, t⟩ := h
   exact ⟨v, ws, e, NkV.keep r k, NkVs.keep t k⟩
end
mutual
theorem Rep.keep : ∀ {d : D} {v : V} {f : List Addr}, Rep K H lv d v f → (∀ b o, H b = some o → (b ∈ f ∨ Mu o = false) → H' b = some o) → Rep K H' lv d v f
 | _, _, _, .non, _ => .non
 | _, _, _, .bl b, _ => .bl b
 | _, _, _, .int i, _ => .int i
 | _, _, _, .str s, _ => .str s
 | _, _, _, .tup h r, k => .tup (k _ _ h (.inr rfl)) (Reps.keep r k)
 | _, _, _, .tupK l h r, k => .tupK l h (Reps.keep r k)
 | _, _, _, .lst h r n, k => .lst (k _ _ h (.inl (List.mem_cons_self ..))) (Reps.keep r fun b o e c => k b o e (c.imp_left fun z => List.mem_cons_of_mem _ z)) n
 | _, _, _, .lstF l h r, k => .lstF l (h.keep fun o e m => k _ _ e (.inr m)) (Reps.keep r k)
 | _, _, _, .dT h e nd r n, k => .dT (k _ _ h (.inl (List.mem_cons_self ..))) e nd (Reps.keep r fun b o e c => k b o e (c.imp_left fun z => List.mem_cons_of_mem _ z)) n
 | _, _, _, .dTF l h e nd r, k => .dTF l (k _ _ h (.inr rfl)) e nd (Reps.keep r k)
 | _, _, _, .dF h e nd r, k => .dF (k _ _ h (.inr rfl)) e nd (Reps.keep r k)
 | _, _, _, .lF h r, k => .lF (k _ _ h (.inr rfl)) (Reps.keep r k)
 | _, _, _, .ob h c e r n, k => .ob (k _ _ h (.inl (List.mem_cons_self ..))) c e (Reps.keep r fun b o e c => k b o e (c.imp_left fun z => List.mem_cons_of_mem _ z)) n
 | _, _, _, .ex h c e z, k => .ex (k _ _ h (.inr qko)) c (fun x hx => k _ _ (e x hx) (.inr rfl)) z
 | _, _, _, .opN v, _ => .opN v
 | _, _, _, .opF h, _ => .opF h
 | _, _, _, .dN h e nd kk r n, k => .dN (k _ _ h (.inl (List.mem_cons_self ..))) e nd (fun x hx => ⟨(kk x hx).1.keep fun b o e m => k b o e (.inr m), (kk x hx).2⟩) (Reps.keep r fun b o e c => k b o e (c.imp_left fun z => List.mem_cons_of_mem _ z)) n
 | _, _, _, .dK h e nd r n, k => .dK (k _ _ h (.inl (List.mem_cons_self ..))) e nd (Reps.keep r fun b o e c => k b o e (c.imp_left fun z => List.mem_cons_of_mem _ z)) n
theorem Reps.keep : ∀ {ds : List D} {vs : List V} {f : List Addr}, Reps K H lv ds vs f → (∀ b o, H b = some o → (b ∈ f ∨ Mu o = false) → H' b = some o) → Reps K H' lv ds vs f
 | _, _, _, .nil, _ => .nil
 | _, _, _, .cons r t n, k => .cons (Rep.keep r fun b o e c => k b o e (c.imp_left fun z => List.mem_append_left _ z)) (Reps.keep t fun b o e c => k b o e (c.imp_left fun z => List.mem_append_right _ z)) n
end
mutual
theorem Rep.dom : ∀ {d : D} {v : V} {f : List Addr}, Rep K H lv d v f → ∀ b ∈ f, ∃ o, H b = some o ∧ Mu o = true
 | _, _, _, .tup h r, b, hb => Reps.dom r b hb
 | _, _, _, .tupK l h r, b, hb => Reps.dom r b hb
 | _, _, _, .lst h r n, b, hb => by
   rcases List.mem_cons.mp hb with rfl | hb
   ·exact ⟨_, h, rfl⟩
   ·exact Reps.dom r b hb
 | _, _, _, .lstF l h r, b, hb => Reps.dom r b hb
 | _, _, _, .dT h e nd r n, b, hb => by
   rcases List.mem_cons.mp hb with rfl | hb
   ·exact ⟨_, h, rfl⟩
   ·exact Reps.dom r b hb
 | _, _, _, .dTF l h e nd r, b, hb => Reps.dom r b hb
 | _, _, _, .dF h e nd r, b, hb => by simp at hb
 | _, _, _, .ex h c e z, b, hb => by simp at hb
 | _, _, _, .opN v, b, hb => by simp at hb
 | _, _, _, .opF h, b, hb => by simp at hb
 | _, _, _, .dN h e nd kk r n, b, hb => by
   rcases List.mem_cons.mp hb with rfl | hb
   ·exact ⟨_, h, qgC⟩
   ·exact Reps.dom r b hb
 | _, _, _, .lF h r, b, hb => Reps.dom r b hb
 | _, _, _, .ob h c e r n, b, hb => by
   rcases List.mem_cons.mp hb with rfl | hb
   ·exact ⟨_, h, rfl⟩
   ·exact Reps.dom r b hb
 | _, _, _, .dK h e nd r n, b, hb => by
   rcases List.mem_cons.mp hb with rfl | hb
   ·exact ⟨_, h, rfl⟩
   ·exact Reps.dom r b hb
theorem Reps.dom : ∀ {ds : List D} {vs : List V} {f : List Addr}, Reps K H lv ds vs f → ∀ b ∈ f, ∃ o, H b = some o ∧ Mu o = true
 | _, _, _, .cons r t n, b, hb => by
   rcases List.mem_append.mp hb with hb | hb
   ·exact Rep.dom r b hb
   ·exact Reps.dom t b hb
end
mutual
theorem Rep.up : ∀ {d : D} {v : V} {f : List Addr}, Rep K H lv d v f → lv ≤ lv' → Rep K H lv' d v f
 | _, _, _, .non, _ => .non
 | _, _, _, .bl b, _ => .bl b
 | _, _, _, .int i, _ => .int i
 | _, _, _, .str s, _ => .str s
 | _, _, _, .tup h r, k => .tup h (Reps.up r k)
 | _, _, _, .tupK l h r, k => .tupK (Nat.le_trans l k) h (Reps.up r k)
 | _, _, _, .lst h r n, k => .lst h (Reps.up r k) fun e => n (by omega)
 | _, _, _, .lstF l h r, k => .lstF (Nat.le_trans l k) h (Reps.up r k)
 | _, _, _, .dT h e nd r n, k => .dT h e nd (Reps.up r k) fun e => n (by omega)
 | _, _, _, .dTF l h e nd r, k => .dTF (Nat.le_trans l k) h e nd (Reps.up r k)
 | _, _, _, .dF h e nd r, k => .dF h e nd (Reps.up r k)
 | _, _, _, .lF h r, k => .lF h (Reps.up r k)
 | _, _, _, .ob h c e r n, k => .ob h c e (Reps.up r k) fun e => n (by omega)
 | _, _, _, .ex h c e z, k => .ex h c e z
 | _, _, _, .opN v, _ => .opN v
 | _, _, _, .opF h, _ => .opF h
 | _, _, _, .dN h e nd kk r n, k => .dN h e nd kk (Reps.up r k) fun e => n (by omega)
 | _, _, _, .dK h e nd r n, k => .dK h e nd (Reps.up r k) fun e => n (by omega)
theorem Reps.up : ∀ {ds : List D} {vs : List V} {f : List Addr}, Reps K H lv ds vs f → lv ≤ lv' → Reps K H lv' ds vs f
 | _, _, _, .nil, _ => .nil
 | _, _, _, .cons r t n, k => .cons (Rep.up r k) (Reps.up t k) fun e => n (by omega)
end
mutual
theorem Rep.imm : ∀ {d : D} {v : V} {f : List Addr}, Rep K H lv d v f → lv ≤ 1 → d.imm = true → f = [] ∧ Rep K H 0 d v []
 | _, _, _, .non, _, _ => ⟨rfl, .non⟩
 | _, _, _, .bl b, _, _ => ⟨rfl, .bl b⟩
 | _, _, _, .int i, _, _ => ⟨rfl, .int i⟩
 | _, _, _, .str s, _, _ => ⟨rfl, .str s⟩
 | _, _, _, .tup h r, l, e => by
   rw [D.imm] at e
   obtain ⟨rfl, r'⟩ := Reps.imm r l e
   exact ⟨rfl, .tup h r'⟩
 | _, _, _, .tupK l h r, k, _ => absurd l (by omega)
 | _, _, _, .lst h r n, _, e => by rw [D.imm] at e; cases e
 | _, _, _, .lstF l h r, _, e => by rw [D.imm] at e; cases e
 | _, _, _, .dT h e' nd r n, _, e => by rw [D.imm] at e; cases e
 | _, _, _, .dTF l h e' nd r, _, e => by rw [D.imm] at e; cases e
 | _, _, _, .dF h e' nd r, _, e => by rw [D.imm] at e; cases e
 | _, _, _, .ob h c e' r n, _, e => by rw [D.imm] at e; cases e
 | _, _, _, .lF h r, l, e => by
   rw [D.imm] at e
   obtain ⟨rfl, r'⟩ := Reps.imm r l e
   exact ⟨rfl, .lF h r'⟩
 | _, _, _, .ex h c e' z, _, e => by rw [D.imm] at e; cases e
 | _, _, _, .opN v, _, e => by rw [D.imm] at e; cases e
 | _, _, _, .opF h, _, e => by rw [D.imm] at e; cases e
 | _, _, _, .dN h e' nd kk r n, _, e => by rw [D.imm] at e; cases e
 | _, _, _, .dK h e' nd r n, _, e => by rw [D.imm] at e; cases e
theorem Reps.imm : ∀ {ds : List D} {vs : List V} {f : List Addr}, Reps K H lv ds vs f → lv ≤ 1 → immL ds = true → f = [] ∧ Reps K H 0 ds vs []
 | _, _, _, .nil, _, _ => ⟨rfl, .nil⟩
 | _, _, _, .cons r t n, l, e => by
   rw [immL, Bool.and_eq_true] at e
   obtain ⟨rfl, r'⟩ := Rep.imm r l e.1
   obtain ⟨rfl, t'⟩ := Reps.imm t l e.2
   exact ⟨rfl, .cons (f := []) (g := []) r' t' (fun _ b hb => by simp at hb)⟩
end
theorem Reps.len : ∀ {ds : List D} {vs : List V} {f : List Addr}, Reps K H lv ds vs f → ds.length = vs.length
 | _, _, _, .nil => rfl
 | _, _, _, .cons _ t _ => by rw [List.length_cons, List.length_cons, t.len]
theorem Reps.get : ∀ {ds : List D} {vs : List V} {f : List Addr} {i : Nat} {d : D}, Reps K H lv ds vs f → ds[i]? = some d → ∃ v g, vs[i]? = some v ∧ Rep K H lv d v g ∧ ∀ b ∈ g, b ∈ f
 | _, _, _, 0, _, .cons r t _, e => by
   cases e
   exact ⟨_, _, rfl, r, fun b hb => List.mem_append_left _ hb⟩
 | _, _, _, i + 1, _, .cons r t _, e => by
   obtain ⟨v, g, h1, h2, h3⟩ := t.get (i := i) (by simpa using e)
   exact ⟨v, g, by simpa using h1, h2, fun b hb => List.mem_append_right _ (h3 b hb)⟩
theorem Reps.append : ∀ {ds es : List D} {vs ws : List V} {f g : List Addr}, Reps K H lv ds vs f → Reps K H lv es ws g → (lv = 0 → ∀ b ∈ f, b ∉ g) → Reps K H lv (ds ++ es) (vs ++ ws) (f ++ g)
 | _, _, _, _, _, _, .nil, q, _ => q
 | _, es, _, ws, _, g, .cons (f := f1) (g := g1) (ds := ds) (vs := vs) r t n, q, k => by
   rw [List.cons_append, List.cons_append, List.append_assoc]
   refine .cons r (Reps.append t q fun e b hb => k e b (List.mem_append_right _ hb)) fun e b hb z => ?_
   rcases List.mem_append.mp z with z | z
   ·exact n e b hb z
   ·exact k e b (List.mem_append_left _ hb) z
theorem Reps.one {d : D} {v : V} {f : List Addr} (r : Rep K H lv d v f) : Reps K H lv [d] [v] f := by
 have := Reps.cons (g := []) r .nil (fun _ b _ z => by simp at z)
 rwa [List.append_nil] at this
theorem Rep.tupleSq {ds : List D} {v : V} {f : List Addr} (r : Rep K H lv (.tup ds) v f) : ∃ a vs, v = .ref a ∧ SqT K H a vs ∧ Reps K H lv ds vs f := by
 cases r with
 | tup h r => exact ⟨_, _, rfl, .inl (.inl h), r⟩
 | tupK l h r => exact ⟨_, _, rfl, h.sq, r⟩
theorem Rep.tupleAt {ds : List D} {v : V} {f : List Addr} (r : Rep K H lv (.tup ds) v f) (l : lv ≤ 1) : ∃ a vs, v = .ref a ∧ H a = some (.tup vs) ∧ Reps K H lv ds vs f := by
 cases r with
 | tup h r => exact ⟨_, _, rfl, h, r⟩
 | tupK l' h r => exact absurd l' (by omega)
theorem Rep.lFSq {ds : List D} {v : V} {f : List Addr} (r : Rep K H lv (.lF ds) v f) : ∃ a vs, v = .ref a ∧ SqL K H a vs ∧ Reps K H lv ds vs f ∧ SqLF K H a vs := by
 cases r with
 | lF h r => exact ⟨_, _, rfl, .inl (.inr ⟨_, h⟩), r, .inl ⟨_, h⟩⟩
theorem Rep.listSq {ds : List D} {v : V} {f : List Addr} (r : Rep K H lv (.lst ds) v f) : ∃ a vs g, v = .ref a ∧ SqL K H a vs ∧ Reps K H lv ds vs g ∧ (∀ b ∈ g, b ∈ f) ∧ (H a = some (.lst vs) ∧ a ∈ f ∨ SqLF K H a vs) := by
 cases r with
 | lst h r n => exact ⟨_, _, _, rfl, .inl (.inl h), r, fun b hb => List.mem_cons_of_mem _ hb, .inl ⟨h, List.mem_cons_self ..⟩⟩
 | lstF l h r => exact ⟨_, _, _, rfl, h.sq, r, fun b hb => hb, .inr h⟩
theorem Rep.listAt {ds : List D} {v : V} {f : List Addr} (r : Rep K H 0 (.lst ds) v f) : ∃ a vs g, v = .ref a ∧ H a = some (.lst vs) ∧ Reps K H 0 ds vs g ∧ f = a :: g ∧ a ∉ g := by
 cases r with
 | lst h r n => exact ⟨_, _, _, rfl, h, r, rfl, n rfl⟩
 | lstF l h r => exact absurd l (by omega)
theorem Rep.dTAt {kvs : List (List Key × D)} {v : V} {f : List Addr} (r : Rep K H lv (.dT kvs) v f) (l : lv ≤ 1 := by omega) : ∃ a hs g, v = .ref a ∧ H a = some (.dT hs) ∧ hs.map (·.1) = kvs.map (·.1) ∧ (kvs.map (·.1)).Nodup ∧ Reps K H lv (kvs.map (·.2)) (hs.map (·.2)) g ∧ f = a :: g ∧ (lv = 0 → a ∉ g) := by
 cases r with
 | dT h e nd r n => exact ⟨_, _, _, rfl, h, e, nd, r, rfl, n⟩
 | dTF l' h e nd r => exact absurd l' (by omega)
theorem Rep.dKAt {kvs : List (Key × D)} {v : V} {f : List Addr} (r : Rep K H lv (.dK kvs) v f) : ∃ a hs g, v = .ref a ∧ H a = some (.dK hs) ∧ hs.map (·.1) = kvs.map (·.1) ∧ (kvs.map (·.1)).Nodup ∧ Reps K H lv (kvs.map (·.2)) (hs.map (·.2)) g ∧ f = a :: g ∧ (lv = 0 → a ∉ g) := by
 cases r with
 | dK h e nd r n => exact ⟨_, _, _, rfl, h, e, nd, r, rfl, n⟩
theorem Rep.dNAt {kvs : List (NK × D)} {v : V} {f : List Addr} (r : Rep K H lv (.dN kvs) v f) : ∃ a xs g, v = .ref a ∧ H a = some (NdO a xs) ∧ xs.map (·.1) = kvs.map (·.1) ∧ (kvs.map (·.1)).Nodup ∧ (∀ x ∈ xs, NkV H x.1 (.ref x.2.1) ∧ yG x.1 ≤ 8) ∧ Reps K H lv (kvs.map (·.2)) (xs.map (·.2.2)) g ∧ f = a :: g ∧ (lv = 0 → a ∉ g) := by
 cases r with
 | dN h e nd kk r n => exact ⟨_, _, _, rfl, h, e, nd, kk, r, rfl, n⟩
mutual
theorem NkV.rep : ∀ {k : NK} {v : V}, NkV H k v → Rep K H lv (nkD k) v []
 | .num i, v, h => by
   rw [NkV] at h; rw [nkD, h]; exact .int i
 | .tup l, v, h => by
   rw [NkV] at h
   obtain ⟨a, vs, rfl, ha, r⟩ := h
   rw [nkD]; exact .tup ha (NkVs.rep r)
theorem NkVs.rep : ∀ {l : List NK} {vs : List V}, NkVs H l vs → Reps K H lv (nkDs l) vs []
 | [], vs, h => by
   rw [NkVs] at h; rw [nkDs, h]; exact .nil
 | k :: l, vs, h => by
   rw [NkVs] at h
   obtain ⟨v, ws, rfl, r, t⟩ := h
   rw [nkDs]
   exact .cons (f := []) (g := []) (NkV.rep r) (NkVs.rep t) fun _ b hb => by simp at hb
end
theorem Rep.listAt1 {ds : List D} {v : V} {f : List Addr} (r : Rep K H lv (.lst ds) v f) (l : lv ≤ 1) : ∃ a vs g, v = .ref a ∧ H a = some (.lst vs) ∧ Reps K H lv ds vs g ∧ f = a :: g := by
 cases r with
 | lst h r n => exact ⟨_, _, _, rfl, h, r, rfl⟩
 | lstF l' h r => exact absurd l' (by omega)
theorem Rep.nonV {v : V} {f : List Addr} (r : Rep K H lv .non v f) : v = .non ∧ f = [] := by cases r; exact ⟨rfl, rfl⟩
theorem Rep.intV {i : Int} {v : V} {f : List Addr} (r : Rep K H lv (.int i) v f) : v = .int i ∧ f = [] := by cases r; exact ⟨rfl, rfl⟩
theorem Rep.blV {i : Bool} {v : V} {f : List Addr} (r : Rep K H lv (.bl i) v f) : v = .bl i ∧ f = [] := by cases r; exact ⟨rfl, rfl⟩
theorem Rep.int0 {i : Int} {v : V} {f : List Addr} (r : Rep K H lv (.int i) v f) : Rep K H 0 (.int i) v [] := by cases r; exact .int i
theorem Rep.bl0 {i : Bool} {v : V} {f : List Addr} (r : Rep K H lv (.bl i) v f) : Rep K H 0 (.bl i) v [] := by cases r; exact .bl i
theorem Rep.str0 {i : Str} {v : V} {f : List Addr} (r : Rep K H lv (.str i) v f) : Rep K H 0 (.str i) v [] := by cases r; exact .str i
theorem Rep.non0 {v : V} {f : List Addr} (r : Rep K H lv .non v f) : Rep K H 0 .non v [] := by cases r; exact .non
theorem Rep.strV {i : Str} {v : V} {f : List Addr} (r : Rep K H lv (.str i) v f) : v = .str i ∧ f = [] := by cases r; exact ⟨rfl, rfl⟩
end
inductive Md where
 | own | io | lk | ro | cst
 deriving DecidableEq
def Md.lv : Md → Nat
 | .own => 0
 | .io => 0
 | .lk => 0
 | .ro => 1
 | .cst => 2
def Md.rd : Md → Bool
 | .own => false
 | .io => false
 | .lk => true
 | .ro => true
 | .cst => true
abbrev En := List (Option (D × Md))
abbrev FA := Nat → List Addr
def W (env : En) (f : FA) (b : Addr) : Prop := ∃ i d m, env[i]? = some (some (d, m)) ∧ m.rd = false ∧ b ∈ f i
def L0 (env : En) (f : FA) (b : Addr) : Prop := ∃ i d m, env[i]? = some (some (d, m)) ∧ m.lv = 0 ∧ b ∈ f i
def Ro (env : En) (f : FA) (b : Addr) : Prop := ∃ i d m, env[i]? = some (some (d, m)) ∧ m.lv ≠ 0 ∧ b ∈ f i
theorem Md.lv_of {m : Md} (h : m.rd = false) : m.lv = 0 := by cases m <;> first | rfl | (cases h)
theorem Md.rd_of {m : Md} (h : m.lv ≠ 0) : m.rd = true := by cases m <;> first | rfl | exact absurd rfl h
theorem W.l0 {env : En} {f : FA} {b : Addr} (h : W env f b) : L0 env f b := let ⟨i, d, m, e, r, hb⟩ := h; ⟨i, d, m, e, Md.lv_of r, hb⟩
structure Abs (K : PySem.W.Frag) (σ : L2.St) (H : Hp) (env : En) (f : FA) : Prop where
 rep : ∀ i d m, env[i]? = some (some (d, m)) → ∃ v, σ[i]? = some (some v) ∧ Rep K H m.lv d v (f i)
 dis : ∀ i j d m d' m', i ≠ j → env[i]? = some (some (d, m)) → env[j]? = some (some (d', m')) → m.lv = 0 → ∀ b ∈ f i, b ∉ f j
 len : env.length = σ.length
inductive R where
 | tmp (d : D)
 | ro (c : Bool) (d : D)
 | sl (i : Nat)
def clv : Bool → Nat
 | false => 1
 | true => 2
inductive ResOk (K : PySem.W.Frag) (σ : L2.St) (H : Hp) (env : En) (f : FA) : R → V → List Addr → Prop
 | tmp {d : D} {v : V} {g : List Addr} : Rep K H 0 d v g → (∀ b ∈ g, ¬ L0 env f b ∧ ¬ Ro env f b) → ResOk K σ H env f (.tmp d) v g
 | ro {c : Bool} {d : D} {v : V} {g : List Addr} : Rep K H (clv c) d v g → (∀ b ∈ g, Ro env f b) → ResOk K σ H env f (.ro c d) v []
 | sl {i : Nat} {v : V} {d : D} {m : Md} : σ[i]? = some (some v) → env[i]? = some (some (d, m)) → m.lv = 0 → ResOk K σ H env f (.sl i) v []
structure Stp (H : Hp) (env : En) (f : FA) (G : List Addr) (H' : Hp) (env' : En) (f' : FA) (G' : List Addr) : Prop where
 same : ∀ b o, H b = some o → (Mu o = false ∨ (¬ W env f b ∧ b ∉ G)) → H' b = some o
 own : ∀ b, (W env' f' b ∨ b ∈ G') → (W env f b ∨ b ∈ G ∨ H b = none)
structure Kp (env : En) (f : FA) (env' : En) (f' : FA) : Prop where
 modes : env'.map (Option.map Prod.snd) = env.map (Option.map Prod.snd)
 ros : ∀ j d m, env[j]? = some (some (d, m)) → m.rd = true → env'[j]? = some (some (d, m)) ∧ f' j = f j
section
variable {K : PySem.W.Frag} {σ : L2.St} {H H1 H2 : Hp} {env env1 env2 : En} {f f1 f2 : FA} {G G1 G2 : List Addr}
theorem Stp.refl : Stp H env f G H env f G := ⟨fun _ _ h _ => h, fun _ h => h.elim .inl fun z => .inr (.inl z)⟩
theorem Stp.trans (a : Stp H env f G H1 env1 f1 G1) (b : Stp H1 env1 f1 G1 H2 env2 f2 G2) : Stp H env f G H2 env2 f2 G2 where
 same := fun c o h q => by
  have h1 := a.same c o h q
  rcases q with q | q
  ·exact b.same c o h1 (.inl q)
  ·refine b.same c o h1 (.inr ⟨fun z => ?_, fun z => ?_⟩)
   ·rcases a.own c (.inl z) with z | z | z
    ·exact q.1 z
    ·exact q.2 z
    ·rw [h] at z; cases z
   ·rcases a.own c (.inr z) with z | z | z
    ·exact q.1 z
    ·exact q.2 z
    ·rw [h] at z; cases z
 own := fun c q => by
  rcases b.own c q with z | z | z
  ·exact a.own c (.inl z)
  ·exact a.own c (.inr z)
  ·by_cases hw : W env f c
   ·exact .inl hw
   ·by_cases hg : c ∈ G
    ·exact .inr (.inl hg)
    ·refine .inr (.inr ?_)
     cases e : H c with
     | none => rfl
     | some o =>
       have := a.same c o e (.inr ⟨hw, hg⟩)
       rw [z] at this; cases this
theorem Stp.frame (a : Stp H env f [] H1 env1 f1 G1) (P : List Addr) : Stp H env f P H1 env1 f1 (P ++ G1) :=
 ⟨fun b o h q => a.same b o h (q.imp_right fun z => ⟨z.1, by simp⟩), fun b q => by
  rcases q with q | q
  ·rcases a.own b (.inl q) with z | z | z
   ·exact .inl z
   ·simp at z
   ·exact .inr (.inr z)
  ·rcases List.mem_append.mp q with z | z
   ·exact .inr (.inl z)
   ·rcases a.own b (.inr z) with z | z | z
    ·exact .inl z
    ·simp at z
    ·exact .inr (.inr z)⟩
theorem Stp.drop (a : Stp H env f G H1 env1 f1 G1) {G2 : List Addr} (h : ∀ b ∈ G2, b ∈ G1) : Stp H env f G H1 env1 f1 G2 :=
 ⟨a.same, fun b q => a.own b (q.imp_right (h b))⟩
theorem Stp.more (a : Stp H env f G H1 env1 f1 G1) {G2 : List Addr} (h : ∀ b ∈ G, b ∈ G2) : Stp H env f G2 H1 env1 f1 G1 :=
 ⟨fun b o e q => a.same b o e (q.imp_right fun z => ⟨z.1, fun y => z.2 (h b y)⟩), fun b q => (a.own b q).imp_right fun z => z.imp_left (h b)⟩
theorem Kp.refl : Kp env f env f := ⟨rfl, fun _ _ _ h _ => ⟨h, rfl⟩⟩
theorem Kp.trans (a : Kp env f env1 f1) (b : Kp env1 f1 env2 f2) : Kp env f env2 f2 :=
 ⟨b.modes.trans a.modes, fun j d m h r => let ⟨h1, e1⟩ := a.ros j d m h r; let ⟨h2, e2⟩ := b.ros j d m h1 r; ⟨h2, e2.trans e1⟩⟩
theorem Kp.slot (a : Kp env f env1 f1) {i : Nat} {d : D} {m : Md} (h : env[i]? = some (some (d, m))) : ∃ d', env1[i]? = some (some (d', m)) := by
 have e := congrArg (fun l => l[i]?) a.modes
 simp only [List.getElem?_map, h, Option.map_some] at e
 cases q : env1[i]? with
 | none => rw [q] at e; cases e
 | some o =>
   rw [q] at e
   cases o with
   | none => cases e
   | some p => obtain ⟨d', m'⟩ := p; simp only [Option.map_some, Option.some.injEq] at e; subst e; exact ⟨d', rfl⟩
theorem Kp.slot' (a : Kp env f env1 f1) {i : Nat} {d : D} {m : Md} (h : env1[i]? = some (some (d, m))) : ∃ d', env[i]? = some (some (d', m)) := by
 have e := congrArg (fun l => l[i]?) a.modes
 simp only [List.getElem?_map, h, Option.map_some] at e
 cases q : env[i]? with
 | none => rw [q] at e; cases e
 | some o =>
   rw [q] at e
   cases o with
   | none => cases e
   | some p => obtain ⟨d', m'⟩ := p; simp only [Option.map_some, Option.some.injEq] at e; subst e; exact ⟨d', rfl⟩
theorem Kp.ro (a : Kp env f env1 f1) {b : Addr} (h : Ro env f b) : Ro env1 f1 b := by
 obtain ⟨i, d, m, e, r, hb⟩ := h
 obtain ⟨e1, e2⟩ := a.ros i d m e (Md.rd_of r)
 exact ⟨i, d, m, e1, r, by rw [e2]; exact hb⟩
theorem Kp.ro' (a : Kp env f env1 f1) {b : Addr} (h : Ro env1 f1 b) : Ro env f b := by
 obtain ⟨i, d, m, e, r, hb⟩ := h
 obtain ⟨d', e'⟩ := a.slot' e
 obtain ⟨e1, e2⟩ := a.ros i d' m e' (Md.rd_of r)
 rw [e2] at hb
 exact ⟨i, d', m, e', r, hb⟩
theorem Kp.l0 (a : Kp env f env1 f1) {b : Addr} (h : L0 env1 f1 b) : W env1 f1 b ∨ L0 env f b := by
 obtain ⟨i, d, m, e, r, hb⟩ := h
 cases hm : m.rd with
 | false => exact .inl ⟨i, d, m, e, hm, hb⟩
 | true =>
   obtain ⟨d', e'⟩ := a.slot' e
   obtain ⟨e1, e2⟩ := a.ros i d' m e' hm
   rw [e2] at hb
   exact .inr ⟨i, d', m, e', r, hb⟩
theorem Abs.rdom (A : Abs K σ H env f) {b : Addr} (h : Ro env f b) : ∃ o, H b = some o ∧ Mu o = true := by
 obtain ⟨i, d, m, e, r, hb⟩ := h
 obtain ⟨v, _, rp⟩ := A.rep i d m e
 exact rp.dom b hb
theorem Abs.ldom (A : Abs K σ H env f) {b : Addr} (h : L0 env f b) : ∃ o, H b = some o ∧ Mu o = true := by
 obtain ⟨i, d, m, e, r, hb⟩ := h
 obtain ⟨v, _, rp⟩ := A.rep i d m e
 exact rp.dom b hb
theorem Abs.apart (A : Abs K σ H env f) {b : Addr} (h : L0 env f b) : ¬ Ro env f b := by
 rintro ⟨j, d', m', e', r', hb'⟩
 obtain ⟨i, d, m, e, r, hb⟩ := h
 refine A.dis i j d m d' m' (fun z => ?_) e e' r b hb hb'
 subst z
 rw [e] at e'; cases e'
 exact r' r
theorem ResOk.dom {r : R} {v : V} {g : List Addr} (h : ResOk K σ H env f r v g) : ∀ b ∈ g, ∃ o, H b = some o ∧ Mu o = true := by
 cases h with
 | tmp r _ => exact r.dom
 | ro _ _ => intro b hb; simp at hb
 | sl _ _ _ => intro b hb; simp at hb
theorem ResOk.wait {r : R} {v : V} {g : List Addr} (h : ResOk K σ H env f r v g) (A : Abs K σ H env f) (s : Stp H env f [] H1 env1 f1 G1) (k : Kp env f env1 f1) :
 ResOk K σ H1 env1 f1 r v g ∧ ∀ b ∈ g, b ∉ G1 := by
 cases h with
 | tmp r n =>
   refine ⟨.tmp (r.keep fun b o e q => ?_) fun b hb => ⟨fun z => ?_, fun z => ?_⟩, fun b hb z => ?_⟩
   ·rcases q with q | q
    ·exact s.same b o e (.inr ⟨fun z => (n b q).1 z.l0, by simp⟩)
    ·exact s.same b o e (.inl q)
   ·obtain ⟨o, ho, _⟩ := r.dom b hb
    rcases k.l0 z with z | z
    ·rcases s.own b (.inl z) with z | z | z
     ·exact (n b hb).1 z.l0
     ·simp at z
     ·rw [ho] at z; cases z
    ·exact (n b hb).1 z
   ·exact (n b hb).2 (k.ro' z)
   ·obtain ⟨o, ho, _⟩ := r.dom b hb
    rcases s.own b (.inr z) with z | z | z
    ·exact (n b hb).1 z.l0
    ·simp at z
    ·rw [ho] at z; cases z
 | ro r n =>
   refine ⟨.ro (r.keep fun b o e q => ?_) fun b hb => k.ro (n b hb), fun b hb => by simp at hb⟩
   rcases q with q | q
   ·exact s.same b o e (.inr ⟨fun z => A.apart z.l0 (n b q), by simp⟩)
   ·exact s.same b o e (.inl q)
 | sl e1 e2 hm =>
   obtain ⟨d', e3⟩ := k.slot e2
   exact ⟨.sl e1 e3 hm, fun b hb => by simp at hb⟩
end
end BX
namespace BX
open PySem PySem.Spec PyProof.Rows L2
abbrev XE := En → (R → En → Prop) → Prop
abbrev XT := En → (Bool → En → Prop) → Prop
abbrev XA := En → (List R → En → Prop) → Prop
def uE (t : XE) : Prop := ∀ env Q Q', (∀ r e, Q r e → Q' r e) → t env Q → t env Q'
def qaq (t : XT) : Prop := ∀ env Q Q', (∀ r e, Q r e → Q' r e) → t env Q → t env Q'
def qbW (t : XA) : Prop := ∀ env Q Q', (∀ r e, Q r e → Q' r e) → t env Q → t env Q'
def qdW (K : PySem.W.Frag) (σ : L2.St) (H : Hp) (env : En) (f : FA) (Q : VK) : R → En → Prop := fun r env' => ∀ v H' f' g, Abs K σ H' env' f' → ResOk K σ H' env' f' r v g → Stp H env f [] H' env' f' g → Kp env f env' f' → Q v H'
def vR (K : PySem.W.Frag) (t : XE) : TE := fun σ H Q => ∃ env f, Abs K σ H env f ∧ t env (qdW K σ H env f Q)
def liftT (K : PySem.W.Frag) (t : XT) : TT := fun σ H Q => ∃ env f, Abs K σ H env f ∧ t env fun b env' => ∀ H' f', Abs K σ H' env' f' → Stp H env f [] H' env' f' [] → Kp env f env' f' → Q b H'
inductive ResOks (K : PySem.W.Frag) (σ : L2.St) (H : Hp) (env : En) (f : FA) : List R → List V → List Addr → Prop
 | nil : ResOks K σ H env f [] [] []
 | cons {r : R} {v : V} {g : List Addr} {rs : List R} {vs : List V} {gs : List Addr} : ResOk K σ H env f r v g → ResOks K σ H env f rs vs gs → (∀ b ∈ g, b ∉ gs) → ResOks K σ H env f (r :: rs) (v :: vs) (g ++ gs)
def qeJ (K : PySem.W.Frag) (t : XA) : TA := fun σ H Q => ∃ env f, Abs K σ H env f ∧ t env fun rs env' => ∀ vs H' f' gs, Abs K σ H' env' f' → ResOks K σ H' env' f' rs vs gs → Stp H env f [] H' env' f' gs → Kp env f env' f' → Q vs H'
structure DE (X : Cx) (e : Expr) (t : XE) : Prop where
 run : PE X e (vR X.K t)
 mono : uE t
structure DT (X : Cx) (e : Expr) (t : XT) : Prop where
 run : PT X e (liftT X.K t)
 mono : qaq t
structure DW (X : Cx) (e : Expr) (t : XT) : Prop where
 run : PW X e (liftT X.K t)
 mono : qaq t
structure DA (X : Cx) (es : List Expr) (t : XA) : Prop where
 run : PA X es (qeJ X.K t)
 mono : qbW t
theorem PE.imp {X : Cx} {e : Expr} {t u : TE} (h : PE X e t) (k : ∀ σ H Q, u σ H Q → t σ H Q) : PE X e u := ⟨fun pins s σ H Q I q => h.run pins s σ H Q I (k _ _ _ q)⟩
theorem PT.imp {X : Cx} {e : Expr} {t u : TT} (h : PT X e t) (k : ∀ σ H Q, u σ H Q → t σ H Q) : PT X e u := ⟨fun pins s σ H Q I q => h.run pins s σ H Q I (k _ _ _ q)⟩
theorem PW.imp {X : Cx} {e : Expr} {t u : TT} (h : PW X e t) (k : ∀ σ H Q, u σ H Q → t σ H Q) : PW X e u := ⟨fun wh pins s σ H Q I q => h.run wh pins s σ H Q I (k _ _ _ q)⟩
theorem PA.imp {X : Cx} {e : List Expr} {t u : TA} (h : PA X e t) (k : ∀ σ H Q, u σ H Q → t σ H Q) : PA X e u := ⟨fun pos pins s σ H Q I q => h.run pos pins s σ H Q I (k _ _ _ q)⟩
def Md.okL : Md → Nat → Bool
 | .own, _ => true
 | .io, _ => true
 | .lk, _ => true
 | .ro, 0 => false
 | .ro, _ + 1 => true
 | .cst, 0 => false
 | .cst, 1 => false
 | .cst, _ + 2 => true
def roOk : Bool → Nat → Bool
 | false, 0 => false
 | false, _ + 1 => true
 | true, 0 => false
 | true, 1 => false
 | true, _ + 2 => true
theorem Md.okL_le {m : Md} {L : Nat} (h : m.okL L = true) : m.lv ≤ L := by
 cases m with
 | own => exact Nat.zero_le _
 | io => exact Nat.zero_le _
 | lk => exact Nat.zero_le _
 | ro => cases L with
   | zero => cases h
   | succ n => exact Nat.succ_le_succ (Nat.zero_le _)
 | cst => match L, h with
   | n + 2, _ => exact Nat.le_add_left 2 n
theorem qcw {c : Bool} {L : Nat} (h : roOk c L = true) : clv c ≤ L := by
 match c, L, h with
 | false, n + 1, _ => exact Nat.le_add_left 1 n
 | true, n + 2, _ => exact Nat.le_add_left 2 n
def R.data (L : Nat) (env : En) : R → Option D
 | .tmp d => some d
 | .ro c d => match roOk c L with
   | true => some d
   | false => none
 | .sl i => match env[i]? with
   | some (some (d, m)) => match m.okL L with
     | true => some d
     | false => none
   | _ => none
def rd (L : Nat) (r : R) (env : En) (k : D → Prop) : Prop := match r.data L env with
 | some d => k d
 | none => False
def stor (r : R) (env : En) (k : D → Prop) : Prop := match r with
 | .tmp d => k d
 | r => rd 1 r env fun d => d.imm = true ∧ k d
def mkRo (c : Bool) (d : D) : R := match d with
 | .int i => .tmp (.int i)
 | .bl i => .tmp (.bl i)
 | .str i => .tmp (.str i)
 | .non => .tmp .non
 | d => .ro c d
def elem (r : R) (d : D) (k : R → Prop) : Prop := match r with
 | .tmp _ => k (.tmp d)
 | .ro c _ => k (mkRo c d)
 | .sl _ => d.imm = true ∧ k (.tmp d)
theorem qZ {L : Nat} {r : R} {env : En} {k k' : D → Prop} (h : ∀ d, k d → k' d) (q : rd L r env k) : rd L r env k' := by
 unfold rd at q ⊢
 cases e : r.data L env with
 | none => rw [e] at q; exact q
 | some d => rw [e] at q; exact h _ q
theorem vq {r : R} {env : En} {k k' : D → Prop} (h : ∀ d, k d → k' d) (q : stor r env k) : stor r env k' := by
 cases r with
 | tmp d => exact h _ q
 | ro c d => exact qZ (fun d z => ⟨z.1, h _ z.2⟩) q
 | sl i => exact qZ (fun d z => ⟨z.1, h _ z.2⟩) q
theorem qdy {r : R} {d : D} {k k' : R → Prop} (h : ∀ d, k d → k' d) (q : elem r d k) : elem r d k' := by
 cases r with
 | tmp _ => exact h _ q
 | ro c _ => exact h _ q
 | sl _ => exact ⟨q.1, h _ q.2⟩
structure Ext (H H' : Hp) (g : List Addr) : Prop where
 same : ∀ b o, H b = some o → H' b = some o
 new : ∀ b ∈ g, H b = none
theorem Ext.refl {H : Hp} : Ext H H [] := ⟨fun _ _ h => h, fun b hb => by simp at hb⟩
theorem Ext.upd {H : Hp} {p : Addr} {o : HO} (h : H p = none) : Ext H (L2.upd H p o) [p] := ⟨fun b u e => by rw [upd_ne (ne_of_none e h)]; exact e, fun b hb => by rw [List.mem_singleton.mp hb]; exact h⟩
theorem Ext.drop {H H' : Hp} {g g' : List Addr} (e : Ext H H' g) (h : ∀ b ∈ g', b ∈ g) : Ext H H' g' := ⟨e.same, fun b hb => e.new b (h b hb)⟩
theorem Stp.new {H H1 H2 : Hp} {env e1 : En} {f f1 : FA} {G G1 g : List Addr} (S : Stp H env f G H1 e1 f1 G1) (x : Ext H1 H2 g) : Stp H env f G H2 e1 f1 (g ++ G1) :=
 S.trans ⟨fun b o h _ => x.same b o h, fun b q => q.elim .inl fun z => (List.mem_append.mp z).elim (fun y => .inr (.inr (x.new b y))) fun y => .inr (.inl y)⟩
section
variable {K : PySem.W.Frag} {σ : L2.St} {H H1 H2 H' : Hp} {env e1 e2 : En} {f f1 f2 : FA} {G g : List Addr} {r : R} {v z : V} {d : D}
theorem xf {L : Nat} {k : D → Prop} (A : Abs K σ H env f) (h : ResOk K σ H env f r v g) (q : rd L r env k) : ∃ d g', Rep K H L d v g' ∧ k d := by
 cases h with
 | tmp r _ => exact ⟨_, _, r.up (Nat.zero_le _), q⟩
 | @ro c d _ _ r _ =>
   unfold rd R.data at q
   cases e : roOk c L with
   | false => simp only [e] at q
   | true => simp only [e] at q; exact ⟨_, _, r.up (qcw e), q⟩
 | @sl i _ d m h1 h2 hm =>
   obtain ⟨v', h3, rp⟩ := A.rep _ _ _ h2
   rw [h1] at h3; cases h3
   unfold rd R.data at q
   simp only [h2] at q
   cases e : m.okL L with
   | false => simp only [e] at q
   | true => simp only [e] at q; exact ⟨_, _, rp.up (Md.okL_le e), q⟩
theorem Zr {k : D → Prop} (A : Abs K σ H env f) (h : ResOk K σ H env f r v g) (q : stor r env k) : ∃ d, Rep K H 0 d v g ∧ k d ∧ (∀ b ∈ g, ¬ L0 env f b ∧ ¬ Ro env f b) := by
 cases r with
 | tmp d => cases h with
   | tmp r n => exact ⟨d, r, q, n⟩
 | ro c d =>
   obtain ⟨d', g', rp, e, q⟩ := xf A h q
   obtain ⟨rfl, rp'⟩ := rp.imm (Nat.le_refl _) e
   cases h
   exact ⟨d', rp', q, fun b hb => by simp at hb⟩
 | sl i =>
   obtain ⟨d', g', rp, e, q⟩ := xf A h q
   obtain ⟨rfl, rp'⟩ := rp.imm (Nat.le_refl _) e
   cases h
   exact ⟨d', rp', q, fun b hb => by simp at hb⟩
theorem Abs.ext (A : Abs K σ H env f) (e : ∀ b o, H b = some o → H' b = some o) : Abs K σ H' env f :=
 ⟨fun i d m h => let ⟨v, h1, r⟩ := A.rep i d m h; ⟨v, h1, r.keep fun b o q _ => e b o q⟩, A.dis, A.len⟩
theorem uQ (A : Abs K σ H2 e2 f2) (S : Stp H env f [] H2 e2 f2 G) (x : Ext H2 H' g) (r : Rep K H' 0 d z g) :
 Abs K σ H' e2 f2 ∧ ResOk K σ H' e2 f2 (.tmp d) z g ∧ Stp H env f [] H' e2 f2 g := by
 refine ⟨A.ext x.same, .tmp r fun b hb => ⟨fun w => ?_, fun w => ?_⟩, S.trans ⟨fun b o h _ => x.same b o h, fun b q => ?_⟩⟩
 ·obtain ⟨o, ho, _⟩ := A.ldom w
  rw [x.new b hb] at ho; cases ho
 ·obtain ⟨o, ho, _⟩ := A.rdom w
  rw [x.new b hb] at ho; cases ho
 ·rcases q with q | q
  ·exact .inl q
  ·exact .inr (.inr (x.new b q))
theorem qbd {ta tb : XE} {C : R → R → En → Prop} (ma : uE ta) (mb : uE tb) (A : Abs K σ H env f) (q : ta env fun r1 e1 => tb e1 fun r2 e2 => C r1 r2 e2) :
 vR K ta σ H fun x H1 => vR K tb σ H1 fun y H2 => ∃ r1 r2 e2 f2 g1 g2, Abs K σ H2 e2 f2 ∧ ResOk K σ H2 e2 f2 r1 x g1 ∧ ResOk K σ H2 e2 f2 r2 y g2 ∧ (∀ b ∈ g1, b ∉ g2) ∧ Stp H env f [] H2 e2 f2 (g1 ++ g2) ∧ Kp env f e2 f2 ∧ C r1 r2 e2 := by
 refine ⟨env, f, A, ma _ _ _ (fun r1 e1 q1 => ?_) q⟩
 intro x H1 f1 g1 A1 R1 S1 K1
 refine ⟨e1, f1, A1, mb _ _ _ (fun r2 e2 q2 => ?_) q1⟩
 intro y H2 f2 g2 A2 R2 S2 K2
 obtain ⟨R1', n⟩ := R1.wait A1 S2 K2
 exact ⟨r1, r2, e2, f2, g1, g2, A2, R1', R2, n, S1.trans (S2.frame g1), K1.trans K2, q2⟩
end
def dVar (i : Nat) : XE := fun env Q => match env[i]? with
 | some (some (.int z, _)) => Q (.tmp (.int z)) env
 | some (some (.bl z, _)) => Q (.tmp (.bl z)) env
 | some (some (.str z, _)) => Q (.tmp (.str z)) env
 | some (some (.non, _)) => Q (.tmp .non) env
 | some (some (.dF kvs, .own)) => Q (.ro true (.dT kvs)) env
 | some (some (d, .ro)) => Q (.ro false d) env
 | some (some (d, .cst)) => Q (.ro true d) env
 | some (some (_, .own)) => Q (.sl i) env
 | some (some (_, .io)) => Q (.sl i) env
 | some (some (_, .lk)) => Q (.sl i) env
 | _ => False
def dC (d : D) : XE := fun env Q => Q (.tmp d) env
def dG (d : D) : XE := fun env Q => Q (mkRo true d) env
section
variable {X : Cx}
theorem qC {P : Addr → Prop} : ∀ b ∈ ([] : List Addr), P b := fun b hb => by simp at hb
theorem Rep.frz2 {K : PySem.W.Frag} {H : Hp} {lv : Nat} {kvs : List (List Key × D)} {v : V} {g : List Addr} (r : Rep K H lv (.dF kvs) v g) (l : lv ≤ 2) : Rep K H 2 (.dT kvs) v [] := by
 cases r with
 | dF h e nd r => exact .dTF (Nat.le_refl _) h e nd (r.up l)
theorem qj (i : Nat) {x : Str} {pos : Pos} (hN : X.N[i]? = some x := by rfl) (hv : Vis X.env.scope x := by first | exact Or.inl rfl | exact Or.inr (Or.inl rfl) | exact Or.inr (Or.inr rfl)) (hd : (x == ("__debug__" : Str)) = false := by decide)
 (hcd : (x == ("__classdict__" : Str)) = false := by decide) : DE X (.Name x pos) (dVar i) := by
 refine ⟨PE.imp (pe_var hN hv hd hcd) fun σ H Q q => ?_, fun env Q Q' h q => ?_⟩
 ·obtain ⟨env, f, A, q⟩ := q
  unfold dVar at q
  split at q
  all_goals first
   | exact q.elim
   | (rename_i e
      obtain ⟨v, h1, rp⟩ := A.rep _ _ _ e
      refine ⟨v, h1, ?_⟩
      first
       | exact q v H f _ A (.tmp rp.int0 qC) .refl .refl
       | exact q v H f _ A (.tmp rp.bl0 qC) .refl .refl
       | exact q v H f _ A (.tmp rp.str0 qC) .refl .refl
       | exact q v H f _ A (.tmp rp.non0 qC) .refl .refl
       | exact q v H f _ A (.ro (rp.frz2 (Nat.zero_le _)) qC) .refl .refl
       | exact q v H f _ A (.ro rp fun b hb => ⟨_, _, _, e, by decide, hb⟩) .refl .refl
       | exact q v H f _ A (.sl h1 e rfl) .refl .refl)
 ·unfold dVar at q ⊢
  split at q <;> first | exact q.elim | exact h _ _ q
theorem qm {i j pos} : DE X (.Constant (.int i) j pos) (dC (.int i)) :=
 ⟨PE.imp pe_int fun σ H Q ⟨env, f, A, q⟩ => q _ H f _ A (.tmp (.int i) qC) .refl .refl, fun env Q Q' h q => h _ _ q⟩
theorem jU {i j pos} : DE X (.Constant (.bool i) j pos) (dC (.bl i)) :=
 ⟨PE.imp pe_bl fun σ H Q ⟨env, f, A, q⟩ => q _ H f _ A (.tmp (.bl i) qC) .refl .refl, fun env Q Q' h q => h _ _ q⟩
theorem WM {i j pos} : DE X (.Constant (.str i) j pos) (dC (.str i)) :=
 ⟨PE.imp pe_str fun σ H Q ⟨env, f, A, q⟩ => q _ H f _ A (.tmp (.str i) qC) .refl .refl, fun env Q Q' h q => h _ _ q⟩
theorem J8 {j pos} : DE X (.Constant .none j pos) (dC .non) :=
 ⟨PE.imp pe_non fun σ H Q ⟨env, f, A, q⟩ => q _ H f _ A (.tmp .non qC) .refl .refl, fun env Q Q' h q => h _ _ q⟩
def rOp (K : PySem.W.Frag) (L : Nat) (op : D → D → (D → Prop) → Prop) : R2 := fun x y H Q => ∃ d1 d2 g1 g2, Rep K H L d1 x g1 ∧ Rep K H L d2 y g2 ∧ op d1 d2 fun d => ∀ z H' g, Rep K H' 0 d z g → Ext H H' g → Q z H'
def Jd (op : D → D → (D → Prop) → Prop) : Prop := ∀ d1 d2 k k', (∀ d, k d → k' d) → op d1 d2 k → op d1 d2 k'
structure OpD (X : Cx) (fn : Value → Value → Sem Value) (L : Nat) (op : D → D → (D → Prop) → Prop) : Prop where
 run : OpR X fn (rOp X.K L op)
 mono : Jd op
def dBin (L : Nat) (op : D → D → (D → Prop) → Prop) (ta tb : XE) : XE := fun env Q => ta env fun r1 e1 => tb e1 fun r2 e2 => rd L r1 e2 fun d1 => rd L r2 e2 fun d2 => op d1 d2 fun d => Q (.tmp d) e2
theorem Z7 {L : Nat} {op : D → D → (D → Prop) → Prop} {ta tb : XE} (ho : Jd op) (ha : uE ta) (hb : uE tb) : uE (dBin L op ta tb) := fun env Q Q' h q =>
 ha _ _ _ (fun r1 e1 q => hb _ _ _ (fun r2 e2 q => qZ (fun d1 q => qZ (fun d2 q => ho _ _ _ _ (fun d q => h _ _ q) q) q) q) q) q
theorem Z8 {K : PySem.W.Frag} {L : Nat} {op : D → D → (D → Prop) → Prop} {ta tb : XE} (ho : Jd op) (ha : uE ta) (hb : uE tb) {σ : L2.St} {H : Hp} {Q : VK} (q : vR K (dBin L op ta tb) σ H Q) :
 tOp (rOp K L op) (vR K ta) (vR K tb) σ H Q := by
 obtain ⟨env, f, A, q⟩ := q
 have h := qbd (C := fun r1 r2 e2 => rd L r1 e2 fun d1 => rd L r2 e2 fun d2 => op d1 d2 fun d => _) ha hb A q
 obtain ⟨env1, f1, A1, q1⟩ := h
 refine ⟨env1, f1, A1, ha _ _ _ (fun r1 e1 z => ?_) q1⟩
 intro x H1 f1 g1 a b c d
 obtain ⟨env2, f2, A2, q2⟩ := z x H1 f1 g1 a b c d
 refine ⟨env2, f2, A2, hb _ _ _ (fun r2 e2 z => ?_) q2⟩
 intro y H2 f2 g2 a b c d
 obtain ⟨r1, r2, e2, f2, g1, g2, A2, R1, R2, n, S, Kk, q3⟩ := z y H2 f2 g2 a b c d
 obtain ⟨d1, g1', rp1, q3⟩ := xf A2 R1 q3
 obtain ⟨d2, g2', rp2, q3⟩ := xf A2 R2 q3
 refine ⟨d1, d2, g1', g2', rp1, rp2, ho _ _ _ _ (fun dd q4 => ?_) q3⟩
 intro z H' g rp x
 obtain ⟨A3, R3, S3⟩ := uQ A2 S x rp
 exact q4 z H' f2 g A3 R3 S3 Kk
variable {a b c : Expr} {ta tb tc : XE} {pos : Pos} {L : Nat} {op' : D → D → (D → Prop) → Prop}
theorem qI {op : Operator} (ho : OpD X (binaryOp op) L op') (ha : DE X a ta) (hb : DE X b tb) : DE X (.BinOp a op b pos) (dBin L op' ta tb) :=
 ⟨PE.imp (pe_op ho.run ha.run hb.run) fun σ H Q q => Z8 ho.mono ha.mono hb.mono q, Z7 ho.mono ha.mono hb.mono⟩
theorem xm {op : CmpOp} (ho : OpD X (compareOp op) L op') (ha : DE X a ta) (hb : DE X b tb) (hm : behindInMarks op b = false) : DE X (.Compare a [op] [b] pos) (dBin L op' ta tb) :=
 ⟨PE.imp (pe_cmpR ho.run ha.run hb.run hm) fun σ H Q q => Z8 ho.mono ha.mono hb.mono q, Z7 ho.mono ha.mono hb.mono⟩
end
end BX
namespace BX
open PySem PySem.Spec PyProof.Rows L2
structure Ok (X : Cx) : Prop where
 calm : X.calm = true
 un : X.A.units + 100 < cLine
mutual
def D.py : D → PyData
 | .non => .none
 | .bl b => .bool b
 | .int i => .int i
 | .str s => .str s
 | .tup xs => .tuple (pyL xs)
 | .lst xs => .list (pyL xs)
 | .dT _ => .dict []
 | .dK _ => .dict []
 | .dF _ => .dict []
 | .lF xs => .list (pyL xs)
 | .ob _ _ => .dict []
 | .ex _ _ => .dict []
 | .dN _ => .dict []
 | .op _ => .dict []
def pyL : List D → List PyData
 | [] => []
 | d :: ds => d.py :: pyL ds
end
theorem qcE : ∀ ds : List D, pyL ds = ds.map D.py
 | [] => by rw [pyL]; rfl
 | d :: ds => by rw [pyL, qcE ds]; rfl
def deq (a b : D) : Bool := PyData.eqv a.py b.py
def eqOk (a : D) : Bool := SeqAt.shaped a.py
section
variable {K : PySem.W.Frag} {H : Hp} {lv : Nat}
mutual
theorem Rep.dp : ∀ {d : D} {v : V} {f : List Addr}, Rep K H lv d v f → d.py.canLay0 = true → Dp K H v d.py
 | _, _, _, .non, _ => by rw [D.py]; exact .non
 | _, _, _, .bl b, _ => by rw [D.py]; exact .bl b
 | _, _, _, .int i, _ => by rw [D.py]; exact .int i
 | _, _, _, .str s, _ => by rw [D.py]; exact .str s
 | _, _, _, .tup h r, e => by
   rw [D.py] at e ⊢
   exact .tup (.inl (.inl h)) (Reps.dp r (by simpa [PyData.canLay0] using e))
 | _, _, _, .tupK l h r, e => by
   rw [D.py] at e ⊢
   exact .tup h.sq (Reps.dp r (by simpa [PyData.canLay0] using e))
 | _, _, _, .lst h r n, e => by
   rw [D.py] at e ⊢
   exact .lst (.inl (.inl h)) (Reps.dp r (by simpa [PyData.canLay0] using e))
 | _, _, _, .lstF l h r, e => by
   rw [D.py] at e ⊢
   exact .lst h.sq (Reps.dp r (by simpa [PyData.canLay0] using e))
 | _, _, _, .dT h e' nd r n, e => by rw [D.py] at e; simp [PyData.canLay0] at e
 | _, _, _, .dTF l h e' nd r, e => by rw [D.py] at e; simp [PyData.canLay0] at e
 | _, _, _, .dF h e' nd r, e => by rw [D.py] at e; simp [PyData.canLay0] at e
 | _, _, _, .ob h c e' r n, e => by rw [D.py] at e; simp [PyData.canLay0] at e
 | _, _, _, .lF h r, e => by
   rw [D.py] at e ⊢
   exact .lst (.inl (.inr ⟨_, h⟩)) (Reps.dp r (by simpa [PyData.canLay0] using e))
 | _, _, _, .dK h e' nd r n, e => by rw [D.py] at e; simp [PyData.canLay0] at e
theorem Reps.dp : ∀ {ds : List D} {vs : List V} {f : List Addr}, Reps K H lv ds vs f → PyData.canLayAll0 (pyL ds) = true → DpAll K H vs (pyL ds)
 | _, _, _, .nil, _ => by rw [pyL]; exact .nil
 | _, _, _, .cons r t n, e => by
   rw [pyL] at e ⊢
   rw [PyData.canLayAll0, Bool.and_eq_true] at e
   have e' := e
   exact .cons (Rep.dp r e'.1) (Reps.dp t e'.2)
end
theorem Rep.eqd {d : D} {v : V} {f : List Addr} (r : Rep K H lv d v f) (e : eqOk d = true) : Dp K H v d.py ∧ SeqAt.shaped d.py = true := ⟨r.dp (SeqAt.canLay_of_shaped e), e⟩
end
abbrev OP := D → D → (D → Prop) → Prop
def opEq : OP := fun a b k => eqOk a = true ∧ eqOk b = true ∧ k (.bl (deq a b))
def opNe : OP := fun a b k => eqOk a = true ∧ eqOk b = true ∧ k (.bl (!deq a b))
def Jz (g : Int → Int → D) : OP := fun a b k => match a, b with
 | .int i, .int j => k (g i j)
 | _, _ => False
def Wz (C : Int → Int → Prop) (g : Int → Int → D) : OP := fun a b k => match a, b with
 | .int i, .int j => C i j ∧ k (g i j)
 | _, _ => False
def wY : OP := fun a b k => match a, b with
 | .int i, .int j => k (.int (i + j))
 | .str i, .str j => i.length + j.length ≤ sizeLine ∧ k (.str (i ++ j))
 | .lst xs, .lst ys => immL xs = true ∧ immL ys = true ∧ xs.length + ys.length ≤ sizeLine ∧ k (.lst (xs ++ ys))
 | .tup xs, .tup ys => immL xs = true ∧ immL ys = true ∧ xs.length + ys.length ≤ sizeLine ∧ k (.tup (xs ++ ys))
 | .lF xs, .lst ys => immL xs = true ∧ immL ys = true ∧ xs.length + ys.length ≤ sizeLine ∧ k (.lst (xs ++ ys))
 | .lst xs, .lF ys => immL xs = true ∧ immL ys = true ∧ xs.length + ys.length ≤ sizeLine ∧ k (.lst (xs ++ ys))
 | .lF xs, .lF ys => immL xs = true ∧ immL ys = true ∧ xs.length + ys.length ≤ sizeLine ∧ k (.lst (xs ++ ys))
 | _, _ => False
def Qh : OP := fun a b k => match a, b with
 | .int i, .int j => IntMulOk i j ∧ k (.int (i * j))
 | .lst xs, .int j => immL xs = true ∧ -(2 ^ 63) ≤ j ∧ j < 2 ^ 63 ∧ xs.length * j.toNat ≤ sizeLine ∧ k (.lst (List.replicate j.toNat xs).flatten)
 | _, _ => False
abbrev j9 : OP := Jz fun i j => .int (i - j)
abbrev u5 : OP := Wz (fun _ j => 0 < j) fun i j => .int (i % j)
abbrev qcP : OP := Wz CDiv fun i j => .int (i / j)
abbrev qik : OP := Wz CPow fun i j => .int (i ^ j.toNat)
abbrev opGt : OP := Jz fun i j => .bl (decide (j < i))
abbrev opGe : OP := Jz fun i j => .bl (decide (j ≤ i))
def intL : List D → Option (List Int)
 | [] => some []
 | .int i :: ds => (intL ds).map (i :: ·)
 | _ :: _ => none
def opLt : OP := fun a b k => match a, b with
 | .int i, .int j => k (.bl (decide (i < j)))
 | .tup xs, .tup ys => match intL xs, intL ys with
   | some ns, some ms => k (.bl (HT.lexLt ns ms))
   | _, _ => False
 | _, _ => False
def isNon : D → Bool
 | .non => true
 | _ => false
def opIs : OP := fun a b k => match a, b with
 | a, .non => k (.bl (isNon a))
 | .bl i, .bl j => k (.bl (decide (i = j)))
 | _, _ => False
def uL : OP := fun a b k => match a, b with
 | a, .non => k (.bl (!isNon a))
 | .bl i, .bl j => k (.bl (!decide (i = j)))
 | _, _ => False
def dKey : D → Option Key
 | .int i => some (.inl i)
 | .str s => some (.inr s)
 | _ => none
def xU : List D → Option (List Key)
 | [] => some []
 | d :: ds => match dKey d, xU ds with
   | some k, some ks => some (k :: ks)
   | _, _ => none
def hasT (kvs : List (List Key × D)) (k : List Key) : Bool := kvs.any fun p => decide (p.1 = k)
def hasK (kvs : List (Key × D)) (k : Key) : Bool := kvs.any fun p => decide (p.1 = k)
def findIn (a : D) : List D → Bool
 | [] => false
 | d :: ds => deq d a || findIn a ds
def Wf (n : Bool) : OP := fun a b k => match b with
 | .dT kvs => match a with
   | .tup ds => match xU ds with
     | some ks => k (.bl (n != hasT kvs ks))
     | none => False
   | _ => False
 | .dK kvs => match dKey a with
   | some ky => k (.bl (n != hasK kvs ky))
   | none => False
 | .lst ds => eqOk a = true ∧ eqOk (.lst ds) = true ∧ k (.bl (n != findIn a ds))
 | .lF ds => eqOk a = true ∧ eqOk (.lF ds) = true ∧ k (.bl (n != findIn a ds))
 | .tup ds => eqOk a = true ∧ eqOk (.tup ds) = true ∧ k (.bl (n != findIn a ds))
 | .str s => match a with
   | .str t => k (.bl (n != !(Builtin.Str.occurrences s t 0 s.length 1).isEmpty))
   | _ => False
 | _ => False
abbrev opIn := Wf false
abbrev Xm := Wf true
section
variable {K : PySem.W.Frag} {H : Hp} {lv : Nat}
theorem Reps.intL : ∀ {ds : List D} {vs : List V} {f : List Addr} {ns : List Int}, Reps K H lv ds vs f → BX.intL ds = some ns → vs = ns.map V.int
 | _, _, _, _, .nil, e => by
   rw [BX.intL] at e; cases e; rfl
 | _, _, _, ns, .cons (d := d) (ds := ds) r t _, e => by
   cases r with
   | int i =>
     rw [BX.intL] at e
     obtain ⟨ms, h1, h2⟩ := Option.map_eq_some_iff.mp e
     subst h2
     rw [Reps.intL t h1]
     rfl
   | _ => rw [BX.intL] at e <;> first | (cases e) | (intro i z; cases z)
theorem Rep.dKey {d : D} {v : V} {f : List Addr} {k : Key} (r : Rep K H lv d v f) (e : BX.dKey d = some k) : v = kV k := by
 cases r with
 | int i => rw [BX.dKey] at e; cases e; rfl
 | str s => rw [BX.dKey] at e; cases e; rfl
 | _ => rw [BX.dKey] at e <;> first | (cases e) | (intro i z; cases z)
theorem Reps.xU : ∀ {ds : List D} {vs : List V} {f : List Addr} {ks : List Key}, Reps K H lv ds vs f → BX.xU ds = some ks → vs = ks.map kV
 | _, _, _, _, .nil, e => by
   rw [BX.xU] at e; cases e; rfl
 | _, _, _, ns, .cons (d := d) (ds := ds) r t _, e => by
   rw [BX.xU] at e
   split at e
   ·rename_i k ks h1 h2
    cases e
    rw [r.dKey h1, Reps.xU t h2]
    rfl
   ·cases e
end
section
variable {κ : Type} [DecidableEq κ]
theorem W4 : ∀ {hs : List (κ × V)} {kvs : List (κ × D)} {k : κ}, hs.map (·.1) = kvs.map (·.1) → (valV hs k).isSome = kvs.any fun p => decide (p.1 = k)
 | [], [], _, _ => rfl
 | [], _ :: _, _, e => by simp at e
 | _ :: _, [], _, e => by simp at e
 | p :: hs, q :: kvs, k, e => by
   rw [List.map_cons, List.map_cons, List.cons.injEq] at e
   rw [List.any_cons, ← e.1]
   by_cases h : p.1 = k
   ·rw [valV_pos h, decide_eq_true h]; rfl
   ·rw [valV_neg h, decide_eq_false h, Bool.false_or]; exact W4 e.2
end
theorem jy (a : D) : ∀ ds : List D, findIn a ds = (pyL ds).any fun z => PyData.eqv z a.py
 | [] => by rw [pyL]; rfl
 | d :: ds => by rw [pyL, List.any_cons, findIn, jy a ds]; rfl
section
variable {X : Cx}
theorem OpD.mk' {fn : Value → Value → Sem Value} {L : Nat} {op : OP} (run : ∀ (pins : List (Addr × Obj)) (s : Shared) (σ : L2.St) (H : Hp) (x y : V) (v u : Value) (Q : VK) (d1 d2 : D) (g1 g2 : List Addr), Inv X pins σ H s → RelV x v → RelV y u →
 Rep X.K H L d1 x g1 → Rep X.K H L d2 y g2 → (op d1 d2 fun d => ∀ z H' g, Rep X.K H' 0 d z g → Ext H H' g → Q z H') → wpAny (model X.prog X.w) X.A (fn v u) (EP X pins σ Q) X.xe s) (mono : Jd op) : OpD X fn L op :=
 ⟨fun pins s σ H x y v u Q I rx ry ⟨d1, d2, g1, g2, r1, r2, q⟩ => run pins s σ H x y v u Q d1 d2 g1 g2 I rx ry r1 r2 q, mono⟩
theorem qeE {g : Int → Int → D} : Jd (Jz g) := fun a b k k' h q => by
 unfold Jz at q ⊢
 split at q
 ·exact h _ q
 ·exact q.elim
theorem qc1 {C : Int → Int → Prop} {g : Int → Int → D} : Jd (Wz C g) := fun a b k k' h q => by
 unfold Wz at q ⊢
 split at q
 ·exact ⟨q.1, h _ q.2⟩
 ·exact q.elim
theorem qcR {fn : Value → Value → Sem Value} {g : Int → Int → D} {gv : Int → Int → V} (h : OpR X fn (rI0 gv)) (hg : ∀ i j H, Rep X.K H 0 (g i j) (gv i j) []) : OpD X fn 2 (Jz g) := .mk' (fun pins s σ H x y v u Q d1 d2 g1 g2 I rx ry r1 r2 q => by
 unfold Jz at q
 split at q
 ·obtain ⟨rfl, _⟩ := r1.intV
  obtain ⟨rfl, _⟩ := r2.intV
  exact h pins s σ H _ _ v u Q I rx ry ⟨_, _, rfl, rfl, q _ _ [] (hg _ _ _) .refl⟩
 ·exact q.elim) qeE
theorem VD {fn : Value → Value → Sem Value} {C : Int → Int → Prop} {g : Int → Int → D} {gv : Int → Int → V} (h : OpR X fn (rI C gv)) (hg : ∀ i j H, Rep X.K H 0 (g i j) (gv i j) []) : OpD X fn 2 (Wz C g) := .mk' (fun pins s σ H x y v u Q d1 d2 g1 g2 I rx ry r1 r2 q => by
 unfold Wz at q
 split at q
 ·obtain ⟨rfl, _⟩ := r1.intV
  obtain ⟨rfl, _⟩ := r2.intV
  exact h pins s σ H _ _ v u Q I rx ry ⟨_, _, rfl, rfl, q.1, q.2 _ _ [] (hg _ _ _) .refl⟩
 ·exact q.elim) qc1
theorem xQ : OpD X (binaryOp .Sub) 2 j9 := qcR op_sub fun _ _ _ => .int _
theorem jn : OpD X (binaryOp .Mod) 2 u5 := VD op_mod fun _ _ _ => .int _
theorem qcS : OpD X (binaryOp .FloorDiv) 2 qcP := VD op_fdiv fun _ _ _ => .int _
theorem qim : OpD X (binaryOp .Pow) 2 qik := VD op_pow fun _ _ _ => .int _
theorem qbD : OpD X (compareOp .Gt) 2 opGt := qcR op_gt fun _ _ _ => .bl _
theorem qki : OpD X (compareOp .GtE) 2 opGe := qcR op_ge fun _ _ _ => .bl _
theorem vf {H : Hp} {p : Addr} {ds : List D} {vs : List V} (h : H p = none) (r : Reps X.K H 0 ds vs []) : Rep X.K (L2.upd H p (.lst vs)) 0 (.lst ds) (.ref p) [p] :=
 .lst upd_same (r.keep fun b o e _ => (Ext.upd h).same b o e) (fun _ => by simp)
theorem Zk {H : Hp} {p : Addr} {ds : List D} {vs : List V} {f : List Addr} (h : H p = none) (r : Reps X.K H 0 ds vs f) : Rep X.K (L2.upd H p (.tup vs)) 0 (.tup ds) (.ref p) f :=
 .tup upd_same (r.keep fun b o e _ => (Ext.upd h).same b o e)
theorem Ext.updT {H : Hp} {p : Addr} {o : HO} (h : H p = none) : Ext H (L2.upd H p o) [] := (Ext.upd h).drop qC
def LsF (H : Hp) (a : Addr) (vs : List V) : Prop := H a = some (.lst vs) ∨ ∃ o, H a = some (.frz o (.lst vs))
theorem LsF.at {pins : List (Addr × Obj)} {s : Shared} {σ : L2.St} {H : Hp} {a : Addr} {vs : List V} (I : Inv X pins σ H s) (h : LsF H a vs) : ∃ (its : List Value) (n : Nat), Vals vs its ∧ s.heap.get? a = some { cls := .type "list", data := .seq its.toArray n } := by
 rcases h with h | ⟨o, h⟩
 ·obtain ⟨_, its, n, r, e⟩ := I.hok a _ h
  exact ⟨its, n, r, e⟩
 ·obtain ⟨_, _, its, n, r, e⟩ := I.hok a _ h
  exact ⟨its, n, r, e⟩
theorem Rep.lFLs {K : PySem.W.Frag} {H : Hp} {lv : Nat} {ds : List D} {v : V} {f : List Addr} (r : Rep K H lv (.lF ds) v f) : ∃ a vs, v = .ref a ∧ LsF H a vs ∧ Reps K H lv ds vs f := by
 cases r with
 | lF h r => exact ⟨_, _, rfl, .inr ⟨_, h⟩, r⟩
theorem X5 {pins : List (Addr × Obj)} {s : Shared} {σ : L2.St} {H : Hp} {a b : Addr} {v u : Value} {Q : VK} {vs ws : List V} {xs ys : List D} {f g : List Addr} (I : Inv X pins σ H s) (rx : RelV (.ref a) v) (ry : RelV (.ref b) u) (ha : LsF H a vs) (hb : LsF H b ws)
 (ra : Reps X.K H 1 xs vs f) (rb : Reps X.K H 1 ys ws g) (i1 : immL xs = true) (i2 : immL ys = true) (z : xs.length + ys.length ≤ sizeLine) (q : ∀ z H' g, Rep X.K H' 0 (.lst (xs ++ ys)) z g → Ext H H' g → Q z H') : wpAny (model X.prog X.w) X.A (binaryOp .Add v u) (EP X pins σ Q) X.xe s := by
 obtain ⟨_, ra'⟩ := ra.imm (Nat.le_refl _) i1
 obtain ⟨_, rb'⟩ := rb.imm (Nat.le_refl _) i2
 cases rx
 cases ry
 obtain ⟨i, n, r1, p1⟩ := ha.at I
 obtain ⟨j, m, r2, p2⟩ := hb.at I
 have l1 := r1.length
 have l2 := r2.length
 have l3 := ra.len
 have l4 := rb.len
 refine PySem.P.add_list p1 p2 ?_ (by simp only [List.size_toArray]; omega)
 have e : i.toArray ++ j.toArray = (i ++ j).toArray := by simp
 rw [e]
 exact ⟨.ref _, _, I.lnew (t' := s.toks) (r1.append r2) (by rw [List.length_append]; omega), rfl, q _ _ _ (vf I.fresh (ra'.append rb' fun _ b hb => by simp at hb)) (.upd I.fresh)⟩
theorem wI : OpD X (binaryOp .Add) 1 wY := .mk' (fun pins s σ H x y v u Q d1 d2 g1 g2 I rx ry r1 r2 q => by
 unfold wY at q
 split at q
 ·obtain ⟨rfl, _⟩ := r1.intV
  obtain ⟨rfl, _⟩ := r2.intV
  exact op_add pins s σ H _ _ v u Q I rx ry ⟨_, _, rfl, rfl, q _ _ [] (.int _) .refl⟩
 ·obtain ⟨rfl, _⟩ := r1.strV
  obtain ⟨rfl, _⟩ := r2.strV
  exact op_add_str pins s σ H _ _ v u Q I rx ry ⟨_, _, rfl, rfl, q.1, q.2 _ _ [] (.str _) .refl⟩
 ·obtain ⟨i1, i2, z, q⟩ := q
  obtain ⟨a, vs, ga, rfl, ha, ra, _⟩ := r1.listAt1 (Nat.le_refl _)
  obtain ⟨b, ws, gb, rfl, hb, rb, _⟩ := r2.listAt1 (Nat.le_refl _)
  obtain ⟨_, ra'⟩ := ra.imm (Nat.le_refl _) i1
  obtain ⟨_, rb'⟩ := rb.imm (Nat.le_refl _) i2
  refine op_cat pins s σ H _ _ v u Q I rx ry ⟨_, _, _, _, rfl, rfl, ha, hb, by rw [← ra.len, ← rb.len]; exact z, fun p hp => q _ _ _ (vf hp (ra'.append rb' fun _ b hb => by simp at hb)) (.upd hp)⟩
 ·obtain ⟨i1, i2, z, q⟩ := q
  obtain ⟨a, vs, rfl, ha, ra⟩ := r1.tupleSq
  obtain ⟨b, ws, rfl, hb, rb⟩ := r2.tupleSq
  obtain ⟨_, ra'⟩ := ra.imm (Nat.le_refl _) i1
  obtain ⟨_, rb'⟩ := rb.imm (Nat.le_refl _) i2
  refine op_catA pins s σ H _ _ v u Q I rx ry ⟨_, _, _, _, rfl, rfl, ha, hb, by rw [← ra.len, ← rb.len]; exact z, fun e => ?_, fun _ e => ?_, fun e1 e2 p hp => q _ _ _ (Zk hp (ra'.append rb' fun _ b hb => by simp at hb)) (.updT hp)⟩
  ·subst e
   have : _ = [] := List.eq_nil_of_length_eq_zero (ra.len.trans rfl)
   subst this
   exact q _ _ [] (r2.imm (Nat.le_refl _) (by rw [D.imm]; exact i2)).2 .refl
  ·subst e
   have : _ = [] := List.eq_nil_of_length_eq_zero (rb.len.trans rfl)
   subst this
   rw [List.append_nil] at q
   exact q _ _ [] (r1.imm (Nat.le_refl _) (by rw [D.imm]; exact i1)).2 .refl
 ·obtain ⟨i1, i2, z, q⟩ := q
  obtain ⟨a, vs, rfl, ha, ra⟩ := r1.lFLs
  obtain ⟨b, ws, gb, rfl, hb, rb, _⟩ := r2.listAt1 (Nat.le_refl _)
  exact X5 I rx ry ha (.inl hb) ra rb i1 i2 z q
 ·obtain ⟨i1, i2, z, q⟩ := q
  obtain ⟨a, vs, ga, rfl, ha, ra, _⟩ := r1.listAt1 (Nat.le_refl _)
  obtain ⟨b, ws, rfl, hb, rb⟩ := r2.lFLs
  exact X5 I rx ry (.inl ha) hb ra rb i1 i2 z q
 ·obtain ⟨i1, i2, z, q⟩ := q
  obtain ⟨a, vs, rfl, ha, ra⟩ := r1.lFLs
  obtain ⟨b, ws, rfl, hb, rb⟩ := r2.lFLs
  exact X5 I rx ry ha hb ra rb i1 i2 z q
 ·exact q.elim) (fun a b k k' h q => by
 unfold wY at q ⊢
 split at q
 ·exact h _ q
 ·exact ⟨q.1, h _ q.2⟩
 ·exact ⟨q.1, q.2.1, q.2.2.1, h _ q.2.2.2⟩
 ·exact ⟨q.1, q.2.1, q.2.2.1, h _ q.2.2.2⟩
 ·exact ⟨q.1, q.2.1, q.2.2.1, h _ q.2.2.2⟩
 ·exact ⟨q.1, q.2.1, q.2.2.1, h _ q.2.2.2⟩
 ·exact ⟨q.1, q.2.1, q.2.2.1, h _ q.2.2.2⟩
 ·exact q.elim)
theorem qgo : OpR X (binaryOp .Mult) (rI IntMulOk fun i j => .int (i * j)) := opI fun _ _ _ _ _ _ _ hc q => mul_int q hc
theorem qaE {K : PySem.W.Frag} {H : Hp} {ds : List D} {vs : List V} (r : Reps K H 0 ds vs []) : ∀ n : Nat, Reps K H 0 (List.replicate n ds).flatten (List.replicate n vs).flatten []
 | 0 => by
   rw [List.replicate_zero, List.replicate_zero]; exact .nil
 | n + 1 => by
   rw [List.replicate_succ, List.replicate_succ, List.flatten_cons, List.flatten_cons]
   exact r.append (f := []) (g := []) (qaE r n) fun _ b hb => by simp at hb
theorem QL : OpD X (binaryOp .Mult) 1 Qh := .mk' (fun pins s σ H x y v u Q d1 d2 g1 g2 I rx ry r1 r2 q => by
 unfold Qh at q
 split at q
 ·obtain ⟨rfl, _⟩ := r1.intV
  obtain ⟨rfl, _⟩ := r2.intV
  exact qgo pins s σ H _ _ v u Q I rx ry ⟨_, _, rfl, rfl, q.1, q.2 _ _ [] (.int _) .refl⟩
 ·obtain ⟨i1, z1, z2, z3, q⟩ := q
  obtain ⟨a, vs, ga, rfl, ha, ra, _⟩ := r1.listAt1 (Nat.le_refl _)
  obtain ⟨rfl, _⟩ := r2.intV
  obtain ⟨_, ra'⟩ := ra.imm (Nat.le_refl _) i1
  exact op_rep pins s σ H _ _ v u Q I rx ry ⟨_, _, _, rfl, rfl, ha, z1, z2, by rw [← ra.len]; exact z3, fun p hp => q _ _ _ (vf hp (qaE ra' _)) (.upd hp)⟩
 ·exact q.elim) (fun a b k k' h q => by
 unfold Qh at q ⊢
 split at q
 ·exact ⟨q.1, h _ q.2⟩
 ·exact ⟨q.1, q.2.1, q.2.2.1, q.2.2.2.1, h _ q.2.2.2.2⟩
 ·exact q.elim)
variable (hx : Ok X)
include hx
theorem jt : OpD X (compareOp .Eq) 2 opEq := .mk' (fun pins s σ H x y v u Q d1 d2 g1 g2 I rx ry r1 r2 q => by
 obtain ⟨a1, b1⟩ := r1.eqd q.1
 obtain ⟨a2, b2⟩ := r2.eqd q.2.1
 exact op_eqD (by have := hx.un; omega) pins s σ H _ _ v u Q I rx ry ⟨_, _, a1, a2, b1, b2, q.2.2 _ _ [] (.bl _) .refl⟩) (fun a b k k' h q => ⟨q.1, q.2.1, h _ q.2.2⟩)
theorem Xo : OpD X (compareOp .NotEq) 2 opNe := .mk' (fun pins s σ H x y v u Q d1 d2 g1 g2 I rx ry r1 r2 q => by
 obtain ⟨a1, b1⟩ := r1.eqd q.1
 obtain ⟨a2, b2⟩ := r2.eqd q.2.1
 exact op_neD (by have := hx.un; omega) pins s σ H _ _ v u Q I rx ry ⟨_, _, a1, a2, b1, b2, q.2.2 _ _ [] (.bl _) .refl⟩) (fun a b k k' h q => ⟨q.1, q.2.1, h _ q.2.2⟩)
theorem qcQ : OpD X (compareOp .Lt) 2 opLt := .mk' (fun pins s σ H x y v u Q d1 d2 g1 g2 I rx ry r1 r2 q => by
 unfold opLt at q
 split at q
 ·obtain ⟨rfl, _⟩ := r1.intV
  obtain ⟨rfl, _⟩ := r2.intV
  exact op_lt pins s σ H _ _ v u Q I rx ry ⟨_, _, rfl, rfl, q _ _ [] (.bl _) .refl⟩
 ·split at q
  ·rename_i e1 e2
   obtain ⟨a, vs, rfl, ha, ra⟩ := r1.tupleSq
   obtain ⟨b, ws, rfl, hb, rb⟩ := r2.tupleSq
   rw [ra.intL e1] at ha
   rw [rb.intL e2] at hb
   exact op_ltT (by have := hx.un; omega) pins s σ H _ _ v u Q I rx ry ⟨_, _, _, _, rfl, rfl, ha, hb, q _ _ [] (.bl _) .refl⟩
  ·exact q.elim
 ·exact q.elim) (fun a b k k' h q => by
 unfold opLt at q ⊢
 split at q
 ·exact h _ q
 ·split at q
  ·simp only [*] <;> exact h _ q
  ·exact q.elim
 ·exact q.elim)
omit hx in
theorem Rep.isNon {K : PySem.W.Frag} {H : Hp} {lv : Nat} {d : D} {v : V} {f : List Addr} (r : Rep K H lv d v f) : decide (v = .non) = BX.isNon d := by
 cases r <;> simp [BX.isNon]
omit hx in
theorem qgq : OpD X (compareOp .Is) 2 opIs := .mk' (fun pins s σ H x y v u Q d1 d2 g1 g2 I rx ry r1 r2 q => by
 unfold opIs at q
 split at q
 ·obtain ⟨rfl, _⟩ := r2.nonV
  exact op_isN pins s σ H _ _ v u Q I rx ry ⟨rfl, by rw [r1.isNon]; exact q _ _ [] (.bl _) .refl⟩
 ·obtain ⟨rfl, _⟩ := r1.blV
  obtain ⟨rfl, _⟩ := r2.blV
  exact op_is_bl pins s σ H _ _ v u Q I rx ry ⟨_, _, rfl, rfl, q _ _ [] (.bl _) .refl⟩
 ·exact q.elim) (fun a b k k' h q => by
 unfold opIs at q ⊢
 split at q
 ·exact h _ q
 ·exact h _ q
 ·exact q.elim)
omit hx in
theorem qc2 {n : Bool} : Jd (Wf n) := fun a b k k' h q => by
 unfold Wf at q ⊢
 split at q
 ·split at q
  ·split at q
   ·simp only [*] <;> exact h _ q
   ·exact q.elim
  ·exact q.elim
 ·split at q
  ·simp only [*] <;> exact h _ q
  ·exact q.elim
 ·exact ⟨q.1, q.2.1, h _ q.2.2⟩
 ·exact ⟨q.1, q.2.1, h _ q.2.2⟩
 ·exact ⟨q.1, q.2.1, h _ q.2.2⟩
 ·split at q
  ·exact h _ q
  ·exact q.elim
 ·exact q.elim
theorem qfB {n : Bool} {pins : List (Addr × Obj)} {s : Shared} {σ : L2.St} {H : Hp} {x y : V} {v u : Value} {Q : VK} {d1 d2 : D} {g1 g2 : List Addr} (I : Inv X pins σ H s) (rx : RelV x v) (ry : RelV y u) (r1 : Rep X.K H 1 d1 x g1) (r2 : Rep X.K H 1 d2 y g2)
 (q : Wf n d1 d2 fun d => ∀ z H' g, Rep X.K H' 0 d z g → Ext H H' g → Q z H') : wpAny (model X.prog X.w) X.A (compareOp (if n then .NotIn else .In) v u) (EP X pins σ Q) X.xe s := by
 have hu := hx.un
 unfold Wf at q
 split at q
 ·rename_i kvs
  split at q
  ·rename_i ds
   split at q
   ·rename_i ks e
    obtain ⟨a, vs, rfl, ha, ra⟩ := r1.tupleAt (Nat.le_refl _)
    rw [ra.xU e] at ha
    cases r2 with
    | @dT b hs kvs f hb he nd r nn =>
      cases ry
      have q' := q (.bl (n != hasT kvs ks)) H [] (.bl _) .refl
      have e2 := W4 (k := ks) he
      cases n with
      | false => exact d_in (by omega) I (DGet.t hb ha) rx fun s' I' => ⟨.bl _, H, I', rfl, by rw [e2]; simpa [hasT] using q'⟩
      | true => exact d_notIn (by omega) I (DGet.t hb ha) rx fun s' I' => ⟨.bl _, H, I', rfl, by rw [e2]; simpa [hasT] using q'⟩
    | dTF l _ _ _ _ => exact absurd l (by omega)
   ·exact q.elim
  ·exact q.elim
 ·rename_i kvs
  split at q
  ·rename_i ky e
   obtain rfl := r1.dKey e
   cases r2 with
   | @dK b hs kvs f hb he nd r nn =>
     cases ry
     have q' := q (.bl (n != hasK kvs ky)) H [] (.bl _) .refl
     have e2 := W4 (k := ky) he
     cases n with
     | false => exact d_in (by omega) I (DGet.k hb) rx fun s' I' => ⟨.bl _, H, I', rfl, by rw [e2]; simpa [hasK] using q'⟩
     | true => exact d_notIn (by omega) I (DGet.k hb) rx fun s' I' => ⟨.bl _, H, I', rfl, by rw [e2]; simpa [hasK] using q'⟩
  ·exact q.elim
 ·rename_i ds
  obtain ⟨a1, b1⟩ := r1.eqd q.1
  obtain ⟨a2, b2⟩ := r2.eqd q.2.1
  have q' := q.2.2 _ _ [] (.bl _) .refl
  rw [D.py] at a2 b2
  cases n with
  | false => exact op_inD (by omega) pins s σ H _ _ v u Q I rx ry ⟨_, _, a1, a2, b1, b2, by rw [jy] at q'; simpa using q'⟩
  | true => exact op_notInD (by omega) pins s σ H _ _ v u Q I rx ry ⟨_, _, a1, a2, b1, b2, by rw [jy] at q'; simpa using q'⟩
 ·rename_i ds
  obtain ⟨a1, b1⟩ := r1.eqd q.1
  obtain ⟨a2, b2⟩ := r2.eqd q.2.1
  have q' := q.2.2 _ _ [] (.bl _) .refl
  rw [D.py] at a2 b2
  cases n with
  | false => exact op_inD (by omega) pins s σ H _ _ v u Q I rx ry ⟨_, _, a1, a2, b1, b2, by rw [jy] at q'; simpa using q'⟩
  | true => exact op_notInD (by omega) pins s σ H _ _ v u Q I rx ry ⟨_, _, a1, a2, b1, b2, by rw [jy] at q'; simpa using q'⟩
 ·rename_i ds
  obtain ⟨a1, b1⟩ := r1.eqd q.1
  obtain ⟨a2, b2⟩ := r2.eqd q.2.1
  have q' := q.2.2 _ _ [] (.bl _) .refl
  rw [D.py] at a2 b2
  rw [jy] at q'
  obtain ⟨as, t1⟩ := Dp.reads I _ x v a1 rx
  obtain ⟨bs, t2⟩ := Dp.reads I _ y u a2 ry
  have hu2 : X.A.units + 65 < cLine := by omega
  cases n with
  | false => exact SeqAt.in_tuple_reads t2 t1 (SeqAt.canLay_of_shaped b2) (SeqAt.canLay_of_shaped b1) (room_in_shaped b1 hu2) ⟨.bl _, H, I, rfl, by simpa using q'⟩
  | true => exact SeqAt.notIn_tuple_reads t2 t1 (SeqAt.canLay_of_shaped b2) (SeqAt.canLay_of_shaped b1) (room_in_shaped b1 hu2) ⟨.bl _, H, I, rfl, by simpa using q'⟩
 ·split at q
  ·obtain ⟨rfl, _⟩ := r1.strV
   obtain ⟨rfl, _⟩ := r2.strV
   have q' := q _ _ [] (.bl _) .refl
   cases n with
   | false => exact op_in_str pins s σ H _ _ v u Q I rx ry ⟨_, _, rfl, rfl, by simpa using q'⟩
   | true => exact op_notin_str pins s σ H _ _ v u Q I rx ry ⟨_, _, rfl, rfl, by simpa using q'⟩
  ·exact q.elim
 ·exact q.elim
theorem qgr : OpD X (compareOp .In) 1 opIn := .mk' (fun pins s σ H x y v u Q d1 d2 g1 g2 I rx ry r1 r2 q => qfB (n := false) hx I rx ry r1 r2 q) qc2
theorem qeu : OpD X (compareOp .NotIn) 1 Xm := .mk' (fun pins s σ H x y v u Q d1 d2 g1 g2 I rx ry r1 r2 q => qfB (n := true) hx I rx ry r1 r2 q) qc2
end
end BX
namespace BX
open PySem PySem.Spec PyProof.Rows L2
def tru (d : D) (k : Bool → Prop) : Prop := match d with
 | .non => k false
 | .bl b => k b
 | .int i => k (i != 0)
 | .str s => s.length ≤ sizeLine ∧ k ((s.length : Int) != 0)
 | .lst xs => k (!xs.isEmpty)
 | .tup xs => k (!xs.isEmpty)
 | .dK kvs => k (!kvs.isEmpty)
 | .dT _ => False
 | .dF _ => False
 | .lF xs => k (!xs.isEmpty)
 | .ob _ _ => False
 | .ex _ _ => False
 | .dN _ => False
 | .op _ => False
theorem Qv {d : D} {k k' : Bool → Prop} (h : ∀ b, k b → k' b) (q : tru d k) : tru d k' := by
 cases d with
 | str s => exact ⟨q.1, h _ q.2⟩
 | dT _ => exact q.elim
 | dF _ => exact q.elim
 | ob _ _ => exact q.elim
 | ex _ _ => exact q.elim
 | dN _ => exact q.elim
 | op _ => exact q.elim
 | _ => exact h _ q
section
variable {K : PySem.W.Frag} {H : Hp} {lv : Nat}
theorem jd {α β : Type} {xs : List α} {ys : List β} (h : xs.length = ys.length) : xs.isEmpty = ys.isEmpty := by
 cases xs <;> cases ys <;> simp at h ⊢
theorem Rep.tru {d : D} {v : V} {f : List Addr} {k : Bool → Prop} (r : Rep K H lv d v f) (q : BX.tru d k) : ∃ b, TruV K v H b ∧ k b := by
 cases r with
 | non => exact ⟨false, rfl, q⟩
 | bl b => exact ⟨b, rfl, q⟩
 | int i => exact ⟨_, rfl, q⟩
 | str s => exact ⟨_, ⟨q.1, rfl⟩, q.2⟩
 | tup h r => exact ⟨_, .inr (.inl ⟨_, .inl (.inl h), by rw [jd r.len]⟩), q⟩
 | tupK l h r => exact ⟨_, .inr (.inl ⟨_, h.sq, by rw [jd r.len]⟩), q⟩
 | lst h r n => exact ⟨_, .inl ⟨_, .inl (.inl h), by rw [jd r.len]⟩, q⟩
 | lstF l h r => exact ⟨_, .inl ⟨_, h.sq, by rw [jd r.len]⟩, q⟩
 | dT h e nd r n => exact q.elim
 | dTF l h e nd r => exact q.elim
 | dF h e nd r => exact q.elim
 | ob h c e r n => exact q.elim
 | ex h c e z => exact q.elim
 | dN h e nd kk r n => exact q.elim
 | opN v => exact q.elim
 | opF h => exact q.elim
 | lF h r => exact ⟨_, .inl ⟨_, .inl (.inr ⟨_, h⟩), by rw [jd r.len]⟩, q⟩
 | @dK a hs kvs f h e nd r n => exact ⟨_, .inr (.inr ⟨_, h, by rw [jd (xs := kvs) (ys := hs) (by have := congrArg List.length e; simpa using this.symm)]⟩), q⟩
end
def xVal (t : XE) : XT := fun env Q => t env fun r e => rd 2 r e fun d => tru d fun b => Q b e
def xAnd (t u : XT) : XT := fun env Q => t env fun b e => (b = true → u e Q) ∧ (b = false → Q false e)
def xOr (t u : XT) : XT := fun env Q => t env fun b e => (b = true → Q true e) ∧ (b = false → u e Q)
def xNot (t : XT) : XT := fun env Q => t env fun b e => Q (!b) e
def dAnd (t u : XE) : XE := fun env Q => t env fun r e => rd 2 r e fun d => tru d fun b => (b = true → u e Q) ∧ (b = false → Q r e)
def dOr (t u : XE) : XE := fun env Q => t env fun r e => rd 2 r e fun d => tru d fun b => (b = true → Q r e) ∧ (b = false → u e Q)
def dNot (t : XT) : XE := fun env Q => t env fun b e => Q (.tmp (.bl (!b))) e
def dIf (c : XT) (t u : XE) : XE := fun env Q => c env fun b e => (b = true → t e Q) ∧ (b = false → u e Q)
theorem Jp {K : PySem.W.Frag} {σ : L2.St} {H H1 : Hp} {env e1 : En} {f f1 : FA} {Q : VK} {t : XE} {Q' : R → En → Prop} (S : Stp H env f [] H1 e1 f1 []) (Kk : Kp env f e1 f1) (mt : uE t) (A1 : Abs K σ H1 e1 f1) (q : t e1 Q')
 (h : ∀ r e2, Q' r e2 → ∀ v H' f' g, Abs K σ H' e2 f' → ResOk K σ H' e2 f' r v g → Stp H env f [] H' e2 f' g → Kp env f e2 f' → Q v H') : vR K t σ H1 Q :=
 ⟨e1, f1, A1, mt _ _ _ (fun r e2 q2 v H' f' g A2 R2 S2 K2 => h r e2 q2 v H' f' g A2 R2 (S.trans S2) (Kk.trans K2)) q⟩
theorem Ys {K : PySem.W.Frag} {σ : L2.St} {H H1 : Hp} {env e1 : En} {f f1 : FA} {Q : Bool → Hp → Prop} {t : XT} {Q' : Bool → En → Prop} (S : Stp H env f [] H1 e1 f1 []) (Kk : Kp env f e1 f1) (mt : qaq t) (A1 : Abs K σ H1 e1 f1) (q : t e1 Q')
 (h : ∀ r e2, Q' r e2 → ∀ H' f', Abs K σ H' e2 f' → Stp H env f [] H' e2 f' [] → Kp env f e2 f' → Q r H') : liftT K t σ H1 Q :=
 ⟨e1, f1, A1, mt _ _ _ (fun r e2 q2 H' f' A2 S2 K2 => h r e2 q2 H' f' A2 (S.trans S2) (Kk.trans K2)) q⟩
section
variable {X : Cx} {a b c : Expr} {rest : List Expr} {ta tb : XE} {uA uB : XT} {pos : Pos}
theorem DW.dt {e : Expr} {t : XT} (h : DW X e t) : DT X e t := ⟨h.run.pt, h.mono⟩
theorem jJ (ha : DE X a ta) (he : ∀ whole, isTrue a X.env whole = (do let v ← whole; standAt a.pos; holding [v] (truthy v)) := by intro _; rfl) : DT X a (xVal ta) := by
 refine ⟨PT.imp (pt_truth ha.run he) fun σ H Q q => ?_, fun env Q Q' h q => ha.mono _ _ _ (fun r e q => qZ (fun d q => Qv (fun b q => h _ _ q) q) q) q⟩
 obtain ⟨env, f, A, q⟩ := q
 refine ⟨env, f, A, ha.mono _ _ _ (fun r e q => ?_) q⟩
 intro v H' f' g A' R' S' K'
 obtain ⟨d, g', rp, q⟩ := xf A' R' q
 obtain ⟨b, hb, q⟩ := rp.tru q
 exact ⟨b, hb, q H' f' A' (S'.drop (fun _ z => by simp at z)) K'⟩
theorem wO {op : CmpOp} {L : Nat} {op' : OP} (ho : OpD X (compareOp op) L op') (ha : DE X a ta) (hb : DE X b tb) (hm : behindInMarks op b = false) (hbl : ∀ d1 d2 k, op' d1 d2 k → op' d1 d2 fun d => (∃ b, d = .bl b) ∧ k d) : DT X (.Compare a [op] [b] pos) (xVal (dBin L op' ta tb)) := by
 have md := Z7 ho.mono ha.mono hb.mono (L := L)
 refine ⟨PT.imp (pt_cmpR ho.run ha.run hb.run hm) fun σ H Q q => ?_, fun env Q Q' h q => md _ _ _ (fun r e q => qZ (fun d q => Qv (fun b q => h _ _ q) q) q) q⟩
 obtain ⟨env, f, A, q⟩ := q
 show tOp (rOp X.K L op') (vR X.K ta) (vR X.K tb) σ H fun x H' => ∃ k, x = .bl k ∧ Q k H'
 refine Z8 ho.mono ha.mono hb.mono ⟨env, f, A, ?_⟩
 unfold xVal at q
 have q2 : dBin L op' ta tb env fun r e => (∃ b, r = .tmp (.bl b)) ∧ rd 2 r e fun d => tru d fun b => ∀ (H' : Hp) (f' : FA), Abs X.K σ H' e f' → Stp H env f [] H' e f' [] → Kp env f e f' → Q b H' := by
  unfold dBin at q ⊢
  refine ha.mono _ _ _ (fun r1 e1 q => hb.mono _ _ _ (fun r2 e2 q => qZ (fun d1 q => qZ (fun d2 q => ?_) q) q) q) q
  refine ho.mono _ _ _ _ (fun d q => ?_) (hbl _ _ _ q)
  obtain ⟨⟨b, rfl⟩, q⟩ := q
  exact ⟨⟨b, rfl⟩, q⟩
 refine md _ _ _ (fun r e q => ?_) q2
 obtain ⟨⟨b, rfl⟩, q⟩ := q
 intro v H' f' g A' R' S' K'
 cases R' with
 | tmp rp n => cases rp with
   | bl => exact ⟨b, rfl, q H' f' A' (S'.drop (fun _ z => by simp at z)) K'⟩
theorem qdA (ha : DT X a uA) : DW X (.BoolOp .And [a] pos) uA := ⟨pw_and1 ha.run, ha.mono⟩
theorem WL (ha : DT X a uA) : DW X (.BoolOp .Or [a] pos) uA := ⟨pw_or1 ha.run, ha.mono⟩
theorem qfD (ha : DT X a uA) (hb : DW X (.BoolOp .And (b :: rest) pos) uB) : DW X (.BoolOp .And (a :: b :: rest) pos) (xAnd uA uB) := by
 refine ⟨PW.imp (pw_and ha.run hb.run) fun σ H Q q => ?_, fun env Q Q' h q => ha.mono _ _ _ (fun b e q => ⟨fun z => hb.mono _ _ _ h (q.1 z), fun z => h _ _ (q.2 z)⟩) q⟩
 obtain ⟨env, f, A, q⟩ := q
 refine ⟨env, f, A, ha.mono _ _ _ (fun b e q => ?_) q⟩
 intro H' f' A' S' K'
 cases b with
 | true =>
   rw [if_pos rfl]
   exact Ys S' K' hb.mono A' (q.1 rfl) fun r e2 q => q
 | false =>
   rw [if_neg Bool.false_ne_true]
   exact q.2 rfl H' f' A' S' K'
theorem Ym (ha : DT X a uA) (hb : DW X (.BoolOp .Or (b :: rest) pos) uB) : DW X (.BoolOp .Or (a :: b :: rest) pos) (xOr uA uB) := by
 refine ⟨PW.imp (pw_or ha.run hb.run) fun σ H Q q => ?_, fun env Q Q' h q => ha.mono _ _ _ (fun b e q => ⟨fun z => h _ _ (q.1 z), fun z => hb.mono _ _ _ h (q.2 z)⟩) q⟩
 obtain ⟨env, f, A, q⟩ := q
 refine ⟨env, f, A, ha.mono _ _ _ (fun b e q => ?_) q⟩
 intro H' f' A' S' K'
 cases b with
 | false =>
   rw [if_neg Bool.false_ne_true]
   exact Ys S' K' hb.mono A' (q.2 rfl) fun r e2 q => q
 | true =>
   rw [if_pos rfl]
   exact q.1 rfl H' f' A' S' K'
theorem QX (ha : DT X a uA) : DT X (.UnaryOp .Not a pos) (xNot uA) :=
 ⟨PT.imp (pt_not ha.run) fun σ H Q q => q, fun env Q Q' h q => ha.mono _ _ _ (fun b e q => h _ _ q) q⟩
theorem WN {op} {t : XE} (h : DE X a t) : DE X (.BoolOp op [a] pos) t := ⟨pe_one h.run, h.mono⟩
theorem WP (ha : DE X a ta) (hb : DE X (.BoolOp .And (b :: rest) pos) tb) : DE X (.BoolOp .And (a :: b :: rest) pos) (dAnd ta tb) := by
 refine ⟨PE.imp (pe_andT ha.run hb.run) fun σ H Q q => ?_, fun env Q Q' h q => ha.mono _ _ _ (fun r e q => qZ (fun d q => Qv (fun b q => ⟨fun z => hb.mono _ _ _ h (q.1 z), fun z => h _ _ (q.2 z)⟩) q) q) q⟩
 obtain ⟨env, f, A, q⟩ := q
 refine ⟨env, f, A, ha.mono _ _ _ (fun r e q => ?_) q⟩
 intro v H' f' g A' R' S' K'
 obtain ⟨d, g', rp, q⟩ := xf A' R' q
 obtain ⟨b, hb', q⟩ := rp.tru q
 refine ⟨b, hb', ?_⟩
 cases b with
 | true =>
   rw [if_pos rfl]
   exact Jp (S'.drop (fun _ z => by simp at z)) K' hb.mono A' (q.1 rfl) fun r e2 q => q
 | false =>
   rw [if_neg Bool.false_ne_true]
   exact q.2 rfl v H' f' g A' R' S' K'
theorem qkv (ha : DE X a ta) (hb : DE X (.BoolOp .Or (b :: rest) pos) tb) : DE X (.BoolOp .Or (a :: b :: rest) pos) (dOr ta tb) := by
 refine ⟨PE.imp (pe_orT ha.run hb.run) fun σ H Q q => ?_, fun env Q Q' h q => ha.mono _ _ _ (fun r e q => qZ (fun d q => Qv (fun b q => ⟨fun z => h _ _ (q.1 z), fun z => hb.mono _ _ _ h (q.2 z)⟩) q) q) q⟩
 obtain ⟨env, f, A, q⟩ := q
 refine ⟨env, f, A, ha.mono _ _ _ (fun r e q => ?_) q⟩
 intro v H' f' g A' R' S' K'
 obtain ⟨d, g', rp, q⟩ := xf A' R' q
 obtain ⟨b, hb', q⟩ := rp.tru q
 refine ⟨b, hb', ?_⟩
 cases b with
 | false =>
   rw [if_neg Bool.false_ne_true]
   exact Jp (S'.drop (fun _ z => by simp at z)) K' hb.mono A' (q.2 rfl) fun r e2 q => q
 | true =>
   rw [if_pos rfl]
   exact q.1 rfl v H' f' g A' R' S' K'
end
def aNil : XA := fun env Q => Q [] env
def ql (t : XE) (u : XA) : XA := fun env Q => t env fun r e => u e fun rs e2 => Q (r :: rs) e2
def j7 : List R → En → (List D → Prop) → Prop
 | [], _, k => k []
 | r :: rs, env, k => stor r env fun d => j7 rs env fun ds => k (d :: ds)
def uZ (L : Nat) : List R → En → (List D → Prop) → Prop
 | [], _, k => k []
 | r :: rs, env, k => rd L r env fun d => uZ L rs env fun ds => k (d :: ds)
theorem vM : ∀ {rs : List R} {env : En} {k k' : List D → Prop}, (∀ d, k d → k' d) → j7 rs env k → j7 rs env k'
 | [], _, _, _, h, q => h _ q
 | r :: rs, _, _, _, h, q => vq (fun d q => vM (fun ds q => h _ q) q) q
theorem Wc {L : Nat} : ∀ {rs : List R} {env : En} {k k' : List D → Prop}, (∀ d, k d → k' d) → uZ L rs env k → uZ L rs env k'
 | [], _, _, _, h, q => h _ q
 | r :: rs, _, _, _, h, q => qZ (fun d q => Wc (fun ds q => h _ q) q) q
section
variable {K : PySem.W.Frag} {σ : L2.St} {H H1 H' : Hp} {env e1 : En} {f f1 : FA} {G1 : List Addr}
theorem ResOks.dom : ∀ {rs : List R} {vs : List V} {gs : List Addr}, ResOks K σ H env f rs vs gs → ∀ b ∈ gs, ∃ o, H b = some o ∧ Mu o = true
 | _, _, _, .cons h t _, b, hb => by
   rcases List.mem_append.mp hb with hb | hb
   ·exact h.dom b hb
   ·exact ResOks.dom t b hb
theorem W8 : ∀ {rs : List R} {vs : List V} {gs : List Addr} {k : List D → Prop}, Abs K σ H env f → ResOks K σ H env f rs vs gs → j7 rs env k → ∃ ds, Reps K H 0 ds vs gs ∧ k ds ∧ (∀ b ∈ gs, ¬ L0 env f b ∧ ¬ Ro env f b)
 | _, _, _, _, A, .nil, q => ⟨[], .nil, q, fun b hb => by simp at hb⟩
 | _, _, _, _, A, .cons h t n, q => by
   obtain ⟨d, rp, q, n1⟩ := Zr A h q
   obtain ⟨ds, rps, q, n2⟩ := W8 A t q
   exact ⟨d :: ds, .cons rp rps fun _ b hb => n b hb, q, fun b hb => (List.mem_append.mp hb).elim (n1 b) (n2 b)⟩
theorem qaF {L : Nat} (hL : 0 < L) : ∀ {rs : List R} {vs : List V} {gs : List Addr} {k : List D → Prop}, Abs K σ H env f → ResOks K σ H env f rs vs gs → uZ L rs env k → ∃ ds g, Reps K H L ds vs g ∧ k ds
 | _, _, _, _, A, .nil, q => ⟨[], [], .nil, q⟩
 | _, _, _, _, A, .cons h t n, q => by
   obtain ⟨d, g, rp, q⟩ := xf A h q
   obtain ⟨ds, gs, rps, q⟩ := qaF hL A t q
   exact ⟨d :: ds, _, .cons rp rps (fun e => by omega), q⟩
end
section
variable {X : Cx} {e : Expr} {es : List Expr} {t : XE} {u : XA} {pos : Pos}
theorem qp : DA X [] aNil :=
 ⟨PA.imp pa_nil fun σ H Q ⟨env, f, A, q⟩ => q [] H f [] A .nil .refl .refl, fun env Q Q' h q => h _ _ q⟩
theorem qb (ha : DE X e t) (hr : DA X es u) (hs : starEach (e :: es) X.env = (false, eval e X.env) :: starEach es X.env := by rfl) : DA X (e :: es) (ql t u) := by
 refine ⟨PA.imp (pa_cons ha.run hr.run hs) fun σ H Q q => ?_, fun env Q Q' h q => ha.mono _ _ _ (fun r e q => hr.mono _ _ _ (fun rs e2 q => h _ _ q) q) q⟩
 obtain ⟨env, f, A, q⟩ := q
 refine ⟨env, f, A, ha.mono _ _ _ (fun r1 e1 q => ?_) q⟩
 intro x H1 f1 g1 A1 R1 S1 K1
 refine ⟨e1, f1, A1, hr.mono _ _ _ (fun rs e2 q => ?_) q⟩
 intro vs H2 f2 gs A2 R2 S2 K2
 obtain ⟨R1', n⟩ := R1.wait A1 S2 K2
 exact q (x :: vs) H2 f2 (g1 ++ gs) A2 (.cons R1' R2 n) (S1.trans (S2.frame g1)) (K1.trans K2)
def dTup (u : XA) : XE := fun env Q => u env fun rs e => rs.length ≤ 1000 ∧ j7 rs e fun ds => Q (.tmp (.tup ds)) e
def dLst (u : XA) : XE := fun env Q => u env fun rs e => rs.length ≤ 1000 ∧ j7 rs e fun ds => Q (.tmp (.lst ds)) e
theorem ResOks.len {K : PySem.W.Frag} {σ : L2.St} {H : Hp} {env : En} {f : FA} : ∀ {rs : List R} {vs : List V} {gs : List Addr}, ResOks K σ H env f rs vs gs → rs.length = vs.length
 | _, _, _, .nil => rfl
 | _, _, _, .cons _ t _ => by rw [List.length_cons, List.length_cons, t.len]
theorem qaU {n : Nat} (h : n ≤ 1000) : n ≤ sizeLine := Nat.le_of_lt (small1000 h)
theorem Stp.ext {H H1 H2 : Hp} {env e1 : En} {f f1 : FA} {G G1 : List Addr} (S : Stp H env f G H1 e1 f1 G1) (x : ∀ b o, H1 b = some o → H2 b = some o) : Stp H env f G H2 e1 f1 G1 :=
 S.trans ⟨fun b o h _ => x b o h, fun b q => q.elim .inl fun z => .inr (.inl z)⟩
theorem qJ {x1} (ha : DA X es u) : DE X (.Tuple es x1 pos) (dTup u) := by
 refine ⟨PE.imp (pe_tup ha.run) fun σ H Q q => ?_, fun env Q Q' h q => ha.mono _ _ _ (fun r e q => ⟨q.1, vM (fun ds q => h _ _ q) q.2⟩) q⟩
 obtain ⟨env, f, A, q⟩ := q
 refine ⟨env, f, A, ha.mono _ _ _ (fun rs e q => ?_) q⟩
 intro vs H1 f1 gs A1 R1 S1 K1
 obtain ⟨ds, rp, q', n⟩ := W8 A1 R1 q.2
 refine ⟨by rw [← R1.len]; exact qaU q.1, fun p hp => ?_⟩
 have x : Ext H1 (L2.upd H1 p (.tup vs)) [] := .updT hp
 refine q' _ _ f1 gs (A1.ext x.same) (.tmp (Zk hp rp) n) (S1.ext x.same) K1
theorem yW (ha : DA X es u) : DE X (.List es pos) (dLst u) := by
 refine ⟨PE.imp (pe_lst ha.run) fun σ H Q q => ?_, fun env Q Q' h q => ha.mono _ _ _ (fun r e q => ⟨q.1, vM (fun ds q => h _ _ q) q.2⟩) q⟩
 obtain ⟨env, f, A, q⟩ := q
 refine ⟨env, f, A, ha.mono _ _ _ (fun rs e q => ?_) q⟩
 intro vs H1 f1 gs A1 R1 S1 K1
 obtain ⟨ds, rp, q', n⟩ := W8 A1 R1 q.2
 refine ⟨by rw [← R1.len]; exact qaU q.1, fun p hp => ?_⟩
 have x : Ext H1 (L2.upd H1 p (.lst vs)) [p] := .upd hp
 have pg : p ∉ gs := fun z => by
  obtain ⟨o, ho, _⟩ := rp.dom p z
  rw [hp] at ho; cases ho
 refine q' _ _ f1 (p :: gs) (A1.ext x.same) (.tmp (.lst upd_same (rp.keep fun b o e _ => x.same b o e) fun _ => pg) fun b hb => ?_) (S1.new x) K1
 rcases List.mem_cons.mp hb with rfl | hb
 ·refine ⟨fun z => ?_, fun z => ?_⟩
  ·obtain ⟨o, ho, _⟩ := A1.ldom z
   rw [hp] at ho; cases ho
  ·obtain ⟨o, ho, _⟩ := A1.rdom z
   rw [hp] at ho; cases ho
 ·exact n b hb
end
section
variable {K : PySem.W.Frag} {σ : L2.St} {H H' : Hp} {env : En} {f : FA} {G G' g' : List Addr} {i : Nat} {d d' : D} {m : Md} {v : V}
def fset (f : FA) (i : Nat) (g : List Addr) : FA := fun j => if j = i then g else f j
theorem xH {f : FA} {i : Nat} {g : List Addr} : fset f i g i = g := if_pos rfl
theorem zM {f : FA} {i j : Nat} {g : List Addr} (h : j ≠ i) : fset f i g j = f j := if_neg h
theorem xW {x : Option (D × Md)} (h : i < env.length) : (env.set i x)[i]? = some x := List.getElem?_set_self h
theorem yq {x : Option (D × Md)} {j : Nat} (h : j ≠ i) : (env.set i x)[j]? = env[j]? := List.getElem?_set_ne (Ne.symm h)
theorem Abs.mut (A : Abs K σ H env f) (e : env[i]? = some (some (d, m))) (hm : m.rd = false) (hv : σ[i]? = some (some v))
 (same : ∀ b o, H b = some o → b ∉ f i → H' b = some o) (r : Rep K H' m.lv d' v g') (sub : ∀ b ∈ g', b ∈ f i ∨ b ∈ G ∨ H b = none) (hG : ∀ b ∈ G, ¬ L0 env f b ∧ ¬ Ro env f b)
 (hG' : ∀ b ∈ G', (b ∈ f i ∨ b ∈ G ∨ H b = none) ∧ b ∉ g') :
 Abs K σ H' (env.set i (some (d', m))) (fset f i g') ∧ Stp H env f G H' (env.set i (some (d', m))) (fset f i g') G' ∧ Kp env f (env.set i (some (d', m))) (fset f i g') ∧
  (∀ b ∈ G', ¬ L0 (env.set i (some (d', m))) (fset f i g') b ∧ ¬ Ro (env.set i (some (d', m))) (fset f i g') b) := by
 have hi : i < env.length := (List.getElem?_eq_some_iff.mp e).1
 have hdom : ∀ j d m, env[j]? = some (some (d, m)) → ∀ b ∈ f j, ∃ o, H b = some o ∧ Mu o = true := fun j d m h b hb => by
  obtain ⟨v, _, rp⟩ := A.rep j d m h
  exact rp.dom b hb
 have get : ∀ {j : Nat} {d1 : D} {m1 : Md}, (env.set i (some (d', m)))[j]? = some (some (d1, m1)) → j ≠ i → env[j]? = some (some (d1, m1)) := fun {j d1 m1} h hj => by rwa [yq hj] at h
 have ati : ∀ {d1 : D} {m1 : Md}, (env.set i (some (d', m)))[i]? = some (some (d1, m1)) → d1 = d' ∧ m1 = m := fun {d1 m1} h => by
  rw [xW hi] at h
  cases h
  exact ⟨rfl, rfl⟩
 have out : ∀ {j : Nat} {d1 : D} {m1 : Md}, j ≠ i → env[j]? = some (some (d1, m1)) → ∀ b, (b ∈ f i ∨ b ∈ G ∨ H b = none) → b ∉ f j := fun {j d1 m1} hj h b q z => by
  rcases q with q | q | q
  ·exact A.dis i j d m d1 m1 (Ne.symm hj) e h (Md.lv_of hm) b q z
  ·by_cases hr : m1.lv = 0
   ·exact (hG b q).1 ⟨j, d1, m1, h, hr, z⟩
   ·exact (hG b q).2 ⟨j, d1, m1, h, hr, z⟩
  ·obtain ⟨o, ho, _⟩ := hdom j d1 m1 h b z
   rw [q] at ho; cases ho
 have wsub : ∀ b, (b ∈ f i ∨ b ∈ G ∨ H b = none) → (W env f b ∨ b ∈ G ∨ H b = none) := fun b q => q.imp_left fun z => ⟨i, d, m, e, hm, z⟩
 refine ⟨⟨fun j d1 m1 h => ?_, fun j k d1 m1 d2 m2 hjk h1 h2 hr b hb z => ?_, by rw [List.length_set]; exact A.len⟩, ⟨fun b o h q => ?_, fun b q => ?_⟩, ⟨?_, fun j d1 m1 h hr => ?_⟩, fun b hb => ⟨?_, ?_⟩⟩
 ·by_cases hj : j = i
  ·subst hj
   obtain ⟨rfl, rfl⟩ := ati h
   exact ⟨v, hv, by rw [xH]; exact r⟩
  ·have h' := get h hj
   obtain ⟨w, h3, rp⟩ := A.rep j d1 m1 h'
   refine ⟨w, h3, ?_⟩
   rw [zM hj]
   refine rp.keep fun b o hb q => same b o hb fun z => ?_
   rcases q with q | q
   ·exact A.dis i j d m d1 m1 (Ne.symm hj) e h' (Md.lv_of hm) b z q
   ·obtain ⟨o', ho', mo⟩ := hdom i d m e b z
    rw [hb] at ho'; cases ho'
    rw [q] at mo; cases mo
 ·by_cases hj : j = i
  ·subst hj
   rw [xH] at hb
   rw [zM (Ne.symm hjk)] at z
   exact out (Ne.symm hjk) (get h2 (Ne.symm hjk)) b (sub b hb) z
  ·rw [zM hj] at hb
   by_cases hk : k = i
   ·subst hk
    rw [xH] at z
    exact out hj (get h1 hj) b (sub b z) hb
   ·rw [zM hk] at z
    exact A.dis j k d1 m1 d2 m2 hjk (get h1 hj) (get h2 hk) hr b hb z
 ·refine same b o h fun z => ?_
  rcases q with q | q
  ·obtain ⟨o', ho', mo⟩ := hdom i d m e b z
   rw [h] at ho'; cases ho'
   rw [q] at mo; cases mo
  ·exact q.1 ⟨i, d, m, e, hm, z⟩
 ·rcases q with ⟨j, d1, m1, h, hr, hb⟩ | q
  ·by_cases hj : j = i
   ·subst hj
    rw [xH] at hb
    exact wsub b (sub b hb)
   ·rw [zM hj] at hb
    exact .inl ⟨j, d1, m1, get h hj, hr, hb⟩
  ·exact wsub b (hG' b q).1
 ·rw [List.map_set]
  apply List.ext_getElem?
  intro j
  by_cases hj : j = i
  ·subst hj
   rw [List.getElem?_set_self (by simpa using hi), List.getElem?_map, e]
   rfl
  ·rw [List.getElem?_set_ne (Ne.symm hj)]
 ·have hj : j ≠ i := fun z => by
   subst z
   rw [e] at h; cases h
   rw [hm] at hr; cases hr
  exact ⟨by rw [yq hj]; exact h, zM hj⟩
 ·rintro ⟨j, d1, m1, h, hr, z⟩
  by_cases hj : j = i
  ·subst hj
   rw [xH] at z
   exact (hG' b hb).2 z
  ·rw [zM hj] at z
   exact out hj (get h hj) b (hG' b hb).1 z
 ·rintro ⟨j, d1, m1, h, hr, z⟩
  by_cases hj : j = i
  ·subst hj
   rw [xH] at z
   exact (hG' b hb).2 z
  ·rw [zM hj] at z
   exact out hj (get h hj) b (hG' b hb).1 z
def chg (r : R) (env : En) (k : Nat → D → Md → Prop) : Prop := match r with
 | .sl i => match env[i]? with
   | some (some (d, .own)) => k i d .own
   | some (some (d, .io)) => k i d .io
   | _ => False
 | _ => False
theorem Zg {r : R} {env : En} {k k' : Nat → D → Md → Prop} (h : ∀ i d m, k i d m → k' i d m) (q : chg r env k) : chg r env k' := by
 unfold chg at q ⊢
 split at q
 ·split at q
  ·simp only [*] <;> exact h _ _ _ q
  ·simp only [*] <;> exact h _ _ _ q
  ·exact q.elim
 ·exact q.elim
theorem qa6 {r : R} {v : V} {g : List Addr} {k : Nat → D → Md → Prop} (A : Abs K σ H env f) (h : ResOk K σ H env f r v g) (q : chg r env k) :
 ∃ i d m, env[i]? = some (some (d, m)) ∧ m.rd = false ∧ m.lv = 0 ∧ σ[i]? = some (some v) ∧ Rep K H 0 d v (f i) ∧ g = [] ∧ k i d m := by
 unfold chg at q
 split at q
 ·rename_i i
  cases h with
  | sl h1 h2 hm =>
    obtain ⟨w, h3, rp⟩ := A.rep _ _ _ h2
    rw [h1] at h3; cases h3
    split at q
    ·rename_i e
     rw [h2] at e; cases e
     exact ⟨_, _, _, h2, rfl, rfl, h1, rp, rfl, q⟩
    ·rename_i e
     rw [h2] at e; cases e
     exact ⟨_, _, _, h2, rfl, rfl, h1, rp, rfl, q⟩
    ·exact q.elim
 ·exact q.elim
end
end BX
namespace BX
open PySem PySem.Spec PyProof.Rows L2
def VR (kvs : List (List Key × D)) (k : List Key) : Option D := (kvs.find? fun p => decide (p.1 = k)).map (·.2)
def qgJ (kvs : List (Key × D)) (k : Key) : Option D := (kvs.find? fun p => decide (p.1 = k)).map (·.2)
def ixd (d1 d2 : D) (k : D → Prop) : Prop := match d1 with
 | .lst ds => match d2 with
   | .int i => match atI ds i with
     | some d => k d
     | none => False
   | _ => False
 | .lF ds => match d2 with
   | .int i => match atI ds i with
     | some d => k d
     | none => False
   | _ => False
 | .tup ds => match d2 with
   | .int i => match atI ds i with
     | some d => k d
     | none => False
   | _ => False
 | .str s => match d2 with
   | .int i => s.length ≤ sizeLine ∧ match atI s.cps.toList i with
     | some c => k (.str ⟨#[c]⟩)
     | none => False
   | _ => False
 | .dT kvs => match d2 with
   | .tup ds => match xU ds with
     | some ks => match VR kvs ks with
       | some d => k d
       | none => False
     | none => False
   | _ => False
 | .dK kvs => match dKey d2 with
   | some ky => match qgJ kvs ky with
     | some d => k d
     | none => False
   | none => False
 | .dF kvs => match d2 with
   | .tup ds => match xU ds with
     | some ks => match VR kvs ks with
       | some d => k d
       | none => False
     | none => False
   | _ => False
 | _ => False
theorem qaX {d1 d2 : D} {k k' : D → Prop} (h : ∀ d, k d → k' d) (q : ixd d1 d2 k) : ixd d1 d2 k' := by
 unfold ixd at q ⊢
 split at q
 ·split at q
  ·split at q
   ·simp only [*] <;> exact h _ q
   ·exact q.elim
  ·exact q.elim
 ·split at q
  ·split at q
   ·simp only [*] <;> exact h _ q
   ·exact q.elim
  ·exact q.elim
 ·split at q
  ·split at q
   ·simp only [*] <;> exact h _ q
   ·exact q.elim
  ·exact q.elim
 ·split at q
  ·refine ⟨q.1, ?_⟩
   replace q := q.2
   split at q
   ·simp only [*] <;> exact h _ q
   ·exact q.elim
  ·exact q.elim
 ·split at q
  ·split at q
   ·split at q
    ·simp only [*] <;> exact h _ q
    ·exact q.elim
   ·exact q.elim
  ·exact q.elim
 ·split at q
  ·split at q
   ·simp only [*] <;> exact h _ q
   ·exact q.elim
  ·exact q.elim
 ·split at q
  ·split at q
   ·split at q
    ·simp only [*] <;> exact h _ q
    ·exact q.elim
   ·exact q.elim
  ·exact q.elim
 ·exact q.elim
def Part (K : PySem.W.Frag) (H : Hp) (d1 : D) (x : V) (d : D) (z : V) : Prop := ∀ lv f, Rep K H lv d1 x f → ∃ g, Rep K H lv d z g ∧ ∀ b ∈ g, b ∈ f
def rIxd (K : PySem.W.Frag) : R2 := fun x y H Q => ∃ d1 d2 g1 g2, Rep K H 2 d1 x g1 ∧ Rep K H 1 d2 y g2 ∧ ixd d1 d2 fun d => ∀ z, Part K H d1 x d z → Q z H
theorem Wr {α β : Type} {xs : List α} {ys : List β} {i : Int} {a : α} (hl : xs.length = ys.length) (h : atI xs i = some a) : ∃ (j : Nat) (b : β), xs[j]? = some a ∧ ys[j]? = some b ∧ atI ys i = some b := by
 unfold atI at h ⊢
 rw [← hl]
 cases e : ixN xs.length i with
 | none => rw [e] at h; cases h
 | some j =>
   rw [e] at h
   have h' : xs[j]? = some a := h
   have hj := (List.getElem?_eq_some_iff.mp h').1
   exact ⟨j, ys[j]'(by omega), h', List.getElem?_eq_getElem (by omega), List.getElem?_eq_getElem (by omega)⟩
section
variable {κ : Type} [DecidableEq κ]
theorem jC : ∀ {hs : List (κ × V)} {kvs : List (κ × D)} {k : κ} {d : D}, hs.map (·.1) = kvs.map (·.1) → (kvs.find? fun p => decide (p.1 = k)).map (·.2) = some d →
 ∃ (j : Nat) (z : V), (kvs.map (·.2))[j]? = some d ∧ (hs.map (·.2))[j]? = some z ∧ valV hs k = some z
 | [], [], _, _, _, e => by simp at e
 | [], _ :: _, _, _, e, _ => by simp at e
 | _ :: _, [], _, _, e, _ => by simp at e
 | p :: hs, q :: kvs, k, d, e, h => by
   rw [List.map_cons, List.map_cons, List.cons.injEq] at e
   by_cases hk : q.1 = k
   ·rw [List.find?_cons, decide_eq_true hk] at h
    cases h
    exact ⟨0, p.2, rfl, rfl, valV_pos (e.1.trans hk)⟩
   ·rw [List.find?_cons, decide_eq_false hk] at h
    obtain ⟨j, z, h1, h2, h3⟩ := jC e.2 h
    exact ⟨j + 1, z, by simpa using h1, by simpa using h2, by rw [valV_neg (fun z => hk (e.1.symm.trans z))]; exact h3⟩
theorem Zj : ∀ {hs : List (κ × V)} {kvs : List (κ × D)} {k : κ}, hs.map (·.1) = kvs.map (·.1) → (kvs.find? fun p => decide (p.1 = k)).map (·.2) = none → valV hs k = none
 | [], [], _, _, e => rfl
 | [], _ :: _, _, e, _ => by simp at e
 | _ :: _, [], _, e, _ => by simp at e
 | p :: hs, q :: kvs, k, e, h => by
   rw [List.map_cons, List.map_cons, List.cons.injEq] at e
   by_cases hk : q.1 = k
   ·rw [List.find?_cons, decide_eq_true hk] at h
    cases h
   ·rw [List.find?_cons, decide_eq_false hk] at h
    rw [valV_neg (fun z => hk (e.1.symm.trans z))]
    exact Zj e.2 h
end
section
variable {prog : Program} {w : World} {A : Around} {E : Value → Shared → Prop} {s : Shared}
theorem Vg {value slice : Expr} {o i : Value} {T id : String} {Q : Value → Shared → Prop} (hT : s.TypeIs o T)
 (hl : typeLookup (.type T) "__getitem__" = pure (some (.builtin id))) (h : wpAny (model prog w) A (getItem o i) Q E s)
 (hs : subscripted slice false o i = operate [o, i] (getItem o i)) : wpAny (model prog w) A (subscriptTail value slice o i) Q E s := by
 unfold subscriptTail
 refine wpAny_bind ?_
 rw [getitemInPython_of_ne hT.not_modules]
 refine wpAny_bind (wpAny_specialOf hT hl ?_)
 have fin : wpAny (model prog w) A (subscripted slice false o i) (fun r s₃ => wpAny (model prog w) A (letTemporaryGo value o r >>= fun _ => pure r) Q E s₃) E s := by
  rw [hs]
  exact wpAny_operating (wpAny_mono h (fun r s₃ h₃ => wpAny_bind (wpAny_letTemporaryGo (wpAny_pure h₃))) fun _ _ x => x)
 first
  | exact wpAny_pure (wpAny_bind fin)
  | exact wpAny_bind (wpAny_pure (wpAny_bind fin))
  | exact wpAny_bind fin
end
section
variable {X : Cx}
theorem Xw (hx : Ok X) {value slice : Expr} {pins : List (Addr × Obj)} {s : Shared} {σ : L2.St} {H : Hp} {a : Addr} {y v : V} {u : Value} {Q : VK} (I : Inv X pins σ H s) (ry : RelV y u) (g : DGet H a y (some v)) (q : Q v H)
 (hs : subscripted slice false (.ref a) u = operate [.ref a, u] (getItem (.ref a) u)) : wpAny (model X.prog X.w) X.A (subscriptTail value slice (.ref a) u) (EP X pins σ Q) X.xe s :=
 Vg (dict_typeIs I g) PySem.F.slot_dict_getitem.lookup (d_getItem (by have := hx.un; omega) I g ry fun w' s3 I3 rw' => ⟨v, H, I3, rw', q⟩) hs
theorem qgQ (hx : Ok X) : IxR X (rIxd X.K) := by
 intro value slice pins s σ H x y v u Q I rx ry h hs
 obtain ⟨d1, d2, g1, g2, r1, r2, q⟩ := h
 unfold ixd at q
 split at q
 ·rename_i ds
  split at q
  ·rename_i i
   split at q
   ·rename_i d e
    obtain ⟨a, vs, g, rfl, ha, ra, _, _⟩ := r1.listSq
    obtain ⟨rfl, _⟩ := r2.intV
    obtain ⟨j, z, e1, e2, e3⟩ := Wr ra.len e
    refine ix_list value slice pins s σ H _ _ v u Q I rx ry ⟨a, vs, i, z, rfl, rfl, ha, e3, q z fun lv f rp => ?_⟩ hs
    obtain ⟨a', vs', g', h1, ha', ra', hsub, _⟩ := rp.listSq
    cases h1
    have := I.list_inj ha ha'
    subst this
    obtain ⟨z', g2, e4, rz, hg⟩ := ra'.get e1
    rw [e2] at e4; cases e4
    exact ⟨g2, rz, fun b hb => hsub b (hg b hb)⟩
   ·exact q.elim
  ·exact q.elim
 ·rename_i ds
  split at q
  ·rename_i i
   split at q
   ·rename_i d e
    obtain ⟨a, vs, rfl, ha, ra, _⟩ := r1.lFSq
    obtain ⟨rfl, _⟩ := r2.intV
    obtain ⟨j, z, e1, e2, e3⟩ := Wr ra.len e
    refine ix_list value slice pins s σ H _ _ v u Q I rx ry ⟨a, vs, i, z, rfl, rfl, ha, e3, q z fun lv f rp => ?_⟩ hs
    obtain ⟨a', vs', h1, ha', ra', _⟩ := rp.lFSq
    cases h1
    have := I.list_inj ha ha'
    subst this
    obtain ⟨z', g2, e4, rz, hg⟩ := ra'.get e1
    rw [e2] at e4; cases e4
    exact ⟨g2, rz, hg⟩
   ·exact q.elim
  ·exact q.elim
 ·rename_i ds
  split at q
  ·rename_i i
   split at q
   ·rename_i d e
    obtain ⟨a, vs, rfl, ha, ra⟩ := r1.tupleSq
    obtain ⟨rfl, _⟩ := r2.intV
    obtain ⟨j, z, e1, e2, e3⟩ := Wr ra.len e
    refine ix_tup value slice pins s σ H _ _ v u Q I rx ry ⟨a, vs, i, z, rfl, rfl, ha, e3, q z fun lv f rp => ?_⟩ hs
    obtain ⟨a', vs', h1, ha', ra'⟩ := rp.tupleSq
    cases h1
    have := I.tuple_inj ha ha'
    subst this
    obtain ⟨z', g2, e4, rz, hg⟩ := ra'.get e1
    rw [e2] at e4; cases e4
    exact ⟨g2, rz, hg⟩
   ·exact q.elim
  ·exact q.elim
 ·rename_i t
  split at q
  ·rename_i i
   obtain ⟨hl, q⟩ := q
   split at q
   ·rename_i c e
    obtain ⟨rfl, _⟩ := r1.strV
    obtain ⟨rfl, _⟩ := r2.intV
    exact ix_str value slice pins s σ H _ _ v u Q I rx ry ⟨t, i, c, rfl, rfl, hl, e, q _ fun lv f rp => ⟨[], .str _, qC⟩⟩ hs
   ·exact q.elim
  ·exact q.elim
 ·rename_i kvs
  split at q
  ·rename_i ds
   split at q
   ·rename_i ks e
    split at q
    ·rename_i d ed
     obtain ⟨b, ws, rfl, hb, rb⟩ := r2.tupleAt (Nat.le_refl _)
     rw [rb.xU e] at hb
     cases r1 with
     | @dT a hs' kvs f ha he nd r nn =>
       cases rx
       obtain ⟨j, z, e1, e2, e3⟩ := jC he ed
       refine Xw hx I ry (by rw [← e3]; exact DGet.t ha hb) (q z fun lv f rp => ?_) hs
       cases rp with
       | dT ha' he' nd' r' nn' =>
         rw [ha] at ha'; cases ha'
         obtain ⟨z', g2, e4, rz, hg⟩ := r'.get e1
         rw [e2] at e4; cases e4
         exact ⟨g2, rz, fun b hb => List.mem_cons_of_mem _ (hg b hb)⟩
       | dTF l' ha' he' nd' r' => rw [ha] at ha'; cases ha'
     | @dTF a o hs' kvs f l ha he nd r =>
       cases rx
       obtain ⟨j, z, e1, e2, e3⟩ := jC he ed
       refine Xw hx I ry (by rw [← e3]; exact .inr ⟨_, _, _, .inr ⟨o, ha⟩, rfl, hb, rfl⟩) (q z fun lv f rp => ?_) hs
       cases rp with
       | dT ha' he' nd' r' nn' => rw [ha] at ha'; cases ha'
       | dTF l' ha' he' nd' r' =>
         rw [ha] at ha'; cases ha'
         obtain ⟨z', g2, e4, rz, hg⟩ := r'.get e1
         rw [e2] at e4; cases e4
         exact ⟨g2, rz, hg⟩
    ·exact q.elim
   ·exact q.elim
  ·exact q.elim
 ·rename_i kvs
  split at q
  ·rename_i ky e
   split at q
   ·rename_i d ed
    obtain rfl := r2.dKey e
    cases r1 with
    | @dK a hs' kvs f ha he nd r nn =>
      cases rx
      obtain ⟨j, z, e1, e2, e3⟩ := jC he ed
      refine Xw hx I ry (by rw [← e3]; exact DGet.k ha) (q z fun lv f rp => ?_) hs
      cases rp with
      | dK ha' he' nd' r' nn' =>
        rw [ha] at ha'; cases ha'
        obtain ⟨z', g2, e4, rz, hg⟩ := r'.get e1
        rw [e2] at e4; cases e4
        exact ⟨g2, rz, fun b hb => List.mem_cons_of_mem _ (hg b hb)⟩
   ·exact q.elim
  ·exact q.elim
 ·rename_i kvs
  split at q
  ·rename_i ds
   split at q
   ·rename_i ks e
    split at q
    ·rename_i d ed
     obtain ⟨b, ws, rfl, hb, rb⟩ := r2.tupleAt (Nat.le_refl _)
     rw [rb.xU e] at hb
     cases r1 with
     | @dF a o hs' kvs ha he nd r =>
       cases rx
       obtain ⟨j, z, e1, e2, e3⟩ := jC he ed
       refine Xw hx I ry (by rw [← e3]; exact .inr ⟨_, _, _, .inr ⟨o, ha⟩, rfl, hb, rfl⟩) (q z fun lv f rp => ?_) hs
       cases rp with
       | dF ha' he' nd' r' =>
         rw [ha] at ha'; cases ha'
         obtain ⟨z', g2, e4, rz, hg⟩ := r'.get e1
         rw [e2] at e4; cases e4
         exact ⟨g2, rz, hg⟩
    ·exact q.elim
   ·exact q.elim
  ·exact q.elim
 ·exact q.elim
end
section
variable {K : PySem.W.Frag} {σ : L2.St} {H : Hp} {env : En} {f : FA}
theorem qeU {d : D} {z : V} {g : List Addr} {lv : Nat} {c : Bool} {k : R → Prop} (r : Rep K H (clv c) d z g) (n : ∀ b ∈ g, Ro env f b) (q : k (mkRo c d)) : ∃ r' g2, ResOk K σ H env f r' z g2 ∧ (∀ b ∈ g2, b ∈ ([] : List Addr)) ∧ k r' := by
 cases d with
 | int i => exact ⟨_, [], .tmp r.int0 qC, qC, q⟩
 | bl i => exact ⟨_, [], .tmp r.bl0 qC, qC, q⟩
 | str i => exact ⟨_, [], .tmp r.str0 qC, qC, q⟩
 | non => exact ⟨_, [], .tmp r.non0 qC, qC, q⟩
 | _ => exact ⟨_, [], .ro r n, qC, q⟩
theorem qgg {L : Nat} {r : R} {x : V} {g : List Addr} {k : D → Prop} (A : Abs K σ H env f) (h : ResOk K σ H env f r x g) (q : rd L r env k) :
 ∃ d1 g', Rep K H L d1 x g' ∧ k d1 ∧ ∀ (d : D) (z : V) (k' : R → Prop), Part K H d1 x d z → elem r d k' → ∃ r' g2, ResOk K σ H env f r' z g2 ∧ (∀ b ∈ g2, b ∈ g) ∧ k' r' := by
 cases h with
 | @tmp d1 _ _ r n =>
   refine ⟨d1, g, r.up (Nat.zero_le _), q, fun d z k' p e => ?_⟩
   obtain ⟨g2, rz, hg⟩ := p 0 g r
   exact ⟨_, g2, .tmp rz fun b hb => n b (hg b hb), hg, e⟩
 | @ro c d1 _ g0 r n =>
   unfold rd R.data at q
   cases e : roOk c L with
   | false => simp only [e] at q
   | true =>
     simp only [e] at q
     refine ⟨d1, g0, r.up (qcw e), q, fun d z k' p e => ?_⟩
     obtain ⟨g2, rz, hg⟩ := p _ _ r
     exact qeU (lv := 0) rz (fun b hb => n b (hg b hb)) e
 | @sl i _ d1 m h1 h2 hm =>
   obtain ⟨v', h3, rp⟩ := A.rep _ _ _ h2
   rw [h1] at h3; cases h3
   unfold rd R.data at q
   simp only [h2] at q
   cases e : m.okL L with
   | false => simp only [e] at q
   | true =>
     simp only [e] at q
     refine ⟨d1, _, rp.up (Md.okL_le e), q, fun d z k' p e => ?_⟩
     obtain ⟨g2, rz, hg⟩ := p _ _ rp
     obtain ⟨rfl, rz0⟩ := rz.imm (by rw [hm]; exact Nat.zero_le _) e.1
     exact ⟨_, [], .tmp rz0 qC, qC, e.2⟩
end
def dIdx (ta tb : XE) : XE := fun env Q => ta env fun r1 e1 => tb e1 fun r2 e2 => rd 2 r1 e2 fun d1 => rd 1 r2 e2 fun d2 => ixd d1 d2 fun d => elem r1 d fun r => Q r e2
section
variable {X : Cx} {a b c : Expr} {ta tb : XE} {pos : Pos}
theorem wL (hx : Ok X) (ha : DE X a ta) (hb : DE X b tb) (hs : PlainIx b := by intro _ _; rfl) : DE X (.Subscript a b pos) (dIdx ta tb) := by
 refine ⟨PE.imp (pe_ix (qgQ hx) ha.run hb.run hs) fun σ H Q q => ?_, fun env Q Q' h q => ha.mono _ _ _ (fun r1 e1 q => hb.mono _ _ _ (fun r2 e2 q => qZ (fun d1 q => qZ (fun d2 q => qaX (fun d q => qdy (fun r q => h _ _ q) q) q) q) q) q) q⟩
 obtain ⟨env, f, A, q⟩ := q
 have h := qbd (C := fun r1 r2 e2 => rd 2 r1 e2 fun d1 => rd 1 r2 e2 fun d2 => ixd d1 d2 fun d => _) ha.mono hb.mono A q
 obtain ⟨env1, f1, A1, q1⟩ := h
 refine ⟨env1, f1, A1, ha.mono _ _ _ (fun r1 e1 z => ?_) q1⟩
 intro x H1 f1 g1 a b c d
 obtain ⟨env2, f2, A2, q2⟩ := z x H1 f1 g1 a b c d
 refine ⟨env2, f2, A2, hb.mono _ _ _ (fun r2 e2 z => ?_) q2⟩
 intro y H2 f2 g2 a b c d
 obtain ⟨r1, r2, e2, f2, g1, g2, A2, R1, R2, n, S, Kk, q3⟩ := z y H2 f2 g2 a b c d
 obtain ⟨d1, g1', rp1, q3, pr⟩ := qgg A2 R1 q3
 obtain ⟨d2, g2', rp2, q3⟩ := xf A2 R2 q3
 refine ⟨d1, d2, g1', g2', rp1, rp2, qaX (fun dd q4 => ?_) q3⟩
 intro z p
 obtain ⟨r', g3, R3, hg, q5⟩ := pr _ _ _ p q4
 exact q5 z H2 f2 g3 A2 R3 (S.drop fun b hb => List.mem_append_left _ (hg b hb)) Kk
end
abbrev OPn := List D → (D → Prop) → Prop
def rOpn (K : PySem.W.Frag) (L : Nat) (op : OPn) : List V → Hp → VK → Prop := fun vs H Q => ∃ ds g, Reps K H L ds vs g ∧ op ds fun d => ∀ z H' g, Rep K H' 0 d z g → Ext H H' g → Q z H'
def qbU (op : OPn) : Prop := ∀ ds k k', (∀ d, k d → k' d) → op ds k → op ds k'
structure CallD (X : Cx) (fn : Value) (L : Nat) (op : OPn) : Prop where
 run : CallR X fn (rOpn X.K L op)
 mono : qbU op
 pos : 0 < L
def dCall (L : Nat) (op : OPn) (u : XA) : XE := fun env Q => u env fun rs e => uZ L rs e fun ds => op ds fun d => Q (.tmp d) e
section
variable {X : Cx} {x : Str} {p pos : Pos} {e : Expr} {es : List Expr} {u : XA} {id T : String} {L : Nat} {op : OPn}
theorem YS (mo : qbU op) (mu : qbW u) : uE (dCall L op u) := fun env Q Q' h q => mu _ _ _ (fun rs e q => Wc (fun ds q => mo _ _ _ (fun d q => h _ _ q) q) q) q
theorem YT {K : PySem.W.Frag} (hL : 0 < L) (mo : qbU op) (mu : qbW u) {σ : L2.St} {H : Hp} {Q : VK} (q : vR K (dCall L op u) σ H Q) : tCB (rOpn K L op) (qeJ K u) σ H Q := by
 obtain ⟨env, f, A, q⟩ := q
 refine ⟨env, f, A, mu _ _ _ (fun rs e q => ?_) q⟩
 intro vs H1 f1 gs A1 R1 S1 K1
 obtain ⟨ds, g, rp, q⟩ := qaF hL A1 R1 q
 refine ⟨ds, g, rp, mo _ _ _ (fun d q => ?_) q⟩
 intro z H' g' rz x
 obtain ⟨A3, R3, S3⟩ := uQ A1 S1 x rz
 exact q z H' f1 g' A3 R3 S3 K1
theorem wC (hc : CallD X (.builtin id) L op) (hg : Gl X x) (hm : X.mg x = none) (hv : bootBuiltins x = some (.builtin id)) (ha : DA X (e :: es) u) (hn : x ≠ "__name__" := by decide) (hdb : (x == ("__debug__" : Str)) = false := by decide)
 (he : starEach (e :: es) X.env = (false, eval e X.env) :: starEach es X.env := by rfl) (hpl : (backTo pos (starEach es X.env)).any (·.1) = false := by rfl) : DE X (.Call (.Name x p) (e :: es) [] pos) (dCall L op u) :=
 ⟨PE.imp (pe_callB hc.run hg hm hv ha.run hn hdb he hpl) fun σ H Q q => YT hc.pos hc.mono ha.mono q, YS hc.mono ha.mono⟩
theorem yd (hc : CallD X (.type T) L op) (hg : Gl X x) (hm : X.mg x = none) (hv : bootBuiltins x = some (.type T)) (ha : DA X (e :: es) u) (hn : x ≠ "__name__" := by decide) (hdb : (x == ("__debug__" : Str)) = false := by decide)
 (he : starEach (e :: es) X.env = (false, eval e X.env) :: starEach es X.env := by rfl) (hpl : (backTo pos (starEach es X.env)).any (·.1) = false := by rfl) : DE X (.Call (.Name x p) (e :: es) [] pos) (dCall L op u) :=
 ⟨PE.imp (pe_callTy hc.run hg hm hv ha.run hn hdb he hpl) fun σ H Q q => YT hc.pos hc.mono ha.mono q, YS hc.mono ha.mono⟩
theorem CallD.mk' {fn : Value} (hL : 0 < L) (run : ∀ (pins : List (Addr × Obj)) (s : Shared) (σ : L2.St) (H : Hp) (xs : List V) (us : List Value) (Q : VK) (ds : List D) (g : List Addr), Inv X pins σ H s → Vals xs us → Reps X.K H L ds xs g →
 (op ds fun d => ∀ z H' g, Rep X.K H' 0 d z g → Ext H H' g → Q z H') → wpAny (model X.prog X.w) X.A (call fn us) (EP X pins σ Q) X.xe s) (mono : qbU op) : CallD X fn L op :=
 ⟨fun pins s σ H xs us Q I rs ⟨ds, g, r, q⟩ => run pins s σ H xs us Q ds g I rs r q, mono, hL⟩
end
def op1 (h : D → (D → Prop) → Prop) : OPn := fun ds k => match ds with
 | [d] => h d k
 | _ => False
def op2 (h : D → D → (D → Prop) → Prop) : OPn := fun ds k => match ds with
 | [d, e] => h d e k
 | _ => False
theorem qiL {h : D → (D → Prop) → Prop} (m : ∀ d k k', (∀ x, k x → k' x) → h d k → h d k') : qbU (op1 h) := fun ds k k' w q => by
 unfold op1 at q ⊢
 split at q
 ·exact m _ _ _ w q
 ·exact q.elim
theorem qiK {h : D → D → (D → Prop) → Prop} (m : ∀ d e k k', (∀ x, k x → k' x) → h d e k → h d e k') : qbU (op2 h) := fun ds k k' w q => by
 unfold op2 at q ⊢
 split at q
 ·exact m _ _ _ _ w q
 ·exact q.elim
theorem QZ {X : Cx} {fn : Value} {L : Nat} {h : D → (D → Prop) → Prop} (hL : 0 < L) (run : ∀ (pins : List (Addr × Obj)) (s : Shared) (σ : L2.St) (H : Hp) (x : V) (us : List Value) (Q : VK) (d : D) (g : List Addr), Inv X pins σ H s → Vals [x] us → Rep X.K H L d x g →
 (h d fun d => ∀ z H' g, Rep X.K H' 0 d z g → Ext H H' g → Q z H') → wpAny (model X.prog X.w) X.A (call fn us) (EP X pins σ Q) X.xe s) (m : ∀ d k k', (∀ x, k x → k' x) → h d k → h d k') : CallD X fn L (op1 h) :=
 .mk' hL (fun pins s σ H xs us Q ds g I rs r q => by
  unfold op1 at q
  split at q
  ·cases r with
   | cons r1 t _ => cases t; exact run pins s σ H _ us Q _ _ I rs r1 q
  ·exact q.elim) (qiL m)
theorem call2 {X : Cx} {fn : Value} {L : Nat} {h : D → D → (D → Prop) → Prop} (hL : 0 < L) (run : ∀ (pins : List (Addr × Obj)) (s : Shared) (σ : L2.St) (H : Hp) (x y : V) (us : List Value) (Q : VK) (d e : D) (g g2 : List Addr), Inv X pins σ H s → Vals [x, y] us → Rep X.K H L d x g → Rep X.K H L e y g2 →
 (h d e fun d => ∀ z H' g, Rep X.K H' 0 d z g → Ext H H' g → Q z H') → wpAny (model X.prog X.w) X.A (call fn us) (EP X pins σ Q) X.xe s) (m : ∀ d e k k', (∀ x, k x → k' x) → h d e k → h d e k') : CallD X fn L (op2 h) :=
 .mk' hL (fun pins s σ H xs us Q ds g I rs r q => by
  unfold op2 at q
  split at q
  ·cases r with
   | cons r1 t _ => cases t with
     | cons r2 t _ => cases t; exact run pins s σ H _ _ us Q _ _ _ _ I rs r1 r2 q
  ·exact q.elim) (qiK m)
def bLen (d : D) (k : D → Prop) : Prop := match d with
 | .lst xs => k (.int xs.length)
 | .lF xs => k (.int xs.length)
 | .tup xs => k (.int xs.length)
 | .str s => s.length ≤ sizeLine ∧ k (.int s.length)
 | .dK kvs => k (.int kvs.length)
 | .dT kvs => k (.int kvs.length)
 | _ => False
def bAbs (d : D) (k : D → Prop) : Prop := match d with
 | .int i => k (.int (if i < 0 then -i else i))
 | _ => False
def bInt (d : D) (k : D → Prop) : Prop := match d with
 | .int i => k (.int i)
 | .bl b => k (.int (if b then 1 else 0))
 | _ => False
def qbP (a b : D) (k : D → Prop) : Prop := match a, b with
 | .int i, .int j => k (.int (if j < i then j else i))
 | _, _ => False
def qkz (a b : D) (k : D → Prop) : Prop := match a, b with
 | .int i, .int j => k (.int (if j > i then j else i))
 | _, _ => False
def uX (d : D) (k : D → Prop) : Prop := match d with
 | .lst xs => immL xs = true ∧ k (.tup xs)
 | .lF xs => immL xs = true ∧ k (.tup xs)
 | .tup xs => immL xs = true ∧ k (.tup xs)
 | _ => False
def qan (d : D) (k : D → Prop) : Prop := match d with
 | .lst xs => immL xs = true ∧ k (.lst xs)
 | .lF xs => immL xs = true ∧ k (.lst xs)
 | .tup xs => immL xs = true ∧ k (.lst xs)
 | _ => False
def bools : List D → Option (List Bool)
 | [] => some []
 | .bl b :: ds => (bools ds).map (b :: ·)
 | _ :: _ => none
def bAll (d : D) (k : D → Prop) : Prop := match d with
 | .lst xs => match bools xs with
   | some bs => k (.bl (bs.all id))
   | none => False
 | _ => False
def bAny (d : D) (k : D → Prop) : Prop := match d with
 | .lst xs => match bools xs with
   | some bs => k (.bl (bs.any id))
   | none => False
 | _ => False
def bSum (d : D) (k : D → Prop) : Prop := match d with
 | .lst xs => match intL xs with
   | some ns => k (.int ns.sum)
   | none => False
 | _ => False
theorem Reps.bools {K : PySem.W.Frag} {H : Hp} {lv : Nat} : ∀ {ds : List D} {vs : List V} {f : List Addr} {ns : List Bool}, Reps K H lv ds vs f → BX.bools ds = some ns → vs = ns.map V.bl
 | _, _, _, _, .nil, e => by
   rw [BX.bools] at e; cases e; rfl
 | _, _, _, ns, .cons (d := d) (ds := ds) r t _, e => by
   cases r with
   | bl i =>
     rw [BX.bools] at e
     obtain ⟨ms, h1, h2⟩ := Option.map_eq_some_iff.mp e
     subst h2
     rw [Reps.bools t h1]
     rfl
   | _ => rw [BX.bools] at e <;> first | (cases e) | (intro i z; cases z)
section
variable {X : Cx} (hx : Ok X)
theorem qa8 : CallD X (.builtin "abs") 2 (op1 bAbs) := QZ (by decide) (fun pins s σ H x us Q d g I rs r q => by
 unfold bAbs at q
 split at q
 ·obtain ⟨rfl, _⟩ := r.intV
  exact call_abs pins s σ H _ us Q I rs ⟨_, rfl, q _ _ [] (.int _) .refl⟩
 ·exact q.elim) (fun d k k' h q => by
 unfold bAbs at q ⊢
 split at q
 ·exact h _ q
 ·exact q.elim)
theorem qa7 : CallD X (.type "int") 2 (op1 bInt) := QZ (by decide) (fun pins s σ H x us Q d g I rs r q => by
 unfold bInt at q
 split at q
 ·obtain ⟨rfl, _⟩ := r.intV
  exact call_int1 pins s σ H _ us Q I rs (.inl ⟨_, rfl, q _ _ [] (.int _) .refl⟩)
 ·obtain ⟨rfl, _⟩ := r.blV
  exact call_int1 pins s σ H _ us Q I rs (.inr ⟨_, rfl, q _ _ [] (.int _) .refl⟩)
 ·exact q.elim) (fun d k k' h q => by
 unfold bInt at q ⊢
 split at q
 ·exact h _ q
 ·exact h _ q
 ·exact q.elim)
include hx in
theorem qhf : CallD X (.builtin "min") 2 (op2 qbP) := call2 (by decide) (fun pins s σ H x y us Q d e g g2 I rs r r2 q => by
 unfold qbP at q
 split at q
 ·obtain ⟨rfl, _⟩ := r.intV
  obtain ⟨rfl, _⟩ := r2.intV
  exact call_min2 hx.calm pins s σ H _ us Q I rs ⟨_, _, rfl, q _ _ [] (.int _) .refl⟩
 ·exact q.elim) (fun d e k k' h q => by
 unfold qbP at q ⊢
 split at q
 ·exact h _ q
 ·exact q.elim)
theorem qh3 {K : PySem.W.Frag} {H : Hp} {lv : Nat} {xs : List D} {v : V} {g : List Addr} (r : Rep K H lv (.lst xs) v g ∨ Rep K H lv (.tup xs) v g) : ∃ a vs g', v = .ref a ∧ (SqL K H a vs ∨ SqT K H a vs) ∧ Reps K H lv xs vs g' := by
 rcases r with r | r
 ·obtain ⟨a, vs, g', rfl, h, rr, _, _⟩ := r.listSq
  exact ⟨a, vs, g', rfl, .inl h, rr⟩
 ·obtain ⟨a, vs, rfl, h, rr⟩ := r.tupleSq
  exact ⟨a, vs, _, rfl, .inr h, rr⟩
theorem qhg : CallD X (.type "list") 1 (op1 qan) := QZ (by decide) (fun pins s σ H x us Q d g I rs r q => by
 have key : ∀ xs, (Rep X.K H 1 (.lst xs) x g ∨ Rep X.K H 1 (.tup xs) x g) → immL xs = true ∧ (∀ z H' g, Rep X.K H' 0 (.lst xs) z g → Ext H H' g → Q z H') → wpAny (model X.prog X.w) X.A (call (.type "list") us) (EP X pins σ Q) X.xe s := fun xs r q => by
  obtain ⟨a, vs, g', rfl, hs, rr⟩ := qh3 r
  obtain ⟨rfl, r0⟩ := rr.imm (Nat.le_refl _) q.1
  exact call_list_of pins s σ H _ us Q I rs ⟨_, _, rfl, hs, fun l hl => q.2 _ _ _ (vf hl r0) (.upd hl)⟩
 unfold qan at q
 split at q
 ·exact key _ (.inl r) q
 ·obtain ⟨a, vs, rfl, hs, rr, _⟩ := r.lFSq
  obtain ⟨rfl, r0⟩ := rr.imm (Nat.le_refl _) q.1
  exact call_list_of pins s σ H _ us Q I rs ⟨_, _, rfl, .inl hs, fun l hl => q.2 _ _ _ (vf hl r0) (.upd hl)⟩
 ·exact key _ (.inr r) q
 ·exact q.elim) (fun d k k' h q => by
 unfold qan at q ⊢
 split at q
 ·exact ⟨q.1, h _ q.2⟩
 ·exact ⟨q.1, h _ q.2⟩
 ·exact ⟨q.1, h _ q.2⟩
 ·exact q.elim)
theorem vQ : CallD X (.type "tuple") 1 (op1 uX) := QZ (by decide) (fun pins s σ H x us Q d g I rs r q => by
 unfold uX at q
 split at q
 ·obtain ⟨a, vs, g', rfl, hs, rr, _, _⟩ := r.listSq
  obtain ⟨rfl, r0⟩ := rr.imm (Nat.le_refl _) q.1
  exact call_tuple_of pins s σ H _ us Q I rs ⟨_, _, rfl, .inl ⟨hs, fun l hl => q.2 _ _ _ (Zk hl r0) (.updT hl)⟩⟩
 ·obtain ⟨a, vs, rfl, hs, rr, _⟩ := r.lFSq
  obtain ⟨rfl, r0⟩ := rr.imm (Nat.le_refl _) q.1
  exact call_tuple_of pins s σ H _ us Q I rs ⟨_, _, rfl, .inl ⟨hs, fun l hl => q.2 _ _ _ (Zk hl r0) (.updT hl)⟩⟩
 ·obtain ⟨rfl, r0⟩ := r.imm (Nat.le_refl _) (by rw [D.imm]; exact q.1)
  obtain ⟨a, vs, rfl, hs, rr⟩ := r.tupleSq
  exact call_tuple_of pins s σ H _ us Q I rs ⟨_, _, rfl, .inr ⟨hs, q.2 _ _ _ r0 .refl⟩⟩
 ·exact q.elim) (fun d k k' h q => by
 unfold uX at q ⊢
 split at q
 ·exact ⟨q.1, h _ q.2⟩
 ·exact ⟨q.1, h _ q.2⟩
 ·exact ⟨q.1, h _ q.2⟩
 ·exact q.elim)
include hx in
theorem Uj : CallD X (.builtin "all") 2 (op1 bAll) := QZ (by decide) (fun pins s σ H x us Q d g I rs r q => by
 unfold bAll at q
 split at q
 ·split at q
  ·rename_i e
   obtain ⟨a, vs, g', rfl, hs, rr, _, _⟩ := r.listSq
   rw [rr.bools e] at hs
   exact cr_all hx.calm pins s σ H _ us Q I rs ⟨_, _, rfl, hs, q _ _ [] (.bl _) .refl⟩
  ·exact q.elim
 ·exact q.elim) (fun d k k' h q => by
 unfold bAll at q ⊢
 split at q
 ·split at q
  ·simp only [*] <;> exact h _ q
  ·exact q.elim
 ·exact q.elim)
include hx in
theorem qi8 : CallD X (.builtin "any") 2 (op1 bAny) := QZ (by decide) (fun pins s σ H x us Q d g I rs r q => by
 unfold bAny at q
 split at q
 ·split at q
  ·rename_i e
   obtain ⟨a, vs, g', rfl, hs, rr, _, _⟩ := r.listSq
   rw [rr.bools e] at hs
   exact cr_any hx.calm pins s σ H _ us Q I rs ⟨_, _, rfl, hs, q _ _ [] (.bl _) .refl⟩
  ·exact q.elim
 ·exact q.elim) (fun d k k' h q => by
 unfold bAny at q ⊢
 split at q
 ·split at q
  ·simp only [*] <;> exact h _ q
  ·exact q.elim
 ·exact q.elim)
end
end BX
namespace BX
open PySem PySem.Spec PyProof.Rows L2
section
variable {K : PySem.W.Frag} {σ : L2.St} {H H1 H2 H' : Hp} {env e1 e2 : En} {f f1 f2 : FA} {G G' g g' gs fp' : List Addr} {i : Nat} {d d' : D} {m : Md} {v x : V}
theorem qdQ {ta : XE} {u : XA} {C : R → List R → En → Prop} {B : R → En → Prop} (ma : uE ta) (mu : qbW u) (A : Abs K σ H env f) (q : ta env fun r1 e1 => B r1 e1 ∧ u e1 fun rs e2 => C r1 rs e2) :
 vR K ta σ H fun x H1 => (∃ r1 e1 f1 g1, Abs K σ H1 e1 f1 ∧ ResOk K σ H1 e1 f1 r1 x g1 ∧ B r1 e1) ∧ qeJ K u σ H1 fun vs H2 => ∃ r1 rs e2 f2 g1 gs, Abs K σ H2 e2 f2 ∧ ResOk K σ H2 e2 f2 r1 x g1 ∧ ResOks K σ H2 e2 f2 rs vs gs ∧ (∀ b ∈ g1, b ∉ gs) ∧
  Stp H env f [] H2 e2 f2 (g1 ++ gs) ∧ Kp env f e2 f2 ∧ C r1 rs e2 := by
 refine ⟨env, f, A, ma _ _ _ (fun r1 e1 q1 => ?_) q⟩
 intro x H1 f1 g1 A1 R1 S1 K1
 refine ⟨⟨r1, e1, f1, g1, A1, R1, q1.1⟩, e1, f1, A1, mu _ _ _ (fun rs e2 q2 => ?_) q1.2⟩
 intro vs H2 f2 gs A2 R2 S2 K2
 obtain ⟨R1', n⟩ := R1.wait A1 S2 K2
 exact ⟨r1, rs, e2, f2, g1, gs, A2, R1', R2, n, S1.trans (S2.frame g1), K1.trans K2, q2⟩
theorem VP {ys : List D} {ws vs : List V} {a : Addr} {fp : List Addr} (A : Abs K σ H env f) (e : env[i]? = some (some (d, m))) (hm : m.rd = false) (hl : m.lv = 0) (hv : σ[i]? = some (some (.ref a)))
 (ha : H a = some (.lst vs)) (hf : f i = a :: fp) (nfp : a ∉ fp) (r : Reps K H 0 ys ws fp') (sub : ∀ b ∈ fp', b ∈ fp ∨ b ∈ G) (hG : ∀ b ∈ G, ¬ L0 env f b ∧ ¬ Ro env f b) (hG' : ∀ b ∈ G', (b ∈ fp ∨ b ∈ G) ∧ b ∉ fp') :
 Abs K σ (upd H a (.lst ws)) (env.set i (some (.lst ys, m))) (fset f i (a :: fp')) ∧ Stp H env f G (upd H a (.lst ws)) (env.set i (some (.lst ys, m))) (fset f i (a :: fp')) G' ∧ Kp env f (env.set i (some (.lst ys, m))) (fset f i (a :: fp')) ∧
  (∀ b ∈ G', ¬ L0 (env.set i (some (.lst ys, m))) (fset f i (a :: fp')) b ∧ ¬ Ro (env.set i (some (.lst ys, m))) (fset f i (a :: fp')) b) := by
 have aG : a ∉ G := fun z => (hG a z).1 ⟨i, d, m, e, hl, by rw [hf]; exact List.mem_cons_self ..⟩
 have afp' : a ∉ fp' := fun z => (sub a z).elim nfp aG
 refine A.mut e hm hv (fun b o hb n => ?_) ?_ (fun b hb => ?_) hG fun b hb => ⟨?_, fun z => ?_⟩
 ·have : b ≠ a := fun z => n (by rw [hf, z]; exact List.mem_cons_self ..)
  rw [upd_ne this]; exact hb
 ·rw [hl]
  refine .lst upd_same (r.keep fun b o hb q => ?_) fun _ => afp'
  have : b ≠ a := fun z => by
   subst z
   rcases q with q | q
   ·exact afp' q
   ·rw [ha] at hb; cases hb; cases q
  rw [upd_ne this]; exact hb
 ·rcases List.mem_cons.mp hb with rfl | hb
  ·exact .inl (by rw [hf]; exact List.mem_cons_self ..)
  ·rcases sub b hb with z | z
   ·exact .inl (by rw [hf]; exact List.mem_cons_of_mem _ z)
   ·exact .inr (.inl z)
 ·rcases (hG' b hb).1 with z | z
  ·exact .inl (by rw [hf]; exact List.mem_cons_of_mem _ z)
  ·exact .inr (.inl z)
 ·rcases List.mem_cons.mp z with rfl | z
  ·exact (hG' b hb).1.elim nfp aG
  ·exact (hG' b hb).2 z
theorem qfJ {kvs : List (List Key × D)} {hs : List (List Key × V)} {ho : HO} {a : Addr} {fp : List Addr} (A : Abs K σ H env f) (e : env[i]? = some (some (d, m))) (hm : m.rd = false) (hl : m.lv = 0) (hv : σ[i]? = some (some (.ref a)))
 (ha : H a = some ho) (mo : Mu ho = true) (hf : f i = a :: fp) (nfp : a ∉ fp) (ek : hs.map (·.1) = kvs.map (·.1)) (nd : (kvs.map (·.1)).Nodup) (r : Reps K H 0 (kvs.map (·.2)) (hs.map (·.2)) fp') (sub : ∀ b ∈ fp', b ∈ fp ∨ b ∈ G) (hG : ∀ b ∈ G, ¬ L0 env f b ∧ ¬ Ro env f b)
 (hG' : ∀ b ∈ G', (b ∈ fp ∨ b ∈ G) ∧ b ∉ fp') :
 Abs K σ (upd H a (.dT hs)) (env.set i (some (.dT kvs, m))) (fset f i (a :: fp')) ∧ Stp H env f G (upd H a (.dT hs)) (env.set i (some (.dT kvs, m))) (fset f i (a :: fp')) G' ∧ Kp env f (env.set i (some (.dT kvs, m))) (fset f i (a :: fp')) ∧
  (∀ b ∈ G', ¬ L0 (env.set i (some (.dT kvs, m))) (fset f i (a :: fp')) b ∧ ¬ Ro (env.set i (some (.dT kvs, m))) (fset f i (a :: fp')) b) := by
 have aG : a ∉ G := fun z => (hG a z).1 ⟨i, d, m, e, hl, by rw [hf]; exact List.mem_cons_self ..⟩
 have afp' : a ∉ fp' := fun z => (sub a z).elim nfp aG
 refine A.mut e hm hv (fun b o hb n => ?_) ?_ (fun b hb => ?_) hG fun b hb => ⟨?_, fun z => ?_⟩
 ·have : b ≠ a := fun z => n (by rw [hf, z]; exact List.mem_cons_self ..)
  rw [upd_ne this]; exact hb
 ·rw [hl]
  refine .dT upd_same ek nd (r.keep fun b o hb q => ?_) fun _ => afp'
  have : b ≠ a := fun z => by
   subst z
   rcases q with q | q
   ·exact afp' q
   ·rw [ha] at hb; cases hb; rw [mo] at q; cases q
  rw [upd_ne this]; exact hb
 ·rcases List.mem_cons.mp hb with rfl | hb
  ·exact .inl (by rw [hf]; exact List.mem_cons_self ..)
  ·rcases sub b hb with z | z
   ·exact .inl (by rw [hf]; exact List.mem_cons_of_mem _ z)
   ·exact .inr (.inl z)
 ·rcases (hG' b hb).1 with z | z
  ·exact .inl (by rw [hf]; exact List.mem_cons_of_mem _ z)
  ·exact .inr (.inl z)
 ·rcases List.mem_cons.mp z with rfl | z
  ·exact (hG' b hb).1.elim nfp aG
  ·exact (hG' b hb).2 z
end
def D.isLst : D → Bool
 | .lst _ => true
 | _ => false
def D.isDic : D → Bool
 | .dT _ => true
 | .dK _ => true
 | _ => false
def chgL (r : R) (env : En) (k : Nat → List D → Md → Prop) : Prop := chg r env fun i d m => match d with
 | .lst xs => k i xs m
 | _ => False
theorem Ui {r : R} {env : En} {k k' : Nat → List D → Md → Prop} (h : ∀ i d m, k i d m → k' i d m) (q : chgL r env k) : chgL r env k' := Zg (fun i d m q => by
 split at q
 ·exact h _ _ _ q
 ·exact q.elim) q
theorem qdI {K : PySem.W.Frag} {σ : L2.St} {H : Hp} {env : En} {f : FA} {r : R} {v : V} {g : List Addr} {k : Nat → List D → Md → Prop} (A : Abs K σ H env f) (h : ResOk K σ H env f r v g) (q : chgL r env k) :
 ∃ i xs m a vs fp, v = .ref a ∧ env[i]? = some (some (.lst xs, m)) ∧ m.rd = false ∧ m.lv = 0 ∧ σ[i]? = some (some (.ref a)) ∧ H a = some (.lst vs) ∧ Reps K H 0 xs vs fp ∧ f i = a :: fp ∧ a ∉ fp ∧ g = [] ∧ k i xs m := by
 obtain ⟨i, d, m, e, hm, hl, hv, rp, rfl, q⟩ := qa6 A h q
 split at q
 ·obtain ⟨a, vs, fp, rfl, ha, rr, hf, n⟩ := rp.listAt
  exact ⟨i, _, m, a, vs, fp, rfl, e, hm, hl, hv, ha, rr, hf, n, rfl, q⟩
 ·exact q.elim
def chgT (r : R) (env : En) (k : Nat → List (List Key × D) → Md → Prop) : Prop := chg r env fun i d m => match d with
 | .dT xs => k i xs m
 | _ => False
theorem Uh {r : R} {env : En} {k k' : Nat → List (List Key × D) → Md → Prop} (h : ∀ i d m, k i d m → k' i d m) (q : chgT r env k) : chgT r env k' := Zg (fun i d m q => by
 split at q
 ·exact h _ _ _ q
 ·exact q.elim) q
theorem qhd {K : PySem.W.Frag} {σ : L2.St} {H : Hp} {env : En} {f : FA} {r : R} {v : V} {g : List Addr} {k : Nat → List (List Key × D) → Md → Prop} (A : Abs K σ H env f) (h : ResOk K σ H env f r v g) (q : chgT r env k) :
 ∃ i xs m a hs fp, v = .ref a ∧ env[i]? = some (some (.dT xs, m)) ∧ m.rd = false ∧ m.lv = 0 ∧ σ[i]? = some (some (.ref a)) ∧ H a = some (.dT hs) ∧ hs.map (·.1) = xs.map (·.1) ∧ (xs.map (·.1)).Nodup ∧ Reps K H 0 (xs.map (·.2)) (hs.map (·.2)) fp ∧ f i = a :: fp ∧ a ∉ fp ∧ g = [] ∧ k i xs m := by
 obtain ⟨i, d, m, e, hm, hl, hv, rp, rfl, q⟩ := qa6 A h q
 split at q
 ·obtain ⟨a, hs, fp, rfl, ha, ek, nd, rr, hf, n⟩ := rp.dTAt
  exact ⟨i, _, m, a, hs, fp, rfl, e, hm, hl, hv, ha, ek, nd, rr, hf, n rfl, rfl, q⟩
 ·exact q.elim
def one (rs : List R) (k : R → Prop) : Prop := match rs with
 | [r] => k r
 | _ => False
abbrev B1 := R → R → En → (R → En → Prop) → Prop
def dM1 (isT : D → Bool) (B : B1) (ta te : XE) : XE := fun env Q => ta env fun r1 e1 => (rd 2 r1 e1 fun d => isT d = true) ∧ te e1 fun r2 e2 => B r1 r2 e2 Q
structure M1Ok (X : Cx) (T : String) (isT : D → Bool) (rr : V → List V → Hp → VK → Prop) (B : B1) : Prop where
 ty : ∀ (H : Hp) (d : D) (x : V) (g : List Addr), Rep X.K H 2 d x g → isT d = true → tyV X.K T x H
 run : ∀ (σ : L2.St) (H : Hp) (e : En) (f : FA) (r1 r2 : R) (x y : V) (g1 g2 : List Addr) (QQ : R → En → Prop) (Q : VK), Abs X.K σ H e f → ResOk X.K σ H e f r1 x g1 → ResOk X.K σ H e f r2 y g2 → (∀ b ∈ g1, b ∉ g2) → B r1 r2 e QQ →
  (∀ v H' e' f' r' g', Abs X.K σ H' e' f' → ResOk X.K σ H' e' f' r' v g' → Stp H e f (g1 ++ g2) H' e' f' g' → Kp e f e' f' → QQ r' e' → Q v H') → rr x [y] H Q
 mono : ∀ r1 r2 e Q Q', (∀ r e, Q r e → Q' r e) → B r1 r2 e Q → B r1 r2 e Q'
section
variable {X : Cx} {o e : Expr} {ta te : XE} {cpos apos : Pos} {T id : String} {name : Str} {isT : D → Bool} {rr : V → List V → Hp → VK → Prop} {B : B1}
theorem qi2 (ok : M1Ok X T isT rr B) (pa : PlainAttrs T) (slot : Slot T name id) (hty : typeOf (.builtin id) = pure (.type "method_descriptor")) (hm : MtR X id rr) (ho : DE X o ta) (he : DE X e te) (hbase : attributeBase o name X.env (eval o X.env) = eval o X.env := by rfl)
 (hfew : ((backTo cpos (starEach [e] X.env)).all (fun x => !x.1) && (backToKw cpos (keywordEach [] X.env)).all (fun x => x.1.isSome)
  && decide (([e] : List Expr).length + ([] : List Keyword).length + (if ([] : List Keyword).isEmpty then 0 else 1) < 30)) = true := by rfl)
 (hline : (apos.endLine == cpos.line) = true := by rfl) (hs : starEach [e] X.env = (false, eval e X.env) :: starEach [] X.env := by rfl) (hplain : (backTo cpos (starEach [] X.env)).any (·.1) = false := by rfl) :
 DE X (.Call (.Attribute o name apos) [e] [] cpos) (dM1 isT B ta te) := by
 have ha := qb he qp hs
 refine ⟨PE.imp (pe_bm pa slot hty hm ho.run ha.run hbase hfew hline hs hplain) fun σ H Q q => ?_, fun env Q Q' h q => ?_⟩
 ·obtain ⟨env, f, A, q⟩ := q
  have h := qdQ (B := fun r1 e1 => rd 2 r1 e1 fun d => isT d = true) (C := fun r1 rs e2 => one rs fun r2 => B r1 r2 e2 (qdW X.K σ H env f Q)) ho.mono ha.mono A q
  obtain ⟨env1, f1, A1, q1⟩ := h
  refine ⟨env1, f1, A1, ho.mono _ _ _ (fun r1 e1 z => ?_) q1⟩
  intro x H1 f1 g1 a b c d
  obtain ⟨⟨r0, e0, f0, g0, A0, R0, B0⟩, env2, f2, A2, q2⟩ := z x H1 f1 g1 a b c d
  obtain ⟨d0, g00, rp0, B0⟩ := xf A0 R0 B0
  refine ⟨ok.ty _ _ _ _ rp0 B0, env2, f2, A2, ha.mono _ _ _ (fun rs e2 z => ?_) q2⟩
  intro vs H2 f2 g2 a b c d
  obtain ⟨r1, rs, e2, f2, g1, gs, A2, R1, R2, n, S, Kk, q3⟩ := z vs H2 f2 g2 a b c d
  cases R2 with
  | nil => exact q3.elim
  | @cons r2 y g _ _ gs R2 Rt nd =>
    cases Rt with
    | cons _ _ _ => exact q3.elim
    | nil =>
      rw [List.append_nil] at S n
      exact ok.run σ H2 e2 f2 r1 r2 x y g1 g _ Q A2 R1 R2 n q3 fun v H' e' f' r' g' A' R' S' K' q => q v H' f' g' A' R' (S.trans S') (Kk.trans K')
 ·exact ho.mono _ _ _ (fun r1 e1 q => ⟨q.1, he.mono _ _ _ (fun r2 e2 q => ok.mono _ _ _ _ _ h q) q.2⟩) q
end
theorem qfb {K : PySem.W.Frag} (H : Hp) (d : D) (x : V) (g : List Addr) (rp : Rep K H 2 d x g) (e : d.isLst = true) : tyV K "list" x H := by
 cases rp with
 | lst h1 r n => exact .inl ⟨rfl, _, .inl (.inl h1)⟩
 | lstF l h1 r => exact .inl ⟨rfl, _, h1.sq⟩
 | _ => cases e
theorem qfc {K : PySem.W.Frag} (H : Hp) (d : D) (x : V) (g : List Addr) (rp : Rep K H 1 d x g) (e : d.isDic = true) : tyV K "dict" x H := by
 cases rp with
 | dT h1 _ _ r n => exact .inr (.inr (.inl ⟨rfl, .inr ⟨_, h1⟩⟩))
 | dTF l _ _ _ _ => exact absurd l (by omega)
 | dK h1 _ _ r n => exact .inr (.inr (.inl ⟨rfl, .inl ⟨_, h1⟩⟩))
 | _ => cases e
def bAppend : B1 := fun r1 r2 e Q => stor r2 e fun d => chgL r1 e fun i xs m => xs.length < sizeLine ∧ Q (.tmp .non) (e.set i (some (.lst (xs ++ [d]), m)))
def Xa (r : R) (env : En) (k : List D → Prop) : Prop := match r with
 | .tmp (.lst ys) => k ys
 | r => rd 1 r env fun d => match d with
   | .lst ys => immL ys = true ∧ k ys
   | _ => False
def vL : B1 := fun r1 r2 e Q => Xa r2 e fun ys => chgL r1 e fun i xs m => xs.length + ys.length ≤ sizeLine ∧ Q (.tmp .non) (e.set i (some (.lst (xs ++ ys), m)))
theorem qbx {r : R} {env : En} {k k' : List D → Prop} (h : ∀ d, k d → k' d) (q : Xa r env k) : Xa r env k' := by
 unfold Xa at q ⊢
 split at q
 ·exact h _ q
 ·refine qZ (fun d q => ?_) q
  split at q
  ·exact ⟨q.1, h _ q.2⟩
  ·exact q.elim
theorem qed {K : PySem.W.Frag} {σ : L2.St} {H : Hp} {env : En} {f : FA} {r : R} {v : V} {g : List Addr} {k : List D → Prop} (A : Abs K σ H env f) (h : ResOk K σ H env f r v g) (q : Xa r env k) :
 ∃ ys b ws gy, v = .ref b ∧ H b = some (.lst ws) ∧ Reps K H 0 ys ws gy ∧ k ys ∧ (∀ b ∈ gy, b ∈ g ∧ ¬ L0 env f b ∧ ¬ Ro env f b) := by
 unfold Xa at q
 split at q
 ·cases h with
  | tmp rp n =>
    obtain ⟨b, ws, gy, rfl, hb, rr, rfl, _⟩ := rp.listAt
    exact ⟨_, b, ws, gy, rfl, hb, rr, q, fun b hb => ⟨List.mem_cons_of_mem _ hb, n b (List.mem_cons_of_mem _ hb)⟩⟩
 ·obtain ⟨d, g', rp, q⟩ := xf A h q
  split at q
  ·obtain ⟨b, ws, gy, rfl, hb, rr, _⟩ := rp.listAt1 (Nat.le_refl _)
   obtain ⟨rfl, r0⟩ := rr.imm (Nat.le_refl _) q.1
   exact ⟨_, b, ws, [], rfl, hb, r0, q.2, fun b hb => by simp at hb⟩
  ·exact q.elim
section
variable {X : Cx}
theorem m_append : M1Ok X "list" D.isLst rAppend bAppend where
 ty := qfb
 mono := fun r1 r2 e Q Q' h q => vq (fun d q => Ui (fun i xs m q => ⟨q.1, h _ _ q.2⟩) q) q
 run := fun σ H e f r1 r2 x y g1 g2 QQ Q A R1 R2 n q k => by
  obtain ⟨d, rd1, q, nn⟩ := Zr A R2 q
  obtain ⟨i, xs, m, a, ws, fp, rfl, e, hm, hl, hv, hH, rr, hf, nfp, rfl, hz, q⟩ := qdI A R1 q
  have dj : ∀ b ∈ fp, b ∉ g2 := fun b hb z => (nn b z).1 ⟨i, _, m, e, hl, by rw [hf]; exact List.mem_cons_of_mem _ hb⟩
  obtain ⟨A3, S3, K3, _⟩ := VP (G := [] ++ g2) (G' := []) A e hm hl hv hH hf nfp (rr.append (.one rd1) (fun _ b hb z => dj b hb z)) (fun b hb => (List.mem_append.mp hb).imp_right fun z => by simpa using z) (fun b hb => nn b (by simpa using hb)) qC
  exact ⟨a, ws, y, rfl, rfl, hH, by rw [← rr.len]; exact hz, k _ _ _ _ _ [] A3 (.tmp .non qC) S3 K3 q⟩
theorem m_extend : M1Ok X "list" D.isLst rExtend vL where
 ty := qfb
 mono := fun r1 r2 e Q Q' h q => qbx (fun d q => Ui (fun i xs m q => ⟨q.1, h _ _ q.2⟩) q) q
 run := fun σ H e f r1 r2 x y g1 g2 QQ Q A R1 R2 n q k => by
  obtain ⟨ys, b, zs, gy, rfl, hb, rb, q, nn⟩ := qed A R2 q
  obtain ⟨i, xs, m, a, ws, fp, rfl, e, hm, hl, hv, hH, rr, hf, nfp, rfl, hz, q⟩ := qdI A R1 q
  have dj : ∀ b ∈ fp, b ∉ gy := fun b hb z => (nn b z).2.1 ⟨i, _, m, e, hl, by rw [hf]; exact List.mem_cons_of_mem _ hb⟩
  obtain ⟨A3, S3, K3, _⟩ := VP (G := gy) (G' := []) A e hm hl hv hH hf nfp (rr.append rb (fun _ b hb z => dj b hb z)) (fun b hb => List.mem_append.mp hb) (fun b hb => (nn b hb).2) qC
  exact ⟨a, b, ws, zs, rfl, rfl, hH, hb, by rw [← rr.len, ← rb.len]; exact hz, k _ _ _ _ _ [] A3 (.tmp .non qC) (S3.more fun b hb => by simpa using (nn b hb).1) K3 q⟩
variable {o e : Expr} {ta te : XE} {cpos apos : Pos}
theorem vK (ho : DE X o ta) (he : DE X e te) (hbase : attributeBase o "append" X.env (eval o X.env) = eval o X.env := by rfl)
 (hfew : ((backTo cpos (starEach [e] X.env)).all (fun x => !x.1) && (backToKw cpos (keywordEach [] X.env)).all (fun x => x.1.isSome)
  && decide (([e] : List Expr).length + ([] : List Keyword).length + (if ([] : List Keyword).isEmpty then 0 else 1) < 30)) = true := by rfl)
 (hline : (apos.endLine == cpos.line) = true := by rfl) (hs : starEach [e] X.env = (false, eval e X.env) :: starEach [] X.env := by rfl) (hplain : (backTo cpos (starEach [] X.env)).any (·.1) = false := by rfl) :
 DE X (.Call (.Attribute o "append" apos) [e] [] cpos) (dM1 D.isLst bAppend ta te) :=
 qi2 m_append PySem.F.plainAttrs_list PySem.F.slot_list_append PySem.F.type_list_append mt_append ho he hbase hfew hline hs hplain
theorem Z6 (ho : DE X o ta) (he : DE X e te) (hbase : attributeBase o "extend" X.env (eval o X.env) = eval o X.env := by rfl)
 (hfew : ((backTo cpos (starEach [e] X.env)).all (fun x => !x.1) && (backToKw cpos (keywordEach [] X.env)).all (fun x => x.1.isSome)
  && decide (([e] : List Expr).length + ([] : List Keyword).length + (if ([] : List Keyword).isEmpty then 0 else 1) < 30)) = true := by rfl)
 (hline : (apos.endLine == cpos.line) = true := by rfl) (hs : starEach [e] X.env = (false, eval e X.env) :: starEach [] X.env := by rfl) (hplain : (backTo cpos (starEach [] X.env)).any (·.1) = false := by rfl) :
 DE X (.Call (.Attribute o "extend" apos) [e] [] cpos) (dM1 D.isLst vL ta te) :=
 qi2 m_extend PySem.F.plainAttrs_list PySem.F.slot_list_extend PySem.F.type_list_extend mt_extend ho he hbase hfew hline hs hplain
end
structure FS where
 ms : List Md
 wp : List D → (D → List D → Prop) → Prop
def qbV (S : FS) : Prop := ∀ ds Q Q', (∀ d es, Q d es → Q' d es) → S.wp ds Q → S.wp ds Q'
def penv (ms : List Md) (ds : List D) : En := List.zipWith (fun d m => some (d, m)) ds ms
def spOf (K : PySem.W.Frag) (S : FS) : Sp := fun vs H Q _ => vs.length = S.ms.length ∧ ∃ ds f, ds.length = S.ms.length ∧ Abs K (vs.map some) H (penv S.ms ds) f ∧
 S.wp ds fun d ds' => ∀ v H' f' g, ds'.length = S.ms.length → Abs K (vs.map some) H' (penv S.ms ds') f' → Rep K H' 0 d v g → (∀ b ∈ g, ¬ L0 (penv S.ms ds') f' b ∧ ¬ Ro (penv S.ms ds') f' b) →
  Stp H (penv S.ms ds) f [] H' (penv S.ms ds') f' g → Kp (penv S.ms ds) f (penv S.ms ds') f' → Q v H'
def Yh (m : Md) (r : R) (env : En) : Bool := match m with
 | .own => false
 | .lk => false
 | .io => match r with
   | .tmp _ => true
   | .sl i => match env[i]? with
     | some (some (_, .own)) => true
     | some (some (_, .io)) => true
     | _ => false
   | .ro _ _ => false
 | .ro => match r with
   | .tmp _ => true
   | .sl _ => true
   | .ro c _ => !c
 | .cst => true
def xP : List Md → List R → En → Bool
 | [], [], _ => true
 | m :: ms, r :: rs, env => Yh m r env && xP ms rs env
 | _, _, _ => false
def isSl (i : Nat) : R → Bool
 | .sl j => j == i
 | _ => false
def apart (ms : List Md) (rs : List R) : Bool := (List.range rs.length).all fun p => (List.range rs.length).all fun q => p == q || match ms[p]?, rs[p]?, rs[q]? with
 | some m, some (.sl i), some (.sl j) => m.rd || i != j
 | _, _, _ => true
def wR : List Md → List R → Nat → Option Nat
 | m :: ms, r :: rs, i => match !m.rd && isSl i r with
   | true => some 0
   | false => (wR ms rs i).map (· + 1)
 | _, _, _ => none
def Uq (ms : List Md) (rs : List R) (ds : List D) (i : Nat) (x : Option (D × Md)) : Option (D × Md) := match wR ms rs i with
 | some p => match ds[p]?, x with
   | some d, some (_, m) => some (d, m)
   | _, x => x
 | none => x
def putB (ms : List Md) (rs : List R) (ds : List D) : Nat → En → En
 | _, [] => []
 | i, x :: xs => Uq ms rs ds i x :: putB ms rs ds (i + 1) xs
def dFn (S : FS) (u : XA) : XE := fun env Q => u env fun rs e => xP S.ms rs e = true ∧ apart S.ms rs = true ∧ uZ 2 rs e fun ds => S.wp ds fun d ds' => Q (.tmp d) (putB S.ms rs ds' 0 e)
theorem Zb {ms : List Md} {rs : List R} {ds : List D} : ∀ (k : Nat) (env : En) (i : Nat), (putB ms rs ds k env)[i]? = (env[i]?).map (Uq ms rs ds (k + i))
 | k, [], i => by rw [putB]; rfl
 | k, x :: xs, 0 => by rw [putB]; rfl
 | k, x :: xs, i + 1 => by
   rw [putB, List.getElem?_cons_succ, List.getElem?_cons_succ, Zb (k + 1) xs i]
   rw [show k + 1 + i = k + (i + 1) by omega]
theorem qaK {ms : List Md} {rs : List R} {ds : List D} : ∀ (k : Nat) (env : En), (putB ms rs ds k env).length = env.length
 | k, [] => by rw [putB]
 | k, x :: xs => by rw [putB, List.length_cons, List.length_cons, qaK (k + 1) xs]
theorem jg : ∀ {ms : List Md} {rs : List R} {i p : Nat}, wR ms rs i = some p → ∃ m, ms[p]? = some m ∧ m.rd = false ∧ rs[p]? = some (.sl i)
 | [], _, _, _, h => by rw [wR] at h <;> first | (cases h) | (intros; contradiction)
 | _ :: _, [], _, _, h => by rw [wR] at h <;> first | (cases h) | (intros; contradiction)
 | m :: ms, r :: rs, i, p, h => by
   rw [wR] at h
   split at h
   ·rename_i e
    cases h
    rw [Bool.and_eq_true] at e
    refine ⟨m, rfl, by cases hm : m.rd <;> simp [hm] at e ⊢, ?_⟩
    cases r with
    | sl j => have := eq_of_beq (show (j == i) = true from e.2); subst this; rfl
    | _ => cases e.2
   ·cases h' : wR ms rs i with
    | none => rw [h'] at h; cases h
    | some q =>
      rw [h'] at h; cases h
      obtain ⟨m', a, b, c⟩ := jg h'
      exact ⟨m', by simpa using a, b, by simpa using c⟩
theorem Ws : ∀ {ms : List Md} {rs : List R} {i p : Nat} {m : Md}, wR ms rs i = none → ms[p]? = some m → m.rd = false → rs[p]? = some (.sl i) → False
 | [], _, _, _, _, _, h, _, _ => by simp at h
 | _ :: _, [], _, _, _, _, _, _, h => by simp at h
 | m :: ms, r :: rs, i, 0, m', h, h1, h2, h3 => by
   cases h1; cases h3
   rw [wR] at h
   simp [h2, isSl] at h
 | m :: ms, r :: rs, i, p + 1, m', h, h1, h2, h3 => by
   rw [wR] at h
   split at h
   ·cases h
   ·exact Ws (p := p) (by cases h' : wR ms rs i with
     | none => rfl
     | some q => rw [h'] at h; cases h) (by simpa using h1) h2 (by simpa using h3)
theorem qdU {ms : List Md} {rs : List R} (h : apart ms rs = true) {p q i : Nat} {m : Md} (hpq : p ≠ q) (h1 : ms[p]? = some m) (h2 : m.rd = false) (h3 : rs[p]? = some (.sl i)) (h4 : rs[q]? = some (.sl i)) : False := by
 unfold apart at h
 rw [List.all_eq_true] at h
 have a := h p (List.mem_range.mpr (List.getElem?_eq_some_iff.mp h3).1)
 rw [List.all_eq_true] at a
 have b := a q (List.mem_range.mpr (List.getElem?_eq_some_iff.mp h4).1)
 simp [h1, h2, h3, h4, hpq] at b
theorem yc {ms : List Md} {ds : List D} {p : Nat} {d : D} {m : Md} : (penv ms ds)[p]? = some (some (d, m)) ↔ ds[p]? = some d ∧ ms[p]? = some m := by
 unfold penv
 rw [List.getElem?_zipWith]
 cases h1 : ds[p]? <;> cases h2 : ms[p]? <;> simp
theorem Xj {ms : List Md} {ds : List D} (h : ds.length = ms.length) : (penv ms ds).length = ms.length := by
 unfold penv
 rw [List.length_zipWith, h, Nat.min_self]
section
variable {K : PySem.W.Frag} {σ : L2.St} {H : Hp} {env : En} {f : FA}
theorem ResOks.get : ∀ {rs : List R} {vs : List V} {gs : List Addr}, ResOks K σ H env f rs vs gs → ∃ ga : Nat → List Addr, (∀ (p : Nat) (r : R), rs[p]? = some r → ∃ v, vs[p]? = some v ∧ ResOk K σ H env f r v (ga p) ∧ ∀ b ∈ ga p, b ∈ gs) ∧
 ∀ p q, p < rs.length → q < rs.length → p ≠ q → ∀ b ∈ ga p, b ∉ ga q
 | _, _, _, .nil => ⟨fun _ => [], fun p r h => by simp at h, fun p q h => by simp at h⟩
 | _, _, _, .cons (r := r) (v := v) (g := g) (rs := rs) (vs := vs) (gs := gs) h t n => by
   obtain ⟨ga, h1, h2⟩ := ResOks.get t
   refine ⟨fun p => match p with
    | 0 => g
    | p + 1 => ga p, fun p r' e => ?_, fun p q hp hq hpq b hb hb' => ?_⟩
   ·cases p with
    | zero => cases e; exact ⟨v, rfl, h, fun b hb => List.mem_append_left _ hb⟩
    | succ p =>
      obtain ⟨v', e1, e2, e3⟩ := h1 p r' (by simpa using e)
      exact ⟨v', by simpa using e1, e2, fun b hb => List.mem_append_right _ (e3 b hb)⟩
   ·have inn : ∀ p, p < rs.length → ∀ b ∈ ga p, b ∈ gs := fun p hp b hb => by
     obtain ⟨v', _, _, e3⟩ := h1 p _ (List.getElem?_eq_getElem hp)
     exact e3 b hb
    cases p with
    | zero => cases q with
      | zero => exact hpq rfl
      | succ q => exact n b hb (inn q (by simpa using hq) b hb')
    | succ p => cases q with
      | zero => exact n b hb' (inn p (by simpa using hp) b hb)
      | succ q => exact h2 p q (by simpa using hp) (by simpa using hq) (by omega) b hb hb'
theorem Yw {L : Nat} : ∀ {rs : List R} {k : List D → Prop}, uZ L rs env k → ∃ ds : List D, rs.map (R.data L env) = ds.map some ∧ k ds
 | [], _, q => ⟨[], rfl, q⟩
 | r :: rs, k, q => by
   have q' : rd L r env fun d => uZ L rs env fun ds => k (d :: ds) := q
   unfold rd at q'
   cases e : r.data L env with
   | none => rw [e] at q'; exact q'.elim
   | some d =>
     rw [e] at q'
     obtain ⟨ds, h1, h2⟩ := Yw q'
     exact ⟨d :: ds, by rw [List.map_cons, List.map_cons, e, h1], h2⟩
theorem YD : ∀ {ms : List Md} {rs : List R}, xP ms rs env = true → ms.length = rs.length ∧ ∀ (p : Nat) (m : Md) (r : R), ms[p]? = some m → rs[p]? = some r → Yh m r env = true
 | [], [], _ => ⟨rfl, fun p m r h => by simp at h⟩
 | [], _ :: _, h => by rw [xP] at h <;> first | (cases h) | (intros; contradiction)
 | _ :: _, [], h => by rw [xP] at h <;> first | (cases h) | (intros; contradiction)
 | m :: ms, r :: rs, h => by
   rw [xP, Bool.and_eq_true] at h
   obtain ⟨e1, e2⟩ := YD h.2
   refine ⟨by rw [List.length_cons, List.length_cons, e1], fun p m' r' h1 h2 => ?_⟩
   cases p with
   | zero => cases h1; cases h2; exact h.1
   | succ p => exact e2 p m' r' (by simpa using h1) (by simpa using h2)
theorem qds {rs : List R} {vs : List V} {gs : List Addr} {S : FS} (A : Abs K σ H env f) (Rs : ResOks K σ H env f rs vs gs) (ok : xP S.ms rs env = true) (ap : apart S.ms rs = true) {k : List D → Prop} (q : uZ 2 rs env k) :
 ∃ ds fa, ds.length = S.ms.length ∧ vs.length = S.ms.length ∧ Abs K (vs.map some) H (penv S.ms ds) fa ∧ k ds ∧
  ∀ v d H' f' g ds', ds'.length = S.ms.length → Abs K (vs.map some) H' (penv S.ms ds') f' → Rep K H' 0 d v g → (∀ b ∈ g, ¬ L0 (penv S.ms ds') f' b ∧ ¬ Ro (penv S.ms ds') f' b) → Stp H (penv S.ms ds) fa [] H' (penv S.ms ds') f' g → Kp (penv S.ms ds) fa (penv S.ms ds') f' →
   ∃ f2, Abs K σ H' (putB S.ms rs ds' 0 env) f2 ∧ ResOk K σ H' (putB S.ms rs ds' 0 env) f2 (.tmp d) v g ∧ Stp H env f gs H' (putB S.ms rs ds' 0 env) f2 g ∧ Kp env f (putB S.ms rs ds' 0 env) f2 := by
 obtain ⟨ds, hds, q⟩ := Yw q
 obtain ⟨hlen, hok⟩ := YD ok
 obtain ⟨ga, hga, hgd⟩ := Rs.get
 have ld : ds.length = rs.length := by have := congrArg List.length hds; simpa using this.symm
 have lv := Rs.len
 have dat : ∀ (p : Nat) (r : R), rs[p]? = some r → ∃ d, ds[p]? = some d ∧ r.data 2 env = some d := fun p r h => by
  have e := congrArg (fun l => l[p]?) hds
  simp only [List.getElem?_map, h, Option.map_some] at e
  cases e2 : ds[p]? with
  | none => rw [e2] at e; cases e
  | some d => rw [e2] at e; exact ⟨d, rfl, Option.some.inj e⟩
 have ex : ∀ p : Nat, ∃ fp : List Addr, ∀ (m : Md) (r : R), S.ms[p]? = some m → rs[p]? = some r → ∃ v d, vs[p]? = some v ∧ ds[p]? = some d ∧ Rep K H m.lv d v fp ∧
  ((∃ d', r = .tmp d' ∧ fp = ga p) ∨ (m.rd = true ∧ ∀ b ∈ fp, Ro env f b) ∨ ∃ i m', r = .sl i ∧ fp = f i ∧ env[i]? = some (some (d, m')) ∧ (m.rd = false → m'.rd = false) ∧ m'.lv = 0 ∧ σ[i]? = some (some v)) := fun p => by
  cases hm : S.ms[p]? with
  | none => exact ⟨[], fun m r h => by cases h⟩
  | some m =>
    cases hr : rs[p]? with
    | none => exact ⟨[], fun m r _ h => by cases h⟩
    | some r =>
      obtain ⟨v, hv, R1, _⟩ := hga p r hr
      obtain ⟨d, hd, dd⟩ := dat p r hr
      have o := hok p m r hm hr
      generalize hgp : ga p = gp at R1
      cases R1 with
      | @tmp d' _ _ rp n =>
        cases dd
        refine ⟨gp, fun m1 r1 e1 e2 => ?_⟩
        cases e1; cases e2
        exact ⟨v, _, hv, hd, rp.up (Nat.zero_le _), .inl ⟨_, rfl, rfl⟩⟩
      | @ro c d' _ g0 rp n =>
        refine ⟨g0, fun m1 r1 e1 e2 => ?_⟩
        cases e1; cases e2
        have dd' : d' = d := by
         unfold R.data at dd
         cases e : roOk c 2 with
         | false => simp only [e] at dd; cases dd
         | true => simp only [e] at dd; exact Option.some.inj dd
        subst dd'
        refine ⟨v, d', hv, hd, rp.up ?_, .inr (.inl ⟨?_, n⟩)⟩
        ·cases m <;> cases c <;> first | exact Nat.le_refl _ | exact Nat.le_succ _ | (cases o)
        ·cases m <;> first | rfl | (cases o)
      | @sl i _ d' m' h1 h2 l0 =>
        refine ⟨f i, fun m1 r1 e1 e2 => ?_⟩
        cases e1; cases e2
        obtain ⟨w, h4, rp⟩ := A.rep i d' m' h2
        rw [h1] at h4; cases h4
        have dd' : d' = d := by
         unfold R.data at dd
         simp only [h2] at dd
         cases e : m'.okL 2 with
         | false => simp only [e] at dd; cases dd
         | true => simp only [e] at dd; exact Option.some.inj dd
        subst dd'
        refine ⟨v, d', hv, hd, rp.up (by rw [l0]; exact Nat.zero_le _), .inr (.inr ⟨i, m', rfl, rfl, h2, fun hr0 => ?_, l0, h1⟩)⟩
        cases m with
        | own => cases o
        | lk => cases o
        | io =>
          simp only [Yh, h2] at o
          cases m' <;> first | rfl | (cases o; done)
        | ro => cases hr0
        | cst => cases hr0
 obtain ⟨fa, hfa⟩ := Classical.axiomOfChoice ex
 have lm : S.ms.length = rs.length := hlen
 have rsAt : ∀ {p : Nat} {m : Md}, S.ms[p]? = some m → ∃ r, rs[p]? = some r := fun {p m} h => ⟨_, List.getElem?_eq_getElem (by have := (List.getElem?_eq_some_iff.mp h).1; omega)⟩
 have cw : ∀ {p : Nat} {m : Md}, S.ms[p]? = some m → m.rd = false → (∃ d', rs[p]? = some (.tmp d') ∧ fa p = ga p) ∨ ∃ i d m', rs[p]? = some (.sl i) ∧ fa p = f i ∧ env[i]? = some (some (d, m')) ∧ m'.rd = false := fun {p m} hm hr => by
  obtain ⟨r, hr'⟩ := rsAt hm
  obtain ⟨v, d, h1, h2, h3, h4⟩ := hfa p m r hm hr'
  rcases h4 with ⟨d', rfl, e⟩ | ⟨e, _⟩ | ⟨i, m', rfl, e, e2, e3, _⟩
  ·exact .inl ⟨d', hr', e⟩
  ·rw [hr] at e; cases e
  ·exact .inr ⟨i, d, m', hr', e, e2, e3 hr⟩
 have gaFree : ∀ {p : Nat} {d' : D}, rs[p]? = some (.tmp d') → ∀ b ∈ ga p, (¬ L0 env f b ∧ ¬ Ro env f b) ∧ b ∈ gs := fun {p d'} h b hb => by
  obtain ⟨v, _, R1, hs⟩ := hga p _ h
  cases R1 with
  | tmp rp n => exact ⟨n b hb, hs b hb⟩
 have A0 : Abs K (vs.map some) H (penv S.ms ds) fa := by
  refine ⟨fun p d m h => ?_, fun p q d m d' m' hpq h1 h2 hr b hb hb' => ?_, by rw [Xj (by omega), List.length_map]; omega⟩
  ·obtain ⟨hd, hm⟩ := yc.mp h
   obtain ⟨r, hr⟩ := rsAt hm
   obtain ⟨v, d', h1, h2, h3, _⟩ := hfa p m r hm hr
   rw [hd] at h2; cases h2
   exact ⟨v, by rw [List.getElem?_map, h1]; rfl, h3⟩
  ·obtain ⟨hd1, hm1⟩ := yc.mp h1
   obtain ⟨hd2, hm2⟩ := yc.mp h2
   replace hr : m.rd = false := by
    obtain ⟨r0, hr0⟩ := rsAt hm1
    have o := hok p m r0 hm1 hr0
    cases m <;> first | rfl | (cases hr; done) | (cases o; done)
   obtain ⟨r2, hr2⟩ := rsAt hm2
   obtain ⟨v2, d2, _, _, _, h5⟩ := hfa q m' r2 hm2 hr2
   rcases cw hm1 hr with ⟨d0, e1, e2⟩ | ⟨i, d0, m0, e1, e2, e3, e4⟩
   ·rw [e2] at hb
    obtain ⟨⟨nw, nr⟩, _⟩ := gaFree e1 b hb
    rcases h5 with ⟨d3, rfl, e5⟩ | ⟨_, e5⟩ | ⟨j, m3, rfl, e5, e6, e7, e8, _⟩
    ·rw [e5] at hb'
     exact hgd p q (List.getElem?_eq_some_iff.mp e1).1 (List.getElem?_eq_some_iff.mp hr2).1 hpq b hb hb'
    ·exact nr (e5 b hb')
    ·rw [e5] at hb'
     exact nw ⟨j, _, _, e6, e8, hb'⟩
   ·rw [e2] at hb
    rcases h5 with ⟨d3, rfl, e5⟩ | ⟨_, e5⟩ | ⟨j, m3, rfl, e5, e6, e7, e8, _⟩
    ·rw [e5] at hb'
     exact (gaFree hr2 b hb').1.1 ⟨i, _, _, e3, Md.lv_of e4, hb⟩
    ·exact A.apart ⟨i, _, _, e3, Md.lv_of e4, hb⟩ (e5 b hb')
    ·rw [e5] at hb'
     by_cases hij : i = j
     ·subst hij
      exact qdU ap hpq hm1 hr e1 hr2
     ·exact A.dis i j _ _ _ _ hij e3 e6 (Md.lv_of e4) b hb hb'
 refine ⟨ds, fa, by omega, by omega, A0, q, fun v d H' f' g ds' l' A1 rv ng S1 K1 => ?_⟩
 have cwW : ∀ b, W (penv S.ms ds) fa b → (W env f b ∨ b ∈ gs) ∧ ∀ i d1 m1, env[i]? = some (some (d1, m1)) → wR S.ms rs i = none → b ∉ f i := fun b ⟨p, d1, m1, h1, h2, h3⟩ => by
  obtain ⟨hd1, hm1⟩ := yc.mp h1
  rcases cw hm1 h2 with ⟨d0, e1, e2⟩ | ⟨i, d0, m0, e1, e2, e3, e4⟩
  ·rw [e2] at h3
   obtain ⟨⟨nw, nr⟩, hs⟩ := gaFree e1 b h3
   refine ⟨.inr hs, fun j d2 m2 h4 _ z => ?_⟩
   by_cases hm2 : m2.lv = 0
   ·exact nw ⟨j, d2, m2, h4, hm2, z⟩
   ·exact nr ⟨j, d2, m2, h4, hm2, z⟩
  ·rw [e2] at h3
   refine ⟨.inl ⟨i, d0, m0, e3, e4, h3⟩, fun j d2 m2 h4 h5 z => ?_⟩
   by_cases hij : i = j
   ·subst hij
    exact Ws h5 hm1 h2 e1
   ·exact A.dis i j _ _ _ _ hij e3 h4 (Md.lv_of e4) b h3 z
 have far : ∀ b, (W (penv S.ms ds') f' b ∨ b ∈ g) → (W env f b ∨ b ∈ gs ∨ H b = none) ∧ ∀ i d1 m1, env[i]? = some (some (d1, m1)) → wR S.ms rs i = none → b ∉ f i := fun b h => by
  rcases S1.own b h with z | z | z
  ·obtain ⟨z1, z2⟩ := cwW b z
   exact ⟨z1.imp_right .inl, z2⟩
  ·simp at z
  ·refine ⟨.inr (.inr z), fun i d1 m1 h1 _ hb => ?_⟩
   obtain ⟨w, _, rp⟩ := A.rep i d1 m1 h1
   obtain ⟨o, ho, _⟩ := rp.dom b hb
   rw [z] at ho; cases ho
 have slot : ∀ {i : Nat} {d1 : D} {m1 : Md}, (putB S.ms rs ds' 0 env)[i]? = some (some (d1, m1)) →
  (wR S.ms rs i = none ∧ env[i]? = some (some (d1, m1))) ∨ ∃ p m d0 v, wR S.ms rs i = some p ∧ S.ms[p]? = some m ∧ m.rd = false ∧ ds'[p]? = some d1 ∧ env[i]? = some (some (d0, m1)) ∧ m1.rd = false ∧ m1.lv = 0 ∧ vs[p]? = some v ∧ σ[i]? = some (some v) := fun {i d1 m1} h => by
  rw [Zb, Nat.zero_add] at h
  cases hp : wR S.ms rs i with
  | none =>
    left
    refine ⟨rfl, ?_⟩
    cases he : env[i]? with
    | none => rw [he] at h; cases h
    | some x =>
      rw [he] at h
      simp only [Option.map_some, Uq, hp] at h
      exact h
  | some p =>
    right
    obtain ⟨m, hm, hr, hs⟩ := jg hp
    obtain ⟨v, d0, h1, h2, h3, h4⟩ := hfa p m _ hm hs
    rcases h4 with ⟨d', e, _⟩ | ⟨e, _⟩ | ⟨j, m', e, e1, e2, e3, e4, e5⟩
    ·cases e
    ·rw [hr] at e; cases e
    ·cases e
     have hp' : p < ds'.length := by have := (List.getElem?_eq_some_iff.mp hm).1; omega
     rw [e2, Option.map_some] at h
     simp only [Uq, hp, List.getElem?_eq_getElem hp'] at h
     cases h
     exact ⟨p, m, d0, v, rfl, hm, hr, List.getElem?_eq_getElem hp', e2, e3 hr, e4, h1, e5⟩
 have f2n : ∀ {i : Nat}, wR S.ms rs i = none → (match wR S.ms rs i with | some p => f' p | none => f i) = f i := fun {i} h => by rw [h]
 have f2s : ∀ {i p : Nat}, wR S.ms rs i = some p → (match wR S.ms rs i with | some p => f' p | none => f i) = f' p := fun {i p} h => by rw [h]
 refine ⟨fun i => match wR S.ms rs i with | some p => f' p | none => f i, ⟨fun i d1 m1 h => ?_, fun i j d1 m1 d2 m2 hij h1 h2 hr b hb hb' => ?_, by rw [qaK]; exact A.len⟩, .tmp rv fun b hb => ⟨?_, ?_⟩, ⟨fun b o h qq => ?_, fun b qq => ?_⟩, ⟨?_, fun j d1 m1 h hr => ?_⟩⟩
 ·rcases slot h with ⟨hn, he⟩ | ⟨p, m, d0, v, hp, hm, hr, hd, he, e3, e4, hv, hs⟩
  ·obtain ⟨w, h1, rp⟩ := A.rep i d1 m1 he
   refine ⟨w, h1, ?_⟩
   simp only [f2n hn]
   refine rp.keep fun b o hb qq => S1.same b o hb ?_
   rcases qq with qq | qq
   ·exact .inr ⟨fun z => (cwW b z).2 i d1 m1 he hn qq, by simp⟩
   ·exact .inl qq
  ·obtain ⟨w, h1, rp⟩ := A1.rep p d1 m (yc.mpr ⟨hd, hm⟩)
   rw [List.getElem?_map, hv] at h1
   cases h1
   refine ⟨v, hs, ?_⟩
   simp only [f2s hp]
   have : m.lv = 0 := by cases m <;> first | rfl | (cases hr)
   rw [e4, ← this]
   exact rp
 ·rcases slot h1 with ⟨hn, he⟩ | ⟨p, m, d0, v, hp, hm, hr1, hd, he, e3, e4, hv, hs⟩
  ·simp only [f2n hn] at hb
   rcases slot h2 with ⟨hn2, he2⟩ | ⟨p2, m', d02, v2, hp2, hm2, hr2, hd2, he2, e32, e42, hv2, hs2⟩
   ·simp only [f2n hn2] at hb'
    exact A.dis i j _ _ _ _ hij he he2 hr b hb hb'
   ·simp only [f2s hp2] at hb'
    exact (far b (.inl ⟨p2, d2, m', yc.mpr ⟨hd2, hm2⟩, hr2, hb'⟩)).2 i _ _ he hn hb
  ·simp only [f2s hp] at hb
   rcases slot h2 with ⟨hn2, he2⟩ | ⟨p2, m', d02, v2, hp2, hm2, hr2, hd2, he2, e32, e42, hv2, hs2⟩
   ·simp only [f2n hn2] at hb'
    exact (far b (.inl ⟨p, d1, m, yc.mpr ⟨hd, hm⟩, hr1, hb⟩)).2 j _ _ he2 hn2 hb'
   ·simp only [f2s hp2] at hb'
    have hpp : p ≠ p2 := fun z => by
     subst z
     obtain ⟨_, _, _, z1⟩ := jg hp
     obtain ⟨_, _, _, z2⟩ := jg hp2
     rw [z1] at z2; cases z2
     exact hij rfl
    exact A1.dis p p2 _ _ _ _ hpp (yc.mpr ⟨hd, hm⟩) (yc.mpr ⟨hd2, hm2⟩) (Md.lv_of hr1) b hb hb'
 ·rintro ⟨i, d1, m1, h, hr, z⟩
  rcases slot h with ⟨hn, he⟩ | ⟨p, m, d0, v, hp, hm, hr1, hd, he, e3, e4, hv, hs⟩
  ·simp only [f2n hn] at z
   exact (far b (.inr hb)).2 i _ _ he hn z
  ·simp only [f2s hp] at z
   exact (ng b hb).1 ⟨p, d1, m, yc.mpr ⟨hd, hm⟩, Md.lv_of hr1, z⟩
 ·rintro ⟨i, d1, m1, h, hr, z⟩
  rcases slot h with ⟨hn, he⟩ | ⟨p, m, d0, v, hp, hm, hr1, hd, he, e3, e4, hv, hs⟩
  ·simp only [f2n hn] at z
   exact (far b (.inr hb)).2 i _ _ he hn z
  ·exact absurd e4 hr
 ·refine S1.same b o h ?_
  rcases qq with qq | qq
  ·exact .inl qq
  ·exact .inr ⟨fun z => (cwW b z).1.elim qq.1 qq.2, by simp⟩
 ·rcases qq with ⟨i, d1, m1, h, hr, hb⟩ | qq
  ·rcases slot h with ⟨hn, he⟩ | ⟨p, m, d0, v, hp, hm, hr1, hd, he, e3, e4, hv, hs⟩
   ·simp only [f2n hn] at hb
    exact .inl ⟨i, d1, m1, he, hr, hb⟩
   ·simp only [f2s hp] at hb
    exact (far b (.inl ⟨p, d1, m, yc.mpr ⟨hd, hm⟩, hr1, hb⟩)).1
  ·exact (far b (.inr qq)).1
 ·apply List.ext_getElem?
  intro i
  rw [List.getElem?_map, List.getElem?_map, Zb, Nat.zero_add, Option.map_map]
  cases he : env[i]? with
  | none => rfl
  | some x =>
    simp only [Option.map_some, Function.comp, Option.some.injEq]
    unfold Uq
    cases hp : wR S.ms rs i with
    | none => rfl
    | some p =>
      cases hd : ds'[p]? <;> cases x <;> simp [hd]
 ·have hn : wR S.ms rs j = none := by
   cases hp : wR S.ms rs j with
   | none => rfl
   | some p =>
     obtain ⟨m, hm, hr1, hs⟩ := jg hp
     rcases cw hm hr1 with ⟨d', e, _⟩ | ⟨i, d0, m0, e1, e2, e3, e4⟩
     ·rw [hs] at e; cases e
     ·rw [hs] at e1; cases e1
      rw [h] at e3; cases e3
      rw [hr] at e4; cases e4
  refine ⟨?_, f2n hn⟩
  rw [Zb, Nat.zero_add, h]
  simp only [Option.map_some, Uq, hn]
end
section
variable {X : Cx} {k : Nat} {fd : FuncData} {ps : List Str} {ds : List Value} {x : Str} {p pos : Pos} {e : Expr} {es : List Expr} {u : XA} {S : FS}
structure Fn (P : Program) (w : World) (K : PySem.W.Frag) (mg : Str → Option Value) (base : Heap) (x : Str) (k : Nat) (ps : List Str) (S : FS) : Prop where
 ex : ∃ f fd, FnOk P w K mg base CX0 k f fd ps (spOf K S) ∧ mg x = some (.ref f) ∧ PySem.W.keepIn K (.ref f) = true ∧ Binds K fd ps []
 mono : qbV S
theorem zg (F : Fn X.prog X.w X.K X.mg X.base x k ps S) (hr : Room k X.A) (hg : Gl X x) (ha : DA X (e :: es) u) (hdb : (x == ("__debug__" : Str)) = false := by decide)
 (he : starEach (e :: es) X.env = (false, eval e X.env) :: starEach es X.env := by rfl) (hpl : (backTo pos (starEach es X.env)).any (·.1) = false := by rfl) : DE X (.Call (.Name x p) (e :: es) [] pos) (dFn S u) := by
 obtain ⟨f, fd, hF, hm, hk, hb⟩ := F.ex
 refine ⟨PE.imp (pe_call hF hr hg hm hk hb .nil pass0 ha.run hdb he hpl) fun σ H Q q => ?_, fun env Q Q' h q => ha.mono _ _ _ (fun rs e q => ⟨q.1, q.2.1, Wc (fun ds q => F.mono _ _ _ (fun d es q => h _ _ q) q) q.2.2⟩) q⟩
 obtain ⟨env, f, A, q⟩ := q
 refine ⟨env, f, A, ha.mono _ _ _ (fun rs e q => ?_) q⟩
 intro vs H1 f1 gs A1 R1 S1 K1
 obtain ⟨o1, o2, q⟩ := q
 obtain ⟨ds, fa, l1, l2, Aa, q, back⟩ := qds A1 R1 o1 o2 q
 rw [List.append_nil]
 refine ⟨l2, ds, fa, l1, Aa, F.mono _ _ _ (fun d ds' q => ?_) q⟩
 intro v H' f' g l' A' rv ng S' K'
 obtain ⟨f2, A2, R2, S2, K2⟩ := back v d H' f' g ds' l' A' rv ng S' K'
 exact q v H' f2 g A2 R2 (S1.trans S2) (K1.trans K2)
end
end BX
namespace BX
open PySem PySem.Spec PyProof.Rows L2
abbrev XS := En → (En → Prop) → (D → En → Prop) → Prop
abbrev XG := R → En → (En → Prop) → Prop
abbrev XGs := Option Bool → List D → En → (En → Prop) → Prop
structure Kq (σ : L2.St) (env : En) (f : FA) (σ' : L2.St) (env' : En) (f' : FA) : Prop where
 io : ∀ (i : Nat) (d : D), env[i]? = some (some (d, Md.io)) → σ'[i]? = σ[i]? ∧ ∃ d', env'[i]? = some (some (d', Md.io))
 lk : ∀ (i : Nat) (d : D), env[i]? = some (some (d, Md.lk)) → σ'[i]? = σ[i]? ∧ env'[i]? = some (some (d, Md.lk)) ∧ f' i = f i
 lkr : ∀ (i : Nat) (d : D), env'[i]? = some (some (d, Md.lk)) → env[i]? = some (some (d, Md.lk))
theorem Kq.refl {σ : L2.St} {env : En} {f : FA} : Kq σ env f σ env f := ⟨fun i d h => ⟨rfl, d, h⟩, fun i d h => ⟨rfl, h, rfl⟩, fun i d h => h⟩
theorem Kq.trans {σ σ1 σ2 : L2.St} {env e1 e2 : En} {f f1 f2 : FA} (a : Kq σ env f σ1 e1 f1) (b : Kq σ1 e1 f1 σ2 e2 f2) : Kq σ env f σ2 e2 f2 :=
 ⟨fun i d h => let ⟨x, d1, h1⟩ := a.io i d h; let ⟨y, d2, h2⟩ := b.io i d1 h1; ⟨y.trans x, d2, h2⟩, fun i d h => let ⟨x, h1, z1⟩ := a.lk i d h; let ⟨y, h2, z2⟩ := b.lk i d h1; ⟨y.trans x, h2, z2.trans z1⟩, fun i d h => a.lkr i d (b.lkr i d h)⟩
theorem Kp.kq {σ : L2.St} {env e1 : En} {f f1 : FA} (a : Kp env f e1 f1) : Kq σ env f σ e1 f1 :=
 ⟨fun i d h => ⟨rfl, a.slot h⟩, fun i d h => ⟨rfl, a.ros i d .lk h rfl⟩, fun i d h => by
  obtain ⟨d', h'⟩ := a.slot' h
  have := (a.ros i d' .lk h' rfl).1
  rw [h] at this; cases this
  exact h'⟩
def qbS (K : PySem.W.Frag) (σ : L2.St) (H : Hp) (env : En) (f : FA) (P : L2.St → Hp → Prop) : En → Prop := fun env' => ∀ σ' H' f', Abs K σ' H' env' f' → Stp H env f [] H' env' f' [] → Kq σ env f σ' env' f' → P σ' H'
def Uu (K : PySem.W.Frag) (σ : L2.St) (H : Hp) (env : En) (f : FA) (P : VK) : D → En → Prop := fun d env' => ∀ v σ' H' f' g, Abs K σ' H' env' f' → Rep K H' 0 d v g → (∀ b ∈ g, ∀ i d m, env'[i]? = some (some (d, m)) → (m = .io ∨ m = .lk) → b ∉ f' i) → Stp H env f [] H' env' f' g → Kq σ env f σ' env' f' → P v H'
def qc5 (K : PySem.W.Frag) (t : XS) : TS := fun D σ H => ∃ env f, Abs K σ H env f ∧ t env (qbS K σ H env f D.nx) (Uu K σ H env f D.rt)
def qbT (t : XS) : Prop := ∀ env nx nx' rt rt', (∀ e, nx e → nx' e) → (∀ d e, rt d e → rt' d e) → t env nx rt → t env nx' rt'
structure DS (X : Cx) (st : Stmt) (t : XS) : Prop where
 run : PS X st (qc5 X.K t)
 mono : qbT t
structure DSs (X : Cx) (st : List Stmt) (t : XS) : Prop where
 run : PSs X st (qc5 X.K t)
 mono : qbT t
theorem PS.imp {X : Cx} {e : Stmt} {t u : TS} (h : PS X e t) (k : ∀ D σ H, u D σ H → t D σ H) : PS X e u := ⟨fun pins s σ H D I q => h.run pins s σ H D I (k _ _ _ q)⟩
theorem PSs.imp {X : Cx} {e : List Stmt} {t u : TS} (h : PSs X e t) (k : ∀ D σ H, u D σ H → t D σ H) : PSs X e u := ⟨fun pins s σ H D I q => h.run pins s σ H D I (k _ _ _ q)⟩
def sNil : XS := fun env nx _ => nx env
def sSeq (t u : XS) : XS := fun env nx rt => t env (fun e => u e nx rt) rt
def Q8 (t : XE) : XS := fun env nx _ => t env fun _ e => nx e
def retR (r : R) (env : En) (k : D → Prop) : Prop := match r with
 | .tmp d => k d
 | .ro c d => c = false ∧ d.imm = true ∧ k d
 | .sl i => match env[i]? with
   | some (some (d, m)) => (match m with
     | .own => True
     | _ => d.imm = true) ∧ k d
   | _ => False
def sRet (t : XE) : XS := fun env _ rt => t env fun r e => retR r e fun d => rt d e
def qkb : XS := fun env _ rt => rt .non env
def sIf (c : XT) (t u : XS) : XS := fun env nx rt => c env fun b e => (b = true → t e nx rt) ∧ (b = false → u e nx rt)
def qh5 : XS := fun _ _ _ => False
theorem qcA {r : R} {env : En} {k k' : D → Prop} (h : ∀ d, k d → k' d) (q : retR r env k) : retR r env k' := by
 cases r with
 | tmp d => exact h _ q
 | ro c d => exact ⟨q.1, q.2.1, h _ q.2.2⟩
 | sl i =>
   unfold retR at q ⊢
   dsimp only at q ⊢
   cases e : env[i]? with
   | none => rw [e] at q; exact q.elim
   | some x => cases x with
     | none => rw [e] at q; exact q.elim
     | some p => rw [e] at q; exact ⟨q.1, h _ q.2⟩
section
variable {K : PySem.W.Frag} {σ σ' : L2.St} {H H1 H' : Hp} {env e1 e2 : En} {f f1 f2 : FA} {G g : List Addr}
theorem qbS.after {P : L2.St → Hp → Prop} {σ1 : L2.St} (S : Stp H env f [] H1 e1 f1 []) (k : Kq σ env f σ1 e1 f1) {e : En} (q : qbS K σ H env f P e) : qbS K σ1 H1 e1 f1 P e := fun σ' H' f' A' S' K' => q σ' H' f' A' (S.trans S') (k.trans K')
theorem Uu.after {P : VK} {σ1 : L2.St} (S : Stp H env f [] H1 e1 f1 []) (k : Kq σ env f σ1 e1 f1) {d : D} {e : En} (q : Uu K σ H env f P d e) : Uu K σ1 H1 e1 f1 P d e := fun v σ' H' f' g A' R' n S' K' => q v σ' H' f' g A' R' n (S.trans S') (k.trans K')
theorem Zt {t : XS} {D : Ends} {σ1 : L2.St} (m : qbT t) (S : Stp H env f [] H1 e1 f1 []) (k : Kq σ env f σ1 e1 f1) (A1 : Abs K σ1 H1 e1 f1) (q : t e1 (qbS K σ H env f D.nx) (Uu K σ H env f D.rt)) : qc5 K t D σ1 H1 :=
 ⟨e1, f1, A1, m _ _ _ _ _ (fun e q => q.after S k) (fun d e q => q.after S k) q⟩
theorem qge {r : R} {v : V} {k : D → Prop} (A : Abs K σ H env f) (h : ResOk K σ H env f r v g) (q : retR r env k) : ∃ d g', Rep K H 0 d v g' ∧ k d ∧ (∀ b ∈ g', b ∈ g ∨ W env f b) ∧ ∀ b ∈ g', ∀ i d m, env[i]? = some (some (d, m)) → (m = .io ∨ m = .lk) → b ∉ f i := by
 unfold retR at q
 split at q
 ·cases h with
  | tmp r n => exact ⟨_, g, r, q, fun b hb => .inl hb, fun b hb i d m e em z => (n b hb).1 ⟨i, d, m, e, by rcases em with em | em <;> subst em <;> rfl, z⟩⟩
 ·obtain ⟨rfl, im, q⟩ := q
  cases h with
  | ro r n =>
    obtain ⟨_, r0⟩ := r.imm (Nat.le_refl _) im
    exact ⟨_, [], r0, q, fun b hb => by simp at hb, fun b hb => by simp at hb⟩
 ·cases h with
  | sl h1 h2 h3 =>
    obtain ⟨w, h4, rp⟩ := A.rep _ _ _ h2
    rw [h1] at h4; cases h4
    rw [h3] at rp
    simp only [h2] at q
    obtain ⟨q1, q⟩ := q
    split at q1
    ·refine ⟨_, _, rp, q, fun b hb => .inr ⟨_, _, _, h2, rfl, hb⟩, fun b hb i d m e em z => ?_⟩
     refine A.dis _ _ _ _ _ _ (fun y => ?_) h2 e rfl b hb z
     subst y
     rw [h2] at e; cases e
     rcases em with em | em <;> cases em
    ·obtain ⟨_, r0⟩ := rp.imm (Nat.zero_le _) q1
     exact ⟨_, [], r0, q, fun b hb => by simp at hb, fun b hb => by simp at hb⟩
end
section
variable {X : Cx} {st : Stmt} {rest : List Stmt} {t u : XS} {e : Expr} {te : XE} {pos : Pos}
theorem zp : DSs X [] sNil := ⟨PSs.imp pss_nil fun D σ H ⟨env, f, A, q⟩ => q σ H f A .refl .refl, fun env nx nx' rt rt' h _ q => h _ q⟩
theorem qF (h1 : DS X st t) (h2 : DSs X rest u) : DSs X (st :: rest) (sSeq t u) := by
 refine ⟨PSs.imp (pss_cons h1.run h2.run) fun D σ H q => ?_, fun env nx nx' rt rt' h h' q => h1.mono _ _ _ _ _ (fun e q => h2.mono _ _ _ _ _ h h' q) h' q⟩
 obtain ⟨env, f, A, q⟩ := q
 refine ⟨env, f, A, h1.mono _ _ _ _ _ (fun e q => ?_) (fun d e q => q) q⟩
 intro σ1 H1 f1 A1 S1 K1
 exact Zt h2.mono S1 K1 A1 q
theorem qP (h1 : DS X st t) : DSs X [st] t := ⟨PSs.imp (pss_one h1.run) fun D σ H q => q, h1.mono⟩
theorem ug (he : DE X e te) (hs : swapsWith e none pos.line X.env = pure false := by rfl) : DS X (.Expr e pos) (Q8 te) := by
 refine ⟨PS.imp (ps_expr he.run hs) fun D σ H q => ?_, fun env nx nx' rt rt' h _ q => he.mono _ _ _ (fun r e q => h _ q) q⟩
 obtain ⟨env, f, A, q⟩ := q
 refine ⟨env, f, A, he.mono _ _ _ (fun r e1 q => ?_) q⟩
 intro v H1 f1 g A1 R1 S1 K1
 exact q σ H1 f1 A1 (S1.drop (fun _ z => by simp at z)) K1.kq
theorem wJ (he : DE X e te) : DS X (.Return (some e) pos) (sRet te) := by
 refine ⟨PS.imp (ps_ret he.run) fun D σ H q => ?_, fun env nx nx' rt rt' h h' q => he.mono _ _ _ (fun r e q => qcA (fun d q => h' _ _ q) q) q⟩
 obtain ⟨env, f, A, q⟩ := q
 refine ⟨env, f, A, he.mono _ _ _ (fun r e1 q => ?_) q⟩
 intro v H1 f1 g A1 R1 S1 K1
 obtain ⟨d, g', rp, q, h1, h2⟩ := qge A1 R1 q
 refine q v σ H1 f1 g' A1 rp h2 ⟨S1.same, fun b qq => ?_⟩ K1.kq
 rcases qq with qq | qq
 ·exact S1.own b (.inl qq)
 ·rcases h1 b qq with z | z
  ·exact S1.own b (.inr z)
  ·exact S1.own b (.inl z)
theorem yU {c : Expr} {a b : List Stmt} {tc : XT} (hc : DT X c tc) (ha : DSs X a t) (hb : DSs X b u) : DS X (.If c a b pos) (sIf tc t u) := by
 refine ⟨PS.imp (ps_if hc.run ha.run hb.run) fun D σ H q => ?_, fun env nx nx' rt rt' h h' q => hc.mono _ _ _ (fun b e q => ⟨fun z => ha.mono _ _ _ _ _ h h' (q.1 z), fun z => hb.mono _ _ _ _ _ h h' (q.2 z)⟩) q⟩
 obtain ⟨env, f, A, q⟩ := q
 refine ⟨env, f, A, hc.mono _ _ _ (fun b e1 q => ?_) q⟩
 intro H1 f1 A1 S1 K1
 cases b with
 | true => rw [if_pos rfl]; exact Zt ha.mono S1 K1.kq A1 (q.1 rfl)
 | false => rw [if_neg Bool.false_ne_true]; exact Zt hb.mono S1 K1.kq A1 (q.2 rfl)
end
inductive SrcOk (K : PySem.W.Frag) (σ : L2.St) (H : Hp) (env : En) (f : FA) : R → V → List Addr → Prop
 | tmp {d : D} {v : V} {g : List Addr} : Rep K H 0 d v g → (∀ b ∈ g, ¬ L0 env f b ∧ ¬ Ro env f b) → SrcOk K σ H env f (.tmp d) v g
 | ro {c : Bool} {d : D} {v : V} {g : List Addr} : Rep K H (clv c) d v g → (∀ b ∈ g, ¬ L0 env f b) → SrcOk K σ H env f (.ro c d) v []
 | sl {i : Nat} {v : V} {d : D} {m : Md} : σ[i]? = some (some v) → env[i]? = some (some (d, m)) → m.lv = 0 → SrcOk K σ H env f (.sl i) v []
theorem ResOk.src {K : PySem.W.Frag} {σ : L2.St} {H : Hp} {env : En} {f : FA} {r : R} {v : V} {g : List Addr} (A : Abs K σ H env f) (h : ResOk K σ H env f r v g) : SrcOk K σ H env f r v g := by
 cases h with
 | tmp r n => exact .tmp r n
 | ro r n => exact .ro r fun b hb z => A.apart z (n b hb)
 | sl a b c => exact .sl a b c
def setOk (env : En) (i : Nat) : Bool := match env[i]? with
 | some (some (_, .io)) => false
 | some (some (_, .lk)) => false
 | some _ => true
 | none => false
def roMd : Bool → Md
 | false => .ro
 | true => .cst
def gN (i : Nat) : XG := fun r env k => setOk env i = true ∧ match r with
 | .tmp d => k (env.set i (some (d, .own)))
 | .ro c d => k (env.set i (some (d, roMd c)))
 | .sl j => match env[j]? with
   | some (some (d, _)) => d.imm = true ∧ k (env.set i (some (d, .own)))
   | _ => False
def qar (t : XG) : Prop := ∀ r env k k', (∀ e, k e → k' e) → t r env k → t r env k'
def qjo (t : XGs) : Prop := ∀ kd ds env k k', (∀ e, k e → k' e) → t kd ds env k → t kd ds env k'
def R.isRo : R → Bool
 | .ro _ _ => true
 | _ => false
def Same (ts : List Nat) (σ : L2.St) (env : En) (f : FA) (σ' : L2.St) (env' : En) (f' : FA) : Prop := σ'.length = σ.length ∧ env'.length = env.length ∧ ∀ j, j ∉ ts → σ'[j]? = σ[j]? ∧ env'[j]? = env[j]? ∧ f' j = f j
def qhq (K : PySem.W.Frag) (σ : L2.St) (H : Hp) (env : En) (f : FA) (g : List Addr) (rk : Bool) (ts : List Nat) (P : L2.St → Hp → Prop) : En → Prop := fun env' => ∀ σ' f', Abs K σ' H env' f' → Stp H env f g H env' f' [] → Kq σ env f σ' env' f' →
 (∀ b, L0 env' f' b → L0 env f b ∨ b ∈ g) → (rk = false → ∀ b, Ro env' f' b → Ro env f b) → Same ts σ env f σ' env' f' → P σ' H
def qgL (K : PySem.W.Frag) (ts : List Nat) (t : XG) : TG := fun v σ H Q => ∃ env f r g, Abs K σ H env f ∧ SrcOk K σ H env f r v g ∧ t r env (qhq K σ H env f g r.isRo ts Q)
inductive KOk (K : PySem.W.Frag) (H : Hp) (env : En) (f : FA) : Option Bool → List D → List V → List Addr → Prop
 | tmp {ds : List D} {vs : List V} {g : List Addr} : Reps K H 0 ds vs g → (∀ b ∈ g, ¬ L0 env f b ∧ ¬ Ro env f b) → KOk K H env f none ds vs g
 | ro {c : Bool} {ds : List D} {vs : List V} {g : List Addr} : Reps K H (clv c) ds vs g → (∀ b ∈ g, ¬ L0 env f b) → KOk K H env f (some c) ds vs []
def mkI (kd : Option Bool) (d : D) : R := match kd with
 | none => .tmp d
 | some c => mkRo c d
def qfv (K : PySem.W.Frag) (ts : List Nat) (t : XGs) : TGs := fun vs σ H Q => ∃ env f kd ds g, Abs K σ H env f ∧ KOk K H env f kd ds vs g ∧ t kd ds env (qhq K σ H env f g kd.isSome ts Q)
structure DG (X : Cx) (e : Expr) (ts : List Nat) (t : XG) : Prop where
 run : PG X e (qgL X.K ts t)
 mono : qar t
structure DGs (X : Cx) (e : List Expr) (ts : List Nat) (t : XGs) : Prop where
 run : PGs X e (qfv X.K ts t)
 mono : qjo t
theorem PG.imp {X : Cx} {e : Expr} {t u : TG} (h : PG X e t) (k : ∀ v σ H Q, u v σ H Q → t v σ H Q) : PG X e u := ⟨fun pins s σ H v w Q I r q => h.run pins s σ H v w Q I r (k _ _ _ _ q)⟩
theorem PGs.imp {X : Cx} {e : List Expr} {t u : TGs} (h : PGs X e t) (k : ∀ v σ H Q, u v σ H Q → t v σ H Q) : PGs X e u := ⟨fun pins s σ H v w Q I r q => h.run pins s σ H v w Q I r (k _ _ _ _ q)⟩
def jR : XGs := fun _ ds env k => match ds with
 | [] => k env
 | _ => False
def wN (g : XG) (gs : XGs) : XGs := fun kd ds env k => match ds with
 | d :: ds => g (mkI kd d) env fun e => gs kd ds e k
 | [] => False
def kdOf (r : R) (xs : List D) (k : Option Bool → Prop) : Prop := match r with
 | .tmp _ => k none
 | .ro c _ => k (some c)
 | .sl _ => immL xs = true ∧ k none
def gT (n : Nat) (gs : XGs) : XG := fun r env k => rd 2 r env fun d => match d with
 | .tup xs => xs.length = n ∧ kdOf r xs fun kd => gs kd xs env k
 | _ => False
section
variable {K : PySem.W.Frag} {σ : L2.St} {H : Hp} {env : En} {f : FA} {g : List Addr} {i : Nat} {r : R} {v : V} {d : D}
theorem qeg (h : setOk env i = true) : i < env.length := by
 unfold setOk at h
 cases e : env[i]? with
 | none => rw [e] at h; cases h
 | some x => exact (List.getElem?_eq_some_iff.mp e).1
theorem qaC (h : setOk env i = true) {m : Md} (e : env[i]? = some (some (d, m))) : m ≠ .io ∧ m ≠ .lk := by
 unfold setOk at h
 rw [e] at h
 cases m <;> first | (cases h; done) | exact ⟨(fun z => nomatch z), (fun z => nomatch z)⟩
theorem Abs.put (A : Abs K σ H env f) (so : setOk env i = true) {m : Md} (rp : Rep K H m.lv d v g) (hm : m ≠ .io ∧ m ≠ .lk) (h0 : m.lv = 0 → ∀ b ∈ g, ¬ L0 env f b ∧ ¬ Ro env f b) (h1 : ∀ b ∈ g, ¬ L0 env f b) {G : List Addr} (hG : m.lv = 0 → ∀ b ∈ g, b ∈ G) :
 Abs K (σ.set i (some v)) H (env.set i (some (d, m))) (fset f i g) ∧ Stp H env f G H (env.set i (some (d, m))) (fset f i g) [] ∧ Kq σ env f (σ.set i (some v)) (env.set i (some (d, m))) (fset f i g) ∧
  (∀ b, L0 (env.set i (some (d, m))) (fset f i g) b → L0 env f b ∨ b ∈ G) ∧ (m.lv = 0 → ∀ b, Ro (env.set i (some (d, m))) (fset f i g) b → Ro env f b) ∧ Same [i] σ env f (σ.set i (some v)) (env.set i (some (d, m))) (fset f i g) := by
 have hi := qeg so
 have hσ : i < σ.length := by rw [← A.len]; exact hi
 have ati : ∀ {d1 : D} {m1 : Md}, (env.set i (some (d, m)))[i]? = some (some (d1, m1)) → d1 = d ∧ m1 = m := fun {d1 m1} h => by
  rw [xW hi] at h; cases h; exact ⟨rfl, rfl⟩
 have get : ∀ {j : Nat} {d1 : D} {m1 : Md}, j ≠ i → (env.set i (some (d, m)))[j]? = some (some (d1, m1)) → env[j]? = some (some (d1, m1)) := fun {j d1 m1} hj h => by rwa [yq hj] at h
 refine ⟨⟨fun j d1 m1 h => ?_, fun j k d1 m1 d2 m2 hjk e1 e2 hl b hb z => ?_, by rw [List.length_set, List.length_set]; exact A.len⟩, ⟨fun b o h _ => h, fun b q => ?_⟩, ⟨fun j d1 h => ?_, fun j d1 h => ?_, fun j d1 h => ?_⟩, fun b q => ?_, fun hl b q => ?_, by rw [List.length_set], by rw [List.length_set], fun j hj => ?_⟩
 ·by_cases hj : j = i
  ·subst hj
   obtain ⟨rfl, rfl⟩ := ati h
   exact ⟨v, List.getElem?_set_self hσ, by rw [xH]; exact rp⟩
  ·obtain ⟨w, h2, h3⟩ := A.rep j d1 m1 (get hj h)
   exact ⟨w, by rw [List.getElem?_set_ne (Ne.symm hj)]; exact h2, by rw [zM hj]; exact h3⟩
 ·by_cases hj : j = i
  ·subst hj
   obtain ⟨rfl, rfl⟩ := ati e1
   rw [xH] at hb
   rw [zM (Ne.symm hjk)] at z
   have e3 := get (Ne.symm hjk) e2
   by_cases hl2 : m2.lv = 0
   ·exact (h0 hl b hb).1 ⟨k, d2, m2, e3, hl2, z⟩
   ·exact (h0 hl b hb).2 ⟨k, d2, m2, e3, hl2, z⟩
  ·rw [zM hj] at hb
   have e3 := get hj e1
   by_cases hk : k = i
   ·subst hk
    rw [xH] at z
    exact h1 b z ⟨j, d1, m1, e3, hl, hb⟩
   ·rw [zM hk] at z
    exact A.dis j k d1 m1 d2 m2 hjk e3 (get hk e2) hl b hb z
 ·rcases q with ⟨j, d1, m1, h, hr, hb⟩ | q
  ·by_cases hj : j = i
   ·subst hj
    obtain ⟨rfl, rfl⟩ := ati h
    rw [xH] at hb
    exact .inr (.inl (hG (Md.lv_of hr) b hb))
   ·rw [zM hj] at hb
    exact .inl ⟨j, d1, m1, get hj h, hr, hb⟩
  ·simp at q
 ·have hj : j ≠ i := fun z => by subst z; exact (qaC so h).1 rfl
  exact ⟨List.getElem?_set_ne (Ne.symm hj), d1, by rw [yq hj]; exact h⟩
 ·have hj : j ≠ i := fun z => by subst z; exact (qaC so h).2 rfl
  exact ⟨List.getElem?_set_ne (Ne.symm hj), by rw [yq hj]; exact h, zM hj⟩
 ·by_cases hj : j = i
  ·subst hj
   obtain ⟨_, z⟩ := ati h
   exact absurd z.symm hm.2
  ·exact get hj h
 ·obtain ⟨j, d1, m1, h, hr, hb⟩ := q
  by_cases hj : j = i
  ·subst hj
   obtain ⟨rfl, rfl⟩ := ati h
   rw [xH] at hb
   exact .inr (hG hr b hb)
  ·rw [zM hj] at hb
   exact .inl ⟨j, d1, m1, get hj h, hr, hb⟩
 ·obtain ⟨j, d1, m1, h, hr, hb⟩ := q
  by_cases hj : j = i
  ·subst hj
   obtain ⟨rfl, rfl⟩ := ati h
   exact absurd hl hr
  ·rw [zM hj] at hb
   exact ⟨j, d1, m1, get hj h, hr, hb⟩
 ·have hj' : j ≠ i := fun z => hj (by rw [z]; exact List.mem_cons_self ..)
  exact ⟨List.getElem?_set_ne (Ne.symm hj'), yq hj', zM hj'⟩
theorem qgU {k : En → Prop} (A : Abs K σ H env f) (h : SrcOk K σ H env f r v g) (q : gN i r env k) : ∃ env' f', k env' ∧ Abs K (σ.set i (some v)) H env' f' ∧ Stp H env f g H env' f' [] ∧ Kq σ env f (σ.set i (some v)) env' f' ∧
 (∀ b, L0 env' f' b → L0 env f b ∨ b ∈ g) ∧ (r.isRo = false → ∀ b, Ro env' f' b → Ro env f b) ∧ Same [i] σ env f (σ.set i (some v)) env' f' := by
 obtain ⟨so, q⟩ := q
 cases h with
 | tmp rp n =>
   obtain ⟨a, b, c, d, e, z⟩ := A.put (m := .own) (G := g) so rp ⟨(fun z => nomatch z), (fun z => nomatch z)⟩ (fun _ => n) (fun b hb => (n b hb).1) fun _ b hb => hb
   exact ⟨_, _, q, a, b, c, d, fun _ => e rfl, z⟩
 | @ro c _ _ _ rp n =>
   obtain ⟨a, b, c, d, e, z⟩ := A.put (m := roMd c) (G := []) so (by cases c <;> exact rp) (by cases c <;> exact ⟨(fun z => nomatch z), (fun z => nomatch z)⟩) (fun z => by cases c <;> cases z) n (fun z => by cases c <;> cases z)
   exact ⟨_, _, q, a, b, c, d, (fun z => nomatch z), z⟩
 | sl h1 h2 h3 =>
   simp only [h2] at q
   obtain ⟨w, h4, rp⟩ := A.rep _ _ _ h2
   rw [h1] at h4; cases h4
   obtain ⟨_, r0⟩ := rp.imm (by rw [h3]; exact Nat.zero_le _) q.1
   obtain ⟨a, b, c, d, e, z⟩ := A.put (m := .own) (G := []) so r0 ⟨(fun z => nomatch z), (fun z => nomatch z)⟩ (fun _ b hb => by simp at hb) (fun b hb => by simp at hb) fun _ b hb => hb
   exact ⟨_, _, q.2, a, b, c, d, fun _ => e rfl, z⟩
end
section
variable {X : Cx} {pos : Pos}
theorem qL {i : Nat} {x : Str} (hN : X.N.Nodup) (hi : X.N[i]? = some x := by rfl) (hx : Loc X.env.scope x := by first | exact .inl rfl | exact .inr rfl) (hf : X.fn x = true ∨ X.env.scope.names.lookup x = some .local := by first | exact .inl rfl | exact .inr rfl | assumption) : DG X (.Name x pos) [i] (gN i) := by
 refine ⟨PG.imp (pg_name hN hi hx hf) fun v σ H Q q => ?_, fun r env k k' h q => ?_⟩
 ·obtain ⟨env, f, r, g, A, R1, q⟩ := q
  obtain ⟨env', f', q, A', S', K', L', O', M'⟩ := qgU A R1 q
  exact q _ f' A' S' K' L' O' M'
 ·obtain ⟨so, q⟩ := q
  refine ⟨so, ?_⟩
  cases r with
  | tmp d => exact h _ q
  | ro c d => exact h _ q
  | sl j =>
    dsimp only at q ⊢
    cases e : env[j]? with
    | none => rw [e] at q; exact q.elim
    | some x => cases x with
      | none => rw [e] at q; exact q.elim
      | some p => rw [e] at q; exact ⟨q.1, h _ q.2⟩
end
end BX
namespace BX
open PySem PySem.Spec PyProof.Rows L2
section
variable {K : PySem.W.Frag} {σ σ' : L2.St} {H : Hp} {env e1 : En} {f f1 : FA} {g g1 g2 : List Addr}
theorem qf6 {kd : Option Bool} {d : D} {v : V} {ds : List D} {vs : List V} (h : KOk K H env f kd (d :: ds) (v :: vs) g) : ∃ g1 g2, SrcOk K σ H env f (mkI kd d) v g1 ∧ KOk K H env f kd ds vs g2 ∧ (∀ b ∈ g1, b ∈ g) ∧ (∀ b ∈ g2, b ∈ g ∧ b ∉ g1) ∧ (kd.isSome = false → (mkI kd d).isRo = false) := by
 cases h with
 | tmp r n => cases r with
   | cons r t nd => exact ⟨_, _, .tmp r fun b hb => n b (List.mem_append_left _ hb), .tmp t fun b hb => n b (List.mem_append_right _ hb), fun b hb => List.mem_append_left _ hb, fun b hb => ⟨List.mem_append_right _ hb, fun z => nd rfl b z hb⟩, fun _ => rfl⟩
 | @ro c _ _ g0 r n => cases r with
   | @cons _ _ gf _ _ gg r t nd =>
     have n1 : ∀ b ∈ gf, ¬ L0 env f b := fun b hb => n b (List.mem_append_left _ hb)
     have k2 : KOk K H env f (some c) ds vs [] := KOk.ro t fun b hb => n b (List.mem_append_right _ hb)
     have s : SrcOk K σ H env f (mkRo c d) v [] := by
      cases d with
      | int i => exact .tmp r.int0 qC
      | bl i => exact .tmp r.bl0 qC
      | str i => exact .tmp r.str0 qC
      | non => exact .tmp r.non0 qC
      | _ => exact .ro r n1
     exact ⟨[], [], s, k2, fun b hb => hb, fun b hb => by simp at hb, (fun z => nomatch z)⟩
theorem KOk.wait {kd : Option Bool} {ds : List D} {vs : List V} {G : List Addr} (h : KOk K H env f kd ds vs g2) (A1 : Abs K σ' H e1 f1) (L : ∀ b, L0 e1 f1 b → L0 env f b ∨ b ∈ G) (nG : ∀ b ∈ g2, b ∉ G) (hG : kd.isSome = true → ∀ b ∈ G, False) (O : kd.isSome = false → ∀ b, Ro e1 f1 b → Ro env f b) : KOk K H e1 f1 kd ds vs g2 := by
 cases h with
 | tmp r n => exact .tmp r fun b hb => ⟨fun z => (L b z).elim (n b hb).1 (nG b hb), fun z => (n b hb).2 (O rfl b z)⟩
 | ro r n => exact .ro r fun b hb z => (L b z).elim (n b hb) (hG rfl b)
theorem KOk.ro_nil {kd : Option Bool} {ds : List D} {vs : List V} (h : KOk K H env f kd ds vs g) (e : kd.isSome = true) : g = [] := by
 cases h with
 | tmp r n => cases e
 | ro r n => rfl
end
section
variable {X : Cx} {pos : Pos}
theorem yI : DGs X [] [] jR := by
 refine ⟨PGs.imp pgs_nil fun vs σ H Q q => ?_, fun kd ds env k k' h q => ?_⟩
 ·obtain ⟨env, f, kd, ds, g, A, k, q⟩ := q
  cases ds with
  | cons _ _ => exact q.elim
  | nil =>
    cases k with
    | tmp r n => cases r; exact ⟨rfl, q σ f A .refl .refl (fun b z => .inl z) (fun _ b z => z) ⟨rfl, rfl, fun _ _ => ⟨rfl, rfl, rfl⟩⟩⟩
    | ro r n => cases r; exact ⟨rfl, q σ f A .refl .refl (fun b z => .inl z) (fun _ b z => z) ⟨rfl, rfl, fun _ _ => ⟨rfl, rfl, rfl⟩⟩⟩
 ·cases ds with
  | cons _ _ => exact q.elim
  | nil => exact h _ q
theorem qQ {e : Expr} {es : List Expr} {t : XG} {u : XGs} {ts us : List Nat} (h1 : DG X e ts t) (h2 : DGs X es us u) (hs : (assignEach (e :: es) X.env).map (·.2) = assign e X.env :: (assignEach es X.env).map (·.2) := by rfl) : DGs X (e :: es) (ts ++ us) (wN t u) := by
 refine ⟨PGs.imp (pgs_cons h1.run h2.run hs) fun vs σ H Q q => ?_, fun kd ds env k k' h q => ?_⟩
 ·obtain ⟨env, f, kd, ds, g, A, k, q⟩ := q
  cases ds with
  | nil => exact q.elim
  | cons d ds =>
    have hv : ∃ v vr, vs = v :: vr := by
     cases k with
     | tmp r n => cases r; exact ⟨_, _, rfl⟩
     | ro r n => cases r; exact ⟨_, _, rfl⟩
    obtain ⟨v, vr, rfl⟩ := hv
    obtain ⟨g1, g2, s1, k2, i1, i2, hr⟩ := qf6 (σ := σ) k
    refine ⟨v, vr, rfl, env, f, _, g1, A, s1, h1.mono _ _ _ _ (fun e1 q => ?_) q⟩
    intro σ1 f1 A1 S1 K1 L1 O1 M1
    refine ⟨e1, f1, kd, ds, g2, A1, k2.wait A1 L1 (fun b hb z => (i2 b hb).2 z) (fun e b hb => by
     have := i1 b hb
     rw [k.ro_nil e] at this
     simp at this) (fun e => O1 (hr e)), h2.mono _ _ _ _ _ (fun e2 q => ?_) q⟩
    intro σ2 f2 A2 S2 K2 L2' O2 M2
    refine q σ2 f2 A2 ?_ (K1.trans K2) (fun b z => ?_) (fun e b z => O1 (hr e) b (O2 e b z)) ⟨M2.1.trans M1.1, M2.2.1.trans M1.2.1, fun j hj => ?_⟩
    ·refine ⟨fun b o h _ => h, fun b z => ?_⟩
     rcases S2.own b z with z | z | z
     ·rcases S1.own b (.inl z) with z | z | z
      ·exact .inl z
      ·exact .inr (.inl (i1 b z))
      ·exact .inr (.inr z)
     ·exact .inr (.inl (i2 b z).1)
     ·exact .inr (.inr z)
    ·rcases L2' b z with z | z
     ·exact (L1 b z).imp_right (i1 b)
     ·exact .inr (i2 b z).1
    ·obtain ⟨a1, a2, a3⟩ := M1.2.2 j fun z => hj (List.mem_append_left _ z)
     obtain ⟨b1, b2, b3⟩ := M2.2.2 j fun z => hj (List.mem_append_right _ z)
     exact ⟨b1.trans a1, b2.trans a2, b3.trans a3⟩
 ·cases ds with
  | nil => exact q.elim
  | cons d ds => exact h1.mono _ _ _ _ (fun e q => h2.mono _ _ _ _ _ h q) q
theorem xX {es : List Expr} {k : Nat} {t : XGs} {n : Nat} {ts : List Nat} (hx : Ok X) (h : DGs X es ts t) (hn : (assignEach es X.env).length = n := by rfl) (hst : (assignEach es X.env).findIdx? (·.1) = none := by rfl) : DG X (.Tuple es k pos) ts (gT n t) := by
 refine ⟨PG.imp (pg_tup hx.calm h.run hn hst) fun v σ H Q q => ?_, fun r env k k' w q => ?_⟩
 ·obtain ⟨env, f, r, g, A, s, q⟩ := q
  have go : ∀ {lv : Nat} {xs : List D} {gg : List Addr}, Rep X.K H lv (.tup xs) v gg → xs.length = n → (∀ vs, Reps X.K H lv xs vs gg → ∃ kd g', KOk X.K H env f kd xs vs g' ∧ (∀ b ∈ g', b ∈ g) ∧ (r.isRo = false → kd.isSome = false) ∧ t kd xs env (qhq X.K σ H env f g r.isRo ts Q)) →
   ∃ a xs, v = .ref a ∧ SqT X.K H a xs ∧ xs.length = n ∧ qfv X.K ts t xs σ H Q := fun {lv xs gg} rp hl k => by
   obtain ⟨a, vs, rfl, ha, rr⟩ := rp.tupleSq
   obtain ⟨kd, g', kk, hg', hro, q⟩ := k vs rr
   refine ⟨a, vs, rfl, ha, by rw [← rr.len]; exact hl, env, f, kd, xs, g', A, kk, h.mono _ _ _ _ _ (fun e1 q => ?_) q⟩
   intro σ1 f1 A1 S1 K1 L1 O1 M1
   exact q σ1 f1 A1 (S1.more hg') K1 (fun b z => (L1 b z).imp_right (hg' b)) (fun e => O1 (hro e)) M1
  unfold gT rd at q
  cases s with
  | @tmp d _ _ rp nn =>
    simp only [R.data] at q
    cases d with
    | tup xs => exact go rp q.1 fun vs rr => ⟨none, g, .tmp rr nn, fun b hb => hb, fun _ => rfl, q.2⟩
    | _ => exact q.elim
  | @ro c d _ g0 rp nn =>
    unfold R.data at q
    cases e : roOk c 2 with
    | false => simp only [e] at q
    | true =>
      simp only [e] at q
      cases d with
      | tup xs => exact go rp q.1 fun vs rr => ⟨some c, [], .ro rr nn, fun b hb => hb, (fun z => nomatch z), q.2⟩
      | _ => exact q.elim
  | @sl i _ d m h1 h2 h3 =>
    obtain ⟨w, h4, rp⟩ := A.rep _ _ _ h2
    rw [h1] at h4; cases h4
    unfold R.data at q
    simp only [h2] at q
    cases e : m.okL 2 with
    | false => simp only [e] at q
    | true =>
      simp only [e] at q
      cases d with
      | tup xs =>
        refine go rp q.1 fun vs rr => ?_
        obtain ⟨_, r0⟩ := rr.imm (by rw [h3]; exact Nat.zero_le _) q.2.1
        exact ⟨none, [], .tmp r0 qC, fun b hb => hb, fun _ => rfl, q.2.2⟩
      | _ => exact q.elim
 ·refine qZ (fun d q => ?_) q
  cases d with
  | tup xs =>
    refine ⟨q.1, ?_⟩
    cases r with
    | tmp _ => exact h.mono _ _ _ _ _ w q.2
    | ro c _ => exact h.mono _ _ _ _ _ w q.2
    | sl _ => exact ⟨q.2.1, h.mono _ _ _ _ _ w q.2.2⟩
  | _ => exact q.elim
def sAsg (t : XE) (g : XG) : XS := fun env nx _ => t env fun r e => g r e nx
theorem Jb {K : PySem.W.Frag} {te : XE} {g : XG} {ts : List Nat} (m1 : uE te) (m2 : qar g) {D : Ends} {σ : L2.St} {H : Hp} (q : qc5 K (sAsg te g) D σ H) : tAsg (vR K te) (qgL K ts g) D σ H := by
 obtain ⟨env, f, A, q⟩ := q
 refine ⟨env, f, A, m1 _ _ _ (fun r e1 q => ?_) q⟩
 intro v H1 f1 g1 A1 R1 S1 K1
 refine ⟨e1, f1, r, g1, A1, R1.src A1, m2 _ _ _ _ (fun e2 q => ?_) q⟩
 intro σ2 f2 A2 S2 K2 _ _ _
 exact q σ2 H1 f2 A2 (S1.trans S2) (K1.kq.trans K2)
theorem ZF {te : XE} {g : XG} (m1 : uE te) (m2 : qar g) : qbT (sAsg te g) := fun env nx nx' rt rt' h _ q => m1 _ _ _ (fun r e q => m2 _ _ _ _ h q) q
theorem qfG {tg e : Expr} {te : XE} {g : XG} {ts : List Nat} (he : DE X e te) (hg : DG X tg ts g) (hs : swapsWithSole [tg] e pos.line X.env = pure false := by rfl) (hw : swappedStores [tg] e X.env = pure none := by rfl)
 (h1 : (assignEach [tg] X.env).map (·.2) = [assign tg X.env] := by rfl) : DS X (.Assign [tg] e pos) (sAsg te g) :=
 ⟨PS.imp (ps_asg he.run hg.run hs hw h1) fun D σ H q => Jb he.mono hg.mono q, ZF he.mono hg.mono⟩
theorem wQ {i : Nat} {x : Str} {e : Expr} {te : XE} {pos' : Pos} (hN : X.N.Nodup) (he : DE X e te) (hi : X.N[i]? = some x := by rfl) (hx : Loc X.env.scope x := by first | exact .inl rfl | exact .inr rfl) (hs : swapsWith e (some (.Name x pos')) pos.line X.env = pure false := by rfl)
 (hf : X.fn x = true ∨ X.env.scope.names.lookup x = some .local := by first | exact .inl rfl | exact .inr rfl | assumption) : DS X (.Assign [.Name x pos'] e pos) (sAsg te (gN i)) := by
 have dg : DG X (.Name x pos') [i] (gN i) := qL hN hi hx hf
 refine ⟨PS.imp (ps_set hN hi hx he.run hs hf) fun D σ H q => ?_, ZF he.mono dg.mono⟩
 have h := Jb (ts := [i]) he.mono dg.mono q
 obtain ⟨env, f, A, h⟩ := h
 refine ⟨env, f, A, he.mono _ _ _ (fun r e1 q => ?_) h⟩
 intro v H1 f1 g1 A1 R1 S1 K1
 obtain ⟨env2, f2, r2, g2, A2, R2, q2⟩ := q v H1 f1 g1 A1 R1 S1 K1
 obtain ⟨env', f', q, A', S', K', L', O', M'⟩ := qgU A2 R2 q2
 exact q _ f' A' S' K' L' O' M'
end
end BX
namespace BX
open PySem PySem.Spec PyProof.Rows L2
abbrev Lok := Option (Nat × Md)
abbrev XI := En → (List D → Option Bool → Lok → En → Prop) → Prop
def qhr (t : XI) : Prop := ∀ env k k', (∀ ds kd lk e, k ds kd lk e → k' ds kd lk e) → t env k → t env k'
def Near (H0 : Hp) (P : List Addr) (H : Hp) : Prop := ∀ b o, H0 b = some o → (b ∈ P ∨ Mu o = false) → H b = some o
def Item (K : PySem.W.Frag) (H : Hp) (P : List Addr) (kd : Option Bool) (d : D) (x : V) : Prop := match kd with
 | none => Rep K H 0 d x []
 | some c => ∃ g, Rep K H (clv c) d x g ∧ ∀ b ∈ g, b ∈ P
structure Wk (K : PySem.W.Frag) (J : It) (ds : List D) (kd : Option Bool) (H0 : Hp) (P : List Addr) : Prop where
 go : ∀ i H, Near H0 P H → i < ds.length → J.go i H
 stop : ∀ i H, Near H0 P H → ds.length ≤ i → J.stop i H
 yld : ∀ (i : Nat) (H : Hp) (x : V) (H' : Hp) (d : D), Near H0 P H → ds[i]? = some d → J.yld i H x H' → (∀ b o, H b = some o → H' b = some o) ∧ Item K H' P kd d x
inductive Lk (env : En) : Lok → En → Prop
 | none : Lk env none env
 | some {i : Nat} {d : D} {m : Md} : env[i]? = some (some (d, m)) → m.lv = 0 → Lk env (some (i, m)) (env.set i (some (d, .lk)))
def qjm (K : PySem.W.Frag) (σ : L2.St) (H : Hp) (env : En) (f : FA) (R : It → Hp → Prop) : List D → Option Bool → Lok → En → Prop := fun ds kd lk e1 =>
 ∀ J H1 f1 P env', Abs K σ H1 env' f1 → Stp H env f [] H1 env' f1 [] → Kp env f env' f1 → Lk env' lk e1 → Wk K J ds kd H1 P → (∀ b ∈ P, (∃ o, H1 b = some o) ∧ ¬ W e1 f1 b) → (kd.isSome = true → ∀ b ∈ P, ¬ L0 e1 f1 b) → R J H1
def qiP (K : PySem.W.Frag) (t : XI) : TI := fun σ H R => ∃ env f, Abs K σ H env f ∧ t env (qjm K σ H env f R)
structure DI (X : Cx) (tg it : Expr) (t : XI) : Prop where
 run : PI X tg it (qiP X.K t)
 mono : qhr t
theorem PI.imp {X : Cx} {tg it : Expr} {t u : TI} (h : PI X tg it t) (k : ∀ σ H R, u σ H R → t σ H R) : PI X tg it u := ⟨fun pins s σ H R I q => h.run pins s σ H R I (k _ _ _ q)⟩
def thaw (lk : Lok) (env : En) (k : En → Prop) : Prop := match lk with
 | none => k env
 | some (i, m) => match env[i]? with
   | some (some (d, .lk)) => k (env.set i (some (d, m)))
   | _ => False
theorem Zq {lk : Lok} {env : En} {k k' : En → Prop} (h : ∀ e, k e → k' e) (q : thaw lk env k) : thaw lk env k' := by
 unfold thaw at q ⊢
 split at q
 ·exact h _ q
 ·split at q
  ·simp only [*] <;> exact h _ q
  ·exact q.elim
def forL (g : XG) (tb : XS) (kd : Option Bool) : List D → XS
 | [], env, nx, _ => nx env
 | d :: ds, env, nx, rt => g (mkI kd d) env fun e1 => tb e1 (fun e2 => forL g tb kd ds e2 nx rt) rt
def sFor (it : XI) (g : XG) (tb : XS) : XS := fun env nx rt => it env fun ds kd lk e1 => forL g tb kd ds e1 (fun e2 => thaw lk e2 nx) (fun d e2 => thaw lk e2 fun e3 => rt d e3)
theorem JZ {g : XG} {tb : XS} {kd : Option Bool} (mg : qar g) (mb : qbT tb) : ∀ ds : List D, qbT (forL g tb kd ds)
 | [], env, nx, nx', rt, rt', h, h', q => h _ q
 | d :: ds, env, nx, nx', rt, rt', h, h', q => mg _ _ _ _ (fun e1 q => mb _ _ _ _ _ (fun e2 q => JZ mg mb ds _ _ _ _ _ h h' q) h' q) q
section
variable {K : PySem.W.Frag} {σ σ' : L2.St} {H H1 H' : Hp} {env env' e1 e2 : En} {f f1 f2 : FA} {lk : Lok}
theorem Q9 {i : Nat} {d : D} {m m' : Md} (A : Abs K σ H env f) (e : env[i]? = some (some (d, m))) (h : m.lv = 0) (h' : m'.lv = 0) : Abs K σ H (env.set i (some (d, m'))) f := by
 have hi : i < env.length := (List.getElem?_eq_some_iff.mp e).1
 have get : ∀ {j : Nat} {d1 : D} {m1 : Md}, (env.set i (some (d, m')))[j]? = some (some (d1, m1)) → ∃ m2, env[j]? = some (some (d1, m2)) ∧ m2.lv = m1.lv := fun {j d1 m1} q => by
  by_cases hj : j = i
  ·subst hj
   rw [xW hi] at q; cases q
   exact ⟨m, e, h.trans h'.symm⟩
  ·rw [yq hj] at q
   exact ⟨m1, q, rfl⟩
 refine ⟨fun j d1 m1 q => ?_, fun j k d1 m1 d2 m2 hjk q1 q2 hl => ?_, by rw [List.length_set]; exact A.len⟩
 ·obtain ⟨m2, q', hm⟩ := get q
  rw [← hm]
  exact A.rep j d1 m2 q'
 ·obtain ⟨m3, q3, hm3⟩ := get q1
  obtain ⟨m4, q4, hm4⟩ := get q2
  exact A.dis j k d1 m3 d2 m4 hjk q3 q4 (hm3.trans hl)
theorem Lk.abs (h : Lk env lk e1) (A : Abs K σ H env f) : Abs K σ H e1 f := by
 cases h with
 | none => exact A
 | some e l => exact Q9 A e l rfl
theorem Lk.w (h : Lk env lk e1) {b : Addr} (w : W e1 f b) : W env f b := by
 cases h with
 | none => exact w
 | @some i d m e l =>
   obtain ⟨j, d1, m1, q, hr, hb⟩ := w
   have hi : i < env.length := (List.getElem?_eq_some_iff.mp e).1
   by_cases hj : j = i
   ·subst hj
    rw [xW hi] at q; cases q; cases hr
   ·rw [yq hj] at q
    exact ⟨j, d1, m1, q, hr, hb⟩
theorem Vf {k : En → Prop} (L : Lk env lk e1) (A : Abs K σ' H' e2 f2) (S : Stp H1 e1 f1 [] H' e2 f2 G) (Kk : Kq σ e1 f1 σ' e2 f2) (q : thaw lk e2 k) :
 ∃ e3, k e3 ∧ Abs K σ' H' e3 f2 ∧ Stp H1 env f1 [] H' e3 f2 G ∧ Kq σ env f1 σ' e3 f2 ∧ ∀ (i : Nat) (d : D) (m : Md), e3[i]? = some (some (d, m)) → (m = .io ∨ m = .lk) → ∃ m', e2[i]? = some (some (d, m')) ∧ (m' = .io ∨ m' = .lk) := by
 cases L with
 | none => exact ⟨e2, q, A, S, Kk, fun i d m e h => ⟨m, e, h⟩⟩
 | @some i d m e l =>
   have hi : i < env.length := (List.getElem?_eq_some_iff.mp e).1
   have he1 : (env.set i (some (d, Md.lk)))[i]? = some (some (d, Md.lk)) := xW hi
   obtain ⟨hσ, he2, hf⟩ := Kk.lk i d he1
   have hi2 : i < e2.length := (List.getElem?_eq_some_iff.mp he2).1
   simp only [thaw, he2] at q
   refine ⟨_, q, Q9 A he2 rfl l, ⟨fun b o h z => ?_, fun b z => ?_⟩, ⟨fun j d1 h => ?_, fun j d1 h => ?_, fun j d1 h => ?_⟩, fun j d1 m1 h hm => ?_⟩
   ·refine S.same b o h (z.imp_right fun z => ⟨fun w => z.1 ((Lk.some e l : Lk env (some (i, m)) _).w w), z.2⟩)
   ·have inj : (W e2 f2 b ∨ b ∈ G) → (W env f1 b ∨ b ∈ ([] : List Addr) ∨ H1 b = none) := fun z => (S.own b z).imp_left fun w => (Lk.some e l : Lk env (some (i, m)) _).w w
    rcases z with ⟨j, d1, m1, q1, hr, hb⟩ | z
    ·by_cases hj : j = i
     ·subst hj
      rw [xW hi2] at q1; cases q1
      rw [hf] at hb
      exact .inl ⟨j, d, m, e, hr, hb⟩
     ·rw [yq hj] at q1
      exact inj (.inl ⟨j, d1, m1, q1, hr, hb⟩)
    ·exact inj (.inr z)
   ·by_cases hj : j = i
    ·subst hj
     rw [e] at h; cases h
     exact ⟨hσ, d, xW hi2⟩
    ·obtain ⟨a, d', b⟩ := Kk.io j d1 (by rw [yq hj]; exact h)
     exact ⟨a, d', by rw [yq hj]; exact b⟩
   ·by_cases hj : j = i
    ·subst hj
     rw [e] at h; cases h
     exact ⟨hσ, xW hi2, hf⟩
    ·obtain ⟨a, b, c⟩ := Kk.lk j d1 (by rw [yq hj]; exact h)
     exact ⟨a, by rw [yq hj]; exact b, c⟩
   ·by_cases hj : j = i
    ·subst hj
     rw [xW hi2] at h; cases h
     exact e
    ·rw [yq hj] at h
     have := Kk.lkr j d1 h
     rwa [yq hj] at this
   ·by_cases hj : j = i
    ·subst hj
     rw [xW hi2] at h; cases h
     exact ⟨.lk, he2, .inr rfl⟩
    ·rw [yq hj] at h
     exact ⟨m1, h, hm⟩
theorem qaY {P : List Addr} {kd : Option Bool} {d : D} {x : V} (h : Item K H P kd d x) (n : kd.isSome = true → ∀ b ∈ P, ¬ L0 env f b) : SrcOk K σ H env f (mkI kd d) x [] := by
 cases kd with
 | none => exact .tmp h qC
 | some c =>
   obtain ⟨g, r, hg⟩ := h
   have n1 : ∀ b ∈ g, ¬ L0 env f b := fun b hb => n rfl b (hg b hb)
   show SrcOk K σ H env f (mkRo c d) x []
   cases d with
   | int i => exact .tmp r.int0 qC
   | bl i => exact .tmp r.bl0 qC
   | str i => exact .tmp r.str0 qC
   | non => exact .tmp r.non0 qC
   | _ => exact .ro r n1
end
section
variable {X : Cx} {tg it : Expr} {body : List Stmt} {ti : XI} {g : XG} {tb : XS} {pos : Pos} {ts : List Nat}
theorem jY (hx : Ok X) (hi : DI X tg it ti) (hg : DG X tg ts g) (hb : DSs X body tb) (hp : PassesOwn (model X.prog X.w) X.A X.env X.xe := by exact PassesOwn.never) (hs : ∀ x, foldedSetIterable it X.env x = pure x := by intro _; rfl) : DS X (.For tg it body [] pos) (sFor ti g tb) := by
 refine ⟨PS.imp (ps_for hp hx.calm hi.run hg.run hb.run hs) fun Dn σ H q => ?_, fun env nx nx' rt rt' h h' q => hi.mono _ _ _ (fun ds kd lk e q => JZ hg.mono hb.mono ds _ _ _ _ _ (fun e q => Zq (fun e q => h _ q) q) (fun d e q => Zq (fun e q => h' _ _ q) q) q) q⟩
 obtain ⟨env, f, A, q⟩ := q
 refine ⟨env, f, A, hi.mono _ _ _ (fun ds kd lk e1 q => ?_) q⟩
 intro J H1 f1 P env' A1 S1 K1 L Wa hP hPL
 have A1' := L.abs A1
 refine ⟨fun i m σ' H' => m = ds.length - i ∧ i ≤ ds.length ∧ ∃ e f', Abs X.K σ' H' e f' ∧ Stp H1 e1 f1 [] H' e f' [] ∧ Kq σ e1 f1 σ' e f' ∧
  forL g tb kd (ds.drop i) e (fun e2 => thaw lk e2 (qbS X.K σ H env f Dn.nx)) (fun d e2 => thaw lk e2 fun e3 => Uu X.K σ H env f Dn.rt d e3), ⟨ds.length, by simp, Nat.zero_le _, e1, f1, A1', .refl, .refl, q⟩, fun i m σ' H' w => ?_⟩
 obtain ⟨rfl, hi', e, f', A', S', K', q⟩ := w
 have near : Near H1 P H' := fun b o h z => S'.same b o h (by
  rcases z with z | z
  ·exact .inr ⟨(hP b z).2, by simp⟩
  ·exact .inl z)
 by_cases hlt : i < ds.length
 ·refine .inr ⟨Wa.go i H' near hlt, fun σ2 H2 => _, fun σ2 H2 n2 => ⟨ds.length - (i + 1), by omega, n2⟩, fun x H2 hy => ?_⟩
  obtain ⟨sm, itm⟩ := Wa.yld i H' x H2 ds[i] near (List.getElem?_eq_getElem hlt) hy
  rw [List.drop_eq_getElem_cons hlt] at q
  have nl : kd.isSome = true → ∀ b ∈ P, ¬ L0 e f' b := fun hk b hb z => by
   obtain ⟨j, d1, m1, h1, h2, h3⟩ := z
   cases hr : m1.rd with
   | false =>
     rcases S'.own b (.inl ⟨j, d1, m1, h1, hr, h3⟩) with z | z | z
     ·exact (hP b hb).2 z
     ·simp at z
     ·obtain ⟨o, ho⟩ := (hP b hb).1
      rw [z] at ho; cases ho
   | true =>
     have hm : m1 = .lk := by cases m1 <;> first | rfl | (cases hr; done) | (cases h2; done)
     subst hm
     have h4 := K'.lkr j d1 h1
     obtain ⟨_, _, h5⟩ := K'.lk j d1 h4
     rw [h5] at h3
     exact hPL hk b hb ⟨j, d1, .lk, h4, rfl, h3⟩
  refine ⟨e, f', mkI kd ds[i], [], A'.ext sm, qaY itm nl, hg.mono _ _ _ _ (fun e2 q2 => ?_) q⟩
  intro σ2 f2 A2 S2 K2 _ _ _
  have S3 : Stp H1 e1 f1 [] H2 e2 f2 [] := (S'.ext sm).trans S2
  have K3 := K'.trans K2
  refine ⟨e2, f2, A2, hb.mono _ _ _ _ _ (fun e3 q3 => ?_) (fun d e3 q3 => ?_) q2⟩
  ·intro σ3 H3 f3 A3 S4 K4
   exact ⟨rfl, hlt, e3, f3, A3, S3.trans S4, K3.trans K4, q3⟩
  ·intro v σ3 H3 f3 gg A3 rv nv S4 K4
   obtain ⟨e4, q4, A4, S5, K5, back⟩ := Vf L A3 (S3.trans S4) (K3.trans K4) q3
   exact q4 v σ3 H3 f3 gg A4 rv (fun b hb i d m h hm => by
    obtain ⟨m', h', hm'⟩ := back i d m h hm
    exact nv b hb i d m' h' hm') (S1.trans S5) (K1.kq.trans K5)
 ·have hie : i = ds.length := by omega
  subst hie
  rw [List.drop_length] at q
  obtain ⟨e3, q3, A3, S3, K3, _⟩ := Vf L A' S' K' q
  exact .inl ⟨Wa.stop _ _ near (Nat.le_refl _), q3 σ' H' f' A3 (S1.trans S3) (K1.kq.trans K3)⟩
def qcv (c : XT) (tb : XS) : XS := fun env nx rt => ∃ P : Nat → En → Prop, (∃ m, P m env) ∧ ∀ m e, P m e → c e fun b e1 => (b = true → tb e1 (fun e2 => ∃ m', m' < m ∧ P m' e2) rt) ∧ (b = false → nx e1)
theorem qeV {c : Expr} {tc : XT} (hc : DT X c tc) (hb : DSs X body tb) (hp : PassesOwn (model X.prog X.w) X.A X.env X.xe := by exact PassesOwn.never) : DS X (.While c body [] pos) (qcv tc tb) := by
 refine ⟨PS.imp (ps_while hp hc.run hb.run) fun Dn σ H q => ?_, fun env nx nx' rt rt' h h' q => ?_⟩
 ·obtain ⟨env, f, A, P, ⟨m0, p0⟩, turn⟩ := q
  refine ⟨fun m σ' H' => ∃ e f', Abs X.K σ' H' e f' ∧ Stp H env f [] H' e f' [] ∧ Kq σ env f σ' e f' ∧ P m e, ⟨m0, env, f, A, .refl, .refl, p0⟩, fun m σ' H' w => ?_⟩
  obtain ⟨e, f', A', S', K', p⟩ := w
  refine ⟨e, f', A', hc.mono _ _ _ (fun b e1 q => ?_) (turn m e p)⟩
  intro H1 f1 A1 S1 K1
  cases b with
  | true =>
    rw [if_pos rfl]
    refine ⟨fun σ2 H2 => ∃ m', m' < m ∧ ∃ e f', Abs X.K σ2 H2 e f' ∧ Stp H env f [] H2 e f' [] ∧ Kq σ env f σ2 e f' ∧ P m' e, fun σ2 H2 n => n, e1, f1, A1, hb.mono _ _ _ _ _ (fun e2 q2 => ?_) (fun d e2 q2 => ?_) (q.1 rfl)⟩
    ·intro σ2 H2 f2 A2 S2 K2
     obtain ⟨m', hm, p'⟩ := q2
     exact ⟨m', hm, e2, f2, A2, (S'.trans S1).trans S2, (K'.trans K1.kq).trans K2, p'⟩
    ·exact q2.after (S'.trans S1) (K'.trans K1.kq)
  | false =>
    rw [if_neg Bool.false_ne_true]
    exact q.2 rfl σ' H1 f1 A1 (S'.trans S1) (K'.trans K1.kq)
 ·obtain ⟨P, h0, turn⟩ := q
  exact ⟨P, h0, fun m e p => hc.mono _ _ _ (fun b e1 q => ⟨fun z => hb.mono _ _ _ _ _ (fun e q => q) h' (q.1 z), fun z => h _ (q.2 z)⟩) (turn m e p)⟩
end
def yj (r : R) (env : En) (k : Option Bool → Lok → En → Prop) (im : Bool) : Prop := match r with
 | .tmp _ => im = true ∧ k none none env
 | .ro c _ => k (some c) none env
 | .sl i => match env[i]? with
   | some (some (d, m)) => im = true ∧ k none (some (i, m)) (env.set i (some (d, .lk)))
   | _ => False
def iSeq (t : XE) : XI := fun env k => t env fun r e => rd 2 r e fun d => match d with
 | .lst xs => yj r e (fun kd lk e1 => k xs kd lk e1) (immL xs)
 | .lF xs => yj r e (fun kd lk e1 => k xs kd lk e1) (immL xs)
 | .tup xs => yj r e (fun kd lk e1 => k xs kd lk e1) (immL xs)
 | _ => False
def jH (t : XE) : XI := fun env k => t env fun r e => rd 2 r e fun d => match d with
 | .int j => -(2 ^ 62) ≤ j ∧ j < 2 ^ 62 ∧ k ((List.range j.toNat).map fun n => .int (n : Nat)) none none e
 | _ => False
def qgS (t u : XE) : XI := fun env k => t env fun r e => u e fun r2 e2 => rd 2 r e2 fun d => rd 2 r2 e2 fun d2 => match d, d2 with
 | .int i, .int j => (-(2 ^ 62) ≤ i ∧ i < 2 ^ 62 ∧ -(2 ^ 62) ≤ j ∧ j < 2 ^ 62) ∧ k ((List.range (j - i).toNat).map fun n => .int (i + (n : Nat))) none none e2
 | _, _ => False
theorem uN {r : R} {env : En} {k k' : Option Bool → Lok → En → Prop} {im : Bool} (h : ∀ kd lk e, k kd lk e → k' kd lk e) (q : yj r env k im) : yj r env k' im := by
 cases r with
 | tmp d => exact ⟨q.1, h _ _ _ q.2⟩
 | ro c d => exact h _ _ _ q
 | sl i =>
   unfold yj at q ⊢
   dsimp only at q ⊢
   cases e : env[i]? with
   | none => rw [e] at q; exact q.elim
   | some x => cases x with
     | none => rw [e] at q; exact q.elim
     | some p => rw [e] at q; exact ⟨q.1, h _ _ _ q.2⟩
section
variable {K : PySem.W.Frag} {H0 : Hp} {P : List Addr} {n : Nat}
theorem qd4 {lo : Int} : Wk K (Itr lo n) ((List.range n).map fun k => .int (lo + (k : Nat))) none H0 [] where
 go := fun i H _ h => by show i < n; simpa using h
 stop := fun i H _ h => by show n ≤ i; simpa using h
 yld := fun i H x H' d _ h hy => by
  obtain ⟨rfl, rfl⟩ := hy
  refine ⟨fun b o h => h, ?_⟩
  rw [List.getElem?_map] at h
  cases e : (List.range n)[i]? with
  | none => rw [e] at h; cases h
  | some j =>
    rw [e] at h
    have hj : j = i := by
     obtain ⟨h1, h2⟩ := List.getElem?_eq_some_iff.mp e
     simpa using h2.symm
    subst hj
    cases h
    exact .int _
end
section
variable {X : Cx} {tg e e2 : Expr} {t u : XE} {p pos : Pos}
theorem ji (ha : DE X e t) (hm : X.mg "range" = none) (hg : Gl X "range" := by rfl) (hs : starEach [e] X.env = [(false, eval e X.env)] := by rfl) (hs' : starEach [e] X.env = (false, eval e X.env) :: starEach [] X.env := by rfl) : DI X tg (.Call (.Name "range" p) [e] [] pos) (jH t) := by
 refine ⟨PI.imp (pi_range1 hg hm (qb ha qp hs').run hs) fun σ H R q => ?_, fun env k k' h q => ha.mono _ _ _ (fun r e q => qZ (fun d q => ?_) q) q⟩
 ·obtain ⟨env, f, A, q⟩ := q
  refine ⟨env, f, A, ha.mono _ _ _ (fun r1 e1 q => ?_) q⟩
  intro vs H1 f1 gs A1 R1 S1 K1
  cases R1 with
  | cons R1 Rt _ =>
    cases Rt
    obtain ⟨d, g', rp, q⟩ := xf A1 R1 q
    cases d with
    | int j =>
      obtain ⟨rfl, _⟩ := rp.intV
      refine ⟨j, rfl, q.1, q.2.1, q.2.2 _ H1 f1 [] e1 A1 (S1.drop fun _ z => by simp at z) K1 .none ?_ (fun b hb => by simp at hb) (fun _ b hb => by simp at hb)⟩
      have := qd4 (K := X.K) (H0 := H1) (n := j.toNat) (lo := 0)
      simpa using this
    | _ => exact q.elim
 ·cases d with
  | int j => exact ⟨q.1, q.2.1, h _ _ _ _ q.2.2⟩
  | _ => exact q.elim
end
section
variable {X : Cx} {tg e : Expr} {t : XE}
def qku (K : PySem.W.Frag) (tl : TE) : TI := fun σ H R => tl σ H fun x H1 => ∃ a xs, x = .ref a ∧ ((SqL K H1 a xs ∧ R (Itl K a) H1) ∨ (SqT K H1 a xs ∧ R (Itt K a) H1))
theorem qgj {l : Expr} {tl : TE} (hl : PE X l tl) : PI X tg l (qku X.K tl) := by
 constructor
 intro pins s σ H R I h
 refine thn (hl.run pins s σ H _ I h) ?_
 rintro v s1 ⟨x, H1, I1, r1, a, xs, rfl, q⟩
 obtain rfl : v = Value.ref a := r1
 have fresh : ∀ b ∈ [s1.heap.objs.size], FpOk X pins H1 b := fun b hb => by
  rw [List.mem_singleton.mp hb]
  exact I1.fpOk (Nat.le_refl _) (I1.hok.fresh (Nat.le_refl _))
 have push : ∀ ob : Obj, Inv X pins σ H1 { s1 with heap := s1.heap.push ob } := fun ob => I1.kept (t' := s1.toks) fun b o z => Heap.get?_push_of_some _ z
 rcases q with ⟨hq, q⟩ | ⟨hq, q⟩
 ·obtain ⟨its, _, pl, _⟩ := I1.list hq
  exact wpAny_pyIter_list pl.isList ⟨_, [s1.heap.objs.size], _, _, H1, rfl, push _, turn_list a _, ⟨_, Heap.get?_push_size _ rfl, rfl, rfl⟩, fresh, q⟩
 ·obtain ⟨its, _, pl, _⟩ := I1.tuple hq
  exact wpAny_pyIter_tuple (show s1.heap.IsTuple a its.toArray from pl) ⟨_, [s1.heap.objs.size], _, _, H1, rfl, push _, turn_tuple a _, ⟨_, Heap.get?_push_size _ rfl, rfl, rfl⟩, fresh, q⟩
section
variable {K : PySem.W.Frag} {σ : L2.St} {H H1 : Hp} {env e1 e2 : En} {f f1 : FA} {g : List Addr} {r : R} {x : V} {ds : List D}
theorem Xr {RR : It → Hp → Prop} {J : It} {d : D} (A : Abs K σ H1 e1 f1) (S : Stp H env f [] H1 e1 f1 g) (Kk : Kp env f e1 f1) (h : ResOk K σ H1 e1 f1 r x g) (im : Bool) (q : yj r e1 (fun kd lk e2 => qjm K σ H env f RR ds kd lk e2) im)
 (wk : ∀ (lv : Nat) (gg : List Addr), Rep K H1 lv d x gg → (im = true → lv ≤ 1 → Wk K J ds none H1 gg) ∧ ∀ c, lv = clv c → Wk K J ds (some c) H1 gg)
 (dd : r.data 2 e1 = some d) : RR J H1 := by
 have S0 : Stp H env f [] H1 e1 f1 [] := S.drop fun _ z => by simp at z
 cases h with
 | @tmp d' _ _ rp n =>
   cases dd
   obtain ⟨hi, q⟩ := q
   exact q J H1 f1 g e1 A S0 Kk .none ((wk 0 g rp).1 hi (Nat.zero_le _)) (fun b hb => ⟨(rp.dom b hb).imp fun o z => z.1, fun w => (n b hb).1 w.l0⟩) (fun z => nomatch z)
 | @ro c d' _ g0 rp n =>
   have dd' : d' = d := by
    unfold BX.R.data at dd
    cases e : roOk c 2 with
    | false => simp only [e] at dd; cases dd
    | true => simp only [e] at dd; exact Option.some.inj dd
   subst dd'
   exact q J H1 f1 g0 e1 A S0 Kk .none ((wk _ g0 rp).2 c rfl) (fun b hb => ⟨(rp.dom b hb).imp fun o z => z.1, fun w => A.apart w.l0 (n b hb)⟩) (fun _ b hb z => A.apart z (n b hb))
 | @sl i _ d' m h1 h2 h3 =>
   obtain ⟨w, h4, rp⟩ := A.rep _ _ _ h2
   rw [h1] at h4; cases h4
   have dd' : d' = d := by
    unfold BX.R.data at dd
    simp only [h2] at dd
    cases e : m.okL 2 with
    | false => simp only [e] at dd; cases dd
    | true => simp only [e] at dd; exact Option.some.inj dd
   subst dd'
   unfold yj at q
   simp only [h2] at q
   obtain ⟨hi, q⟩ := q
   have L : Lk e1 (some (i, m)) (e1.set i (some (d', .lk))) := .some h2 h3
   refine q J H1 f1 (f1 i) e1 A S0 Kk L ((wk _ (f1 i) rp).1 hi (by rw [h3]; exact Nat.zero_le _)) (fun b hb => ⟨(rp.dom b hb).imp fun o z => z.1, fun w => ?_⟩) (fun z => nomatch z)
   obtain ⟨j, d1, m1, e3, hr, hb'⟩ := w
   have hi1 : i < e1.length := (List.getElem?_eq_some_iff.mp h2).1
   by_cases hj : j = i
   ·subst hj
    rw [xW hi1] at e3; cases e3; cases hr
   ·rw [yq hj] at e3
    exact A.dis i j _ _ _ _ (Ne.symm hj) h2 e3 h3 b hb hb'
theorem uM {P : List Addr} {lv : Nat} {d : D} {gg : List Addr} (r : Rep K H1 lv d x gg) (n : Near H1 P H) (h : ∀ b ∈ gg, b ∈ P) : Rep K H lv d x gg := r.keep fun b o e z => n b o e (z.imp_left (h b))
theorem Wn {P gg : List Addr} {lv : Nat} {d : D} (r : Rep K H lv d x gg) (h : ∀ b ∈ gg, b ∈ P) : (lv ≤ 1 → d.imm = true → Item K H P none d x) ∧ ∀ c, lv = clv c → Item K H P (some c) d x :=
 ⟨fun l im => (r.imm l im).2, fun c e => ⟨gg, by rw [← e]; exact r, h⟩⟩
theorem qce {lv : Nat} {a : Addr} {vs : List V} {gg P : List Addr} (hq : ∀ H, Near H1 P H → SqL K H a vs) (rr : Reps K H1 lv ds vs gg) (hg : ∀ b ∈ gg, b ∈ P) :
 (immL ds = true → lv ≤ 1 → Wk K (Itl K a) ds none H1 P) ∧ ∀ c, lv = clv c → Wk K (Itl K a) ds (some c) H1 P := by
 have it : ∀ (i : Nat) (H : Hp) (x : V) (H' : Hp) (d : D), Near H1 P H → ds[i]? = some d → (Itl K a).yld i H x H' → H' = H ∧ ∃ g, Rep K H lv d x g ∧ ∀ b ∈ g, b ∈ P := fun i H x H' d n e y => by
  obtain ⟨rfl, y⟩ := y
  obtain ⟨v, g, e1, r, hs⟩ := rr.get e
  have := y vs (hq _ n)
  rw [e1] at this; cases this
  exact ⟨rfl, g, uM r n fun b hb => hg b (hs b hb), fun b hb => hg b (hs b hb)⟩
 have go : ∀ (i : Nat) (H : Hp), Near H1 P H → i < ds.length → (Itl K a).go i H := fun i H n h => ⟨vs, vs[i]'(by rw [← rr.len]; exact h), hq H n, List.getElem?_eq_getElem _⟩
 have st : ∀ (i : Nat) (H : Hp), Near H1 P H → ds.length ≤ i → (Itl K a).stop i H := fun i H n h => ⟨vs, hq H n, by rw [← rr.len]; exact h⟩
 refine ⟨fun im l => ⟨go, st, fun i H x H' d n e y => ?_⟩, fun c hc => ⟨go, st, fun i H x H' d n e y => ?_⟩⟩
 ·obtain ⟨rfl, g, r, hs⟩ := it i H x H' d n e y
  exact ⟨fun b o h => h, (Wn r hs).1 l (QT im d (List.mem_of_getElem? e))⟩
 ·obtain ⟨rfl, g, r, hs⟩ := it i H x H' d n e y
  exact ⟨fun b o h => h, (Wn r hs).2 c hc⟩
theorem qfX {lv : Nat} {a : Addr} {vs : List V} {gg P : List Addr} (hq : ∀ H, Near H1 P H → SqT K H a vs) (rr : Reps K H1 lv ds vs gg) (hg : ∀ b ∈ gg, b ∈ P) :
 (immL ds = true → lv ≤ 1 → Wk K (Itt K a) ds none H1 P) ∧ ∀ c, lv = clv c → Wk K (Itt K a) ds (some c) H1 P := by
 have it : ∀ (i : Nat) (H : Hp) (x : V) (H' : Hp) (d : D), Near H1 P H → ds[i]? = some d → (Itt K a).yld i H x H' → H' = H ∧ ∃ g, Rep K H lv d x g ∧ ∀ b ∈ g, b ∈ P := fun i H x H' d n e y => by
  obtain ⟨rfl, y⟩ := y
  obtain ⟨v, g, e1, r, hs⟩ := rr.get e
  have := y vs (hq _ n)
  rw [e1] at this; cases this
  exact ⟨rfl, g, uM r n fun b hb => hg b (hs b hb), fun b hb => hg b (hs b hb)⟩
 have go : ∀ (i : Nat) (H : Hp), Near H1 P H → i < ds.length → (Itt K a).go i H := fun i H n h => ⟨vs, vs[i]'(by rw [← rr.len]; exact h), hq H n, List.getElem?_eq_getElem _⟩
 have st : ∀ (i : Nat) (H : Hp), Near H1 P H → ds.length ≤ i → (Itt K a).stop i H := fun i H n h => ⟨vs, hq H n, by rw [← rr.len]; exact h⟩
 refine ⟨fun im l => ⟨go, st, fun i H x H' d n e y => ?_⟩, fun c hc => ⟨go, st, fun i H x H' d n e y => ?_⟩⟩
 ·obtain ⟨rfl, g, r, hs⟩ := it i H x H' d n e y
  exact ⟨fun b o h => h, (Wn r hs).1 l (QT im d (List.mem_of_getElem? e))⟩
 ·obtain ⟨rfl, g, r, hs⟩ := it i H x H' d n e y
  exact ⟨fun b o h => h, (Wn r hs).2 c hc⟩
theorem jG {lv : Nat} {gg : List Addr} (r : Rep K H1 lv (.lst ds) x gg) : ∃ a vs g, x = .ref a ∧ SqL K H1 a vs ∧ (∀ H, Near H1 gg H → SqL K H a vs) ∧ Reps K H1 lv ds vs g ∧ ∀ b ∈ g, b ∈ gg := by
 obtain ⟨a, vs, g, rfl, h, rr, hs, z⟩ := r.listSq
 refine ⟨a, vs, g, rfl, h, fun H n => ?_, rr, hs⟩
 rcases z with ⟨z, zm⟩ | z
 ·exact .of (n a _ z (.inl zm))
 ·exact (z.keep fun o e m => n a o e (.inr m)).sq
theorem VG {lv : Nat} {gg : List Addr} (r : Rep K H1 lv (.lF ds) x gg) : ∃ a vs, x = .ref a ∧ SqL K H1 a vs ∧ (∀ H, Near H1 gg H → SqL K H a vs) ∧ Reps K H1 lv ds vs gg := by
 obtain ⟨a, vs, rfl, h, rr, z⟩ := r.lFSq
 exact ⟨a, vs, rfl, h, fun H n => (z.keep fun o e m => n a o e (.inr m)).sq, rr⟩
theorem Zd {lv : Nat} {gg : List Addr} (r : Rep K H1 lv (.tup ds) x gg) : ∃ a vs, x = .ref a ∧ SqT K H1 a vs ∧ (∀ H, Near H1 gg H → SqT K H a vs) ∧ Reps K H1 lv ds vs gg := by
 cases r with
 | tup h r => exact ⟨_, _, rfl, .of h, fun H n => .of (n _ _ h (.inr rfl)), r⟩
 | tupK l h r => exact ⟨_, _, rfl, h.sq, fun H n => h.sq, r⟩
theorem Wb {L : Nat} {k : D → Prop} (q : rd L r env k) : ∃ d, r.data L env = some d ∧ k d := by
 unfold rd at q
 cases e : r.data L env with
 | none => rw [e] at q; exact q.elim
 | some d => rw [e] at q; exact ⟨d, rfl, q⟩
end
theorem yO (ha : DE X e t) : DI X tg e (iSeq t) := by
 refine ⟨PI.imp (qgj ha.run) fun σ H R q => ?_, fun env k k' h q => ha.mono _ _ _ (fun r e q => qZ (fun d q => ?_) q) q⟩
 ·obtain ⟨env, f, A, q⟩ := q
  refine ⟨env, f, A, ha.mono _ _ _ (fun r1 e1 q => ?_) q⟩
  intro x H1 f1 g A1 R1 S1 K1
  obtain ⟨d, dd, q⟩ := Wb q
  have rp0 : ∃ gg, Rep X.K H1 2 d x gg := by
   obtain ⟨d', gg, rp, hd⟩ := xf (L := 2) (k := fun d' => d' = d) A1 R1 (by unfold rd; rw [dd])
   subst hd
   exact ⟨gg, rp⟩
  obtain ⟨gg0, rp0⟩ := rp0
  cases d with
  | lst ds =>
    obtain ⟨a, vs, g1, rfl, hq, hn, rr, hs⟩ := jG rp0
    refine ⟨a, vs, rfl, .inl ⟨hq, Xr A1 S1 K1 R1 (immL ds) q (fun lv gg z => ?_) dd⟩⟩
    obtain ⟨a', vs', g2, e1, hq', hn', rr', hs'⟩ := jG z
    cases e1
    exact qce hn' rr' hs'
  | lF ds =>
    obtain ⟨a, vs, rfl, hq, hn, rr⟩ := VG rp0
    refine ⟨a, vs, rfl, .inl ⟨hq, Xr A1 S1 K1 R1 (immL ds) q (fun lv gg z => ?_) dd⟩⟩
    obtain ⟨a', vs', e1, hq', hn', rr'⟩ := VG z
    cases e1
    exact qce hn' rr' fun b hb => hb
  | tup ds =>
    obtain ⟨a, vs, rfl, hq, hn, rr⟩ := Zd rp0
    refine ⟨a, vs, rfl, .inr ⟨hq, Xr A1 S1 K1 R1 (immL ds) q (fun lv gg z => ?_) dd⟩⟩
    obtain ⟨a', vs', e1, hq', hn', rr'⟩ := Zd z
    cases e1
    exact qfX hn' rr' fun b hb => hb
  | _ => exact q.elim
 ·cases d with
  | lst ds => exact uN (fun kd lk e q => h _ _ _ _ q) q
  | lF ds => exact uN (fun kd lk e q => h _ _ _ _ q) q
  | tup ds => exact uN (fun kd lk e q => h _ _ _ _ q) q
  | _ => exact q.elim
end
end BX
namespace BX
open PySem PySem.Spec PyProof.Rows L2
def wM : List Nat → En → En
 | [], env => env
 | v :: vs, env => (wM vs env).set v none
def uz : List Nat → En → En → En
 | [], _, env => env
 | v :: vs, e1, env => (uz vs e1 env).set v (e1.getD v none)
def lcL (g : XG) (tt : XT) (te : XE) (kd : Option Bool) (vs : List Nat) : List D → En → List D → (List D → En → Prop) → Prop
 | [], env, acc, k => k acc env
 | d :: ds, env, acc, k => g (mkI kd d) env fun e1 => tt e1 fun b e2 => (b = true → te e2 fun r e3 => stor r e3 fun dd => acc.length < sizeLine ∧ lcL g tt te kd vs ds (wM vs e3) (acc ++ [dd]) k) ∧ (b = false → lcL g tt te kd vs ds (wM vs e2) acc k)
def dLc (it : XI) (g : XG) (tt : XT) (te : XE) (vs : List Nat) : XE := fun env Q => it env fun ds kd lk e1 => (vs.all fun v => setOk e1 v) = true ∧ lcL g tt te kd vs ds (wM vs e1) [] fun acc e2 => thaw lk (uz vs e1 e2) fun e3 => Q (.tmp (.lst acc)) e3
def xYes : XT := fun env Q => Q true env
theorem Xv {g : XG} {tt : XT} {te : XE} {kd : Option Bool} {vs : List Nat} (mg : qar g) (mt : qaq tt) (me : uE te) : ∀ (ds : List D) (env : En) (acc : List D) (k k' : List D → En → Prop), (∀ a e, k a e → k' a e) → lcL g tt te kd vs ds env acc k → lcL g tt te kd vs ds env acc k'
 | [], env, acc, k, k', h, q => h _ _ q
 | d :: ds, env, acc, k, k', h, q => mg _ _ _ _ (fun e1 q => mt _ _ _ (fun b e2 q => ⟨fun z => me _ _ _ (fun r e3 q => vq (fun dd q => ⟨q.1, Xv mg mt me ds _ _ _ _ h q.2⟩) q) (q.1 z), fun z => Xv mg mt me ds _ _ _ _ h (q.2 z)⟩) q) q
section
theorem uw (env : En) : ∀ vs : List Nat, (wM vs env).length = env.length
 | [] => rfl
 | v :: vs => by rw [wM, List.length_set, uw env vs]
theorem W3 {env : En} {j : Nat} : ∀ {vs : List Nat}, j ∈ vs → j < env.length → (wM vs env)[j]? = some none
 | v :: vs, h, hj => by
   rw [wM]
   by_cases e : j = v
   ·subst e
    rw [List.getElem?_set_self (by rw [uw]; exact hj)]
   ·rw [List.getElem?_set_ne (Ne.symm e)]
    exact W3 ((List.mem_cons.mp h).resolve_left e) hj
theorem uv {env : En} {j : Nat} : ∀ {vs : List Nat}, j ∉ vs → (wM vs env)[j]? = env[j]?
 | [], _ => rfl
 | v :: vs, h => by
   rw [wM, List.getElem?_set_ne (fun e => h (by rw [e]; exact List.mem_cons_self ..))]
   exact uv fun z => h (List.mem_cons_of_mem _ z)
theorem zF {env : En} {j : Nat} {vs : List Nat} {x : D × Md} (h : (wM vs env)[j]? = some (some x)) : j ∉ vs ∧ env[j]? = some (some x) := by
 by_cases hj : j ∈ vs
 ·have hl : j < env.length := by rw [← uw env vs]; exact (List.getElem?_eq_some_iff.mp h).1
  rw [W3 hj hl] at h; cases h
 ·exact ⟨hj, by rw [← uv hj]; exact h⟩
theorem UJ {σ : L2.St} {j : Nat} : ∀ {vs : List Nat}, j ∈ vs → j < σ.length → (wipe σ vs)[j]? = some none
 | v :: vs, h, hj => by
   rw [wipe]
   by_cases e : j = v
   ·subst e
    rw [List.getElem?_set_self (by rw [wipe_length]; exact hj)]
   ·rw [List.getElem?_set_ne (Ne.symm e)]
    exact UJ ((List.mem_cons.mp h).resolve_left e) hj
theorem Jh {σ σ2 : L2.St} {vs : List Nat} (hl : σ2.length = σ.length) (h : ∀ j, j ∉ vs → σ2[j]? = σ[j]?) : wipe σ2 vs = wipe σ vs := by
 apply List.ext_getElem?
 intro j
 by_cases hj : j ∈ vs
 ·by_cases hlt : j < σ.length
  ·rw [UJ hj hlt, UJ hj (by omega)]
  ·rw [List.getElem?_eq_none (by rw [wipe_length]; omega), List.getElem?_eq_none (by rw [wipe_length]; omega)]
 ·rw [wipe_out hj, wipe_out hj, h j hj]
theorem vC (e1 env : En) : ∀ vs : List Nat, (uz vs e1 env).length = env.length
 | [] => rfl
 | v :: vs => by rw [uz, List.length_set, vC e1 env vs]
theorem Za {e1 env : En} {j : Nat} (hl : env.length = e1.length) : ∀ {vs : List Nat}, j ∈ vs → j < e1.length → (uz vs e1 env)[j]? = e1[j]?
 | v :: vs, h, hj => by
   rw [uz]
   by_cases e : j = v
   ·subst e
    rw [List.getElem?_set_self (by rw [vC]; omega), List.getD_eq_getElem?_getD, List.getElem?_eq_getElem hj]
    rfl
   ·rw [List.getElem?_set_ne (Ne.symm e)]
    exact Za hl ((List.mem_cons.mp h).resolve_left e) hj
theorem QG {e1 env : En} {j : Nat} : ∀ {vs : List Nat}, j ∉ vs → (uz vs e1 env)[j]? = env[j]?
 | [], _ => rfl
 | v :: vs, h => by
   rw [uz, List.getElem?_set_ne (fun e => h (by rw [e]; exact List.mem_cons_self ..))]
   exact QG fun z => h (List.mem_cons_of_mem _ z)
end
section
variable {K : PySem.W.Frag} {σ σ' : L2.St} {H H1 H' : Hp} {env env' e1 e2 : En} {f f1 f2 : FA} {vs : List Nat} {G : List Addr}
theorem qav (A : Abs K σ H env f) : Abs K (wipe σ vs) H (wM vs env) f := by
 refine ⟨fun i d m h => ?_, fun i j d m d' m' hij h1 h2 hl => A.dis i j d m d' m' hij (zF h1).2 (zF h2).2 hl, by rw [uw, wipe_length]; exact A.len⟩
 obtain ⟨hi, h'⟩ := zF h
 obtain ⟨v, h1, r⟩ := A.rep i d m h'
 exact ⟨v, by rw [wipe_out hi]; exact h1, r⟩
theorem Jg {b : Addr} (h : W (wM vs env) f b) : W env f b := let ⟨i, d, m, e, r, hb⟩ := h; ⟨i, d, m, (zF e).2, r, hb⟩
theorem UG {b : Addr} (h : L0 (wM vs env) f b) : L0 env f b := let ⟨i, d, m, e, r, hb⟩ := h; ⟨i, d, m, (zF e).2, r, hb⟩
theorem qcf {b : Addr} (h : Ro (wM vs env) f b) : Ro env f b := let ⟨i, d, m, e, r, hb⟩ := h; ⟨i, d, m, (zF e).2, r, hb⟩
theorem qgf {gs : List Addr} (A : Abs K σ H1 e1 f1) (ok : (vs.all fun v => setOk e1 v) = true) (A' : Abs K (wipe σ vs) H' e2 f2) (S : Stp H1 (wM vs e1) f1 [] H' e2 f2 gs) (Kk : Kp (wM vs e1) f1 e2 f2) (n : ∀ b ∈ gs, ¬ L0 e2 f2 b ∧ ¬ Ro e2 f2 b) :
 ∃ f3, Abs K σ H' (uz vs e1 e2) f3 ∧ Stp H1 e1 f1 [] H' (uz vs e1 e2) f3 gs ∧ Kp e1 f1 (uz vs e1 e2) f3 ∧ ∀ b ∈ gs, ¬ L0 (uz vs e1 e2) f3 b ∧ ¬ Ro (uz vs e1 e2) f3 b := by
 have hlen : e2.length = e1.length := by
  have := A'.len
  rw [wipe_length] at this
  have h2 := A.len
  omega
 have okm : ∀ v ∈ vs, setOk e1 v = true := List.all_eq_true.mp ok
 have inn : ∀ {j : Nat} {x : D × Md}, j ∈ vs → (uz vs e1 e2)[j]? = some (some x) → e1[j]? = some (some x) := fun {j x} hj h => by
  have := (List.getElem?_eq_some_iff.mp h).1
  rw [vC] at this
  rwa [Za hlen hj (by omega)] at h
 have out : ∀ {j : Nat} {x : D × Md}, j ∉ vs → (uz vs e1 e2)[j]? = some (some x) → e2[j]? = some (some x) := fun {j x} hj h => by rwa [QG hj] at h
 have frI : ∀ {j : Nat}, j ∈ vs → (if j ∈ vs then f1 j else f2 j) = f1 j := fun {j} h => if_pos h
 have frO : ∀ {j : Nat}, j ∉ vs → (if j ∈ vs then f1 j else f2 j) = f2 j := fun {j} h => if_neg h
 have hid : ∀ {j : Nat} {d : D} {m : Md}, j ∈ vs → e1[j]? = some (some (d, m)) → ∀ b ∈ f1 j, (∃ o, H1 b = some o ∧ Mu o = true) ∧ ((m.lv = 0) → ¬ L0 (wM vs e1) f1 b ∧ ¬ Ro (wM vs e1) f1 b) ∧ ¬ W (wM vs e1) f1 b := fun {j d m} hj h b hb => by
  obtain ⟨v, _, r⟩ := A.rep j d m h
  refine ⟨r.dom b hb, fun hl => ⟨?_, ?_⟩, ?_⟩
  ·rintro ⟨k, d2, m2, h2, h3, h4⟩
   obtain ⟨nk, h2'⟩ := zF h2
   exact A.dis j k _ _ _ _ (fun z => nk (z ▸ hj)) h h2' hl b hb h4
  ·rintro ⟨k, d2, m2, h2, h3, h4⟩
   obtain ⟨nk, h2'⟩ := zF h2
   exact A.dis j k _ _ _ _ (fun z => nk (z ▸ hj)) h h2' hl b hb h4
  ·rintro ⟨k, d2, m2, h2, h3, h4⟩
   obtain ⟨nk, h2'⟩ := zF h2
   exact A.dis k j _ _ _ _ (fun z => nk (z ▸ hj)) h2' h (Md.lv_of h3) b h4 hb
 have hid2 : ∀ {j : Nat} {d : D} {m : Md}, j ∈ vs → e1[j]? = some (some (d, m)) → ∀ b ∈ f1 j, ¬ (W e2 f2 b ∨ b ∈ gs) := fun {j d m} hj h b hb z => by
  obtain ⟨⟨o, ho, _⟩, _, h3⟩ := hid hj h b hb
  rcases S.own b z with z | z | z
  ·exact h3 z
  ·simp at z
  ·rw [ho] at z; cases z
 have l0out : ∀ b, L0 e2 f2 b → W e2 f2 b ∨ L0 (wM vs e1) f1 b := fun b h => Kk.l0 h
 refine ⟨fun j => if j ∈ vs then f1 j else f2 j, ⟨fun j d m h => ?_, fun j k d m d' m' hjk h1 h2 hl b hb z => ?_, by rw [vC, hlen]; exact A.len⟩, ⟨fun b o h z => ?_, fun b z => ?_⟩, ⟨?_, fun j d m h hr => ?_⟩, fun b hb => ⟨?_, ?_⟩⟩
 ·by_cases hj : j ∈ vs
  ·have h' := inn hj h
   obtain ⟨v, h3, r⟩ := A.rep j d m h'
   refine ⟨v, h3, ?_⟩
   simp only [frI hj]
   refine r.keep fun b o hb q => S.same b o hb ?_
   rcases q with q | q
   ·exact .inr ⟨(hid hj h' b q).2.2, by simp⟩
   ·exact .inl q
  ·obtain ⟨v, h3, r⟩ := A'.rep j d m (out hj h)
   refine ⟨v, by rw [wipe_out hj] at h3; exact h3, ?_⟩
   simp only [frO hj]
   exact r
 ·by_cases hj : j ∈ vs
  ·have h1' := inn hj h1
   simp only [frI hj] at hb
   by_cases hk : k ∈ vs
   ·simp only [frI hk] at z
    exact A.dis j k _ _ _ _ hjk h1' (inn hk h2) hl b hb z
   ·simp only [frO hk] at z
    have h2' := out hk h2
    obtain ⟨_, hh, _⟩ := hid hj h1' b hb
    by_cases hl2 : m'.lv = 0
    ·rcases l0out b ⟨k, d', m', h2', hl2, z⟩ with y | y
     ·exact hid2 hj h1' b hb (.inl y)
     ·exact (hh hl).1 y
    ·exact (hh hl).2 (Kk.ro' ⟨k, d', m', h2', hl2, z⟩)
  ·have h1' := out hj h1
   simp only [frO hj] at hb
   by_cases hk : k ∈ vs
   ·simp only [frI hk] at z
    have h2' := inn hk h2
    rcases l0out b ⟨j, d, m, h1', hl, hb⟩ with y | y
    ·exact hid2 hk h2' b z (.inl y)
    ·obtain ⟨i2, d2, m2, h5, h6, h7⟩ := y
     obtain ⟨nk, h5'⟩ := zF h5
     exact A.dis i2 k _ _ _ _ (fun w => nk (w ▸ hk)) h5' h2' h6 b h7 z
   ·simp only [frO hk] at z
    exact A'.dis j k _ _ _ _ hjk h1' (out hk h2) hl b hb z
 ·exact S.same b o h (z.imp_right fun z => ⟨fun w => z.1 (Jg w), by simp⟩)
 ·have inj : (W e2 f2 b ∨ b ∈ gs) → (W e1 f1 b ∨ b ∈ ([] : List Addr) ∨ H1 b = none) := fun z => (S.own b z).imp_left Jg
  rcases z with ⟨j, d, m, h, hr, hb⟩ | z
  ·by_cases hj : j ∈ vs
   ·simp only [frI hj] at hb
    exact .inl ⟨j, d, m, inn hj h, hr, hb⟩
   ·simp only [frO hj] at hb
    exact inj (.inl ⟨j, d, m, out hj h, hr, hb⟩)
  ·exact inj (.inr z)
 ·apply List.ext_getElem?
  intro j
  rw [List.getElem?_map, List.getElem?_map]
  by_cases hj : j ∈ vs
  ·by_cases hlt : j < e1.length
   ·rw [Za hlen hj hlt]
   ·rw [List.getElem?_eq_none (by rw [vC]; omega), List.getElem?_eq_none (by omega)]
  ·rw [QG hj]
   have := congrArg (fun l => l[j]?) Kk.modes
   simp only [List.getElem?_map] at this
   rw [this, uv hj]
 ·by_cases hj : j ∈ vs
  ·refine ⟨?_, frI hj⟩
   rw [Za hlen hj (List.getElem?_eq_some_iff.mp h).1]
   exact h
  ·obtain ⟨h1, h2⟩ := Kk.ros j d m (by rw [uv hj]; exact h) hr
   exact ⟨by rw [QG hj]; exact h1, (frO hj).trans h2⟩
 ·rintro ⟨j, d, m, h, hr, z⟩
  by_cases hj : j ∈ vs
  ·simp only [frI hj] at z
   exact hid2 hj (inn hj h) b z (.inr hb)
  ·simp only [frO hj] at z
   exact (n b hb).1 ⟨j, d, m, out hj h, hr, z⟩
 ·rintro ⟨j, d, m, h, hr, z⟩
  by_cases hj : j ∈ vs
  ·simp only [frI hj] at z
   exact hid2 hj (inn hj h) b z (.inr hb)
  ·simp only [frO hj] at z
   exact (n b hb).2 ⟨j, d, m, out hj h, hr, z⟩
end
section
variable {K : PySem.W.Frag} {σ σ' : L2.St} {H H1 H' : Hp} {env env' e1 e2 : En} {f f1 f2 : FA} {vs : List Nat} {G : List Addr} {lk : Lok}
theorem qea {k : En → Prop} (L : Lk env lk e1) (A : Abs K σ H' e2 f2) (S : Stp H1 e1 f1 [] H' e2 f2 G) (Kk : Kp e1 f1 e2 f2) (n : ∀ b ∈ G, ¬ L0 e2 f2 b ∧ ¬ Ro e2 f2 b) (q : thaw lk e2 k) :
 ∃ e3, k e3 ∧ Abs K σ H' e3 f2 ∧ Stp H1 env f1 [] H' e3 f2 G ∧ Kp env f1 e3 f2 ∧ ∀ b ∈ G, ¬ L0 e3 f2 b ∧ ¬ Ro e3 f2 b := by
 obtain ⟨e3, q3, A3, S3, _, _⟩ := Vf (σ := σ) L A S Kk.kq q
 cases L with
 | none => exact ⟨e2, q, A, S, Kk, n⟩
 | @some i d m e l =>
   have hi : i < env.length := (List.getElem?_eq_some_iff.mp e).1
   have he1 : (env.set i (some (d, Md.lk)))[i]? = some (some (d, Md.lk)) := xW hi
   obtain ⟨he2, hf⟩ := Kk.ros i d .lk he1 rfl
   have hi2 : i < e2.length := (List.getElem?_eq_some_iff.mp he2).1
   have q' := q
   simp only [thaw, he2] at q'
   have A4 : Abs K σ H' (e2.set i (some (d, m))) f2 := Q9 A he2 rfl l
   have S4 : Stp H1 env f1 [] H' (e2.set i (some (d, m))) f2 G := by
    have LL : Lk env (some (i, m)) (env.set i (some (d, .lk))) := .some e l
    refine ⟨fun b o h z => S.same b o h (z.imp_right fun z => ⟨fun w => z.1 (LL.w w), z.2⟩), fun b z => ?_⟩
    have inj : (W e2 f2 b ∨ b ∈ G) → (W env f1 b ∨ b ∈ ([] : List Addr) ∨ H1 b = none) := fun z => (S.own b z).imp_left fun w => LL.w w
    rcases z with ⟨j, d1, m1, q1, hr, hb⟩ | z
    ·by_cases hj : j = i
     ·subst hj
      rw [xW hi2] at q1; cases q1
      rw [hf] at hb
      exact .inl ⟨j, d, m, e, hr, hb⟩
     ·rw [yq hj] at q1
      exact inj (.inl ⟨j, d1, m1, q1, hr, hb⟩)
    ·exact inj (.inr z)
   have back : ∀ {j : Nat} {d1 : D} {m1 : Md}, (e2.set i (some (d, m)))[j]? = some (some (d1, m1)) → ∃ m2, e2[j]? = some (some (d1, m2)) ∧ m2.lv = m1.lv := fun {j d1 m1} q => by
    by_cases hj : j = i
    ·subst hj
     rw [xW hi2] at q; cases q
     exact ⟨.lk, he2, l.symm⟩
    ·rw [yq hj] at q
     exact ⟨m1, q, rfl⟩
   refine ⟨_, q', A4, S4, ⟨?_, fun j d1 m1 h hr => ?_⟩, fun b hb => ⟨?_, ?_⟩⟩
   ·apply List.ext_getElem?
    intro j
    rw [List.getElem?_map, List.getElem?_map]
    by_cases hj : j = i
    ·subst hj
     rw [xW hi2, e]
     try rfl
    ·rw [yq hj]
     have := congrArg (fun l => l[j]?) Kk.modes
     simp only [List.getElem?_map] at this
     rw [this, yq hj]
   ·by_cases hj : j = i
    ·subst hj
     rw [e] at h; cases h
     exact ⟨xW hi2, hf⟩
    ·obtain ⟨a, b⟩ := Kk.ros j d1 m1 (by rw [yq hj]; exact h) hr
     exact ⟨by rw [yq hj]; exact a, b⟩
   ·rintro ⟨j, d1, m1, h, hr, z⟩
    obtain ⟨m2, h2, h3⟩ := back h
    exact (n b hb).1 ⟨j, d1, m2, h2, h3.trans hr, z⟩
   ·rintro ⟨j, d1, m1, h, hr, z⟩
    obtain ⟨m2, h2, h3⟩ := back h
    exact (n b hb).2 ⟨j, d1, m2, h2, by rw [h3]; exact hr, z⟩
theorem Abs.upd_free {Da : Addr} {o : HO} {vs0 : List V} (A : Abs K σ H env f) (hD : H Da = some (.lst vs0)) (n : ¬ L0 env f Da ∧ ¬ Ro env f Da) : Abs K σ (L2.upd H Da o) env f := by
 refine ⟨fun i d m h => ?_, A.dis, A.len⟩
 obtain ⟨v, h1, r⟩ := A.rep i d m h
 refine ⟨v, h1, r.keep fun b ob hb q => ?_⟩
 have : b ≠ Da := fun z => by
  subst z
  rcases q with q | q
  ·by_cases hl : m.lv = 0
   ·exact n.1 ⟨i, d, m, h, hl, q⟩
   ·exact n.2 ⟨i, d, m, h, hl, q⟩
  ·rw [hD] at hb; cases hb; cases q
 rw [upd_ne this]
 exact hb
theorem qc9 {ti : XI} {g : XG} {tt : XT} {te : XE} {ts : List Nat} (hi : qhr ti) (mg : qar g) (mt : qaq tt) (me : uE te) (hts : ∀ t ∈ ts, t ∈ vs) {Q : VK} (q : vR K (dLc ti g tt te vs) σ H Q) :
 tLc (qiP K ti) (qgL K ts g) (liftT K tt) (vR K te) vs σ H Q := by
 obtain ⟨env, f, A, q⟩ := q
 refine ⟨env, f, A, hi _ _ _ (fun ds kd lk e1 q => ?_) q⟩
 intro J H1 f1 P env' A1 S1 K1 L Wa hP hPL Da hDa
 have A1' := L.abs A1
 obtain ⟨ok, q⟩ := q
 refine ⟨fun i m H' => m = ds.length - i ∧ i ≤ ds.length ∧ ∃ e f' acc va ga, Abs K (wipe σ vs) H' e f' ∧ Stp H1 (wM vs e1) f1 [] H' e f' (Da :: ga) ∧ Kp (wM vs e1) f1 e f' ∧ H' Da = some (.lst va) ∧ Reps K H' 0 acc va ga ∧ Da ∉ ga ∧
  (∀ b ∈ Da :: ga, ¬ L0 e f' b ∧ ¬ Ro e f' b) ∧ lcL g tt te kd vs (ds.drop i) e acc (fun acc e2 => thaw lk (uz vs e1 e2) fun e3 => qdW K σ H env f Q (.tmp (.lst acc)) e3),
  ⟨ds.length, by simp, Nat.zero_le _, wM vs e1, f1, [], [], [], (qav A1').ext (Ext.upd hDa).same, (Stp.refl.new (Ext.upd hDa) : Stp H1 (wM vs e1) f1 [] _ _ _ ([Da] ++ [])), .refl, upd_same, .nil, by simp, fun b hb => ?_, q⟩, fun i m H' w => ?_⟩
 ·have hb' : b = Da := by simpa using hb
  subst hb'
  refine ⟨fun z => ?_, fun z => ?_⟩
  ·obtain ⟨o, ho, _⟩ := A1'.ldom (UG z)
   rw [hDa] at ho; cases ho
  ·obtain ⟨o, ho, _⟩ := A1'.rdom (qcf z)
   rw [hDa] at ho; cases ho
 obtain ⟨rfl, hi', e, f', acc, va, ga, A', S', K', hD, rg, nD, fr, q⟩ := w
 have near : Near H1 P H' := fun b o h z => S'.same b o h (by
  rcases z with z | z
  ·exact .inr ⟨fun w => (hP b z).2 (Jg w), by simp⟩
  ·exact .inl z)
 have gdom : ∀ b ∈ Da :: ga, ∃ o, H' b = some o := fun b hb => by
  rcases List.mem_cons.mp hb with rfl | hb
  ·exact ⟨_, hD⟩
  ·obtain ⟨o, ho, _⟩ := rg.dom b hb
   exact ⟨o, ho⟩
 by_cases hlt : i < ds.length
 ·refine .inr ⟨Wa.go i H' near hlt, fun H2 => _, fun H2 n2 => ⟨ds.length - (i + 1), by omega, n2⟩, fun x H2 hy => ?_⟩
  obtain ⟨sm, itm⟩ := Wa.yld i H' x H2 ds[i] near (List.getElem?_eq_getElem hlt) hy
  rw [List.drop_eq_getElem_cons hlt] at q
  have nl : kd.isSome = true → ∀ b ∈ P, ¬ L0 e f' b := fun hk b hb z => by
   rcases K'.l0 z with z | z
   ·rcases S'.own b (.inl z) with z | z | z
    ·exact (hP b hb).2 (Jg z)
    ·simp at z
    ·obtain ⟨o, ho⟩ := (hP b hb).1
     rw [z] at ho; cases ho
   ·exact hPL hk b hb (UG z)
  have A2' := A'.ext sm
  refine ⟨e, f', mkI kd ds[i], [], A2', qaY itm nl, mg _ _ _ _ (fun e2 q2 => ?_) q⟩
  intro σ2 f2 A2 S2 K2 _ _ M2
  have hw : wipe σ2 vs = wipe σ vs := (Jh M2.1 fun j hj => (M2.2.2 j fun z => hj (hts j z)).1).trans (Jh (wipe_length σ vs) fun j hj => wipe_out hj)
  have T2 : Stp H' e f' [] H2 e2 f2 [] := (Stp.refl.ext sm).trans S2
  have fin : ∀ {Hx : Hp} {ex : En} {fx : FA} {gx : List Addr}, Abs K σ2 Hx ex fx → Stp H' e f' [] Hx ex fx gx → Kp e2 f2 ex fx → Hx Da = some (.lst va) ∧ Reps K Hx 0 acc va ga ∧ (∀ b ∈ Da :: ga, b ∉ gx) ∧ (∀ b ∈ Da :: ga, ¬ L0 (wM vs ex) fx b ∧ ¬ Ro (wM vs ex) fx b) ∧
   Kp (wM vs e1) f1 (wM vs ex) fx ∧ Stp H1 (wM vs e1) f1 [] Hx (wM vs ex) fx ((Da :: ga) ++ gx) ∧ Abs K (wipe σ vs) Hx (wM vs ex) fx := fun {Hx ex fx gx} Ax T Kx => by
   have far : ∀ b ∈ Da :: ga, ¬ (W ex fx b ∨ b ∈ gx) := fun b hb z => by
    rcases T.own b z with z | z | z
    ·exact (fr b hb).1 z.l0
    ·simp at z
    ·obtain ⟨o, ho⟩ := gdom b hb
     rw [z] at ho; cases ho
   have at2 : ∀ {j : Nat} {d : D} {m : Md}, j ∉ vs → ex[j]? = some (some (d, m)) → m.rd = true → e[j]? = some (some (d, m)) ∧ fx j = f' j := fun {j d m} hj h hr => by
    obtain ⟨d', h2⟩ := Kx.slot' h
    obtain ⟨h3, h4⟩ := Kx.ros j d' m h2 hr
    rw [h] at h3; cases h3
    obtain ⟨_, h5, h6⟩ := M2.2.2 j fun z => hj (hts j z)
    exact ⟨by rw [← h5]; exact h2, h4.trans h6⟩
   refine ⟨T.same Da _ hD (.inr ⟨fun z => (fr Da (List.mem_cons_self ..)).1 z.l0, by simp⟩), rg.keep fun b o hb z => T.same b o hb ?_, fun b hb z => far b hb (.inr z), fun b hb => ⟨?_, ?_⟩, ⟨?_, fun j d m h hr => ?_⟩, ⟨fun b o h z => ?_, fun b z => ?_⟩, by rw [← hw]; exact qav Ax⟩
   ·rcases z with z | z
    ·exact .inr ⟨fun w => (fr b (List.mem_cons_of_mem _ z)).1 w.l0, by simp⟩
    ·exact .inl z
   ·rintro ⟨j, d, m, h, hr, z⟩
    obtain ⟨hj, h'⟩ := zF h
    cases hm : m.rd with
    | false => exact far b hb (.inl ⟨j, d, m, h', hm, z⟩)
    | true =>
      obtain ⟨h2, h3⟩ := at2 hj h' hm
      rw [h3] at z
      exact (fr b hb).1 ⟨j, d, m, h2, hr, z⟩
   ·rintro ⟨j, d, m, h, hr, z⟩
    obtain ⟨hj, h'⟩ := zF h
    obtain ⟨h2, h3⟩ := at2 hj h' (Md.rd_of hr)
    rw [h3] at z
    exact (fr b hb).2 ⟨j, d, m, h2, hr, z⟩
   ·apply List.ext_getElem?
    intro j
    rw [List.getElem?_map, List.getElem?_map]
    have lx : ex.length = e1.length := by
     have a1 := Ax.len
     have a2 := A1'.len
     have a3 := M2.1
     rw [wipe_length] at a3
     omega
    by_cases hj : j ∈ vs
    ·by_cases hjl : j < e1.length
     ·rw [W3 hj hjl, W3 hj (by omega)]
     ·rw [List.getElem?_eq_none (by rw [uw]; omega), List.getElem?_eq_none (by rw [uw]; omega)]
    ·rw [uv hj]
     have m1 := congrArg (fun l => l[j]?) Kx.modes
     have m2 := congrArg (fun l => l[j]?) K'.modes
     simp only [List.getElem?_map] at m1 m2
     rw [m1, (M2.2.2 j fun z => hj (hts j z)).2.1, m2]
   ·obtain ⟨hj, h'⟩ := zF h
    obtain ⟨h1, h2⟩ := K'.ros j d m h hr
    obtain ⟨_, h5, h6⟩ := M2.2.2 j fun z => hj (hts j z)
    obtain ⟨h3, h4⟩ := Kx.ros j d m (by rw [h5]; exact h1) hr
    exact ⟨by rw [uv hj]; exact h3, h4.trans (h6.trans h2)⟩
   ·exact T.same b o (S'.same b o h z) (by
     rcases z with z | z
     ·exact .inl z
     ·refine .inr ⟨fun w => ?_, by simp⟩
      rcases S'.own b (.inl w) with y | y | y
      ·exact z.1 y
      ·simp at y
      ·rw [h] at y; cases y)
   ·have base : (W e f' b ∨ b ∈ ([] : List Addr) ∨ H' b = none) → (W (wM vs e1) f1 b ∨ b ∈ ([] : List Addr) ∨ H1 b = none) := fun y => by
     rcases y with y | y | y
     ·exact S'.own b (.inl y)
     ·simp at y
     ·by_cases hwb : W (wM vs e1) f1 b
      ·exact .inl hwb
      ·refine .inr (.inr ?_)
       cases ho : H1 b with
       | none => rfl
       | some o =>
         have := S'.same b o ho (.inr ⟨hwb, by simp⟩)
         rw [y] at this; cases this
    rcases z with z | z
    ·exact base (T.own b (.inl (Jg z)))
    ·rcases List.mem_append.mp z with z | z
     ·exact S'.own b (.inr z)
     ·exact base (T.own b (.inr z))
  refine ⟨hw, e2, f2, A2, mt _ _ _ (fun b e3 q3 => ?_) q2⟩
  intro H3 f3 A3 S3 K3
  cases b with
  | true =>
    rw [if_pos rfl]
    refine ⟨e3, f3, A3, me _ _ _ (fun r e4 q4 => ?_) (q3.1 rfl)⟩
    intro y H4 f4 g4 A4 R4 S4 K4
    obtain ⟨dd, rd1, ⟨hz, q4⟩, n4⟩ := Zr A4 R4 q4
    obtain ⟨c1, c2, c3, c4, c5, c6, c7⟩ := fin A4 ((T2.trans S3).trans S4) (K3.trans K4)
    refine ⟨va, c1, by rw [← c2.len]; exact hz, rfl, hlt, wM vs e4, f4, acc ++ [dd], va ++ [y], ga ++ g4, c7.upd_free c1 (c4 Da (List.mem_cons_self ..)), ?_, c5, upd_same, ?_, ?_, fun b hb => ?_, q4⟩
    ·refine ⟨fun b o h z => ?_, fun b z => c6.own b (z.imp_right fun y => by simpa using y)⟩
     have : b ≠ Da := fun w => by subst w; rw [hDa] at h; cases h
     rw [upd_ne this]
     exact c6.same b o h z
    ·have both : Reps K H4 0 (acc ++ [dd]) (va ++ [y]) (ga ++ g4) := c2.append (.one rd1) fun _ b hb z => c3 b (List.mem_cons_of_mem _ hb) z
     refine both.keep fun b o hb z => ?_
     have : b ≠ Da := fun w => by
      subst w
      rcases z with z | z
      ·rcases List.mem_append.mp z with z | z
       ·exact nD z
       ·exact c3 b (List.mem_cons_self ..) z
      ·rw [c1] at hb; cases hb; cases z
     rw [upd_ne this]
     exact hb
    ·exact fun z => (List.mem_append.mp z).elim nD (c3 Da (List.mem_cons_self ..))
    ·rcases List.mem_cons.mp hb with rfl | hb
     ·exact c4 b (List.mem_cons_self ..)
     ·rcases List.mem_append.mp hb with hb | hb
      ·exact c4 b (List.mem_cons_of_mem _ hb)
      ·exact ⟨fun z => (n4 b hb).1 (UG z), fun z => (n4 b hb).2 (qcf z)⟩
  | false =>
    rw [if_neg Bool.false_ne_true]
    obtain ⟨c1, c2, c3, c4, c5, c6, c7⟩ := fin A3 (T2.trans S3) K3
    exact ⟨rfl, hlt, wM vs e3, f3, acc, va, ga, c7, c6.drop fun b hb => List.mem_append_left _ hb, c5, c1, c2, nD, c4, q3.2 rfl⟩
 ·have hie : i = ds.length := by omega
  subst hie
  rw [List.drop_length] at q
  obtain ⟨f3, A3, S3, K3, n3⟩ := qgf A1' ok A' S' K' fr
  obtain ⟨e4, q4, A4, S4, K4, n4⟩ := qea L A3 S3 K3 n3 q
  exact .inl ⟨Wa.stop _ _ near (Nat.le_refl _), q4 (.ref Da) H' f3 (Da :: ga) A4 (.tmp (.lst hD rg fun _ => nD) n4) (S1.trans S4) (K1.trans K4)⟩
end
structure DTs (X : Cx) (ifs : List Expr) (t : XT) : Prop where
 run : PTs X ifs (liftT X.K t)
 mono : qaq t
theorem PTs.imp {X : Cx} {ifs : List Expr} {t u : TT} (h : PTs X ifs t) (k : ∀ σ H Q, u σ H Q → t σ H Q) : PTs X ifs u := ⟨fun pins s σ H Q I q => h.run pins s σ H Q I (k _ _ _ q)⟩
section
variable {X : Cx}
theorem xJ : DTs X [] xYes := ⟨PTs.imp pts_nil fun σ H Q ⟨env, f, A, q⟩ => q H f A .refl .refl, fun env Q Q' h q => h _ _ q⟩
theorem uR {c : Expr} {t : XT} (h : DT X c t) : DTs X [c] t := ⟨pts_one h.run, h.mono⟩
theorem qa4 {ti : XI} {g : XG} {tt : XT} {te : XE} {vs : List Nat} (hi : qhr ti) (mg : qar g) (mt : qaq tt) (me : uE te) : uE (dLc ti g tt te vs) := fun env Q Q' h q =>
 hi _ _ _ (fun ds kd lk e1 q => ⟨q.1, Xv mg mt me ds _ _ _ _ (fun a e q => Zq (fun e q => h _ _ q) q) q.2⟩) q
variable {elt tg iter : Expr} {ifs : List Expr} {scope : Scope} {own : List (Str × Nat)} {pos : Pos} {ti : XI} {g : XG} {tt : XT} {te : XE} {ts : List Nat}
theorem uh (hx : Ok X) (hN : X.N.Nodup) (hi : DI X tg iter ti) (ok : BlkOk X.N X.env.scope scope own)
 (hg : ∀ (s : Shared) (H : Hp) (C : Addr) (cl : List (Str × Addr)) (fp : List Addr), DG (X.blk s H scope (compEnvC scope cl C X.env) fp) tg ts g) (ht : ∀ (s : Shared) (H : Hp) (C : Addr) (cl : List (Str × Addr)) (fp : List Addr), DTs (X.blk s H scope (compEnvC scope cl C X.env) fp) ifs tt)
 (he : ∀ (s : Shared) (H : Hp) (C : Addr) (cl : List (Str × Addr)) (fp : List Addr), DE (X.blk s H scope (compEnvC scope cl C X.env) fp) elt te) (hts : ∀ t ∈ ts, t ∈ own.map (·.2)) (hs : ∀ x, foldedSetIterable iter X.env x = pure x := by intro _; rfl) :
 DE X (.ListComp elt [⟨tg, iter, ifs, 0⟩] scope pos) (dLc ti g tt te (own.map (·.2))) :=
 have mg := (hg X.s_0 X.H_0 0 [] []).mono
 have mt := (ht X.s_0 X.H_0 0 [] []).mono
 have me := (he X.s_0 X.H_0 0 [] []).mono
 ⟨PE.imp (pe_lc hx.calm hN hi.run ok (fun s H C cl fp => (hg s H C cl fp).run) (fun s H C cl fp => (ht s H C cl fp).run) (fun s H C cl fp => (he s H C cl fp).run) hs) fun σ H Q q => qc9 hi.mono mg mt me hts q, qa4 hi.mono mg mt me⟩
theorem XF {i : Nat} {y : Str} {py spos : Pos} (hx : Ok X) (hN : X.N.Nodup) (hsw : swapsWith (.ListComp elt [⟨tg, iter, ifs, 0⟩] scope pos) (some (.Name y py)) spos.line X.env = pure true) (hi : DI X tg iter ti) (ok : BlkOk X.N X.env.scope scope own)
 (hg : ∀ (s : Shared) (H : Hp) (C : Addr) (cl : List (Str × Addr)) (fp : List Addr), DG (X.blk s H scope (compEnvC scope cl C X.env) fp) tg ts g) (ht : ∀ (s : Shared) (H : Hp) (C : Addr) (cl : List (Str × Addr)) (fp : List Addr), DTs (X.blk s H scope (compEnvC scope cl C X.env) fp) ifs tt)
 (he : ∀ (s : Shared) (H : Hp) (C : Addr) (cl : List (Str × Addr)) (fp : List Addr), DE (X.blk s H scope (compEnvC scope cl C X.env) fp) elt te) (hts : ∀ t ∈ ts, t ∈ own.map (·.2)) (hy : X.N[i]? = some y := by rfl) (hyl : X.env.scope.names.lookup y = some .local := by rfl)
 (hs : ∀ x, foldedSetIterable iter X.env x = pure x := by intro _; rfl) : DS X (.Assign [.Name y py] (.ListComp elt [⟨tg, iter, ifs, 0⟩] scope pos) spos) (sAsg (dLc ti g tt te (own.map (·.2))) (gN i)) := by
 have mg := (hg X.s_0 X.H_0 0 [] []).mono
 have mt := (ht X.s_0 X.H_0 0 [] []).mono
 have me := (he X.s_0 X.H_0 0 [] []).mono
 have dg : DG X (.Name y py) [i] (gN i) := qL hN hy (.inl hyl) (.inr hyl)
 have md := qa4 (vs := own.map (·.2)) hi.mono mg mt me
 refine ⟨PS.imp (ps_setLc hx.calm hN hy hyl hsw hi.run ok (fun s H C cl fp => (hg s H C cl fp).run) (fun s H C cl fp => (ht s H C cl fp).run) (fun s H C cl fp => (he s H C cl fp).run) hs) fun Dn σ H q => qc9 hi.mono mg mt me hts ?_, ZF md dg.mono⟩
 have h := Jb (ts := [i]) md dg.mono q
 obtain ⟨env, f, A, h⟩ := h
 refine ⟨env, f, A, md _ _ _ (fun r e1 q => ?_) h⟩
 intro v H1 f1 g1 A1 R1 S1 K1
 obtain ⟨env2, f2, r2, g2, A2, R2, q2⟩ := q v H1 f1 g1 A1 R1 S1 K1
 obtain ⟨env', f', q, A', S', K', L', O', M'⟩ := qgU A2 R2 q2
 exact q _ f' A' S' K' L' O' M'
end
section
variable {P : Program} {w : World} {K : PySem.W.Frag} {mg : Str → Option Value} {base : Heap}
def fill (n : Nat) : En := List.replicate n none
def Yp : List Md → List D → En → Option (List D)
 | [], [], _ => some []
 | .io :: ms, _ :: ds, x :: e => match x with
   | some (d, .io) => (Yp ms ds e).map (d :: ·)
   | _ => none
 | _ :: ms, d :: ds, _ :: e => (Yp ms ds e).map (d :: ·)
 | _, _, _ => none
def Back (ms : List Md) (ds ds' : List D) (e : En) : Prop := ds'.length = ms.length ∧ ∀ p : Nat, (ms[p]? = some Md.io → ∃ d : D, ds'[p]? = some d ∧ e[p]? = some (some (d, Md.io))) ∧ (ms[p]? ≠ some Md.io → ds'[p]? = ds[p]?)
theorem Uo {m : Md} {ms : List Md} {d0 d1 : D} {ds ds' : List D} {x : Option (D × Md)} {e : En} (h : Back ms ds ds' e) (h1 : m = .io → x = some (d1, .io)) (h2 : m ≠ .io → d1 = d0) : Back (m :: ms) (d0 :: ds) (d1 :: ds') (x :: e) := by
 refine ⟨by rw [List.length_cons, List.length_cons, h.1], fun p => ?_⟩
 cases p with
 | zero => exact ⟨fun z => ⟨d1, rfl, by rw [List.getElem?_cons_zero, h1 (Option.some.inj z)]⟩, fun z => by rw [List.getElem?_cons_zero, List.getElem?_cons_zero, h2 fun y => z (by rw [List.getElem?_cons_zero, y])]⟩
 | succ p => simpa using h.2 p
theorem X8 : ∀ {ms : List Md} {ds : List D} {e : En} {ds' : List D}, ds.length = ms.length → Yp ms ds e = some ds' → Back ms ds ds' e
 | [], [], e, ds', _, h => by
   rw [Yp] at h; cases h
   exact ⟨rfl, fun p => ⟨fun z => by simp at z, fun _ => rfl⟩⟩
 | [], _ :: _, _, _, l, _ => by simp at l
 | _ :: _, [], _, _, l, _ => by simp at l
 | m :: ms, d :: ds, [], ds', _, h => by cases m <;> (rw [Yp] at h <;> first | (cases h; done) | (intros; contradiction))
 | m :: ms, d :: ds, x :: e, ds', l, h => by
   have l' : ds.length = ms.length := by simpa using l
   cases m with
   | io =>
     simp only [Yp] at h
     split at h
     ·cases h2 : Yp ms ds e with
      | none => rw [h2] at h; cases h
      | some r => rw [h2] at h; cases h; exact Uo (X8 l' h2) (fun _ => rfl) fun z => absurd rfl z
     ·cases h
   | _ =>
     simp only [Yp] at h
     cases h2 : Yp ms ds e with
     | none => rw [h2] at h; cases h
     | some r => rw [h2] at h; cases h; exact Uo (X8 l' h2) (fun z => nomatch z) fun _ => rfl
def outD (S : FS) (ds : List D) (Q : D → List D → Prop) (d : D) (e : En) : Prop := match Yp S.ms ds e with
 | some ds' => Q d ds'
 | none => False
def BodyOk (S : FS) (n : Nat) (t : XS) : Prop := ∀ ds Q, ds.length = S.ms.length → S.wp ds Q → t (penv S.ms ds ++ fill (n - S.ms.length)) (outD S ds Q .non) (outD S ds Q)
theorem Room.ok {X : Cx} {k : Nat} (hr : Room k X.A) (hc : X.calm = true := by rfl) : Ok X := ⟨hc, by have := hr.un; omega⟩
theorem qdP {qual : Str} {st : Stmt} {f : Addr} {N ps : List Str} {S : FS} {t : XS} {cdv : Value} {A : Around} {outer : List PySem.Env} {s : Shared} {H : Hp} {E E' : XK} {vs : List V} {Q : VK} (Sc : FnScope N ps (defScope st)) (hms : S.ms.length = ps.length) (okm : ∀ m ∈ S.ms, m ≠ .own ∧ m ≠ .lk)
 (Dr : DSs (cxOf CX0 P w K mg base N qual (defScope st) f cdv A outer s H E).nox (defBody st) t) (body : BodyOk S N.length t) (h : spOf K S vs H Q E') : qc5 K t { nx := fun _ H' => Q .non H', rt := Q } (L2.start N vs) H := by
 obtain ⟨hl, ds, fa, hd, Ab, hw⟩ := h
 have hNl : S.ms.length ≤ N.length := by
  have := congrArg List.length Sc.pre
  rw [List.length_take] at this
  omega
 have pl := Xj hd
 have A0 : Abs K (L2.start N vs) H (penv S.ms ds ++ fill (N.length - S.ms.length)) fa := by
  have inn : ∀ {i : Nat} {y : D × Md}, (penv S.ms ds ++ fill (N.length - S.ms.length))[i]? = some (some y) → (penv S.ms ds)[i]? = some (some y) := fun {i y} h => by
   by_cases hi : i < (penv S.ms ds).length
   ·rwa [List.getElem?_append_left hi] at h
   ·rw [List.getElem?_append_right (by omega)] at h
    unfold fill at h
    rw [List.getElem?_replicate] at h
    split at h <;> cases h
  refine ⟨fun i d m h => ?_, fun i j d m d' m' hij h1 h2 => Ab.dis i j d m d' m' hij (inn h1) (inn h2), by unfold L2.start fill; simp [pl, hl]⟩
  obtain ⟨v, h1, r⟩ := Ab.rep i d m (inn h)
  refine ⟨v, ?_, r⟩
  unfold L2.start
  rw [List.getElem?_append_left (List.getElem?_eq_some_iff.mp h1).1]
  exact h1
 have fin0 : ∀ (d : D) (e : En) (ds' : List D), Back S.ms ds ds' e → (∀ v H' f' g, ds'.length = S.ms.length → Abs K (vs.map some) H' (penv S.ms ds') f' → Rep K H' 0 d v g → (∀ b ∈ g, ¬ L0 (penv S.ms ds') f' b ∧ ¬ Ro (penv S.ms ds') f' b) → Stp H (penv S.ms ds) fa [] H' (penv S.ms ds') f' g → Kp (penv S.ms ds) fa (penv S.ms ds') f' → Q v H') →
  Uu K (L2.start N vs) H (penv S.ms ds ++ fill (N.length - S.ms.length)) fa Q d e := fun d e ds' ⟨hl', hp⟩ q => by
  intro v σ' H' f' g A' rv nv S' K'
  have app : ∀ {i : Nat} {y : D × Md}, (penv S.ms ds)[i]? = some (some y) → (penv S.ms ds ++ fill (N.length - S.ms.length))[i]? = some (some y) := fun {i y} h => by
   rw [List.getElem?_append_left (List.getElem?_eq_some_iff.mp h).1]; exact h
  have appW : ∀ b, W (penv S.ms ds ++ fill (N.length - S.ms.length)) fa b → W (penv S.ms ds) fa b := fun b ⟨i, d1, m1, h1, h2, h3⟩ => by
   by_cases hi : i < (penv S.ms ds).length
   ·rw [List.getElem?_append_left hi] at h1
    exact ⟨i, d1, m1, h1, h2, h3⟩
   ·rw [List.getElem?_append_right (by omega)] at h1
    unfold fill at h1
    rw [List.getElem?_replicate] at h1
    split at h1 <;> cases h1
  have W0 : ∀ b, (W e f' b ∨ b ∈ g) → (W (penv S.ms ds) fa b ∨ H b = none) := fun b z => by
   rcases S'.own b z with z | z | z
   ·exact .inl (appW b z)
   ·simp at z
   ·exact .inr z
  have same : ∀ b o, H b = some o → (Mu o = false ∨ ¬ W (penv S.ms ds) fa b) → H' b = some o := fun b o h z => S'.same b o h (z.imp_right fun z => ⟨fun w => z (appW b w), by simp⟩)
  have par : ∀ {p : Nat} {d1 : D} {m1 : Md}, (penv S.ms ds')[p]? = some (some (d1, m1)) → (m1 = .io ∧ S.ms[p]? = some .io ∧ e[p]? = some (some (d1, .io)) ∧ ∃ v, vs[p]? = some v ∧ σ'[p]? = some (some v)) ∨ (m1 ≠ .io ∧ m1.lv ≠ 0 ∧ (penv S.ms ds)[p]? = some (some (d1, m1))) := fun {p d1 m1} h => by
   obtain ⟨h1, h2⟩ := yc.mp h
   by_cases hm : m1 = .io
   ·subst hm
    left
    obtain ⟨d2, e1, e2⟩ := (hp p).1 h2
    rw [h1] at e1; cases e1
    have hpl : p < ds.length := by have := (List.getElem?_eq_some_iff.mp h2).1; omega
    have h0 : (penv S.ms ds)[p]? = some (some (ds[p], Md.io)) := yc.mpr ⟨List.getElem?_eq_getElem hpl, h2⟩
    obtain ⟨hσ, _⟩ := K'.io p _ (app h0)
    obtain ⟨v, hv, _⟩ := Ab.rep p _ _ h0
    refine ⟨rfl, h2, e2, v, ?_, ?_⟩
    ·rw [List.getElem?_map] at hv
     cases hvp : vs[p]? with
     | none => rw [hvp] at hv; cases hv
     | some v' => rw [hvp] at hv; cases hv; rfl
    ·rw [hσ]
     unfold L2.start
     rw [List.getElem?_append_left (List.getElem?_eq_some_iff.mp hv).1]
     exact hv
   ·right
    have hne : S.ms[p]? ≠ some .io := fun z => by rw [h2] at z; cases z; exact hm rfl
    rw [(hp p).2 hne] at h1
    obtain ⟨n1, n2⟩ := okm m1 (List.mem_of_getElem? h2)
    refine ⟨hm, ?_, yc.mpr ⟨h1, h2⟩⟩
    cases m1 <;> first | exact absurd rfl n1 | exact absurd rfl n2 | exact absurd rfl hm | (intro z; cases z)
  have ff : ∀ p, (if S.ms[p]? = some Md.io then f' p else fa p) = (if S.ms[p]? = some Md.io then f' p else fa p) := fun _ => rfl
  have ro0 : ∀ {p : Nat} {d1 : D} {m1 : Md}, (penv S.ms ds)[p]? = some (some (d1, m1)) → ∀ b ∈ fa p, ∃ o, H b = some o ∧ Mu o = true := fun {p d1 m1} h b hb => by
   obtain ⟨v, _, r⟩ := Ab.rep p d1 m1 h
   exact r.dom b hb
  have roW : ∀ {p : Nat} {d1 : D} {m1 : Md}, m1.lv ≠ 0 → (penv S.ms ds)[p]? = some (some (d1, m1)) → ∀ b ∈ fa p, ¬ W (penv S.ms ds) fa b := fun {p d1 m1} hm h b hb ⟨j, d2, m2, h1, h2, h3⟩ => by
   refine Ab.dis j p d2 m2 d1 m1 (fun z => ?_) h1 h (Md.lv_of h2) b h3 hb
   subst z
   rw [h1] at h; cases h
   exact hm (Md.lv_of h2)
  have ioI : ∀ {p : Nat}, S.ms[p]? = some Md.io → (if S.ms[p]? = some Md.io then f' p else fa p) = f' p := fun {p} h => if_pos h
  have ioN : ∀ {p : Nat}, S.ms[p]? ≠ some Md.io → (if S.ms[p]? = some Md.io then f' p else fa p) = fa p := fun {p} h => if_neg h
  have nio : ∀ {p : Nat} {d1 : D} {m1 : Md}, m1 ≠ .io → (penv S.ms ds)[p]? = some (some (d1, m1)) → S.ms[p]? ≠ some Md.io := fun {p d1 m1} hm h z => by
   have := (yc.mp h).2
   rw [z] at this; cases this
   exact hm rfl
  have free : ∀ {p : Nat} {d1 : D} {m1 : Md}, m1.lv ≠ 0 → (penv S.ms ds)[p]? = some (some (d1, m1)) → ∀ b, (W e f' b ∨ b ∈ g) → b ∉ fa p := fun {p d1 m1} hm h b z hb => by
   rcases W0 b z with y | y
   ·exact roW hm h b hb y
   ·obtain ⟨o, ho, _⟩ := ro0 h b hb
    rw [y] at ho; cases ho
  refine q v H' (fun p => if S.ms[p]? = some Md.io then f' p else fa p) g hl' ⟨fun p d1 m1 h => ?_, fun p j d1 m1 d2 m2 hpj h1 h2 hl0 b hb z => ?_, by rw [Xj hl', List.length_map]; omega⟩ rv (fun b hb => ⟨?_, ?_⟩) ⟨fun b o h z => same b o h (z.imp_right And.left), fun b z => ?_⟩ ⟨?_, fun j d1 m1 h hr => ?_⟩
  ·rcases par h with ⟨rfl, hm, he, v', hv, hσ⟩ | ⟨hm, hlv, h0⟩
   ·obtain ⟨v2, h3, r⟩ := A'.rep p d1 .io he
    rw [hσ] at h3; cases h3
    refine ⟨v', by rw [List.getElem?_map, hv]; rfl, ?_⟩
    simp only [ioI hm]
    exact r
   ·obtain ⟨v2, h3, r⟩ := Ab.rep p d1 m1 h0
    refine ⟨v2, h3, ?_⟩
    simp only [ioN (nio hm h0)]
    exact r.keep fun b o hb z => same b o hb (z.symm.imp_right fun z => roW hlv h0 b z)
  ·rcases par h1 with ⟨rfl, hm, he, _⟩ | ⟨hm, hlv, h0⟩
   ·simp only [ioI hm] at hb
    rcases par h2 with ⟨rfl, hm2, he2, _⟩ | ⟨hm2, hlv2, h02⟩
    ·simp only [ioI hm2] at z
     exact A'.dis p j _ _ _ _ hpj he he2 rfl b hb z
    ·simp only [ioN (nio hm2 h02)] at z
     exact free hlv2 h02 b (.inl ⟨p, d1, .io, he, rfl, hb⟩) z
   ·exact absurd hl0 hlv
  ·rintro ⟨p, d1, m1, h, hl0, z⟩
   rcases par h with ⟨rfl, hm, he, _⟩ | ⟨hm, hlv, h0⟩
   ·simp only [ioI hm] at z
    exact nv b hb p d1 .io he (.inl rfl) z
   ·exact absurd hl0 hlv
  ·rintro ⟨p, d1, m1, h, hl0, z⟩
   rcases par h with ⟨rfl, hm, he, _⟩ | ⟨hm, hlv, h0⟩
   ·exact hl0 rfl
   ·simp only [ioN (nio hm h0)] at z
    exact free hlv h0 b (.inr hb) z
  ·rcases z with ⟨p, d1, m1, h, hr, hb⟩ | z
   ·rcases par h with ⟨rfl, hm, he, _⟩ | ⟨hm, hlv, h0⟩
    ·simp only [ioI hm] at hb
     exact (W0 b (.inl ⟨p, d1, .io, he, rfl, hb⟩)).imp_right .inr
    ·exact absurd (Md.lv_of hr) hlv
   ·exact (W0 b (.inr z)).imp_right .inr
  ·apply List.ext_getElem?
   intro p
   rw [List.getElem?_map, List.getElem?_map]
   unfold penv
   rw [List.getElem?_zipWith, List.getElem?_zipWith]
   cases hm : S.ms[p]? with
   | none => cases ds[p]? <;> cases ds'[p]? <;> rfl
   | some m =>
     have hp1 : p < ds.length := by have := (List.getElem?_eq_some_iff.mp hm).1; omega
     have hp2 : p < ds'.length := by have := (List.getElem?_eq_some_iff.mp hm).1; omega
     rw [List.getElem?_eq_getElem hp1, List.getElem?_eq_getElem hp2]
     rfl
  ·obtain ⟨h1, h2⟩ := yc.mp h
   have hne : S.ms[j]? ≠ some .io := fun z => by rw [h2] at z; cases z; cases hr
   exact ⟨yc.mpr ⟨by rw [(hp j).2 hne]; exact h1, h2⟩, ioN hne⟩
 have fin : ∀ (d : D) (e : En), outD S ds (fun d ds' => ∀ v H' f' g, ds'.length = S.ms.length → Abs K (vs.map some) H' (penv S.ms ds') f' → Rep K H' 0 d v g → (∀ b ∈ g, ¬ L0 (penv S.ms ds') f' b ∧ ¬ Ro (penv S.ms ds') f' b) → Stp H (penv S.ms ds) fa [] H' (penv S.ms ds') f' g → Kp (penv S.ms ds) fa (penv S.ms ds') f' → Q v H') d e →
  Uu K (L2.start N vs) H (penv S.ms ds ++ fill (N.length - S.ms.length)) fa Q d e := fun d e qq => by
  unfold outD at qq
  split at qq
  ·rename_i ds' hbk
   exact fin0 d e ds' (X8 hd hbk) qq
  ·exact qq.elim
 refine ⟨_, fa, A0, Dr.mono _ _ _ _ _ (fun e q => ?_) (fun d e q => fin d e q) (body ds _ hd hw)⟩
 intro σ' H' f' A' S' K'
 exact fin .non e q .non σ' H' f' [] A' .non (fun b hb => by simp at hb) S' K'
theorem yo {x qual : Str} {st : Stmt} {f : Addr} {fd : FuncData} {N ps : List Str} {k : Nat} {S : FS} {t : XS} (F : Fun K x qual st f fd) (Sc : FnScope N ps (defScope st)) (hms : S.ms.length = ps.length) (okm : ∀ m ∈ S.ms, m ≠ .own ∧ m ≠ .lk)
 (der : ∀ (cdv : Value) (A : Around) (outer : List PySem.Env) (s : Shared) (H : Hp) (E : XK), Room k (A.deeper (envOfC qual (defScope st) s.heap.objs.size f cdv)) → DSs (cxOf CX0 P w K mg base N qual (defScope st) f cdv A outer s H E).nox (defBody st) t) (body : BodyOk S N.length t) :
 FnOk P w K mg base CX0 (k + 1) f fd ps (spOf K S) := by
 refine F.ok Sc (fun vs H Q E h => by rw [h.1, hms]) (fun cdv A outer s H vs Q E hr h => ?_)
 have Dr := der cdv A outer s H E hr
 exact ⟨_, Dr.run, qdP Sc hms okm Dr body h⟩
end
end BX
namespace BX
open PySem PySem.Spec PyProof.Rows L2
theorem Wm : ∀ x y : List Int, HT.lexLt x y = true → HT.lexLt y x = false
 | [], [], h => rfl
 | [], _ :: _, h => rfl
 | _ :: _, [], h => by cases h
 | a :: x, b :: y, h => by
   rw [HT.lexLt_cons] at h ⊢
   by_cases e : a = b
   ·subst e
    rw [if_pos rfl] at h ⊢
    exact Wm x y h
   ·rw [if_neg e] at h
    rw [if_neg (Ne.symm e)]
    have := of_decide_eq_true h
    exact decide_eq_false (by omega)
theorem Xu : ∀ x y z : List Int, HT.lexLt y x = false → HT.lexLt z y = false → HT.lexLt z x = false
 | [], _, [], _, _ => rfl
 | [], _, _ :: _, _, _ => rfl
 | _ :: _, [], _, h, _ => by cases h
 | _ :: _, _ :: _, [], _, h => by cases h
 | a :: x, b :: y, c :: z, h1, h2 => by
   rw [HT.lexLt_cons] at h1 h2 ⊢
   by_cases e1 : b = a
   ·subst e1
    rw [if_pos rfl] at h1
    by_cases e2 : c = b
    ·subst e2
     rw [if_pos rfl] at h2 ⊢
     exact Xu x y z h1 h2
    ·rw [if_neg e2] at h2 ⊢
     exact h2
   ·rw [if_neg e1] at h1
    have h1' := of_decide_eq_false h1
    by_cases e2 : c = b
    ·subst e2
     rw [if_neg e1]
     exact h1
    ·rw [if_neg e2] at h2
     have h2' := of_decide_eq_false h2
     rw [if_neg (by omega)]
     exact decide_eq_false (by omega)
theorem JN : ∀ x y : List Int, HT.lexLt x y = false → HT.lexLt y x = false → x = y
 | [], [], _, _ => rfl
 | [], _ :: _, h, _ => by cases h
 | _ :: _, [], _, h => by cases h
 | a :: x, b :: y, h1, h2 => by
   rw [HT.lexLt_cons] at h1 h2
   by_cases e : a = b
   ·subst e
    rw [if_pos rfl] at h1 h2
    rw [JN x y h1 h2]
   ·rw [if_neg e] at h1
    rw [if_neg (Ne.symm e)] at h2
    have h1' := of_decide_eq_false h1
    have h2' := of_decide_eq_false h2
    omega
def sortI (l : List (List Int)) : List (List Int) := l.mergeSort fun a b => !HT.lexLt b a
theorem sortI_perm (l : List (List Int)) : (sortI l).Perm l := List.mergeSort_perm _ _
theorem qcp (l : List (List Int)) : (sortI l).Pairwise fun a b => HT.lexLt b a = false := by
 have h := List.pairwise_mergeSort (le := fun a b : List Int => !HT.lexLt b a) (fun a b c h1 h2 => by
  simp only [Bool.not_eq_true'] at h1 h2 ⊢
  exact Xu a b c h1 h2) (fun a b => by
  cases e : HT.lexLt b a with
  | false => rfl
  | true => simp [Wm b a e]) l
 exact h.imp fun {a b} h => by simpa using h
theorem qby {l m : List (List Int)} (h : m.Pairwise fun a b => HT.lexLt b a = false) (p : m.Perm l) : m = sortI l :=
 List.Perm.eq_of_pairwise (le := fun a b => HT.lexLt b a = false) (fun a b _ _ h1 h2 => (JN a b h2 h1)) h (qcp l) (p.trans (sortI_perm l).symm)
section
variable {prog : Program} {w : World} {A : Around} {E : Value → Shared → Prop} {s : Shared}
theorem lexW {b : Bool} {Q : Bool → Shared → Prop} : ∀ {xs ys : List Value} {ns ms : List Int} (i : Nat), IntsAre xs ns → IntsAre ys ms → Q (HT.lexLt ns ms) s → PySem.W.KatLex prog w A b (decide (ns.length < ms.length)) Q (xs.zip ys) i s
 | _, _, _, _, i, .nil, .nil, h => PySem.W.kat_nil h
 | _, _, _, _, i, .nil, .cons q u hy, h => PySem.W.kat_nil (by simpa [HT.lexLt_nil_cons] using h)
 | _, _, _, _, i, .cons p t hx, .nil, h => PySem.W.kat_nil (by simpa [HT.lexLt_cons_nil] using h)
 | _, _, _, _, i, .cons (vs := xs) (ns := ns) p t hx, .cons (vs := ys) (ns := ms) q u hy, h => by
   rw [HT.lexLt_cons] at h
   rw [show (decide ((p :: ns).length < (q :: ms).length)) = decide (ns.length < ms.length) by simp]
   show PySem.W.KatLex prog w A b _ Q ((Value.int p t, Value.int q u) :: xs.zip ys) i s
   refine PySem.W.kat_cons (wpAny_eqBool_int ?_)
   by_cases e : p = q
   ·subst e
    rw [beq_self_eq_true]
    rw [if_pos rfl] at h
    exact PySem.W.kat_yes (lexW (i + 1) hx hy h)
   ·rw [show (p == q) = false from beq_eq_false_iff_ne.mpr e]
    rw [if_neg e] at h
    exact PySem.W.kat_no (TS.oneLt_ints _ h)
theorem qdt {h : Heap} : ∀ vs : List Value, (∀ v ∈ vs, ∃ ns, TS.TupInts h v ns ∧ ns ≠ []) → ∃ fs, PySem.W.KatTups h vs fs ∧ fs.length = vs.length ∧ ∀ f, f ∈ fs → ∃ n t, f = Value.int n t
 | [], _ => ⟨[], PySem.W.KatTups.nil, rfl, fun f hf => by simp at hf⟩
 | v :: vs, x => by
   obtain ⟨fs, k, hl, hi⟩ := qdt vs fun u hu => x u (List.mem_cons_of_mem _ hu)
   obtain ⟨ns, ⟨a, xs, rfl, ⟨o, ho, hc, n, hdt⟩, i⟩, hn⟩ := x v (List.mem_cons_self ..)
   obtain ⟨xs⟩ := xs
   replace i : IntsAre xs ns := i
   cases i with
   | nil => exact absurd rfl hn
   | cons m t i =>
     refine ⟨.int m t :: fs, PySem.W.KatTups.cons ho hc hdt rfl k, by simp [hl], fun f hf => ?_⟩
     rcases List.mem_cons.mp hf with rfl | hf
     ·exact ⟨m, t, rfl⟩
     ·exact hi f hf
theorem swoW (k : Value → List Int) : SrtO.Swo fun v u => HT.lexLt (k v) (k u) := ⟨fun x y h => Wm _ _ h, fun x y z h1 h2 => Xu _ _ _ h1 h2⟩
theorem qco {a : Addr} {vs : List Value} (h0 : 0 < vs.length) (hp : ∀ v ∈ vs, ∃ ns, TS.TupInts s.heap v ns ∧ ns ≠ []) (ha : ∀ o, s.heap.get? a = some o → o.cls ≠ .type "tuple") :
 SrtO.SortableO prog w A s a vs fun v u => HT.lexLt (TS.intsOf s.heap v) (TS.intsOf s.heap u) := by
 intro h' keep
 have kp : ∀ b o, s.heap.get? b = some o → o.cls = .type "tuple" → h'.get? b = some o := fun b o e c => keep b o (fun z => by subst z; exact ha o e c) e
 have hp' : ∀ v ∈ vs, ∃ ns, TS.TupInts h' v ns ∧ ns ≠ [] := fun v hm => let ⟨ns, t, r⟩ := hp v hm; ⟨ns, t.keeps kp, r⟩
 obtain ⟨fs, h1, h2, h3⟩ := qdt vs hp'
 refine ⟨tuples' true, fun Q E hq => ?_, fun p q hm hm' => ?_⟩
 ·refine PySem.W.kat_kind (T := .type "int") h1 (by omega) (fun f hm => ?_) (by rfl) ?_
  ·obtain ⟨x, t, rfl⟩ := h3 f hm
   exact PySem.W.Looks.now
  ·have e : (Value.type "int" != Value.type "tuple") = true := by decide +kernel
   rw [e]
   exact hq
 ·obtain ⟨ns, t1, _⟩ := hp _ hm
  obtain ⟨ms, t2, _⟩ := hp _ hm'
  show wpAny (model prog w) A (keyLt' (tuples' true) p.1 q.1) (fun r s' => s' = _ ∧ r = HT.lexLt (TS.intsOf s.heap p.1) (TS.intsOf s.heap q.1)) (fun _ _ => False) _
  rw [t1.ints, t2.ints]
  obtain ⟨a1, xs, e1, ⟨o1, g1, c1, n1, d1⟩, i1⟩ := t1.keeps kp
  obtain ⟨a2, ys, e2, ⟨o2, g2, c2, n2, d2⟩, i2⟩ := t2.keeps kp
  rw [e1, e2]
  refine PySem.W.kat_lt g1 d1 g2 d2 ?_
  have l1 : xs.size = ns.length := by rw [← i1.length, Array.length_toList]
  have l2 : ys.size = ms.length := by rw [← i2.length, Array.length_toList]
  rw [l1, l2]
  exact lexW 0 i1 i2 ⟨rfl, rfl⟩
theorem Zw {l : Addr} {vs : List Value} {Q : Value → Shared → Prop} (hz : vs.length ≤ sizeLine)
 (hc : ∀ (A : Around) (E : Value → Shared → Prop) (Q : List Value → Shared → Prop), A.handled = none → (∀ (h' : Heap) (tk : Nat), (∀ b o, s.heap.get? b = some o → h'.get? b = some o) → Q vs { s with heap := h', toks := tk }) → wpAny (model prog w) A (collect (.ref l)) Q E s)
 (hh : A.handled = none) (hp : ∀ v ∈ vs, ∃ ns, TS.TupInts s.heap v ns ∧ ns ≠ [])
 (h : ∀ (out : List Value) (h1 h2 : Heap) (tk n : Nat), out.Perm vs → (out.map (TS.intsOf s.heap)) = sortI (vs.map (TS.intsOf s.heap)) → (∀ b o, s.heap.get? b = some o → h1.get? b = some o) → (∀ b o, h1.get? b = some o → h2.get? b = some o) → h2.get? h1.objs.size = some (seqObj "list" out.toArray n) → Q (.ref h1.objs.size) { s with heap := h2, toks := tk }) :
 wpAny (model prog w) A (call (.builtin "sorted") [.ref l]) Q E s := by
 refine Calls.call_function_entry kind_sorted plain_sorted entry_sorted (args_sorted1 _) ?_
 unfold Builtin.«sorted»
 refine wpAny_bind (m := checkCount "sorted" 1 1 _) (wpAny_pure ?_)
 refine wpAny_bind (hc A.in1 _ _ hh fun h' tk kp => ?_)
 refine wpAny_bind (wpAny_newList ?_ hz)
 have hoL : (h'.push (seqObj "list" vs.toArray 0)).get? h'.objs.size = some (seqObj "list" vs.toArray 0) := Heap.get?_push_size _ rfl
 show wpAny _ _ _ _ _ { s with heap := h'.push (seqObj "list" vs.toArray 0), toks := tk }
 have kp2 : ∀ b o, s.heap.get? b = some o → (h'.push (seqObj "list" vs.toArray 0)).get? b = some o := fun b o e => Heap.get?_push_of_some _ (kp b o e)
 have hp2 : ∀ v ∈ vs, ∃ ns, TS.TupInts (h'.push (seqObj "list" vs.toArray 0)) v ns ∧ ns ≠ [] := fun v hm => let ⟨ns, t, r⟩ := hp v hm; ⟨ns, t.keeps fun b o e _ => kp2 b o e, r⟩
 have same : ∀ v ∈ vs, TS.intsOf (h'.push (seqObj "list" vs.toArray 0)) v = TS.intsOf s.heap v := fun v hm => by
  obtain ⟨ns, t, _⟩ := hp v hm
  rw [t.ints, (t.keeps fun b o e _ => kp2 b o e).ints]
 refine wpAny_bind (wpAny_holding (wpAny_call_entry slot_list_sort ⟨_, hoL, rfl⟩ entry_list_sort (SrtO.list_sort_ord (s := { s with heap := h'.push (seqObj "list" vs.toArray 0), toks := tk }) (swoW (TS.intsOf (h'.push (seqObj "list" vs.toArray 0)))) hoL hz (fun h2 => ?_) fun out hs hb => ⟨_, rfl, ?_⟩) (args_list_sort _)))
 ·refine qco (s := { s with heap := h'.push (seqObj "list" vs.toArray 0), toks := tk }) (by omega) hp2 fun o e => ?_
  have e' : some o = some (seqObj "list" vs.toArray 0) := e.symm.trans hoL
  cases e'
  intro c
  exact absurd (Value.type.inj c) (by decide)
 ·obtain ⟨n, hn⟩ := PyProof.Rows.sortedHeap_at (vs := vs) (out := out.toArray) hoL
  have pm : out.Perm vs := hb.perm
  have hm : out.map (TS.intsOf (h'.push (seqObj "list" vs.toArray 0))) = out.map (TS.intsOf s.heap) := List.map_congr_left fun v hv => same v (pm.mem_iff.mp hv)
  refine wpAny_pure ⟨_, rfl, h out h' _ tk n pm ?_ kp (fun b o e => ?_) hn⟩
  ·refine qby ?_ (pm.map _)
   rw [← hm, List.pairwise_map]
   exact hs
  ·have hbb : b < h'.objs.size := Heap.lt_size e
   rw [PyProof.Rows.sortedHeap_old (Nat.ne_of_lt hbb) (by rw [size_push']; exact Nat.lt_succ_of_lt hbb)]
   exact Heap.get?_push_of_some _ e
end
def Yl : List D → Option (List (List Int))
 | [] => some []
 | .tup xs :: ds => match intL xs, Yl ds with
   | some (n :: ns), some r => some ((n :: ns) :: r)
   | _, _ => none
 | _ :: _ => none
def keyI : List Key → Option (List Int)
 | [] => some []
 | .inl i :: ks => (keyI ks).map (i :: ·)
 | .inr _ :: _ => none
def qde : List (List Key × D) → Option (List (List Int))
 | [] => some []
 | p :: r => match keyI p.1, qde r with
   | some (n :: ns), some l => some ((n :: ns) :: l)
   | _, _ => none
def tupI (ns : List Int) : D := .tup (ns.map .int)
def jP (d : D) (k : D → Prop) : Prop := match d with
 | .lst xs => match Yl xs with
   | some l => k (.lst ((sortI l).map tupI))
   | none => False
 | .tup xs => match Yl xs with
   | some l => k (.lst ((sortI l).map tupI))
   | none => False
 | .dT kvs => match qde kvs with
   | some l => k (.lst ((sortI l).map tupI))
   | none => False
 | _ => False
section
variable {X : Cx} {pins : List (Addr × Obj)} {σ : L2.St} {H : Hp} {s : Shared}
theorem Jr {K : PySem.W.Frag} {H : Hp} : ∀ ns : List Int, Reps K H 0 (ns.map D.int) (ns.map V.int) []
 | [] => .nil
 | n :: ns => .cons (f := []) (g := []) (.int n) (Jr ns) (fun _ _ hb => by simp at hb)
def At (H : Hp) (x : V) (ns : List Int) : Prop := ∃ b, x = .ref b ∧ H b = some (.tup (ns.map V.int)) ∧ ns ≠ []
theorem Xx {lv : Nat} : ∀ {ds : List D} {xs : List V} {f : List Addr} {l : List (List Int)}, lv ≤ 1 → Reps X.K H lv ds xs f → Yl ds = some l → Paired (At H) xs l
 | _, _, _, _, _, .nil, e => by cases e; exact .nil
 | _, _, _, l, hl, .cons (d := d) (ds := ds) r t _, e => by
   cases d with
   | tup ys =>
     rw [Yl] at e
     split at e
     ·rename_i n ns r' e1 e2
      cases e
      obtain ⟨a, vs, rfl, ha, rr⟩ := r.tupleAt hl
      rw [rr.intL e1] at ha
      exact .cons ⟨a, rfl, ha, by simp⟩ (Xx hl t e2)
     ·cases e
   | _ => simp [Yl] at e
theorem qaW : ∀ {ks : List Key} {ns : List Int}, keyI ks = some ns → ks.map kV = ns.map V.int
 | [], _, e => by cases e; rfl
 | .inl i :: ks, ns, e => by
   rw [keyI] at e
   cases h : keyI ks with
   | none => rw [h] at e; cases e
   | some r => rw [h] at e; cases e; rw [List.map_cons, List.map_cons, qaW h]; rfl
 | .inr _ :: _, _, e => by cases e
theorem qdT : ∀ {xs : List V} {vs : List Value} {l : List (List Int)}, Inv X pins σ H s → Vals xs vs → Paired (At H) xs l → vs.map (TS.intsOf s.heap) = l ∧ xs = vs.map bkV ∧ ∀ v ∈ vs, (∃ a, v = Value.ref a) ∧ At H (bkV v) (TS.intsOf s.heap v) ∧ ∃ ns, TS.TupInts s.heap v ns ∧ ns ≠ []
 | _, _, _, I, .nil, .nil => ⟨rfl, rfl, fun v hv => by simp at hv⟩
 | _, _, _, I, .cons r t, .cons h p => by
   obtain ⟨h1, h2, h3⟩ := qdT I t p
   obtain ⟨b, rfl, hb, hn⟩ := h
   cases r
   have ti := tupI_raw I (.of hb : SqT X.K H b _)
   refine ⟨by rw [List.map_cons, h1, ti.ints], by rw [List.map_cons, ← h2]; rfl, fun v hv => ?_⟩
   rcases List.mem_cons.mp hv with rfl | hv
   ·exact ⟨⟨_, rfl⟩, ⟨b, rfl, by rw [ti.ints]; exact hb, by rw [ti.ints]; exact hn⟩, _, ti, hn⟩
   ·exact h3 v hv
theorem qaN {K : PySem.W.Frag} {h : Heap} : ∀ {out : List Value}, (∀ v ∈ out, At H (bkV v) (TS.intsOf h v)) → Reps K H 0 (out.map fun v => tupI (TS.intsOf h v)) (out.map bkV) []
 | [], _ => .nil
 | v :: out, hh => by
   obtain ⟨b, e, hb, _⟩ := hh v (List.mem_cons_self ..)
   refine .cons (f := []) (g := []) ?_ (qaN fun u hu => hh u (List.mem_cons_of_mem _ hu)) (fun _ _ hb => by simp at hb)
   rw [e]
   exact .tup hb (Jr _)
theorem sorted_run {a : Addr} {xs : List V} {vs : List Value} {l : List (List Int)} {Q : VK} (hx : Ok X) (I : Inv X pins σ H s) (rv : Vals xs vs) (p : Paired (At H) xs l) (hz : vs.length ≤ sizeLine)
 (hc : ∀ (A : Around) (E : Value → Shared → Prop) (Q : List Value → Shared → Prop), A.handled = none → (∀ (h' : Heap) (tk : Nat), (∀ b o, s.heap.get? b = some o → h'.get? b = some o) → Q vs { s with heap := h', toks := tk }) → wpAny (model X.prog X.w) A (collect (.ref a)) Q E s)
 (q : ∀ z H' g, Rep X.K H' 0 (.lst ((sortI l).map tupI)) z g → Ext H H' g → Q z H') : wpAny (model X.prog X.w) X.A (call (.builtin "sorted") [.ref a]) (EP X pins σ Q) X.xe s := by
 obtain ⟨e1, e2, e3⟩ := qdT I rv p
 refine Zw hz hc (I.ok.hd hx.calm) (fun v hv => (e3 v hv).2.2) fun out h1 h2 tk n pm hs k1 k2 hn => ?_
 have I1 : Inv X pins σ H { s with heap := h1, toks := tk } := I.kept k1
 have hf : H h1.objs.size = none := I1.hok.fresh (Nat.le_refl _)
 refine ⟨.ref h1.objs.size, upd H h1.objs.size (.lst (out.map bkV)), I1.laid (t' := tk) k2 (Nat.le_refl _) ?_, rfl, q _ _ _ (vf hf ?_) (Ext.upd hf)⟩
 ·exact ⟨by rw [List.length_map, pm.length_eq]; exact hz, out, n, bkV_vals fun u hu => (e3 u (pm.mem_iff.mp hu)).1, hn⟩
 ·rw [← e1, ← hs, List.map_map]
  exact qaN fun v hv => (e3 v (pm.mem_iff.mp hv)).2.1
theorem qeO {kvs : List (List Key × D)} : ∀ {hs : List (List Key × V)} {bs : List Addr} {l : List (List Int)}, IsKeys H hs bs → hs.map (·.1) = kvs.map (·.1) → qde kvs = some l → Paired (At H) (bs.map V.ref) l := by
 induction kvs with
 | nil =>
   intro hs bs l ik e1 e2
   cases hs with
   | nil => cases ik; cases e2; exact .nil
   | cons _ _ => simp at e1
 | cons kv kvs ih =>
   intro hs bs l ik e1 e2
   cases hs with
   | nil => simp at e1
   | cons h hs =>
     cases ik with
     | cons hb ik =>
       rw [List.map_cons, List.map_cons, List.cons.injEq] at e1
       rw [qde] at e2
       split at e2
       ·rename_i n ns r q1 q2
        cases e2
        rw [e1.1, qaW q1] at hb
        exact .cons ⟨_, rfl, hb, by simp⟩ (ih ik e1.2 q2)
       ·cases e2
theorem VJ : ∀ (d : D) (k k' : D → Prop), (∀ x, k x → k' x) → jP d k → jP d k' := fun d k k' h q => by
 unfold jP at q ⊢
 split at q
 ·split at q
  ·simp only [*] <;> exact h _ q
  ·exact q.elim
 ·split at q
  ·simp only [*] <;> exact h _ q
  ·exact q.elim
 ·split at q
  ·simp only [*] <;> exact h _ q
  ·exact q.elim
 ·exact q.elim
theorem qdJ (hx : Ok X) : CallD X (.builtin "sorted") 1 (op1 jP) := QZ (by decide) (fun pins s σ H x us Q d g I rs r q => by
 obtain ⟨u, rfl, rx⟩ := vals1 rs
 unfold jP at q
 split at q
 ·split at q
  ·rename_i xs l e
   obtain ⟨a, vs, g', rfl, ha, ra, _⟩ := r.listAt1 (Nat.le_refl _)
   cases rx
   obtain ⟨its, rv, pl, hz⟩ := I.list (.inl (.inl ha) : SqL X.K H a vs)
   obtain ⟨o, ho, hc, n, hd⟩ := pl.isList
   refine sorted_run hx I rv (Xx (X := X) (Nat.le_refl _) ra e) (by rw [← rv.length]; exact hz) (fun A E Q hh k => ?_) q
   exact wpAny_collect_seq a (.inl rfl) ho hc hd (fun h' kk => by simpa using k h' s.toks kk) (by rw [List.size_toArray, ← rv.length]; exact hz)
  ·exact q.elim
 ·split at q
  ·rename_i xs l e
   obtain ⟨a, vs, rfl, ha, ra⟩ := r.tupleAt (Nat.le_refl _)
   cases rx
   obtain ⟨its, rv, pl, hz⟩ := I.tuple (.of ha : SqT X.K H a vs)
   obtain ⟨o, ho, hc, n, hd⟩ := pl
   refine sorted_run hx I rv (Xx (X := X) (Nat.le_refl _) ra e) (by rw [← rv.length]; exact hz) (fun A E Q hh k => ?_) q
   exact wpAny_collect_seq a (.inr rfl) ho hc hd (fun h' kk => by simpa using k h' s.toks kk) (by rw [List.size_toArray, ← rv.length]; exact hz)
  ·exact q.elim
 ·split at q
  ·rename_i kvs l e
   cases r with
   | dTF l _ _ _ _ => exact absurd l (by omega)
   | @dT a hs kvs f ha he nd r nn =>
     cases rx
     obtain ⟨z, hss, ks, pr, o, es, ep, ho, hxx, hdt, hee, hn⟩ := (show ObjOk X.prog X.w H s.heap a (.dT hs) from I.hok a _ ha)
     have l1 : es.size = ks.length := size_of_entries hee
     have l2 : hs.length = ks.length := Paired.length pr
     refine sorted_run (xs := (ks.map fun x => x.2.1).map V.ref) (vs := (ks.map fun x => x.2.1).map Value.ref) hx I (vals_refs _) (qeO (isKeys_of pr) he e) (by rw [List.length_map, List.length_map]; omega) (fun A E Q hh k => ?_) q
     refine PySem.W.kdu_collect (A := A) (kdl_raw hss hxx hdt) hh ho (by omega) fun h' tk acc kp it => ?_
     have ea : acc.toList = (ks.map fun x => x.2.1).map Value.ref := by
      rw [List.map_map]
      apply List.ext_getElem?
      intro j
      have hl : acc.toList.length = ks.length := by rw [Array.length_toList, it.1]; exact l1
      cases hj : acc.toList[j]? with
      | none =>
        have h1 := List.getElem?_eq_none_iff.mp hj
        rw [List.getElem?_eq_none (by rw [List.length_map]; omega)]
      | some v =>
        obtain ⟨en, hen, hv⟩ := it.2 j v (by rw [← Array.getElem?_toList]; exact hj)
        have qe := entry_at hee j
        rw [hen] at qe
        rw [List.getElem?_map]
        cases hb : ks[j]? with
        | none => rw [hb] at qe; cases qe
        | some b =>
          rw [hb] at qe
          have e2 : en = entryOfKey (tupleKind (mixKind X.prog X.w)) b := Option.some.inj qe
          rw [hv, e2]
          rfl
     rw [ea]
     exact k h' tk kp
  ·exact q.elim
 ·exact q.elim) VJ
end
end BX
namespace BX
open PySem PySem.Spec PyProof.Rows L2
def D.ty : D → String
 | .non => "NoneType"
 | .bl _ => "bool"
 | .int _ => "int"
 | .str _ => "str"
 | .tup _ => "tuple"
 | .lst _ => "list"
 | .dT _ => "dict"
 | .dK _ => "dict"
 | .dF _ => "dict"
 | .lF _ => "list"
 | .ob _ _ => "list"
 | .ex _ _ => "list"
 | .dN _ => "list"
 | .op _ => "list"
def isiB (T : String) (d : D) : Bool := d.ty == T || (d.ty == "bool" && T == "int")
def TyOk (T : String) : Prop := ∀ t ∈ ["NoneType", "bool", "int", "str", "tuple", "list", "dict"], kitB t T = some (t == T || (t == "bool" && T == "int"))
theorem D.ty_mem (d : D) : d.ty ∈ ["NoneType", "bool", "int", "str", "tuple", "list", "dict"] := by cases d <;> simp [D.ty]
theorem qhT : TyOk "int" := by unfold TyOk; decide +kernel
theorem Ve : TyOk "bool" := by unfold TyOk; decide +kernel
theorem qfd : TyOk "str" := by unfold TyOk; decide +kernel
theorem W6 : TyOk "tuple" := by unfold TyOk; decide +kernel
theorem Y9 : TyOk "list" := by unfold TyOk; decide +kernel
def TyY (K : PySem.W.Frag) (H : Hp) (x : V) (t : Value) : Prop := TyX K H x t ∨ ∃ (a : Addr) (o : Obj) (kvs : List (List Key × V)), x = .ref a ∧ t = .type "dict" ∧ H a = some (.frz o (.dT kvs))
section
variable {X : Cx}
theorem TyY.kit {pins : List (Addr × Obj)} {σ : L2.St} {H : Hp} {s : Shared} {x : V} {u t : Value} (ty : TyY X.K H x t) (I : Inv X pins σ H s) (rx : RelV x u) : ∃ P : Heap → Prop, PySem.W.KitX X.K u t P ∧ P s.heap ∧ u ≠ .builtin "__main__.__loader__#opaque" := by
 rcases ty with ty | ⟨a, o, kvs, rfl, rfl, ha⟩
 ·exact kit_of I rx ty
 ·obtain rfl : u = .ref a := rx
  obtain ⟨_, _, _, _, o, _, _, g, z, _⟩ := dt_rd I.hok (.inr ⟨o, ha⟩)
  exact ⟨_, PySem.W.kitx_dict, ⟨o, g, z.1⟩, fun z => nomatch z⟩
def rIsY (K : PySem.W.Frag) : List V → Hp → VK → Prop := fun xs H Q => ∃ (x c : V) (t u : Value) (b : Bool), ClsV c u ∧ PySem.W.kitOne K t u = some b ∧ xs = [x, c] ∧ TyY K H x t ∧ Q (.bl b) H
def qkh (K : PySem.W.Frag) : List V → Hp → VK → Prop := fun xs H Q => ∃ (x : V) (tp : Addr) (cs : List V) (t : Value) (us : List Value) (b : Bool), Paired ClsV cs us ∧ PySem.W.kitAny K t us = some b ∧ H tp = some (.tup cs) ∧ xs = [x, .ref tp] ∧ TyY K H x t ∧ Q (.bl b) H
theorem qe2 : CallR X (.builtin "isinstance") (rIsY X.K) := fun pins s σ H xs us Q I r ⟨x, c, t, u, b, k, e, l, ty, q⟩ => by
 subst l
 obtain ⟨u1, u2, rfl, r1, r2⟩ := vals2 r
 obtain ⟨P, Z, p, ne⟩ := ty.kit I r1
 rw [k.eq r2]
 exact PySem.W.kia_one Z I.kIn p e ne fun tk => ⟨.bl b, H, I.tok tk, rfl, q⟩
theorem qdL : CallR X (.builtin "isinstance") (qkh X.K) := fun pins s σ H xs us Q I r ⟨x, tp, cs, t, ws, b, k, e, hT, l, ty, q⟩ => by
 subst l
 obtain ⟨u1, u2, rfl, r1, r2⟩ := vals2 r
 obtain rfl : u2 = Value.ref tp := r2
 obtain ⟨P, Z, p, ne⟩ := ty.kit I r1
 obtain ⟨_, its, rv, ⟨oc, od, dt, sl⟩, h1, h2, n, h3⟩ := (show ObjOk X.prog X.w H s.heap tp (.tup cs) from I.hok tp _ hT)
 obtain rfl := ClsV.all k rv
 simp only at h2 h3
 subst h2 h3
 exact PySem.W.kia_tup Z I.kIn p h1 e ne fun tk => ⟨.bl b, H, I.tok tk, rfl, q⟩
end
section
variable {K : PySem.W.Frag} {H : Hp} {lv : Nat}
def nob : D → Prop
 | .ob _ _ => False
 | .ex _ _ => False
 | .dN _ => False
 | .op _ => False
 | _ => True
theorem Rep.tyX {d : D} {x : V} {g : List Addr} (r : Rep K H lv d x g) (hn : nob d) : TyY K H x (.type d.ty) := by
 cases r with
 | non => exact .inl <| .base .non
 | bl b => exact .inl <| .base (.bl b)
 | int b => exact .inl <| .base (.int b)
 | str b => exact .inl <| .base (.str b)
 | tup h r => exact .inl <| .base (.tup h)
 | tupK l h r => obtain ⟨o, its, n, e, c, _⟩ := h; exact .inl <| .kTuple e c
 | lst h r n => exact .inl <| .base (.lst h)
 | lstF l h r =>
   rcases h with ⟨o, h⟩ | ⟨o, its, n, e, c, _⟩
   ·exact .inl <| .base (.frz h)
   ·exact .inl <| .kList e c
 | dT h e nd r n => exact .inl <| .base (.dT h)
 | dTF l h e nd r => exact .inr ⟨_, _, _, rfl, rfl, h⟩
 | dF h e nd r => exact .inr ⟨_, _, _, rfl, rfl, h⟩
 | lF h r => exact .inl <| .base (.frz h)
 | ob h c e r n => exact hn.elim
 | ex h c e z => exact hn.elim
 | dN h e nd kk r n => exact hn.elim
 | opN v => exact hn.elim
 | opF h => exact hn.elim
 | dK h e nd r n => exact .inl <| .base (.dK h)
end
def xIsi (T : String) (t : XE) : XE := fun env Q => t env fun r e => rd 2 r e fun d => nob d ∧ Q (.tmp (.bl (isiB T d))) e
def qfT (T U : String) (t : XE) : XE := fun env Q => t env fun r e => rd 2 r e fun d => nob d ∧ Q (.tmp (.bl (isiB T d || isiB U d))) e
section
variable {X : Cx} {e : Expr} {t : XE} {p p2 p3 p4 pos : Pos} {T U : Str}
theorem uV {T0 : String} (hk : TyOk T0) (he : DE X e t) (hm : X.mg "isinstance" = none) (hmT : X.mg T = none) (hT : bootBuiltins T = some (.type T0)) (hg : Gl X "isinstance" := by rfl) (hgT : Gl X T := by rfl)
 (hn : T ≠ "__name__" := by decide) (hd : (T == ("__debug__" : Str)) = false := by decide)
 (h1 : starEach [e, .Name T p2] X.env = (false, eval e X.env) :: starEach [.Name T p2] X.env := by rfl) (h2 : starEach [Expr.Name T p2] X.env = (false, eval (.Name T p2) X.env) :: starEach [] X.env := by rfl)
 (hpl : (backTo pos (starEach [Expr.Name T p2] X.env)).any (·.1) = false := by rfl) : DE X (.Call (.Name "isinstance" p) [e, .Name T p2] [] pos) (xIsi T0 t) := by
 refine ⟨PE.imp (pe_callB qe2 hg hm (by rfl) (pa_cons he.run (pa_cons (pe_bltn (v := .ty T0) hgT hmT hT rfl hn hd) pa_nil h2) h1) (by decide) (by decide) h1 hpl) fun σ H Q q => ?_, fun env Q Q' h q => he.mono _ _ _ (fun r e q => qZ (fun d q => ⟨q.1, h _ _ q.2⟩) q) q⟩
 obtain ⟨env, f, A, q⟩ := q
 refine ⟨env, f, A, he.mono _ _ _ (fun r e1 q => ?_) q⟩
 intro x H1 f1 g1 A1 R1 S1 K1
 obtain ⟨d, g', rp, q⟩ := xf A1 R1 q
 exact ⟨x, .ty T0, .type d.ty, .type T0, isiB T0 d, .ty T0, kit_ty (hk _ d.ty_mem), rfl, rp.tyX q.1, q.2 _ H1 f1 [] A1 (.tmp (.bl _) qC) (S1.drop fun _ z => by simp at z) K1⟩
theorem qg4 {T0 U0 : String} {x1 : Nat} (hk : TyOk T0) (hk2 : TyOk U0) (he : DE X e t) (hm : X.mg "isinstance" = none) (hmT : X.mg T = none) (hmU : X.mg U = none) (hT : bootBuiltins T = some (.type T0)) (hU : bootBuiltins U = some (.type U0)) (hg : Gl X "isinstance" := by rfl) (hgT : Gl X T := by rfl) (hgU : Gl X U := by rfl)
 (hn : T ≠ "__name__" := by decide) (hd : (T == ("__debug__" : Str)) = false := by decide) (hn2 : U ≠ "__name__" := by decide) (hd2 : (U == ("__debug__" : Str)) = false := by decide)
 (h1 : starEach [e, .Tuple [.Name T p2, .Name U p3] x1 p4] X.env = (false, eval e X.env) :: starEach [.Tuple [.Name T p2, .Name U p3] x1 p4] X.env := by rfl)
 (h2 : starEach [Expr.Tuple [.Name T p2, .Name U p3] x1 p4] X.env = (false, eval (.Tuple [.Name T p2, .Name U p3] x1 p4) X.env) :: starEach [] X.env := by rfl)
 (h3 : starEach [Expr.Name T p2, .Name U p3] X.env = (false, eval (.Name T p2) X.env) :: starEach [.Name U p3] X.env := by rfl) (h4 : starEach [Expr.Name U p3] X.env = (false, eval (.Name U p3) X.env) :: starEach [] X.env := by rfl)
 (hpl : (backTo pos (starEach [Expr.Tuple [.Name T p2, .Name U p3] x1 p4] X.env)).any (·.1) = false := by rfl) : DE X (.Call (.Name "isinstance" p) [e, .Tuple [.Name T p2, .Name U p3] x1 p4] [] pos) (qfT T0 U0 t) := by
 refine ⟨PE.imp (pe_callB qdL hg hm (by rfl) (pa_cons he.run (pa_cons (pe_tup (pa_cons (pe_bltn (v := .ty T0) hgT hmT hT rfl hn hd) (pa_cons (pe_bltn (v := .ty U0) hgU hmU hU rfl hn2 hd2) pa_nil h4) h3)) pa_nil h2) h1) (by decide) (by decide) h1 hpl) fun σ H Q q => ?_, fun env Q Q' h q => he.mono _ _ _ (fun r e q => qZ (fun d q => ⟨q.1, h _ _ q.2⟩) q) q⟩
 obtain ⟨env, f, A, q⟩ := q
 refine ⟨env, f, A, he.mono _ _ _ (fun r e1 q => ?_) q⟩
 intro x H1 f1 g1 A1 R1 S1 K1
 obtain ⟨d, g', rp, q⟩ := xf A1 R1 q
 refine ⟨by show 2 ≤ sizeLine; decide, fun tp hf => ?_⟩
 have ex : Ext H1 (upd H1 tp (.tup [.ty T0, .ty U0])) [] := .updT hf
 obtain ⟨A3, R3, S3⟩ := uQ A1 S1 ex (.bl (isiB T0 d || isiB U0 d))
 refine ⟨x, tp, [.ty T0, .ty U0], .type d.ty, [.type T0, .type U0], isiB T0 d || isiB U0 d, .cons (.ty T0) (.cons (.ty U0) .nil), ?_, upd_same, rfl, (rp.keep fun b o e _ => ex.same b o e).tyX q.1, q.2 _ _ f1 [] A3 R3 S3 K1⟩
 refine kitAny_cons (kit_ty (hk _ d.ty_mem)) (fun h => kitAny_cons (kit_ty (hk2 _ d.ty_mem)) (fun h2 => ?_) fun h2 => ?_) fun h => ?_
 ·rw [kitAny_nil]; unfold isiB; rw [h, h2]; rfl
 ·unfold isiB; rw [h2]; simp
 ·unfold isiB; rw [h]; rfl
theorem uW : CallD X (.builtin "len") 2 (op1 bLen) := QZ (by decide) (fun pins s σ H x us Q d g I rs r q => by
 unfold bLen at q
 split at q
 ·obtain ⟨a, vs, g', rfl, hs, rr, _, _⟩ := r.listSq
  exact call_len pins s σ H _ us Q I rs ⟨_, _, rfl, .inl ⟨vs, hs, rfl⟩, by rw [← rr.len]; exact q _ _ _ (.int _) .refl⟩
 ·obtain ⟨a, vs, rfl, hs, rr, _⟩ := r.lFSq
  exact call_len pins s σ H _ us Q I rs ⟨_, _, rfl, .inl ⟨vs, hs, rfl⟩, by rw [← rr.len]; exact q _ _ _ (.int _) .refl⟩
 ·obtain ⟨a, vs, rfl, hs, rr⟩ := r.tupleSq
  exact call_len pins s σ H _ us Q I rs ⟨_, _, rfl, .inr ⟨vs, hs, rfl⟩, by rw [← rr.len]; exact q _ _ _ (.int _) .refl⟩
 ·obtain ⟨rfl, _⟩ := r.strV
  exact call_len pins s σ H _ us Q I rs ⟨.str _, _, rfl, ⟨q.1, rfl⟩, q.2 _ _ _ (.int _) .refl⟩
 ·cases r with
  | @dK a hs kvs f ha he nd rr nn =>
    have hl := congrArg List.length he
    rw [List.length_map, List.length_map] at hl
    exact call_lenD pins s σ H _ us Q I rs ⟨_, _, rfl, ha, by rw [hl]; exact q _ _ _ (.int _) .refl⟩
 ·cases r with
  | @dT a hs kvs f ha he nd rr nn =>
    have hl := congrArg List.length he
    rw [List.length_map, List.length_map] at hl
    exact call_len_dT pins s σ H _ us Q I rs ⟨_, _, rfl, ha, by rw [hl]; exact q _ _ _ (.int _) .refl⟩
  | @dTF a o hs kvs f l ha he nd rr =>
    have hl := congrArg List.length he
    rw [List.length_map, List.length_map] at hl
    obtain ⟨u, rfl, rx⟩ := vals1 rs
    obtain rfl : u = .ref a := rx
    obtain ⟨z, hd, ys, rel, dd⟩ := dt_rd I.hok (.inr ⟨o, ha⟩)
    have hl2 : hs.length = ys.length := Paired.length rel
    refine call_len_dictH hd dd (by rw [← hl2]; rw [sizeLine_eq] at z; omega) ?_
    rw [← hl2, hl]
    exact ⟨.int _, H, I.tok _, ⟨_, rfl⟩, q _ _ _ (.int _) .refl⟩
 ·exact q.elim) (fun d k k' h q => by
 unfold bLen at q ⊢
 split at q
 ·exact h _ q
 ·exact h _ q
 ·exact h _ q
 ·exact ⟨q.1, h _ q.2⟩
 ·exact h _ q
 ·exact h _ q
 ·exact q.elim)
end
def blD (d : D) (k : Bool → Prop) : Prop := match d with
 | .bl b => k b
 | _ => False
def dChn (L : Nat) (op : OP) (L' : Nat) (op' : OP) (ta tb tc : XE) : XE := fun env Q => ta env fun r1 e1 => tb e1 fun r2 e2 => rd L r1 e2 fun d1 => rd L r2 e2 fun d2 => op d1 d2 fun d => blD d fun b =>
 (b = true → tc e2 fun r3 e3 => rd L' r2 e3 fun d2 => rd L' r3 e3 fun d3 => op' d2 d3 fun d => Q (.tmp d) e3) ∧ (b = false → Q (.tmp (.bl false)) e2)
section
variable {K : PySem.W.Frag} {σ : L2.St} {H H1 H' : Hp} {env e1 : En} {f f1 : FA} {g g1 : List Addr} {r : R} {v : V}
theorem ResOk.ext (h : ResOk K σ H env f r v g) (A : Abs K σ H env f) (x : ∀ b o, H b = some o → H' b = some o) : ResOk K σ H' env f r v g := by
 cases h with
 | tmp r n => exact .tmp (r.keep fun b o e _ => x b o e) n
 | ro r n => exact .ro (r.keep fun b o e _ => x b o e) n
 | sl e1 e2 hm => exact .sl e1 e2 hm
end
section
variable {X : Cx} {a b c : Expr} {ta tb tc : XE} {pos : Pos} {L L' : Nat} {op op' : OP} {o o' : CmpOp}
def BlOp (op : OP) : Prop := ∀ d1 d2 k, op d1 d2 k → op d1 d2 fun d => (∃ b, d = .bl b) ∧ k d
theorem qe4 : BlOp opGt := fun d1 d2 k q => by cases d1 <;> cases d2 <;> first | exact q.elim | exact ⟨⟨_, rfl⟩, q⟩
theorem Q4 : BlOp opEq := fun d1 d2 k q => ⟨q.1, q.2.1, ⟨_, rfl⟩, q.2.2⟩
theorem qbN : BlOp opNe := fun d1 d2 k q => ⟨q.1, q.2.1, ⟨_, rfl⟩, q.2.2⟩
theorem qdR : BlOp opLt := fun d1 d2 k q => by
 unfold opLt at q ⊢
 split at q
 ·exact ⟨⟨_, rfl⟩, q⟩
 ·split at q
  ·simp only [*]; exact ⟨⟨_, rfl⟩, trivial⟩
  ·exact q.elim
 ·exact q.elim
theorem qjf : BlOp opIs := fun d1 d2 k q => by
 unfold opIs at q ⊢
 split at q
 ·exact ⟨⟨_, rfl⟩, q⟩
 ·exact ⟨⟨_, rfl⟩, q⟩
 ·exact q.elim
theorem qdS {n : Bool} : BlOp (Wf n) := fun d1 d2 k q => by
 unfold Wf at q ⊢
 split at q
 ·split at q
  ·split at q
   ·simp only [*]; exact ⟨⟨_, rfl⟩, trivial⟩
   ·exact q.elim
  ·exact q.elim
 ·split at q
  ·simp only [*]; exact ⟨⟨_, rfl⟩, trivial⟩
  ·exact q.elim
 ·exact ⟨q.1, q.2.1, ⟨_, rfl⟩, q.2.2⟩
 ·exact ⟨q.1, q.2.1, ⟨_, rfl⟩, q.2.2⟩
 ·exact ⟨q.1, q.2.1, ⟨_, rfl⟩, q.2.2⟩
 ·split at q
  ·exact ⟨⟨_, rfl⟩, q⟩
  ·exact q.elim
 ·exact q.elim
end
end BX
namespace BX
open PySem PySem.Spec PyProof.Rows L2
section
variable {κ : Type} [DecidableEq κ] {K : PySem.W.Frag} {H : Hp}
def putD (k : κ) (d : D) : List (κ × D) → List (κ × D)
 | [] => [(k, d)]
 | p :: r => if p.1 = k then (p.1, d) :: r else p :: putD k d r
def putV (k : κ) (d : V) : List (κ × V) → List (κ × V)
 | [] => [(k, d)]
 | p :: r => if p.1 = k then (p.1, d) :: r else p :: putV k d r
theorem qcF (k : κ) (v : V) : ∀ hs : List (κ × V), (∀ p ∈ hs, p.1 ≠ k) → putV k v hs = hs ++ [(k, v)]
 | [], _ => rfl
 | p :: r, h => by
   rw [putV, if_neg (h p (List.mem_cons_self ..)), qcF k v r fun q hq => h q (List.mem_cons_of_mem _ hq)]
   rfl
theorem qaG (k : κ) (v : V) : ∀ hs : List (κ × V), (hs.map (·.1)).Nodup → (∃ p ∈ hs, p.1 = k) → putV k v hs = hs.map fun kv => if kv.1 = k then (kv.1, v) else kv
 | [], _, h => by obtain ⟨p, h, _⟩ := h; simp at h
 | p :: r, nd, h => by
   rw [List.map_cons, List.nodup_cons] at nd
   rw [putV, List.map_cons]
   by_cases e : p.1 = k
   ·rw [if_pos e, if_pos e]
    congr 1
    have : ∀ q ∈ r, (if q.1 = k then (q.1, v) else q) = q := fun q hq => if_neg fun z => nd.1 (List.mem_map.mpr ⟨q, hq, z.trans e.symm⟩)
    rw [List.map_congr_left this, List.map_id']
   ·rw [if_neg e, if_neg e]
    congr 1
    obtain ⟨q, hq, hk⟩ := h
    rcases List.mem_cons.mp hq with rfl | hq
    ·exact absurd hk e
    ·exact qaG k v r nd.2 ⟨q, hq, hk⟩
theorem qaH {k : κ} {v : V} {hs : List (κ × V)} (nd : (hs.map (·.1)).Nodup) : putK hs k v = putV k v hs := by
 unfold putK
 split
 ·rename_i h
  rw [List.any_eq_true] at h
  obtain ⟨p, hp, e⟩ := h
  exact (qaG k v hs nd ⟨p, hp, of_decide_eq_true e⟩).symm
 ·rename_i h
  refine (qcF k v hs fun p hp e => h ?_).symm
  rw [List.any_eq_true]
  exact ⟨p, hp, decide_eq_true e⟩
theorem QJ (k : κ) (v : V) (d : D) : ∀ {hs : List (κ × V)} {kvs : List (κ × D)}, hs.map (·.1) = kvs.map (·.1) → (putV k v hs).map (·.1) = (putD k d kvs).map (·.1)
 | [], [], _ => rfl
 | [], _ :: _, e => by simp at e
 | _ :: _, [], e => by simp at e
 | p :: hs, q :: kvs, e => by
   rw [List.map_cons, List.map_cons, List.cons.injEq] at e
   rw [putV, putD]
   by_cases h : p.1 = k
   ·rw [if_pos h, if_pos (e.1 ▸ h), List.map_cons, List.map_cons, e.1, e.2]
   ·rw [if_neg h, if_neg (e.1 ▸ h), List.map_cons, List.map_cons, e.1, QJ k v d e.2]
theorem qaI {k : κ} {d : D} : ∀ {kvs : List (κ × D)} {x : κ}, x ∈ (putD k d kvs).map (·.1) → x = k ∨ x ∈ kvs.map (·.1)
 | [], x, h => .inl (by simpa [putD] using h)
 | p :: r, x, h => by
   rw [putD] at h
   split at h
   ·exact .inr (by simpa using h)
   ·rw [List.map_cons] at h ⊢
    rcases List.mem_cons.mp h with rfl | h
    ·exact .inr (List.mem_cons_self ..)
    ·exact (qaI h).imp_right fun z => List.mem_cons_of_mem _ z
theorem uC {k : κ} {d : D} : ∀ {kvs : List (κ × D)}, (kvs.map (·.1)).Nodup → ((putD k d kvs).map (·.1)).Nodup
 | [], _ => by simp [putD]
 | p :: r, nd => by
   rw [putD]
   split
   ·exact nd
   ·rename_i h
    rw [List.map_cons, List.nodup_cons] at nd ⊢
    exact ⟨fun z => (qaI z).elim h nd.1, uC nd.2⟩
theorem QH {k : κ} {d : D} {v : V} {g : List Addr} (r : Rep K H 0 d v g) : ∀ {kvs : List (κ × D)} {hs : List (κ × V)} {fp : List Addr}, hs.map (·.1) = kvs.map (·.1) → Reps K H 0 (kvs.map (·.2)) (hs.map (·.2)) fp → (∀ b ∈ fp, b ∉ g) →
 ∃ fp', Reps K H 0 ((putD k d kvs).map (·.2)) ((putV k v hs).map (·.2)) fp' ∧ ∀ b ∈ fp', b ∈ fp ∨ b ∈ g
 | [], [], _, _, .nil, _ => ⟨g, Reps.one r, fun b hb => .inr hb⟩
 | [], _ :: _, _, e, _, _ => by simp at e
 | _ :: _, [], _, e, _, _ => by simp at e
 | q :: kvs, p :: hs, fp, e, rr, dj => by
   rw [List.map_cons, List.map_cons, List.cons.injEq] at e
   rw [List.map_cons, List.map_cons] at rr
   cases rr with
   | @cons _ _ f1 _ _ f2 r1 rt n =>
     rw [putV, putD]
     by_cases h : p.1 = k
     ·rw [if_pos h, if_pos (e.1 ▸ h), List.map_cons, List.map_cons]
      exact ⟨g ++ f2, .cons r rt fun _ b hb z => dj b (List.mem_append_right _ z) hb, fun b hb => (List.mem_append.mp hb).elim .inr fun z => .inl (List.mem_append_right _ z)⟩
     ·rw [if_neg h, if_neg (e.1 ▸ h), List.map_cons, List.map_cons]
      obtain ⟨fp', r', s'⟩ := QH r e.2 rt fun b hb => dj b (List.mem_append_right _ hb)
      refine ⟨f1 ++ fp', .cons r1 r' fun _ b hb z => (s' b z).elim (n rfl b hb) (dj b (List.mem_append_left _ hb)), fun b hb => (List.mem_append.mp hb).elim (fun z => .inl (List.mem_append_left _ z)) fun z => (s' b z).imp_left fun y => List.mem_append_right _ y⟩
theorem qaB {d : D} {v : V} {g : List Addr} (r : Rep K H 0 d v g) : ∀ {ds : List D} {vs : List V} {fp : List Addr} (j : Nat), Reps K H 0 ds vs fp → (∀ b ∈ fp, b ∉ g) → ∃ fp', Reps K H 0 (ds.set j d) (vs.set j v) fp' ∧ ∀ b ∈ fp', b ∈ fp ∨ b ∈ g
 | _, _, _, _, .nil, _ => ⟨[], .nil, fun b hb => by simp at hb⟩
 | _, _, _, 0, .cons (g := f2) r1 rt n, dj => ⟨g ++ f2, .cons r rt fun _ b hb z => dj b (List.mem_append_right _ z) hb, fun b hb => (List.mem_append.mp hb).elim .inr fun z => .inl (List.mem_append_right _ z)⟩
 | _, _, _, j + 1, .cons (f := f1) (g := f2) r1 rt n, dj => by
   obtain ⟨fp', r', s'⟩ := qaB r j rt fun b hb => dj b (List.mem_append_right _ hb)
   exact ⟨f1 ++ fp', .cons r1 r' fun e b hb z => (s' b z).elim (n e b hb) (dj b (List.mem_append_left _ hb)), fun b hb => (List.mem_append.mp hb).elim (fun z => .inl (List.mem_append_left _ z)) fun z => (s' b z).imp_left fun y => List.mem_append_right _ y⟩
end
def putR (ro : R) (di d : D) (e : En) (nx : En → Prop) : Prop := chg ro e fun i dd m => match dd with
 | .lst xs => match di with
   | .int j => match ixN xs.length j with
     | some n => nx (e.set i (some (.lst (xs.set n d), m)))
     | none => False
   | _ => False
 | .dT kvs => match di with
   | .tup ks => match xU ks with
     | some k => kvs.length < sizeLine ∧ nx (e.set i (some (.dT (putD k d kvs), m)))
     | none => False
   | _ => False
 | _ => False
def sPut (te to ti : XE) : XS := fun env nx _ => te env fun r e1 => to e1 fun ro e2 => ti e2 fun ri e3 => stor r e3 fun d => rd 1 ri e3 fun di => putR ro di d e3 nx
theorem qcG {ro : R} {di d : D} {e : En} {k k' : En → Prop} (h : ∀ e, k e → k' e) (q : putR ro di d e k) : putR ro di d e k' := Zg (fun i dd m q => by
 split at q
 ·split at q
  ·split at q
   ·simp only [*] <;> exact h _ q
   ·exact q.elim
  ·exact q.elim
 ·split at q
  ·split at q
   ·have q2 := h _ q.2
    simp only [*]
    first | exact ⟨trivial, trivial⟩ | exact ⟨q.1, trivial⟩ | exact trivial
   ·exact q.elim
  ·exact q.elim
 ·exact q.elim) q
section
variable {X : Cx} {o i e : Expr} {te to ti : XE} {pos tpos : Pos}
def qkg : TSet := fun o i v H Q => rSetL o i v H Q ∨ rSetD o i v H Q
theorem qf9 (hx : Ok X) : PSet X qkg := fun pins s σ H o i v ov iv u Q I ro ri rv h => h.elim (set_list pins s σ H o i v ov iv u Q I ro ri rv) (set_dict (by have := hx.un; omega) pins s σ H o i v ov iv u Q I ro ri rv)
theorem qfE (hx : Ok X) (he : DE X e te) (ho : DE X o to) (hi : DE X i ti) (hs : swapsWithSole [.Subscript o i tpos] e pos.line X.env = pure false := by rfl) (hw : swappedStores [.Subscript o i tpos] e X.env = pure none := by rfl)
 (h1 : (assignEach [.Subscript o i tpos] X.env).map (·.2) = [assign (.Subscript o i tpos) X.env] := by rfl)
 (ha : ∀ v, assign (.Subscript o i tpos) X.env v = (do
  let ov ← holding [v] (eval o X.env)
  let iv ← holding [v, ov] (eval i X.env)
  standAt tpos
  holding [v, ov, iv] (setItem ov iv v)
  release [v, ov, iv] []) := by intro _; rfl) : DS X (.Assign [.Subscript o i tpos] e pos) (sPut te to ti) := by
 refine ⟨PS.imp (ps_asg he.run (pg_sub ho.run hi.run (qf9 hx) ha) hs hw h1) fun D σ H q => ?_, fun env nx nx' rt rt' h h' q => he.mono _ _ _ (fun r e q => ho.mono _ _ _ (fun r e q => hi.mono _ _ _ (fun r e q => vq (fun d q => qZ (fun d q => qcG h q) q) q) q) q) q⟩
 obtain ⟨env, f, A, q⟩ := q
 refine ⟨env, f, A, he.mono _ _ _ (fun r e1 q => ?_) q⟩
 intro v H1 f1 g1 A1 R1 S1 K1
 refine ⟨e1, f1, A1, ho.mono _ _ _ (fun ro e2 q => ?_) q⟩
 intro vo H2 f2 g2 A2 R2 S2 K2
 refine ⟨e2, f2, A2, hi.mono _ _ _ (fun ri e3 q => ?_) q⟩
 intro vi H3 f3 g3 A3 R3 S3 K3
 obtain ⟨R1', n1⟩ := R1.wait A1 S2 K2
 obtain ⟨R1'', n1'⟩ := R1'.wait A2 S3 K3
 obtain ⟨R2', n2⟩ := R2.wait A2 S3 K3
 have S : Stp H env f [] H3 e3 f3 g1 := ((S1.trans ((S2.drop (G2 := []) fun _ z => by simp at z).frame g1)).drop (G2 := g1) (fun b hb => by simpa using hb)).trans ((S3.drop (G2 := []) fun _ z => by simp at z).frame g1) |>.drop fun b hb => by simpa using hb
 have Kk := (K1.trans K2).trans K3
 obtain ⟨d, rd1, q, nn⟩ := Zr A3 R1'' q
 obtain ⟨di, gi, rpi, q⟩ := xf A3 R3 q
 obtain ⟨n, dd, m, en, hm, hl, hv, rp, rfl, q⟩ := qa6 A3 R2' q
 split at q
 ·obtain ⟨a, vs, fp, rfl, hH, rr, hf, nfp⟩ := rp.listAt
  split at q
  ·split at q
   ·rename_i m' hj
    obtain ⟨rfl, _⟩ := rpi.intV
    have dj : ∀ b ∈ fp, b ∉ g1 := fun b hb z => (nn b z).1 ⟨n, _, m, en, hl, by rw [hf]; exact List.mem_cons_of_mem _ hb⟩
    obtain ⟨fp', r', s'⟩ := qaB rd1 m' rr dj
    obtain ⟨A4, S4, K4, _⟩ := VP (G := g1) (G' := []) A3 en hm hl hv hH hf nfp r' s' nn qC
    refine .inl ⟨a, vs, _, m', rfl, rfl, hH, by rw [← rr.len]; exact hj, q σ _ _ A4 (S.trans S4) (Kk.trans K4).kq⟩
   ·exact q.elim
  ·exact q.elim
 ·obtain ⟨a, hs, fp, rfl, hH, ek, nd, rr, hf, nfp⟩ := rp.dTAt
  split at q
  ·split at q
   ·rename_i k hk
    obtain ⟨b, ws, rfl, hb, rb⟩ := rpi.tupleAt (Nat.le_refl _)
    rw [rb.xU hk] at hb
    have dj : ∀ b ∈ fp, b ∉ g1 := fun b hb z => (nn b z).1 ⟨n, _, m, en, hl, by rw [hf]; exact List.mem_cons_of_mem _ hb⟩
    obtain ⟨fp', r', s'⟩ := QH (k := k) rd1 ek rr dj
    have ndh : (hs.map (·.1)).Nodup := by rw [ek]; exact nd
    obtain ⟨A4, S4, K4, _⟩ := qfJ (G := g1) (G' := []) A3 en hm hl hv hH rfl hf (nfp rfl) (QJ k v d ek) (uC nd) r' s' nn qC
    have hlen := congrArg List.length ek
    rw [List.length_map, List.length_map] at hlen
    refine .inr ⟨a, _, rfl, .t hH hb (by rw [hlen]; exact q.1), ?_⟩
    rw [qaH ndh]
    exact q.2 σ _ _ A4 (S.trans S4) (Kk.trans K4).kq
   ·exact q.elim
  ·exact q.elim
 ·exact q.elim
end
end BX
namespace BX
open PySem PySem.Spec PyProof.Rows L2 RZ
def zc : R → Option Bool
 | .tmp _ => some false
 | .ro c _ => some c
 | .sl _ => none
def zipL (xs ys : List D) : List D := List.zipWith (fun x y => .tup [x, y]) xs ys
def zipS (r1 r2 : R) (d1 d2 : D) (e : En) (k : List D → Option Bool → Lok → En → Prop) : Prop := match zc r1, zc r2 with
 | some c, some c' => match d1, d2 with
   | .lst xs, .lst ys => k (zipL xs ys) (some (c || c')) none e
   | .tup xs, .tup ys => k (zipL xs ys) (some (c || c')) none e
   | _, _ => False
 | _, _ => False
def V7 (t u : XE) : XI := fun env k => t env fun r1 e1 => u e1 fun r2 e2 => rd 2 r1 e2 fun d1 => rd 2 r2 e2 fun d2 => zipS r1 r2 d1 d2 e2 k
section
variable {K : PySem.W.Frag} {σ : L2.St} {H H1 : Hp} {env e1 : En} {f f1 : FA} {g : List Addr} {r : R} {x : V} {d : D}
theorem qa1 {c : Bool} (A : Abs K σ H1 e1 f1) (h : ResOk K σ H1 e1 f1 r x g) (hc : zc r = some c) (dd : r.data 2 e1 = some d) : ∃ gg, Rep K H1 (clv c) d x gg ∧ ∀ b ∈ gg, (∃ o, H1 b = some o) ∧ ¬ L0 e1 f1 b := by
 cases h with
 | @tmp d' _ _ rp n =>
   cases dd; cases hc
   exact ⟨g, rp.up (Nat.zero_le _), fun b hb => ⟨(rp.dom b hb).imp fun o z => z.1, (n b hb).1⟩⟩
 | @ro c' d' _ g0 rp n =>
   cases hc
   have dd' : d' = d := by
    unfold BX.R.data at dd
    cases e : roOk c 2 with
    | false => simp only [e] at dd; cases dd
    | true => simp only [e] at dd; exact Option.some.inj dd
   subst dd'
   exact ⟨g0, rp, fun b hb => ⟨(rp.dom b hb).imp fun o z => z.1, fun w => A.apart w (n b hb)⟩⟩
 | sl _ _ _ => cases hc
theorem vO {P Q : List Addr} {H : Hp} (n : Near H1 P H) (h : ∀ b ∈ Q, b ∈ P) : Near H1 Q H := fun b o e z => n b o e (z.imp_left (h b))
theorem qa5 (c c' : Bool) : clv c ≤ clv (c || c') ∧ clv c' ≤ clv (c || c') := by cases c <;> cases c' <;> decide
theorem Y0 {xs ys : List D} {i : Nat} {d : D} (h : (zipL xs ys)[i]? = some d) : ∃ a b, xs[i]? = some a ∧ ys[i]? = some b ∧ d = .tup [a, b] := by
 unfold zipL at h
 rw [List.getElem?_zipWith] at h
 cases e1 : xs[i]? with
 | none => rw [e1] at h; cases h
 | some a =>
   cases e2 : ys[i]? with
   | none => rw [e1, e2] at h; cases h
   | some b => rw [e1, e2] at h; cases h; exact ⟨a, b, rfl, rfl, rfl⟩
theorem Jw {P g1 g2 : List Addr} {H : Hp} {c : Bool} {d1 d2 : D} {x y : V} {T : Addr} (hT : H T = none) (r1 : Rep K H (clv c) d1 x g1) (r2 : Rep K H (clv c) d2 y g2) (h1 : ∀ b ∈ g1, b ∈ P) (h2 : ∀ b ∈ g2, b ∈ P) :
 (∀ b o, H b = some o → (upd H T (.tup [x, y])) b = some o) ∧ Item K (upd H T (.tup [x, y])) P (some c) (.tup [d1, d2]) (.ref T) := by
 have kp : ∀ b o, H b = some o → (upd H T (.tup [x, y])) b = some o := (Ext.upd (o := .tup [x, y]) hT).same
 have hlv : clv c ≠ 0 := by cases c <;> decide
 refine ⟨kp, g1 ++ (g2 ++ []), .tup upd_same (.cons (r1.keep fun b o e _ => kp b o e) (.cons (r2.keep fun b o e _ => kp b o e) .nil fun z => absurd z hlv) fun z => absurd z hlv), fun b hb => ?_⟩
 rcases List.mem_append.mp hb with hb | hb
 ·exact h1 b hb
 ·rcases List.mem_append.mp hb with hb | hb
  ·exact h2 b hb
  ·simp at hb
variable {xs ys : List D} {vs ws : List V} {a b : Addr} {c c' : Bool} {g1 g2 P : List Addr}
theorem qfV (ha : ∀ H, Near H1 P H → SqL K H a vs) (hb : ∀ H, Near H1 P H → SqL K H b ws) (r1 : Reps K H1 (clv c) xs vs g1) (r2 : Reps K H1 (clv c') ys ws g2) (s1 : ∀ b ∈ g1, b ∈ P) (s2 : ∀ b ∈ g2, b ∈ P) : Wk K (Itz K a b) (zipL xs ys) (some (c || c')) H1 P where
 go := fun i H n h => by
  rw [zipL, List.length_zipWith] at h
  have l1 := r1.len; have l2 := r2.len
  exact ⟨vs, ws, vs[i]'(by omega), ws[i]'(by omega), ha H n, hb H n, List.getElem?_eq_getElem _, List.getElem?_eq_getElem _⟩
 stop := fun i H n h => by
  rw [zipL, List.length_zipWith] at h
  have l1 := r1.len; have l2 := r2.len
  exact ⟨vs, ws, ha H n, hb H n, by omega⟩
 yld := fun i H x H' d n e y => by
  obtain ⟨T, x', y', rfl, hT, rfl, hx, hy⟩ := y
  obtain ⟨d1, d2, e1, e2, rfl⟩ := Y0 e
  obtain ⟨v1, h1, q1, rp1, t1⟩ := r1.get e1
  obtain ⟨v2, h2, q2, rp2, t2⟩ := r2.get e2
  have := hx vs (ha H n); rw [q1] at this; cases this
  have := hy ws (hb H n); rw [q2] at this; cases this
  exact Jw hT ((uM rp1 n fun b hb => s1 b (t1 b hb)).up (qa5 c c').1) ((uM rp2 n fun b hb => s2 b (t2 b hb)).up (qa5 c c').2) (fun b hb => s1 b (t1 b hb)) fun b hb => s2 b (t2 b hb)
theorem qfU (ha : ∀ H, Near H1 P H → SqT K H a vs) (hb : ∀ H, Near H1 P H → SqT K H b ws) (r1 : Reps K H1 (clv c) xs vs g1) (r2 : Reps K H1 (clv c') ys ws g2) (s1 : ∀ b ∈ g1, b ∈ P) (s2 : ∀ b ∈ g2, b ∈ P) : Wk K (ItzT K a b) (zipL xs ys) (some (c || c')) H1 P where
 go := fun i H n h => by
  rw [zipL, List.length_zipWith] at h
  have l1 := r1.len; have l2 := r2.len
  exact ⟨vs, ws, vs[i]'(by omega), ws[i]'(by omega), ha H n, hb H n, List.getElem?_eq_getElem _, List.getElem?_eq_getElem _⟩
 stop := fun i H n h => by
  rw [zipL, List.length_zipWith] at h
  have l1 := r1.len; have l2 := r2.len
  exact ⟨vs, ws, ha H n, hb H n, by omega⟩
 yld := fun i H x H' d n e y => by
  obtain ⟨T, x', y', rfl, hT, rfl, hx, hy⟩ := y
  obtain ⟨d1, d2, e1, e2, rfl⟩ := Y0 e
  obtain ⟨v1, h1, q1, rp1, t1⟩ := r1.get e1
  obtain ⟨v2, h2, q2, rp2, t2⟩ := r2.get e2
  have := hx vs (ha H n); rw [q1] at this; cases this
  have := hy ws (hb H n); rw [q2] at this; cases this
  exact Jw hT ((uM rp1 n fun b hb => s1 b (t1 b hb)).up (qa5 c c').1) ((uM rp2 n fun b hb => s2 b (t2 b hb)).up (qa5 c c').2) (fun b hb => s1 b (t1 b hb)) fun b hb => s2 b (t2 b hb)
end
theorem qbX {r1 r2 : R} {d1 d2 : D} {e : En} {k k' : List D → Option Bool → Lok → En → Prop} (h : ∀ ds kd lk e, k ds kd lk e → k' ds kd lk e) (q : zipS r1 r2 d1 d2 e k) : zipS r1 r2 d1 d2 e k' := by
 unfold zipS at q ⊢
 revert q
 cases zc r1 with
 | none => exact id
 | some c => cases zc r2 with
   | none => exact id
   | some c' => cases d1 <;> cases d2 <;> first | exact id | exact fun q => h _ _ _ _ q
section
variable {X : Cx} {e e2 : Expr} {t u : XE} {p pos tpos : Pos} {elts : List Expr} {kk : Nat}
theorem qa3 (ha : DE X e t) (hb : DE X e2 u) (hm : X.mg "zip" = none) (hg : Gl X "zip" := by rfl) (hs' : starEach [e, e2] X.env = (false, eval e X.env) :: starEach [e2] X.env := by rfl) (hs2' : starEach [e2] X.env = (false, eval e2 X.env) :: starEach [] X.env := by rfl)
 (hpl : (backTo pos (starEach [e2] X.env)).any (·.1) = false := by rfl) : DI X (.Tuple elts kk tpos) (.Call (.Name "zip" p) [e, e2] [] pos) (V7 t u) := by
 refine ⟨PI.imp (pi_zipA hg hm (qb ha (qb hb qp hs2') hs').run hs' hpl) fun σ H R q => ?_, fun env k k' h q => ha.mono _ _ _ (fun r e q => hb.mono _ _ _ (fun r2 e2 q => qZ (fun d q => qZ (fun d2 q => ?_) q) q) q) q⟩
 ·obtain ⟨env, f, A, q⟩ := q
  refine ⟨env, f, A, ha.mono _ _ _ (fun r1 e1 q => hb.mono _ _ _ (fun r2 e2 q => ?_) q) q⟩
  intro vs H1 f1 gs A1 R1 S1 K1
  cases R1 with
  | cons R1 Rt _ =>
    cases Rt with
    | cons R2 Rt _ =>
      cases Rt
      obtain ⟨d1, dd1, q⟩ := Wb q
      obtain ⟨d2, dd2, q⟩ := Wb q
      unfold zipS at q
      split at q
      ·rename_i c c' hc hc'
       obtain ⟨gg1, rp1, n1⟩ := qa1 A1 R1 hc dd1
       obtain ⟨gg2, rp2, n2⟩ := qa1 A1 R2 hc' dd2
       have S0 := S1.drop (G2 := []) fun _ z => by simp at z
       have nn : ∀ b ∈ gg1 ++ gg2, (∃ o, H1 b = some o) ∧ ¬ L0 e2 f1 b := fun b hb => (List.mem_append.mp hb).elim (n1 b) (n2 b)
       have w1 : ∀ b ∈ gg1, b ∈ gg1 ++ gg2 := fun b hb => List.mem_append_left _ hb
       have w2 : ∀ b ∈ gg2, b ∈ gg1 ++ gg2 := fun b hb => List.mem_append_right _ hb
       split at q
       ·obtain ⟨a1, vs1, k1, rfl, hq1, hn1, rr1, hs1⟩ := jG rp1
        obtain ⟨a2, vs2, k2, rfl, hq2, hn2, rr2, hs2⟩ := jG rp2
        exact ⟨a1, a2, vs1, vs2, rfl, .inl ⟨hq1, hq2, q _ H1 f1 _ e2 A1 S0 K1 .none (qfV (fun H n => hn1 H (vO n w1)) (fun H n => hn2 H (vO n w2)) rr1 rr2 (fun b hb => w1 b (hs1 b hb)) fun b hb => w2 b (hs2 b hb)) (fun b hb => ⟨(nn b hb).1, fun w => (nn b hb).2 w.l0⟩) (fun _ b hb => (nn b hb).2)⟩⟩
       ·obtain ⟨a1, vs1, rfl, hq1, hn1, rr1⟩ := Zd rp1
        obtain ⟨a2, vs2, rfl, hq2, hn2, rr2⟩ := Zd rp2
        exact ⟨a1, a2, vs1, vs2, rfl, .inr ⟨hq1, hq2, q _ H1 f1 _ e2 A1 S0 K1 .none (qfU (fun H n => hn1 H (vO n w1)) (fun H n => hn2 H (vO n w2)) rr1 rr2 w1 w2) (fun b hb => ⟨(nn b hb).1, fun w => (nn b hb).2 w.l0⟩) (fun _ b hb => (nn b hb).2)⟩⟩
       ·exact q.elim
      ·exact q.elim
 ·exact qbX h q
end
end BX
namespace BX
open PySem PySem.Spec PyProof.Rows L2
def sPar (i j : Nat) (u : XA) : XS := fun env nx _ => u env fun rs e => j7 rs e fun ds => match ds with
 | [d1, d2] => setOk e i = true ∧ setOk e j = true ∧ nx ((e.set i (some (d1, .own))).set j (some (d2, .own)))
 | _ => False
def intS (x : Option (Option (D × Md))) (k : Int → Prop) : Prop := match x with
 | some (some (.int z, _)) => k z
 | _ => False
def intD (d : D) (k : Int → Prop) : Prop := match d with
 | .int z => k z
 | _ => False
def sAug (g : Int → Int → Int) (i : Nat) (te : XE) : XS := fun env nx _ => intS env[i]? fun z => te env fun r e1 => rd 2 r e1 fun d => intD d fun w => setOk e1 i = true ∧ nx (e1.set i (some (.int (g z w), .own)))
def dNeg (t : XE) : XE := fun env Q => t env fun r e => rd 2 r e fun d => intD d fun z => Q (.tmp (.int (-z))) e
def qg9 (t : XE) : XE := fun env Q => t env fun r e => rd 2 r e fun d => tru d fun b => Q (.tmp (.bl (!b))) e
theorem JR {d : D} {k k' : Int → Prop} (h : ∀ z, k z → k' z) (q : intD d k) : intD d k' := by
 cases d <;> first | exact q.elim | exact h _ q
theorem qdg {d : D} {k : Int → Prop} (q : intD d k) : ∃ z, d = .int z ∧ k z := by
 cases d <;> first | exact q.elim | exact ⟨_, rfl, q⟩
section
variable {X : Cx} {e a b : Expr} {t te : XE} {u : XA} {x y : Str} {i j : Nat} {pos pos' px py pt pt2 : Pos} {kt k2 : Nat}
theorem YM (ha : DE X a t) : DE X (.UnaryOp .USub a pos) (dNeg t) := by
 refine ⟨PE.imp (pe_un un_neg ha.run) fun σ H Q q => ?_, fun env Q Q' h q => ha.mono _ _ _ (fun r e q => qZ (fun d q => JR (fun z q => h _ _ q) q) q) q⟩
 obtain ⟨env, f, A, q⟩ := q
 refine ⟨env, f, A, ha.mono _ _ _ (fun r e1 q => ?_) q⟩
 intro v H1 f1 g1 A1 R1 S1 K1
 obtain ⟨d, g', rp, q⟩ := xf A1 R1 q
 obtain ⟨z, rfl, q⟩ := qdg q
 obtain ⟨rfl, _⟩ := rp.intV
 exact ⟨z, rfl, q _ H1 f1 [] A1 (.tmp (.int _) qC) (S1.drop fun _ z => by simp at z) K1⟩
theorem qg3 (ha : DE X a t) : DE X (.UnaryOp .Not a pos) (qg9 t) := by
 refine ⟨PE.imp (pe_notT ha.run) fun σ H Q q => ?_, fun env Q Q' h q => ha.mono _ _ _ (fun r e q => qZ (fun d q => Qv (fun z q => h _ _ q) q) q) q⟩
 obtain ⟨env, f, A, q⟩ := q
 refine ⟨env, f, A, ha.mono _ _ _ (fun r e1 q => ?_) q⟩
 intro v H1 f1 g1 A1 R1 S1 K1
 obtain ⟨d, g', rp, q⟩ := xf A1 R1 q
 obtain ⟨b, ht, q⟩ := rp.tru q
 exact ⟨b, ht, q _ H1 f1 [] A1 (.tmp (.bl _) qC) (S1.drop fun _ z => by simp at z) K1⟩
theorem qdB (hx : Ok X) (hN : X.N.Nodup) (hij : i ≠ j) (ha : DA X [a, b] u) (hi : X.N[i]? = some x := by rfl) (hj : X.N[j]? = some y := by rfl) (hxl : X.env.scope.names.lookup x = some .local := by rfl) (hyl : X.env.scope.names.lookup y = some .local := by rfl)
 (hw : swappedStores [.Tuple [.Name x px, .Name y py] kt pt] (.Tuple [a, b] k2 pt2) X.env = pure (some [x, y]) := by rfl)
 (hs : swapsWithSole [.Tuple [.Name x px, .Name y py] kt pt] (.Tuple [a, b] k2 pt2) pos.line X.env = pure false := by rfl) : DS X (.Assign [.Tuple [.Name x px, .Name y py] kt pt] (.Tuple [a, b] k2 pt2) pos) (sPar i j u) := by
 refine ⟨PS.imp (ps_par hx.calm hN hi hj hij hxl hyl ha.run hw hs) fun D σ H q => ?_, fun env nx nx' rt rt' h _ q => ha.mono _ _ _ (fun rs e q => vM (fun ds q => ?_) q) q⟩
 ·obtain ⟨env, f, A, q⟩ := q
  refine ⟨env, f, A, ha.mono _ _ _ (fun rs e1 q => ?_) q⟩
  intro vs H1 f1 gs A1 R1 S1 K1
  obtain ⟨ds, rp, q, nn⟩ := W8 A1 R1 q
  match ds, q with
  | [d1, d2], q =>
    obtain ⟨so1, so2, q⟩ := q
    cases rp with
    | @cons _ v ga _ _ _ r1 rt n =>
      cases rt with
      | @cons _ w gb _ _ _ r2 rt n2 =>
        cases rt
        have nd : ∀ b ∈ ga, b ∉ gb := fun b hb z => n rfl b hb (List.mem_append_left _ z)
        obtain ⟨A2, S2, K2, L2', O2, _⟩ := A1.put (m := .own) (G := ga) so1 r1 ⟨(fun z => nomatch z), (fun z => nomatch z)⟩ (fun _ b hb => nn b (List.mem_append_left _ hb)) (fun b hb => (nn b (List.mem_append_left _ hb)).1) fun _ b hb => hb
        have so2' : setOk (e1.set i (some (d1, .own))) j = true := by
         unfold setOk at so2 ⊢
         rw [yq (Ne.symm hij)]
         exact so2
        have nb : ∀ b ∈ gb, ¬ L0 (e1.set i (some (d1, Md.own))) (fset f1 i ga) b ∧ ¬ Ro (e1.set i (some (d1, Md.own))) (fset f1 i ga) b := fun b hb => by
         have := nn b (List.mem_append_right _ (List.mem_append_left _ hb))
         exact ⟨fun z => (L2' b z).elim this.1 fun y => nd b y hb, fun z => this.2 (O2 rfl b z)⟩
        obtain ⟨A3, S3, K3, _⟩ := A2.put (m := .own) (G := gb) so2' r2 ⟨(fun z => nomatch z), (fun z => nomatch z)⟩ (fun _ => nb) (fun b hb => (nb b hb).1) fun _ b hb => hb
        refine ⟨v, w, rfl, q _ H1 _ A3 (S1.trans ⟨fun b o h _ => h, fun b z => ?_⟩) ((K1.kq.trans K2).trans K3)⟩
        rcases S3.own b z with z | z | z
        ·rcases S2.own b (.inl z) with z | z | z
         ·exact .inl z
         ·exact .inr (.inl (List.mem_append_left _ z))
         ·exact .inr (.inr z)
        ·exact .inr (.inl (List.mem_append_right _ (List.mem_append_left _ z)))
        ·exact .inr (.inr z)
  | [], q => exact q.elim
  | [_], q => exact q.elim
  | _ :: _ :: _ :: _, q => exact q.elim
 ·match ds, q with
  | [d1, d2], q => exact ⟨q.1, q.2.1, h _ q.2.2⟩
  | [], q => exact q.elim
  | [_], q => exact q.elim
  | _ :: _ :: _ :: _, q => exact q.elim
end
end BX
namespace BX
open PySem PySem.Spec PyProof.Rows L2
theorem Ok.blk {X : Cx} (h : Ok X) {s : Shared} {H : Hp} {scope : Scope} {cenv : Env} {fp : List Addr} : Ok (X.blk s H scope cenv fp) := ⟨h.calm, h.un⟩
section
variable {X : Cx} {pos : Pos}
theorem qi5 : DE X (.Dict [] [] pos) (dC (.dT [])) := by
 refine ⟨PE.imp pe_dnewT fun σ H Q q => ?_, fun env Q Q' h q => h _ _ q⟩
 obtain ⟨env, f, A, q⟩ := q
 intro p hp
 have x : Ext H (L2.upd H p (.dT [])) [p] := .upd hp
 obtain ⟨A3, R3, S3⟩ := uQ A .refl x (z := .ref p) (d := .dT []) (by
  have := Rep.dT (K := X.K) (H := L2.upd H p (.dT [])) (lv := 0) (a := p) (hs := []) (kvs := []) (f := []) upd_same rfl List.nodup_nil .nil (fun _ z => by simp at z)
  exact this)
 exact q _ _ f [p] A3 R3 S3 .refl
end
end BX
namespace BX
open PySem PySem.Spec PyProof.Rows L2
theorem qdc {g : XG} {te : XE} {kd : Option Bool} {vs : List Nat} {k : List D → En → Prop} {E : En} (F : D → D) : ∀ (ds acc : List D), acc.length + ds.length ≤ sizeLine → k (acc ++ ds.map F) E →
 (∀ d ∈ ds, ∀ (c : Prop) (k1 : D → En → Prop), c → k1 (F d) E → g (mkI kd d) E fun e1 => te e1 fun r e3 => stor r e3 fun dd => c ∧ k1 dd (wM vs e3)) →
 lcL g xYes te kd vs ds E acc k
 | [], acc, hl, h, hs => by
   show k acc E
   simpa using h
 | d :: ds, acc, hl, h, hs => by
   rw [List.length_cons] at hl
   have q := hs d (List.mem_cons_self ..) (acc.length < sizeLine) (fun dd e => lcL g xYes te kd vs ds e (acc ++ [dd]) k) (by omega) (qdc F ds (acc ++ [F d]) (by rw [List.length_append, List.length_singleton]; omega) (by simpa using h) fun d' hd' => hs d' (List.mem_cons_of_mem _ hd'))
   have e : (fun e1 => te e1 fun r e3 => stor r e3 fun dd => acc.length < sizeLine ∧ lcL g xYes te kd vs ds (wM vs e3) (acc ++ [dd]) k) = fun e1 => xYes e1 fun b e2 => (b = true → te e2 fun r e3 => stor r e3 fun dd => acc.length < sizeLine ∧ lcL g xYes te kd vs ds (wM vs e3) (acc ++ [dd]) k) ∧ (b = false → lcL g xYes te kd vs ds (wM vs e2) acc k) :=
    funext fun e1 => propext ⟨fun z => ⟨fun _ => z, fun z => nomatch z⟩, fun z => z.1 rfl⟩
   rw [e] at q
   exact q
theorem QS {α : Type} {g : XG} {tt : XT} {te : XE} {kd : Option Bool} {vs : List Nat} {k : List D → En → Prop} {E : En} (p : α → Bool) (F G : α → D) : ∀ (as : List α) (acc : List D), acc.length + as.length ≤ sizeLine → k (acc ++ (as.filter p).map F) E →
 (∀ a ∈ as, ∀ (c : Prop) (k1 : D → En → Prop) (k2 : En → Prop), c → (p a = true → k1 (F a) E) → (p a = false → k2 E) → g (mkI kd (G a)) E fun e1 => tt e1 fun b e2 => (b = true → te e2 fun r e3 => stor r e3 fun dd => c ∧ k1 dd (wM vs e3)) ∧ (b = false → k2 (wM vs e2))) →
 lcL g tt te kd vs (as.map G) E acc k
 | [], acc, hl, h, hs => by
   show k acc E
   simpa using h
 | a :: as, acc, hl, h, hs => by
   rw [List.length_cons] at hl
   refine hs a (List.mem_cons_self ..) (acc.length < sizeLine) (fun dd e => lcL g tt te kd vs (as.map G) e (acc ++ [dd]) k) (fun e => lcL g tt te kd vs (as.map G) e acc k) (by omega) (fun hp => ?_) (fun hp => ?_)
   ·refine QS p F G as (acc ++ [F a]) (by rw [List.length_append, List.length_singleton]; omega) ?_ fun a' ha' => hs a' (List.mem_cons_of_mem _ ha')
    rw [List.filter_cons_of_pos hp, List.map_cons] at h
    rw [List.append_assoc, List.singleton_append]
    exact h
   ·refine QS p F G as acc (by omega) ?_ fun a' ha' => hs a' (List.mem_cons_of_mem _ ha')
    rw [List.filter_cons_of_neg (by rw [hp]; decide)] at h
    exact h
theorem qeL {α : Type} {g : XG} {te : XE} {kd : Option Bool} {vs : List Nat} {k : List D → En → Prop} {E : En} (F G : α → D) (as : List α) (hl : as.length ≤ sizeLine) (h : k (as.map F) E)
 (hs : ∀ a ∈ as, ∀ (c : Prop) (k1 : D → En → Prop), c → k1 (F a) E → g (mkI kd (G a)) E fun e1 => te e1 fun r e3 => stor r e3 fun dd => c ∧ k1 dd (wM vs e3)) :
 lcL g xYes te kd vs (as.map G) E [] k := by
 refine QS (fun _ => true) F G as [] (by simpa using hl) (by rw [List.filter_eq_self.mpr (fun _ _ => rfl)]; exact h) fun a ha c k1 k2 hc h1 h2 => ?_
 have q := hs a ha c k1 hc (h1 rfl)
 have e : (fun e1 => te e1 fun r e3 => stor r e3 fun dd => c ∧ k1 dd (wM vs e3)) = fun e1 => xYes e1 fun b e2 => (b = true → te e2 fun r e3 => stor r e3 fun dd => c ∧ k1 dd (wM vs e3)) ∧ (b = false → k2 (wM vs e2)) :=
  funext fun e1 => propext ⟨fun z => ⟨fun _ => z, fun z => nomatch z⟩, fun z => z.1 rfl⟩
 rw [e] at q
 exact q
theorem qeQ {α : Type} {F : α → D} (h : ∀ a, (F a).imm = true) (l : List α) : immL (l.map F) = true := uO fun d hd => by
 obtain ⟨a, _, rfl⟩ := List.mem_map.mp hd
 exact h a
theorem Zy {t u : XS} {env : En} {nx : En → Prop} {rt : D → En → Prop} (I : En → Prop) (h1 : ∀ K : En → Prop, (∀ e, I e → K e) → t env K rt) (h2 : ∀ e, I e → u e nx rt) : sSeq t u env nx rt := h1 _ h2
theorem qe6 {α : Type} {F : α → D} {xs : List α} {k : Nat} {a : α} (h : xs[k]? = some a) : atI (xs.map F) (k : Int) = some (F a) := atI_nat (by rw [List.getElem?_map, h]; rfl)
theorem Qo {i j : Int} (h1 : -(2 ^ 64) < i) (h2 : i < 2 ^ 64) : IntMulOk i j := CMul.ok (.inl ⟨h1, h2⟩)
theorem qcZ {i j : Int} (h1 : -(2 ^ 64) < j) (h2 : j < 2 ^ 64) : IntMulOk i j := CMul.ok (.inr ⟨h1, h2⟩)
theorem Yt : ∀ {ms : List Md} {rs : List R} {i : Nat}, (∀ m ∈ ms, m.rd = true) → wR ms rs i = none
 | [], _, _, _ => by unfold wR; rfl
 | _ :: _, [], _, _ => by unfold wR; rfl
 | m :: ms, r :: rs, i, h => by
   rw [wR, h m (List.mem_cons_self ..), Yt fun x hx => h x (List.mem_cons_of_mem _ hx)]
   rfl
theorem qcJ {ms : List Md} {rs : List R} {ds : List D} (h : ∀ m ∈ ms, m.rd = true) : ∀ (k : Nat) (e : En), putB ms rs ds k e = e
 | _, [] => by rw [putB]
 | k, x :: xs => by rw [putB, qcJ h (k + 1) xs, Uq, Yt h]
theorem dFn2 {S : FS} {te tf : XE} {e : En} {Q : R → En → Prop} (hS : S.ms = [.cst, .cst]) : dFn S (ql te (ql tf aNil)) e Q = te e fun r e1 => tf e1 fun r2 e2 => rd 2 r e2 fun d => rd 2 r2 e2 fun d2 => S.wp [d, d2] fun d' _ => Q (.tmp d') e2 := by
 have h : ∀ m ∈ S.ms, m.rd = true := by rw [hS]; simp [Md.rd]
 unfold dFn ql aNil
 refine congrArg (te e) (funext fun r => funext fun e1 => congrArg (tf e1) (funext fun r2 => funext fun e2 => ?_))
 rw [hS] at h ⊢
 have e1' : xP [Md.cst, Md.cst] [r, r2] e2 = true := by cases r <;> cases r2 <;> rfl
 have e2' : apart [Md.cst, Md.cst] [r, r2] = true := by
  unfold apart
  rw [List.all_eq_true]
  intro p hp
  rw [List.all_eq_true]
  intro q hq
  have hp' : p < 2 := by simpa using hp
  have hq' : q < 2 := by simpa using hq
  match p, q, hp', hq' with
  | 0, 0, _, _ => rfl
  | 1, 1, _, _ => rfl
  | 0, 1, _, _ => cases r <;> cases r2 <;> rfl
  | 1, 0, _, _ => cases r <;> cases r2 <;> rfl
 simp only [e1', e2', true_and, qcJ h]
 rfl
section
variable {env e : En} {i j n : Nat} {z : Int} {b c : Bool} {s t : Str} {d d1 d2 : D} {m : Md} {xs ys : List D} {kvs : List (List Key × D)} {kws : List (Key × D)} {k : D → Prop} {Q : R → En → Prop} {nx : En → Prop} {r : R} {x y : Option (D × Md)}
def varM (i : Nat) (m : Md) (d : D) (e : En) (Q : R → En → Prop) : Prop := match m with
 | .ro => Q (.ro false d) e
 | .cst => Q (.ro true d) e
 | .own => Q (.sl i) e
 | .io => Q (.sl i) e
 | .lk => Q (.sl i) e
def varS (i : Nat) (x : Option (Option (D × Md))) (e : En) (Q : R → En → Prop) : Prop := match x with
 | some (some (.int z, _)) => Q (.tmp (.int z)) e
 | some (some (.bl z, _)) => Q (.tmp (.bl z)) e
 | some (some (.str z, _)) => Q (.tmp (.str z)) e
 | some (some (.non, _)) => Q (.tmp .non) e
 | some (some (.dF kvs, .own)) => Q (.ro true (.dT kvs)) e
 | some (some (d, m)) => varM i m d e Q
 | _ => False
theorem xVar : dVar i env Q = varS i env[i]? env Q := by
 unfold dVar varS
 cases env[i]? with
 | none => rfl
 | some x => cases x with
   | none => rfl
   | some p =>
     obtain ⟨d, m⟩ := p
     cases d <;> cases m <;> rfl
def rdS (L : Nat) (x : Option (Option (D × Md))) (k : D → Prop) : Prop := match x with
 | some (some (d, m)) => match m.okL L with
   | true => k d
   | false => False
 | _ => False
theorem xRdS {L : Nat} : rd L (.sl i) e k = rdS L e[i]? k := by
 unfold rd rdS R.data
 dsimp only
 cases e[i]? with
 | none => rfl
 | some x => cases x with
   | none => rfl
   | some p =>
     obtain ⟨d, m⟩ := p
     cases h : m.okL L <;> simp only [h]
theorem xRd2 : rd 2 (.ro c d) e k = k d := by cases c <;> rfl
theorem qjE : rdS 2 (some (some (d, m))) k = k d := by cases m <;> rfl
def qf4 (d : D) (k : List D → Prop) : Prop := match d with
 | .lst ys => immL ys = true ∧ k ys
 | _ => False
theorem qfP {kk : List D → Prop} : Xa (.ro c d) e kk = rd 1 (.ro c d) e fun d => qf4 d kk := rfl
theorem qfO {kk : List D → Prop} : Xa (.sl i) e kk = rd 1 (.sl i) e fun d => qf4 d kk := rfl
def chgS (i : Nat) (x : Option (Option (D × Md))) (k : Nat → D → Md → Prop) : Prop := match x with
 | some (some (d, .own)) => k i d .own
 | some (some (d, .io)) => k i d .io
 | _ => False
def lstM (k : Nat → List D → Md → Prop) (i : Nat) (d : D) (m : Md) : Prop := match d with
 | .lst xs => k i xs m
 | _ => False
def dTM (k : Nat → List (List Key × D) → Md → Prop) (i : Nat) (d : D) (m : Md) : Prop := match d with
 | .dT xs => k i xs m
 | _ => False
def retS (x : Option (Option (D × Md))) (k : D → Prop) : Prop := match x with
 | some (some (d, m)) => (match m with
   | .own => True
   | _ => d.imm = true) ∧ k d
 | _ => False
theorem qjD : retS (some (some (d, .own))) k = k d := by unfold retS; simp
def setS (x : Option (Option (D × Md))) : Bool := match x with
 | some (some (_, .io)) => false
 | some (some (_, .lk)) => false
 | some _ => true
 | none => false
def gNS (i : Nat) (x : Option (Option (D × Md))) (e : En) (k : En → Prop) : Prop := match x with
 | some (some (d, _)) => d.imm = true ∧ k (e.set i (some (d, .own)))
 | _ => False
def tupT (n : Nat) (gs : XGs) (r : R) (e : En) (k : En → Prop) (d : D) : Prop := match d with
 | .tup xs => xs.length = n ∧ kdOf r xs fun kd => gs kd xs e k
 | _ => False
def thS (i : Nat) (m : Md) (x : Option (Option (D × Md))) (e : En) (k : En → Prop) : Prop := match x with
 | some (some (d, .lk)) => k (e.set i (some (d, m)))
 | _ => False
def qiO (i : Nat) (x : Option (Option (D × Md))) (e : En) (k : Option Bool → Lok → En → Prop) (im : Bool) : Prop := match x with
 | some (some (d, m)) => im = true ∧ k none (some (i, m)) (e.set i (some (d, .lk)))
 | _ => False
def seqS (d : D) (r : R) (e : En) (k : List D → Option Bool → Lok → En → Prop) : Prop := match d with
 | .lst xs => yj r e (fun kd lk e1 => k xs kd lk e1) (immL xs)
 | .lF xs => yj r e (fun kd lk e1 => k xs kd lk e1) (immL xs)
 | .tup xs => yj r e (fun kd lk e1 => k xs kd lk e1) (immL xs)
 | _ => False
def qh7 (d : D) (e : En) (k : List D → Option Bool → Lok → En → Prop) : Prop := match d with
 | .int j => -(2 ^ 62) ≤ j ∧ j < 2 ^ 62 ∧ k ((List.range j.toNat).map fun n => .int (n : Nat)) none none e
 | _ => False
def qh6 (d d2 : D) (e : En) (k : List D → Option Bool → Lok → En → Prop) : Prop := match d, d2 with
 | .int i, .int j => (-(2 ^ 62) ≤ i ∧ i < 2 ^ 62 ∧ -(2 ^ 62) ≤ j ∧ j < 2 ^ 62) ∧ k ((List.range (j - i).toNat).map fun n => .int (i + (n : Nat))) none none e
 | _, _ => False
def keyT (ds : List D) (k : List Key → Prop) : Prop := match xU ds with
 | some ks => k ks
 | none => False
def optD (o : Option D) (k : D → Prop) : Prop := match o with
 | some d => k d
 | none => False
def qbb (xs : List D) (k : List Bool → Prop) : Prop := match bools xs with
 | some bs => k bs
 | none => False
def qks (xs : List D) (k : List Int → Prop) : Prop := match intL xs with
 | some bs => k bs
 | none => False
theorem qjw : varS i (some (some (.int z, m))) e Q = Q (.tmp (.int z)) e := rfl
theorem xVbl : varS i (some (some (.bl b, m))) e Q = Q (.tmp (.bl b)) e := rfl
theorem qjq : varS i (some (some (.str s, m))) e Q = Q (.tmp (.str s)) e := rfl
theorem qjr : varS i (some (some (.non, m))) e Q = Q (.tmp .non) e := rfl
theorem qjp : varS i (some (some (.tup xs, m))) e Q = varM i m (.tup xs) e Q := rfl
theorem qjv : varS i (some (some (.lst xs, m))) e Q = varM i m (.lst xs) e Q := rfl
theorem xVdT : varS i (some (some (.dT kvs, m))) e Q = varM i m (.dT kvs) e Q := rfl
theorem xVdK : varS i (some (some (.dK kws, m))) e Q = varM i m (.dK kws) e Q := rfl
theorem qjs : varM i .ro d e Q = Q (.ro false d) e := rfl
theorem qhu : varM i .cst d e Q = Q (.ro true d) e := rfl
theorem qht : varM i .own d e Q = Q (.sl i) e := rfl
theorem qju : varM i .io d e Q = Q (.sl i) e := rfl
theorem qjt : varM i .lk d e Q = Q (.sl i) e := rfl
theorem xRdT : rd n (.tmp d) e k = k d := rfl
theorem qjF : rd 1 (.ro false d) e k = k d := rfl
theorem qd3 : rdS 1 (some (some (d, .own))) k = k d := rfl
theorem qfS : rdS 1 (some (some (d, .io))) k = k d := rfl
theorem qfR : rdS 1 (some (some (d, .lk))) k = k d := rfl
theorem qfQ : rdS 1 (some (some (d, .ro))) k = k d := rfl
theorem xElT {kk : R → Prop} : elem (.tmp d1) d kk = kk (.tmp d) := rfl
theorem xElR {kk : R → Prop} : elem (.ro c d1) d kk = kk (mkRo c d) := rfl
theorem xElS {kk : R → Prop} : elem (.sl i) d kk = (d.imm = true ∧ kk (.tmp d)) := rfl
theorem qjP : mkRo c (.int z) = .tmp (.int z) := rfl
theorem xMbl : mkRo c (.bl b) = .tmp (.bl b) := rfl
theorem qjM : mkRo c (.str s) = .tmp (.str s) := rfl
theorem qjN : mkRo c .non = .tmp .non := rfl
theorem qjL : mkRo c (.tup xs) = .ro c (.tup xs) := rfl
theorem qjO : mkRo c (.lst xs) = .ro c (.lst xs) := rfl
theorem xMdT : mkRo c (.dT kvs) = .ro c (.dT kvs) := rfl
theorem xMdK : mkRo c (.dK kws) = .ro c (.dK kws) := rfl
theorem xStT : stor (.tmp d) e k = k d := rfl
theorem xStR : stor (.ro c d) e k = rd 1 (.ro c d) e fun d => d.imm = true ∧ k d := rfl
theorem xStS : stor (.sl i) e k = rd 1 (.sl i) e fun d => d.imm = true ∧ k d := rfl
theorem xSeT {kk : List D → Prop} : Xa (.tmp (.lst ys)) e kk = kk ys := rfl
theorem xSmL {kk : List D → Prop} : qf4 (.lst ys) kk = (immL ys = true ∧ kk ys) := rfl
theorem xChL {kk : Nat → List D → Md → Prop} : chgL (.sl i) e kk = chgS i e[i]? (lstM kk) := rfl
theorem xChT {kk : Nat → List (List Key × D) → Md → Prop} : chgT (.sl i) e kk = chgS i e[i]? (dTM kk) := rfl
theorem xChG {kk : Nat → D → Md → Prop} : chg (.sl i) e kk = chgS i e[i]? kk := rfl
theorem xCsO {kk : Nat → D → Md → Prop} : chgS i (some (some (d, .own))) kk = kk i d .own := rfl
theorem xCsI {kk : Nat → D → Md → Prop} : chgS i (some (some (d, .io))) kk = kk i d .io := rfl
theorem xLm {kk : Nat → List D → Md → Prop} : lstM kk i (.lst xs) m = kk i xs m := rfl
theorem xTm {kk : Nat → List (List Key × D) → Md → Prop} : dTM kk i (.dT kvs) m = kk i kvs m := rfl
theorem xReT : retR (.tmp d) e k = k d := rfl
theorem xReR : retR (.ro c d) e k = (c = false ∧ d.imm = true ∧ k d) := rfl
theorem xReS : retR (.sl i) e k = retS e[i]? k := rfl
theorem qjC : retS (some (some (d, .io))) k = (d.imm = true ∧ k d) := rfl
theorem qjB : retS (some (some (d, .lk))) k = (d.imm = true ∧ k d) := rfl
theorem qjA : retS (some (some (d, .ro))) k = (d.imm = true ∧ k d) := rfl
theorem qhD : retS (some (some (d, .cst))) k = (d.imm = true ∧ k d) := rfl
theorem qhC : setOk e i = setS e[i]? := rfl
theorem xSn : setS (some none) = true := rfl
theorem qhA : setS (some (some (d, .own))) = true := rfl
theorem qjz : setS (some (some (d, .ro))) = true := rfl
theorem qhB : setS (some (some (d, .cst))) = true := rfl
theorem xGnT : gN i (.tmp d) e nx = (setS e[i]? = true ∧ nx (e.set i (some (d, .own)))) := rfl
theorem xGnR : gN i (.ro c d) e nx = (setS e[i]? = true ∧ nx (e.set i (some (d, roMd c)))) := rfl
theorem xGnS : gN i (.sl j) e nx = (setS e[i]? = true ∧ gNS i e[j]? e nx) := rfl
theorem xGns : gNS i (some (some (d, m))) e nx = (d.imm = true ∧ nx (e.set i (some (d, .own)))) := rfl
theorem xRmF : roMd false = .ro := rfl
theorem xRmT : roMd true = .cst := rfl
theorem xMkN : mkI none d = .tmp d := rfl
theorem xMkS : mkI (some c) d = mkRo c d := rfl
theorem xGT {gs : XGs} : gT n gs r e nx = rd 2 r e (tupT n gs r e nx) := rfl
theorem xTT {gs : XGs} : tupT n gs r e nx (.tup xs) = (xs.length = n ∧ kdOf r xs fun kd => gs kd xs e nx) := rfl
theorem xKdT {kk : Option Bool → Prop} : kdOf (.tmp d) xs kk = kk none := rfl
theorem xKdR {kk : Option Bool → Prop} : kdOf (.ro c d) xs kk = kk (some c) := rfl
theorem xKdS {kk : Option Bool → Prop} : kdOf (.sl i) xs kk = (immL xs = true ∧ kk none) := rfl
theorem xGsN {kd : Option Bool} : jR kd [] e nx = nx e := rfl
theorem xGsC {kd : Option Bool} {g : XG} {gs : XGs} : wN g gs kd (d :: xs) e nx = g (mkI kd d) e fun e => gs kd xs e nx := rfl
theorem xThN : thaw none e nx = nx e := rfl
theorem xThS : thaw (some (i, m)) e nx = thS i m e[i]? e nx := rfl
theorem xTs : thS i m (some (some (d, .lk))) e nx = nx (e.set i (some (d, m))) := rfl
theorem xLoT {kk : Option Bool → Lok → En → Prop} : yj (.tmp d) e kk b = (b = true ∧ kk none none e) := rfl
theorem xLoR {kk : Option Bool → Lok → En → Prop} : yj (.ro c d) e kk b = kk (some c) none e := rfl
theorem xLoS {kk : Option Bool → Lok → En → Prop} : yj (.sl i) e kk b = qiO i e[i]? e kk b := rfl
theorem xLos {kk : Option Bool → Lok → En → Prop} : qiO i (some (some (d, m))) e kk b = (b = true ∧ kk none (some (i, m)) (e.set i (some (d, .lk)))) := rfl
theorem xSeq {u : XE} {kk : List D → Option Bool → Lok → En → Prop} : iSeq u e kk = u e fun r e => rd 2 r e fun d => seqS d r e kk := rfl
theorem xSqL {kk : List D → Option Bool → Lok → En → Prop} : seqS (.lst xs) r e kk = yj r e (fun kd lk e1 => kk xs kd lk e1) (immL xs) := rfl
theorem xSqT {kk : List D → Option Bool → Lok → En → Prop} : seqS (.tup xs) r e kk = yj r e (fun kd lk e1 => kk xs kd lk e1) (immL xs) := rfl
theorem xR1 {u : XE} {kk : List D → Option Bool → Lok → En → Prop} : jH u e kk = u e fun r e => rd 2 r e fun d => qh7 d e kk := rfl
theorem xR1i {kk : List D → Option Bool → Lok → En → Prop} : qh7 (.int z) e kk = (-(2 ^ 62) ≤ z ∧ z < 2 ^ 62 ∧ kk ((List.range z.toNat).map fun n => .int (n : Nat)) none none e) := rfl
theorem xR2 {u v : XE} {kk : List D → Option Bool → Lok → En → Prop} : qgS u v e kk = u e fun r e => v e fun r2 e2 => rd 2 r e2 fun d => rd 2 r2 e2 fun d2 => qh6 d d2 e2 kk := rfl
theorem xR2i {w : Int} {kk : List D → Option Bool → Lok → En → Prop} : qh6 (.int z) (.int w) e kk = ((-(2 ^ 62) ≤ z ∧ z < 2 ^ 62 ∧ -(2 ^ 62) ≤ w ∧ w < 2 ^ 62) ∧ kk ((List.range (w - z).toNat).map fun n => .int (z + (n : Nat))) none none e) := rfl
theorem qj7 {w : Int} : wY (.int z) (.int w) k = k (.int (z + w)) := rfl
theorem qj5 : wY (.str s) (.str t) k = (s.length + t.length ≤ sizeLine ∧ k (.str (s ++ t))) := rfl
theorem qj6 : wY (.lst xs) (.lst ys) k = (immL xs = true ∧ immL ys = true ∧ xs.length + ys.length ≤ sizeLine ∧ k (.lst (xs ++ ys))) := rfl
theorem qj4 : wY (.tup xs) (.tup ys) k = (immL xs = true ∧ immL ys = true ∧ xs.length + ys.length ≤ sizeLine ∧ k (.tup (xs ++ ys))) := rfl
theorem qjK {w : Int} : Qh (.int z) (.int w) k = (IntMulOk z w ∧ k (.int (z * w))) := rfl
theorem qjJ {w : Int} : Qh (.lst xs) (.int w) k = (immL xs = true ∧ -(2 ^ 63) ≤ w ∧ w < 2 ^ 63 ∧ xs.length * w.toNat ≤ sizeLine ∧ k (.lst (List.replicate w.toNat xs).flatten)) := rfl
theorem xOpI {g : Int → Int → D} {w : Int} : Jz g (.int z) (.int w) k = k (g z w) := rfl
theorem xOpC {C : Int → Int → Prop} {g : Int → Int → D} {w : Int} : Wz C g (.int z) (.int w) k = (C z w ∧ k (g z w)) := rfl
theorem xLtI {w : Int} : opLt (.int z) (.int w) k = k (.bl (decide (z < w))) := rfl
theorem qhz {kk : Bool → Prop} : tru (.int z) kk = kk (z != 0) := rfl
theorem qjy {kk : Bool → Prop} : tru (.bl b) kk = kk (b) := rfl
theorem qhy {kk : Bool → Prop} : tru (.lst xs) kk = kk (!xs.isEmpty) := rfl
theorem qhv {kk : Bool → Prop} : tru (.tup xs) kk = kk (!xs.isEmpty) := rfl
theorem qjx {kk : Bool → Prop} : tru (.dK kws) kk = kk (!kws.isEmpty) := rfl
theorem qhx {kk : Bool → Prop} : tru .non kk = kk false := rfl
theorem qhw {kk : Bool → Prop} : tru (.str s) kk = (s.length ≤ sizeLine ∧ kk ((s.length : Int) != 0)) := rfl
theorem qhJ : opIs (.int z) .non k = k (.bl false) := rfl
theorem qhO : uL (.int z) .non k = k (.bl true) := rfl
theorem qjU : opIs (.bl b) .non k = k (.bl false) := rfl
theorem qj1 : uL (.bl b) .non k = k (.bl true) := rfl
theorem qhG : opIs (.str s) .non k = k (.bl false) := rfl
theorem qhL : uL (.str s) .non k = k (.bl true) := rfl
theorem qhF : opIs (.tup xs) .non k = k (.bl false) := rfl
theorem qhK : uL (.tup xs) .non k = k (.bl true) := rfl
theorem qhI : opIs (.lst xs) .non k = k (.bl false) := rfl
theorem qhN : uL (.lst xs) .non k = k (.bl true) := rfl
theorem qjS : opIs (.dT kvs) .non k = k (.bl false) := rfl
theorem qjZ : uL (.dT kvs) .non k = k (.bl true) := rfl
theorem qjT : opIs (.dK kws) .non k = k (.bl false) := rfl
theorem qj0 : uL (.dK kws) .non k = k (.bl true) := rfl
theorem qhH : opIs .non .non k = k (.bl true) := rfl
theorem qhM : uL .non .non k = k (.bl false) := rfl
theorem xIsB : opIs (.bl b) (.bl c) k = k (.bl (decide (b = c))) := rfl
theorem xInB : uL (.bl b) (.bl c) k = k (.bl (!decide (b = c))) := rfl
theorem xInT : Wf b (.tup xs) (.dT kvs) k = keyT xs fun ks => k (.bl (b != hasT kvs ks)) := rfl
theorem xInL : Wf b d (.lst xs) k = (eqOk d = true ∧ eqOk (.lst xs) = true ∧ k (.bl (b != findIn d xs))) := rfl
theorem qj2 : Wf b d (.tup xs) k = (eqOk d = true ∧ eqOk (.tup xs) = true ∧ k (.bl (b != findIn d xs))) := rfl
theorem xInS : Wf b (.str t) (.str s) k = k (.bl (b != !(Builtin.Str.occurrences s t 0 s.length 1).isEmpty)) := rfl
theorem xIxL : ixd (.lst xs) (.int z) k = optD (atI xs z) k := rfl
theorem xIxT : ixd (.tup xs) (.int z) k = optD (atI xs z) k := rfl
theorem xIxD : ixd (.dT kvs) (.tup xs) k = keyT xs fun ks => optD (VR kvs ks) k := rfl
theorem xOp : optD (some d) k = k d := rfl
theorem xLnL : bLen (.lst xs) k = k (.int xs.length) := rfl
theorem xLnT : bLen (.tup xs) k = k (.int xs.length) := rfl
theorem xLnS : bLen (.str s) k = (s.length ≤ sizeLine ∧ k (.int s.length)) := rfl
theorem xLnD : bLen (.dT kvs) k = k (.int kvs.length) := rfl
theorem xLnK : bLen (.dK kws) k = k (.int kws.length) := rfl
theorem xAbs : bAbs (.int z) k = k (.int (if z < 0 then -z else z)) := rfl
theorem qjW : bInt (.int z) k = k (.int z) := rfl
theorem qjY : bInt (.bl b) k = k (.int (if b then 1 else 0)) := rfl
theorem xMin {w : Int} : qbP (.int z) (.int w) k = k (.int (if w < z then w else z)) := rfl
theorem xMax {w : Int} : qkz (.int z) (.int w) k = k (.int (if w > z then w else z)) := rfl
theorem xTuL : uX (.lst xs) k = (immL xs = true ∧ k (.tup xs)) := rfl
theorem xTuT : uX (.tup xs) k = (immL xs = true ∧ k (.tup xs)) := rfl
theorem xLiL : qan (.lst xs) k = (immL xs = true ∧ k (.lst xs)) := rfl
theorem xLiT : qan (.tup xs) k = (immL xs = true ∧ k (.lst xs)) := rfl
theorem xAll : bAll (.lst xs) k = qbb xs fun bs => k (.bl (bs.all id)) := rfl
theorem xAny : bAny (.lst xs) k = qbb xs fun bs => k (.bl (bs.any id)) := rfl
theorem xSum : bSum (.lst xs) k = qks xs fun bs => k (.int bs.sum) := rfl
theorem xOp1 {h : D → (D → Prop) → Prop} : op1 h [d] k = h d k := rfl
theorem xOp2 {h : D → D → (D → Prop) → Prop} : op2 h [d, d1] k = h d d1 k := rfl
theorem xIsl : D.isLst (.lst xs) = true := rfl
theorem xImI : D.imm (.int z) = true := by rw [D.imm]
theorem xImB : D.imm (.bl b) = true := by rw [D.imm]
theorem xImS : D.imm (.str s) = true := by rw [D.imm]
theorem xImN : D.imm .non = true := by rw [D.imm]
theorem xImT : D.imm (.tup xs) = immL xs := by rw [D.imm]
theorem xImC : immL (d :: xs) = (d.imm && immL xs) := by rw [immL]
theorem xImE : immL [] = true := by rw [immL]
theorem xSlN {kk : List D → Prop} : j7 [] e kk = kk [] := rfl
theorem xSlC {rs : List R} {kk : List D → Prop} : j7 (r :: rs) e kk = stor r e fun d => j7 rs e fun ds => kk (d :: ds) := rfl
theorem xRaN {kk : List D → Prop} : uZ n [] e kk = kk [] := rfl
theorem xRaC {rs : List R} {kk : List D → Prop} : uZ n (r :: rs) e kk = rd n r e fun d => uZ n rs e fun ds => kk (d :: ds) := rfl
def putM (di d : D) (e : En) (nx : En → Prop) (i : Nat) (dd : D) (m : Md) : Prop := match dd with
 | .lst xs => match di with
   | .int j => match ixN xs.length j with
     | some n => nx (e.set i (some (.lst (xs.set n d), m)))
     | none => False
   | _ => False
 | .dT kvs => match di with
   | .tup ks => match xU ks with
     | some k => kvs.length < sizeLine ∧ nx (e.set i (some (.dT (putD k d kvs), m)))
     | none => False
   | _ => False
 | _ => False
def optN (o : Option Nat) (k : Nat → Prop) : Prop := match o with
 | some d => k d
 | none => False
def optL (o : Option (List (List Int))) (k : List (List Int) → Prop) : Prop := match o with
 | some d => k d
 | none => False
def okIo (x : Option (Option (D × Md))) : Bool := match x with
 | some (some (_, .own)) => true
 | some (some (_, .io)) => true
 | _ => false
theorem qjV {kk : Int → Prop} : intS (some (some (.int z, m))) kk = kk z := rfl
theorem qjX {kk : Int → Prop} : intD (.int z) kk = kk z := rfl
theorem xBlD {kk : Bool → Prop} : blD (.bl b) kk = kk b := rfl
theorem xPut : putR (.sl i) d1 d e nx = chgS i e[i]? (putM d1 d e nx) := rfl
theorem qjH : putM (.int z) d e nx i (.lst xs) m = optN (ixN xs.length z) fun n => nx (e.set i (some (.lst (xs.set n d), m))) := rfl
theorem qjG : putM (.tup ys) d e nx i (.dT kvs) m = keyT ys fun ks => kvs.length < sizeLine ∧ nx (e.set i (some (.dT (putD ks d kvs), m))) := rfl
theorem xOpN {kk : Nat → Prop} : optN (some n) kk = kk n := rfl
theorem xSoL : jP (.lst xs) k = optL (Yl xs) fun l => k (.lst ((sortI l).map tupI)) := rfl
theorem xSoT : jP (.tup xs) k = optL (Yl xs) fun l => k (.lst ((sortI l).map tupI)) := rfl
theorem xSoD : jP (.dT kvs) k = optL (qde kvs) fun l => k (.lst ((sortI l).map tupI)) := rfl
theorem xAt0 {l : List D} : atI (d :: l) 0 = some d := atI_nat (j := 0) rfl
theorem xAt1 {l : List D} : atI (d :: d1 :: l) 1 = some d1 := atI_nat (j := 1) rfl
theorem xAt2 {l : List D} : atI (d :: d1 :: d2 :: l) 2 = some d2 := atI_nat (j := 2) rfl
theorem xAt3 {l : List D} {d3 : D} : atI (d :: d1 :: d2 :: d3 :: l) 3 = some d3 := atI_nat (j := 3) rfl
theorem xZiR {kk : List D → Option Bool → Lok → En → Prop} : zipS (.ro b d1) (.ro c d2) (.lst xs) (.lst ys) e kk = kk (zipL xs ys) (some (b || c)) none e := rfl
theorem xZiT {kk : List D → Option Bool → Lok → En → Prop} : zipS (.ro b d1) (.ro c d2) (.tup xs) (.tup ys) e kk = kk (zipL xs ys) (some (b || c)) none e := rfl
theorem qjI : Yh .io (.sl i) e = okIo e[i]? := rfl
theorem qhE : Yh .io (.tmp d) e = true := rfl
theorem qb8 : isiB "int" .non = false := by simp [isiB, D.ty]
theorem qd2 : isiB "int" (.bl b) = true := by simp [isiB, D.ty]
theorem qca : isiB "int" (.int z) = true := by simp [isiB, D.ty]
theorem qb7 : isiB "int" (.str s) = false := by simp [isiB, D.ty]
theorem qb6 : isiB "int" (.tup xs) = false := by simp [isiB, D.ty]
theorem qb9 : isiB "int" (.lst xs) = false := by simp [isiB, D.ty]
theorem qd0 : isiB "int" (.dT kvs) = false := by simp [isiB, D.ty]
theorem qd1 : isiB "int" (.dK kws) = false := by simp [isiB, D.ty]
theorem qbr : isiB "bool" .non = false := by simp [isiB, D.ty]
theorem qcd : isiB "bool" (.bl b) = true := by simp [isiB, D.ty]
theorem qbt : isiB "bool" (.int z) = false := by simp [isiB, D.ty]
theorem qbq : isiB "bool" (.str s) = false := by simp [isiB, D.ty]
theorem qbp : isiB "bool" (.tup xs) = false := by simp [isiB, D.ty]
theorem qbs : isiB "bool" (.lst xs) = false := by simp [isiB, D.ty]
theorem qcb : isiB "bool" (.dT kvs) = false := by simp [isiB, D.ty]
theorem qcc : isiB "bool" (.dK kws) = false := by simp [isiB, D.ty]
theorem qb0 : isiB "str" .non = false := by simp [isiB, D.ty]
theorem qdZ : isiB "str" (.bl b) = false := by simp [isiB, D.ty]
theorem qb2 : isiB "str" (.int z) = false := by simp [isiB, D.ty]
theorem qbZ : isiB "str" (.str s) = true := by simp [isiB, D.ty]
theorem qbY : isiB "str" (.tup xs) = false := by simp [isiB, D.ty]
theorem qb1 : isiB "str" (.lst xs) = false := by simp [isiB, D.ty]
theorem qdX : isiB "str" (.dT kvs) = false := by simp [isiB, D.ty]
theorem qdY : isiB "str" (.dK kws) = false := by simp [isiB, D.ty]
theorem Ux : isiB "tuple" .non = false := by simp [isiB, D.ty]
theorem qbj : isiB "tuple" (.bl b) = false := by simp [isiB, D.ty]
theorem Uz : isiB "tuple" (.int z) = false := by simp [isiB, D.ty]
theorem Uw : isiB "tuple" (.str s) = false := by simp [isiB, D.ty]
theorem Uv : isiB "tuple" (.tup xs) = true := by simp [isiB, D.ty]
theorem Uy : isiB "tuple" (.lst xs) = false := by simp [isiB, D.ty]
theorem qbh : isiB "tuple" (.dT kvs) = false := by simp [isiB, D.ty]
theorem qbi : isiB "tuple" (.dK kws) = false := by simp [isiB, D.ty]
theorem qbm : isiB "list" .non = false := by simp [isiB, D.ty]
theorem qb5 : isiB "list" (.bl b) = false := by simp [isiB, D.ty]
theorem qbo : isiB "list" (.int z) = false := by simp [isiB, D.ty]
theorem qbl : isiB "list" (.str s) = false := by simp [isiB, D.ty]
theorem qbk : isiB "list" (.tup xs) = false := by simp [isiB, D.ty]
theorem qbn : isiB "list" (.lst xs) = true := by simp [isiB, D.ty]
theorem qb3 : isiB "list" (.dT kvs) = false := by simp [isiB, D.ty]
theorem qb4 : isiB "list" (.dK kws) = false := by simp [isiB, D.ty]
theorem qhQ : eqOk (.int z) = true := rfl
theorem qj3 : eqOk (.bl b) = true := rfl
theorem qhP : eqOk .non = true := rfl
theorem xDqI {w : Int} : deq (.int z) (.int w) = decide (z = w) := by unfold deq; rw [D.py, D.py, PyData.eqv]; rfl
theorem xDqB : deq (.bl b) (.bl c) = decide (b = c) := by unfold deq; cases b <;> cases c <;> simp [D.py, PyData.eqv]
theorem xDqS : deq (.str s) (.str t) = (s == t) := by unfold deq; rw [D.py, D.py, PyData.eqv]
theorem xKe2 {w : Int} {kk : List Key → Prop} : keyT [.int z, .int w] kk = kk [.inl z, .inl w] := rfl
theorem xKe3 {w x3 : Int} {kk : List Key → Prop} : keyT [.int z, .int w, .int x3] kk = kk [.inl z, .inl w, .inl x3] := rfl
theorem xKe4 {w x3 x4 : Int} {kk : List Key → Prop} : keyT [.int z, .int w, .int x3, .int x4] kk = kk [.inl z, .inl w, .inl x3, .inl x4] := rfl
theorem qjR {w x3 : Int} {kk : List Key → Prop} : keyT [.str s, .int w, .int x3] kk = kk [.inr s, .inl w, .inl x3] := rfl
theorem qjQ {w x3 x4 : Int} {kk : List Key → Prop} : keyT [.str s, .int w, .int x3, .int x4] kk = kk [.inr s, .inl w, .inl x3, .inl x4] := rfl
theorem xOkA : xP [] [] e = true := rfl
theorem xOkB {ms : List Md} {rs : List R} : xP (m :: ms) (r :: rs) e = (Yh m r e && xP ms rs e) := rfl
theorem xOkC : Yh .cst r e = true := rfl
theorem xIoO : okIo (some (some (d, .own))) = true := rfl
theorem xIoI : okIo (some (some (d, .io))) = true := rfl
end
end BX
namespace TX
open PySem PySem.Spec PyProof.Rows L2 BX
section
variable {α β γ δ κ : Type}
abbrev eB : Bool → D := D.bl
def eN (_ : Unit) : D := .non
def eA (d : D) : D := d
def eT1 (f : α → D) (p : α) : D := .tup [f p]
def eT2 (f : α → D) (g : β → D) (p : α × β) : D := .tup [f p.1, g p.2]
def eT3 (f : α → D) (g : β → D) (h : γ → D) (p : α × β × γ) : D := .tup [f p.1, g p.2.1, h p.2.2]
def eT4 (f : α → D) (g : β → D) (h : γ → D) (i : δ → D) (p : α × β × γ × δ) : D := .tup [f p.1, g p.2.1, h p.2.2.1, i p.2.2.2]
def eL (f : α → D) (l : List α) : D := .lst (l.map f)
def eV (f : α → D) (l : List α) : D := .tup (l.map f)
def eO (f : α → D) : Option α → D
 | none => .non
 | some a => f a
def eDT (kf : κ → List Key) (f : α → D) (l : List (κ × α)) : D := .dT (l.map fun p => (kf p.1, f p.2))
def eP (t : Int × Int) : D := .lst [.int t.1, .int t.2]
class Im (f : α → D) : Prop where
 im : ∀ a, (f a).imm = true
instance : Im D.int := ⟨fun _ => by rw [D.imm]⟩
instance : Im D.bl := ⟨fun _ => by rw [D.imm]⟩
instance : Im D.str := ⟨fun _ => by rw [D.imm]⟩
instance : Im eN := ⟨fun _ => by rw [eN, D.imm]⟩
instance {f : α → D} [hf : Im f] : Im (eT1 f) := ⟨fun p => by simp [eT1, D.imm, immL, hf.im]⟩
instance {f : α → D} {g : β → D} [hf : Im f] [hg : Im g] : Im (eT2 f g) := ⟨fun p => by simp [eT2, D.imm, immL, hf.im, hg.im]⟩
instance {f : α → D} {g : β → D} {h : γ → D} [hf : Im f] [hg : Im g] [hh : Im h] : Im (eT3 f g h) := ⟨fun p => by simp [eT3, D.imm, immL, hf.im, hg.im, hh.im]⟩
instance {f : α → D} {g : β → D} {h : γ → D} {i : δ → D} [hf : Im f] [hg : Im g] [hh : Im h] [hi : Im i] : Im (eT4 f g h i) := ⟨fun p => by simp [eT4, D.imm, immL, hf.im, hg.im, hh.im, hi.im]⟩
theorem imL {f : α → D} [hf : Im f] (l : List α) : immL (l.map f) = true := qeQ hf.im l
instance {f : α → D} [hf : Im f] : Im (eV f) := ⟨fun p => by rw [eV, D.imm]; exact imL p⟩
instance {f : α → D} [hf : Im f] : Im (eO f) := ⟨fun p => by cases p with
 | none => rw [eO, D.imm]
 | some a => rw [eO]; exact hf.im a⟩
class Eqd [DecidableEq α] (f : α → D) (n : outParam Nat) : Prop where
 lay : ∀ a, PyData.canLay0 (f a).py = true ∧ PyData.depth (f a).py ≤ n
 eq : ∀ a b, PyData.eqv (f a).py (f b).py = decide (a = b)
end
abbrev aR (Q : R → En → Prop) (r : R) (e : En) : Prop := Q r e
abbrev aB (Q : Bool → En → Prop) (b : Bool) (e : En) : Prop := Q b e
abbrev aL (Q : List R → En → Prop) (rs : List R) (e : En) : Prop := Q rs e
abbrev aN (nx : En → Prop) (e : En) : Prop := nx e
abbrev aD (rt : D → En → Prop) (d : D) (e : En) : Prop := rt d e
abbrev aI (k : List D → Option Bool → Lok → En → Prop) (ds : List D) (kd : Option Bool) (lk : Lok) (e : En) : Prop := k ds kd lk e
abbrev aK (k : List D → En → Prop) (ds : List D) (e : En) : Prop := k ds e
def D.big : D → Bool
 | .int _ => false
 | .bl _ => false
 | .str _ => false
 | .non => false
 | .dF _ => false
 | _ => true
inductive Rv (e : En) : Nat → R → D → Prop
 | tmp {L : Nat} {d : D} : Rv e L (.tmp d) d
 | ro {L : Nat} {d : D} : Rv e (L + 1) (.ro false d) d
 | cst {L : Nat} {d : D} : Rv e (L + 2) (.ro true d) d
 | sl {L : Nat} {i : Nat} {d : D} {m : Md} : e[i]? = some (some (d, m)) → m.okL L = true → Rv e L (.sl i) d
section
variable {e : En} {L : Nat} {r r1 r2 : R} {d d1 d2 : D}
theorem Rv.rd (h : Rv e L r d) {k : D → Prop} (q : k d) : rd L r e k := by
 cases h with
 | tmp => exact q
 | ro => exact q
 | cst => exact q
 | sl h hm => unfold BX.rd R.data; simp only [h, hm]; exact q
theorem qil {m : Md} {L : Nat} (h : m.okL L = true) : m.okL (L + 1) = true := by
 cases m <;> first | rfl | (cases L with
  | zero => first | exact h | cases h | rfl
  | succ n => cases n with
    | zero => first | exact h | cases h | rfl
    | succ n => rfl)
theorem Rv.up (h : Rv e 1 r d) : Rv e 2 r d := by
 cases h with
 | tmp => exact .tmp
 | ro => exact .ro
 | sl h hm => exact .sl h (qil hm)
def St (e : En) (r : R) (d : D) : Prop := ∀ k : D → Prop, k d → stor r e k
theorem St.tmp : St e (.tmp d) d := fun k q => q
theorem St.of (h : Rv e 1 r d) (hi : d.imm = true) : St e r d := fun k q => by
 cases r with
 | tmp x => cases h; exact q
 | ro c x => exact h.rd ⟨hi, q⟩
 | sl i => exact h.rd ⟨hi, q⟩
inductive StL (e : En) : List R → List D → Prop
 | nil : StL e [] []
 | cons {r : R} {d : D} {rs : List R} {ds : List D} : St e r d → StL e rs ds → StL e (r :: rs) (d :: ds)
theorem StL.go : ∀ {rs : List R} {ds : List D}, StL e rs ds → ∀ {k : List D → Prop}, k ds → j7 rs e k
 | _, _, .nil, k, q => q
 | _, _, .cons h t, k, q => h _ (t.go (k := fun ds => k (_ :: ds)) q)
inductive RvL (e : En) (L : Nat) : List R → List D → Prop
 | nil : RvL e L [] []
 | cons {r : R} {d : D} {rs : List R} {ds : List D} : Rv e L r d → RvL e L rs ds → RvL e L (r :: rs) (d :: ds)
theorem RvL.go : ∀ {rs : List R} {ds : List D}, RvL e L rs ds → ∀ {k : List D → Prop}, k ds → uZ L rs e k
 | _, _, .nil, k, q => q
 | _, _, .cons h t, k, q => h.rd (t.go (k := fun ds => k (_ :: ds)) q)
end
end TX
namespace TX
open PySem PySem.Spec PyProof.Rows L2 BX
section
variable {e e1 e' : En} {L : Nat} {r r1 r2 : R} {d d1 d2 d3 : D} {Q : R → En → Prop} {QB : Bool → En → Prop} {QA : List R → En → Prop} {i j : Nat} {α β : Type}
def vr (e : En) (i : Nat) : Option R := match e[i]? with
 | some (some (.int z, _)) => some (.tmp (.int z))
 | some (some (.bl z, _)) => some (.tmp (.bl z))
 | some (some (.str z, _)) => some (.tmp (.str z))
 | some (some (.non, _)) => some (.tmp .non)
 | some (some (.dF kvs, .own)) => some (.ro true (.dT kvs))
 | some (some (d, .ro)) => some (.ro false d)
 | some (some (d, .cst)) => some (.ro true d)
 | some (some (_, .own)) => some (.sl i)
 | some (some (_, .io)) => some (.sl i)
 | some (some (_, .lk)) => some (.sl i)
 | _ => none
theorem qw (h0 : vr e i = some r) (q : aR Q r e) : dVar i e Q := by
 unfold vr at h0
 unfold dVar
 cases he : e[i]? with
 | none => rw [he] at h0; cases h0
 | some x => cases x with
   | none => rw [he] at h0; cases h0
   | some p =>
     obtain ⟨d, m⟩ := p
     rw [he] at h0
     cases d <;> first | (cases h0; exact q) | (cases m <;> (cases h0; exact q))
def D.isF : D → Bool
 | .dF _ => true
 | _ => false
theorem qiZ {f : α → D} {o : Option α} (h : ∀ x, D.isF (f x) = false) : D.isF (eO f o) = false := by
 cases o with
 | none => rfl
 | some x => exact h x
theorem qa9 {m : Md} (h0 : e[i]? = some (some (d, m))) (hm : m.okL 1 = true) (q : ∀ r, Rv e 1 r d → aR Q r e) (hd : D.isF d = false := by first | rfl | exact qiZ fun _ => rfl) : dVar i e Q := by
 have hs : Rv e 1 (.sl i) d := .sl h0 hm
 unfold dVar
 rw [h0]
 cases d <;> first | (cases hd; done) | exact q _ .tmp | (cases m <;> first | exact q _ .ro | (cases hm; done) | exact q _ hs)
theorem c_C (q : aR Q (.tmp d) e) : dC d e Q := q
def OpTo (op : OP) (d1 d2 d : D) : Prop := ∀ k : D → Prop, k d → op d1 d2 k
theorem qM {op : OP} {t u : XE} (q : t e fun r1 e1 => u e1 fun r2 e2 => rd L r1 e2 fun d1 => rd L r2 e2 fun d2 => op d1 d2 fun d => aR Q (.tmp d) e2) : dBin L op t u e Q := q
theorem qK {op : OP} (h1 : Rv e L r1 d1) (h2 : Rv e L r2 d2) (ho : OpTo op d1 d2 d) (q : aR Q (.tmp d) e) : rd L r1 e fun d1 => rd L r2 e fun d2 => op d1 d2 fun d => aR Q (.tmp d) e := h1.rd (h2.rd (ho (fun d => aR Q (.tmp d) e) q))
section
variable {a b : Int}
theorem wH : OpTo wY (.int a) (.int b) (.int (a + b)) := fun k q => q
theorem yC : OpTo j9 (.int a) (.int b) (.int (a - b)) := fun k q => q
theorem Vx (h : IntMulOk a b) : OpTo Qh (.int a) (.int b) (.int (a * b)) := fun k q => ⟨h, q⟩
theorem Qg (h : 0 < b) : OpTo u5 (.int a) (.int b) (.int (a % b)) := fun k q => ⟨h, q⟩
theorem qcO (h : CDiv a b) : OpTo qcP (.int a) (.int b) (.int (a / b)) := fun k q => ⟨h, q⟩
theorem qaO : OpTo opLt (.int a) (.int b) (.bl (decide (a < b))) := fun k q => q
theorem Jy : OpTo opGt (.int a) (.int b) (.bl (decide (b < a))) := fun k q => q
end
theorem Vz {f : α → D} [Im f] {a b : List α} (h : a.length + b.length ≤ sizeLine) : OpTo wY (eL f a) (eL f b) (eL f (a ++ b)) := fun k q => ⟨imL a, imL b, by simpa using h, by rw [← List.map_append]; exact q⟩
theorem Vy {f : α → D} [Im f] {a b : List α} (h : a.length + b.length ≤ sizeLine) : OpTo wY (eV f a) (eV f b) (eV f (a ++ b)) := fun k q => ⟨imL a, imL b, by simpa using h, by rw [← List.map_append]; exact q⟩
class Ints (f : α → D) (tl : outParam (α → List Int)) : Prop where
 isx : ∀ a, f a = .tup ((tl a).map .int)
 ne : ∀ a, tl a ≠ []
def tl2 (c : Int × Int) : List Int := [c.1, c.2]
def tl3 (c : Int × Int × Int) : List Int := [c.1, c.2.1, c.2.2]
def tl4 (c : Int × Int × Int × Int) : List Int := [c.1, c.2.1, c.2.2.1, c.2.2.2]
instance : Ints (eT2 D.int D.int) tl2 := ⟨fun _ => rfl, fun _ => by simp [tl2]⟩
instance : Ints (eT3 D.int D.int D.int) tl3 := ⟨fun _ => rfl, fun _ => by simp [tl3]⟩
instance : Ints (eT4 D.int D.int D.int D.int) tl4 := ⟨fun _ => rfl, fun _ => by simp [tl4]⟩
theorem JQ : ∀ l : List Int, intL (l.map .int) = some l
 | [] => rfl
 | i :: l => by rw [List.map_cons, BX.intL, JQ l]; rfl
section
variable [DecidableEq α] {f : α → D} {n : Nat} [hf : Eqd f n] {a b : α}
theorem Eqd.ok (hn : n ≤ 64) (a : α) : eqOk (f a) = true := by
 have := hf.lay a
 unfold eqOk SeqAt.shaped
 simp only [this.1, Bool.true_and, decide_eq_true_eq]
 omega
theorem op_eq (hn : n ≤ 64 := by decide) : OpTo opEq (f a) (f b) (.bl (decide (a = b))) := fun k q => ⟨Eqd.ok hn a, Eqd.ok hn b, by rw [deq, hf.eq]; exact q⟩
theorem op_ne (hn : n ≤ 64 := by decide) : OpTo opNe (f a) (f b) (.bl (!decide (a = b))) := fun k q => ⟨Eqd.ok hn a, Eqd.ok hn b, by rw [deq, hf.eq]; exact q⟩
end
end
end TX
namespace TX
open PySem PySem.Spec PyProof.Rows L2 BX
section
variable {α β γ δ κ : Type}
instance : Eqd D.int 0 := ⟨fun a => by simp [D.py, PyData.canLay0, PyData.depth], fun a b => by simp only [D.py, PyData.eqv]; by_cases h : a = b <;> simp [h]⟩
instance : Eqd D.bl 0 := ⟨fun a => by simp [D.py, PyData.canLay0, PyData.depth], fun a b => by cases a <;> cases b <;> simp [D.py, PyData.eqv]⟩
section
variable [DecidableEq α] [DecidableEq β] [DecidableEq γ] [DecidableEq δ] {f : α → D} {g : β → D} {h : γ → D} {i : δ → D} {n m k l : Nat}
instance [hf : Eqd f n] [hg : Eqd g m] : Eqd (eT2 f g) (n + m + 1) := ⟨fun a => by
 have h1 := hf.lay a.1; have h2 := hg.lay a.2
 simp only [eT2, D.py, pyL, PyData.canLay0, PyData.canLayAll0, PyData.depth, PyData.depthAll, h1.1, h2.1, Bool.and_self, Bool.true_and, true_and]
 omega, fun a b => by
 simp only [eT2, D.py, pyL, PyData.eqv, PyData.eqvAll, hf.eq, hg.eq, Bool.and_true, Prod.ext_iff, Bool.decide_and]⟩
instance [hf : Eqd f n] [hg : Eqd g m] [hh : Eqd h k] : Eqd (eT3 f g h) (n + m + k + 1) := ⟨fun a => by
 have h1 := hf.lay a.1; have h2 := hg.lay a.2.1; have h3 := hh.lay a.2.2
 simp only [eT3, D.py, pyL, PyData.canLay0, PyData.canLayAll0, PyData.depth, PyData.depthAll, h1.1, h2.1, h3.1, Bool.and_self, Bool.true_and, true_and]
 omega, fun a b => by
 simp only [eT3, D.py, pyL, PyData.eqv, PyData.eqvAll, hf.eq, hg.eq, hh.eq, Bool.and_true, Prod.ext_iff, Bool.decide_and]⟩
instance [hf : Eqd f n] [hg : Eqd g m] [hh : Eqd h k] [hi : Eqd i l] : Eqd (eT4 f g h i) (n + m + k + l + 1) := ⟨fun a => by
 have h1 := hf.lay a.1; have h2 := hg.lay a.2.1; have h3 := hh.lay a.2.2.1; have h4 := hi.lay a.2.2.2
 simp only [eT4, D.py, pyL, PyData.canLay0, PyData.canLayAll0, PyData.depth, PyData.depthAll, h1.1, h2.1, h3.1, h4.1, Bool.and_self, Bool.true_and, true_and]
 omega, fun a b => by
 simp only [eT4, D.py, pyL, PyData.eqv, PyData.eqvAll, hf.eq, hg.eq, hh.eq, hi.eq, Bool.and_true, Prod.ext_iff, Bool.decide_and]⟩
theorem qac [hf : Eqd f n] : ∀ l : List α, PyData.canLayAll0 (pyL (l.map f)) = true ∧ PyData.depthAll (pyL (l.map f)) ≤ n
 | [] => by simp [pyL, PyData.canLayAll0, PyData.depthAll]
 | a :: l => by
   have h1 := hf.lay a; have h2 := qac l
   simp only [List.map_cons, pyL, PyData.canLayAll0, PyData.depthAll, h1.1, h2.1, Bool.and_self, true_and]
   omega
theorem qdv [hf : Eqd f n] : ∀ l m : List α, PyData.eqvAll (pyL (l.map f)) (pyL (m.map f)) = decide (l = m)
 | [], [] => by simp [pyL, PyData.eqvAll]
 | [], b :: m => by simp [pyL, PyData.eqvAll]
 | a :: l, [] => by simp [pyL, PyData.eqvAll]
 | a :: l, b :: m => by
   have := qdv l m
   simp only [List.map_cons, pyL, PyData.eqvAll, hf.eq, this, List.cons.injEq, Bool.decide_and]
instance [hf : Eqd f n] : Eqd (eL f) (n + 1) := ⟨fun a => by
 have := qac (f := f) a
 simp only [eL, D.py, PyData.canLay0, PyData.depth, this.1, true_and]; omega, fun a b => by simp only [eL, D.py, PyData.eqv, qdv]⟩
instance [hf : Eqd f n] : Eqd (eV f) (n + 1) := ⟨fun a => by
 have := qac (f := f) a
 simp only [eV, D.py, PyData.canLay0, PyData.depth, this.1, true_and]; omega, fun a b => by simp only [eV, D.py, PyData.eqv, qdv]⟩
theorem J5 [hf : Eqd f n] (a : α) : ∀ l : List α, findIn (f a) (l.map f) = decide (a ∈ l)
 | [] => by simp [findIn]
 | b :: l => by
   rw [List.map_cons, findIn, J5 a l, deq, hf.eq]
   simp only [List.mem_cons]
   by_cases h1 : b = a
   ·subst h1; simp
   ·have h2 : ¬ a = b := fun z => h1 z.symm
    simp [h1, h2]
variable {e : En}
theorem qfl [hf : Eqd f n] {a : α} {l : List α} (hn : n + 1 ≤ 64 := by decide) : OpTo opIn (f a) (eV f l) (.bl (decide (a ∈ l))) := fun k q => by
 refine ⟨Eqd.ok (by omega) a, Eqd.ok (f := eV f) hn l, ?_⟩
 rw [J5]; simpa using q
end
def hasA [DecidableEq κ] (l : List (κ × α)) (k : κ) : Bool := l.any fun p => decide (p.1 = k)
def getA [DecidableEq κ] (l : List (κ × α)) (k : κ) : Option α := (l.find? fun p => decide (p.1 = k)).map (·.2)
def putA [DecidableEq κ] (k : κ) (v : α) : List (κ × α) → List (κ × α)
 | [] => [(k, v)]
 | p :: r => if p.1 = k then (p.1, v) :: r else p :: putA k v r
class Kt (f : κ → D) (kf : outParam (κ → List Key)) : Prop where
 key : ∀ c, ∃ ds, f c = .tup ds ∧ xU ds = some (kf c)
 inj : ∀ c d, kf c = kf d → c = d
class Kk (f : κ → D) (kf : outParam (κ → Key)) : Prop where
 key : ∀ c, dKey (f c) = some (kf c)
 inj : ∀ c d, kf c = kf d → c = d
instance : Kk D.int Sum.inl := ⟨fun _ => rfl, fun _ _ h => Sum.inl.inj h⟩
instance : Kk D.str Sum.inr := ⟨fun _ => rfl, fun _ _ h => Sum.inr.inj h⟩
def kf2 (k : α → Key) (l : β → Key) (p : α × β) : List Key := [k p.1, l p.2]
def kf3 (k : α → Key) (l : β → Key) (m : γ → Key) (p : α × β × γ) : List Key := [k p.1, l p.2.1, m p.2.2]
def kf4 (k : α → Key) (l : β → Key) (m : γ → Key) (o : δ → Key) (p : α × β × γ × δ) : List Key := [k p.1, l p.2.1, m p.2.2.1, o p.2.2.2]
instance {f : α → D} {g : β → D} {k : α → Key} {l : β → Key} [hf : Kk f k] [hg : Kk g l] : Kt (eT2 f g) (kf2 k l) := ⟨fun c => ⟨_, rfl, by simp [xU, hf.key, hg.key, kf2]⟩, fun c d h => by
 simp only [kf2, List.cons.injEq, and_true] at h
 exact Prod.ext (hf.inj _ _ h.1) (hg.inj _ _ h.2)⟩
instance {f : α → D} {g : β → D} {h : γ → D} {k : α → Key} {l : β → Key} {m : γ → Key} [hf : Kk f k] [hg : Kk g l] [hh : Kk h m] : Kt (eT3 f g h) (kf3 k l m) := ⟨fun c => ⟨_, rfl, by simp [xU, hf.key, hg.key, hh.key, kf3]⟩, fun c d h => by
 simp only [kf3, List.cons.injEq, and_true] at h
 exact Prod.ext (hf.inj _ _ h.1) (Prod.ext (hg.inj _ _ h.2.1) (hh.inj _ _ h.2.2))⟩
instance {f : α → D} {g : β → D} {h : γ → D} {i : δ → D} {k : α → Key} {l : β → Key} {m : γ → Key} {o : δ → Key} [hf : Kk f k] [hg : Kk g l] [hh : Kk h m] [hi : Kk i o] : Kt (eT4 f g h i) (kf4 k l m o) := ⟨fun c => ⟨_, rfl, by simp [xU, hf.key, hg.key, hh.key, hi.key, kf4]⟩, fun c d h => by
 simp only [kf4, List.cons.injEq, and_true] at h
 exact Prod.ext (hf.inj _ _ h.1) (Prod.ext (hg.inj _ _ h.2.1) (Prod.ext (hh.inj _ _ h.2.2.1) (hi.inj _ _ h.2.2.2)))⟩
section
variable [DecidableEq κ] {c : κ → D} {kf : κ → List Key} [hk : Kt c kf] {f : α → D} {l : List (κ × α)} {k : κ} {v : α}
include hk in
theorem kinj {a b : κ} : kf a = kf b ↔ a = b := ⟨hk.inj a b, fun h => h ▸ rfl⟩
include hk in
theorem V9 : hasT (l.map fun p => (kf p.1, f p.2)) (kf k) = hasA l k := by
 unfold hasT hasA
 rw [List.any_map]
 congr 1
 funext p
 simp only [Function.comp, kinj (c := c)]
include hk in
theorem qeI : VR (l.map fun p => (kf p.1, f p.2)) (kf k) = (getA l k).map f := by
 unfold VR getA
 induction l with
 | nil => rfl
 | cons p l ih =>
   rw [List.map_cons, List.find?_cons, List.find?_cons]
   by_cases h : p.1 = k
   ·simp [h]
   ·have : ¬ kf p.1 = kf k := fun z => h (hk.inj _ _ z)
    simp only [h, this, decide_false]
    exact ih
include hk in
theorem qgi : putD (kf k) (f v) (l.map fun p => (kf p.1, f p.2)) = (putA k v l).map fun p => (kf p.1, f p.2) := by
 induction l with
 | nil => rfl
 | cons p l ih =>
   rw [List.map_cons, putD, putA]
   by_cases h : p.1 = k
   ·simp [h]
   ·have : ¬ kf p.1 = kf k := fun z => h (hk.inj _ _ z)
    rw [if_neg this, if_neg h, ih]; rfl
theorem qgn : OpTo Xm (c k) (eDT kf f l) (.bl (!hasA l k)) := fun kk q => by
 obtain ⟨ds, h1, h2⟩ := hk.key k
 rw [h1]
 unfold eDT Xm Wf
 simp only [h2, V9 (c := c)]
 simpa using q
end
theorem qdf {d : D} (h : BX.isNon d = false) {k : D → Prop} (q : k (.bl false)) : opIs d .non k := by
 unfold opIs; simp only [h]; exact q
class Nn (f : α → D) : Prop where
 nn : ∀ a, BX.isNon (f a) = false
instance : Nn D.int := ⟨fun _ => rfl⟩
instance : Nn D.bl := ⟨fun _ => rfl⟩
instance : Nn D.str := ⟨fun _ => rfl⟩
instance {f : α → D} {g : β → D} : Nn (eT2 f g) := ⟨fun _ => rfl⟩
instance {f : α → D} {g : β → D} {h : γ → D} : Nn (eT3 f g h) := ⟨fun _ => rfl⟩
instance {f : α → D} {g : β → D} {h : γ → D} {i : δ → D} : Nn (eT4 f g h i) := ⟨fun _ => rfl⟩
instance {f : α → D} : Nn (eV f) := ⟨fun _ => rfl⟩
instance {f : α → D} : Nn (eL f) := ⟨fun _ => rfl⟩
theorem qih {f : α → D} [hf : Nn f] {a : Option α} : OpTo opIs (eO f a) .non (.bl a.isNone) := fun k q => by
 cases a with
 | none => exact q
 | some a => exact qdf (hf.nn a) q
end
end TX
namespace BX
open PySem PySem.Spec PyProof.Rows L2
structure Pr where
 at' : Addr
 kat : Addr
 key : List Key
 val : V
def PrOk (K : PySem.W.Frag) (H : Hp) (x : Pr) : Prop := SqT K H x.at' [.ref x.kat, x.val] ∧ H x.kat = some (.tup (x.key.map kV))
def putAll (kvs : List (List Key × V)) (l : List Pr) : List (List Key × V) := l.foldl (fun a x => putK a x.key x.val) kvs
theorem Yy (l : List Pr) : ∀ kvs, (putAll kvs l).length ≤ kvs.length + l.length := by
 induction l with
 | nil => intro kvs; exact Nat.le_refl _
 | cons x l ih =>
   intro kvs
   have h1 := ih (putK kvs x.key x.val)
   have h2 := length_putK kvs x.key x.val
   rw [List.length_cons]
   show (putAll (putK kvs x.key x.val) l).length ≤ _
   omega
section
variable {X : Cx} {pins : List (Addr × Obj)} {σ : L2.St} {H : Hp} {s : Shared}
inductive Trip (H : Hp) (h : Heap) : List Pr → List (List Key × Addr × Value) → Prop
 | nil : Trip H h [] []
 | cons {x : Pr} {u : Value} {l : List Pr} {ts : List (List Key × Addr × Value)} : RelV x.val u → IsTup h x.at' #[.ref x.kat, u] → H x.kat = some (.tup (x.key.map kV)) → Trip H h l ts → Trip H h (x :: l) ((x.key, x.kat, u) :: ts)
theorem Vc (I : Inv X pins σ H s) : ∀ {l : List Pr}, (∀ x ∈ l, PrOk X.K H x) → ∃ ts, Trip H s.heap l ts
 | [], _ => ⟨[], .nil⟩
 | x :: l, h => by
   obtain ⟨ts, ht⟩ := Vc I fun y hy => h y (List.mem_cons_of_mem _ hy)
   obtain ⟨h1, h2⟩ := h x (List.mem_cons_self ..)
   obtain ⟨its, rv, hT, _⟩ := I.tuple h1
   obtain ⟨u, y, ei, ru, ry⟩ := vals2 rv
   subst ei
   cases (show u = Value.ref x.kat from ru)
   exact ⟨_, .cons ry hT h2 ht⟩
theorem Trip.len {h : Heap} : ∀ {l : List Pr} {ts : List (List Key × Addr × Value)}, Trip H h l ts → ts.length = l.length
 | _, _, .nil => rfl
 | _, _, .cons _ _ _ t => by rw [List.length_cons, List.length_cons, t.len]
theorem Trip.get {h : Heap} : ∀ {l : List Pr} {ts : List (List Key × Addr × Value)} {j : Nat} {t : List Key × Addr × Value}, Trip H h l ts → ts[j]? = some t → ∃ x, l[j]? = some x ∧ t.2.1 = x.kat ∧ IsTup h x.at' #[.ref t.2.1, t.2.2]
 | _, _, 0, _, .cons r i e t, q => by cases q; exact ⟨_, rfl, rfl, i⟩
 | _, _, j + 1, _, .cons r i e t, q => by simpa using t.get (j := j) (by simpa using q)
theorem Trip.keys {h : Heap} {l : List Pr} {ts : List (List Key × Addr × Value)} (t : Trip H h l ts) : ∀ y ∈ ts, H y.2.1 = some (.tup (y.1.map kV)) := by
 induction t with
 | nil => intro y hy; simp at hy
 | cons r i e t ih =>
   intro y hy
   rcases List.mem_cons.mp hy with rfl | hy
   ·exact e
   ·exact ih y hy
theorem Trip.all {h : Heap} {l : List Pr} {ts : List (List Key × Addr × Value)} (t : Trip H h l ts) : ∀ {kvs : List (List Key × V)} {xs : List (List Key × Addr × Value)}, KT H kvs xs → KT H (putAll kvs l) (storedAllH xs ts) := by
 induction t with
 | nil => intro kvs xs r; exact r
 | cons rv i e t ih =>
   intro kvs xs r
   exact ih (r.put _ e rv)
theorem Yo (hx : Ok X) : CallR X (.type "dict") (fun xs H Q => ∃ (a : Addr) (l : List Pr), xs = [.ref a] ∧ SqL X.K H a (l.map fun x => V.ref x.at') ∧ (∀ x ∈ l, PrOk X.K H x) ∧ ∀ p, H p = none → Q (.ref p) (upd H p (.dT (putAll [] l)))) := by
 intro pins s σ H xs us Q I r q
 obtain ⟨a, l, rfl, hq, hp, q⟩ := q
 obtain ⟨u, rfl, rx⟩ := vals1 r
 cases rx
 obtain ⟨its, rv, pl, hz⟩ := I.list hq
 obtain ⟨ts, T⟩ := Vc I hp
 have ei : its = l.map fun x => Value.ref x.at' := by
  have : ∀ {l : List Pr} {us : List Value}, Vals (l.map fun x => V.ref x.at') us → us = l.map fun x => Value.ref x.at' := by
   intro l
   induction l with
   | nil => intro us r; cases r; rfl
   | cons x l ih => intro us r; cases r with
     | cons h t => cases h; rw [List.map_cons, ← ih t]
  exact this rv
 subst ei
 rw [List.length_map] at hz
 have hl := T.len
 have big := I.big
 have hm : (s.heap.objs.size == sysModules) = false := beq_eq_false_iff_ne.mpr (Nat.ne_of_gt big)
 obtain ⟨o, n, ho, hc, hd, hdat⟩ := pl
 have P := PairArg.list (prog := X.prog) (w := X.w) a (l.map fun x => Value.ref x.at').toArray (fun j => (l.map (·.at')).getD j 0) (ts.map fun t => (Value.ref t.2.1, t.2.2))
 refine call_dict_pairsH (knd := tupleKind (mixKind X.prog X.w)) (ps := ts) P (I.ok.hd hx.calm) ?_ ⟨⟨o, n, ho, hc, hd, hdat⟩, ?_, fun j k v e => ?_⟩ ⟨by simp, fun i key v e => ?_⟩ (fun h' hk y hy => ?_) (by rw [List.length_map, hl]; exact hz) fun h' tk hd' k => ?_
 ·exact tupleKind_room_in1 (A := X.A.in1) (by
   have := hx.un
   have e : X.A.in1.units ≤ X.A.units + 1 := by first | exact Nat.le_refl _ | (simp [Around.in1]) | omega
   omega)
 ·simp [hl]
 ·rw [List.getElem?_map] at e
  cases et : ts[j]? with
  | none => rw [et] at e; cases e
  | some t =>
    rw [et] at e
    cases e
    obtain ⟨x, hx1, hx2, hx3⟩ := T.get et
    have hj : ((l.map (·.at')).getD j 0) = x.at' := by simp [List.getD, hx1]
    refine ⟨by simp [hx1], .inl ?_⟩
    show s.heap.IsTuple ((l.map (·.at')).getD j 0) _
    rw [hj]
    exact hx3
 ·rw [PairRel, List.getElem?_map] at e
  cases et : ts[i]? with
  | none => rw [et] at e; cases e
  | some t => rw [et] at e; cases e; exact ⟨t.1, t.2.1, rfl, rfl⟩
 ·obtain ⟨o1, its, n1, g1, g2, g3, g4⟩ := key_of I.hok (T.keys y hy)
  have hne : y.2.1 ≠ s.heap.objs.size := Nat.ne_of_lt (Heap.lt_size g1)
  exact ⟨o1, its, n1, hk _ _ hne (by simp) g1, g2, g3, g4⟩
 ·obtain ⟨q0, es, ep, hq0, h2, h3, h4, _, h5⟩ := hd'
  have hf : H s.heap.objs.size = none := I.hok.fresh (Nat.le_refl _)
  have kt := (T.all (kvs := []) (xs := []) .nil)
  refine ⟨.ref s.heap.objs.size, upd H s.heap.objs.size (.dT (putAll [] l)), I.laid (t' := tk) (fun b o e => k b o (by simp) e) (Nat.le_refl _) ⟨?_, hm, _, kt.keeps fun c ys ec => ?_, q0, es, ep, hq0, h2, h3, h4, h5⟩, rfl, q _ hf⟩
  ·have := Yy l []
   simp only [List.length_nil] at this
   omega
  ·rw [upd_ne (ne_of_none ec hf)]
   exact ec
end
end BX
namespace BX
open PySem PySem.Spec PyProof.Rows L2
def pairD (d : D) : Option (List Key × D) := match d with
 | .tup [.tup ks, v] => match xU ks with
   | some k => match v.imm with
     | true => some (k, v)
     | false => none
   | none => none
 | _ => none
def Vv : List D → Option (List (List Key × D))
 | [] => some []
 | d :: r => match pairD d, Vv r with
   | some p, some l => some (p :: l)
   | _, _ => none
def Jv (kvs : List (List Key × D)) (l : List (List Key × D)) : List (List Key × D) := l.foldl (fun a x => putD x.1 x.2 a) kvs
def qao (d : D) (k : D → Prop) : Prop := match d with
 | .lst xs => match Vv xs with
   | some l => k (.dT (Jv [] l))
   | none => False
 | _ => False
section
variable {K : PySem.W.Frag} {H : Hp} {lv : Nat}
theorem qes {d : D} {v : V} {f : List Addr} {p : List Key × D} (hl : lv ≤ 1) (r : Rep K H lv d v f) (e : pairD d = some p) : ∃ x : Pr, v = V.ref x.at' ∧ PrOk K H x ∧ x.key = p.1 ∧ Rep K H 0 p.2 x.val [] := by
 unfold pairD at e
 split at e
 ·rename_i ks w
  split at e
  ·rename_i k hk
   split at e
   ·rename_i him
    cases e
    obtain ⟨a, vs, rfl, ha, rr⟩ := r.tupleAt hl
    cases rr with
    | cons r1 t _ => cases t with
      | cons r2 t _ =>
        cases t
        obtain ⟨b, ws, rfl, hb, rb⟩ := r1.tupleAt hl
        rw [rb.xU hk] at hb
        obtain ⟨_, r0⟩ := r2.imm hl him
        exact ⟨⟨a, b, k, _⟩, rfl, ⟨.of ha, hb⟩, rfl, r0⟩
   ·cases e
  ·cases e
 ·cases e
theorem Xk : ∀ {xs : List D} {vs : List V} {f : List Addr} {l : List (List Key × D)}, lv ≤ 1 → Reps K H lv xs vs f → Vv xs = some l → ∃ ps : List Pr, vs = ps.map (fun x => V.ref x.at') ∧ (∀ x ∈ ps, PrOk K H x) ∧ Paired (fun (x : Pr) (p : List Key × D) => x.key = p.1 ∧ Rep K H 0 p.2 x.val []) ps l
 | _, _, _, _, _, .nil, e => by cases e; exact ⟨[], rfl, fun x hx => by simp at hx, .nil⟩
 | _, _, _, l, hl, .cons r t _, e => by
   rw [Vv] at e
   split at e
   ·rename_i p l' h1 h2
    cases e
    obtain ⟨x, rfl, ho, hx⟩ := qes hl r h1
    obtain ⟨ps, rfl, hp, hq⟩ := Xk hl t h2
    exact ⟨x :: ps, rfl, fun y hy => (List.mem_cons.mp hy).elim (fun z => z ▸ ho) (hp y), .cons hx hq⟩
   ·cases e
theorem nil_of {α : Type} {l : List α} (h : ∀ b ∈ l, b ∈ ([] : List α)) : l = [] := by
 cases l with
 | nil => rfl
 | cons x l => exact absurd (h x (List.mem_cons_self ..)) (by simp)
theorem qep {k : List Key} {d : D} {v : V} {hs : List (List Key × V)} {kvs : List (List Key × D)} (r : Rep K H 0 d v []) (ek : hs.map (·.1) = kvs.map (·.1)) (nd : (kvs.map (·.1)).Nodup) (rr : Reps K H 0 (kvs.map (·.2)) (hs.map (·.2)) []) :
 (putK hs k v).map (·.1) = (putD k d kvs).map (·.1) ∧ ((putD k d kvs).map (·.1)).Nodup ∧ Reps K H 0 ((putD k d kvs).map (·.2)) ((putK hs k v).map (·.2)) [] := by
 rw [qaH (by rw [ek]; exact nd)]
 obtain ⟨fp', r', s'⟩ := QH (k := k) r ek rr (fun _ hb => by simp at hb)
 have e := nil_of (l := fp') fun b hb => (s' b hb).elim id id
 subst e
 exact ⟨QJ k v d ek, uC nd, r'⟩
theorem Yx {ps : List Pr} {l : List (List Key × D)} (p : Paired (fun (x : Pr) (p : List Key × D) => x.key = p.1 ∧ Rep K H 0 p.2 x.val []) ps l) : ∀ {hs : List (List Key × V)} {kvs : List (List Key × D)}, hs.map (·.1) = kvs.map (·.1) → (kvs.map (·.1)).Nodup → Reps K H 0 (kvs.map (·.2)) (hs.map (·.2)) [] →
 (putAll hs ps).map (·.1) = (Jv kvs l).map (·.1) ∧ ((Jv kvs l).map (·.1)).Nodup ∧ Reps K H 0 ((Jv kvs l).map (·.2)) ((putAll hs ps).map (·.2)) [] := by
 induction p with
 | nil => intro hs kvs a b c; exact ⟨a, b, c⟩
 | @cons x q ps l h t ih =>
   intro hs kvs a b c
   obtain ⟨h1, h2, h3⟩ := qep (k := q.1) h.2 a b c
   have := ih h1 h2 h3
   show (putAll (putK hs x.key x.val) ps).map (·.1) = (Jv (putD q.1 q.2 kvs) l).map (·.1) ∧ _
   rw [h.1]
   refine ⟨this.1, this.2.1, ?_⟩
   show Reps K H 0 ((Jv (putD q.1 q.2 kvs) l).map (·.2)) ((putAll (putK hs x.key x.val) ps).map (·.2)) []
   rw [h.1]
   exact this.2.2
end
section
variable {X : Cx}
theorem qia {H : Hp} {p : Addr} {hs : List (List Key × V)} {kvs : List (List Key × D)} (h : H p = none) (ek : hs.map (·.1) = kvs.map (·.1)) (nd : (kvs.map (·.1)).Nodup) (r : Reps X.K H 0 (kvs.map (·.2)) (hs.map (·.2)) []) : Rep X.K (upd H p (.dT hs)) 0 (.dT kvs) (.ref p) [p] :=
 .dT upd_same ek nd (r.keep fun b o e _ => by rw [upd_ne (ne_of_none e h)]; exact e) fun _ z => by simp at z
theorem qdK (hx : Ok X) : CallD X (.type "dict") 1 (op1 qao) := QZ (by decide) (fun pins s σ H x us Q d g I rs r q => by
 unfold qao at q
 split at q
 ·split at q
  ·rename_i xs l e
   obtain ⟨a, vs, g', rfl, ha, rr, _⟩ := r.listAt1 (Nat.le_refl _)
   obtain ⟨ps, rfl, hp, hq⟩ := Xk (Nat.le_refl _) rr e
   obtain ⟨h1, h2, h3⟩ := Yx hq (hs := []) (kvs := []) rfl List.nodup_nil .nil
   exact Yo hx pins s σ H _ us Q I rs ⟨a, ps, rfl, .inl (.inl ha), hp, fun p hf => q _ _ _ (qia hf h1 h2 h3) (.upd hf)⟩
  ·exact q.elim
 ·exact q.elim) (fun d k k' h q => by
 unfold qao at q ⊢
 split at q
 ·split at q
  ·rename_i l e
   first | (simp only [e]; exact h _ q) | (have q2 := h _ q; simp only [*])
  ·exact q.elim
 ·exact q.elim)
end
end BX
namespace TX
open PySem PySem.Spec PyProof.Rows L2 BX
section
variable {e e1 e' : En} {L : Nat} {r r1 r2 r' : R} {d d1 d2 d3 : D} {Q : R → En → Prop} {QB : Bool → En → Prop} {QA : List R → En → Prop} {i j : Nat} {α β γ κ : Type}
def qjl (d : D) (b : Bool) : Prop := ∀ k : Bool → Prop, k b → tru d k
theorem tr_b {b : Bool} : qjl (.bl b) b := fun k q => q
theorem zH {t : XE} (q : t e fun r e => rd 2 r e fun d => tru d fun b => aB QB b e) : xVal t e QB := q
theorem zG {b : Bool} (h : Rv e 2 r d) (ht : qjl d b) (q : aB QB b e) : rd 2 r e fun d => tru d fun b => aB QB b e := h.rd (ht (fun b => aB QB b e) q)
theorem Q3 {t : XT} (q : t e fun b e => aB QB (!b) e) : xNot t e QB := q
theorem qe3 {t u : XT} (b1 b2 : Bool) (h1 : ∀ Q : Bool → En → Prop, aB Q b1 e → t e Q) (h2 : b1 = false → ∀ Q : Bool → En → Prop, aB Q b2 e → u e Q) (q : aB QB (b1 || b2) e) : xOr t u e QB := by
 refine h1 _ ⟨fun h => ?_, fun h => h2 h _ ?_⟩
 ·rw [h, Bool.true_or] at q; exact q
 ·rw [h, Bool.false_or] at q; exact q
theorem qfL {t u : XE} (b1 b2 : Bool) (h1 : ∀ Q : R → En → Prop, aR Q (.tmp (.bl b1)) e → t e Q) (h2 : b1 = true → ∀ Q : R → En → Prop, aR Q (.tmp (.bl b2)) e → u e Q) (q : aR Q (.tmp (.bl (b1 && b2))) e) : dAnd t u e Q := by
 refine h1 _ ⟨fun h => h2 h _ ?_, fun h => ?_⟩
 ·rw [h, Bool.true_and] at q; exact q
 ·rw [h, Bool.false_and] at q; rw [h]; exact q
theorem qdO {t u : XT} (q : t e fun b e => (b = true → u e QB) ∧ (b = false → aB QB false e)) : xAnd t u e QB := q
theorem Ul {t u : XT} (q : t e fun b e => (b = true → aB QB true e) ∧ (b = false → u e QB)) : xOr t u e QB := q
theorem qhl {t u : XE} (q : t e fun r e => rd 2 r e fun d => tru d fun b => (b = true → u e Q) ∧ (b = false → aR Q r e)) : dAnd t u e Q := q
theorem qjc {t u : XE} (q : t e fun r e => rd 2 r e fun d => tru d fun b => (b = true → aR Q r e) ∧ (b = false → u e Q)) : dOr t u e Q := q
theorem qfp {b : Bool} {k : Bool → Prop} (h : Rv e 2 r (.bl b)) (q : k b) : rd 2 r e fun d => tru d k := h.rd q
theorem qbM {t : XE} (q : t e fun r e => rd 2 r e fun d => intD d fun z => aR Q (.tmp (.int (-z))) e) : dNeg t e Q := q
theorem qbE {a : Int} (h : Rv e 2 r (.int a)) (q : aR Q (.tmp (.int (-a))) e) : rd 2 r e fun d => intD d fun z => aR Q (.tmp (.int (-z))) e := h.rd q
theorem qjd {T : String} {t : XE} (q : t e fun r e => rd 2 r e fun d => nob d ∧ aR Q (.tmp (.bl (isiB T d))) e) : xIsi T t e Q := q
theorem qiY {α : Type} {f : α → D} {o : Option α} (h : ∀ x, nob (f x)) : nob (eO f o) := by
 cases o with
 | none => exact trivial
 | some x => exact h x
theorem qix {T : String} (h : Rv e 2 r d) (q : aR Q (.tmp (.bl (isiB T d))) e) (hn : nob d := by first | exact trivial | exact qiY fun _ => trivial) : rd 2 r e fun d => nob d ∧ aR Q (.tmp (.bl (isiB T d))) e := h.rd ⟨hn, q⟩
theorem qu (q : aL QA [] e) : aNil e QA := q
theorem qd {t : XE} {u : XA} (q : t e fun r e => u e fun rs e2 => aL QA (r :: rs) e2) : ql t u e QA := q
theorem qX {u : XA} (q : u e fun rs e => rs.length ≤ 1000 ∧ j7 rs e fun ds => aR Q (.tmp (.tup ds)) e) : dTup u e Q := q
theorem uo {u : XA} (q : u e fun rs e => rs.length ≤ 1000 ∧ j7 rs e fun ds => aR Q (.tmp (.lst ds)) e) : dLst u e Q := q
theorem qir {rs : List R} {ds : List D} (h : StL e rs ds) (q : aR Q (.tmp (.tup ds)) e) (hl : rs.length ≤ 1000 := by simp) : rs.length ≤ 1000 ∧ j7 rs e fun ds => aR Q (.tmp (.tup ds)) e := ⟨hl, h.go (k := fun ds => aR Q (.tmp (.tup ds)) e) q⟩
theorem qkk {rs : List R} {ds : List D} (h : StL e rs ds) (q : aR Q (.tmp (.lst ds)) e) (hl : rs.length ≤ 1000 := by simp) : rs.length ≤ 1000 ∧ j7 rs e fun ds => aR Q (.tmp (.lst ds)) e := ⟨hl, h.go (k := fun ds => aR Q (.tmp (.lst ds)) e) q⟩
def IxTo (d1 d2 d : D) : Prop := ∀ k : D → Prop, k d → ixd d1 d2 k
inductive ElTo : R → D → R → Prop
 | tmp {x d : D} : ElTo (.tmp x) d (.tmp d)
 | ro {c : Bool} {x d : D} {r : R} : mkRo c d = r → ElTo (.ro c x) d r
 | sl {i : Nat} {d : D} : d.imm = true → ElTo (.sl i) d (.tmp d)
theorem ElTo.go (h : ElTo r d r') {k : R → Prop} (q : k r') : elem r d k := by
 cases h with
 | tmp => exact q
 | ro h => subst h; exact q
 | sl h => exact ⟨h, q⟩
theorem yJ {t u : XE} (q : t e fun r1 e1 => u e1 fun r2 e2 => rd 2 r1 e2 fun d1 => rd 1 r2 e2 fun d2 => ixd d1 d2 fun d => elem r1 d fun r => aR Q r e2) : dIdx t u e Q := q
theorem o_idx (h1 : Rv e 2 r1 d1) (h2 : Rv e 1 r2 d2) (hi : IxTo d1 d2 d) (hel : ElTo r1 d r') (q : aR Q r' e) : rd 2 r1 e fun d1 => rd 1 r2 e fun d2 => ixd d1 d2 fun d => elem r1 d fun r => aR Q r e :=
 h1.rd (h2.rd (hi (fun d => elem r1 d fun r => aR Q r e) (hel.go (k := fun r => aR Q r e) q)))
theorem ix_T {ds : List D} {i : Int} (h : atI ds i = some d) : IxTo (.tup ds) (.int i) d := fun k q => by unfold ixd; simp only [h]; exact q
theorem Wr {α : Type} {f : α → D} {l : List α} {i : Int} {a : α} (h : atI l i = some a) : atI (l.map f) i = some (f a) := by
 unfold atI at h ⊢
 rw [List.length_map]
 cases e : ixN l.length i with
 | none => rw [e] at h; cases h
 | some j =>
   rw [e] at h
   simp only [Option.bind_some] at h ⊢
   rw [List.getElem?_map, h]; rfl
theorem ix_L {f : α → D} {l : List α} {i : Int} {a : α} (h : atI l i = some a) : IxTo (eL f l) (.int i) (f a) := fun k q => by unfold eL ixd; simp only [Wr h]; exact q
theorem ix_V {f : α → D} {l : List α} {i : Int} {a : α} (h : atI l i = some a) : IxTo (eV f l) (.int i) (f a) := fun k q => by unfold eV ixd; simp only [Wr h]; exact q
def mkS {α κ : Type} (ms : List Md) (ia : α → List D) (w : α → (κ → Prop) → Prop) (fo : κ → D) (od : α → κ → List D) : FS := ⟨ms, fun ds Q => ∃ a k, ds = ia a ∧ w a k ∧ ∀ r, k r → Q (fo r) (od a r)⟩
theorem zr {α κ : Type} {ms : List Md} {ia : α → List D} {w : α → (κ → Prop) → Prop} {fo : κ → D} {od : α → κ → List D} : qbV (mkS ms ia w fo od) := fun ds Q Q' h ⟨a, k, e, w, q⟩ => ⟨a, k, e, w, fun r hr => h _ _ (q r hr)⟩
theorem c_fn {S : FS} {u : XA} (q : u e fun rs e => xP S.ms rs e = true ∧ apart S.ms rs = true ∧ uZ 2 rs e fun ds => S.wp ds fun d ds' => aR Q (.tmp d) (putB S.ms rs ds' 0 e)) : dFn S u e Q := q
theorem x_call {α κ : Type} {ms : List Md} {ia : α → List D} {w : α → (κ → Prop) → Prop} {fo : κ → D} {od : α → κ → List D} {rs : List R} (a : α) (fe : κ → En) {k : κ → Prop} (h : w a k) (hr : RvL e 2 rs (ia a)) (h1 : xP ms rs e = true) (h2 : apart ms rs = true)
 (he : ∀ r, putB ms rs (od a r) 0 e = fe r) (q : ∀ r, k r → aR Q (.tmp (fo r)) (fe r)) :
 xP (mkS ms ia w fo od).ms rs e = true ∧ apart (mkS ms ia w fo od).ms rs = true ∧ uZ 2 rs e fun ds => (mkS ms ia w fo od).wp ds fun d ds' => aR Q (.tmp d) (putB (mkS ms ia w fo od).ms rs ds' 0 e) :=
 ⟨h1, h2, hr.go (k := fun ds => (mkS ms ia w fo od).wp ds fun d ds' => aR Q (.tmp d) (putB (mkS ms ia w fo od).ms rs ds' 0 e)) ⟨a, k, rfl, h, fun r hk => by
  show aR Q _ (putB ms rs (od a r) 0 e)
  rw [he]; exact q r hk⟩⟩
theorem ww : xP [] [] e = true := rfl
theorem qD {m : Md} {ms : List Md} {rs : List R} (h : Yh m r e = true) (t : xP ms rs e = true) : xP (m :: ms) (r :: rs) e = true := by rw [xP, h, t]; rfl
theorem qR : Yh .cst r e = true := rfl
theorem jE (h : Rv e 1 r d) : Yh .ro r e = true := by cases h <;> rfl
theorem wF {ms : List Md} {rs : List R} (h : ms.all Md.rd = true) : apart ms rs = true := by
 unfold apart
 rw [List.all_eq_true]
 intro p _
 rw [List.all_eq_true]
 intro q _
 rw [Bool.or_eq_true]
 refine .inr ?_
 split
 ·rename_i m i j h1 h2 h3
  have := List.all_eq_true.mp h _ (List.mem_of_getElem? h1)
  rw [this]; rfl
 ·rfl
def OpN (op : OPn) (ds : List D) (d : D) : Prop := ∀ k : D → Prop, k d → op ds k
theorem zf {op : OPn} {u : XA} (q : u e fun rs e => uZ L rs e fun ds => op ds fun d => aR Q (.tmp d) e) : dCall L op u e Q := q
theorem zb {op : OPn} {rs : List R} {ds : List D} (h : RvL e L rs ds) (ho : OpN op ds d) (q : aR Q (.tmp d) e) : uZ L rs e fun ds => op ds fun d => aR Q (.tmp d) e := h.go (k := fun ds => op ds fun d => aR Q (.tmp d) e) (ho (fun d => aR Q (.tmp d) e) q)
def absI (i : Int) : Int := if i < 0 then -i else i
def intB (b : Bool) : Int := if b then 1 else 0
section
variable {f : α → D} {l : List α} {a b : Int} {κf : κ → List Key} {κg : κ → Key} {m : List (κ × α)}
theorem YH : OpN (op1 bLen) [eL f l] (.int l.length) := fun k q => by unfold op1 bLen eL; simpa using q
theorem qcY : OpN (op1 bLen) [eV f l] (.int l.length) := fun k q => by unfold op1 bLen eV; simpa using q
theorem qiH : OpN (op1 bAbs) [.int a] (.int (absI a)) := fun k q => q
theorem qfr : OpN (op1 bInt) [.int a] (.int a) := fun k q => q
theorem qiG {b : Bool} : OpN (op1 bInt) [.bl b] (.int (intB b)) := fun k q => q
theorem qiE : OpN (op2 qbP) [.int a, .int b] (.int (min a b)) := fun k q => by
 show k (.int (if b < a then b else a))
 have : (if b < a then b else a) = min a b := by split <;> omega
 rw [this]; exact q
theorem YG [Im f] : OpN (op1 uX) [eL f l] (eV f l) := fun k q => ⟨imL l, q⟩
theorem qgA [Im f] : OpN (op1 qan) [eL f l] (eL f l) := fun k q => ⟨imL l, q⟩
theorem X7 : ∀ l : List Bool, bools (l.map .bl) = some l
 | [] => rfl
 | b :: l => by rw [List.map_cons, bools, X7 l]; rfl
theorem qeC {l : List Bool} : OpN (op1 bAll) [eL .bl l] (.bl (l.all id)) := fun k q => by unfold op1 bAll eL; simp only [X7]; exact q
theorem qkn {l : List Bool} : OpN (op1 bAny) [eL .bl l] (.bl (l.any id)) := fun k q => by unfold op1 bAny eL; simp only [X7]; exact q
def srt (tl : α → List Int) (l : List α) : List α := l.mergeSort fun a b => !HT.lexLt (tl b) (tl a)
theorem JP {tl : α → List Int} [h : Ints f tl] : ∀ l : List α, Yl (l.map f) = some (l.map tl)
 | [] => rfl
 | a :: l => by
   rw [List.map_cons, h.isx, Yl, JQ, JP l]
   have := h.ne a
   cases e : tl a with
   | nil => exact absurd e this
   | cons x xs => simp [e]
theorem sort_map {tl : α → List Int} [h : Ints f tl] (l : List α) : (sortI (l.map tl)).map tupI = (srt tl l).map f := by
 unfold sortI srt
 rw [← List.map_mergeSort (r := fun a b => !HT.lexLt (tl b) (tl a)) (s := fun a b => !HT.lexLt b a) (f := tl) (fun a _ b _ => rfl), List.map_map]
 exact List.map_congr_left fun a _ => (h.isx a).symm
theorem qgy {tl : α → List Int} [h : Ints f tl] : OpN (op1 jP) [eL f l] (eL f (srt tl l)) := fun k q => by
 unfold op1 jP eL
 simp only [JP, sort_map (f := f)]
 exact q
class Ki (kf : κ → List Key) (tl : outParam (κ → List Int)) : Prop where
 ki : ∀ c, keyI (kf c) = some (tl c)
instance : Ki (kf2 (Sum.inl (α := Int)) Sum.inl) tl2 := ⟨fun _ => rfl⟩
instance : Ki (kf3 (Sum.inl (α := Int)) Sum.inl Sum.inl) tl3 := ⟨fun _ => rfl⟩
instance : Ki (kf4 (Sum.inl (α := Int)) Sum.inl Sum.inl Sum.inl) tl4 := ⟨fun _ => rfl⟩
def xg [DecidableEq κ] (m : List (κ × α)) (l : List (κ × α)) : List (κ × α) := l.foldl (fun a x => putA x.1 x.2 a) m
theorem ZJ [DecidableEq κ] {c : κ → D} {kf : κ → List Key} [hk : Kt c kf] : ∀ (l m : List (κ × α)), Jv (m.map fun p => (kf p.1, f p.2)) (l.map fun p => (kf p.1, f p.2)) = (xg m l).map fun p => (kf p.1, f p.2)
 | [], m => rfl
 | p :: l, m => by
   have := ZJ (c := c) l (putA p.1 p.2 m)
   rw [← qgi (c := c)] at this
   exact this
theorem ZK [DecidableEq κ] {c : κ → D} {kf : κ → List Key} [hk : Kt c kf] [hf : Im f] : ∀ l : List (κ × α), Vv (l.map (eT2 c f)) = some (l.map fun p => (kf p.1, f p.2))
 | [] => rfl
 | p :: l => by
   rw [List.map_cons, Vv, ZK (c := c) l]
   have : BX.pairD (eT2 c f p) = some (kf p.1, f p.2) := by
    obtain ⟨ds, h1, h2⟩ := hk.key p.1
    unfold eT2
    rw [h1]
    unfold BX.pairD
    simp only [h2, hf.im]
   rw [this]; rfl
theorem qfs [DecidableEq κ] {c : κ → D} {kf : κ → List Key} [hk : Kt c kf] [hf : Im f] {l : List (κ × α)} : OpN (op1 qao) [eL (eT2 c f) l] (eDT kf f (xg [] l)) := fun k q => by
 unfold op1 qao eL
 simp only [ZK (c := c) (f := f)]
 have := ZJ (c := c) (f := f) (kf := kf) l []
 rw [List.map_nil] at this
 rw [this]; exact q
end
end
end TX
namespace TX
open PySem PySem.Spec PyProof.Rows L2 BX
section
variable {e e1 e' : En} {L : Nat} {r r1 r2 r' : R} {d d1 d2 d3 : D} {Q : R → En → Prop} {nx : En → Prop} {rt : D → En → Prop} {i j : Nat} {α β γ κ σ : Type} {kE : En → Prop}
def lt {α : Type} (v : α) (k : α → Prop) : Prop := k v
def forW {α σ : Type} : List α → σ → (α → σ → (σ → Prop) → Prop) → (σ → Prop) → Prop
 | [], s, _, k => k s
 | a :: as, s, body, k => body a s fun s' => forW as s' body k
def whW {σ : Type} (s0 : σ) (step : σ → (σ → Prop) → Prop) : Prop := ∃ I : Nat → σ → Prop, (∃ m, I m s0) ∧ ∀ m s, I m s → step s fun s' => ∃ m', m' < m ∧ I m' s'
def lcW {α β σ : Type} : List α → List β → σ → (α → σ → (Option β → σ → Prop) → Prop) → (List β → σ → Prop) → Prop
 | [], acc, s, _, k => k acc s
 | a :: as, acc, s, body, k => body a s fun o s' => lcW as (acc ++ o.toList) s' body k
def ifW {σ : Type} (b : Bool) (A B : (σ → Prop) → Prop) (k : σ → Prop) : Prop := (b = true → A k) ∧ (b = false → B k)
def ifP (b : Bool) (A B : Prop) : Prop := (b = true → A) ∧ (b = false → B)
def exW {α : Type} (o : Option α) (k : α → Prop) : Prop := ∃ a, o = some a ∧ k a
theorem wy {t u : XS} (q : t e (fun e => u e nx rt) rt) : sSeq t u e nx rt := q
theorem jc (q : aN nx e) : sNil e nx rt := q
theorem vZ {t : XE} (q : t e fun _ e => aN nx e) : Q8 t e nx rt := q
theorem s_asg {t : XE} {g : XG} (q : t e fun r e => g r e nx) : sAsg t g e nx rt := q
theorem s_ret {t : XE} (q : t e fun r e => retR r e fun d => aD rt d e) : sRet t e nx rt := q
theorem xR (q : aD rt d e) : retR (.tmp d) e fun d => aD rt d e := q
theorem ZM {m : Md} (h : e[i]? = some (some (d, .own))) (q : aD rt d e) : retR (.sl i) e fun d => aD rt d e := by
 unfold retR; simp only [h]; exact ⟨trivial, q⟩
theorem s_if {c : XT} {t u : XS} (q : c e fun b e => (b = true → t e nx rt) ∧ (b = false → u e nx rt)) : sIf c t u e nx rt := q
theorem ju {b : Bool} {A B G1 G2 : Prop} (h : ifP b A B) (h1 : b = true → A → G1) (h2 : b = false → B → G2) : (b = true → G1) ∧ (b = false → G2) := ⟨fun z => h1 z (h.1 z), fun z => h2 z (h.2 z)⟩
theorem Xp {b : Bool} {A B : (σ → Prop) → Prop} {k : σ → Prop} {t u : XS} (sh : σ → En → Prop) (h : ifW b A B k)
 (h1 : b = true → ∀ (kk : σ → Prop) (nx' : En → Prop), (∀ s e, sh s e → kk s → nx' e) → A kk → t e nx' rt) (h2 : b = false → ∀ (kk : σ → Prop) (nx' : En → Prop), (∀ s e, sh s e → kk s → nx' e) → B kk → u e nx' rt) (hJ : ∀ s e, sh s e → k s → aN nx e) :
 (b = true → t e nx rt) ∧ (b = false → u e nx rt) := ⟨fun z => h1 z _ _ hJ (h.1 z), fun z => h2 z _ _ hJ (h.2 z)⟩
theorem g_N {f : α → D} {v : α} {P : α → Prop} (ee : α → En) (h : lt v P) (hs : setOk e i = true) (he : ∀ x, e.set i (some (f x, .own)) = ee x) (q : ∀ x, P x → aN kE (ee x)) : gN i (.tmp (f v)) e kE :=
 ⟨hs, by show aN kE _; rw [he]; exact q v h⟩
theorem g_n (hs : setOk e i = true) (he : e.set i (some (d, .own)) = e') (q : aN kE e') : gN i (.tmp d) e kE := ⟨hs, by subst he; exact q⟩
theorem ZZ {c : Bool} (hs : setOk e i = true) (he : e.set i (some (d, roMd c)) = e') (q : aN kE e') : gN i (.ro c d) e kE := ⟨hs, by subst he; exact q⟩
theorem g_T {n : Nat} {gs : XGs} {xs : List D} (hn : xs.length = n) (q : gs none xs e kE) : gT n gs (.tmp (.tup xs)) e kE := ⟨hn, q⟩
theorem XC {n : Nat} {gs : XGs} {xs : List D} {c : Bool} (hn : xs.length = n) (q : gs (some c) xs e kE) : gT n gs (.ro c (.tup xs)) e kE := by
 unfold gT rd R.data; cases c <;> exact ⟨hn, q⟩
theorem zj {g : XG} {gs : XGs} {kd : Option Bool} {ds : List D} (q : g (mkI kd d) e fun e => gs kd ds e kE) : wN g gs kd (d :: ds) e kE := q
theorem vJ {kd : Option Bool} (q : aN kE e) : jR kd [] e kE := q
variable {kI : List D → Option Bool → Lok → En → Prop} {xs : List D}
theorem yP {t : XE} (q : t e fun r e => rd 2 r e fun d => match d with
 | .lst xs => yj r e (fun kd lk e1 => aI kI xs kd lk e1) (immL xs)
 | .lF xs => yj r e (fun kd lk e1 => aI kI xs kd lk e1) (immL xs)
 | .tup xs => yj r e (fun kd lk e1 => aI kI xs kd lk e1) (immL xs)
 | _ => False) : iSeq t e kI := q
abbrev seqK (e : En) (kI : List D → Option Bool → Lok → En → Prop) (r : R) (d : D) : Prop := match d with
 | .lst xs => yj r e (fun kd lk e1 => aI kI xs kd lk e1) (immL xs)
 | .lF xs => yj r e (fun kd lk e1 => aI kI xs kd lk e1) (immL xs)
 | .tup xs => yj r e (fun kd lk e1 => aI kI xs kd lk e1) (immL xs)
 | _ => False
theorem qev {f : α → D} [Im f] {l : List α} (q : aI kI (l.map f) none none e) : (rd 2 (.tmp (eL f l)) e fun d => seqK e kI (.tmp (eL f l)) d) := ⟨imL l, q⟩
theorem qit {f : α → D} [Im f] {l : List α} (q : aI kI (l.map f) none none e) : (rd 2 (.tmp (eV f l)) e fun d => seqK e kI (.tmp (eV f l)) d) := ⟨imL l, q⟩
theorem qew {f : α → D} {c : Bool} {l : List α} (q : aI kI (l.map f) (some c) none e) : (rd 2 (.ro c (eL f l)) e fun d => seqK e kI (.ro c (eL f l)) d) := by
 unfold rd R.data; cases c <;> exact q
theorem qaQ {f : α → D} {c : Bool} {l : List α} (q : aI kI (l.map f) (some c) none e) : (rd 2 (.ro c (eV f l)) e fun d => seqK e kI (.ro c (eV f l)) d) := by
 unfold rd R.data; cases c <;> exact q
theorem Yi {f : α → D} [Im f] {l : List α} {m : Md} (h : e[i]? = some (some (eL f l, m))) (hm : m.okL 2 = true) (he : e.set i (some (eL f l, .lk)) = e') (q : aI kI (l.map f) none (some (i, m)) e') : (rd 2 (.sl i) e fun d => seqK e kI (.sl i) d) := by
 subst he
 unfold rd R.data; simp only [h, hm]
 unfold eL at h ⊢
 simp only [seqK, yj, h]
 exact ⟨imL l, q⟩
def rng (a b : Int) : List Int := (List.range (b - a).toNat).map fun n => a + (n : Nat)
def Yc (a b : Int) : Prop := -(2 ^ 62) ≤ a ∧ a < 2 ^ 62 ∧ -(2 ^ 62) ≤ b ∧ b < 2 ^ 62
theorem Uk {t : XE} (q : t e fun r e => rd 2 r e fun d => match d with
 | .int j => -(2 ^ 62) ≤ j ∧ j < 2 ^ 62 ∧ aI kI ((List.range j.toNat).map fun n => .int (n : Nat)) none none e
 | _ => False) : jH t e kI := q
theorem JB {b : Int} (h : Yc 0 b) (q : aI kI ((rng 0 b).map D.int) none none e) : (rd 2 (.tmp (.int b)) e fun d => match d with
 | .int j => -(2 ^ 62) ≤ j ∧ j < 2 ^ 62 ∧ aI kI ((List.range j.toNat).map fun n => .int (n : Nat)) none none e
 | _ => False) := ⟨h.2.2.1, h.2.2.2, by
   have : (rng 0 b).map D.int = (List.range b.toNat).map fun n => .int (n : Nat) := by simp [rng]
   rw [← this]; exact q⟩
theorem QF {it : XI} {g : XG} {tb : XS} (q : it e fun ds kd lk e1 => forL g tb kd ds e1 (fun e2 => thaw lk e2 nx) (fun d e2 => thaw lk e2 fun e3 => aD rt d e3)) : sFor it g tb e nx rt := q
theorem Ql {g : XG} {tb : XS} {kd : Option Bool} {fI : α → D} {body : α → σ → (σ → Prop) → Prop} {k : σ → Prop} (sh : σ → En → Prop) :
 ∀ {l : List α} {s0 : σ} {e : En}, forW l s0 body k → sh s0 e →
 (∀ a, a ∈ l → ∀ s e, sh s e → ∀ (kk : σ → Prop) (nx' : En → Prop), (∀ s' e', sh s' e' → kk s' → nx' e') → body a s kk → g (mkI kd (fI a)) e fun e1 => tb e1 nx' rt) →
 (∀ s e, sh s e → k s → aN nx e) → forL g tb kd (l.map fI) e nx rt
 | [], s0, e, h, h0, hb, hn => hn _ _ h0 h
 | a :: l, s0, e, h, h0, hb, hn => hb a (List.mem_cons_self ..) s0 e h0 _ _ (fun s' e' hs hk => Ql sh hk hs (fun a ha => hb a (List.mem_cons_of_mem _ ha)) hn) h
theorem s_while {c : XT} {tb : XS} {s0 : σ} {step : σ → (σ → Prop) → Prop} (sh : σ → En → Prop) (h : whW s0 step) (h0 : sh s0 e)
 (hb : ∀ s e, sh s e → ∀ (kk : σ → Prop) (nx' : En → Prop), (∀ s' e', sh s' e' → kk s' → nx' e') → step s kk → c e fun b e1 => (b = true → tb e1 nx' rt) ∧ (b = false → aN nx e1)) : qcv c tb e nx rt := by
 obtain ⟨I, ⟨m0, i0⟩, turn⟩ := h
 refine ⟨fun m e => ∃ s, sh s e ∧ I m s, ⟨m0, s0, h0, i0⟩, fun m e ⟨s, hs, hi⟩ => hb s e hs _ _ (fun s' e' hs' ⟨m', hm, hi'⟩ => ⟨m', hm, s', hs', hi'⟩) (turn m s hi)⟩
theorem c_lc {it : XI} {g : XG} {tt : XT} {te : XE} {vs : List Nat} (q : it e fun ds kd lk e1 => (vs.all fun v => setOk e1 v) = true ∧ lcL g tt te kd vs ds (wM vs e1) [] fun acc e2 => thaw lk (uz vs e1 e2) fun e3 => aR Q (.tmp (.lst acc)) e3) : dLc it g tt te vs e Q := q
theorem qhj {A B : En → Prop} (q : A e) : xYes e fun b e2 => (b = true → A e2) ∧ (b = false → B e2) := ⟨fun _ => q, fun z => nomatch z⟩
theorem qiw {g : XG} {tt : XT} {te : XE} {kd : Option Bool} {vs : List Nat} {kk : List D → En → Prop} {fI : α → D} {fo : β → D} {l : List α} (p : α → Bool) (F : α → β) (hs : (vs.all fun v => setOk e1 v) = true) (hl : l.length ≤ sizeLine) (he : wM vs e1 = e)
 (hb : ∀ a ∈ l, ∀ (c : Prop) (k1 : D → En → Prop) (k2 : En → Prop), c → (p a = true → k1 (fo (F a)) e) → (p a = false → k2 e) → g (mkI kd (fI a)) e fun e1 => tt e1 fun b e2 => (b = true → te e2 fun r e3 => stor r e3 fun dd => c ∧ k1 dd (wM vs e3)) ∧ (b = false → k2 (wM vs e2)))
 (q : aK kk (((l.filter p).map F).map fo) e) : (vs.all fun v => setOk e1 v) = true ∧ lcL g tt te kd vs (l.map fI) (wM vs e1) [] kk := by
 refine ⟨hs, ?_⟩
 rw [he]
 exact QS p (fun a => fo (F a)) fI l [] (by simpa using hl) (by rw [List.map_map] at q; exact q) fun a ha c k1 k2 hc h1 h2 => hb a ha c k1 k2 hc h1 h2
theorem ZP {g : XG} {te : XE} {kd : Option Bool} {vs : List Nat} {kk : List D → En → Prop} {fI : α → D} {fo : β → D} {l : List α} (F : α → β) (hs : (vs.all fun v => setOk e1 v) = true) (hl : l.length ≤ sizeLine) (he : wM vs e1 = e)
 (hb : ∀ a ∈ l, ∀ (c : Prop) (k1 : D → En → Prop), c → k1 (fo (F a)) e → g (mkI kd (fI a)) e fun e1 => te e1 fun r e3 => stor r e3 fun dd => c ∧ k1 dd (wM vs e3))
 (q : aK kk ((l.map F).map fo) e) : (vs.all fun v => setOk e1 v) = true ∧ lcL g xYes te kd vs (l.map fI) (wM vs e1) [] kk := by
 refine ⟨hs, ?_⟩
 rw [he]
 exact qeL (fun a => fo (F a)) fI l hl (by rw [List.map_map] at q; exact q) hb
theorem o_el {c : Prop} {k1 : D → En → Prop} {vs : List Nat} {E : En} (h : St e r d) (hc : c) (he : wM vs e = E) (q : k1 d E) : stor r e fun dd => c ∧ k1 dd (wM vs e) := h _ ⟨hc, by rw [he]; exact q⟩
theorem JF {g : XG} {tt : XT} {te : XE} {kd : Option Bool} {vs : List Nat} {kk : List D → En → Prop} {fI : α → D} {fo : β → D} {body : α → σ → (Option β → σ → Prop) → Prop} {k : List β → σ → Prop} (sh : σ → En → Prop) {l : List α} {s0 : σ} (h : lcW l [] s0 body k) (hs : (vs.all fun v => setOk e1 v) = true) (hl : l.length ≤ sizeLine) (h0 : sh s0 (wM vs e1))
 (hb : ∀ a ∈ l, ∀ s e, sh s e → ∀ (w : Option β → σ → Prop) (c : Prop) (k1 : D → En → Prop) (k2 : En → Prop), c → (∀ b s' e', sh s' e' → w (some b) s' → k1 (fo b) e') → (∀ s' e', sh s' e' → w none s' → k2 e') → body a s w →
  g (mkI kd (fI a)) e fun e1 => tt e1 fun b e2 => (b = true → te e2 fun r e3 => stor r e3 fun dd => c ∧ k1 dd (wM vs e3)) ∧ (b = false → k2 (wM vs e2)))
 (hn : ∀ acc s e, sh s e → k acc s → aK kk (acc.map fo) e) : (vs.all fun v => setOk e1 v) = true ∧ lcL g tt te kd vs (l.map fI) (wM vs e1) [] kk := by
 refine ⟨hs, ?_⟩
 have main : ∀ (m : List α) (acc : List β) (s : σ) (e : En), (∀ a ∈ m, a ∈ l) → acc.length + m.length ≤ sizeLine → lcW m acc s body k → sh s e → lcL g tt te kd vs (m.map fI) e (acc.map fo) kk := by
  intro m
  induction m with
  | nil => intro acc s e _ _ h hs; exact hn _ _ _ hs h
  | cons a m ih =>
    intro acc s e hm hlen h hsh
    rw [List.length_cons] at hlen
    refine hb a (hm a (List.mem_cons_self ..)) s e hsh _ ((acc.map fo).length < sizeLine) (fun dd e => lcL g tt te kd vs (m.map fI) e (acc.map fo ++ [dd]) kk) (fun e => lcL g tt te kd vs (m.map fI) e (acc.map fo) kk) (by rw [List.length_map]; omega) (fun b s' e' hs' hw => ?_) (fun s' e' hs' hw => ?_) h
    ·have := ih (acc ++ [b]) s' e' (fun x hx => hm x (List.mem_cons_of_mem _ hx)) (by simp; omega) hw hs'
     rw [List.map_append] at this
     exact this
    ·have hw' : lcW m acc s' body k := by simpa using hw
     exact ih acc s' e' (fun x hx => hm x (List.mem_cons_of_mem _ hx)) (by omega) hw' hs'
 exact main l [] s0 _ (fun _ h => h) (by simpa using hl) h h0
theorem c_m1 {isT : D → Bool} {B : B1} {te : XE} {m : Md} (h : e[i]? = some (some (d, m))) (hb : D.big d = true) (hm : m = .own ∨ m = .io := by decide) (ht : isT d = true) (q : te e fun r2 e2 => B (.sl i) r2 e2 Q) : dM1 isT B (dVar i) te e Q := by
 unfold dM1 dVar
 rw [h]
 have key : (rd 2 (.sl i) e fun d => isT d = true) ∧ te e fun r2 e2 => B (.sl i) r2 e2 Q := ⟨by
  unfold rd R.data
  rcases hm with rfl | rfl <;> (simp only [h]; exact ht), q⟩
 rcases hm with rfl | rfl <;> cases d <;> first | (cases hb; done) | exact key
theorem QM {f : α → D} {l : List α} {v : α} {m : Md} {P : List α → Prop} (ee : List α → En) (h : lt (l ++ [v]) P) (hr : St e r (f v)) (h0 : e[i]? = some (some (eL f l, m))) (hl : l.length < sizeLine) (he : ∀ x, e.set i (some (eL f x, m)) = ee x) (q : ∀ x, P x → aR Q (.tmp .non) (ee x)) (hm : m = .own ∨ m = .io := by decide) : bAppend (.sl i) r e Q := by
 refine hr _ ?_
 have q := q _ h
 rw [← he] at q
 unfold eL at h0 q
 rw [List.map_append] at q
 unfold chgL chg
 rcases hm with rfl | rfl <;> (simp only [h0]; exact ⟨by simpa using hl, q⟩)
theorem ZQ {f : α → D} {l ys : List α} {m : Md} {P : List α → Prop} (ee : List α → En) (h : lt (l ++ ys) P) (h0 : e[i]? = some (some (eL f l, m))) (hl : l.length + ys.length ≤ sizeLine) (he : ∀ x, e.set i (some (eL f x, m)) = ee x) (q : ∀ x, P x → aR Q (.tmp .non) (ee x)) (hm : m = .own ∨ m = .io := by decide) : vL (.sl i) (.tmp (eL f ys)) e Q := by
 have q := q _ h
 rw [← he] at q
 unfold eL at h0 q ⊢
 rw [List.map_append] at q
 rw [vL, xSeT]
 unfold chgL chg
 rcases hm with rfl | rfl <;> (simp only [h0]; exact ⟨by simpa using hl, q⟩)
theorem qga {u : XA} (q : u e fun rs e => j7 rs e fun ds => match ds with
 | [d1, d2] => setOk e i = true ∧ setOk e j = true ∧ aN nx ((e.set i (some (d1, .own))).set j (some (d2, .own)))
 | _ => False) : sPar i j u e nx rt := q
theorem qgu {f : α → D} {g : β → D} {v : α} {w : β} {P : α → β → Prop} (ee : α → β → En) (h1 : St e r1 (f v)) (h2 : St e r2 (g w)) (h : lt v fun x => lt w (P x)) (hs : setOk e i = true) (hs2 : setOk e j = true) (he : ∀ x y, (e.set i (some (f x, .own))).set j (some (g y, .own)) = ee x y) (q : ∀ x y, P x y → aN nx (ee x y)) :
 j7 [r1, r2] e fun ds => match ds with
 | [d1, d2] => setOk e i = true ∧ setOk e j = true ∧ aN nx ((e.set i (some (d1, .own))).set j (some (d2, .own)))
 | _ => False := h1 _ (h2 _ ⟨hs, hs2, by rw [he]; exact q v w h⟩)
end
end TX
namespace TX
open PySem PySem.Spec PyProof.Rows L2 BX
section
variable {e e1 e' : En} {L : Nat} {r r1 r2 r' : R} {d d1 d2 d3 : D} {Q : R → En → Prop} {QB : Bool → En → Prop} {nx : En → Prop} {rt : D → En → Prop} {i j : Nat} {α β γ κ σ : Type} {kE : En → Prop}
theorem u6 {t : XS} (he : e = e') (q : t e' nx rt) : t e nx rt := by rw [he]; exact q
theorem vH {m : Md} (h : e[i]? = some (some (d, .lk))) (he : e.set i (some (d, m)) = e') (q : aN kE e') : thaw (some (i, m)) e kE := by
 subst he; unfold thaw; simp only [h]; exact q
theorem wA (q : aN kE e) : thaw none e kE := q
theorem yM {lk : Lok} {vs : List Nat} (he : uz vs e1 e = e') (q : thaw lk e' kE) : thaw lk (uz vs e1 e) kE := by rw [he]; exact q
theorem all1 {v : Nat} (h : setOk e v = true) : (([v] : List Nat).all fun v => setOk e v) = true := by simp [h]
theorem all2 {v w : Nat} (h : setOk e v = true) (h2 : setOk e w = true) : (([v, w] : List Nat).all fun v => setOk e v) = true := by simp [h, h2]
theorem qky {kf : κ → List Key} {f : α → D} (q : aR Q (.tmp (eDT kf f [])) e) : dC (.dT []) e Q := q
theorem xj {rs : List R} (f : α → D) (l : List α) (h : StL e rs (l.map f)) (q : aR Q (.tmp (eL f l)) e) (hl : rs.length ≤ 1000 := by simp) : rs.length ≤ 1000 ∧ j7 rs e fun ds => aR Q (.tmp (.lst ds)) e := qkk h q hl
theorem qiq (f : α → D) (q : aR Q (.tmp (eV f [])) e) : ([] : List R).length ≤ 1000 ∧ j7 [] e fun ds => aR Q (.tmp (.tup ds)) e := ⟨Nat.zero_le _, q⟩
theorem ZL {rs : List R} (f : α → D) (l : List α) (h : StL e rs (l.map f)) (q : aR Q (.tmp (eV f l)) e) (hl : rs.length ≤ 1000 := by simp) : rs.length ≤ 1000 ∧ j7 rs e fun ds => aR Q (.tmp (.tup ds)) e := qir h q hl
theorem qO (f : α → D) (g : β → D) (a : α) (b : β) (h : StL e [r1, r2] [f a, g b]) (q : aR Q (.tmp (eT2 f g (a, b))) e) : [r1, r2].length ≤ 1000 ∧ j7 [r1, r2] e fun ds => aR Q (.tmp (.tup ds)) e := qir h q
section
variable {δ : Type} {f : α → D} {g : β → D} {h : γ → D} {i : δ → D}
theorem WR {p : α × β} : IxTo (eT2 f g p) (.int 0) (f p.1) := ix_T (by rfl)
theorem WQ {p : α × β} : IxTo (eT2 f g p) (.int 1) (g p.2) := ix_T (by rfl)
end
theorem qcW {b : Bool} {s0 : σ} {u : XT} {A : (Bool × σ → Prop) → Prop} {k : Bool × σ → Prop} (sh : σ → En → Prop) (h : ifW b A (fun kk => kk (false, s0)) k) (h0 : sh s0 e)
 (h1 : b = true → ∀ (kk : Bool × σ → Prop) (N : Bool → En → Prop), (∀ (v : Bool × σ) e, sh v.2 e → kk v → aB N v.1 e) → A kk → u e N) (hJ : ∀ (v : Bool × σ) e, sh v.2 e → k v → aB QB v.1 e) :
 (b = true → u e QB) ∧ (b = false → aB QB false e) := ⟨fun z => h1 z _ _ hJ (h.1 z), fun z => hJ (false, s0) _ h0 (h.2 z)⟩
theorem JD {b : Bool} {s0 : σ} {u : XT} {A : (Bool × σ → Prop) → Prop} {k : Bool × σ → Prop} (sh : σ → En → Prop) (h : ifW b (fun kk => kk (true, s0)) A k) (h0 : sh s0 e)
 (h1 : b = false → ∀ (kk : Bool × σ → Prop) (N : Bool → En → Prop), (∀ (v : Bool × σ) e, sh v.2 e → kk v → aB N v.1 e) → A kk → u e N) (hJ : ∀ (v : Bool × σ) e, sh v.2 e → k v → aB QB v.1 e) :
 (b = true → aB QB true e) ∧ (b = false → u e QB) := ⟨fun z => hJ (true, s0) _ h0 (h.1 z), fun z => h1 z _ _ hJ (h.2 z)⟩
theorem qgv {b : Bool} {s0 : σ} {u : XE} {A : (Bool × σ → Prop) → Prop} {k : Bool × σ → Prop} (sh : σ → En → Prop) (h : ifW b A (fun kk => kk (false, s0)) k) (h0 : sh s0 e)
 (h1 : b = true → ∀ (kk : Bool × σ → Prop) (N : R → En → Prop), (∀ (v : Bool × σ) e, sh v.2 e → kk v → aR N (.tmp (.bl v.1)) e) → A kk → u e N) (hJ : ∀ (v : Bool × σ) e, sh v.2 e → k v → aR Q (.tmp (.bl v.1)) e) :
 (b = true → u e Q) ∧ (b = false → aR Q (.tmp (.bl b)) e) := ⟨fun z => h1 z _ _ hJ (h.1 z), fun z => by
 have := hJ (false, s0) _ h0 (h.2 z)
 rw [z]; exact this⟩
theorem qiv {b : Bool} {s0 : σ} {u : XE} {A : (Bool × σ → Prop) → Prop} {k : Bool × σ → Prop} (sh : σ → En → Prop) (h : ifW b (fun kk => kk (true, s0)) A k) (h0 : sh s0 e)
 (h1 : b = false → ∀ (kk : Bool × σ → Prop) (N : R → En → Prop), (∀ (v : Bool × σ) e, sh v.2 e → kk v → aR N (.tmp (.bl v.1)) e) → A kk → u e N) (hJ : ∀ (v : Bool × σ) e, sh v.2 e → k v → aR Q (.tmp (.bl v.1)) e) :
 (b = true → aR Q (.tmp (.bl b)) e) ∧ (b = false → u e Q) := ⟨fun z => by
 have := hJ (true, s0) _ h0 (h.1 z)
 rw [z]; exact this, fun z => h1 z _ _ hJ (h.2 z)⟩
theorem qcV {g : XG} {tt : XT} {te : XE} {kd : Option Bool} {vs : List Nat} {kk : List D → En → Prop} {fI : α → D} {fo : α → D} {l : List α} (p : α → Bool) (hs : (vs.all fun v => setOk e1 v) = true) (hl : l.length ≤ sizeLine) (he : wM vs e1 = e)
 (hb : ∀ a ∈ l, ∀ (c : Prop) (k1 : D → En → Prop) (k2 : En → Prop), c → (p a = true → k1 (fo a) e) → (p a = false → k2 e) → g (mkI kd (fI a)) e fun e1 => tt e1 fun b e2 => (b = true → te e2 fun r e3 => stor r e3 fun dd => c ∧ k1 dd (wM vs e3)) ∧ (b = false → k2 (wM vs e2)))
 (q : aK kk ((l.filter p).map fo) e) : (vs.all fun v => setOk e1 v) = true ∧ lcL g tt te kd vs (l.map fI) (wM vs e1) [] kk := qiw (fo := fo) p (fun a => a) hs hl he hb (by simpa using q)
theorem qbc {S S' : FS} {n : Nat} {t : XS} (b : BodyOk S n t) (hm : S.ms = S'.ms) (hw : ∀ ds Q, S'.wp ds Q → S.wp ds Q) : BodyOk S' n t := by
 intro ds Q hl h
 have := b ds Q (by rw [hm]; exact hl) (hw ds Q h)
 have he : outD S ds Q = outD S' ds Q := funext fun d => funext fun e => by unfold outD; rw [hm]
 rw [hm, he] at this
 exact this
end
end TX
namespace BX
open PySem PySem.Spec PyProof.Rows L2
section
variable {K : PySem.W.Frag} {H : Hp}
theorem qh9 : ∀ {xs : List D} {vs : List V}, vs.length = xs.length → (∀ (j : Nat) (d : D) (v : V), xs[j]? = some d → vs[j]? = some v → Rep K H 0 d v []) → Reps K H 0 xs vs []
 | [], [], _, _ => .nil
 | [], _ :: _, l, _ => by simp at l
 | _ :: _, [], l, _ => by simp at l
 | d :: xs, v :: vs, l, h => .cons (f := []) (g := []) (h 0 d v rfl rfl) (qh9 (by simpa using l) fun j d v h1 h2 => h (j + 1) d v (by simpa using h1) (by simpa using h2)) (fun _ b hb => by simp at hb)
theorem Reps.nilAt {lv : Nat} : ∀ {xs : List D} {vs : List V} {f : List Addr}, Reps K H lv xs vs f → f = [] → ∀ (j : Nat) (d : D) (v : V), xs[j]? = some d → vs[j]? = some v → Rep K H lv d v []
 | _, _, _, .nil, _, j, d, v, h1, _ => by simp at h1
 | _, _, _, .cons (f := f) (g := g) r t _, e, j, d, v, h1, h2 => by
   obtain ⟨rfl, rfl⟩ := List.append_eq_nil_iff.mp e
   cases j with
   | zero => cases h1; cases h2; exact r
   | succ j => exact t.nilAt rfl j d v (by simpa using h1) (by simpa using h2)
end
abbrev Bn := R → List R → En → (R → En → Prop) → Prop
def dMn (isT : D → Bool) (B : Bn) (ta : XE) (u : XA) : XE := fun env Q => ta env fun r1 e1 => (rd 1 r1 e1 fun d => isT d = true) ∧ u e1 fun rs e2 => B r1 rs e2 Q
structure MnOk (X : Cx) (T : String) (isT : D → Bool) (rr : V → List V → Hp → VK → Prop) (B : Bn) : Prop where
 ty : ∀ (H : Hp) (d : D) (x : V) (g : List Addr), Rep X.K H 1 d x g → isT d = true → tyV X.K T x H
 run : ∀ (σ : L2.St) (H : Hp) (e : En) (f : FA) (r1 : R) (rs : List R) (x : V) (ys : List V) (g1 gs : List Addr) (QQ : R → En → Prop) (Q : VK), Abs X.K σ H e f → ResOk X.K σ H e f r1 x g1 → ResOks X.K σ H e f rs ys gs → (∀ b ∈ g1, b ∉ gs) → B r1 rs e QQ →
  (∀ v H' e' f' r' g', Abs X.K σ H' e' f' → ResOk X.K σ H' e' f' r' v g' → Stp H e f (g1 ++ gs) H' e' f' g' → Kp e f e' f' → QQ r' e' → Q v H') → rr x ys H Q
 mono : ∀ r1 rs e Q Q', (∀ r e, Q r e → Q' r e) → B r1 rs e Q → B r1 rs e Q'
section
variable {X : Cx} {o e : Expr} {es : List Expr} {ta : XE} {u : XA} {cpos apos : Pos} {T id : String} {name : Str} {isT : D → Bool} {rr : V → List V → Hp → VK → Prop} {B : Bn}
theorem qgG (ok : MnOk X T isT rr B) (mo : uE ta) (mu : qbW u) {σ : L2.St} {H : Hp} {Q : VK} (q : vR X.K (dMn isT B ta u) σ H Q) :
 vR X.K ta σ H fun x H1 => tyV X.K T x H1 ∧ qeJ X.K u σ H1 fun ys H2 => rr x ys H2 Q := by
 obtain ⟨env, f, A, q⟩ := q
 have h := qdQ (B := fun r1 e1 => rd 1 r1 e1 fun d => isT d = true) (C := fun r1 rs e2 => B r1 rs e2 (qdW X.K σ H env f Q)) mo mu A q
 obtain ⟨env1, f1, A1, q1⟩ := h
 refine ⟨env1, f1, A1, mo _ _ _ (fun r1 e1 z => ?_) q1⟩
 intro x H1 f1 g1 a b c d
 obtain ⟨⟨r0, e0, f0, g0, A0, R0, B0⟩, env2, f2, A2, q2⟩ := z x H1 f1 g1 a b c d
 obtain ⟨d0, g00, rp0, B0⟩ := xf A0 R0 B0
 refine ⟨ok.ty _ _ _ _ rp0 B0, env2, f2, A2, mu _ _ _ (fun rs e2 z => ?_) q2⟩
 intro vs H2 f2 g2 a b c d
 obtain ⟨r1, rs, e2, f2, g1, gs, A2, R1, R2, n, S, Kk, q3⟩ := z vs H2 f2 g2 a b c d
 exact ok.run σ H2 e2 f2 r1 rs x vs g1 gs _ Q A2 R1 R2 n q3 fun v H' e' f' r' g' A' R' S' K' q => q v H' f' g' A' R' (S.trans S') (Kk.trans K')
theorem qgF (ok : MnOk X T isT rr B) (mo : uE ta) (mu : qbW u) : uE (dMn isT B ta u) := fun env Q Q' h q => mo _ _ _ (fun r1 e1 q => ⟨q.1, mu _ _ _ (fun rs e2 q => ok.mono _ _ _ _ _ h q) q.2⟩) q
theorem qi1 (ok : MnOk X T isT rr B) (pa : PlainAttrs T) (slot : Slot T name id) (hty : typeOf (.builtin id) = pure (.type "method_descriptor")) (hm : MtR X id rr) (ho : DE X o ta) (ha : DA X (e :: es) u) (hbase : attributeBase o name X.env (eval o X.env) = eval o X.env := by rfl)
 (hfew : ((backTo cpos (starEach (e :: es) X.env)).all (fun x => !x.1) && (backToKw cpos (keywordEach [] X.env)).all (fun x => x.1.isSome)
  && decide ((e :: es).length + ([] : List Keyword).length + (if ([] : List Keyword).isEmpty then 0 else 1) < 30)) = true := by rfl)
 (hline : (apos.endLine == cpos.line) = true := by rfl) (hs : starEach (e :: es) X.env = (false, eval e X.env) :: starEach es X.env := by rfl) (hplain : (backTo cpos (starEach es X.env)).any (·.1) = false := by rfl) :
 DE X (.Call (.Attribute o name apos) (e :: es) [] cpos) (dMn isT B ta u) :=
 ⟨PE.imp (pe_bm pa slot hty hm ho.run ha.run hbase hfew hline hs hplain) fun σ H Q q => qgG ok ho.mono ha.mono q, qgF ok ho.mono ha.mono⟩
end
end BX
namespace BX
open PySem PySem.Spec PyProof.Rows L2
def JM (d1 d2 : D) (k : Option D → Prop) : Prop := match d1 with
 | .dT kvs => match d2 with
   | .tup ds => match xU ds with
     | some ks => k (VR kvs ks)
     | none => False
   | _ => False
 | .dK kvs => match dKey d2 with
   | some ky => k (qgJ kvs ky)
   | none => False
 | _ => False
theorem YJ {d1 d2 : D} {k k' : Option D → Prop} (h : ∀ o, k o → k' o) (q : JM d1 d2 k) : JM d1 d2 k' := by
 unfold JM at q ⊢
 split at q
 ·split at q
  ·split at q
   ·simp only [*] <;> exact h _ q
   ·exact q.elim
  ·exact q.elim
 ·split at q
  ·simp only [*] <;> exact h _ q
  ·exact q.elim
 ·exact q.elim
def immO (o : Option D) (k : Option D → Prop) : Prop := match o with
 | some d => d.imm = true ∧ k (some d)
 | none => k none
theorem JS {o : Option D} {k k' : Option D → Prop} (h : ∀ o, k o → k' o) (q : immO o k) : immO o k' := by
 cases o with
 | none => exact h _ q
 | some d => exact ⟨q.1, h _ q.2⟩
def bGet : Bn := fun r1 rs e Q => match rs with
 | [r2] => rd 1 r1 e fun d1 => rd 1 r2 e fun d2 => JM d1 d2 fun o => immO o fun o => Q (.tmp (o.getD .non)) e
 | [r2, r3] => rd 1 r1 e fun d1 => rd 1 r2 e fun d2 => rd 1 r3 e fun d3 => d3.imm = true ∧ JM d1 d2 fun o => immO o fun o => Q (.tmp (o.getD d3)) e
 | _ => False
def rGet : V → List V → Hp → VK → Prop := fun x ys H Q => ∃ a, x = .ref a ∧ ((∃ y o, ys = [y] ∧ DGet H a y o ∧ Q (o.getD .non) H) ∨ ∃ y z o, ys = [y, z] ∧ DGet H a y o ∧ Q (o.getD z) H)
section
variable {X : Cx}
theorem qiJ (hx : Ok X) : MtR X "dict.get" rGet := by
 intro pins s σ H x xs v us Q I rx rxs h
 have hu : X.A.units + 1 < cLine := by have := hx.un; omega
 obtain ⟨a, rfl, h⟩ := h
 cases rx
 rcases h with ⟨y, o, rfl, g, q⟩ | ⟨y, z, o, rfl, g, q⟩
 ·obtain ⟨u, rfl, r1⟩ := vals1 rxs
  exact d_get1 hu I g r1 fun w' s' I' r' => ⟨_, H, I', r', q⟩
 ·obtain ⟨u, u2, rfl, r1, r2⟩ := vals2 rxs
  exact d_get2 hu I g r1 r2 fun w' s' I' r' => ⟨_, H, I', r', q⟩
end
section
variable {K : PySem.W.Frag} {H : Hp}
theorem qaT {d1 d2 : D} {x y : V} {g1 g2 : List Addr} {k : Option D → Prop} (r1 : Rep K H 1 d1 x g1) (r2 : Rep K H 1 d2 y g2) (q : JM d1 d2 fun o => immO o k) :
 ∃ a o o', x = .ref a ∧ DGet H a y o' ∧ k o ∧ ((o = none ∧ o' = none) ∨ ∃ d v, o = some d ∧ o' = some v ∧ Rep K H 0 d v []) := by
 unfold JM at q
 split at q
 ·rename_i kvs
  split at q
  ·split at q
   ·rename_i ks hk
    obtain ⟨a, hs, g, rfl, ha, ek, nd, rr, _⟩ := r1.dTAt
    obtain ⟨b, vs, rfl, hb, rb⟩ := r2.tupleAt (Nat.le_refl _)
    rw [rb.xU hk] at hb
    have G := DGet.t (k := ks) ha hb
    cases e : VR kvs ks with
    | none =>
      rw [e] at q
      rw [Zj (k := ks) ek e] at G
      exact ⟨a, none, none, rfl, G, q, .inl ⟨rfl, rfl⟩⟩
    | some d =>
      rw [e] at q
      obtain ⟨j, z, e1, e2, e3⟩ := jC ek e
      rw [e3] at G
      obtain ⟨v', g', h1, h2, h3⟩ := rr.get e1
      rw [e2] at h1; cases h1
      exact ⟨a, some d, some z, rfl, G, q.2, .inr ⟨d, z, rfl, rfl, (h2.imm (Nat.le_refl _) q.1).2⟩⟩
   ·exact q.elim
  ·exact q.elim
 ·rename_i kvs
  split at q
  ·rename_i ky hk
   obtain ⟨a, hs, g, rfl, ha, ek, nd, rr, _⟩ := r1.dKAt
   have e0 := r2.dKey hk
   subst e0
   have G := DGet.k (k := ky) ha
   cases e : qgJ kvs ky with
   | none =>
     rw [e] at q
     rw [Zj (k := ky) ek e] at G
     exact ⟨a, none, none, rfl, G, q, .inl ⟨rfl, rfl⟩⟩
   | some d =>
     rw [e] at q
     obtain ⟨j, z, e1, e2, e3⟩ := jC ek e
     rw [e3] at G
     obtain ⟨v', g', h1, h2, h3⟩ := rr.get e1
     rw [e2] at h1; cases h1
     exact ⟨a, some d, some z, rfl, G, q.2, .inr ⟨d, z, rfl, rfl, (h2.imm (Nat.le_refl _) q.1).2⟩⟩
  ·exact q.elim
 ·exact q.elim
end
section
variable {X : Cx}
theorem W7 {H : Hp} {e : En} {f : FA} {G : List Addr} : Stp H e f G H e f [] := ⟨fun b o h _ => h, fun b q => q.elim .inl fun z => by simp at z⟩
theorem qkp : MnOk X "dict" D.isDic rGet bGet where
 ty := qfc
 mono := fun r1 rs e Q Q' h q => by
  unfold bGet at q ⊢
  split at q
  ·exact qZ (fun d1 q => qZ (fun d2 q => YJ (fun o q => JS (fun o q => h _ _ q) q) q) q) q
  ·exact qZ (fun d1 q => qZ (fun d2 q => qZ (fun d3 q => ⟨q.1, YJ (fun o q => JS (fun o q => h _ _ q) q) q.2⟩) q) q) q
  ·exact q.elim
 run := fun σ H e f r1 rs x ys g1 gs QQ Q A R1 R2 n q k => by
  unfold bGet at q
  split at q
  ·cases R2 with
   | cons R2 Rt _ =>
     cases Rt
     obtain ⟨d1, g1', p1, q⟩ := xf A R1 q
     obtain ⟨d2, g2', p2, q⟩ := xf A R2 q
     obtain ⟨a, o, o', rfl, G, q, c⟩ := qaT p1 p2 q
     refine ⟨a, rfl, .inl ⟨_, o', rfl, G, ?_⟩⟩
     rcases c with ⟨rfl, rfl⟩ | ⟨d, v, rfl, rfl, rp⟩
     ·exact k _ _ _ _ _ [] A (.tmp .non qC) W7 .refl q
     ·exact k _ _ _ _ _ [] A (.tmp rp qC) W7 .refl q
  ·cases R2 with
   | cons R2 Rt _ =>
     cases Rt with
     | cons R3 Rt _ =>
       cases Rt
       obtain ⟨d1, g1', p1, q⟩ := xf A R1 q
       obtain ⟨d2, g2', p2, q⟩ := xf A R2 q
       obtain ⟨d3, g3', p3, him, q⟩ := xf A R3 q
       obtain ⟨a, o, o', rfl, G, q, c⟩ := qaT p1 p2 q
       refine ⟨a, rfl, .inr ⟨_, _, o', rfl, G, ?_⟩⟩
       rcases c with ⟨rfl, rfl⟩ | ⟨d, v, rfl, rfl, rp⟩
       ·exact k _ _ _ _ _ [] A (.tmp (p3.imm (Nat.le_refl _) him).2 qC) W7 .refl q
       ·exact k _ _ _ _ _ [] A (.tmp rp qC) W7 .refl q
  ·exact q.elim
variable {o e : Expr} {es : List Expr} {ta te tf : XE} {u : XA} {cpos apos : Pos}
theorem qi3 (hx : Ok X) (ho : DE X o ta) (ha : DA X (e :: es) u) (hbase : attributeBase o "get" X.env (eval o X.env) = eval o X.env := by rfl)
 (hfew : ((backTo cpos (starEach (e :: es) X.env)).all (fun x => !x.1) && (backToKw cpos (keywordEach [] X.env)).all (fun x => x.1.isSome)
  && decide ((e :: es).length + ([] : List Keyword).length + (if ([] : List Keyword).isEmpty then 0 else 1) < 30)) = true := by rfl)
 (hline : (apos.endLine == cpos.line) = true := by rfl) (hs : starEach (e :: es) X.env = (false, eval e X.env) :: starEach es X.env := by rfl) (hplain : (backTo cpos (starEach es X.env)).any (·.1) = false := by rfl) :
 DE X (.Call (.Attribute o "get" apos) (e :: es) [] cpos) (dMn D.isDic bGet ta u) :=
 qi1 qkp PySem.F.plainAttrs_dict PySem.F.slot_dict_get PySem.F.type_dict_get (qiJ hx) ho ha hbase hfew hline hs hplain
end
end BX
namespace BX
open PySem PySem.Spec PyProof.Rows L2 RT
def cutD (xs : List D) (lo hi : Option Int) : List D := (xs.drop (HT.sIx xs.length 0 lo)).take (HT.sIx xs.length xs.length hi - HT.sIx xs.length 0 lo)
abbrev XO := En → (Option Int → En → Prop) → Prop
def Wh : XO := fun env Q => Q none env
def Wg (t : XE) : XO := fun env Q => t env fun r e => rd 2 r e fun d => intD d fun z => Q (some z) e
def qjn (t : XO) : Prop := ∀ env Q Q', (∀ o e, Q o e → Q' o e) → t env Q → t env Q'
def Qw (d : D) (lo hi : Option Int) (k : D → Prop) : Prop := match d with
 | .lst xs => immL xs = true ∧ k (.lst (cutD xs lo hi))
 | .lF xs => immL xs = true ∧ k (.lst (cutD xs lo hi))
 | .tup xs => immL xs = true ∧ k (.tup (cutD xs lo hi))
 | _ => False
def uD (t : XE) (lo hi : XO) : XE := fun env Q => t env fun r e => lo e fun l e1 => hi e1 fun u e2 => rd 1 r e2 fun d => Qw d l u fun d' => Q (.tmp d') e2
end BX
namespace BX
open PySem PySem.Spec PyProof.Rows L2 RT L2.DX
def rUpd (K : PySem.W.Frag) : V → List V → Hp → VK → Prop := fun x ys H Q => ∃ (d a : Addr) (kvs : List (List Key × V)) (l : List Pr), x = .ref d ∧ ys = [.ref a] ∧ H d = some (.dT kvs) ∧ SqL K H a (l.map fun x => V.ref x.at') ∧ (∀ x ∈ l, PrOk K H x) ∧ kvs.length + l.length ≤ sizeLine ∧
 Q .non (upd H d (.dT (putAll kvs l)))
section
variable {X : Cx}
theorem qiI (hx : Ok X) : MtR X "dict.update" (rUpd X.K) := by
 intro pins s σ H x xs v us Q I rx rxs h
 obtain ⟨d, a, kvs, l, rfl, rfl, hH, hq, hp, hsz, q⟩ := h
 cases rx
 obtain ⟨u, rfl, r1⟩ := vals1 rxs
 cases r1
 obtain ⟨its, rv, pl, hz⟩ := I.list hq
 obtain ⟨ts, T⟩ := Vc I hp
 have ei : its = l.map fun x => Value.ref x.at' := by
  have : ∀ {l : List Pr} {us : List Value}, Vals (l.map fun x => V.ref x.at') us → us = l.map fun x => Value.ref x.at' := by
   intro l
   induction l with
   | nil => intro us r; cases r; rfl
   | cons x l ih => intro us r; cases r with
     | cons h t => cases h; rw [List.map_cons, ← ih t]
  exact this rv
 subst ei
 have hl := T.len
 obtain ⟨z, hm, xs', rel, dd⟩ := dt_of I.hok hH
 have hxl : xs'.length = kvs.length := (Paired.length rel).symm
 obtain ⟨od, esd, epd, hod, hcd, _⟩ := id dd
 obtain ⟨o, n, ho, hc, hd, hdat⟩ := pl
 have ned : ∀ {b : Addr} {ob : Obj} {T : String}, s.heap.get? b = some ob → ob.cls = .type T → T ≠ "dict" → b ≠ d := fun {b ob T} h1 h2 h3 z => by
  subst z
  rw [hod] at h1
  cases h1
  have h4 := hcd.1
  rw [h2] at h4
  exact h3 (Value.type.inj h4)
 have keyne : ∀ {b : Addr} {ks : List Key}, H b = some (.tup (ks.map kV)) → b ≠ d := fun {b ks} h => by
  obtain ⟨o1, its1, n1, g1, g2, _⟩ := key_of I.hok h
  exact ned g1 g2 (by decide)
 have P := PairArg.list (prog := X.prog) (w := X.w) a (l.map fun x => Value.ref x.at').toArray (fun j => (l.map (·.at')).getD j 0) (ts.map fun t => (Value.ref t.2.1, t.2.2))
 refine call_update_pairsH (knd := tupleKind (mixKind X.prog X.w)) (acc := xs') (ps := ts) P (I.ok.hd hx.calm) ?_ ⟨⟨o, n, ho, hc, hd, hdat⟩, ?_, fun j k v e => ?_⟩ ?_ ⟨by simp, fun i key v e => ?_⟩ (fun h' hk y hy => ?_) dd (by rw [List.length_map, hl, hxl]; exact hsz) fun h' tk hd' k => ?_
 ·exact tupleKind_room_in1 (A := X.A) (by have := hx.un; omega)
 ·simp [hl]
 ·rw [List.getElem?_map] at e
  cases et : ts[j]? with
  | none => rw [et] at e; cases e
  | some t =>
    rw [et] at e
    cases e
    obtain ⟨x, hx1, hx2, hx3⟩ := T.get et
    have hj : ((l.map (·.at')).getD j 0) = x.at' := by simp [List.getD, hx1]
    refine ⟨by simp [hx1], .inl ?_⟩
    show s.heap.IsTuple ((l.map (·.at')).getD j 0) _
    rw [hj]
    exact hx3
 ·intro hmem
  rcases List.mem_cons.mp hmem with e | hmem
  ·exact ned ho hc (by decide) e.symm
  ·obtain ⟨j, hj, e⟩ := List.mem_map.mp hmem
   have hj' : j < ts.length := by simpa using hj
   obtain ⟨x, hx1, hx2, o1, g1, g2, _⟩ := T.get (List.getElem?_eq_getElem hj')
   have hjx : ((l.map (·.at')).getD j 0) = x.at' := by simp [List.getD, hx1]
   rw [hjx] at e
   exact ned g1 g2 (by decide) e
 ·rw [PairRel, List.getElem?_map] at e
  cases et : ts[i]? with
  | none => rw [et] at e; cases e
  | some t => rw [et] at e; cases e; exact ⟨t.1, t.2.1, rfl, rfl⟩
 ·have hy' : H y.2.1 = some (.tup (y.1.map kV)) := by
   rcases List.mem_append.mp hy with hy | hy
   ·have all : ∀ {l : List (List Key × V)} {m : List (List Key × Addr × Value)}, KT H l m → ∀ x ∈ m, H x.2.1 = some (.tup (x.1.map kV)) := by
     intro l m r
     induction r with
     | nil => intro x hx; cases hx
     | cons h t ih =>
       intro x hx
       rcases List.mem_cons.mp hx with rfl | hx
       ·have e := h.2.1
        rw [h.1] at e
        exact e
       ·exact ih x hx
    exact all rel y hy
   ·exact T.keys y hy
  obtain ⟨o1, its, n1, g1, g2, g3, g4⟩ := key_of I.hok hy'
  exact ⟨o1, its, n1, hk _ _ (keyne hy') (by simp) g1, g2, g3, g4⟩
 ·have kt := T.all rel
  obtain ⟨q0, es, ep, hq0, h2, h3, h4, _, h5⟩ := hd'
  refine ⟨.non, upd H d (.dT (putAll kvs l)), I.write (x := d) (e := d) (t' := tk) (by rw [hH]; exact True.intro) (.inl rfl) (fun b u hb e => k b u hb (by simp) e) ⟨q0, hq0⟩ ⟨?_, hm, _, kt.keeps fun c ys ec => ?_, q0, es, ep, hq0, h2, h3, h4, h5⟩, rfl, q⟩
  ·have := Yy l kvs
   omega
  ·rw [upd_ne (ne_of ec hH (fun z => nomatch z))]
   exact ec
def bUpd : Bn := fun r1 rs e Q => match rs with
 | [r2] => rd 1 r2 e fun d2 => match d2 with
   | .lst xs => match Vv xs with
     | some l => chgT r1 e fun i kvs m => immL (kvs.map (·.2)) = true ∧ kvs.length + l.length ≤ sizeLine ∧ Q (.tmp .non) (e.set i (some (.dT (Jv kvs l), m)))
     | none => False
   | _ => False
 | _ => False
theorem qeH : MnOk X "dict" D.isDic (rUpd X.K) bUpd where
 ty := qfc
 mono := fun r1 rs e Q Q' h q => by
  unfold bUpd at q ⊢
  split at q
  ·refine qZ (fun d2 q => ?_) q
   split at q
   ·split at q
    ·first
      | (simp only [*]; exact Uh (fun i d m q => ⟨q.1, q.2.1, h _ _ q.2.2⟩) q)
      | exact Uh (fun i d m q => ⟨q.1, q.2.1, h _ _ q.2.2⟩) q
    ·exact q.elim
   ·exact q.elim
  ·exact q.elim
 run := fun σ H e f r1 rs x ys g1 gs QQ Q A R1 R2 n q k => by
  unfold bUpd at q
  split at q
  ·cases R2 with
   | cons R2 Rt _ =>
     cases Rt
     obtain ⟨d2, g2', p2, q⟩ := xf A R2 q
     split at q
     ·split at q
      ·rename_i xs l el
       obtain ⟨a, vs, g', rfl, ha, rr, _⟩ := p2.listAt1 (Nat.le_refl _)
       obtain ⟨ps, rfl, hp, hq⟩ := Xk (Nat.le_refl _) rr el
       obtain ⟨i, kvs, m, b, hs, fp, rfl, e0, hm, hl, hv, hH, ek, nd, rk, hf, nfp, rfl, him, hz, q⟩ := qhd A R1 q
       obtain ⟨rfl, rk⟩ := rk.imm (Nat.zero_le _) him
       obtain ⟨h1, h2, h3⟩ := Yx hq ek nd rk
       have lh : hs.length = kvs.length := by have := congrArg List.length ek; simpa using this
       have lp : ps.length = l.length := by
        have : ∀ {ps : List Pr} {l : List (List Key × D)} {R : Pr → List Key × D → Prop}, Paired R ps l → ps.length = l.length := fun h => by
         induction h with
         | nil => rfl
         | cons _ _ ih => simp [ih]
        exact this hq
       obtain ⟨A3, S3, K3, _⟩ := qfJ (G := []) (G' := []) A e0 hm hl hv hH rfl hf nfp h1 h2 h3 (fun b hb => by simp at hb) (fun b hb => by simp at hb) qC
       exact ⟨b, a, hs, ps, rfl, rfl, hH, .inl (.inl ha), hp, by rw [lh, lp]; exact hz, k _ _ _ _ _ [] A3 (.tmp .non qC) (S3.more fun b hb => by simp at hb) K3 q⟩
      ·exact q.elim
     ·exact q.elim
  ·exact q.elim
variable {o e : Expr} {es : List Expr} {ta te tf : XE} {u : XA} {cpos apos : Pos}
theorem qdD (hx : Ok X) (ho : DE X o ta) (ha : DA X (e :: es) u) (hbase : attributeBase o "update" X.env (eval o X.env) = eval o X.env := by rfl)
 (hfew : ((backTo cpos (starEach (e :: es) X.env)).all (fun x => !x.1) && (backToKw cpos (keywordEach [] X.env)).all (fun x => x.1.isSome)
  && decide ((e :: es).length + ([] : List Keyword).length + (if ([] : List Keyword).isEmpty then 0 else 1) < 30)) = true := by rfl)
 (hline : (apos.endLine == cpos.line) = true := by rfl) (hs : starEach (e :: es) X.env = (false, eval e X.env) :: starEach es X.env := by rfl) (hplain : (backTo cpos (starEach es X.env)).any (·.1) = false := by rfl) :
 DE X (.Call (.Attribute o "update" apos) (e :: es) [] cpos) (dMn D.isDic bUpd ta u) :=
 qi1 qeH PySem.F.plainAttrs_dict PySem.F.slot_dict_update PySem.F.type_dict_update (qiI hx) ho ha hbase hfew hline hs hplain
end
end BX
namespace TX
open PySem PySem.Spec PyProof.Rows L2 BX
section
variable {e e1 e' : En} {L : Nat} {r r1 r2 r3 r' : R} {d d1 d2 d3 : D} {Q : R → En → Prop} {i j : Nat} {α β γ κ σ : Type} {kI : List D → Option Bool → Lok → En → Prop}
theorem c_mn {isT : D → Bool} {B : Bn} {u : XA} (h0 : vr e i = some r) (hr : Rv e 1 r d) (ht : isT d = true) (q : u e fun rs e2 => B r rs e2 Q) : dMn isT B (dVar i) u e Q := qw h0 ⟨hr.rd ht, q⟩
section
variable [DecidableEq κ] {c : κ → D} {kf : κ → List Key} [hk : Kt c kf] {f : α → D} [hf : Im f] {l : List (κ × α)} {k : κ} {v : α}
theorem qiy (h1 : Rv e 1 r1 (eDT kf f l)) (h2 : Rv e 1 r2 (c k)) (h3 : Rv e 1 r3 (f v)) (q : aR Q (.tmp (f ((getA l k).getD v))) e) : bGet r1 [r2, r3] e Q := by
 refine h1.rd (h2.rd (h3.rd ⟨hf.im v, ?_⟩))
 obtain ⟨ds, e1, e2⟩ := hk.key k
 rw [e1]
 unfold eDT JM
 simp only [e2, qeI (c := c)]
 cases h : getA l k with
 | none => rw [h] at q; exact q
 | some a => rw [h] at q; exact ⟨hf.im a, q⟩
theorem qeP : ∀ l : List (κ × α), immL ((l.map fun p => (kf p.1, f p.2)).map (·.2)) = true := fun l => uO fun d hd => by
 simp only [List.map_map, List.mem_map, Function.comp] at hd
 obtain ⟨p, _, rfl⟩ := hd
 exact hf.im _
theorem qkj {ys : List (κ × α)} {m : Md} {P : List (κ × α) → Prop} (ee : List (κ × α) → En) (h : lt (xg l ys) P) (hr : Rv e 1 r2 (eL (eT2 c f) ys)) (h0 : e[i]? = some (some (eDT kf f l, m))) (hl : l.length + ys.length ≤ sizeLine) (he : ∀ x, e.set i (some (eDT kf f x, m)) = ee x) (q : ∀ x, P x → aR Q (.tmp .non) (ee x)) (hm : m = .own ∨ m = .io := by decide) :
 bUpd (.sl i) [r2] e Q := by
 have q := q _ h
 rw [← he] at q
 refine hr.rd ?_
 unfold eDT at h0 q
 unfold eL
 simp only [ZK (c := c) (f := f)]
 rw [← ZJ (c := c)] at q
 unfold chgT chg
 rcases hm with rfl | rfl <;> (simp only [h0]; exact ⟨qeP l, by simpa using hl, q⟩)
end
end
end TX
namespace BX
open PySem PySem.Spec PyProof.Rows L2 RT L2.DX
end BX
namespace TX
open PySem PySem.Spec PyProof.Rows L2 BX
section
variable {e e1 e' : En} {L : Nat} {r r1 r2 r3 r' : R} {d d1 d2 d3 : D} {Q : R → En → Prop} {nx : En → Prop} {rt : D → En → Prop} {i j m : Nat} {α β γ κ σ : Type} {kI : List D → Option Bool → Lok → En → Prop}
theorem qcN {a : Int} {c : Int × Int} : OpTo opIn (.int a) (eT2 D.int D.int c) (.bl (decide (c.1 = a) || decide (c.2 = a))) := fun k q => by
 have h := qfl (f := D.int) (a := a) (l := [c.1, c.2]) (by decide) k
 have e1 : (decide (c.1 = a) || decide (c.2 = a)) = decide (a ∈ [c.1, c.2]) := by
  by_cases h1 : c.1 = a
  ·simp [h1]
  ·by_cases h2 : c.2 = a
   ·simp [h2]
   ·have h1' : ¬ a = c.1 := fun z => h1 z.symm
    have h2' : ¬ a = c.2 := fun z => h2 z.symm
    simp [h1, h2, h1', h2']
 rw [e1] at q
 exact h q
theorem qhX {a : Str} (h : PyData.strOk a = true) : eqOk (.str a) = true := by
 unfold eqOk SeqAt.shaped
 simp [D.py, PyData.canLay0, PyData.depth, h]
theorem qij {a b : Str} (h1 : PyData.strOk a = true) (h2 : PyData.strOk b = true) : OpTo opEq (.str a) (.str b) (.bl (decide (a = b))) := fun k q => ⟨qhX h1, qhX h2, by
 have : deq (.str a) (.str b) = decide (a = b) := by
  unfold deq
  simp only [D.py, PyData.eqv]
  by_cases h : a = b
  ·subst h; simp
  ·simp [h]
 rw [this]; exact q⟩
end
end TX
namespace BX
open PySem PySem.Spec PyProof.Rows L2
section
variable {X : Cx} {k : Nat} {ps : List Str} {x : Str} {p pos : Pos} {S : FS}
theorem qi4 (F : Fn X.prog X.w X.K X.mg X.base x k ps S) (hr : Room k X.A) (hg : Gl X x) (hdb : (x == ("__debug__" : Str)) = false := by decide) : DE X (.Call (.Name x p) [] [] pos) (dFn S aNil) := by
 obtain ⟨f, fd, hF, hm, hk, hb⟩ := F.ex
 refine ⟨PE.imp (pe_call0 hF hr hg hm hk hb .nil pass0 hdb) fun σ H Q q => ?_, fun env Q Q' h q => ⟨q.1, q.2.1, F.mono _ _ _ (fun d es q => h _ _ q) q.2.2⟩⟩
 obtain ⟨env, f, A, q⟩ := q
 obtain ⟨o1, o2, q⟩ := (q : xP S.ms [] env = true ∧ apart S.ms [] = true ∧ uZ 2 [] env fun ds => S.wp ds fun d ds' => _)
 obtain ⟨ds, fa, l1, l2, Aa, q, back⟩ := qds A .nil o1 o2 q
 refine ⟨l2, ds, fa, l1, Aa, F.mono _ _ _ (fun d ds' q => ?_) q⟩
 intro v H' f' g l' A' rv ng S' K'
 obtain ⟨f2, A2, R2, S2, K2⟩ := back v d H' f' g ds' l' A' rv ng S' K'
 exact q v H' f2 g A2 R2 S2 K2
end
theorem qiV {P : Program} {w : World} {K : PySem.W.Frag} {mg : Str → Option Value} {base : Heap} {x : Str} {k : Nat} {ps : List Str} {S S' : FS} (F : Fn P w K mg base x k ps S) (hm : S.ms = S'.ms) (hw : ∀ ds Q, S'.wp ds Q → S.wp ds Q) (mo : qbV S') : Fn P w K mg base x k ps S' := by
 obtain ⟨f, fd, a, b⟩ := F.ex
 refine ⟨⟨f, fd, a.imp fun vs H Q E h => ?_, b⟩, mo⟩
 obtain ⟨h1, ds, f, h2, h3, h4⟩ := h
 unfold spOf
 rw [hm]
 exact ⟨h1, ds, f, h2, h3, hw _ _ h4⟩
end BX
namespace BX
open PySem PySem.Spec PyProof.Rows L2 RT PySem.W
def qkq (K : PySem.W.Frag) (t : XO) : L2.TO := fun σ H Q => ∃ env f, Abs K σ H env f ∧ t env fun o env' => ∀ H' f', Abs K σ H' env' f' → Stp H env f [] H' env' f' [] → Kp env f env' f' → Q o H'
structure DO (X : Cx) (e : Option Expr) (t : XO) : Prop where
 run : PO X e (qkq X.K t)
 mono : qjn t
theorem PO.imp {X : Cx} {e : Option Expr} {t u : L2.TO} (h : PO X e t) (k : ∀ σ H Q, u σ H Q → t σ H Q) : PO X e u := ⟨fun pins s σ H Q I q => h.run pins s σ H Q I (k _ _ _ q)⟩
section
variable {X : Cx} {e : Expr} {t : XE} {lo hi : Option Expr} {tl th : XO} {pos p2 : Pos}
theorem jL : DO X none Wh := ⟨PO.imp po_none fun σ H Q ⟨env, f, A, q⟩ => q H f A .refl .refl, fun env Q Q' h q => h _ _ q⟩
theorem jK (ha : DE X e t) : DO X (some e) (Wg t) := by
 refine ⟨PO.imp (po_some ha.run) fun σ H Q q => ?_, fun env Q Q' h q => ha.mono _ _ _ (fun r e q => qZ (fun d q => JR (fun z q => h _ _ q) q) q) q⟩
 obtain ⟨env, f, A, q⟩ := q
 refine ⟨env, f, A, ha.mono _ _ _ (fun r e1 q => ?_) q⟩
 intro v H1 f1 g1 A1 R1 S1 K1
 obtain ⟨d, g', rp, q⟩ := xf A1 R1 q
 obtain ⟨z, rfl, q⟩ := qdg q
 obtain ⟨rfl, _⟩ := rp.intV
 exact ⟨z, rfl, q H1 f1 A1 (S1.drop fun _ z => by simp at z) K1⟩
theorem Vk {d : D} {l u : Option Int} {k k' : D → Prop} (h : ∀ d, k d → k' d) (q : Qw d l u k) : Qw d l u k' := by
 unfold Qw at q ⊢
 split at q
 ·exact ⟨q.1, h _ q.2⟩
 ·exact ⟨q.1, h _ q.2⟩
 ·exact ⟨q.1, h _ q.2⟩
 ·exact q.elim
theorem qdH {α : Type} {xs : List α} {i n j : Nat} {a : α} (h : ((xs.drop i).take n)[j]? = some a) : xs[i + j]? = some a := by
 rw [List.getElem?_take] at h
 split at h
 ·rwa [List.getElem?_drop] at h
 ·cases h
theorem qam {K : PySem.W.Frag} {H : Hp} {xs : List D} {vs : List V} (r : Reps K H 0 xs vs []) (lo hi : Option Int) : Reps K H 0 (cutD xs lo hi) (cutV vs lo hi) [] := by
 have hl := r.len
 unfold cutD cutV
 rw [hl]
 refine qh9 (by simp [hl]) fun j d v h1 h2 => r.nilAt rfl _ d v (qdH h1) (qdH h2)
theorem xT (ha : DE X e t) (hl : DO X lo tl) (hu : DO X hi th) : DE X (.Subscript e (.Slice lo hi none p2) pos) (uD t tl th) := by
 refine ⟨PE.imp (pe_slice (SlR.or sl_list sl_tupA) ha.run hl.run hu.run) fun σ H Q q => ?_, fun env Q Q' h q => ha.mono _ _ _ (fun r e q => hl.mono _ _ _ (fun o e q => hu.mono _ _ _ (fun o e q => qZ (fun d q => Vk (fun d q => h _ _ q) q) q) q) q) q⟩
 obtain ⟨env, f, A, q⟩ := q
 refine ⟨env, f, A, ha.mono _ _ _ (fun r1 e1 q => ?_) q⟩
 intro x H1 f1 g1 A1 R1 S1 K1
 refine ⟨e1, f1, A1, hl.mono _ _ _ (fun l e2 q => ?_) q⟩
 intro H2 f2 A2 S2 K2
 obtain ⟨R2, _⟩ := R1.wait A1 (S2.frame []) K2
 refine ⟨e2, f2, A2, hu.mono _ _ _ (fun u e3 q => ?_) q⟩
 intro H3 f3 A3 S3 K3
 obtain ⟨R3, _⟩ := R2.wait A2 (S3.frame []) K3
 obtain ⟨d, g', rp, q⟩ := xf A3 R3 q
 have S : Stp H env f [] H3 e3 f3 [] := (S1.drop fun _ z => by simp at z).trans (S2.trans S3)
 have Kk := K1.trans (K2.trans K3)
 unfold Qw at q
 split at q
 ·obtain ⟨him, q⟩ := q
  obtain ⟨a, vs, g, rfl, hH, rr, _⟩ := rp.listAt1 (Nat.le_refl _)
  obtain ⟨rfl, r0⟩ := rr.imm (Nat.le_refl _) him
  refine .inl ⟨a, vs, rfl, .inl (.inl hH), fun p hp => ?_⟩
  have rc := qam r0 l u
  have x : Ext H3 (L2.upd H3 p (.lst (cutV vs l u))) [p] := .upd hp
  obtain ⟨A4, R4, S4⟩ := uQ (G := []) A3 S x (.lst upd_same (rc.keep fun b o e _ => x.same b o e) (fun _ z => by simp at z))
  exact q _ _ f3 [p] A4 R4 S4 Kk
 ·obtain ⟨him, q⟩ := q
  obtain ⟨a, vs, rfl, hH, rr, _⟩ := rp.lFSq
  obtain ⟨rfl, r0⟩ := rr.imm (Nat.le_refl _) him
  refine .inl ⟨a, vs, rfl, hH, fun p hp => ?_⟩
  have rc := qam r0 l u
  have x : Ext H3 (L2.upd H3 p (.lst (cutV vs l u))) [p] := .upd hp
  obtain ⟨A4, R4, S4⟩ := uQ (G := []) A3 S x (.lst upd_same (rc.keep fun b o e _ => x.same b o e) (fun _ z => by simp at z))
  exact q _ _ f3 [p] A4 R4 S4 Kk
 ·obtain ⟨him, q⟩ := q
  obtain ⟨a, vs, rfl, hH, rr⟩ := rp.tupleAt (Nat.le_refl _)
  obtain ⟨rfl, r0⟩ := rr.imm (Nat.le_refl _) him
  refine .inr ⟨a, vs, rfl, .inl (.inl hH), fun hw => ?_, fun _ p hp => ?_⟩
  ·have hl := r0.len
   have e : ∀ xs : List D, xs.length = vs.length → cutD xs l u = xs := fun xs he => by
    unfold cutD
    rw [he, hw.1, hw.2, List.drop_zero, ← he, Nat.sub_zero, List.take_length]
   rw [e _ hl] at q
   exact q _ H3 f3 [] A3 (.tmp (.tup hH r0) qC) S Kk
  ·have rc := qam r0 l u
   have x : Ext H3 (L2.upd H3 p (.tup (cutV vs l u))) [] := .updT hp
   obtain ⟨A4, R4, S4⟩ := uQ (G := []) A3 S x (Zk hp rc)
   exact q _ _ f3 [] A4 R4 S4 Kk
 ·exact q.elim
end
end BX
namespace BX
open PySem PySem.Spec PyProof.Rows L2 RT L2.DX
def tFrz (t : TS) : TS := fun Dn σ H => ∃ d u, H d = some u ∧ Mut (some u) ∧ ∀ od, t Dn σ (L2.upd H d (.frz od u))
theorem qfi {X : Cx} {st : Stmt} {t : TS} (h : PS X st t) : PS X st (tFrz t) := ⟨fun pins s σ H Dn I ⟨d, u, hd, mu, hw⟩ => by
 obtain ⟨od, I1⟩ := I.lock hd mu
 exact h.run pins s σ _ Dn I1 (hw od)⟩
def sFrz (i : Nat) (t : XS) : XS := fun env nx rt => match env[i]? with
 | some (some (.dT kvs, .own)) => immL (kvs.map (·.2)) = true ∧ t (env.set i (some (.dF kvs, .own))) nx rt
 | _ => False
def kD : Key → D
 | .inl i => .int i
 | .inr s => .str s
def V3 (kvs : List (List Key × D)) : List D := kvs.map fun p => .tup (p.1.map kD)
section
variable {K : PySem.W.Frag} {σ : L2.St} {H : Hp} {env : En} {f : FA}
theorem qgV {i : Nat} {kvs : List (List Key × D)} (A : Abs K σ H env f) (e : env[i]? = some (some (.dT kvs, .own))) (im : immL (kvs.map (·.2)) = true) :
 ∃ a hs, H a = some (.dT hs) ∧ ∀ od, Abs K σ (L2.upd H a (.frz od (.dT hs))) (env.set i (some (.dF kvs, .own))) (fset f i []) ∧
  Stp H env f [] (L2.upd H a (.frz od (.dT hs))) (env.set i (some (.dF kvs, .own))) (fset f i []) [] ∧ Kq σ env f σ (env.set i (some (.dF kvs, .own))) (fset f i []) := by
 obtain ⟨v, hv, rp⟩ := A.rep _ _ _ e
 obtain ⟨a, hs, g, rfl, ha, ek, nd, rr, hf, nz⟩ := rp.dTAt (by decide)
 obtain ⟨rfl, r0⟩ := rr.imm (Nat.zero_le _) im
 have hi : i < env.length := (List.getElem?_eq_some_iff.mp e).1
 have ai : a ∈ f i := by rw [hf]; exact List.mem_cons_self ..
 have get : ∀ {j : Nat} {d : D} {m : Md}, j ≠ i → (env.set i (some (.dF kvs, .own)))[j]? = some (some (d, m)) → env[j]? = some (some (d, m)) := fun {j d m} hj h => by rwa [yq hj] at h
 have tk : ∀ (od : Obj) (b : Addr) (o : HO), b ≠ a → H b = some o → L2.upd H a (.frz od (.dT hs)) b = some o := fun od b o hb h => by rw [upd_ne hb]; exact h
 have im0 : ∀ (od : Obj), Reps K (L2.upd H a (.frz od (.dT hs))) 0 (kvs.map (·.2)) (hs.map (·.2)) [] := fun od => r0.keep fun b o h z => tk od b o (fun y => by
  rcases z with z | z
  ·simp at z
  ·rw [y, ha] at h; cases h; cases z) h
 refine ⟨a, hs, ha, fun od => ⟨⟨fun j d m h => ?_, fun j k d m d' m' hjk h1 h2 hl b hb => ?_, by rw [List.length_set]; exact A.len⟩, ⟨fun b o h z => ?_, fun b z => ?_⟩, ⟨fun j d h => ?_, fun j d h => ?_, fun j d h => ?_⟩⟩⟩
 ·by_cases hj : j = i
  ·subst hj
   rw [xW hi] at h; cases h
   exact ⟨_, hv, by rw [xH]; exact .dF upd_same ek nd (im0 od)⟩
  ·obtain ⟨w, h1, r1⟩ := A.rep _ _ _ (get hj h)
   refine ⟨w, h1, ?_⟩
   rw [zM hj]
   refine r1.keep fun b o hb z => tk od b o (fun y => ?_) hb
   rcases z with z | z
   ·subst y
    exact A.dis i j _ _ _ _ (Ne.symm hj) e (get hj h) rfl b ai z
   ·rw [y, ha] at hb; cases hb; cases z
 ·by_cases hj : j = i
  ·subst hj
   rw [xH] at hb; simp at hb
  ·rw [zM hj] at hb
   by_cases hk : k = i
   ·subst hk
    rw [xH]; simp
   ·rw [zM hk]
    exact A.dis j k _ _ _ _ hjk (get hj h1) (get hk h2) hl b hb
 ·refine tk od b o (fun y => ?_) h
  rcases z with z | z
  ·rw [y, ha] at h; cases h; cases z
  ·exact z.1 ⟨i, _, _, e, rfl, by rw [y]; exact ai⟩
 ·rcases z with ⟨j, d, m, h, hr, hb⟩ | z
  ·by_cases hj : j = i
   ·subst hj
    rw [xH] at hb; simp at hb
   ·rw [zM hj] at hb
    exact .inl ⟨j, d, m, get hj h, hr, hb⟩
  ·simp at z
 ·have hj : j ≠ i := fun z => by subst z; rw [e] at h; cases h
  exact ⟨rfl, d, by rw [yq hj]; exact h⟩
 ·have hj : j ≠ i := fun z => by subst z; rw [e] at h; cases h
  exact ⟨rfl, by rw [yq hj]; exact h, zM hj⟩
 ·by_cases hj : j = i
  ·subst hj
   rw [xW hi] at h; cases h
  ·exact get hj h
end
section
variable {X : Cx}
theorem qi0 {i : Nat} {st : Stmt} {t : XS} (h : DS X st t) : DS X st (sFrz i t) := by
 refine ⟨PS.imp (qfi h.run) fun Dn σ H q => ?_, fun env nx nx' rt rt' h1 h2 q => ?_⟩
 ·obtain ⟨env, f, A, q⟩ := q
  unfold sFrz at q
  split at q
  ·rename_i kvs e
   obtain ⟨a, hs, ha, w⟩ := qgV A e q.1
   refine ⟨a, _, ha, True.intro, fun od => ?_⟩
   obtain ⟨A2, S2, K2⟩ := w od
   refine ⟨_, _, A2, h.mono _ _ _ _ _ (fun e2 q σ' H' f' A' S' K' => q σ' H' f' A' (S2.trans S') (K2.trans K')) (fun d e2 q => ?_) q.2⟩
   intro v σ' H' f' g A' r n S' K'
   exact q v σ' H' f' g A' r n (S2.trans S') (K2.trans K')
  ·exact q.elim
 ·unfold sFrz at q ⊢
  split at q
  ·rename_i kvs e
   exact ⟨q.1, h.mono _ _ _ _ _ h1 h2 q.2⟩
  ·exact q.elim
def iKs (i : Nat) : XI := fun env k => match env[i]? with
 | some (some (.dF kvs, _)) => k (V3 kvs) none none env
 | _ => False
theorem V4 {K : PySem.W.Frag} {H : Hp} : ∀ ks : List Key, Reps K H 0 (ks.map kD) (ks.map kV) []
 | [] => .nil
 | .inl i :: ks => .cons (f := []) (g := []) (.int i) (V4 ks) fun _ _ z => by cases z
 | .inr s :: ks => .cons (f := []) (g := []) (.str s) (V4 ks) fun _ _ z => by cases z
theorem qd5 {K : PySem.W.Frag} {H1 : Hp} {P : List Addr} {a : Addr} {o : Obj} {hs : List (List Key × V)} {kvs : List (List Key × D)} (ha : H1 a = some (.frz o (.dT hs))) (ek : hs.map (·.1) = kvs.map (·.1)) :
 Wk K (Itkt a o hs) (V3 kvs) none H1 P := by
 have hl : hs.length = kvs.length := by have := congrArg List.length ek; simpa using this
 have hn : ∀ H, Near H1 P H → H a = some (.frz o (.dT hs)) := fun H n => n a _ ha (.inr rfl)
 refine ⟨fun i H n h => ⟨hn H n, by rw [hl]; simpa [V3] using h⟩, fun i H n h => ⟨hn H n, by rw [hl]; simpa [V3] using h⟩, fun i H x H' d n e y => ?_⟩
 obtain ⟨rfl, k, v, q, e1, rfl, hq⟩ := y
 refine ⟨fun b o h => h, ?_⟩
 have e2 : (kvs.map (·.1))[i]? = some k := by rw [← ek, List.getElem?_map, e1]; rfl
 rw [List.getElem?_map] at e2
 unfold V3 at e
 rw [List.getElem?_map] at e
 cases h : kvs[i]? with
 | none => rw [h] at e; cases e
 | some p =>
   rw [h] at e e2
   cases e
   have e3 : p.1 = k := Option.some.inj e2
   subst e3
   exact .tup hq (V4 _)
theorem qgZ (i : Nat) {tg : Expr} {x : Str} {pos : Pos} (hN : X.N[i]? = some x := by rfl) (hv : Vis X.env.scope x := by first | exact Or.inl rfl | exact Or.inr (Or.inl rfl) | exact Or.inr (Or.inr rfl)) (hd : (x == ("__debug__" : Str)) = false := by decide)
 (hcd : (x == ("__classdict__" : Str)) = false := by decide) : DI X tg (.Name x pos) (iKs i) := by
 refine ⟨PI.imp (pi_keys (pe_var hN hv hd hcd)) fun σ H R q => ?_, fun env k k' h q => ?_⟩
 ·obtain ⟨env, f, A, q⟩ := q
  unfold iKs at q
  split at q
  ·rename_i kvs m e
   obtain ⟨v, h1, rp⟩ := A.rep _ _ _ e
   refine ⟨v, h1, ?_⟩
   obtain ⟨g, hg⟩ : ∃ g, g = f i := ⟨_, rfl⟩
   rw [← hg] at rp
   cases rp with
   | @dF a o hs _ ha ek nd rr =>
     exact ⟨a, o, rfl, .inr ⟨hs, ha, q _ H f [] env A .refl .refl .none (qd5 ha ek) (fun b hb => by simp at hb) (fun z => nomatch z)⟩⟩
  ·exact q.elim
 ·unfold iKs at q ⊢
  split at q
  ·rename_i kvs m e
   exact h _ _ _ _ q
  ·exact q.elim
end
end BX
namespace BX
open PySem PySem.Spec PyProof.Rows L2 RT L2.DX
end BX
namespace TX
open PySem PySem.Spec PyProof.Rows L2 BX
abbrev aO (Q : Option Int → En → Prop) (o : Option Int) (e : En) : Prop := Q o e
def eDF {α κ : Type} (kf : κ → List Key) (f : α → D) (l : List (κ × α)) : D := .dF (l.map fun p => (kf p.1, f p.2))
def cutA {α : Type} (xs : List α) (lo hi : Option Int) : List α := (xs.drop (HT.sIx xs.length 0 lo)).take (HT.sIx xs.length xs.length hi - HT.sIx xs.length 0 lo)
theorem X4 {α : Type} {f : α → D} (xs : List α) (lo hi : Option Int) : BX.cutD (xs.map f) lo hi = (cutA xs lo hi).map f := by
 unfold BX.cutD cutA
 rw [List.length_map, List.map_take, List.map_drop]
theorem qeW : ∀ {d : D} {k : Key}, dKey d = some k → d = kD k := fun {d k} h => by
 cases d with
 | int i => rw [dKey] at h; cases h; rfl
 | str s => rw [dKey] at h; cases h; rfl
 | _ => rw [dKey] at h <;> first | (cases h) | (intro i z; cases z)
theorem Ud : ∀ {ds : List D} {ks : List Key}, xU ds = some ks → ds = ks.map kD
 | [], ks, h => by rw [xU] at h; cases h; rfl
 | d :: ds, ks, h => by
   rw [xU] at h
   split at h
   ·rename_i k ks' h1 h2
    cases h
    rw [qeW h1, Ud h2]; rfl
   ·cases h
section
variable {e e1 e' : En} {L : Nat} {r r1 r2 r3 r' : R} {d d1 d2 d3 : D} {Q : R → En → Prop} {QO : Option Int → En → Prop} {nx : En → Prop} {rt : D → En → Prop} {i j m : Nat} {α β γ κ σ : Type} {kI : List D → Option Bool → Lok → En → Prop}
section
variable {c : κ → D} {kf : κ → List Key} [hk : Kt c kf] {f : α → D} {l : List (κ × α)}
theorem qka [hf : Im f] {t : XS} (h0 : e[i]? = some (some (eDT kf f l, .own))) (he : e.set i (some (eDF kf f l, .own)) = e') (q : t e' nx rt) : sFrz i t e nx rt := by
 subst he
 unfold eDT at h0
 unfold sFrz
 simp only [h0]
 refine ⟨uO fun d hd => ?_, q⟩
 simp only [List.map_map, List.mem_map, Function.comp] at hd
 obtain ⟨p, _, rfl⟩ := hd
 exact hf.im _
end
def memB [DecidableEq α] (a : α) (l : List α) : Bool := decide (a ∈ l)
theorem jM {t : XE} {lo hi : XO} (q : t e fun r e => lo e fun l e1 => hi e1 fun u e2 => rd 1 r e2 fun d => Qw d l u fun d' => aR Q (.tmp d') e2) : uD t lo hi e Q := q
theorem jO (q : aO QO none e) : Wh e QO := q
theorem jN {t : XE} (q : t e fun r e => rd 2 r e fun d => intD d fun z => aO QO (some z) e) : Wg t e QO := q
theorem jF {z : Int} (h : Rv e 2 r (.int z)) (q : aO QO (some z) e) : rd 2 r e fun d => intD d fun z => aO QO (some z) e := h.rd q
theorem qcT {f : α → D} [hf : Im f] {l : List α} {lo hi : Option Int} (h : Rv e 1 r (eL f l)) (q : aR Q (.tmp (eL f (cutA l lo hi))) e) : rd 1 r e fun d => Qw d lo hi fun d' => aR Q (.tmp d') e := by
 refine h.rd ?_
 unfold eL at q ⊢
 rw [← X4] at q
 exact ⟨imL l, q⟩
theorem qex {f : α → D} [hf : Im f] {l : List α} {lo hi : Option Int} (h : Rv e 1 r (eV f l)) (q : aR Q (.tmp (eV f (cutA l lo hi))) e) : rd 1 r e fun d => Qw d lo hi fun d' => aR Q (.tmp d') e := by
 refine h.rd ?_
 unfold eV at q ⊢
 rw [← X4] at q
 exact ⟨imL l, q⟩
end
end TX
namespace BX
open PySem PySem.Spec PyProof.Rows L2 RT L2.DX
def WT (ds : List D) : List D := ds.mapIdx fun i d => .tup [.int (i : Nat), d]
def qdk (t : XE) : XI := fun env k => t env fun r e => rd 2 r e fun d => match d with
 | .lst xs => yj r e (fun kd lk e1 => k (WT xs) kd lk e1) (immL xs)
 | _ => False
section
variable {K : PySem.W.Frag} {H1 : Hp} {ds : List D}
theorem qd6 {lv : Nat} {a : Addr} {vs : List V} {gg P : List Addr} (hq : ∀ H, Near H1 P H → SqL K H a vs) (rr : Reps K H1 lv ds vs gg) (hg : ∀ b ∈ gg, b ∈ P) :
 (immL ds = true → lv ≤ 1 → Wk K (Ite K a) (WT ds) none H1 P) ∧ ∀ c, lv = clv c → Wk K (Ite K a) (WT ds) (some c) H1 P := by
 have el : (WT ds).length = vs.length := by rw [← rr.len]; simp [WT]
 have it : ∀ (i : Nat) (H : Hp) (x : V) (H' : Hp) (d : D), Near H1 P H → (WT ds)[i]? = some d → (Ite K a).yld i H x H' → (∀ b o, H b = some o → H' b = some o) ∧ (∃ d0, d0 ∈ ds ∧ d = .tup [.int (i : Nat), d0]) ∧ ∃ g, Rep K H' lv d x g ∧ ∀ b ∈ g, b ∈ P := fun i H x H' d n e y => by
  obtain ⟨T, x0, rfl, hT, rfl, hx⟩ := y
  unfold WT at e
  rw [List.getElem?_mapIdx] at e
  cases h : ds[i]? with
  | none => rw [h] at e; cases e
  | some d0 =>
    rw [h] at e
    cases e
    obtain ⟨v, g, e1, r, hs⟩ := rr.get h
    have := hx vs (hq _ n)
    rw [e1] at this; cases this
    have ex : Ext H (L2.upd H T (.tup [.int (i : Nat), x0])) [T] := .upd hT
    have r2 : Rep K (L2.upd H T (.tup [.int (i : Nat), x0])) lv d0 x0 g := (uM r n fun b hb => hg b (hs b hb)).keep fun b o e _ => ex.same b o e
    refine ⟨ex.same, ⟨d0, List.mem_of_getElem? h, rfl⟩, g, ?_, fun b hb => hg b (hs b hb)⟩
    have r3 : Reps K (L2.upd H T (.tup [.int (i : Nat), x0])) lv [.int (i : Nat), d0] [.int (i : Nat), x0] ([] ++ (g ++ [])) := .cons (.int _) (.cons r2 .nil fun _ b _ z => by cases z) fun _ b z => by cases z
    rw [List.nil_append, List.append_nil] at r3
    exact .tup upd_same r3
 have go : ∀ (i : Nat) (H : Hp), Near H1 P H → i < (WT ds).length → (Ite K a).go i H := fun i H n h => ⟨vs, vs[i]'(by rw [← el]; exact h), hq H n, List.getElem?_eq_getElem _⟩
 have st : ∀ (i : Nat) (H : Hp), Near H1 P H → (WT ds).length ≤ i → (Ite K a).stop i H := fun i H n h => ⟨vs, hq H n, by rw [← el]; exact h⟩
 refine ⟨fun im l => ⟨go, st, fun i H x H' d n e y => ?_⟩, fun c hc => ⟨go, st, fun i H x H' d n e y => ?_⟩⟩
 ·obtain ⟨sm, ⟨d0, h0, rfl⟩, g, r, hs⟩ := it i H x H' d n e y
  refine ⟨sm, (Wn r hs).1 l ?_⟩
  rw [D.imm, immL, immL, immL, D.imm, QT im d0 h0]; rfl
 ·obtain ⟨sm, _, g, r, hs⟩ := it i H x H' d n e y
  exact ⟨sm, (Wn r hs).2 c hc⟩
end
section
variable {X : Cx} {e : Expr} {t : XE} {p pos tpos : Pos} {elts : List Expr} {kk : Nat}
theorem qg0 (ha : DE X e t) (hm : X.mg "enumerate" = none) (hg : Gl X "enumerate" := by rfl) (hs : starEach [e] X.env = [(false, eval e X.env)] := by rfl) : DI X (.Tuple elts kk tpos) (.Call (.Name "enumerate" p) [e] [] pos) (qdk t) := by
 refine ⟨PI.imp (pi_enum hg hm (pa_cons ha.run pa_nil hs) hs) fun σ H R q => ?_, fun env k k' h q => ha.mono _ _ _ (fun r e q => qZ (fun d q => ?_) q) q⟩
 ·obtain ⟨env, f, A, q⟩ := q
  refine ⟨env, f, A, ha.mono _ _ _ (fun r1 e1 q => ?_) q⟩
  intro x H1 f1 g A1 R1 S1 K1
  obtain ⟨d, dd, q⟩ := Wb q
  have rp0 : ∃ gg, Rep X.K H1 2 d x gg := by
   obtain ⟨d', gg, rp, hd⟩ := xf (L := 2) (k := fun d' => d' = d) A1 R1 (by unfold rd; rw [dd])
   subst hd
   exact ⟨gg, rp⟩
  obtain ⟨gg0, rp0⟩ := rp0
  cases d with
  | lst ds =>
    obtain ⟨a, vs, g1, rfl, hq, hn, rr, hs⟩ := jG rp0
    refine ⟨a, vs, rfl, hq, Xr A1 S1 K1 R1 (immL ds) q (fun lv gg z => ?_) dd⟩
    obtain ⟨a', vs', g2, e1, hq', hn', rr', hs'⟩ := jG z
    cases e1
    exact qd6 hn' rr' hs'
  | _ => exact q.elim
 ·cases d with
  | lst ds => exact uN (fun kd lk e q => h _ _ _ _ q) q
  | _ => exact q.elim
end
end BX
namespace TX
open PySem PySem.Spec PyProof.Rows L2 BX
def qdx {α : Type} (l : List α) : List (Int × α) := l.mapIdx fun i a => (((i : Nat) : Int), a)
theorem qdw {α : Type} {f : α → D} (l : List α) : WT (l.map f) = (qdx l).map (eT2 D.int f) := by
 unfold WT qdx
 refine List.ext_getElem? fun i => ?_
 rw [List.getElem?_mapIdx, List.getElem?_map, List.getElem?_map, List.getElem?_mapIdx]
 cases l[i]? <;> rfl
section
variable {e e1 e' : En} {r : R} {i j m : Nat} {α : Type} {kI : List D → Option Bool → Lok → En → Prop}
abbrev qiW (e : En) (kI : List D → Option Bool → Lok → En → Prop) (r : R) (d : D) : Prop := match d with
 | .lst xs => yj r e (fun kd lk e1 => aI kI (WT xs) kd lk e1) (immL xs)
 | _ => False
theorem qje {t : XE} (q : t e fun r e => rd 2 r e fun d => qiW e kI r d) : qdk t e kI := q
theorem qkm {f : α → D} [Im f] {l : List α} {m : Md} (h : e[i]? = some (some (eL f l, m))) (hm : m.okL 2 = true) (he : e.set i (some (eL f l, .lk)) = e') (q : aI kI ((qdx l).map (eT2 D.int f)) none (some (i, m)) e') : (rd 2 (.sl i) e fun d => qiW e kI (.sl i) d) := by
 subst he
 rw [← qdw] at q
 unfold rd R.data; simp only [h, hm]
 unfold eL at h q ⊢
 show yj _ _ _ _
 unfold yj
 simp only [h]
 exact ⟨imL l, q⟩
end
end TX
namespace BX
open PySem PySem.Spec PyProof.Rows L2 RT L2.DX
end BX
namespace TX
open PySem PySem.Spec PyProof.Rows L2 BX
section
variable {e e1 e' : En} {r r1 r2 r3 : R} {Q : R → En → Prop} {i : Nat} {α κ : Type} {n : Nat}
theorem qdu : ∀ {d : D}, BX.isNon d = false → PyData.eqv .none d.py = false ∧ PyData.eqv d.py .none = false := fun {d} h => by
 cases d <;> first | (cases h; done) | (constructor <;> simp [D.py, PyData.eqv])
instance [DecidableEq α] {f : α → D} [hf : Eqd f n] [hn : Nn f] : Eqd (eO f) n := ⟨fun a => by
 cases a with
 | none => exact ⟨by simp [eO, D.py, PyData.canLay0], by simp [eO, D.py, PyData.depth]⟩
 | some x => exact hf.lay x, fun a b => by
 cases a with
 | none => cases b with
   | none => simp [eO, D.py, PyData.eqv]
   | some y => rw [show (eO f none).py = .none by simp [eO, D.py], show (eO f (some y)) = f y from rfl, (qdu (hn.nn y)).1]; simp
 | some x => cases b with
   | none => rw [show (eO f none).py = .none by simp [eO, D.py], show (eO f (some x)) = f x from rfl, (qdu (hn.nn x)).2]; simp
   | some y => rw [show (eO f (some x)) = f x from rfl, show (eO f (some y)) = f y from rfl, hf.eq]; simp⟩
end
end TX
namespace COM
open PySem PySem.Spec PyProof.Rows L2 BX
local macro_rules
 | `(tactic| and_intros) => `(tactic| simp -implicitDefEqProofs only [sNil, sSeq, Q8, sRet, qkb, sIf, qh5, sAsg, dC, dG, dLst, dTup, aNil, ql, dBin, dAnd, dOr, dNot, dIf, xVal, xAnd, xOr, xNot, xYes, dIdx, dCall, dM1, bAppend, vL, wM, uz, opEq, opNe, sFor, dLc, dNeg, qg9, xIsi, qfT, nob, sPar, sAug, sPut, V7, dChn, eq_self, true_implies, decide_true, Bool.not_true, decide_false, putB, Uq, wR, isSl, Md.rd, Option.map_none, Option.map_some, Bool.not_true, Bool.not_false, Bool.false_and, Bool.and_false, Nat.reduceBEq, Bool.or_true, Bool.true_or, Bool.or_false, Bool.false_or, Bool.or_self, xVar, xRdS, xRd2, qjE, qfP, qfO, qjD, qjw, xVbl, qjq, qjr, qjp, qjv, xVdT, xVdK, qjs, qhu, qht, qju, qjt, xRdT, qjF, qd3, qfS, qfR, qfQ, xElT, xElR, xElS, qjP, xMbl, qjM, qjN, qjL, qjO, xMdT, xMdK, xStT, xStR, xStS, xSeT, xSmL, xChL, xChT, xChG, xCsO, xCsI, xLm, xTm, xReT, xReR, xReS, qjC, qjB, qjA, qhD, qhC, xSn, qhA, qjz, qhB, xGnT, xGnR, xGnS, xGns, xRmF, xRmT, xMkN, xMkS, xGT, xTT, xKdT, xKdR, xKdS, xGsN, xGsC, xThN, xThS, xTs, xLoT, xLoR, xLoS, xLos, xSeq, xSqL, xSqT, xR1, xR1i, xR2, xR2i, qj7, qj5, qj6, qj4, qjK, qjJ, xOpI, xOpC, xLtI, qhz, qjy, qhy, qhv, qjx, qhx, qhw, qhJ, qhO, qjU, qj1, qhG, qhL, qhF, qhK, qhI, qhN, qjS, qjZ, qjT, qj0, qhH, qhM, xIsB, xInB, xInT, xInL, qj2, xInS, xIxL, xIxT, xIxD, xOp, xLnL, xLnT, xLnS, xLnD, xLnK, xAbs, qjW, qjY, xMin, xMax, xTuL, xTuT, xLiL, xLiT, xAll, xAny, xSum, xOp1, xOp2, xIsl, xImI, xImB, xImS, xImN, xImT, xImC, xImE, xSlN, xSlC, xRaN, xRaC, qjV, qjX, xBlD, xPut, qjH, qjG, xOpN, xSoL, xSoT, xSoD, xAt0, xAt1, xAt2, xAt3, xZiR, xZiT, qjI, qhE, qb8, qd2, qca, qb7, qb6, qb9, qd0, qd1, qbr, qcd, qbt, qbq, qbp, qbs, qcb, qcc, qb0, qdZ, qb2, qbZ, qbY, qb1, qdX, qdY, Ux, qbj, Uz, Uw, Uv, Uy, qbh, qbi, qbm, qb5, qbo, qbl, qbk, qbn, qb3, qb4, qhQ, qj3, qhP, xDqI, xDqB, xDqS, xKe2, xKe3, xKe4, qjR, qjQ, xOkA, xOkB, xOkC, xIoO, xIoI, List.getElem?_cons_zero, List.getElem?_cons_succ, List.set_cons_zero, List.set_cons_succ, List.length_cons, List.length_nil, List.getD_cons_zero, List.getD_cons_succ, true_and, and_true, Bool.and_self, Bool.and_true, Bool.true_and, List.all_cons, List.all_nil, List.nil_append, List.cons_append, forall_const, Nat.reduceAdd, Nat.reduceLeDiff, Nat.reduceSub, Nat.reduceMul, reduceCtorEq, false_implies, penv, BX.fill, List.zipWith_cons_cons, List.zipWith_nil_left, List.zipWith_nil_right, List.replicate_succ, List.replicate_zero, Nat.zero_add])
def uI : XS :=
 (sSeq (sAsg (dC (.int 0)) (gN 2))
 (sSeq (sIf (xVal (dBin 2 opLt (dVar 1) (dCall 2 (op1 bLen) (ql (dVar 0) aNil)))) (sAsg (dIdx (dVar 0) (dVar 1)) (gN 2)) sNil)
 (sSeq (sAsg (dBin 1 Qh (dCall 2 (op1 bAbs) (ql (dVar 2) aNil)) (dCall 2 (op1 bInt) (ql (dBin 2 opGe (dCall 2 (op1 bAbs) (ql (dVar 2) aNil)) (dBin 2 qik (dC (.int 10)) (dC (.int 18)))) aNil))) (gN 3))
 (sRet (dLst (ql (dVar 3) (ql (dBin 2 u5 (dBin 1 Qh (dBin 2 u5 (dBin 1 wY (dBin 1 wY (dVar 2) (dBin 1 Qh (dC (.int 7919)) (dVar 1))) (dC (.int 1))) (dC (.int 2147483647))) (dC (.int 48271))) (dC (.int 2147483647))) aNil)))))))
def uK : XS :=
 (sSeq (sIf (xVal (dBin 2 opGt (dIdx (dVar 0) (dC (.int 0))) (dC (.int 0)))) (sSeq (sAsg (dBin 2 u5 (dIdx (dVar 0) (dC (.int 0))) (dVar 1)) (gN 2))
 (sSeq (sPut (dBin 2 qcP (dIdx (dVar 0) (dC (.int 0))) (dVar 1)) (dVar 0) (dC (.int 0)))
 (sRet (dVar 2)))) sNil)
 (sSeq (sPut (dBin 2 u5 (dBin 1 wY (dBin 1 Qh (dIdx (dVar 0) (dC (.int 1))) (dC (.int 48271))) (dC (.int 12345))) (dC (.int 2147483647))) (dVar 0) (dC (.int 1)))
 (sSeq (sAsg (dBin 2 u5 (dBin 1 Qh (dIdx (dVar 0) (dC (.int 1))) (dBin 1 wY (dBin 2 u5 (dIdx (dVar 0) (dC (.int 1))) (dC (.int 1009))) (dC (.int 3)))) (dC (.int 2147483629))) (gN 3))
 (sRet (dBin 2 u5 (dBin 2 u5 (dBin 1 Qh (dVar 3) (dBin 1 wY (dBin 2 u5 (dVar 3) (dC (.int 997))) (dC (.int 5)))) (dC (.int 998244353))) (dVar 1))))))
def Ur (a b : Int) : Prop := 0 ≤ a ∧ 0 ≤ b ∧ b < 2 ^ 31
def qbe : FS := ⟨[.cst, .cst], fun ds Q => ∃ (ns : List Int) (k : Nat), ds = [.lst (ns.map .int), .int k] ∧ k ≤ 1000 ∧ ∀ a b, Ur a b → Q (.lst [.int a, .int b]) ds⟩
theorem qjg : BodyOk qbe 4 uI := by
 intro ds Q hl h
 obtain ⟨ns, k, rfl, hk, q⟩ := h
 generalize hrt : outD qbe _ Q = rt
 generalize outD qbe _ Q _ = nx
 have p62 : (2 : Int) ^ 62 = 4611686018427387904 := by decide
 have p63 : (2 : Int) ^ 63 = 9223372036854775808 := by decide
 have p31 : (2 : Int) ^ 31 = 2147483648 := by decide
 have p64 : (2 : Int) ^ 64 = 18446744073709551616 := by decide
 unfold uI
 refine Zy (fun e => e = [some (.lst (ns.map .int), .cst), some (.int k, .cst), some (.int 0, .own), none]) (fun K hK => ?_) ?_
 ·simp only [qbe]
  and_intros
  exact hK _ rfl
 rintro _ rfl
 refine Zy (fun e => ∃ c : Int, e = [some (.lst (ns.map .int), .cst), some (.int k, .cst), some (.int c, .own), none]) (fun K hK => ?_) ?_
 ·and_intros
  refine ⟨fun h => ?_, fun _ => hK _ ⟨0, rfl⟩⟩
  have h' := of_decide_eq_true h
  rw [List.length_map] at h'
  have hlt : k < ns.length := by omega
  rw [qe6 (List.getElem?_eq_getElem hlt)]
  and_intros
  exact hK _ ⟨_, rfl⟩
 rintro _ ⟨c, rfl⟩
 and_intros
 subst hrt
 refine ⟨by unfold CPow; decide, qcZ ?_ ?_, Qo (by omega) (by omega), by decide, qcZ (by omega) (by omega), by decide, ?_⟩
 ·split <;> omega
 ·split <;> omega
 ·refine q _ _ ⟨?_, ?_, ?_⟩
  ·split <;> split <;> omega
  ·omega
  ·omega
def qbf : FS := ⟨[.io, .cst], fun ds Q => ∃ a b m : Int, ds = [.lst [.int a, .int b], .int m] ∧ Ur a b ∧ (1 ≤ m ∧ m ≤ 1000000) ∧ ∀ r a' b', 0 ≤ r → r < m → Ur a' b' → Q (.int r) [.lst [.int a', .int b'], .int m]⟩
theorem qji : BodyOk qbf 4 uK := by
 intro ds Q hl h
 obtain ⟨a, b, m, rfl, ⟨ha0, hb0, hb1⟩, ⟨hm0, hm1⟩, q⟩ := h
 have p63 : (2 : Int) ^ 63 = 9223372036854775808 := by decide
 have p31 : (2 : Int) ^ 31 = 2147483648 := by decide
 have p64 : (2 : Int) ^ 64 = 18446744073709551616 := by decide
 have out : ∀ (r a' b' : Int) (x2 x3 : Option (D × Md)), 0 ≤ r → r < m → Ur a' b' → outD qbf [.lst [.int a, .int b], .int m] Q (.int r) [some (.lst [.int a', .int b'], .io), some (.int m, .cst), x2, x3] := fun r a' b' x2 x3 h0 h1 h2 => q r a' b' h0 h1 h2
 generalize outD qbf _ Q = rt at out ⊢
 generalize rt _ = nx
 have n0 : ixN 2 0 = some 0 := rfl
 have n1 : ixN 2 1 = some 1 := rfl
 unfold uK
 refine Zy (fun e => e = [some (.lst [.int a, .int b], .io), some (.int m, .cst), none, none]) (fun K hK => ?_) ?_
 ·simp only [qbf]
  and_intros
  simp only [n0]
  and_intros
  refine ⟨fun h => ?_, fun h => hK _ rfl⟩
  simp only [decide_eq_true_eq] at h
  refine ⟨by omega, ⟨by omega, by omega⟩, out _ _ _ _ _ (Int.emod_nonneg _ (by omega)) (Int.emod_lt_of_pos _ (by omega)) ⟨Int.ediv_nonneg ha0 (by omega), hb0, hb1⟩⟩
 rintro _ rfl
 refine Zy (fun e => ∃ b : Int, 0 ≤ b ∧ b < 2 ^ 31 ∧ e = [some (.lst [.int a, .int b], .io), some (.int m, .cst), none, none]) (fun K hK => ?_) ?_
 ·and_intros
  simp only [n1]
  and_intros
  exact ⟨Qo (by omega) (by omega), by decide, hK _ ⟨_, Int.emod_nonneg _ (by decide), Int.lt_trans (Int.emod_lt_of_pos _ (by decide)) (by decide), rfl⟩⟩
 rintro _ ⟨b, hb0, hb1, rfl⟩
 refine Zy (fun e => ∃ c : Int, 0 ≤ c ∧ c < 2 ^ 31 ∧ e = [some (.lst [.int a, .int b], .io), some (.int m, .cst), none, some (.int c, .own)]) (fun K hK => ?_) ?_
 ·and_intros
  exact ⟨by decide, Qo (by omega) (by omega), by decide, hK _ ⟨_, Int.emod_nonneg _ (by decide), Int.lt_trans (Int.emod_lt_of_pos _ (by decide)) (by decide), rfl⟩⟩
 rintro _ ⟨c, hc0, hc1, rfl⟩
 and_intros
 exact ⟨by decide, Qo (by omega) (by omega), by decide, by omega, out _ _ _ _ _ (Int.emod_nonneg _ (by omega)) (Int.emod_lt_of_pos _ (by omega)) ⟨ha0, hb0, hb1⟩⟩
def v9 (qW : FS) : XS :=
 (sSeq (sIf (xVal (dBin 2 opIs (dVar 1) (dC .non))) (sRet (dBin 2 opIs (dVar 0) (dC .non))) sNil)
 (sSeq (sIf (xVal (qfT "list" "tuple" (dVar 1))) (sSeq (sIf (xOr (xVal (dBin 2 opNe (xIsi "list" (dVar 0)) (xIsi "list" (dVar 1)))) (xVal (dBin 2 opNe (xIsi "tuple" (dVar 0)) (xIsi "tuple" (dVar 1))))) (sRet (dC (.bl false))) sNil)
 (sRet (dAnd (dBin 2 opEq (dCall 2 (op1 bLen) (ql (dVar 0) aNil)) (dCall 2 (op1 bLen) (ql (dVar 1) aNil))) (dCall 2 (op1 bAll) (ql (dLc (V7 (dVar 0) (dVar 1)) (gT 2 (wN (gN 2) (wN (gN 3) jR))) xYes (dFn qW (ql (dVar 2) (ql (dVar 3) aNil))) [2, 3]) aNil))))) sNil)
 (sSeq (sIf (xVal (xIsi "bool" (dVar 1))) (sRet (dAnd (xIsi "bool" (dVar 0)) (dBin 2 opEq (dVar 0) (dVar 1)))) sNil)
 (sSeq (sIf (xVal (xIsi "str" (dVar 1))) (sRet (dAnd (xIsi "str" (dVar 0)) (dBin 2 opEq (dVar 0) (dVar 1)))) sNil)
 (sRet (dAnd (xIsi "int" (dVar 0)) (dAnd (qg9 (xIsi "bool" (dVar 0))) (dBin 2 opEq (dVar 0) (dVar 1)))))))))
def jQ : Nat → D → Prop
 | 0, _ => False
 | n + 1, d => match d with
   | .non => True
   | .bl _ => True
   | .int _ => True
   | .str s => eqOk (.str s) = true
   | .tup xs => xs.length ≤ 1000000 ∧ ∀ x ∈ xs, jQ n x
   | .lst xs => xs.length ≤ 1000000 ∧ ∀ x ∈ xs, jQ n x
   | _ => False
def uY (n : Nat) : FS := ⟨[.cst, .cst], fun ds Q => ∃ d, ds = [d, d] ∧ jQ n d ∧ Q (.bl true) ds⟩
theorem qft (n : Nat) : qbV (uY n) := fun ds Q Q' h ⟨d, e, t, q⟩ => ⟨d, e, t, h _ _ q⟩
theorem qjh (n : Nat) : BodyOk (uY (n + 1)) 4 (v9 (uY n)) := by
 intro ds Q hl h
 obtain ⟨d, rfl, hd, q⟩ := h
 have out : ∀ (x2 x3 : Option (D × Md)), outD (uY (n + 1)) [d, d] Q (.bl true) [some (d, .cst), some (d, .cst), x2, x3] := fun x2 x3 => q
 generalize outD (uY (n + 1)) _ Q = rt at out ⊢
 generalize rt _ = nx
 unfold v9
 simp only [show (uY (n + 1)).ms = [Md.cst, Md.cst] from rfl]
 have lcs : ∀ xs : List D, xs.length ≤ 1000000 → (∀ x ∈ xs, jQ n x) → ∀ (e0 : En) (kk : List D → En → Prop), (e0 = [some (.tup xs, .cst), some (.tup xs, .cst), none, none] ∨ e0 = [some (.lst xs, .cst), some (.lst xs, .cst), none, none]) → kk (xs.map fun _ => .bl true) e0 →
  lcL (gT 2 (wN (gN 2) (wN (gN 3) jR))) xYes (dFn (uY n) (ql (dVar 2) (ql (dVar 3) aNil))) (some true) [2, 3] (zipL xs xs) e0 [] kk := by
  intro xs hlen hx e0 kk he hk
  have e : zipL xs xs = xs.map fun x => .tup [x, x] := by
   clear hlen hx hk he
   induction xs with
   | nil => rfl
   | cons x xs ih => rw [List.map_cons, ← ih]; rfl
  rw [e]
  refine qdc (fun _ => .bl true) _ _ ?_ ?_ ?_
  ·rw [List.length_map, sizeLine_eq]; simp; omega
  ·rw [List.map_map]; exact hk
  ·intro d hd c k1 hc h1
   obtain ⟨x, hxm, rfl⟩ := List.mem_map.mp hd
   have sx := hx x hxm
   rcases he with rfl | rfl
   ·and_intros
    cases n with
    | zero => exact sx.elim
    | succ n =>
      cases x with
      | dT _ => exact sx.elim
      | dK _ => exact sx.elim
      | dF _ => exact sx.elim
      | lF _ => exact sx.elim
      | ob _ _ => exact sx.elim
      | ex _ _ => exact sx.elim
      | dN _ => exact sx.elim
      | op _ => exact sx.elim
      | _ =>
        simp only [dFn2 (S := uY (n + 1)) rfl]
        and_intros
        exact ⟨_, rfl, sx, hc, h1⟩
   ·and_intros
    cases n with
    | zero => exact sx.elim
    | succ n =>
      cases x with
      | dT _ => exact sx.elim
      | dK _ => exact sx.elim
      | dF _ => exact sx.elim
      | lF _ => exact sx.elim
      | ob _ _ => exact sx.elim
      | ex _ _ => exact sx.elim
      | dN _ => exact sx.elim
      | op _ => exact sx.elim
      | _ =>
        simp only [dFn2 (S := uY (n + 1)) rfl]
        and_intros
        exact ⟨_, rfl, sx, hc, h1⟩
 have bt : ∀ xs : List D, bools (xs.map fun _ => D.bl true) = some (xs.map fun _ => true) := fun xs => by
  induction xs with
  | nil => rfl
  | cons x xs ih => rw [List.map_cons, bools, ih]; rfl
 have ba : ∀ xs : List D, (xs.map fun _ => true).all id = true := fun xs => by simp
 cases d with
 | non =>
   and_intros
   exact out _ _
 | bl b =>
   and_intros
   exact out _ _
 | int i =>
   and_intros
   exact out _ _
 | str s =>
   and_intros
   have he : eqOk (.str s) = true := hd
   simp only [he]
   and_intros
   have e : (s == s) = true := by first | exact beq_self_eq_true s | simp
   rw [e]
   exact out _ _
 | tup xs =>
   and_intros
   refine lcs xs hd.1 hd.2 _ _ (.inl rfl) ?_
   unfold qbb
   rw [bt]
   and_intros
   rw [ba]
   exact out _ _
 | lst xs =>
   and_intros
   refine lcs xs hd.1 hd.2 _ _ (.inr rfl) ?_
   unfold qbb
   rw [bt]
   and_intros
   rw [ba]
   exact out _ _
 | dT _ => exact hd.elim
 | dK _ => exact hd.elim
 | dF _ => exact hd.elim
 | lF _ => exact hd.elim
 | ob _ _ => exact hd.elim
 | ex _ _ => exact hd.elim
 | dN _ => exact hd.elim
 | op _ => exact hd.elim
end COM
namespace TX
open PySem PySem.Spec PyProof.Rows L2 BX
abbrev tC := Str × Int × Int × Int
abbrev zC : tC → D := eT4 D.str D.int D.int D.int
abbrev zB : Int × Int × Int × Int → D := eT4 D.int D.int D.int D.int
abbrev zP : Int × Int → D := eT2 D.int D.int
abbrev zk2 : Int × Int → List Key := kf2 Sum.inl Sum.inl
abbrev zk3 : Str × Int × Int → List Key := kf3 Sum.inr Sum.inl Sum.inl
abbrev zk4 : tC → List Key := kf4 Sum.inr Sum.inl Sum.inl Sum.inl
abbrev zD := eDT zk2 D.bl
abbrev zV := eV zP
abbrev zL := eL zP
abbrev zLC := eL zC
abbrev zO (d : D) : Option (D × Md) := some (d, .own)
abbrev zR (d : D) : Option (D × Md) := some (d, .ro)
abbrev zS (d : D) : Option (D × Md) := some (d, .cst)
theorem Rv.z {e : En} {L i : Nat} {d : D} {m : Md} (h : e[i]? = some (some (d, m)) := by rfl) (hm : m.okL L = true := by rfl) : Rv e L (.sl i) d := .sl h hm
end TX
namespace BC
open PySem PySem.Spec PyProof.Rows L2 BX TX COM
def TpOk (t : Int × Int) : Prop := Ur t.1 t.2
def v5 (script : List Int) (k : Int) (kr : Int × Int → Prop) : Prop := (0 ≤ k ∧ k ≤ 1000) ∧ ∀ t, TpOk t → kr t
def yD : FS := mkS (α := List Int × Int) (κ := Int × Int) [.cst, .cst] (fun a => [eL D.int a.1, D.int a.2]) (fun a => v5 a.1 a.2) (fun r => eP r) fun a r => [eL D.int a.1, D.int a.2]
theorem UV : BodyOk yD 4 uI := qbc qjg rfl fun ds Q h => by
 obtain ⟨⟨ns, k⟩, kr, rfl, ⟨hk, h⟩, q⟩ := h
 refine ⟨ns, k.toNat, ?_, ?_, fun a b t => q (a, b) (h (a, b) t)⟩
 ·show [eL D.int ns, D.int k] = _
  have hk' : k = (k.toNat : Int) := by simp only at hk; omega
  rw [← hk']; rfl
 ·simp only at hk; omega
def qH (t : Int × Int) (m : Int) (kr : Int × (Int × Int) → Prop) : Prop := TpOk t ∧ (1 ≤ m ∧ m ≤ 1000000) ∧ ∀ r : Int × (Int × Int), 0 ≤ r.1 → r.1 < m → TpOk r.2 → kr r
def qG : FS := mkS (α := (Int × Int) × Int) (κ := Int × (Int × Int)) [.io, .cst] (fun a => [eP a.1, D.int a.2]) (fun a => qH a.1 a.2) (fun r => D.int r.1) fun a r => [eP r.2, D.int a.2]
theorem Vb : BodyOk qG 4 uK := qbc qji rfl fun ds Q h => by
 obtain ⟨⟨t, m⟩, kr, rfl, ⟨ht, hm, h⟩, q⟩ := h
 exact ⟨t.1, t.2, m, rfl, ht, hm, fun r a b h0 h1 h2 => q (r, (a, b)) (h (r, (a, b)) h0 h1 h2)⟩
def Ji (n : Nat) (x y : D) (kr : Bool → Prop) : Prop := x = y ∧ jQ n x ∧ kr true
end BC
namespace BC
open PySem PySem.Spec PyProof.Rows L2 BX TX COM
section
variable {α β σ : Type}
theorem qa2 {body : α → σ → (σ → Prop) → Prop} {k : σ → Prop} (I : List α → σ → Prop) : ∀ (l pre : List α) (s : σ), I pre s → (∀ (p : List α) (a : α) (q : List α) (s : σ) (kk : σ → Prop), pre ++ l = p ++ a :: q → I p s → (∀ s', I (p ++ [a]) s' → kk s') → body a s kk) → (∀ s, I (pre ++ l) s → k s) → forW l s body k
 | [], pre, s, h0, hs, hk => hk s (by simpa using h0)
 | a :: l, pre, s, h0, hs, hk => hs pre a l s _ rfl h0 fun s' h' => qa2 I l (pre ++ [a]) s' h' (fun p b q s kk e => hs p b q s kk (by rw [← e]; simp)) (fun s h => hk s (by simpa using h))
theorem jX {body : α → σ → (σ → Prop) → Prop} {k : σ → Prop} (I : List α → σ → Prop) {l : List α} {s : σ} (h0 : I [] s) (hs : ∀ (p : List α) (a : α) (q : List α) (s : σ) (kk : σ → Prop), l = p ++ a :: q → I p s → (∀ s', I (p ++ [a]) s' → kk s') → body a s kk) (hk : ∀ s, I l s → k s) : forW l s body k :=
 qa2 I l [] s h0 (fun p a q s kk e => hs p a q s kk (by simpa using e)) (by simpa using hk)
theorem QV {body : α → σ → (σ → Prop) → Prop} {k : σ → Prop} (I : σ → Prop) {l : List α} {s : σ} (h0 : I s) (hs : ∀ a ∈ l, ∀ (s : σ) (kk : σ → Prop), I s → (∀ s', I s' → kk s') → body a s kk) (hk : ∀ s, I s → k s) : forW l s body k :=
 jX (fun _ s => I s) h0 (fun p a q s kk e h hkk => hs a (by rw [e]; simp) s kk h hkk) hk
theorem qfx {body : α → σ → (Option β → σ → Prop) → Prop} {k : List β → σ → Prop} (F : α → Option β) : ∀ {l : List α} {acc : List β} {s : σ}, (∀ a ∈ l, ∀ (w : Option β → σ → Prop), w (F a) s → body a s w) → k (acc ++ l.filterMap F) s → lcW l acc s body k
 | [], acc, s, _, hk => by
   show k acc s
   simpa using hk
 | a :: l, acc, s, hs, hk => hs a (List.mem_cons_self ..) _ (qfx F (fun b hb => hs b (List.mem_cons_of_mem _ hb)) (by
   rw [List.append_assoc]
   have : (F a).toList ++ l.filterMap F = (a :: l).filterMap F := by
    rw [List.filterMap_cons]; cases F a <;> rfl
   rw [this]; exact hk))
theorem qda {body : α → σ → (Option β → σ → Prop) → Prop} {k : List β → σ → Prop} (F : α → β) {l : List α} {s : σ} (hs : ∀ a ∈ l, ∀ (w : Option β → σ → Prop), w (some (F a)) s → body a s w) (hk : k (l.map F) s) : lcW l [] s body k :=
 qfx (fun a => some (F a)) hs (by
  have : l.filterMap (fun a => some (F a)) = l.map F := by
   induction l with
   | nil => rfl
   | cons a l ih => simp
  rw [this]; exact hk)
theorem Qp {body : α → σ → (Option α → σ → Prop) → Prop} {k : List α → σ → Prop} (T : σ → Prop) : ∀ {l acc : List α} {s : σ}, T s → (∀ a ∈ l, ∀ (s : σ) (w : Option α → σ → Prop), T s → (∀ s', T s' → w (some a) s') → (∀ s', T s' → w none s') → body a s w) → (∀ m s, m.Sublist l → T s → k (acc ++ m) s) → lcW l acc s body k
 | [], acc, s, h0, _, hk => by
   have := hk [] s .slnil h0
   show k acc s
   simpa using this
 | a :: l, acc, s, h0, hs, hk => hs a (List.mem_cons_self ..) s _ h0
   (fun s' h' => Qp T h' (fun b hb => hs b (List.mem_cons_of_mem _ hb)) fun m s hm ht => by
    have := hk (a :: m) s (hm.cons_cons a) ht
    simpa using this)
   (fun s' h' => Qp T h' (fun b hb => hs b (List.mem_cons_of_mem _ hb)) fun m s hm ht => by
    have := hk m s (hm.cons a) ht
    simpa using this)
theorem qdb {body : α → σ → (Option β → σ → Prop) → Prop} {k : List β → σ → Prop} (T : σ → Prop) (P : β → Prop) : ∀ {l : List α} {acc : List β} {s : σ}, T s → (∀ b ∈ acc, P b) → (∀ a ∈ l, ∀ (s : σ) (w : Option β → σ → Prop), T s → (∀ b s', P b → T s' → w (some b) s') → body a s w) → (∀ m s, m.length = acc.length + l.length → (∀ b ∈ m, P b) → T s → k m s) → lcW l acc s body k
 | [], acc, s, h0, hp, _, hk => hk acc s rfl hp h0
 | a :: l, acc, s, h0, hp, hs, hk => by
   refine hs a (List.mem_cons_self ..) s _ h0 fun b s' hb h' => ?_
   have hp' : ∀ c ∈ acc ++ (some b).toList, P c := fun c hc => by
    rcases List.mem_append.mp hc with hc | hc
    ·exact hp c hc
    ·have e : c = b := by simpa using hc
     rw [e]; exact hb
   exact qdb T P h' hp' (fun b hb => hs b (List.mem_cons_of_mem _ hb)) fun m s hm hp ht => hk m s (by rw [hm]; simp; omega) hp ht
end
theorem VL {a b x : Int} : x ∈ rng a b ↔ a ≤ x ∧ x < b := by
 unfold rng
 simp only [List.mem_map, List.mem_range]
 constructor
 ·rintro ⟨n, h1, rfl⟩; omega
 ·rintro ⟨h1, h2⟩; exact ⟨(x - a).toNat, by omega, by omega⟩
theorem ue {a b : Int} : (rng a b).length = (b - a).toNat := by simp [rng]
theorem Yv {a b : Int} (h1 : -1000000 ≤ a) (h2 : a ≤ 1000000) (h3 : -1000000 ≤ b) (h4 : b ≤ 1000000) : Yc a b := by
 unfold Yc; omega
theorem sz : sizeLine = 16777216 := sizeLine_eq
theorem qcx (a b : Int) : (rng a b).Pairwise (· < ·) := by
 unfold rng
 rw [List.pairwise_map]
 exact List.Pairwise.imp (R := fun a b : Nat => a < b) (fun {a b} h => by omega) List.pairwise_lt_range
def ltC (c d : Int × Int) : Prop := c.1 < d.1 ∨ (c.1 = d.1 ∧ c.2 < d.2)
instance (c d : Int × Int) : Decidable (ltC c d) := by unfold ltC; infer_instance
theorem qiN {c d : Int × Int} (h : ltC c d) : c ≠ d := by
 rintro rfl
 unfold ltC at h
 omega
theorem Zu {l : List (Int × Int)} (h : l.Pairwise ltC) : l.Nodup := h.imp fun {a b} h => qiN h
theorem lex2 (a b : Int × Int) : HT.lexLt (tl2 a) (tl2 b) = decide (ltC a b) := by
 unfold tl2 ltC
 rw [HT.lexLt_cons]
 by_cases e : a.1 = b.1
 ·rw [if_pos e, HT.lexLt_cons]
  by_cases e2 : a.2 = b.2
  ·rw [if_pos e2, HT.lexLt]; simp [e, e2]
  ·rw [if_neg e2]; simp [e]
 ·rw [if_neg e]; simp [e]
end BC
namespace BC
open PySem PySem.Spec PyProof.Rows L2 BX TX COM
def vp : XS :=
 (sSeq (sAsg (dLst aNil) (gN 4))
 (sSeq (sFor (jH (dVar 2)) (gN 5) (Q8 (dM1 D.isLst vL (dVar 4) (dLc (jH (dVar 3)) (gN 6) xYes (dTup (ql (dBin 1 wY (dVar 0) (dVar 5)) (ql (dBin 1 wY (dVar 1) (dVar 6)) aNil))) [6]))))
 (sRet (dVar 4))))
def wV (x : Int) (y : Int) (wide : Int) (high : Int) (kr : (List (Int × Int)) → Prop) : Prop :=
 lt (([] : List (Int × Int)) : (List (Int × Int))) fun found =>
 (Yc 0 wide) ∧
 forW (rng 0 wide) found (fun k' (found : (List (Int × Int))) kk2 => (Yc 0 high) ∧
 ((rng 0 high).length ≤ sizeLine) ∧
 (found.length + ((rng 0 high).map (fun j => ((x + k'), (y + j)))).length ≤ sizeLine) ∧
 lt (found ++ ((rng 0 high).map (fun j => ((x + k'), (y + j))))) fun found =>
 kk2 found) fun found =>
 kr found
def qN : FS := mkS (α := (Int × Int × Int × Int)) (κ := (List (Int × Int))) [.cst, .cst, .cst, .cst] (fun a => [D.int a.1, D.int a.2.1, D.int a.2.2.1, D.int a.2.2.2]) (fun a => wV a.1 a.2.1 a.2.2.1 a.2.2.2) (fun r => (eL (eT2 D.int D.int)) r) fun a r => [D.int a.1, D.int a.2.1, D.int a.2.2.1, D.int a.2.2.2]
theorem Jm : BodyOk qN 7 vp := by
 intro ds Q hl h
 obtain ⟨⟨x, y, wide, high⟩, kr, rfl, h, q⟩ := h
 refine u6 (e' := [_, _, _, _, _, _, _]) rfl ?_
 unfold vp
 unfold wV at h
 refine wy <| s_asg <| uo <| qu <| xj zP ([] : List (Int × Int)) .nil ?_
 refine g_N (f := zL) (fun found => [_, _, _, _, zO (zL found), _, _]) h rfl (fun _ => rfl) fun found h => ?_
 refine wy <| QF <| Uk <| qw rfl ?_
 obtain ⟨p1, h⟩ := h
 refine JB p1 ?_
 refine Ql (fI := D.int) (sh := fun (found : (List (Int × Int))) e => ∃ c5 : Option (D × Md), (setS (some c5) = true) ∧ e = [zS (D.int x), zS (D.int y), zS (D.int wide), zS (D.int high), zO (zL found), c5, none]) h ⟨_, rfl, rfl⟩ (fun k' ha found e hs kk2 nxkk2 hJ2 h => ?_) ?_
 ·skip
  obtain ⟨c5, hc5, rfl⟩ := hs
  refine g_n (e' := [_, _, _, _, _, _, _]) hc5 rfl (?_)
  refine vZ <| c_m1 (by rfl) (by rfl) (by decide) (by rfl) <| c_lc <| Uk <| qw rfl ?_
  obtain ⟨p3, h⟩ := h
  refine JB p3 ?_
  obtain ⟨p4, h⟩ := h
  refine ZP (e := [_, _, _, _, _, _, _]) (fI := D.int) (fo := zP) (fun j => ((x + k'), (y + j))) (all1 rfl) p4 rfl (fun j ha c k1 hc h1 => ?_) ?_
  ·skip
   refine g_n (e' := [_, _, _, _, _, _, _]) rfl rfl (?_)
   refine qX <| qd <| qM <| qw rfl <| qw rfl <| qK .tmp .tmp wH <| qd <| qM <| qw rfl <| qw rfl <| qK .tmp .tmp wH <| qu <| qO D.int D.int (x + k') (y + j) (.cons .tmp (.cons .tmp .nil)) ?_
   exact o_el .tmp hc rfl h1
  refine yM (e' := [_, _, _, _, _, _, _]) rfl <| wA ?_
  obtain ⟨p5, h⟩ := h
  refine ZQ (fun found => [_, _, _, _, zO (zL found), _, _]) h (by rfl) p5 (fun _ => rfl) fun found h => ?_
  exact hJ2 found _ ⟨_, rfl, rfl⟩ h
 rintro found e hs h
 obtain ⟨c5, hc5, rfl⟩ := hs
 refine wA <| s_ret <| qw rfl <| ZM (m := .own) (by rfl) ?_
 exact q found h
def vm (qG qN : FS) : XS :=
 (sSeq (sAsg (dFn qG (ql (dVar 0) (ql (dC (.int 9)) aNil))) (gN 3))
 (sSeq (sAsg (dFn qN (ql (dC (.int 0)) (ql (dC (.int 0)) (ql (dVar 1) (ql (dVar 2) aNil))))) (gN 4))
 (sSeq (sIf (xVal (dBin 2 opLt (dVar 3) (dC (.int 2)))) (sRet (dLc (iSeq (dVar 4)) (gN 12) (xVal (dBin 2 opGt (dFn qG (ql (dVar 0) (ql (dC (.int 3)) aNil))) (dBin 2 u5 (dVar 3) (dC (.int 2))))) (dVar 12) [12])) sNil)
 (sSeq (sIf (xVal (dBin 2 opLt (dVar 3) (dC (.int 5)))) (sSeq (sAsg (dC (.dT [])) (gN 5))
 (sSeq (sFor (jH (dBin 1 wY (dC (.int 1)) (dFn qG (ql (dVar 0) (ql (dC (.int 5)) aNil))))) (gN 6) (sSeq (sPar 7 8 (ql (dFn qG (ql (dVar 0) (ql (dVar 1) aNil))) (ql (dFn qG (ql (dVar 0) (ql (dVar 2) aNil))) aNil)))
 (sSeq (sAsg (dFn qN (ql (dVar 7) (ql (dVar 8) (ql (dBin 1 wY (dC (.int 1)) (dFn qG (ql (dVar 0) (ql (dBin 2 j9 (dVar 1) (dVar 7)) aNil)))) (ql (dBin 1 wY (dC (.int 1)) (dFn qG (ql (dVar 0) (ql (dBin 2 j9 (dVar 2) (dVar 8)) aNil)))) aNil))))) (gN 9))
 (sSeq (sAsg (dOr (dBin 2 opEq (dVar 6) (dC (.int 0))) (dBin 2 opGt (dFn qG (ql (dVar 0) (ql (dC (.int 3)) aNil))) (dC (.int 0)))) (gN 10))
 (Q8 (dMn D.isDic bUpd (dVar 5) (ql (dLc (iSeq (dVar 9)) (gN 12) xYes (dTup (ql (dVar 12) (ql (dVar 10) aNil))) [12]) aNil)))))))
 (sRet (dLc (iSeq (dVar 4)) (gN 12) (xVal (dMn D.isDic bGet (dVar 5) (ql (dVar 12) (ql (dC (.bl false)) aNil)))) (dVar 12) [12])))) sNil)
 (sSeq (sIf (xVal (dBin 2 opEq (dVar 3) (dC (.int 5)))) (sRet (dLc (iSeq (dVar 4)) (gN 12) (xVal (dBin 2 opGt (dFn qG (ql (dVar 0) (ql (dC (.int 6)) aNil))) (dC (.int 0)))) (dVar 12) [12])) sNil)
 (sSeq (sIf (xVal (dBin 2 opEq (dVar 3) (dC (.int 6)))) (sSeq (sAsg (dLc (jH (dVar 1)) (gN 7) xYes (dBin 1 wY (dC (.int 1)) (dFn qG (ql (dVar 0) (ql (dVar 2) aNil)))) [7]) (gN 11))
 (sRet (dLc (iSeq (dVar 4)) (gN 12) (xVal (dBin 2 opLt (dIdx (dVar 12) (dC (.int 1))) (dIdx (dLst (ql (dIdx (dVar 11) (dIdx (dVar 12) (dC (.int 0)))) (ql (dC (.int 1)) aNil))) (dBin 1 Qh (dBin 2 u5 (dIdx (dVar 12) (dC (.int 0))) (dC (.int 2))) (dFn qG (ql (dVar 0) (ql (dC (.int 2)) aNil))))))) (dVar 12) [12]))) sNil)
 (sSeq (sIf (xVal (dBin 2 opEq (dVar 3) (dC (.int 7)))) (sRet (dLc (iSeq (dVar 4)) (gN 12) (xOr (xVal (dBin 2 opEq (dBin 2 u5 (dIdx (dVar 12) (dC (.int 0))) (dC (.int 3))) (dC (.int 0)))) (xOr (xVal (dBin 2 opEq (dBin 2 u5 (dIdx (dVar 12) (dC (.int 1))) (dC (.int 3))) (dC (.int 0)))) (xVal (dBin 2 opEq (dFn qG (ql (dVar 0) (ql (dC (.int 8)) aNil))) (dC (.int 0)))))) (dVar 12) [12])) sNil)
 (sRet (dLc (iSeq (dVar 4)) (gN 12) (xOr (xVal (dBin 2 opEq (dBin 2 u5 (dBin 1 wY (dIdx (dVar 12) (dC (.int 0))) (dIdx (dVar 12) (dC (.int 1)))) (dC (.int 2))) (dC (.int 0)))) (xVal (dBin 2 opEq (dFn qG (ql (dVar 0) (ql (dC (.int 2)) aNil))) (dC (.int 0))))) (dVar 12) [12])))))))))
def xM (tape : (Int × Int)) (wide : Int) (high : Int) (kr : ((List (Int × Int)) × (Int × Int)) → Prop) : Prop :=
 qH tape 9 fun t1 =>
 wV 0 0 wide high fun t2 =>
 ifP (decide (t1.1 < 2)) ((t2.length ≤ sizeLine) ∧
 lcW t2 ([] : List (Int × Int)) t1.2 (fun cell (s : (Int × Int)) w => qH s 3 fun t4 =>
 ifP (decide ((t1.1 % 2) < t4.1)) (w (some cell) t4.2) (w none t4.2)) fun l5 s6 =>
 kr (l5, s6)) <|
 ifP (decide (t1.1 < 5)) (lt (([] : (List ((Int × Int) × Bool))) : (List ((Int × Int) × Bool))) fun there =>
 qH t1.2 5 fun t7 =>
 (Yc 0 (1 + t7.1)) ∧
 forW (rng 0 (1 + t7.1)) (t7.2, there) (fun turn (s9 : ((Int × Int) × (List ((Int × Int) × Bool)))) kk10 => qH s9.1 wide fun t11 =>
 qH t11.2 high fun t12 =>
 lt (t11.1 : Int) fun x =>
 lt (t12.1 : Int) fun y =>
 qH t12.2 (wide - x) fun t13 =>
 qH t13.2 (high - y) fun t14 =>
 wV x y (1 + t13.1) (1 + t14.1) fun t15 =>
 ifW (decide (turn = 0)) (fun kk16 => kk16 (true, t14.2)) (fun kk16 => qH t14.2 3 fun t17 =>
 kk16 ((decide (0 < t17.1)), t17.2)) fun (b18 : Bool × (Int × Int)) =>
 (t15.length ≤ sizeLine) ∧
 (s9.2.length + (t15.map (fun cell => (cell, b18.1))).length ≤ sizeLine) ∧
 lt (xg s9.2 (t15.map (fun cell => (cell, b18.1)))) fun there =>
 kk10 (b18.2, there)) fun s9 =>
 (t2.length ≤ sizeLine) ∧
 kr ((t2.filter (fun cell => ((getA s9.2 cell).getD false))), s9.1)) <|
 ifP (decide (t1.1 = 5)) ((t2.length ≤ sizeLine) ∧
 lcW t2 ([] : List (Int × Int)) t1.2 (fun cell (s : (Int × Int)) w => qH s 6 fun t23 =>
 ifP (decide (0 < t23.1)) (w (some cell) t23.2) (w none t23.2)) fun l24 s25 =>
 kr (l24, s25)) <|
 ifP (decide (t1.1 = 6)) ((Yc 0 wide) ∧
 ((rng 0 wide).length ≤ sizeLine) ∧
 lcW (rng 0 wide) ([] : List Int) t1.2 (fun x (s : (Int × Int)) w => qH s high fun t28 =>
 w (some (1 + t28.1)) t28.2) fun l29 s30 =>
 (t2.length ≤ sizeLine) ∧
 lcW t2 ([] : List (Int × Int)) s30 (fun cell (s : (Int × Int)) w => exW (atI l29 cell.1) fun x32 =>
 qH s 2 fun t34 =>
 (IntMulOk (cell.1 % 2) t34.1) ∧
 exW (atI [x32, 1] ((cell.1 % 2) * t34.1)) fun x36 =>
 ifP (decide (cell.2 < x36)) (w (some cell) t34.2) (w none t34.2)) fun l38 s39 =>
 kr (l38, s39)) <|
 ifP (decide (t1.1 = 7)) ((t2.length ≤ sizeLine) ∧
 lcW t2 ([] : List (Int × Int)) t1.2 (fun cell (s : (Int × Int)) w => ifW (decide ((cell.1 % 3) = 0)) (fun kk41 => kk41 (true, s)) (fun kk41 => ifW (decide ((cell.2 % 3) = 0)) (fun kk42 => kk42 (true, s)) (fun kk42 => qH s 8 fun t43 =>
 kk42 ((decide (t43.1 = 0)), t43.2)) fun (b44 : Bool × (Int × Int)) =>
 kk41 (b44.1, b44.2)) fun (b45 : Bool × (Int × Int)) =>
 ifP b45.1 (w (some cell) b45.2) (w none b45.2)) fun l46 s47 =>
 kr (l46, s47)) <|
 (t2.length ≤ sizeLine) ∧
 lcW t2 ([] : List (Int × Int)) t1.2 (fun cell (s : (Int × Int)) w => ifW (decide (((cell.1 + cell.2) % 2) = 0)) (fun kk49 => kk49 (true, s)) (fun kk49 => qH s 2 fun t50 =>
 kk49 ((decide (t50.1 = 0)), t50.2)) fun (b51 : Bool × (Int × Int)) =>
 ifP b51.1 (w (some cell) b51.2) (w none b51.2)) fun l52 s53 =>
 kr (l52, s53)
def yg : FS := mkS (α := ((Int × Int) × Int × Int)) (κ := ((List (Int × Int)) × (Int × Int))) [.io, .cst, .cst] (fun a => [eP a.1, D.int a.2.1, D.int a.2.2]) (fun a => xM a.1 a.2.1 a.2.2) (fun r => (eL (eT2 D.int D.int)) r.1) fun a r => [eP r.2, D.int a.2.1, D.int a.2.2]
theorem Jl : BodyOk yg 13 (vm qG qN) := by
 intro ds Q hl h
 obtain ⟨⟨tape, wide, high⟩, kr, rfl, h, q⟩ := h
 refine u6 (e' := [_, _, _, _, _, _, _, _, _, _, _, _, _]) rfl ?_
 unfold vm
 unfold xM at h
 refine wy <| s_asg <| c_fn <| qd <| qw rfl <| qd <| c_C <| qu ?_
 refine x_call (tape, 9) (fun t1 => [some (eP t1.2, .io), _, _, _, _, _, _, _, _, _, _, _, _]) h (.cons .z (.cons .tmp .nil)) (qD (by rfl) (qD qR ww)) (by rfl) (fun _ => rfl) fun t1 h => ?_
 refine g_n (e' := [_, _, _, _, _, _, _, _, _, _, _, _, _]) rfl rfl ?_
 refine wy <| s_asg <| c_fn <| qd <| c_C <| qd <| c_C <| qd <| qw rfl <| qd <| qw rfl <| qu ?_
 refine x_call (0, 0, wide, high) (fun t2 => [_, _, _, _, _, _, _, _, _, _, _, _, _]) h (.cons .tmp (.cons .tmp (.cons .tmp (.cons .tmp .nil)))) (qD qR (qD qR (qD qR (qD qR ww)))) (wF (by rfl)) (fun _ => rfl) fun t2 h => ?_
 refine g_n (e' := [_, _, _, _, _, _, _, _, _, _, _, _, _]) rfl rfl ?_
 refine wy <| s_if <| zH <| qM <| qw rfl <| c_C <| qK .tmp .tmp qaO <| zG .tmp tr_b ?_
 refine ju h (fun hb h => ?_) (fun hb h => ?_)
 ·skip
  refine s_ret <| c_lc <| yP <| qw rfl <| Yi (e' := [_, _, _, _, _, _, _, _, _, _, _, _, _]) rfl rfl rfl ?_
  obtain ⟨p3, h⟩ := h
  refine JF (fI := zP) (fo := zP) (sh := fun (s : (Int × Int)) e => e = [some (eP s, .io), zS (D.int wide), zS (D.int high), zO (D.int t1.1), some (zL t2, .lk), none, none, none, none, none, none, none, none]) h (all1 rfl) p3 rfl (fun cell ha s e hs w c k1 k2 hc h1 h2 h => ?_) ?_
  ·obtain rfl := hs
   refine g_n (e' := [_, _, _, _, _, _, _, _, _, _, _, _, _]) rfl rfl (?_)
   refine zH <| qM <| c_fn <| qd <| qw rfl <| qd <| c_C <| qu ?_
   refine x_call (s, 3) (fun t4 => [some (eP t4.2, .io), _, _, _, _, _, _, _, _, _, _, _, _]) h (.cons .z (.cons .tmp .nil)) (qD (by rfl) (qD qR ww)) (by rfl) (fun _ => rfl) fun t4 h => ?_
   refine qM <| qw rfl <| c_C <| qK .tmp .tmp (Qg (by decide)) <| qK .tmp .tmp Jy <| zG .tmp tr_b ?_
   refine ju h (fun hb h => ?_) (fun hb h => h2 t4.2 _ rfl h)
   refine qw rfl ?_
   exact o_el (.of .z (Im.im (f := zP) _)) hc rfl (h1 _ t4.2 _ rfl h)
  rintro l5 s6 e hs h
  obtain rfl := hs
  refine yM (e' := [_, _, _, _, _, _, _, _, _, _, _, _, _]) rfl <| vH (e' := [_, _, _, _, _, _, _, _, _, _, _, _, _]) rfl rfl <| xR ?_
  exact q (l5, s6) h
 refine jc <| wy <| s_if <| zH <| qM <| qw rfl <| c_C <| qK .tmp .tmp qaO <| zG .tmp tr_b ?_
 refine ju h (fun hb h => ?_) (fun hb h => ?_)
 ·skip
  refine wy <| s_asg <| qky (kf := zk2) (f := D.bl) ?_
  refine g_N (f := zD) (fun there => [_, _, _, _, _, zO (zD there), _, _, _, _, _, _, _]) h rfl (fun _ => rfl) fun there h => ?_
  refine wy <| QF <| Uk <| qM <| c_C <| c_fn <| qd <| qw rfl <| qd <| c_C <| qu ?_
  refine x_call (t1.2, 5) (fun t7 => [some (eP t7.2, .io), _, _, _, _, _, _, _, _, _, _, _, _]) h (.cons .z (.cons .tmp .nil)) (qD (by rfl) (qD qR ww)) (by rfl) (fun _ => rfl) fun t7 h => ?_
  refine qK .tmp .tmp wH ?_
  obtain ⟨p8, h⟩ := h
  refine JB p8 ?_
  refine Ql (fI := D.int) (sh := fun (s9 : ((Int × Int) × (List ((Int × Int) × Bool)))) e => ∃ c6 c7 c8 c9 c10 : Option (D × Md), (setS (some c6) = true ∧ setS (some c7) = true ∧ setS (some c8) = true ∧ setS (some c9) = true ∧ setS (some c10) = true) ∧ e = [some (eP s9.1, .io), zS (D.int wide), zS (D.int high), zO (D.int t1.1), zO (zL t2), zO (zD s9.2), c6, c7, c8, c9, c10, none, none]) h ⟨_, _, _, _, _, ⟨rfl, rfl, rfl, rfl, rfl⟩, rfl⟩ (fun turn ha s9 e hs kk10 nxkk10 hJ10 h => ?_) ?_
  ·skip
   obtain ⟨c6, c7, c8, c9, c10, ⟨hc6, hc7, hc8, hc9, hc10⟩, rfl⟩ := hs
   refine g_n (e' := [_, _, _, _, _, _, _, _, _, _, _, _, _]) hc6 rfl (?_)
   refine wy <| qga <| qd <| c_fn <| qd <| qw rfl <| qd <| qw rfl <| qu ?_
   refine x_call (s9.1, wide) (fun t11 => [some (eP t11.2, .io), _, _, _, _, _, _, _, _, _, _, _, _]) h (.cons .z (.cons .tmp .nil)) (qD (by rfl) (qD qR ww)) (by rfl) (fun _ => rfl) fun t11 h => ?_
   refine qd <| c_fn <| qd <| qw rfl <| qd <| qw rfl <| qu ?_
   refine x_call (t11.2, high) (fun t12 => [some (eP t12.2, .io), _, _, _, _, _, _, _, _, _, _, _, _]) h (.cons .z (.cons .tmp .nil)) (qD (by rfl) (qD qR ww)) (by rfl) (fun _ => rfl) fun t12 h => ?_
   refine qu <| qgu (f := D.int) (g := D.int) (fun x y => [some (eP t12.2, .io), zS (D.int wide), zS (D.int high), zO (D.int t1.1), zO (zL t2), zO (zD s9.2), zO (D.int turn), zO (D.int x), zO (D.int y), c9, c10, none, none]) .tmp .tmp h hc7 hc8 (fun _ _ => rfl) fun x y h => wy <| s_asg <| c_fn <| qd <| qw rfl <| qd <| qw rfl <| qd <| qM <| c_C <| c_fn <| qd <| qw rfl <| qd <| qM <| qw rfl <| qw rfl <| qK .tmp .tmp yC <| qu ?_
   refine x_call (t12.2, (wide - x)) (fun t13 => [some (eP t13.2, .io), _, _, _, _, _, _, _, _, _, _, _, _]) h (.cons .z (.cons .tmp .nil)) (qD (by rfl) (qD qR ww)) (by rfl) (fun _ => rfl) fun t13 h => ?_
   refine qK .tmp .tmp wH <| qd <| qM <| c_C <| c_fn <| qd <| qw rfl <| qd <| qM <| qw rfl <| qw rfl <| qK .tmp .tmp yC <| qu ?_
   refine x_call (t13.2, (high - y)) (fun t14 => [some (eP t14.2, .io), _, _, _, _, _, _, _, _, _, _, _, _]) h (.cons .z (.cons .tmp .nil)) (qD (by rfl) (qD qR ww)) (by rfl) (fun _ => rfl) fun t14 h => ?_
   refine qK .tmp .tmp wH <| qu ?_
   refine x_call (x, y, (1 + t13.1), (1 + t14.1)) (fun t15 => [_, _, _, _, _, _, _, _, _, _, _, _, _]) h (.cons .tmp (.cons .tmp (.cons .tmp (.cons .tmp .nil)))) (qD qR (qD qR (qD qR (qD qR ww)))) (wF (by rfl)) (fun _ => rfl) fun t15 h => ?_
   refine g_n (e' := [_, _, _, _, _, _, _, _, _, _, _, _, _]) hc9 rfl ?_
   refine wy <| s_asg <| qjc <| qM <| qw rfl <| c_C <| qK .tmp .tmp (op_eq (f := D.int)) <| qfp .tmp ?_
   refine qiv (sh := fun (s : (Int × Int)) e => e = [some (eP s, .io), zS (D.int wide), zS (D.int high), zO (D.int t1.1), zO (zL t2), zO (zD s9.2), zO (D.int turn), zO (D.int x), zO (D.int y), zO (zL t15), c10, none, none]) h rfl (fun hb kk16 N hJ16 h => ?_) ?_
   ·skip
    refine qM <| c_fn <| qd <| qw rfl <| qd <| c_C <| qu ?_
    refine x_call (t14.2, 3) (fun t17 => [some (eP t17.2, .io), _, _, _, _, _, _, _, _, _, _, _, _]) h (.cons .z (.cons .tmp .nil)) (qD (by rfl) (qD qR ww)) (by rfl) (fun _ => rfl) fun t17 h => ?_
    refine c_C <| qK .tmp .tmp Jy ?_
    exact hJ16 ((decide (0 < t17.1)), t17.2) _ rfl h
   rintro b18 e hs h
   obtain rfl := hs
   refine g_n (e' := [_, _, _, _, _, _, _, _, _, _, _, _, _]) hc10 rfl ?_
   refine vZ <| c_mn (by rfl) .z (by rfl) <| qd <| c_lc <| yP <| qw rfl <| Yi (e' := [_, _, _, _, _, _, _, _, _, _, _, _, _]) rfl rfl rfl ?_
   obtain ⟨p19, h⟩ := h
   refine ZP (e := [_, _, _, _, _, _, _, _, _, _, _, _, _]) (fI := zP) (fo := (eT2 zP D.bl)) (fun cell => (cell, b18.1)) (all1 rfl) p19 rfl (fun cell ha c k1 hc h1 => ?_) ?_
   ·skip
    refine g_n (e' := [_, _, _, _, _, _, _, _, _, _, _, _, _]) rfl rfl (?_)
    refine qX <| qd <| qw rfl <| qd <| qw rfl <| qu <| qO zP D.bl cell b18.1 (.cons (.of .z (Im.im (f := zP) _)) (.cons .tmp .nil)) ?_
    exact o_el .tmp hc rfl h1
   refine yM (e' := [_, _, _, _, _, _, _, _, _, _, _, _, _]) rfl <| vH (e' := [_, _, _, _, _, _, _, _, _, _, _, _, _]) rfl rfl <| qu ?_
   obtain ⟨p20, h⟩ := h
   refine qkj (c := zP) (f := D.bl) (fun there => [_, _, _, _, _, zO (zD there), _, _, _, _, _, _, _]) h .tmp (by rfl) p20 (fun _ => rfl) fun there h => ?_
   exact hJ10 (b18.2, there) _ ⟨_, _, _, _, _, ⟨rfl, rfl, rfl, rfl, rfl⟩, rfl⟩ h
  rintro s9 e hs h
  obtain ⟨c6, c7, c8, c9, c10, ⟨hc6, hc7, hc8, hc9, hc10⟩, rfl⟩ := hs
  refine wA <| s_ret <| c_lc <| yP <| qw rfl <| Yi (e' := [_, _, _, _, _, _, _, _, _, _, _, _, _]) rfl rfl rfl ?_
  obtain ⟨p21, h⟩ := h
  refine qcV (e := [_, _, _, _, _, _, _, _, _, _, _, _, _]) (fI := zP) (fo := zP) (fun cell => ((getA s9.2 cell).getD false)) (all1 rfl) p21 rfl (fun cell ha c k1 k2 hc h1 h2 => ?_) ?_
  ·skip
   refine g_n (e' := [_, _, _, _, _, _, _, _, _, _, _, _, _]) rfl rfl (?_)
   refine zH <| c_mn (by rfl) .z (by rfl) <| qd <| qw rfl <| qd <| c_C <| qu <| qiy (c := zP) (f := D.bl) .z .z .tmp <| zG .tmp tr_b ?_
   refine ⟨fun hb => ?_, fun hb => h2 hb⟩
   refine qw rfl ?_
   exact o_el (.of .z (Im.im (f := zP) _)) hc rfl (h1 hb)
  refine yM (e' := [_, _, _, _, _, _, _, _, _, _, _, _, _]) rfl <| vH (e' := [_, _, _, _, _, _, _, _, _, _, _, _, _]) rfl rfl <| xR ?_
  exact q ((t2.filter (fun cell => ((getA s9.2 cell).getD false))), s9.1) h
 refine jc <| wy <| s_if <| zH <| qM <| qw rfl <| c_C <| qK .tmp .tmp (op_eq (f := D.int)) <| zG .tmp tr_b ?_
 refine ju h (fun hb h => ?_) (fun hb h => ?_)
 ·skip
  refine s_ret <| c_lc <| yP <| qw rfl <| Yi (e' := [_, _, _, _, _, _, _, _, _, _, _, _, _]) rfl rfl rfl ?_
  obtain ⟨p22, h⟩ := h
  refine JF (fI := zP) (fo := zP) (sh := fun (s : (Int × Int)) e => e = [some (eP s, .io), zS (D.int wide), zS (D.int high), zO (D.int t1.1), some (zL t2, .lk), none, none, none, none, none, none, none, none]) h (all1 rfl) p22 rfl (fun cell ha s e hs w c k1 k2 hc h1 h2 h => ?_) ?_
  ·obtain rfl := hs
   refine g_n (e' := [_, _, _, _, _, _, _, _, _, _, _, _, _]) rfl rfl (?_)
   refine zH <| qM <| c_fn <| qd <| qw rfl <| qd <| c_C <| qu ?_
   refine x_call (s, 6) (fun t23 => [some (eP t23.2, .io), _, _, _, _, _, _, _, _, _, _, _, _]) h (.cons .z (.cons .tmp .nil)) (qD (by rfl) (qD qR ww)) (by rfl) (fun _ => rfl) fun t23 h => ?_
   refine c_C <| qK .tmp .tmp Jy <| zG .tmp tr_b ?_
   refine ju h (fun hb h => ?_) (fun hb h => h2 t23.2 _ rfl h)
   refine qw rfl ?_
   exact o_el (.of .z (Im.im (f := zP) _)) hc rfl (h1 _ t23.2 _ rfl h)
  rintro l24 s25 e hs h
  obtain rfl := hs
  refine yM (e' := [_, _, _, _, _, _, _, _, _, _, _, _, _]) rfl <| vH (e' := [_, _, _, _, _, _, _, _, _, _, _, _, _]) rfl rfl <| xR ?_
  exact q (l24, s25) h
 refine jc <| wy <| s_if <| zH <| qM <| qw rfl <| c_C <| qK .tmp .tmp (op_eq (f := D.int)) <| zG .tmp tr_b ?_
 refine ju h (fun hb h => ?_) (fun hb h => ?_)
 ·skip
  refine wy <| s_asg <| c_lc <| Uk <| qw rfl ?_
  obtain ⟨p26, h⟩ := h
  refine JB p26 ?_
  obtain ⟨p27, h⟩ := h
  refine JF (fI := D.int) (fo := D.int) (sh := fun (s : (Int × Int)) e => e = [some (eP s, .io), zS (D.int wide), zS (D.int high), zO (D.int t1.1), zO (zL t2), none, none, none, none, none, none, none, none]) h (all1 rfl) p27 rfl (fun x ha s e hs w c k1 k2 hc h1 h2 h => ?_) ?_
  ·obtain rfl := hs
   refine g_n (e' := [_, _, _, _, _, _, _, _, _, _, _, _, _]) rfl rfl (?_)
   refine qhj <| qM <| c_C <| c_fn <| qd <| qw rfl <| qd <| qw rfl <| qu ?_
   refine x_call (s, high) (fun t28 => [some (eP t28.2, .io), _, _, _, _, _, _, _, _, _, _, _, _]) h (.cons .z (.cons .tmp .nil)) (qD (by rfl) (qD qR ww)) (by rfl) (fun _ => rfl) fun t28 h => ?_
   refine qK .tmp .tmp wH ?_
   exact o_el .tmp hc rfl (h1 _ t28.2 _ rfl h)
  rintro l29 s30 e hs h
  obtain rfl := hs
  refine yM (e' := [_, _, _, _, _, _, _, _, _, _, _, _, _]) rfl <| wA ?_
  refine g_n (e' := [_, _, _, _, _, _, _, _, _, _, _, _, _]) rfl rfl ?_
  refine s_ret <| c_lc <| yP <| qw rfl <| Yi (e' := [_, _, _, _, _, _, _, _, _, _, _, _, _]) rfl rfl rfl ?_
  obtain ⟨p31, h⟩ := h
  refine JF (fI := zP) (fo := zP) (sh := fun (s : (Int × Int)) e => e = [some (eP s, .io), zS (D.int wide), zS (D.int high), zO (D.int t1.1), some (zL t2, .lk), none, none, none, none, none, none, zO (eL D.int l29), none]) h (all1 rfl) p31 rfl (fun cell ha s e hs w c k1 k2 hc h1 h2 h => ?_) ?_
  ·obtain rfl := hs
   refine g_n (e' := [_, _, _, _, _, _, _, _, _, _, _, _, _]) rfl rfl (?_)
   refine zH <| qM <| yJ <| qw rfl <| c_C <| o_idx .z .tmp WQ (.sl (Im.im (f := D.int) _)) <| yJ <| uo <| qd <| yJ <| qw rfl <| yJ <| qw rfl <| c_C <| o_idx .z .tmp WR (.sl (Im.im (f := D.int) _)) ?_
   obtain ⟨x32, p33, h⟩ := h
   refine o_idx .z .tmp (ix_L p33) (.sl (Im.im (f := D.int) _)) <| qd <| c_C <| qu <| xj D.int [x32, 1] (.cons .tmp (.cons .tmp .nil)) <| qM <| qM <| yJ <| qw rfl <| c_C <| o_idx .z .tmp WR (.sl (Im.im (f := D.int) _)) <| c_C <| qK .tmp .tmp (Qg (by decide)) <| c_fn <| qd <| qw rfl <| qd <| c_C <| qu ?_
   refine x_call (s, 2) (fun t34 => [some (eP t34.2, .io), _, _, _, _, _, _, _, _, _, _, _, _]) h (.cons .z (.cons .tmp .nil)) (qD (by rfl) (qD qR ww)) (by rfl) (fun _ => rfl) fun t34 h => ?_
   obtain ⟨p35, h⟩ := h
   refine qK .tmp .tmp (Vx p35) ?_
   obtain ⟨x36, p37, h⟩ := h
   refine o_idx .tmp .tmp (ix_L p37) .tmp <| qK .tmp .tmp qaO <| zG .tmp tr_b ?_
   refine ju h (fun hb h => ?_) (fun hb h => h2 t34.2 _ rfl h)
   refine qw rfl ?_
   exact o_el (.of .z (Im.im (f := zP) _)) hc rfl (h1 _ t34.2 _ rfl h)
  rintro l38 s39 e hs h
  obtain rfl := hs
  refine yM (e' := [_, _, _, _, _, _, _, _, _, _, _, _, _]) rfl <| vH (e' := [_, _, _, _, _, _, _, _, _, _, _, _, _]) rfl rfl <| xR ?_
  exact q (l38, s39) h
 refine jc <| wy <| s_if <| zH <| qM <| qw rfl <| c_C <| qK .tmp .tmp (op_eq (f := D.int)) <| zG .tmp tr_b ?_
 refine ju h (fun hb h => ?_) (fun hb h => ?_)
 ·skip
  refine s_ret <| c_lc <| yP <| qw rfl <| Yi (e' := [_, _, _, _, _, _, _, _, _, _, _, _, _]) rfl rfl rfl ?_
  obtain ⟨p40, h⟩ := h
  refine JF (fI := zP) (fo := zP) (sh := fun (s : (Int × Int)) e => e = [some (eP s, .io), zS (D.int wide), zS (D.int high), zO (D.int t1.1), some (zL t2, .lk), none, none, none, none, none, none, none, none]) h (all1 rfl) p40 rfl (fun cell ha s e hs w c k1 k2 hc h1 h2 h => ?_) ?_
  ·obtain rfl := hs
   refine g_n (e' := [_, _, _, _, _, _, _, _, _, _, _, _, _]) rfl rfl (?_)
   refine Ul <| zH <| qM <| qM <| yJ <| qw rfl <| c_C <| o_idx .z .tmp WR (.sl (Im.im (f := D.int) _)) <| c_C <| qK .tmp .tmp (Qg (by decide)) <| c_C <| qK .tmp .tmp (op_eq (f := D.int)) <| zG .tmp tr_b ?_
   refine JD (sh := fun (s : (Int × Int)) e => e = [some (eP s, .io), zS (D.int wide), zS (D.int high), zO (D.int t1.1), some (zL t2, .lk), none, none, none, none, none, none, none, zO (zP cell)]) h rfl (fun hb kk41 N hJ41 h => ?_) ?_
   ·skip
    refine Ul <| zH <| qM <| qM <| yJ <| qw rfl <| c_C <| o_idx .z .tmp WQ (.sl (Im.im (f := D.int) _)) <| c_C <| qK .tmp .tmp (Qg (by decide)) <| c_C <| qK .tmp .tmp (op_eq (f := D.int)) <| zG .tmp tr_b ?_
    refine JD (sh := fun (s : (Int × Int)) e => e = [some (eP s, .io), zS (D.int wide), zS (D.int high), zO (D.int t1.1), some (zL t2, .lk), none, none, none, none, none, none, none, zO (zP cell)]) h rfl (fun hb kk42 N hJ42 h => ?_) ?_
    ·skip
     refine zH <| qM <| c_fn <| qd <| qw rfl <| qd <| c_C <| qu ?_
     refine x_call (s, 8) (fun t43 => [some (eP t43.2, .io), _, _, _, _, _, _, _, _, _, _, _, _]) h (.cons .z (.cons .tmp .nil)) (qD (by rfl) (qD qR ww)) (by rfl) (fun _ => rfl) fun t43 h => ?_
     refine c_C <| qK .tmp .tmp (op_eq (f := D.int)) <| zG .tmp tr_b ?_
     exact hJ42 ((decide (t43.1 = 0)), t43.2) _ rfl h
    rintro b44 e hs h
    obtain rfl := hs
    exact hJ41 (b44.1, b44.2) _ rfl h
   rintro b45 e hs h
   obtain rfl := hs
   refine ju h (fun hb h => ?_) (fun hb h => h2 b45.2 _ rfl h)
   refine qw rfl ?_
   exact o_el (.of .z (Im.im (f := zP) _)) hc rfl (h1 _ b45.2 _ rfl h)
  rintro l46 s47 e hs h
  obtain rfl := hs
  refine yM (e' := [_, _, _, _, _, _, _, _, _, _, _, _, _]) rfl <| vH (e' := [_, _, _, _, _, _, _, _, _, _, _, _, _]) rfl rfl <| xR ?_
  exact q (l46, s47) h
 refine jc <| s_ret <| c_lc <| yP <| qw rfl <| Yi (e' := [_, _, _, _, _, _, _, _, _, _, _, _, _]) rfl rfl rfl ?_
 obtain ⟨p48, h⟩ := h
 refine JF (fI := zP) (fo := zP) (sh := fun (s : (Int × Int)) e => e = [some (eP s, .io), zS (D.int wide), zS (D.int high), zO (D.int t1.1), some (zL t2, .lk), none, none, none, none, none, none, none, none]) h (all1 rfl) p48 rfl (fun cell ha s e hs w c k1 k2 hc h1 h2 h => ?_) ?_
 ·obtain rfl := hs
  refine g_n (e' := [_, _, _, _, _, _, _, _, _, _, _, _, _]) rfl rfl (?_)
  refine Ul <| zH <| qM <| qM <| qM <| yJ <| qw rfl <| c_C <| o_idx .z .tmp WR (.sl (Im.im (f := D.int) _)) <| yJ <| qw rfl <| c_C <| o_idx .z .tmp WQ (.sl (Im.im (f := D.int) _)) <| qK .tmp .tmp wH <| c_C <| qK .tmp .tmp (Qg (by decide)) <| c_C <| qK .tmp .tmp (op_eq (f := D.int)) <| zG .tmp tr_b ?_
  refine JD (sh := fun (s : (Int × Int)) e => e = [some (eP s, .io), zS (D.int wide), zS (D.int high), zO (D.int t1.1), some (zL t2, .lk), none, none, none, none, none, none, none, zO (zP cell)]) h rfl (fun hb kk49 N hJ49 h => ?_) ?_
  ·skip
   refine zH <| qM <| c_fn <| qd <| qw rfl <| qd <| c_C <| qu ?_
   refine x_call (s, 2) (fun t50 => [some (eP t50.2, .io), _, _, _, _, _, _, _, _, _, _, _, _]) h (.cons .z (.cons .tmp .nil)) (qD (by rfl) (qD qR ww)) (by rfl) (fun _ => rfl) fun t50 h => ?_
   refine c_C <| qK .tmp .tmp (op_eq (f := D.int)) <| zG .tmp tr_b ?_
   exact hJ49 ((decide (t50.1 = 0)), t50.2) _ rfl h
  rintro b51 e hs h
  obtain rfl := hs
  refine ju h (fun hb h => ?_) (fun hb h => h2 b51.2 _ rfl h)
  refine qw rfl ?_
  exact o_el (.of .z (Im.im (f := zP) _)) hc rfl (h1 _ b51.2 _ rfl h)
 rintro l52 s53 e hs h
 obtain rfl := hs
 refine yM (e' := [_, _, _, _, _, _, _, _, _, _, _, _, _]) rfl <| vH (e' := [_, _, _, _, _, _, _, _, _, _, _, _, _]) rfl rfl <| xR ?_
 exact q (l52, s53) h
def Qa (qG qN yg : FS) : XS :=
 (sSeq (sPar 2 3 (ql (dBin 1 wY (dC (.int 1)) (dFn qG (ql (dVar 0) (ql (dC (.int 5)) aNil)))) (ql (dBin 1 wY (dC (.int 1)) (dFn qG (ql (dVar 0) (ql (dC (.int 5)) aNil)))) aNil)))
 (sSeq (sIf (xVal (dVar 1)) (sPar 2 3 (ql (dBin 1 wY (dC (.int 7)) (dFn qG (ql (dVar 0) (ql (dC (.int 6)) aNil)))) (ql (dBin 1 wY (dC (.int 7)) (dFn qG (ql (dVar 0) (ql (dC (.int 6)) aNil)))) aNil))) sNil)
 (sSeq (sAsg (dFn yg (ql (dVar 0) (ql (dVar 2) (ql (dVar 3) aNil)))) (gN 4))
 (sSeq (sIf (xAnd (xVal (dBin 2 opEq (dVar 4) (dLst aNil))) (xVal (dBin 2 opGt (dFn qG (ql (dVar 0) (ql (dC (.int 4)) aNil))) (dC (.int 0))))) (sAsg (dFn qN (ql (dC (.int 0)) (ql (dC (.int 0)) (ql (dVar 2) (ql (dVar 3) aNil))))) (gN 4)) sNil)
 (sSeq (sAsg (dLst (ql (dC (.int 0)) (ql (dC (.int 0)) aNil))) (gN 5))
 (sSeq (sIf (xVal (dBin 2 opEq (dFn qG (ql (dVar 0) (ql (dC (.int 4)) aNil))) (dC (.int 0)))) (sAsg (dIdx (dLst (ql (dLst (ql (dFn qG (ql (dVar 0) (ql (dC (.int 20)) aNil))) (ql (dFn qG (ql (dVar 0) (ql (dC (.int 20)) aNil))) aNil))) (ql (dLst (ql (dBin 2 j9 (dC (.int 41)) (dVar 2)) (ql (dBin 2 j9 (dC (.int 41)) (dVar 3)) aNil))) aNil))) (dFn qG (ql (dVar 0) (ql (dC (.int 2)) aNil)))) (gN 5)) sNil)
 (sRet (dCall 1 (op1 uX) (ql (dCall 1 (op1 jP) (ql (dLc (iSeq (dVar 4)) (gT 2 (wN (gN 6) (wN (gN 7) jR))) xYes (dTup (ql (dBin 1 wY (dVar 6) (dIdx (dVar 5) (dC (.int 0)))) (ql (dBin 1 wY (dVar 7) (dIdx (dVar 5) (dC (.int 1)))) aNil))) [6, 7]) aNil)) aNil)))))))))
def jA (tape : (Int × Int)) (great : Bool) (kr : ((List (Int × Int)) × (Int × Int)) → Prop) : Prop :=
 qH tape 5 fun t1 =>
 qH t1.2 5 fun t2 =>
 lt ((1 + t1.1) : Int) fun wide =>
 lt ((1 + t2.1) : Int) fun high =>
 ifW great (fun kk4 => qH t2.2 6 fun t5 =>
 qH t5.2 6 fun t6 =>
 lt ((7 + t5.1) : Int) fun wide =>
 lt ((7 + t6.1) : Int) fun high =>
 kk4 (t6.2, wide, high)) (fun kk4 => kk4 (t2.2, wide, high)) fun (s3 : ((Int × Int) × Int × Int)) =>
 xM s3.1 s3.2.1 s3.2.2 fun t7 =>
 ifW (decide (t7.1 = ([] : List (Int × Int)))) (fun kk8 => qH t7.2 4 fun t9 =>
 kk8 ((decide (0 < t9.1)), t9.2)) (fun kk8 => kk8 (false, t7.2)) fun (b10 : Bool × (Int × Int)) =>
 ifW b10.1 (fun kk11 => wV 0 0 s3.2.1 s3.2.2 fun t12 =>
 kk11 t12) (fun kk11 => kk11 t7.1) fun (cells : (List (Int × Int))) =>
 lt ([0, 0] : (List Int)) fun far =>
 qH b10.2 4 fun t13 =>
 ifW (decide (t13.1 = 0)) (fun kk15 => qH t13.2 20 fun t16 =>
 qH t16.2 20 fun t17 =>
 qH t17.2 2 fun t18 =>
 exW (atI [[t16.1, t17.1], [(41 - s3.2.1), (41 - s3.2.2)]] t18.1) fun x19 =>
 kk15 (t18.2, x19)) (fun kk15 => kk15 (t13.2, far)) fun (s14 : ((Int × Int) × (List Int))) =>
 (cells.length ≤ sizeLine) ∧
 lcW cells ([] : List (Int × Int)) () (fun a21 (s : Unit) w => exW (atI s14.2 0) fun x23 =>
 exW (atI s14.2 1) fun x25 =>
 w (some ((a21.1 + x23), (a21.2 + x25))) ()) fun l27 s28 =>
 kr ((srt tl2 l27), s14.1)
def yE : FS := mkS (α := ((Int × Int) × Bool)) (κ := ((List (Int × Int)) × (Int × Int))) [.io, .cst] (fun a => [eP a.1, D.bl a.2]) (fun a => jA a.1 a.2) (fun r => (eV (eT2 D.int D.int)) r.1) fun a r => [eP r.2, D.bl a.2]
theorem UW : BodyOk yE 8 (Qa qG qN yg) := by
 intro ds Q hl h
 obtain ⟨⟨tape, great⟩, kr, rfl, h, q⟩ := h
 refine u6 (e' := [_, _, _, _, _, _, _, _]) rfl ?_
 unfold Qa
 unfold jA at h
 refine wy <| qga <| qd <| qM <| c_C <| c_fn <| qd <| qw rfl <| qd <| c_C <| qu ?_
 refine x_call (tape, 5) (fun t1 => [some (eP t1.2, .io), _, _, _, _, _, _, _]) h (.cons .z (.cons .tmp .nil)) (qD (by rfl) (qD qR ww)) (by rfl) (fun _ => rfl) fun t1 h => ?_
 refine qK .tmp .tmp wH <| qd <| qM <| c_C <| c_fn <| qd <| qw rfl <| qd <| c_C <| qu ?_
 refine x_call (t1.2, 5) (fun t2 => [some (eP t2.2, .io), _, _, _, _, _, _, _]) h (.cons .z (.cons .tmp .nil)) (qD (by rfl) (qD qR ww)) (by rfl) (fun _ => rfl) fun t2 h => ?_
 refine qK .tmp .tmp wH <| qu <| qgu (f := D.int) (g := D.int) (fun wide high => [some (eP t2.2, .io), zS (D.bl great), zO (D.int wide), zO (D.int high), none, none, none, none]) .tmp .tmp h rfl rfl (fun _ _ => rfl) fun wide high h => wy <| s_if <| zH <| qw rfl <| zG .tmp tr_b ?_
 refine Xp (sh := fun (s3 : ((Int × Int) × Int × Int)) e => e = [some (eP s3.1, .io), zS (D.bl great), zO (D.int s3.2.1), zO (D.int s3.2.2), none, none, none, none]) h (fun hb kk4 nxkk4 hJ4 h => ?_) (fun hb kk4 nxkk4 hJ4 h => ?_) ?_
 ·skip
  refine qga <| qd <| qM <| c_C <| c_fn <| qd <| qw rfl <| qd <| c_C <| qu ?_
  refine x_call (t2.2, 6) (fun t5 => [some (eP t5.2, .io), _, _, _, _, _, _, _]) h (.cons .z (.cons .tmp .nil)) (qD (by rfl) (qD qR ww)) (by rfl) (fun _ => rfl) fun t5 h => ?_
  refine qK .tmp .tmp wH <| qd <| qM <| c_C <| c_fn <| qd <| qw rfl <| qd <| c_C <| qu ?_
  refine x_call (t5.2, 6) (fun t6 => [some (eP t6.2, .io), _, _, _, _, _, _, _]) h (.cons .z (.cons .tmp .nil)) (qD (by rfl) (qD qR ww)) (by rfl) (fun _ => rfl) fun t6 h => ?_
  refine qK .tmp .tmp wH <| qu <| qgu (f := D.int) (g := D.int) (fun wide high => [some (eP t6.2, .io), zS (D.bl great), zO (D.int wide), zO (D.int high), none, none, none, none]) .tmp .tmp h rfl rfl (fun _ _ => rfl) fun wide high h => ?_
  exact hJ4 (t6.2, wide, high) _ rfl h
 ·skip
  refine jc ?_
  exact hJ4 (t2.2, wide, high) _ rfl h
 rintro s3 e hs h
 obtain rfl := hs
 refine wy <| s_asg <| c_fn <| qd <| qw rfl <| qd <| qw rfl <| qd <| qw rfl <| qu ?_
 refine x_call (s3.1, s3.2.1, s3.2.2) (fun t7 => [some (eP t7.2, .io), _, _, _, _, _, _, _]) h (.cons .z (.cons .tmp (.cons .tmp .nil))) (qD (by rfl) (qD qR (qD qR ww))) (by rfl) (fun _ => rfl) fun t7 h => ?_
 refine g_n (e' := [_, _, _, _, _, _, _, _]) rfl rfl ?_
 refine wy <| s_if <| qdO <| zH <| qM <| qw rfl <| uo <| qu <| xj zP ([] : List (Int × Int)) .nil <| qK .z .tmp (op_eq (f := zL)) <| zG .tmp tr_b ?_
 refine qcW (sh := fun (s : (Int × Int)) e => e = [some (eP s, .io), zS (D.bl great), zO (D.int s3.2.1), zO (D.int s3.2.2), zO (zL t7.1), none, none, none]) h rfl (fun hb kk8 N hJ8 h => ?_) ?_
 ·skip
  refine zH <| qM <| c_fn <| qd <| qw rfl <| qd <| c_C <| qu ?_
  refine x_call (t7.2, 4) (fun t9 => [some (eP t9.2, .io), _, _, _, _, _, _, _]) h (.cons .z (.cons .tmp .nil)) (qD (by rfl) (qD qR ww)) (by rfl) (fun _ => rfl) fun t9 h => ?_
  refine c_C <| qK .tmp .tmp Jy <| zG .tmp tr_b ?_
  exact hJ8 ((decide (0 < t9.1)), t9.2) _ rfl h
 rintro b10 e hs h
 obtain rfl := hs
 refine Xp (sh := fun (cells : (List (Int × Int))) e => e = [some (eP b10.2, .io), zS (D.bl great), zO (D.int s3.2.1), zO (D.int s3.2.2), zO (zL cells), none, none, none]) h (fun hb kk11 nxkk11 hJ11 h => ?_) (fun hb kk11 nxkk11 hJ11 h => ?_) ?_
 ·skip
  refine s_asg <| c_fn <| qd <| c_C <| qd <| c_C <| qd <| qw rfl <| qd <| qw rfl <| qu ?_
  refine x_call (0, 0, s3.2.1, s3.2.2) (fun t12 => [_, _, _, _, _, _, _, _]) h (.cons .tmp (.cons .tmp (.cons .tmp (.cons .tmp .nil)))) (qD qR (qD qR (qD qR (qD qR ww)))) (wF (by rfl)) (fun _ => rfl) fun t12 h => ?_
  refine g_n (e' := [_, _, _, _, _, _, _, _]) rfl rfl ?_
  exact hJ11 t12 _ rfl h
 ·skip
  refine jc ?_
  exact hJ11 t7.1 _ rfl h
 rintro cells e hs h
 obtain rfl := hs
 refine wy <| s_asg <| uo <| qd <| c_C <| qd <| c_C <| qu <| xj D.int [0, 0] (.cons .tmp (.cons .tmp .nil)) ?_
 refine g_N (f := (eL D.int)) (fun far => [_, _, _, _, _, zO (eL D.int far), _, _]) h rfl (fun _ => rfl) fun far h => ?_
 refine wy <| s_if <| zH <| qM <| c_fn <| qd <| qw rfl <| qd <| c_C <| qu ?_
 refine x_call (b10.2, 4) (fun t13 => [some (eP t13.2, .io), _, _, _, _, _, _, _]) h (.cons .z (.cons .tmp .nil)) (qD (by rfl) (qD qR ww)) (by rfl) (fun _ => rfl) fun t13 h => ?_
 refine c_C <| qK .tmp .tmp (op_eq (f := D.int)) <| zG .tmp tr_b ?_
 refine Xp (sh := fun (s14 : ((Int × Int) × (List Int))) e => e = [some (eP s14.1, .io), zS (D.bl great), zO (D.int s3.2.1), zO (D.int s3.2.2), zO (zL cells), zO (eL D.int s14.2), none, none]) h (fun hb kk15 nxkk15 hJ15 h => ?_) (fun hb kk15 nxkk15 hJ15 h => ?_) ?_
 ·skip
  refine s_asg <| yJ <| uo <| qd <| uo <| qd <| c_fn <| qd <| qw rfl <| qd <| c_C <| qu ?_
  refine x_call (t13.2, 20) (fun t16 => [some (eP t16.2, .io), _, _, _, _, _, _, _]) h (.cons .z (.cons .tmp .nil)) (qD (by rfl) (qD qR ww)) (by rfl) (fun _ => rfl) fun t16 h => ?_
  refine qd <| c_fn <| qd <| qw rfl <| qd <| c_C <| qu ?_
  refine x_call (t16.2, 20) (fun t17 => [some (eP t17.2, .io), _, _, _, _, _, _, _]) h (.cons .z (.cons .tmp .nil)) (qD (by rfl) (qD qR ww)) (by rfl) (fun _ => rfl) fun t17 h => ?_
  refine qu <| xj D.int [t16.1, t17.1] (.cons .tmp (.cons .tmp .nil)) <| qd <| uo <| qd <| qM <| c_C <| qw rfl <| qK .tmp .tmp yC <| qd <| qM <| c_C <| qw rfl <| qK .tmp .tmp yC <| qu <| xj D.int [(41 - s3.2.1), (41 - s3.2.2)] (.cons .tmp (.cons .tmp .nil)) <| qu <| xj (eL D.int) [[t16.1, t17.1], [(41 - s3.2.1), (41 - s3.2.2)]] (.cons .tmp (.cons .tmp .nil)) <| c_fn <| qd <| qw rfl <| qd <| c_C <| qu ?_
  refine x_call (t17.2, 2) (fun t18 => [some (eP t18.2, .io), _, _, _, _, _, _, _]) h (.cons .z (.cons .tmp .nil)) (qD (by rfl) (qD qR ww)) (by rfl) (fun _ => rfl) fun t18 h => ?_
  obtain ⟨x19, p20, h⟩ := h
  refine o_idx .tmp .tmp (ix_L p20) .tmp ?_
  refine g_n (e' := [_, _, _, _, _, _, _, _]) rfl rfl ?_
  exact hJ15 (t18.2, x19) _ rfl h
 ·skip
  refine jc ?_
  exact hJ15 (t13.2, far) _ rfl h
 rintro s14 e hs h
 obtain rfl := hs
 refine s_ret <| zf <| qd <| zf <| qd <| c_lc <| yP <| qw rfl <| Yi (e' := [_, _, _, _, _, _, _, _]) rfl rfl rfl ?_
 obtain ⟨p22, h⟩ := h
 refine JF (fI := zP) (fo := zP) (sh := fun (s : Unit) e => e = [some (eP s14.1, .io), zS (D.bl great), zO (D.int s3.2.1), zO (D.int s3.2.2), some (zL cells, .lk), zO (eL D.int s14.2), none, none]) h (all2 rfl rfl) p22 rfl (fun a21 ha s e hs w c k1 k2 hc h1 h2 h => ?_) ?_
 ·obtain rfl := hs
  refine g_T (by rfl) (zj (g_n (e' := [_, _, _, _, _, _, _, _]) rfl rfl (zj (g_n (e' := [_, _, _, _, _, _, _, _]) rfl rfl (vJ (?_))))))
  refine qhj <| qX <| qd <| qM <| qw rfl <| yJ <| qw rfl <| c_C ?_
  obtain ⟨x23, p24, h⟩ := h
  refine o_idx .z .tmp (ix_L p24) (.sl (Im.im (f := D.int) _)) <| qK .tmp .tmp wH <| qd <| qM <| qw rfl <| yJ <| qw rfl <| c_C ?_
  obtain ⟨x25, p26, h⟩ := h
  refine o_idx .z .tmp (ix_L p26) (.sl (Im.im (f := D.int) _)) <| qK .tmp .tmp wH <| qu <| qO D.int D.int (a21.1 + x23) (a21.2 + x25) (.cons .tmp (.cons .tmp .nil)) ?_
  exact o_el .tmp hc rfl (h1 _ () _ rfl h)
 rintro l27 s28 e hs h
 obtain rfl := hs
 refine yM (e' := [_, _, _, _, _, _, _, _]) rfl <| vH (e' := [_, _, _, _, _, _, _, _]) rfl rfl <| qu <| zb (.cons .tmp .nil) (qgy (f := zP)) <| qu <| zb (.cons .tmp .nil) (YG (f := zP)) <| xR ?_
 exact q ((srt tl2 l27), s14.1) h
end BC
namespace BC
open PySem PySem.Spec PyProof.Rows L2 BX TX COM
theorem yN {t : Int × Int} {m : Int} {kr : Int × (Int × Int) → Prop} (ht : TpOk t) (h1 : 1 ≤ m) (h2 : m ≤ 1000000) (h : ∀ (r : Int) (t' : Int × Int), 0 ≤ r → r < m → TpOk t' → kr (r, t')) : qH t m kr :=
 ⟨ht, ⟨h1, h2⟩, fun r a b c => h r.1 r.2 a b c⟩
def yH (x y w h : Int) : List (Int × Int) := (rng 0 w).flatMap fun i => (rng 0 h).map fun j => (x + i, y + j)
theorem QR {x y w h : Int} {c : Int × Int} : c ∈ yH x y w h ↔ (x ≤ c.1 ∧ c.1 < x + w) ∧ y ≤ c.2 ∧ c.2 < y + h := by
 unfold yH
 simp only [List.mem_flatMap, List.mem_map, VL]
 constructor
 ·rintro ⟨i, hi, j, hj, rfl⟩; simp only; omega
 ·rintro ⟨h1, h2⟩
  exact ⟨c.1 - x, by omega, c.2 - y, by omega, Prod.ext (by simp only; omega) (by simp only; omega)⟩
theorem JT (x y w h : Int) : (yH x y w h).Pairwise ltC := by
 unfold yH
 rw [List.pairwise_flatMap]
 refine ⟨fun i _ => ?_, (qcx 0 w).imp fun {i j} hij a ha b hb => ?_⟩
 ·rw [List.pairwise_map]
  exact (qcx 0 h).imp fun {a b} hab => .inr ⟨rfl, by simp only; omega⟩
 ·simp only [List.mem_map] at ha hb
  obtain ⟨_, _, rfl⟩ := ha
  obtain ⟨_, _, rfl⟩ := hb
  exact .inl (by simp only; omega)
theorem qdp {x y w h : Int} (h1 : 0 ≤ w) (h2 : 0 ≤ h) : ((yH x y w h).length : Int) = w * h := by
 have : (yH x y w h).length = w.toNat * h.toNat := by
  unfold yH
  simp [List.length_flatMap, ue, List.map_const', List.sum_replicate_nat]
 rw [this]
 obtain ⟨a, rfl⟩ := Int.eq_ofNat_of_zero_le h1
 obtain ⟨b, rfl⟩ := Int.eq_ofNat_of_zero_le h2
 simp
theorem Wq {x y w h : Int} {kr : List (Int × Int) → Prop} (h1 : 0 ≤ w) (h2 : w ≤ 1000) (h3 : 0 ≤ h) (h4 : h ≤ 1000) (hk : kr (yH x y w h)) : wV x y w h kr := by
 unfold wV
 simp only [lt]
 refine ⟨Yv (by omega) (by omega) (by omega) (by omega), jX (fun p s => s = p.flatMap fun i => (rng 0 h).map fun j => (x + i, y + j)) rfl ?_ ?_⟩
 ·rintro p a q s kk e rfl hkk
  have hl : (p.flatMap fun i => (rng 0 h).map fun j => (x + i, y + j)).length ≤ 1000 * 1000 := by
   have : (p.flatMap fun i => (rng 0 h).map fun j => (x + i, y + j)).length = p.length * h.toNat := by
    simp [List.length_flatMap, ue, List.map_const', List.sum_replicate_nat]
   rw [this]
   have : p.length ≤ (rng 0 w).length := by rw [e]; simp
   rw [ue] at this
   exact Nat.mul_le_mul (by omega) (by omega)
  refine ⟨Yv (by omega) (by omega) (by omega) (by omega), ?_, ?_, hkk _ ?_⟩
  ·rw [ue, sz]; omega
  ·rw [List.length_map, ue, sz]; omega
  ·simp
 ·rintro s rfl
  exact hk
theorem qaa {x y w h : Int} (h1 : 0 ≤ w) (h2 : w ≤ 12) (h3 : 0 ≤ h) (h4 : h ≤ 12) : (yH x y w h).length ≤ 144 := by
 have := qdp (x := x) (y := y) h1 h3
 have : w * h ≤ 12 * 12 := Int.mul_le_mul h2 h4 h3 (by decide)
 omega
theorem qc6 {κ α : Type} [DecidableEq κ] (l : List (κ × α)) : ∀ m : List (κ × α), (xg m l).length ≤ m.length + l.length := by
 have put : ∀ (k : κ) (v : α) (m : List (κ × α)), (putA k v m).length ≤ m.length + 1 := fun k v m => by
  induction m with
  | nil => simp [putA]
  | cons p m ih => rw [putA]; split <;> simp <;> omega
 induction l with
 | nil => intro m; simp [xg]
 | cons p l ih =>
   intro m
   have := ih (putA p.1 p.2 m)
   have := put p.1 p.2 m
   show (xg (putA p.1 p.2 m) l).length ≤ _
   rw [List.length_cons]; omega
theorem qf8 {t : Int × Int} {w h : Int} {kr : List (Int × Int) × (Int × Int) → Prop} (ht : TpOk t) (h1 : 1 ≤ w) (h2 : w ≤ 12) (h3 : 1 ≤ h) (h4 : h ≤ 12) (hk : ∀ m s, m.Sublist (yH 0 0 w h) → TpOk s → kr (m, s)) : xM t w h kr := by
 unfold xM
 refine yN ht (by decide) (by decide) fun way t hw0 hw1 ht => ?_
 refine Wq (by omega) (by omega) (by omega) (by omega) ?_
 have hz := sz
 have gl := qaa (x := 0) (y := 0) (w := w) (h := h) (by omega) (by omega) (by omega) (by omega)
 have gz : (yH 0 0 w h).length ≤ sizeLine := by omega
 have sub : ∀ m s, m.Sublist (yH 0 0 w h) → TpOk s → kr ([] ++ m, s) := fun m s hm hs => hk m s hm hs
 refine ⟨fun _ => ⟨gz, Qp TpOk ht ?_ sub⟩, fun _ => ⟨fun _ => ?_, fun _ => ⟨fun _ => ⟨gz, Qp TpOk ht ?_ sub⟩, fun _ => ⟨fun _ => ?_, fun _ => ⟨fun _ => ⟨gz, Qp TpOk ht ?_ sub⟩, fun _ => ⟨gz, Qp TpOk ht ?_ sub⟩⟩⟩⟩⟩⟩
 ·intro c hc s w' hs hy hn
  exact yN hs (by decide) (by decide) fun r t' _ _ h' => ⟨fun _ => hy _ h', fun _ => hn _ h'⟩
 ·refine yN ht (by decide) (by decide) fun r t' hr0 hr1 ht => ⟨Yv (by omega) (by omega) (by omega) (by omega), ?_⟩
  refine jX (fun p s => TpOk s.1 ∧ s.2.length ≤ 144 * p.length) ⟨ht, Nat.zero_le _⟩ ?_ ?_
  ·rintro p a q s kk e ⟨ht, hl⟩ hkk
   have hp : p.length ≤ 5 := by
    have : p.length ≤ (rng 0 (1 + r)).length := by rw [e]; simp
    rw [ue] at this; omega
   refine yN ht (by omega) (by omega) fun x t1 hx0 hx1 ht => yN ht (by omega) (by omega) fun y t2 hy0 hy1 ht => ?_
   refine yN ht (by omega) (by omega) fun u t3 hu0 hu1 ht => yN ht (by omega) (by omega) fun v t4 hv0 hv1 ht => ?_
   refine Wq (by omega) (by omega) (by omega) (by omega) ?_
   have gl2 := qaa (x := x) (y := y) (w := 1 + u) (h := 1 + v) (by omega) (by omega) (by omega) (by omega)
   have rest : ∀ (b : Bool) (t5 : Int × Int), TpOk t5 → (fun (b16 : Bool × (Int × Int)) => ((yH x y (1 + u) (1 + v)).length ≤ sizeLine) ∧ (s.2.length + ((yH x y (1 + u) (1 + v)).map (fun cell => (cell, b16.1))).length ≤ sizeLine) ∧
    lt (xg s.2 ((yH x y (1 + u) (1 + v)).map (fun cell => (cell, b16.1)))) fun there => kk (b16.2, there)) (b, t5) := fun b t5 ht => by
    refine ⟨by omega, by rw [List.length_map]; omega, hkk _ ⟨ht, ?_⟩⟩
    have := qc6 ((yH x y (1 + u) (1 + v)).map (fun cell => (cell, b))) s.2
    rw [List.length_map] at this
    simp only [List.length_append, List.length_singleton]
    omega
   exact ⟨fun _ => rest _ _ ht, fun _ => yN ht (by decide) (by decide) fun z t5 _ _ ht => rest _ _ ht⟩
  ·rintro s ⟨ht, -⟩
   exact ⟨gz, hk _ _ List.filter_sublist ht⟩
 ·intro c hc s w' hs hy hn
  exact yN hs (by decide) (by decide) fun r t' _ _ h' => ⟨fun _ => hy _ h', fun _ => hn _ h'⟩
 ·refine ⟨Yv (by omega) (by omega) (by omega) (by omega), by rw [ue]; omega, qdb TpOk (fun _ => True) ht (fun b hb => trivial) ?_ ?_⟩
  ·intro a ha s w' hs hy
   exact yN hs (by omega) (by omega) fun r t' _ _ h' => hy _ _ trivial h'
  ·intro tall s hl _ hs
   rw [ue] at hl
   refine ⟨gz, Qp TpOk hs ?_ sub⟩
   intro c hc s w' hs hy hn
   have hc := QR.mp hc
   obtain ⟨v, hv⟩ : ∃ v, atI tall c.1 = some v := by
    have h0 : (c.1.toNat : Int) = c.1 := by omega
    have h1 : c.1.toNat < tall.length := by simp only [List.length_nil] at hl; omega
    rw [← h0]
    exact ⟨_, atI_nat (List.getElem?_eq_getElem h1)⟩
   refine ⟨v, hv, yN hs (by decide) (by decide) fun r t' hr0 hr1 h' => ⟨Qo (by omega) (by omega), ?_⟩⟩
   have hr : r = 0 ∨ r = 1 := by omega
   have hm : c.1 % 2 = 0 ∨ c.1 % 2 = 1 := by omega
   have hv2 : ∃ u, atI [v, 1] (c.1 % 2 * r) = some u := by
    rcases hr with rfl | rfl <;> rcases hm with e | e <;> rw [e] <;> exact ⟨_, rfl⟩
   obtain ⟨u, hu⟩ := hv2
   exact ⟨u, hu, fun _ => hy _ h', fun _ => hn _ h'⟩
 ·intro c hc s w' hs hy hn
  refine ⟨fun _ => ?_, fun _ => ⟨fun _ => ?_, fun _ => yN hs (by decide) (by decide) fun r t' _ _ h' => ?_⟩⟩
  ·exact ⟨fun _ => hy _ hs, fun _ => hn _ hs⟩
  ·exact ⟨fun _ => hy _ hs, fun _ => hn _ hs⟩
  ·exact ⟨fun _ => hy _ h', fun _ => hn _ h'⟩
 ·intro c hc s w' hs hy hn
  refine ⟨fun _ => ?_, fun _ => yN hs (by decide) (by decide) fun r t' _ _ h' => ?_⟩
  ·exact ⟨fun _ => hy _ hs, fun _ => hn _ hs⟩
  ·exact ⟨fun _ => hy _ h', fun _ => hn _ h'⟩
theorem Xb (l : List (Int × Int)) : (srt tl2 l).Perm l := List.mergeSort_perm ..
theorem qf5 {l : List (Int × Int)} {c : Int × Int} : c ∈ srt tl2 l ↔ c ∈ l := (Xb l).mem_iff
theorem qhZ (l : List (Int × Int)) (hn : l.Nodup) : (srt tl2 l).Pairwise ltC := by
 have h1 : (srt tl2 l).Pairwise fun a b => (!HT.lexLt (tl2 b) (tl2 a)) = true := List.pairwise_mergeSort (fun a b c => by
  simp only [lex2, Bool.not_eq_true', decide_eq_false_iff_not]
  unfold ltC; omega) (fun a b => by
  simp only [lex2, Bool.or_eq_true, Bool.not_eq_true', decide_eq_false_iff_not]
  unfold ltC; omega) l
 have h2 : (srt tl2 l).Nodup := (Xb l).nodup_iff.mpr hn
 refine (h1.and h2).imp fun {a b} h => ?_
 have h3 := h.1
 simp only [lex2, Bool.not_eq_true', decide_eq_false_iff_not] at h3
 have : a ≠ b := h.2
 have : ¬ (a.1 = b.1 ∧ a.2 = b.2) := fun z => this (Prod.ext z.1 z.2)
 unfold ltC at h3 ⊢
 omega
theorem qhW {ns : List Int} {k : Int} {kr : Int × Int → Prop} (h1 : 0 ≤ k) (h2 : k ≤ 1000) (h : ∀ t, TpOk t → kr t) : v5 ns k kr := ⟨⟨h1, h2⟩, h⟩
end BC
namespace BC
open PySem PySem.Spec PyProof.Rows L2 BX TX COM
section
variable {κ α : Type} [DecidableEq κ]
theorem qa0 {k c : κ} {v : α} : ∀ {l : List (κ × α)}, getA (putA k v l) c = if c = k then some v else getA l c
 | [] => by
   unfold getA putA
   by_cases h : c = k
   ·simp [h]
   ·have : ¬ k = c := fun z => h z.symm
    simp [h, this]
 | p :: l => by
   have ih := qa0 (k := k) (c := c) (v := v) (l := l)
   unfold getA at ih ⊢
   rw [putA]
   by_cases h1 : p.1 = k
   ·rw [if_pos h1, List.find?_cons, List.find?_cons]
    by_cases h : c = k
    ·simp [h, h1]
    ·have : ¬ p.1 = c := fun z => h (by rw [← z]; exact h1)
     simp [h, this]
   ·rw [if_neg h1, List.find?_cons, List.find?_cons]
    by_cases h : p.1 = c
    ·have : ¬ c = k := fun z => h1 (by rw [h]; exact z)
     simp [h, this]
    ·simp only [h, decide_false]
     exact ih
theorem Xz {k : κ} : ∀ {l : List (κ × α)}, hasA l k = (getA l k).isSome
 | [] => rfl
 | p :: l => by
   have ih := Xz (k := k) (l := l)
   unfold hasA getA at ih ⊢
   rw [List.any_cons, List.find?_cons]
   by_cases h : p.1 = k
   ·simp [h]
   ·simp only [h, decide_false, Bool.false_or]
    exact ih
theorem qdm {β : Type} {f : β → κ} {v : β → α} {c : κ} : ∀ {l : List β} {m : List (κ × α)}, hasA (xg m (l.map fun b => (f b, v b))) c = (hasA m c || decide (c ∈ l.map f))
 | [], m => by simp [xg]
 | b :: l, m => by
   show hasA (xg (putA (f b) (v b) m) (l.map _)) c = _
   rw [qdm (l := l), Xz, qa0, Xz]
   by_cases h : c = f b
   ·simp [h]
   ·simp [h]
theorem has_dict {l : List κ} {v : α} {c : κ} [d : Decidable (c ∈ l)] : hasA (xg [] (l.map fun b => (b, v))) c = decide (c ∈ l) := by
 have := qdm (f := fun b : κ => b) (v := fun _ => v) (l := l) (m := ([] : List (κ × α))) (c := c)
 rw [this]
 by_cases h : c ∈ l <;> simp [hasA, h]
end
section
variable {α β γ δ : Type} {f : α → D}
theorem qaA {n : Nat} {i : Int} : jQ (n + 1) (.int i) := trivial
theorem so_L {n : Nat} {l : List α} (h : l.length ≤ 1000000) (h2 : ∀ a ∈ l, jQ n (f a)) : jQ (n + 1) (eL f l) := ⟨by simpa using h, fun x hx => by
 obtain ⟨a, ha, rfl⟩ := List.mem_map.mp hx
 exact h2 a ha⟩
theorem so_V {n : Nat} {l : List α} (h : l.length ≤ 1000000) (h2 : ∀ a ∈ l, jQ n (f a)) : jQ (n + 1) (eV f l) := ⟨by simpa using h, fun x hx => by
 obtain ⟨a, ha, rfl⟩ := List.mem_map.mp hx
 exact h2 a ha⟩
theorem qh0 {g : β → D} {n : Nat} {p : α × β} (h1 : jQ n (f p.1)) (h2 : jQ n (g p.2)) : jQ (n + 1) (eT2 f g p) := ⟨by simp, fun x hx => by
 simp at hx; rcases hx with rfl | rfl <;> assumption⟩
end
end BC
namespace BX
open PySem PySem.Spec PyProof.Rows L2
mutual
def D.pd : D → PyData
 | .non => .none
 | .bl b => .bool b
 | .int i => .int i
 | .str x => .str x
 | .tup xs => .tuple (pdL xs)
 | .lst xs => .list (pdL xs)
 | .dT _ => .none
 | .dK _ => .none
 | .dF _ => .none
 | .lF xs => .list (pdL xs)
 | .ob _ _ => .none
 | .ex _ _ => .none
 | .dN _ => .none
 | .op _ => .none
def pdL : List D → List PyData
 | [] => []
 | d :: ds => d.pd :: pdL ds
end
mutual
def D.ndc : D → Bool
 | .non => true
 | .bl _ => true
 | .int _ => true
 | .str _ => true
 | .tup xs => ndcL xs
 | .lst xs => ndcL xs
 | .dT _ => false
 | .dK _ => false
 | .dF _ => false
 | .lF xs => ndcL xs
 | .ob _ _ => false
 | .ex _ _ => false
 | .dN _ => false
 | .op _ => false
def ndcL : List D → Bool
 | [] => true
 | d :: ds => d.ndc && ndcL ds
end
section
variable {X : Cx} {pins : List (Addr × Obj)} {σ : L2.St} {H : Hp} {s : Shared} {lv : Nat}
mutual
theorem Rep.reads (I : Inv X pins σ H s) : ∀ {d : D} {v : V} {f : List Addr} {u : Value}, Rep X.K H lv d v f → d.ndc = true → RelV v u → ∃ as, Reads s.heap u d.pd as
 | _, _, _, u, .non, _, r => by obtain rfl : u = .none := r; rw [D.pd]; exact ⟨_, .none⟩
 | _, _, _, u, .bl b, _, r => by obtain rfl : u = .bool b := r; rw [D.pd]; exact ⟨_, .bool b⟩
 | _, _, _, u, .int i, _, r => by obtain ⟨t, rfl⟩ : ∃ t, u = .int i t := r; rw [D.pd]; exact ⟨_, .int i t⟩
 | _, _, _, u, .str x, _, r => by obtain ⟨t, rfl⟩ : ∃ t, u = .str x t := r; rw [D.pd]; exact ⟨_, .str x t⟩
 | _, _, _, u, @Rep.tup _ _ _ a vs ds f h t, n, r => by
   obtain rfl : u = .ref a := r
   obtain ⟨its, rv, ⟨o, ho, hc, m, hd⟩, _⟩ := I.tuple (SqT.of h)
   rw [D.ndc] at n
   obtain ⟨as, ra⟩ := Reps.reads I t n rv
   rw [D.pd]
   exact ⟨as, .tuple ho hc hd (by simpa using ra)⟩
 | _, _, _, u, @Rep.tupK _ _ _ a vs ds f l h t, n, r => by
   obtain rfl : u = .ref a := r
   obtain ⟨its, rv, ⟨o, ho, hc, m, hd⟩, _⟩ := I.tuple h.sq
   rw [D.ndc] at n
   obtain ⟨as, ra⟩ := Reps.reads I t n rv
   rw [D.pd]
   exact ⟨as, .tuple ho hc hd (by simpa using ra)⟩
 | _, _, _, u, @Rep.lst _ _ _ a vs ds f h t m, n, r => by
   obtain rfl : u = .ref a := r
   obtain ⟨its, rv, ⟨o, m, ho, hc, _, hd⟩, _⟩ := I.list (SqL.of h)
   rw [D.ndc] at n
   obtain ⟨as, ra⟩ := Reps.reads I t n rv
   rw [D.pd]
   exact ⟨_, .list ho hc hd (by simpa using ra)⟩
 | _, _, _, u, @Rep.lstF _ _ _ a vs ds f l h t, n, r => by
   obtain rfl : u = .ref a := r
   obtain ⟨its, rv, ⟨o, m, ho, hc, _, hd⟩, _⟩ := I.list h.sq
   rw [D.ndc] at n
   obtain ⟨as, ra⟩ := Reps.reads I t n rv
   rw [D.pd]
   exact ⟨_, .list ho hc hd (by simpa using ra)⟩
 | _, _, _, _, .dT _ _ _ _ _, n, _ => by rw [D.ndc] at n; cases n
 | _, _, _, _, .dTF _ _ _ _ _, n, _ => by rw [D.ndc] at n; cases n
 | _, _, _, _, .dF _ _ _ _, n, _ => by rw [D.ndc] at n; cases n
 | _, _, _, _, .ob _ _ _ _ _, n, _ => by rw [D.ndc] at n; cases n
 | _, _, _, _, .ex _ _ _ _, n, _ => by rw [D.ndc] at n; cases n
 | _, _, _, _, .dN _ _ _ _ _ _, n, _ => by rw [D.ndc] at n; cases n
 | _, _, _, _, .opN _, n, _ => by rw [D.ndc] at n; cases n
 | _, _, _, _, .opF _, n, _ => by rw [D.ndc] at n; cases n
 | _, _, _, u, @Rep.lF _ _ _ a _ vs ds f h t, n, r => by
   obtain rfl : u = .ref a := r
   obtain ⟨its, rv, ⟨o, m, ho, hc, _, hd⟩, _⟩ := I.list (.inl (.inr ⟨_, h⟩) : SqL X.K H a vs)
   rw [D.ndc] at n
   obtain ⟨as, ra⟩ := Reps.reads I t n rv
   rw [D.pd]
   exact ⟨_, .list ho hc hd (by simpa using ra)⟩
 | _, _, _, _, .dK _ _ _ _ _, n, _ => by rw [D.ndc] at n; cases n
theorem Reps.reads (I : Inv X pins σ H s) : ∀ {ds : List D} {vs : List V} {f : List Addr} {us : List Value}, Reps X.K H lv ds vs f → ndcL ds = true → Vals vs us → ∃ as, ReadsAll s.heap us (pdL ds) as
 | _, _, _, _, .nil, _, .nil => by rw [pdL]; exact ⟨_, .nil⟩
 | _, _, _, _, .cons a t _, n, .cons r q => by
   rw [ndcL, Bool.and_eq_true] at n
   obtain ⟨as, h1⟩ := Rep.reads I a n.1 r
   obtain ⟨bs, h2⟩ := Reps.reads I t n.2 q
   rw [pdL]
   exact ⟨_, .cons h1 h2⟩
end
end
def strD (d : D) : Str := d.pd.shown
def ShOk (d : D) : Prop := d.ndc = true ∧ d.pd.showable = true ∧ d.pd.depth ≤ 90 ∧ d.pd.shown.length ≤ sizeLine
end BX
namespace BX
open PySem PySem.Spec PyProof.Rows L2
structure FnG (P : Program) (w : World) (K : PySem.W.Frag) (mg : Str → Option Value) (base : Heap) (k : Nat) (f : Addr) (fd : FuncData) (ps : List Str) (sp : Sp) : Prop where
 ar : ∀ vs H Q E, sp vs H Q E → vs.length = ps.length
 go : ∀ {A : Around} {fr : List PySem.Env} {s : Shared} {H : Hp} {args : Args} {us : List Value} {vs : List V} {Q : VK} {E : XK},
  Room k A → A.guards = some [] → Env0 P w K mg base A fr s H → BindsTo s fd args (ps.zip us) → Vals vs us → sp vs H Q E →
   codeAny (model P w) A (.call (.ref f) args) (CR CX0 fr P w H s Q E) s
section
variable {P : Program} {w : World} {K : PySem.W.Frag} {mg : Str → Option Value} {base : Heap} {k : Nat} {f : Addr} {fd : FuncData} {ps : List Str} {sp : Sp}
theorem FnG.of (F : FnOk P w K mg base CX0 k f fd ps sp) : FnG P w K mg base k f fd ps sp := ⟨F.len, fun hr _ e b v h => F.run _ _ _ _ _ _ _ _ _ hr e b v h⟩
theorem FnG.up {j : Nat} (F : FnG P w K mg base j f fd ps sp) (l : j ≤ k) : FnG P w K mg base k f fd ps sp := ⟨F.ar, fun hr g e b v h => F.go (hr.mono l) g e b v h⟩
theorem FnG.body {x qual : Str} {st : Stmt} {N : List Str} (U : Fun K x qual st f fd) (Sc : FnScope N ps (defScope st)) (ar : ∀ vs H Q E, sp vs H Q E → vs.length = ps.length)
 (hb : ∀ (cd : Value) (A : Around) (fr : List PySem.Env) (s : Shared) (H : Hp) (vs : List V) (Q : VK) (E : XK), Room k (A.deeper (envOfC qual (defScope st) s.heap.objs.size f cd)) → A.guards = some [] → sp vs H Q E →
  ∃ t, PSs (cxOf CX0 P w K mg base N qual (defScope st) f cd A fr s H E).nox (defBody st) t ∧ t { nx := fun _ H' => Q .non H', rt := Q } (L2.start N vs) H) : FnG P w K mg base (k + 1) f fd ps sp := by
 obtain ⟨oc, od, kV, doc, pm, an, cd, ct, sl, rfl, lk, hc⟩ := U.ex
 refine ⟨ar, ?_⟩
 intro A fr s H args us vs Q E hr hg e0 bd rv hs
 have inK : K.In s.heap := e0.mod.kin.keeps fun b o z => (e0.bs b o z).1
 have noL : s.heap.NoLimit := e0.mod.nolimit.keeps fun b o z => (e0.bs b o z).1
 have hk : ∀ y ∈ ps.zip us, (defScope st).names.lookup y.1 = some .local ∨
  ((defScope st).names.lookup y.1 = some .cell ∧ ((cellsFrom (s.heap.objs.size + 1) (defScope st).names []).lookup y.1).isSome = true) := by
  rintro ⟨n, v⟩ hy
  have hn := (List.of_mem_zip hy).1
  cases Sc.par n hn with
  | inl q => exact .inl q
  | inr q => exact .inr ⟨q, PySem.W.cellsFrom_some _ _ _ (.inl q)⟩
 refine codeAny_call_function hr.depth (inK _ _ lk) rfl Sc.co Sc.gen rfl (PySem.W.codeRec_of inK hc) (bd _ _ _ _ ?_)
 refine wpAny_newFunctionEnv_cells Sc.kind hk fun env he s1 x => ?_
 subst he
 refine ⟨noL.keeps x.toInCall.keep, codeAny_func ?_⟩
 obtain ⟨t, ht, hq⟩ := hb cd A fr s H vs Q E (hr.deeper _) hg hs
 have I : Inv (cxOf CX0 P w K mg base N qual (defScope st) f cd A fr s H E) [] (L2.start N vs) H s1 := inv_start Sc hr.hd e0 (ar _ _ _ _ hs) rv x
 have done : ∀ {τ : L2.St} {H' : Hp} {s' : Shared} {v : V} {u : Value}, Inv (cxOf CX0 P w K mg base N qual (defScope st) f cd A fr s H E) [] τ H' s' → RelV v u → Q v H' → CE fr P w H s Q u s' := by
  intro τ H' s' v u J r q
  exact ⟨v, H', J.os, J.bare, J.base, J.hok, r, q⟩
 refine wpAny_mono (ht.nox.run [] s1 (L2.start N vs) H _ I hq) (fun fl s' z => ?_) (fun _ _ z => z)
 cases fl with
 | next => obtain ⟨τ, H', J, q⟩ := z; exact done (v := .non) (u := .none) J rfl q
 | ret u => obtain ⟨v, τ, H', J, r, q⟩ := z; exact done J r q
 | brk => obtain ⟨_, _, _, q⟩ := z; exact q.elim
 | cont => obtain ⟨_, _, _, q⟩ := z; exact q.elim
end
section
variable {X : Cx} {k : Nat} {ps : List Str} {x : Str} {p pos : Pos} {e : Expr} {es : List Expr} {u : XA} {S : FS}
structure Fg (P : Program) (w : World) (K : PySem.W.Frag) (mg : Str → Option Value) (base : Heap) (x : Str) (k : Nat) (ps : List Str) (S : FS) : Prop where
 ex : ∃ f fd, FnG P w K mg base k f fd ps (spOf K S) ∧ mg x = some (.ref f) ∧ PySem.W.keepIn K (.ref f) = true ∧ Binds K fd ps []
 mono : qbV S
theorem Fg.up {P : Program} {w : World} {K : PySem.W.Frag} {mg : Str → Option Value} {base : Heap} {j : Nat} (F : Fg P w K mg base x j ps S) (l : j ≤ k) : Fg P w K mg base x k ps S :=
 let ⟨f, fd, a, b⟩ := F.ex; ⟨⟨f, fd, a.up l, b⟩, F.mono⟩
end
end BX
namespace BX
open PySem PySem.Spec PyProof.Rows L2
end BX
namespace BT
open PySem PySem.Spec PyProof.Rows L2
def stp : Nat → Nat → Nat
 | 0, i => i
 | k + 1, i => stp k i * 5 + 1
theorem Vi : ∀ a b i, stp (a + b) i = stp a (stp b i)
 | 0, b, i => by rw [Nat.zero_add]; rfl
 | a + 1, b, i => by
   rw [show a + 1 + b = (a + b) + 1 by omega]
   show stp (a + b) i * 5 + 1 = stp a (stp b i) * 5 + 1
   rw [Vi a b i]
theorem qck : ∀ K : Nat, ∃ c d : Nat, ∀ i, stp (2 ^ K) i = (1 + 4 * 2 ^ K * c) * i + 2 ^ K * (1 + 2 * d)
 | 0 => ⟨1, 0, fun i => by show i * 5 + 1 = _; simp; omega⟩
 | K + 1 => by
   obtain ⟨c, d, h⟩ := qck K
   refine ⟨c + 2 * 2 ^ K * c * c, d + 2 ^ K * c + 2 * d * 2 ^ K * c, fun i => ?_⟩
   rw [show 2 ^ (K + 1) = 2 ^ K + 2 ^ K by rw [Nat.pow_succ]; omega, Vi, h, h]
   generalize 2 ^ K = M
   grind
theorem half {M x j : Nat} (hM : 0 < M) (h : x % M = j % M) (n : x % (M * 2) ≠ j % (M * 2)) : (x + M) % (M * 2) = j % (M * 2) := by
 rw [Nat.mod_mul, Nat.mod_mul] at n
 rw [Nat.mod_mul, Nat.mod_mul, Nat.add_mod_right, Nat.add_div_right _ hM, h]
 rw [h] at n
 have a := Nat.mod_lt (x / M) (show 0 < 2 by decide)
 have b := Nat.mod_lt (j / M) (show 0 < 2 by decide)
 have c : x / M % 2 ≠ j / M % 2 := fun z => n (by rw [z])
 have e : (x / M + 1) % 2 = j / M % 2 := by omega
 rw [e]
theorem qcl : ∀ (K i j : Nat), ∃ k, k < 2 ^ K ∧ stp k i % 2 ^ K = j % 2 ^ K
 | 0, i, j => ⟨0, by decide, by simp [Nat.mod_one]⟩
 | K + 1, i, j => by
   obtain ⟨k, hk, e⟩ := qcl K i j
   obtain ⟨c, d, h⟩ := qck K
   by_cases q : stp k i % 2 ^ (K + 1) = j % 2 ^ (K + 1)
   ·exact ⟨k, by rw [Nat.pow_succ]; omega, q⟩
   ·refine ⟨2 ^ K + k, by rw [Nat.pow_succ]; omega, ?_⟩
    rw [Vi, h]
    have e2 : (1 + 4 * 2 ^ K * c) * stp k i + 2 ^ K * (1 + 2 * d) = (stp k i + 2 ^ K) + 2 ^ (K + 1) * (2 * c * stp k i + d) := by
     rw [Nat.pow_succ]; generalize 2 ^ K = M; grind
    rw [e2, Nat.add_mul_mod_self_left, Nat.pow_succ]
    rw [Nat.pow_succ] at q
    exact half (Nat.pow_pos (by decide)) e q
def MG (m : Nat) : Prop := m = 7 ∨ m = 31 ∨ m = 127 ∨ m = 511 ∨ m = 2047 ∨ m = 8191
theorem MG.pow {m : Nat} (h : MG m) : ∃ K, m + 1 = 2 ^ K := by
 rcases h with rfl | rfl | rfl | rfl | rfl | rfl
 ·exact ⟨3, rfl⟩
 ·exact ⟨5, rfl⟩
 ·exact ⟨7, rfl⟩
 ·exact ⟨9, rfl⟩
 ·exact ⟨11, rfl⟩
 ·exact ⟨13, rfl⟩
theorem MG.odd {m : Nat} (h : MG m) : m % 2 = 1 := by rcases h with rfl | rfl | rfl | rfl | rfl | rfl <;> rfl
theorem MG.top {m : Nat} (h : MG m) : m ≤ 8191 := by rcases h with rfl | rfl | rfl | rfl | rfl | rfl <;> decide
theorem qc8 {m i : Nat} (hi : i ≤ m) : ∀ k, lcgI m i k = stp k i % (m + 1)
 | 0 => (Nat.mod_eq_of_lt (Nat.lt_succ_of_le hi)).symm
 | k + 1 => by
   show (lcgI m i k * 5 + 1) % (m + 1) = (stp k i * 5 + 1) % (m + 1)
   rw [qc8 hi k]
   simp [Nat.add_mod, Nat.mul_mod]
theorem MG.comes {m : Nat} (h : MG m) {i j : Nat} (hi : i ≤ m) (hj : j ≤ m) : ∃ k, k ≤ m ∧ lcgI m i k = j := by
 obtain ⟨K, e⟩ := h.pow
 obtain ⟨k, a, b⟩ := qcl K i j
 rw [← e] at a b
 refine ⟨k, by omega, ?_⟩
 rw [qc8 hi, b, Nat.mod_eq_of_lt (by omega)]
theorem MG.run {m : Nat} (hm : MG m) (h : Int) {j : Nat} (hj : j ≤ m) : ∃ n, n ≤ m + 12 ∧ runI m (SetTable.bits h) n = j := by
 obtain ⟨k, a, e⟩ := hm.comes (runI_le m (SetTable.bits h) 12) hj
 refine ⟨12 + k, by omega, ?_⟩
 rw [runI_tail (bits_lt h)]
 exact e
theorem qfa {m : Nat} (h : Int) (k : Nat) : way m h k ≤ m := by
 have a : SetTable.bits h % (m + 1) ≤ m := Nat.le_of_lt_succ (Nat.mod_lt _ (Nat.succ_pos m))
 have b := (runEnd_bd a).1
 have c := (runEnd_bd a).2.1
 have start : (runAt m (SetTable.bits h % (m + 1)) (SetTable.bits h)).j + (runAt m (SetTable.bits h % (m + 1)) (SetTable.bits h)).more ≤ m := by
  dsimp only [runAt]
  omega
 have z := nth_in k _ start
 dsimp only [way]
 omega
theorem MG.way {m : Nat} (hm : MG m) (h : Int) {j : Nat} (hj : j ≤ m) : ∃ k, k < 10 * SetTable.turns m ∧ way m h k = j := by
 obtain ⟨n, a, e⟩ := hm.run h hj
 obtain ⟨k, b, e'⟩ := run_nth m (SetTable.bits h) n
 refine ⟨k, ?_, ?_⟩
 ·unfold SetTable.turns
  omega
 ·show (nth m _ k).j = j
  rw [e']
  exact e
structure Tb (t : SetTable) (hs : List Int) : Prop where
 ris : Ris t.place.toList
 dm : t.dummies = #[]
 sz : t.place.size = hs.length
 mg : MG t.mask
 back : ∀ (i : Nat) (h : Int) (j : Nat), hs[i]? = some h → t.place.toList[i]? = some j → ∃ k, way t.mask h k = j ∧ ∀ c, c < k → way t.mask h c ∈ t.place.toList
section
variable {t : SetTable} {hs : List Int}
def Hole (t : SetTable) (h : Int) (K : Nat) : Prop := way t.mask h K ∉ t.place.toList ∧ ∀ c, c < K → way t.mask h c ∈ t.place.toList
theorem Tb.hole (T : Tb t hs) (hl : hs.length ≤ t.mask) (h : Int) : ∃ K, K < 10 * SetTable.turns t.mask ∧ Hole t h K := by
 have few : t.place.toList.length < t.mask + 1 := by
  have := T.sz
  rw [Array.length_toList]
  omega
 obtain ⟨j, a, b⟩ := st_missing _ _ few
 obtain ⟨k, c, rfl⟩ := T.mg.way h (Nat.le_of_lt_succ a)
 obtain ⟨K, d, e, f⟩ := st_least (p := fun k => way t.mask h k ∉ t.place.toList) k b
 exact ⟨K, by omega, e, fun c' hc => Classical.not_not.mp (f c' hc)⟩
theorem Tb.ahead (T : Tb t hs) {h : Int} {K i j : Nat} (hK : Hole t h K) (hi : hs[i]? = some h) (hj : t.place.toList[i]? = some j) : ∃ k, k < K ∧ way t.mask h k = j := by
 obtain ⟨k, e, b⟩ := T.back i h j hi hj
 refine ⟨k, Nat.lt_of_not_le fun z => ?_, e⟩
 rcases Nat.lt_or_eq_of_le z with z | rfl
 ·exact hK.1 (b K z)
 ·exact hK.1 (e ▸ List.mem_of_getElem? hj)
theorem Tb.put (T : Tb t hs) {h : Int} {K p j : Nat} (hK : Hole t h K) (ej : way t.mask h K = j) (ep : SetTable.below t.place j = p) :
 p ≤ hs.length ∧ Tb (t.put j).1 (hs.take p ++ h :: hs.drop p) ∧ (t.put j).1.fill = hs.length + 1 := by
 have hK1 := hK.1
 have hK2 := hK.2
 rw [ej] at hK1
 have cut := (below_cut T.ris j).1
 rw [ep] at cut
 have pl : p ≤ t.place.toList.length := by rw [Array.length_toList]; exact cut
 have ph : p ≤ hs.length := by rw [← T.sz]; exact cut
 have place : (t.put j).1.place.toList = t.place.toList.take p ++ j :: t.place.toList.drop p := by rw [put_place, ep]
 have many : (t.put j).1.place.size = hs.length + 1 := by
  rw [← Array.length_toList, place, len_ins _ pl, Array.length_toList, T.sz]
 have old : ∀ {x : Nat}, x ∈ t.place.toList → x ∈ (t.put j).1.place.toList := by
  intro x hx
  rw [place, mem_ins]
  exact .inr hx
 have new : t.place[SetTable.below t.place j]? ≠ some j := by
  intro e
  rw [← Array.getElem?_toList] at e
  exact hK1 (List.mem_of_getElem? e)
 refine ⟨ph, ⟨ris_insert T.ris new, put_dm T.dm j, by rw [len_ins _ ph]; exact many, T.mg, ?_⟩, ?_⟩
 ·intro i h' j' e1 e2
  show ∃ k, way t.mask h' k = j' ∧ _
  rw [tins_get hs ph] at e1
  rw [place, tins_get _ pl] at e2
  by_cases c : i = p
  ·subst c
   simp only [Nat.lt_irrefl, if_false, if_true, Option.some.injEq] at e1 e2
   subst e1 e2
   exact ⟨K, ej, fun c hc => old (hK2 c hc)⟩
  ·obtain ⟨i', f1, f2⟩ : ∃ i', hs[i']? = some h' ∧ t.place.toList[i']? = some j' := by
    by_cases d : i < p
    ·rw [if_pos d] at e1 e2
     exact ⟨i, e1, e2⟩
    ·rw [if_neg d, if_neg c] at e1 e2
     exact ⟨i - 1, e1, e2⟩
   obtain ⟨k, e, b⟩ := T.back i' h' j' f1 f2
   exact ⟨k, e, fun c hc => old (b c hc)⟩
 ·show (t.put j).1.place.size + (t.put j).1.dummies.size = _
  rw [many, put_dm T.dm j]
  rfl
end
theorem qeM {m : Nat} (hm : MG m) (owner : Array (Option Nat)) (h : Int) {j : Nat} (hj : j ≤ m) (hf : oAt owner j = none) :
 ∃ K, SetTable.layClean.free m owner (SetTable.turns m) (SetTable.bits h % (m + 1)) (SetTable.bits h) = some (way m h K) ∧ oAt owner (way m h K) = none ∧ ∀ c, c < K → oAt owner (way m h c) ≠ none := by
 obtain ⟨n, a, e⟩ := hm.run h hj
 have at_n : way m h (off m (SetTable.bits h % (m + 1)) (SetTable.bits h) n) = j := by
  dsimp only [way]
  rw [nth_off, itL_run]
  exact e
 obtain ⟨K, b, c, d⟩ := st_least (p := fun k => oAt owner (way m h k) = none) _ (show oAt owner (way m h (off m (SetTable.bits h % (m + 1)) (SetTable.bits h) n)) = none by rw [at_n]; exact hf)
 have busy : ∀ k, k < K → (oAt owner (way m h k)).isNone = false := by
  intro k hk
  cases z : oAt owner (way m h k) with
  | none => exact absurd z (d k hk)
  | some _ => rfl
 refine ⟨K, ?_, c, d⟩
 apply free_spec m owner _ n _ _ K _ b busy
 ·show (oAt owner (way m h K)).isNone = true
  rw [c]; rfl
 ·unfold SetTable.turns; omega
theorem qgm {m : Nat} (hm : MG m) {done : List Int} {owner : Array (Option Nat)} (W : Own m done owner) (hl : done.length ≤ m) (h : Int) :
 ∃ j, SetTable.layClean.free m owner (SetTable.turns m) (SetTable.bits h % (m + 1)) (SetTable.bits h) = some j ∧ Own m (done ++ [h]) (owner.setIfInBounds j (some done.length)) := by
 obtain ⟨ps, np, inp⟩ := W.ps
 obtain ⟨j0, a, b⟩ := st_missing ps (m + 1) (by omega)
 have fr : oAt owner j0 = none := Classical.byContradiction fun z => b (inp j0 (Nat.le_of_lt_succ a) z)
 obtain ⟨K, e, f, g⟩ := qeM hm owner h (Nat.le_of_lt_succ a) fr
 have top := qfa (m := m) h K
 generalize ej : way m h K = j at e f top
 have inb : j < owner.size := by rw [W.sz]; omega
 have at_j := oAt_set_self (some done.length) inb
 have at_i : ∀ {i : Nat}, i ≠ j → oAt (owner.setIfInBounds j (some done.length)) i = oAt owner i := fun n => oAt_set_ne _ n
 have stays : ∀ {i : Nat}, oAt owner i ≠ none → oAt (owner.setIfInBounds j (some done.length)) i ≠ none := by
  intro i z
  by_cases c : i = j
  ·subst c; exact absurd f z
  ·rw [at_i c]; exact z
 have tail : (done ++ [h])[done.length]? = some h := by simp
 refine ⟨j, e, ?_⟩
 constructor
 ·rw [Array.size_setIfInBounds]; exact W.sz
 ·intro i k hi z
  by_cases c : i = j
  ·subst c
   rw [at_j] at z
   cases z
   exact ⟨h, K, tail, ej, fun c hc => stays (g c hc)⟩
  ·rw [at_i c] at z
   obtain ⟨h', K', p1, p2, p3⟩ := W.at_ i k hi z
   have lt : k < done.length := (List.getElem?_eq_some_iff.mp p1).1
   exact ⟨h', K', by rw [List.getElem?_append_left lt]; exact p1, p2, fun c hc => stays (p3 c hc)⟩
 ·intro k hk
  rw [List.length_append, List.length_singleton] at hk
  by_cases c : k = done.length
  ·subst c; exact ⟨j, top, at_j⟩
  ·obtain ⟨i, p1, p2⟩ := W.all k (by omega)
   refine ⟨i, p1, ?_⟩
   rw [at_i (fun z => by rw [z, f] at p2; cases p2)]
   exact p2
 ·refine ⟨j :: ps, by simp [np], fun i hi z => ?_⟩
  by_cases c : i = j
  ·subst c; exact .head _
  ·rw [at_i c] at z
   exact .tail _ (inp i hi z)
theorem qgl {m : Nat} (hm : MG m) : ∀ (rest done : List Int) (owner : Array (Option Nat)), Own m done owner → done.length + rest.length ≤ m →
 ∃ o, rest.foldl (stepF m) (some (owner, done.length)) = some (o, (done ++ rest).length) ∧ Own m (done ++ rest) o := by
 intro rest
 induction rest with
 | nil => intro done owner W _; rw [List.append_nil]; exact ⟨owner, rfl, W⟩
 | cons h rest ih =>
   intro done owner W l
   rw [List.length_cons] at l
   obtain ⟨j, e, W'⟩ := qgm hm W (by omega) h
   obtain ⟨o, f, g⟩ := ih (done ++ [h]) _ W' (by simp; omega)
   have ea : done ++ [h] ++ rest = done ++ h :: rest := by simp
   rw [ea] at f g
   refine ⟨o, ?_, g⟩
   rw [List.foldl_cons, stepF_some e]
   simpa using f
theorem qgO {m : Nat} (hm : MG m) {hs : Array Int} (l : hs.size ≤ m) : ∃ o, SetTable.layClean m hs = some o ∧ Own m hs.toList o := by
 obtain ⟨o, f, g⟩ := qgl hm hs.toList [] _ (Own.init m) (by simpa using l)
 refine ⟨o, ?_, by simpa using g⟩
 rw [layClean_eq]
 have f' : hs.toList.foldl (stepF m) (some (Array.replicate (m + 1) none, 0)) = some (o, ([] ++ hs.toList).length) := f
 rw [f']
 rfl
theorem qcB (t : SetTable) {hs : Array Int} {wanted M : Nat} (hw : SetTable.sizeAbove wanted - 1 = M) (hM : MG M) (l : hs.size ≤ M) :
 ∃ t' order, t.relaid hs wanted = some (t', order) ∧ order.toList.Perm (List.range hs.size) ∧ Tb t' (order.toList.map fun i => hs.getD i 0) ∧ t'.mask = M ∧ t'.led = t.led := by
 obtain ⟨o, e, W⟩ := qgO hM l
 have mem : ∀ {j k : Nat}, (j, k) ∈ liveOf M o ↔ j ≤ M ∧ oAt o j = some k := mem_live W.sz
 have up : Ris (List.range (M + 1)) := by
  unfold Ris
  first | exact List.pairwise_lt_range | exact List.pairwise_lt_range _
 obtain ⟨r1, r2⟩ := ris_live (fun j => o.getD j none) (List.range (M + 1)) up
 have r1 : Ris ((liveOf M o).map (·.1)) := r1
 have nd : ((liveOf M o).map (·.1)).Nodup := List.Pairwise.imp (fun h => Nat.ne_of_lt h) r1
 have many : (liveOf M o).length = hs.size := by
  obtain ⟨ps, p1, p2⟩ := W.ps
  have le1 := nat_nodup_len _ ps nd (by
   intro x hx
   obtain ⟨⟨j, k⟩, hq, rfl⟩ := List.mem_map.mp hx
   obtain ⟨b1, b2⟩ := mem.mp hq
   exact p2 j b1 (by rw [b2]; simp))
  have le2 := nat_nodup_len (List.range hs.size) ((liveOf M o).map (·.2)) List.nodup_range (by
   intro k hk
   obtain ⟨j, b1, b2⟩ := W.all k (by simpa using hk)
   exact List.mem_map.mpr ⟨(j, k), mem.mpr ⟨b1, b2⟩, rfl⟩)
  simp only [List.length_map, List.length_range, Array.length_toList] at le1 le2 p1
  omega
 refine ⟨tabOf t M o, ((liveOf M o).map (·.2)).toArray, ?_, ?_, ⟨r1, rfl, ?_, hM, ?_⟩, rfl, rfl⟩
 ·rw [relaid_eq, hw, e]
  rfl
 ·refine perm_range hs.size _ ?_ fun k hk => ?_
  ·simpa using many
  ·obtain ⟨j, b1, b2⟩ := W.all k (by simpa using hk)
   exact List.mem_map.mpr ⟨(j, k), mem.mpr ⟨b1, b2⟩, rfl⟩
 ·show ((liveOf M o).map (·.1)).toArray.size = _
  simp
 ·intro i h j e1 e2
  have e1 : (((liveOf M o).map (·.2)).map fun i => hs.getD i 0)[i]? = some h := e1
  have e2 : ((liveOf M o).map (·.1))[i]? = some j := e2
  rw [List.getElem?_map] at e2
  rw [List.getElem?_map, List.getElem?_map] at e1
  obtain ⟨⟨j', k⟩, hq, rfl⟩ := Option.map_eq_some_iff.mp e2
  rw [hq] at e1
  have e1 : hs.getD k 0 = h := Option.some.inj e1
  obtain ⟨b1, b2⟩ := mem.mp (List.mem_of_getElem? hq)
  obtain ⟨h0, K, a1, a2, a3⟩ := W.at_ j' k b1 b2
  have e0 : hs.getD k 0 = h0 := by rw [Array.getD_eq_getD_getElem?, ← Array.getElem?_toList, a1]; rfl
  obtain rfl : h0 = h := e0.symm.trans e1
  refine ⟨K, a2, fun c hc => ?_⟩
  show way M h0 c ∈ (liveOf M o).map (·.1)
  obtain ⟨k2, z⟩ := Option.ne_none_iff_exists'.mp (a3 c hc)
  exact List.mem_map.mpr ⟨(way M h0 c, k2), mem.mpr ⟨qfa _ _, z⟩, rfl⟩
theorem qgT {m n : Nat} (hm : MG m) (hr : n * 5 < m * 3) (full : (n + 1) * 5 ≥ m * 3) (few : n + 1 < 4096) :
 ∃ M, SetTable.sizeAbove (SetTable.grown (n + 1)) - 1 = M ∧ MG M ∧ SetTable.sizeAbove (SetTable.grown (n + 1)) ≤ 8192 ∧ (n + 1) * 5 < M * 3 := by
 rcases hm with rfl | rfl | rfl | rfl | rfl | rfl
 ·obtain rfl : n = 4 := by omega
  have e : SetTable.sizeAbove (SetTable.grown 5) = 32 := by decide +kernel
  exact ⟨31, by rw [e], .inr (.inl rfl), by rw [e]; decide, by decide⟩
 ·obtain rfl : n = 18 := by omega
  have e : SetTable.sizeAbove (SetTable.grown 19) = 128 := by decide +kernel
  exact ⟨127, by rw [e], .inr (.inr (.inl rfl)), by rw [e]; decide, by decide⟩
 ·obtain rfl : n = 76 := by omega
  have e : SetTable.sizeAbove (SetTable.grown 77) = 512 := by decide +kernel
  exact ⟨511, by rw [e], .inr (.inr (.inr (.inl rfl))), by rw [e]; decide, by decide⟩
 ·obtain rfl : n = 306 := by omega
  have e : SetTable.sizeAbove (SetTable.grown 307) = 2048 := by decide +kernel
  exact ⟨2047, by rw [e], .inr (.inr (.inr (.inr (.inl rfl)))), by rw [e]; decide, by decide⟩
 ·obtain rfl : n = 1228 := by omega
  have e : SetTable.sizeAbove (SetTable.grown 1229) = 8192 := by decide +kernel
  exact ⟨8191, by rw [e], .inr (.inr (.inr (.inr (.inr rfl)))), by rw [e]; decide, by decide⟩
 ·omega
end BT
namespace BT
open PySem PySem.Spec PyProof.Rows L2
structure Mild {P : Program} {w : World} {κ : Type} [DecidableEq κ] (HK : HeapKind P w κ) (byv : κ → Bool) : Prop where
 stay : ∀ {h h' : Heap} {k : κ} {a : Addr}, (∀ b o vs n, h.get? b = some o → o.data = .seq vs n → h'.get? b = some o) → HK.is h k a → HK.is h' k a
 rm : ∀ {A : Around}, A.units < cLine → HK.room A
 cls : ∀ {A : Around} {E : Value → Shared → Prop} {s : Shared} {k : κ} {b : Addr} {Q : Bool → Shared → Prop}, HK.is s.heap k b → Q false s → wpAny (model P w) A (ofAClassStatement 8 (.ref b)) Q E s
 val : ∀ {A : Around} {E : Value → Shared → Prop} {s : Shared} {k : κ} {b : Addr} {Q : Bool → Shared → Prop}, HK.is s.heap k b → Q (byv k) s → wpAny (model P w) A (hashByValue 8 (.ref b)) Q E s
section
variable {P : Program} {w : World} {κ : Type} [DecidableEq κ] {HK : HeapKind P w κ} {byv : κ → Bool}
def vA (HK : HeapKind P w κ) (L : List (Addr × κ)) : List (Int × Value) := L.map fun p => (HK.hash p.2, Value.ref p.1)
def hsh (HK : HeapKind P w κ) (L : List (Addr × κ)) : List Int := L.map fun p => HK.hash p.2
structure StG (HK : HeapKind P w κ) (h : Heap) (a : Addr) (L : List (Addr × κ)) (es : Array (Int × Value)) (ep : Nat) (t : SetTable) : Prop where
 ob : ∃ o, h.get? a = some o ∧ o.ExactSet ∧ o.data = .set es ep t
 row : es.toList = vA HK L
 tab : Tb t (hsh HK L)
 nd : (L.map (·.2)).Nodup
 mem : ∀ p ∈ L, HK.is h p.2 p.1
 led : w.params.followText "set-order" = true ∨ t.led = true
 room : L.length * 5 < t.mask * 3
 few : L.length < 4096
variable {A : Around} {E : Value → Shared → Prop} {s : Shared} {a : Addr} {L : List (Addr × κ)} {es : Array (Int × Value)} {ep : Nat} {t : SetTable}
theorem uf : (hsh HK L).length = L.length := List.length_map _
theorem jr (h : es.toList = vA HK L) : es.size = L.length := by
 have := congrArg List.length h
 unfold vA at this
 simpa using this
theorem StG.fits (R : StG HK s.heap a L es ep t) : t.fits es.size = true := by
 have a := R.tab.sz
 have b := jr R.row
 have c := R.room
 rw [uf] at a
 unfold SetTable.fits SetTable.fill
 rw [R.tab.dm, Bool.and_eq_true, beq_iff_eq, decide_eq_true_eq]
 refine ⟨by omega, ?_⟩
 show t.place.size + 0 ≤ t.mask
 omega
theorem StG.at_ (R : StG HK s.heap a L es ep t) {i : Nat} {p : Addr × κ} (h : L[i]? = some p) : es[i]? = some (HK.hash p.2, Value.ref p.1) := by
 have e : es.toList[i]? = _ := congrArg (·[i]?) R.row
 rw [Array.getElem?_toList] at e
 rw [e]
 unfold vA
 simp [h]
theorem StG.whole (R : StG HK s.heap a L es ep t) : ¬ t.gaveWay = true := by
 unfold SetTable.gaveWay
 rw [R.tab.mg.odd]
 decide
end
end BT
namespace BT
open PySem PySem.Spec PyProof.Rows L2
section
variable {P : Program} {w : World} {κ : Type} [DecidableEq κ] {HK : HeapKind P w κ} {byv : κ → Bool}
variable {A : Around} {E : Value → Shared → Prop} {s : Shared} {a : Addr} {L : List (Addr × κ)} {es : Array (Int × Value)} {ep : Nat} {t : SetTable}
theorem Mild.but (M : Mild HK byv) {h h' : Heap} {k : κ} {b : Addr} {o : Obj} (x : HK.is h k b) (ho : h.get? a = some o) (hd : o.data = .set es ep t) (hs : Heap.SameBut a h h') : HK.is h' k b := by
 refine M.stay (fun c oc vs n e d => ?_) x
 rw [hs.2 c (fun z => ?_)]
 ·exact e
 ·subst z
  rw [ho] at e
  cases e
  rw [hd] at d
  cases d
theorem Mild.grow (M : Mild HK byv) {h h' : Heap} {k : κ} {b : Addr} (x : HK.is h k b) (kp : ∀ c o, h.get? c = some o → h'.get? c = some o) : HK.is h' k b := M.stay (fun c o _ _ e _ => kp c o e) x
end
end BT
namespace BT
open PySem PySem.Spec PyProof.Rows L2
section
variable {P : Program} {w : World} {κ : Type} [DecidableEq κ] {HK : HeapKind P w κ} {byv : κ → Bool}
variable {A : Around} {E : Value → Shared → Prop} {s : Shared}
structure Upto (ks : List (Addr × κ)) (i : Nat) (L : List (Addr × κ)) : Prop where
 sub : ∀ p ∈ L, p ∈ ks
 all : ∀ (j : Nat) p, j < i → ks[j]? = some p → p.2 ∈ L.map (·.2)
 nd : (L.map (·.2)).Nodup
 len : L.length ≤ i
theorem Upto.step {ks L L' : List (Addr × κ)} {i : Nat} {x : Addr × κ} (g : Upto ks i L) (h : ks[i]? = some x) (nd : (L'.map (·.2)).Nodup) (c1 : x.2 ∈ L.map (·.2) → L' = L) (c2 : x.2 ∉ L.map (·.2) → L'.Perm (x :: L)) : Upto ks (i + 1) L' := by
 by_cases m : x.2 ∈ L.map (·.2)
 ·obtain rfl := c1 m
  refine ⟨g.sub, fun j p hj e => ?_, nd, Nat.le_succ_of_le g.len⟩
  rcases Nat.lt_or_eq_of_le (Nat.le_of_lt_succ hj) with z | rfl
  ·exact g.all j p z e
  ·rw [h] at e; cases e; exact m
 ·have pm := c2 m
  refine ⟨fun p hp => ?_, fun j p hj e => ?_, nd, ?_⟩
  ·rcases List.mem_cons.mp (pm.mem_iff.mp hp) with rfl | z
   ·exact List.mem_of_getElem? h
   ·exact g.sub p z
  ·rw [(pm.map (·.2)).mem_iff, List.map_cons]
   rcases Nat.lt_or_eq_of_le (Nat.le_of_lt_succ hj) with z | rfl
   ·exact .tail _ (g.all j p z e)
   ·rw [h] at e; cases e; exact .head _
  ·rw [pm.length_eq]; exact Nat.succ_le_succ g.len
abbrev Z0 (w : World) : SetTable := .fresh 0 0 (!w.params.followText "set-order")
abbrev uU (w : World) : Obj := { cls := .type "set", dict := none, data := .set #[] 0 (Z0 w) }
theorem StG.empty {h : Heap} {a : Addr} (ho : h.get? a = some (uU w)) : StG HK h a [] #[] 0 (Z0 w) := by
 have tb : Tb (Z0 w) (hsh HK ([] : List (Addr × κ))) := ⟨List.Pairwise.nil, rfl, rfl, .inl rfl, fun i h j e => nomatch (show ([] : List Int)[i]? = some h from e)⟩
 refine ⟨⟨_, ho, ⟨rfl, rfl, rfl⟩, rfl⟩, rfl, tb, List.nodup_nil, (fun p hp => nomatch hp), ?_, by show 0 * 5 < 7 * 3; decide, by show 0 < 4096; decide⟩
 show (w.params.followText "set-order" = true ∨ (!w.params.followText "set-order") = true)
 cases w.params.followText "set-order" with
 | true => exact .inl rfl
 | false => exact .inr rfl
theorem StG.keep (M : Mild HK byv) {h h' : Heap} {a : Addr} {L : List (Addr × κ)} {es : Array (Int × Value)} {ep : Nat} {t : SetTable} (R : StG HK h a L es ep t) (ha : ∀ o, h.get? a = some o → h'.get? a = some o) (hm : ∀ p ∈ L, HK.is h' p.2 p.1) : StG HK h' a L es ep t := by
 obtain ⟨o, ho, r⟩ := R.ob
 exact { R with ob := ⟨o, ha o ho, r⟩, mem := hm }
set_option maxRecDepth 100000 in
set_option maxHeartbeats 3200000 in
end
end BT
namespace BT
open PySem PySem.Spec PyProof.Rows L2
end BT
namespace BX
open PySem PySem.Spec PyProof.Rows L2 BT
def dd {α : Type} [DecidableEq α] : List α → List α
 | [] => []
 | x :: xs => if x ∈ dd xs then dd xs else x :: dd xs
section
variable {α : Type} [DecidableEq α]
theorem YQ {x : α} : ∀ {l : List α}, x ∈ dd l ↔ x ∈ l
 | [] => .rfl
 | y :: l => by
   rw [dd]
   split
   ·rename_i h
    rw [YQ, List.mem_cons]
    exact ⟨.inr, fun z => z.elim (fun e => e ▸ YQ.mp h) id⟩
   ·rw [List.mem_cons, List.mem_cons, YQ]
theorem XH : ∀ l : List α, (dd l).Nodup
 | [] => List.nodup_nil
 | y :: l => by
   rw [dd]
   split
   ·exact XH l
   ·rename_i h
    exact List.nodup_cons.mpr ⟨h, XH l⟩
theorem qg6 {l m : List α} (n : m.Nodup) (h : ∀ x, x ∈ m ↔ x ∈ l) : m.Perm (dd l) := (List.perm_ext_iff_of_nodup n (XH l)).mpr fun x => by rw [h, YQ]
theorem qfH : ∀ l : List α, (dd l).length ≤ l.length
 | [] => Nat.le_refl _
 | y :: l => by
   have := qfH l
   rw [dd]
   split
   ·rw [List.length_cons]; omega
   ·rw [List.length_cons, List.length_cons]; omega
theorem qbJ {l : List α} : (dd l).length = l.length ↔ l.Nodup := by
 induction l with
 | nil => simp [dd]
 | cons y l ih =>
   rw [dd, List.nodup_cons, ← ih]
   have := qfH l
   split
   ·rename_i h
    rw [List.length_cons]
    constructor
    ·intro z; omega
    ·intro z; exact absurd (YQ.mp h) z.1
   ·rename_i h
    rw [List.length_cons, List.length_cons]
    constructor
    ·intro z; exact ⟨fun q => h (YQ.mpr q), by omega⟩
    ·intro z; omega
end
end BX
namespace BX
open PySem PySem.Spec PyProof.Rows L2 BT
end BX
namespace BX
open PySem PySem.Spec PyProof.Rows L2
structure Sw (n k : Nat) (d : D) : Prop where
 nd : d.ndc = true
 sh : d.pd.showable = true
 dp : d.pd.depth ≤ k
 lv : d.pd.leavesShort 13 = true
 bk : d.pd.bulk ≤ n
 ok : ∀ c ∈ d.pd.shown.cps.toList, c < 1114112
theorem Sw.up {n k n' k' : Nat} {d : D} (h : Sw n k d) (a : n ≤ n') (b : k ≤ k') : Sw n' k' d := ⟨h.nd, h.sh, Nat.le_trans h.dp b, h.lv, Nat.le_trans h.bk a, h.ok⟩
theorem qcL : ∀ ds : List D, (pdL ds).length = ds.length
 | [] => by rw [pdL]; rfl
 | d :: ds => by rw [pdL, List.length_cons, List.length_cons, qcL ds]
theorem Sw.go {n k : Nat} {d : D} (h : Sw n k d) (hn : n ≤ 1000000) (hk : k ≤ 90) : ShOk d ∧ PyData.strOk (strD d) = true := by
 refine ⟨⟨h.nd, h.sh, Nat.le_trans h.dp hk, ?_⟩, ?_⟩
 ·have a := PyData.shown_le_bulk 13 (by decide) d.pd h.lv
  have b := h.bk
  rw [sizeLine_eq]
  omega
 ·unfold PyData.strOk strD
  rw [← Array.all_toList, List.all_eq_true]
  intro c hc
  exact decide_eq_true (h.ok c hc)
end BX
namespace TX
open PySem PySem.Spec PyProof.Rows L2 BX
section
variable {α : Type} [DecidableEq α] {f : α → D} {l : List α} {e : En} {r : R} {Q : R → En → Prop}
class Inj {α : Type} (tl : α → List Int) : Prop where
 inj : ∀ a b, tl a = tl b → a = b
instance : Inj tl2 := ⟨fun a b h => by simp only [tl2, List.cons.injEq, and_true] at h; exact Prod.ext h.1 h.2⟩
instance : Inj tl3 := ⟨fun a b h => by simp only [tl3, List.cons.injEq, and_true] at h; exact Prod.ext h.1 (Prod.ext h.2.1 h.2.2)⟩
instance : Inj tl4 := ⟨fun a b h => by simp only [tl4, List.cons.injEq, and_true] at h; exact Prod.ext h.1 (Prod.ext h.2.1 (Prod.ext h.2.2.1 h.2.2.2))⟩
end
end TX
namespace BC
open PySem PySem.Spec PyProof.Rows L2 BX TX COM
theorem qeR {κ α : Type} [DecidableEq κ] {l : List κ} {v : α} {c : κ} : hasA (xg [] (l.map fun b => (b, v))) c = memB c l := by
 unfold memB
 exact BC.has_dict
end BC
namespace BX
open PySem PySem.Spec PyProof.Rows L2 RT L2.DX
end BX
namespace BX
open PySem PySem.Spec PyProof.Rows L2 RT L2.DX
end BX
namespace TX
open PySem PySem.Spec PyProof.Rows L2 BX
end TX
namespace BX
open PySem PySem.Spec PyProof.Rows L2
def GR (K : PySem.W.Frag) (d : D) (u : Value) : Prop := ∃ v : V, RelV v u ∧ ∀ H, Rep K H 2 d v []
def GRs (K : PySem.W.Frag) (ds : List D) (us : List Value) : Prop := ∃ vs : List V, Vals vs us ∧ ∀ H, Reps K H 2 ds vs []
theorem WK {K : PySem.W.Frag} (i : Int) (t : Tok) : GR K (.int i) (.int i t) := ⟨.int i, ⟨_, rfl⟩, fun _ => .int i⟩
theorem ZX {K : PySem.W.Frag} : GRs K [] [] := ⟨[], .nil, fun _ => .nil⟩
theorem xq {K : PySem.W.Frag} {d : D} {u : Value} {ds : List D} {us : List Value} (h : GR K d u) (t : GRs K ds us) : GRs K (d :: ds) (u :: us) := by
 obtain ⟨v, r, p⟩ := h
 obtain ⟨vs, rs, ps⟩ := t
 exact ⟨v :: vs, .cons r rs, fun H => .cons (f := []) (g := []) (p H) (ps H) fun z => by cases z⟩
theorem JV {K : PySem.W.Frag} {a : Addr} {o : Obj} {its : Array Value} {n : Nat} {ds : List D} (l : K.lookup a = some o) (c : o.cls = .type "tuple") (e : o.data = .seq its n) (z : its.size ≤ sizeLine) (t : GRs K ds its.toList) : GR K (.tup ds) (.ref a) := by
 obtain ⟨vs, rs, ps⟩ := t
 exact ⟨.ref a, rfl, fun H => .tupK (Nat.le_refl _) ⟨o, its, n, l, c, e, z, rs⟩ (ps H)⟩
def Gv (K : PySem.W.Frag) (mg : Str → Option Value) (x : Str) (d : D) : Prop := ∃ u, mg x = some u ∧ GR K d u
theorem qdF {X : Cx} {x : Str} {pos : Pos} {d : D} (hg : Gl X x) (h : Gv X.K X.mg x d) (hd : (x == ("__debug__" : Str)) = false := by decide) : DE X (.Name x pos) (dG d) := by
 obtain ⟨u, hm, v, rv, rp⟩ := h
 refine ⟨PE.imp (pe_glob hg hm rv hd) fun σ H Q q => ?_, fun env Q Q' h q => h _ _ q⟩
 obtain ⟨env, f, A, q⟩ := q
 have rp := rp H
 show Q v H
 have q : qdW X.K σ H env f Q (mkRo true d) env := q
 cases d with
 | non => exact q v H f _ A (.tmp rp.non0 qC) .refl .refl
 | bl b => exact q v H f _ A (.tmp rp.bl0 qC) .refl .refl
 | int b => exact q v H f _ A (.tmp rp.int0 qC) .refl .refl
 | str b => exact q v H f _ A (.tmp rp.str0 qC) .refl .refl
 | tup ds => exact q v H f _ A (.ro rp qC) .refl .refl
 | lst ds => exact q v H f _ A (.ro rp qC) .refl .refl
 | dT ds => exact q v H f _ A (.ro rp qC) .refl .refl
 | dK ds => exact q v H f _ A (.ro rp qC) .refl .refl
 | dF ds => exact q v H f _ A (.ro rp qC) .refl .refl
 | lF ds => exact q v H f _ A (.ro rp qC) .refl .refl
 | ob n fs => exact q v H f _ A (.ro rp qC) .refl .refl
 | ex n fs => exact q v H f _ A (.ro rp qC) .refl .refl
 | dN kvs => exact q v H f _ A (.ro rp qC) .refl .refl
 | op x => exact q v H f _ A (.ro rp qC) .refl .refl
end BX
namespace BX
open PySem PySem.Spec PyProof.Rows L2 RT
end BX
namespace BX
open PySem PySem.Spec PyProof.Rows L2 RT PySem.W
end BX
namespace TX
open PySem PySem.Spec PyProof.Rows L2 BX
theorem c_GV {α : Type} {f : α → D} {xs : List α} {e : En} {Q : R → En → Prop} (q : aR Q (.ro true (eV f xs)) e) : dG (eV f xs) e Q := q
end TX
namespace BX
open PySem TX
def qhs : List (Int × Int) := [(1, 0), (0, 1), (-1, 0), (0, -1)]
abbrev X6 : D := eV (eT2 D.int D.int) qhs
end BX
namespace BX
open PySem PySem.Spec PyProof.Rows L2
def dTmp (t : XE) : XE := fun env Q => t env fun r e => rd 1 r e fun d => d.imm = true ∧ Q (.tmp d) e
section
variable {X : Cx} {e : Expr} {t : XE}
theorem qdE (h : DE X e t) : DE X e (dTmp t) := by
 refine ⟨PE.imp h.run fun σ H Q q => ?_, fun env Q Q' k q => h.mono _ _ _ (fun r e q => qZ (fun d q => ⟨q.1, k _ _ q.2⟩) q) q⟩
 obtain ⟨env, f, A, q⟩ := q
 refine ⟨env, f, A, h.mono _ _ _ (fun r e1 q1 => ?_) q⟩
 intro v H' f' g A' R S Kk
 obtain ⟨d, g', rp, im, q2⟩ := xf A' R q1
 exact q2 v H' f' [] A' (.tmp (rp.imm (Nat.le_refl _) im).2 qC) (S.drop qC) Kk
end
end BX
namespace TX
open PySem PySem.Spec PyProof.Rows L2 BX
section
variable {e : En} {Q : R → En → Prop} {kI : List D → Option Bool → Lok → En → Prop}
theorem qhk {t : XE} (q : t e fun r e => rd 1 r e fun d => d.imm = true ∧ aR Q (.tmp d) e) : dTmp t e Q := q
theorem qgt {r : R} {d : D} (hr : Rv e 1 r d) (hi : d.imm = true) (q : aR Q (.tmp d) e) : rd 1 r e fun d => d.imm = true ∧ aR Q (.tmp d) e := hr.rd ⟨hi, q⟩
end
end TX
namespace BX
open PySem PySem.Spec PyProof.Rows L2 RT PySem.W
structure SortDs (xs : List D) : Prop where
 imm : immL xs = true
 alike : AllAlike (xs.map D.py)
 kinds : Sortable (xs.map D.py)
 lay : ∀ d ∈ xs, d.py.canLay0 = true ∧ d.py.depth ≤ 40
def Zx (xs : List D) : List D := xs.mergeSort (dataLe false D.py)
def YX (d : D) (k : D → Prop) : Prop := match d with
 | .lst xs => SortDs xs ∧ k (.lst (Zx xs))
 | _ => False
def StF (K : PySem.W.Frag) (H : Hp) (v : Value) (d : D) : Prop := ∃ x : V, RelV x v ∧ Rep K H 0 d x []
theorem qad {K : PySem.W.Frag} {H : Hp} {lv : Nat} (hl : lv ≤ 1) : ∀ {ds : List D} {xs : List V} {f : List Addr} {vs : List Value}, Reps K H lv ds xs f → immL ds = true → Vals xs vs → EachIs (StF K H) vs ds
 | _, _, _, _, .nil, _, .nil => .nil
 | d :: ds, _, _, _, .cons r t _, hi, .cons v vs => by
   rw [immL, Bool.and_eq_true] at hi
   exact .cons ⟨_, v, (r.imm hl hi.1).2⟩ (qad hl t hi.2 vs)
theorem Z3 {K : PySem.W.Frag} {H H' : Hp} (k : ∀ d x, Rep K H 0 d x [] → Rep K H' 0 d x []) : ∀ {ds : List D} {vs : List Value}, EachIs (StF K H) vs ds → ∃ xs : List V, Vals xs vs ∧ Reps K H' 0 ds xs []
 | _, _, .nil => ⟨[], .nil, .nil⟩
 | _, _, .cons ⟨x, r, p⟩ t => by
   obtain ⟨xs, rs, ps⟩ := Z3 k t
   exact ⟨x :: xs, .cons r rs, .cons (f := []) (g := []) (k _ _ p) ps fun _ _ z => by simp at z⟩
section
variable {X : Cx}
theorem jw {α β : Type} {R R' : α → β → Prop} : ∀ {as : List α} {bs : List β}, EachIs R as bs → (∀ a b, b ∈ bs → R a b → R' a b) → EachIs R' as bs
 | _, _, .nil, _ => .nil
 | _, _, .cons h t, k => .cons (k _ _ (List.mem_cons_self ..) h) (jw t fun a b hb => k a b (List.mem_cons_of_mem _ hb))
theorem XD {α β : Type} {R : α → β → Prop} : ∀ {as : List α} {bs : List β}, EachIs R as bs → as.length = bs.length
 | _, _, .nil => rfl
 | _, _, .cons _ t => congrArg (· + 1) (XD t)
theorem qe0 (hx : Ok X) : CallD X (.builtin "sorted") 1 (op1 YX) := QZ (by decide) (fun pins s σ H x us Q d g I rs r q => by
 obtain ⟨u, rfl, rx⟩ := vals1 rs
 unfold YX at q
 split at q
 ·rename_i xs
  obtain ⟨ok, q⟩ := q
  obtain ⟨a, vs, g', rfl, ha, ra, _⟩ := r.listAt1 (Nat.le_refl _)
  cases rx
  obtain ⟨its, rv, pl, hz⟩ := I.list (.inl (.inl ha) : SqL X.K H a vs)
  have e := qad (Nat.le_refl _) ra ok.imm rv
  have er : EachIs (fun v b => ∃ as, Reads s.heap v (D.py b) as) its xs := jw e fun v b hb ⟨y, rl, rp⟩ => Dp.reads I _ y v (rp.dp (ok.lay b hb).1) rl
  have hL : xs.length ≤ sizeLine := by rw [← XD e, ← rv.length]; exact hz
  refine sorted_data pl.isList e er ok.alike ok.kinds hL (fun b hb => ?_) fun out hl eo => ?_
  ·have h1 := (ok.lay b hb).2
   have := hx.un
   omega
  ·have k1 : ∀ b o, s.heap.get? b = some o → (sortedAll s.heap its (List.toArray out)).get? b = some o := fun b o e => PyProof.Rows.sortedAll_old e
   obtain ⟨n, hn⟩ := PyProof.Rows.sortedAll_at s.heap its (List.toArray out)
   have hf : H (s.heap.objs.size + 1) = none := I.hok.fresh (Nat.le_succ _)
   obtain ⟨ys, ry, rp⟩ := Z3 (fun d x r => r) eo
   refine ⟨.ref (s.heap.objs.size + 1), upd H (s.heap.objs.size + 1) (.lst ys), I.laid (t' := s.toks) k1 (Nat.le_succ _) ?_, rfl, q _ _ _ (vf hf rp) (Ext.upd hf)⟩
   exact ⟨by rw [ry.length, hl]; exact hL, out, n, ry, hn⟩
 ·exact q.elim) (fun d k k' h q => by
 unfold YX at q ⊢
 split at q
 ·exact ⟨q.1, h _ q.2⟩
 ·exact q.elim)
end
end BX
namespace BT
open PySem PySem.Spec PyProof.Rows L2
end BT
namespace BX
open PySem PySem.Spec PyProof.Rows L2 RT BT
end BX
namespace BX
open PySem PySem.Spec PyProof.Rows L2 RT
end BX
namespace TX
open PySem PySem.Spec PyProof.Rows L2 BX
end TX
namespace BX
open PySem PySem.Spec PyProof.Rows L2 RT
def rdC (r : R) (k : D → Prop) : Prop := match r with
 | .ro _ d => k d
 | .tmp d => d.imm = true ∧ k d
 | .sl _ => False
end BX
namespace TX
open PySem PySem.Spec PyProof.Rows L2 BX
section
variable {e e' : En} {Q : R → En → Prop} {i : Nat} {r r1 r2 r' : R} {nx : En → Prop} {rt : D → En → Prop}
inductive Rc : R → D → Prop
 | ro {c : Bool} {d : D} : Rc (.ro c d) d
 | tmp {d : D} : d.imm = true → Rc (.tmp d) d
theorem Rc.go {d : D} (h : Rc r d) {k : D → Prop} (q : k d) : rdC r k := by
 cases h with
 | ro => exact q
 | tmp im => exact ⟨im, q⟩
end
end TX
namespace BX
open PySem PySem.Spec PyProof.Rows L2 RT
end BX
namespace TX
open PySem PySem.Spec PyProof.Rows L2 BX
end TX
namespace BX
open PySem PySem.Spec PyProof.Rows L2
end BX
namespace BX
open PySem PySem.Spec PyProof.Rows L2
end BX
namespace TX
open PySem PySem.Spec PyProof.Rows L2 BX
end TX
namespace BX
open PySem TX
end BX
namespace BX
open PySem PySem.Spec PyProof.Rows L2
def dFz (t : XE) : XE := fun env Q => t env fun r e => match r with
 | .tmp (.lst xs) => immL xs = true ∧ Q (.tmp (.lF xs)) e
 | _ => False
section
variable {K : PySem.W.Frag} {σ : L2.St} {H H1 : Hp} {env e1 : En} {f f1 : FA}
theorem qiU {xs : List D} {v : V} {g : List Addr} (A : Abs K σ H1 e1 f1) (R : ResOk K σ H1 e1 f1 (.tmp (.lst xs)) v g) (S : Stp H env f [] H1 e1 f1 g) (im : immL xs = true) :
 ∃ a vs, v = .ref a ∧ H1 a = some (.lst vs) ∧ ∀ od, Abs K σ (L2.upd H1 a (.frz od (.lst vs))) e1 f1 ∧ ResOk K σ (L2.upd H1 a (.frz od (.lst vs))) e1 f1 (.tmp (.lF xs)) v [] ∧ Stp H env f [] (L2.upd H1 a (.frz od (.lst vs))) e1 f1 [] := by
 cases R with
 | tmp rp n =>
   obtain ⟨a, vs, g', rfl, ha, rr, rfl, _⟩ := rp.listAt
   obtain ⟨rfl, r0⟩ := rr.imm (Nat.zero_le _) im
   have na := n a (List.mem_cons_self ..)
   have tk : ∀ (od : Obj) (b : Addr) (o : HO), b ≠ a → H1 b = some o → L2.upd H1 a (.frz od (.lst vs)) b = some o := fun od b o hb h => by rw [upd_ne hb]; exact h
   have mu : ∀ {b : Addr} {o : HO}, H1 b = some o → Mu o = false → b ≠ a := fun {b o} hb z y => by rw [y, ha] at hb; cases hb; cases z
   refine ⟨a, vs, rfl, ha, fun od => ⟨⟨fun i d m e => ?_, A.dis, A.len⟩, .tmp (.lF upd_same (r0.keep fun b o h z => ?_)) qC, ⟨fun b o h z => ?_, fun b z => ?_⟩⟩⟩
   ·obtain ⟨w, hw, r⟩ := A.rep i d m e
    refine ⟨w, hw, r.keep fun b o hb z => tk od b o ?_ hb⟩
    rcases z with z | z
    ·intro y
     subst y
     by_cases hl : m.lv = 0
     ·exact na.1 ⟨i, d, m, e, hl, z⟩
     ·exact na.2 ⟨i, d, m, e, hl, z⟩
    ·exact mu hb z
   ·rcases z with z | z
    ·simp at z
    ·exact tk od b o (mu h z) h
   ·have h1 := S.same b o h (z.imp_right fun y => ⟨y.1, by simp⟩)
    refine tk od b o (fun y => ?_) h1
    rcases z with z | z
    ·exact mu h1 z y
    ·rcases S.own b (.inr (by rw [y]; exact List.mem_cons_self ..)) with q | q | q
     ·exact z.1 q
     ·simp at q
     ·rw [h] at q; cases q
   ·rcases z with z | z
    ·exact S.own b (.inl z)
    ·simp at z
end
section
variable {X : Cx} {e : Expr} {t : XE}
theorem qg5 (ha : DE X e t) : DE X e (dFz t) := by
 refine ⟨⟨fun pins s σ H Q I q => ?_⟩, fun env Q Q' h q => ha.mono _ _ _ (fun r e q => ?_) q⟩
 ·obtain ⟨env, f, A, q⟩ := q
  have go := ha.run.run pins s σ H (fun v H1 => ∃ a vs, v = .ref a ∧ H1 a = some (.lst vs) ∧ ∀ od, Q v (L2.upd H1 a (.frz od (.lst vs)))) I ⟨env, f, A, ha.mono _ _ _ (fun r e1 q => ?_) q⟩
  ·refine thn go fun u s1 ⟨x, H1, I1, rx, a, vs, ex, h1, q⟩ => ?_
   obtain ⟨od, I2⟩ := I1.lock h1 trivial
   exact ⟨x, _, I2, rx, q od⟩
  ·intro v H1 f1 g A1 R1 S1 K1
   cases r with
   | tmp d =>
     cases d with
     | lst xs =>
       obtain ⟨im, q⟩ := q
       obtain ⟨a, vs, rfl, ha, k⟩ := qiU A1 R1 S1 im
       refine ⟨a, vs, rfl, ha, fun od => ?_⟩
       obtain ⟨A2, R2, S2⟩ := k od
       exact q _ _ f1 [] A2 R2 S2 K1
     | _ => exact q.elim
   | _ => exact q.elim
 ·cases r with
  | tmp d =>
    cases d with
    | lst xs => exact ⟨q.1, h _ _ q.2⟩
    | _ => exact q.elim
  | _ => exact q.elim
end
end BX
namespace BX
open PySem PySem.Spec PyProof.Rows L2
def strJ : D → Str
 | .non => "None"
 | .bl b => if b then "True" else "False"
 | .int i => toString i
 | .str a => a
 | d => strD d
def ShJ : D → Prop
 | .non => True
 | .bl _ => True
 | .int i => i.natAbs.log2 < 1920
 | .str _ => True
 | .tup xs => ShOk (.tup xs)
 | .lF xs => ShOk (.lF xs)
 | _ => False
end BX
namespace TX
open PySem PySem.Spec PyProof.Rows L2 BX
abbrev J := {d : D // d.imm = true}
abbrev eJ (d : J) : D := d.1
instance : Im eJ := ⟨fun d => d.2⟩
def toJ {α : Type} (f : α → D) [Im f] (a : α) : J := ⟨f a, Im.im a⟩
abbrev eF {α : Type} (f : α → D) (l : List α) : D := .lF (l.map f)
instance {α : Type} {f : α → D} [hf : Im f] : Im (eF f) := ⟨fun l => by rw [eF, D.imm]; exact imL l⟩
abbrev eX {α : Type} (f : α → D) (p : Bool × List α) : D := match p.1 with
 | true => eV f p.2
 | false => eF f p.2
instance {α : Type} {f : α → D} [hf : Im f] : Im (eX f) := ⟨fun p => by
 obtain ⟨b, l⟩ := p
 cases b
 ·exact Im.im (f := eF f) l
 ·exact Im.im (f := eV f) l⟩
section
variable {e e1 e' : En} {L : Nat} {r r1 r2 : R} {d d' d1 d2 : D} {Q : R → En → Prop} {α β : Type}
theorem c_fz {t : XE} (q : t e fun r e => match r with
 | .tmp (.lst xs) => immL xs = true ∧ aR Q (.tmp (.lF xs)) e
 | _ => False) : dFz t e Q := q
theorem o_fz {f : α → D} [Im f] {l : List α} (q : aR Q (.tmp (eF f l)) e) : aR (fun r e => match r with
 | .tmp (.lst xs) => immL xs = true ∧ aR Q (.tmp (.lF xs)) e
 | _ => False) (.tmp (eL f l)) e := ⟨imL l, q⟩
variable {kI : List D → Option Bool → Lok → En → Prop}
theorem WY {f : α → D} {g : β → D} : ∀ (l : List α) (m : List β), zipL (l.map f) (m.map g) = (l.zip m).map (eT2 f g)
 | [], _ => rfl
 | _ :: _, [] => rfl
 | a :: l, b :: m => by
   show D.tup [f a, g b] :: zipL (l.map f) (m.map g) = _
   rw [WY l m]; rfl
theorem qhi {t u : XE} (q : t e fun r1 e1 => u e1 fun r2 e2 => rd 2 r1 e2 fun d1 => rd 2 r2 e2 fun d2 => zipS r1 r2 d1 d2 e2 kI) : V7 t u e kI := q
theorem qio {f : α → D} {g : β → D} {l : List α} {m : List β} {c c' : Bool} (h1 : Rv e 2 r1 (eV f l)) (h2 : Rv e 2 r2 (eV g m)) (z1 : zc r1 = some c) (z2 : zc r2 = some c') (q : aI kI ((l.zip m).map (eT2 f g)) (some (c || c')) none e) : rd 2 r1 e fun d1 => rd 2 r2 e fun d2 => zipS r1 r2 d1 d2 e kI :=
 h1.rd (h2.rd (by
  unfold zipS eV
  simp only [z1, z2]
  rw [WY]
  exact q))
theorem qfo {f : α → D} {g : β → D} {l : List α} {m : List β} {c c' : Bool} (h1 : Rv e 2 r1 (eL f l)) (h2 : Rv e 2 r2 (eL g m)) (z1 : zc r1 = some c) (z2 : zc r2 = some c') (q : aI kI ((l.zip m).map (eT2 f g)) (some (c || c')) none e) : rd 2 r1 e fun d1 => rd 2 r2 e fun d2 => zipS r1 r2 d1 d2 e kI :=
 h1.rd (h2.rd (by
  unfold zipS eL
  simp only [z1, z2]
  rw [WY]
  exact q))
end
end TX
namespace BX
open PySem PySem.Spec PyProof.Rows L2
structure Sj (n k : Nat) (d : D) : Prop where
 nd : d.ndc = true
 sh : d.pd.showable = true
 dp : d.pd.depth ≤ k
 lv : d.pd.leavesShort 40 = true
 bk : d.pd.bulk ≤ n
 ok : ∀ c ∈ d.pd.shown.cps.toList, c < 1114112
theorem Sj.up {n k n' k' : Nat} {d : D} (h : Sj n k d) (a : n ≤ n') (b : k ≤ k') : Sj n' k' d := ⟨h.nd, h.sh, Nat.le_trans h.dp b, h.lv, Nat.le_trans h.bk a, h.ok⟩
theorem Sj.go {n k : Nat} {d : D} (h : Sj n k d) (hn : n ≤ 300000) (hk : k ≤ 90) : ShOk d ∧ PyData.strOk (strD d) = true := by
 refine ⟨⟨h.nd, h.sh, Nat.le_trans h.dp hk, ?_⟩, ?_⟩
 ·have a := PyData.shown_le_bulk 40 (by decide) d.pd h.lv
  have b := h.bk
  rw [sizeLine_eq]
  omega
 ·unfold PyData.strOk strD
  rw [← Array.all_toList, List.all_eq_true]
  intro c hc
  exact decide_eq_true (h.ok c hc)
theorem Sj.sh_ok {n k : Nat} {d : D} (h : Sj n k d) (hi : d.imm = true) (hn : n ≤ 100000) (hk : k ≤ 90) (hlog : ∀ i, d = .int i → i.natAbs.log2 < 1920) : ShJ d := by
 cases d with
 | non => trivial
 | bl b => trivial
 | int i => exact hlog i rfl
 | str a => trivial
 | tup xs => exact (h.go (by omega) hk).1
 | lF xs => exact (h.go (by omega) hk).1
 | _ => rw [D.imm] at hi; cases hi
theorem Sj.str_ok {n k : Nat} {d : D} (h : Sj n k d) (hi : d.imm = true) (hn : n ≤ 100000) (hk : k ≤ 90) (hs : ∀ a, d = .str a → PyData.strOk a = true) : PyData.strOk (strJ d) = true := by
 cases d with
 | non => decide +kernel
 | bl b => cases b <;> decide +kernel
 | int i =>
   have e : strD (.int i) = strJ (.int i) := by
    show (D.pd (.int i)).shown = _
    rw [D.pd]; exact PyData.shown_int i
   rw [← e]
   exact (h.go (by omega) hk).2
 | str a => exact hs a rfl
 | tup xs => exact (h.go (by omega) hk).2
 | lF xs => exact (h.go (by omega) hk).2
 | _ => rw [D.imm] at hi; cases hi
end BX
namespace BX
open PySem PySem.Spec PyProof.Rows L2
end BX
namespace BX
open PySem PySem.Spec PyProof.Rows L2
open Sem (wp)
end BX
namespace TX
open PySem PySem.Spec PyProof.Rows L2 BX
section
variable {e e1 e' : En} {L : Nat} {r r1 r2 : R} {d d' d1 d2 : D} {Q : R → En → Prop} {α β : Type} {i : Nat}
theorem qiu {f : α → D} [hf : Im f] {l : List α} {lo hi : Option Int} (h : Rv e 1 r (eF f l)) (q : aR Q (.tmp (eL f (cutA l lo hi))) e) : rd 1 r e fun d => Qw d lo hi fun d' => aR Q (.tmp d') e := by
 refine h.rd ?_
 unfold eL at q
 unfold eF
 rw [← X4] at q
 exact ⟨imL l, q⟩
variable {kI : List D → Option Bool → Lok → En → Prop}
end
end TX
namespace BX
open PySem PySem.Spec PyProof.Rows L2
end BX
namespace BX
open PySem PySem.Spec PyProof.Rows L2
end BX
namespace BX
open PySem PySem.Spec PyProof.Rows L2
theorem ResOk.fresh {K : PySem.W.Frag} {σ : L2.St} {H : Hp} {env : En} {f : FA} {r : R} {v : V} {g : List Addr} (h : ResOk K σ H env f r v g) : ∀ b ∈ g, ¬ L0 env f b ∧ ¬ Ro env f b := by
 cases h with
 | tmp r nn => exact nn
 | ro r nn => exact fun b hb => by simp at hb
 | sl h1 h2 h3 => exact fun b hb => by simp at hb
theorem ResOks.fresh {K : PySem.W.Frag} {σ : L2.St} {H : Hp} {env : En} {f : FA} : ∀ {rs : List R} {vs : List V} {gs : List Addr}, ResOks K σ H env f rs vs gs → ∀ b ∈ gs, ¬ L0 env f b ∧ ¬ Ro env f b
 | _, _, _, .nil, b, hb => by simp at hb
 | _, _, _, .cons r t n, b, hb => (List.mem_append.mp hb).elim (r.fresh b) (t.fresh b)
end BX
namespace BX
open PySem PySem.Spec PyProof.Rows L2
end BX
namespace BX
open PySem PySem.Spec PyProof.Rows L2
end BX
namespace BX
open PySem PySem.Spec PyProof.Rows L2
end BX
namespace BX
open PySem PySem.Spec PyProof.Rows L2
end BX
namespace BX
open PySem PySem.Spec PyProof.Rows L2 RT
def sFzO (i : Nat) (t : XS) : XS := fun env nx rt => match env[i]? with
 | some (some (.lst ds, .own)) => immL ds = true ∧ t (env.set i (some (.lF ds, .own))) nx rt
 | _ => False
section
variable {K : PySem.W.Frag} {σ : L2.St} {H : Hp} {env : En} {f : FA}
theorem qeS {i : Nat} {ds : List D} (A : Abs K σ H env f) (e : env[i]? = some (some (.lst ds, .own))) (im : immL ds = true) :
 ∃ a vs, H a = some (.lst vs) ∧ ∀ od, Abs K σ (L2.upd H a (.frz od (.lst vs))) (env.set i (some (.lF ds, .own))) (fset f i []) ∧
  Stp H env f [] (L2.upd H a (.frz od (.lst vs))) (env.set i (some (.lF ds, .own))) (fset f i []) [] ∧ Kq σ env f σ (env.set i (some (.lF ds, .own))) (fset f i []) := by
 obtain ⟨v, hv, rp⟩ := A.rep _ _ _ e
 obtain ⟨a, vs, g, rfl, ha, rr, hf, na⟩ := rp.listAt
 obtain ⟨rfl, r0⟩ := rr.imm (Nat.zero_le _) im
 refine ⟨a, vs, ha, fun od => ?_⟩
 obtain ⟨A2, S2, K2, _⟩ := A.mut (d' := .lF ds) (H' := L2.upd H a (.frz od (.lst vs))) (g' := []) (G := []) (G' := []) e rfl hv (fun b o hb z => by
  have : b ≠ a := fun w => z (by rw [hf, w]; exact List.mem_cons_self ..)
  rw [upd_ne this]; exact hb) (.lF upd_same (r0.keep fun b o hb z => by
  have : b ≠ a := fun w => by
   subst w
   rcases z with z | z
   ·simp at z
   ·rw [ha] at hb; cases hb; cases z
  rw [upd_ne this]; exact hb)) (fun b hb => by simp at hb) (fun b hb => by simp at hb) (fun b hb => by simp at hb)
 exact ⟨A2, S2, K2.kq⟩
end
theorem qfF {X : Cx} {i : Nat} {st : Stmt} {t : XS} (h : DS X st t) : DS X st (sFzO i t) := by
 refine ⟨PS.imp (qfi h.run) fun Dn σ H q => ?_, fun env nx nx' rt rt' h1 h2 q => ?_⟩
 ·obtain ⟨env, f, A, q⟩ := q
  unfold sFzO at q
  split at q
  ·rename_i ds e
   obtain ⟨a, vs, ha, w⟩ := qeS A e q.1
   refine ⟨a, _, ha, True.intro, fun od => ?_⟩
   obtain ⟨A2, S2, K2⟩ := w od
   refine ⟨_, _, A2, h.mono _ _ _ _ _ (fun e2 q σ' H' f' A' S' K' => q σ' H' f' A' (S2.trans S') (K2.trans K')) (fun d e2 q => ?_) q.2⟩
   intro v σ' H' f' g A' r n S' K'
   exact q v σ' H' f' g A' r n (S2.trans S') (K2.trans K')
  ·exact q.elim
 ·unfold sFzO at q ⊢
  split at q
  ·exact ⟨q.1, h.mono _ _ _ _ _ h1 h2 q.2⟩
  ·exact q.elim
end BX
namespace BX
open PySem PySem.Spec PyProof.Rows L2
end BX
namespace BX
open PySem PySem.Spec PyProof.Rows L2
theorem JK {α : Type} {p : α → Bool} : ∀ {l : List α}, (l.filter p).Nodup → (l.filter fun a => !p a).Nodup → l.Nodup
 | [], _, _ => List.nodup_nil
 | a :: l, h1, h2 => by
   refine List.nodup_cons.mpr ⟨fun z => ?_, ?_⟩
   ·cases hp : p a with
    | true =>
      rw [List.filter_cons_of_pos hp, List.nodup_cons] at h1
      exact h1.1 (List.mem_filter.mpr ⟨z, hp⟩)
    | false =>
      rw [List.filter_cons_of_pos (by rw [hp] <;> rfl), List.nodup_cons] at h2
      exact h2.1 (List.mem_filter.mpr ⟨z, by rw [hp]; rfl⟩)
   ·refine JK (p := p) ?_ ?_
    ·cases hp : p a with
     | true => rw [List.filter_cons_of_pos hp, List.nodup_cons] at h1; exact h1.2
     | false => rw [List.filter_cons_of_neg (by rw [hp]; exact Bool.false_ne_true)] at h1; exact h1
    ·cases hp : p a with
     | true => rw [List.filter_cons_of_neg (by rw [hp]; simp)] at h2; exact h2
     | false => rw [List.filter_cons_of_pos (by rw [hp] <;> rfl), List.nodup_cons] at h2; exact h2.2
theorem qfA {α β : Type} {f : α → β} : ∀ {l : List α}, (l.map f).Nodup → ∀ {a b : α}, a ∈ l → b ∈ l → f a = f b → a = b
 | [], _, a, b, ha, _, _ => by cases ha
 | c :: l, h, a, b, ha, hb, e => by
   rw [List.map_cons, List.nodup_cons] at h
   rcases List.mem_cons.mp ha with ea | ha2
   ·rcases List.mem_cons.mp hb with eb | hb2
    ·rw [ea, eb]
    ·exact absurd (by rw [← ea, e]; exact List.mem_map_of_mem hb2) h.1
   ·rcases List.mem_cons.mp hb with eb | hb2
    ·exact absurd (by rw [← eb, ← e]; exact List.mem_map_of_mem ha2) h.1
    ·exact qfA h.2 ha2 hb2 e
end BX
namespace PySem
end PySem
namespace BX
open PySem PySem.Spec PyProof.Rows L2
theorem KT.tup {H : Hp} {kvs : List (List Key × V)} {xs : List (List Key × Addr × Value)} (r : KT H kvs xs) : ∀ x ∈ xs, H x.2.1 = some (.tup (x.1.map kV)) := by
 induction r with
 | nil => intro x hx; cases hx
 | cons h t ih =>
   intro x hx
   rcases List.mem_cons.mp hx with rfl | hx
   ·rw [← h.1]; exact h.2.1
   ·exact ih x hx
end BX
namespace BX
open PySem PySem.Spec PyProof.Rows L2
end BX
namespace TX
open PySem PySem.Spec PyProof.Rows L2 BX
section
variable {e e1 e2 e' e'' : En} {L i : Nat} {r r1 r2 : R} {d d' d1 d2 dd : D} {Q : R → En → Prop} {n x : Str} {fs fs' : List (Str × D)} {m : Md} {op : OP} {ta te ti : XE} {u : XA} {S : FS} {isT : D → Bool} {B : Bn}
theorem qh4 {α : Type} {f : α → D} [Im f] {l : List α} {t : XS} {nx : En → Prop} {rt : D → En → Prop} (h : e[i]? = some (some (eL f l, .own))) (he : e.set i (some (eF f l, .own)) = e') (q : t e' nx rt) : sFzO i t e nx rt := by
 unfold sFzO
 rw [h]
 refine ⟨imL l, ?_⟩
 rw [show (D.lF (l.map f)) = eF f l from rfl, he]; exact q
variable {kI : List D → Option Bool → Lok → En → Prop}
variable {nx : En → Prop} {rt : D → En → Prop}
end
end TX
namespace BX
open PySem PySem.Spec PyProof.Rows L2
end BX
namespace BX
open PySem PySem.Spec PyProof.Rows L2
end BX
namespace TX
open PySem PySem.Spec PyProof.Rows L2 BX
end TX
namespace TX
open PySem PySem.Spec PyProof.Rows L2 BX
end TX
namespace BX
open PySem PySem.Spec PyProof.Rows L2
def movL : List R → En → List Nat → (List D → Prop) → Prop
 | [], _, _, k => k []
 | .sl i :: rs, env, mv, k => match env[i]? with
   | some (some (d, .own)) => i ∉ mv ∧ movL rs env (i :: mv) fun ds => k (d :: ds)
   | _ => False
 | .tmp d :: rs, env, mv, k => movL rs env mv fun ds => k (d :: ds)
 | .ro c d :: rs, env, mv, k => c = false ∧ d.imm = true ∧ movL rs env mv fun ds => k (d :: ds)
end BX
namespace BX
open PySem PySem.Spec PyProof.Rows L2 RT
end BX
namespace BX
open PySem PySem.Spec PyProof.Rows L2
def WW (i : Nat) : XE := fun env Q => match env[i]? with
 | some (some (.dF kvs, m)) => immL (kvs.map (·.2)) = true ∧ m.lv ≤ 1 ∧ Q (.tmp (.dF kvs)) env
 | _ => False
section
variable {X : Cx}
theorem Qs (i : Nat) {x : Str} {pos : Pos} (hN : X.N[i]? = some x := by rfl) (hv : Vis X.env.scope x := by first | exact Or.inl rfl | exact Or.inr (Or.inl rfl) | exact Or.inr (Or.inr rfl)) (hd : (x == ("__debug__" : Str)) = false := by decide)
 (hcd : (x == ("__classdict__" : Str)) = false := by decide) : DE X (.Name x pos) (WW i) := by
 refine ⟨PE.imp (pe_var hN hv hd hcd) fun σ H Q q => ?_, fun env Q Q' h q => ?_⟩
 ·obtain ⟨env, f, A, q⟩ := q
  unfold WW at q
  split at q
  ·rename_i kvs m e
   obtain ⟨im, hm, q⟩ := q
   obtain ⟨v, h1, rp⟩ := A.rep _ _ _ e
   refine ⟨v, h1, ?_⟩
   generalize f i = g at rp
   cases rp with
   | dF h ek nd rr =>
     obtain ⟨_, r0⟩ := rr.imm hm im
     exact q _ H f _ A (.tmp (.dF h ek nd r0) qC) .refl .refl
  ·exact q.elim
 ·unfold WW at q ⊢
  split at q
  ·exact ⟨q.1, q.2.1, h _ _ q.2.2⟩
  ·exact q.elim
end
end BX
namespace BX
open PySem PySem.Spec PyProof.Rows L2
end BX
namespace BX
open PySem PySem.Spec PyProof.Rows L2 RT
end BX
namespace BX
open PySem PySem.Spec PyProof.Rows L2
end BX
namespace BX
open PySem PySem.Spec PyProof.Rows L2
end BX
namespace TX
open PySem PySem.Spec PyProof.Rows L2 BX PySem.W
end TX
namespace TX
open PySem PySem.Spec PyProof.Rows L2 BX
section
variable {e e' e2 : En} {i : Nat} {m : Md} {Q : R → En → Prop} {α κ : Type} {f : α → D} {kf : κ → List Key} {l : List (κ × α)}
theorem qkt [hf : Im f] : immL ((l.map fun p => (kf p.1, f p.2)).map (·.2)) = true := uO fun d hd => by
 simp only [List.map_map, List.mem_map, Function.comp] at hd
 obtain ⟨p, _, rfl⟩ := hd
 exact hf.im _
theorem Yb [hf : Im f] (h0 : e[i]? = some (some (eDF kf f l, m))) (hm : m.lv ≤ 1) (q : aR Q (.tmp (eDF kf f l)) e) : WW i e Q := by
 unfold eDF at h0 q
 unfold WW
 rw [h0]
 exact ⟨qkt, hm, q⟩
end
theorem qkl {e : En} {i : Nat} {kI : List D → Option Bool → Lok → En → Prop} {α κ : Type} {c : κ → D} {kf : κ → List Key} [hk : Kt c kf] {f : α → D} {l : List (κ × α)} {m : Md} (h0 : e[i]? = some (some (eDF kf f l, m))) (q : aI kI ((l.map (·.1)).map c) none none e) : iKs i e kI := by
 unfold eDF at h0
 unfold iKs
 simp only [h0]
 have : V3 (l.map fun p => (kf p.1, f p.2)) = (l.map (·.1)).map c := by
  unfold V3
  rw [List.map_map, List.map_map]
  refine List.map_congr_left fun p _ => ?_
  obtain ⟨ds, e1, e2⟩ := hk.key p.1
  show D.tup ((kf p.1).map kD) = c p.1
  rw [e1, Ud e2]
 rw [this]
 exact q
inductive MvL (e : En) : List Nat → List R → List D → Prop
 | nil {mv : List Nat} : MvL e mv [] []
 | sl {mv : List Nat} {i : Nat} {d : D} {rs : List R} {ds : List D} : e[i]? = some (some (d, .own)) → i ∉ mv → MvL e (i :: mv) rs ds → MvL e mv (.sl i :: rs) (d :: ds)
 | tmp {mv : List Nat} {d : D} {rs : List R} {ds : List D} : MvL e mv rs ds → MvL e mv (.tmp d :: rs) (d :: ds)
 | ro {mv : List Nat} {d : D} {rs : List R} {ds : List D} : d.imm = true → MvL e mv rs ds → MvL e mv (.ro false d :: rs) (d :: ds)
theorem MvL.go {e : En} : ∀ {mv : List Nat} {rs : List R} {ds : List D}, MvL e mv rs ds → ∀ {k : List D → Prop}, k ds → movL rs e mv k
 | _, _, _, .nil, k, q => q
 | _, _, _, .sl h n t, k, q => by
   unfold movL
   rw [h]
   exact ⟨n, t.go q⟩
 | _, _, _, .tmp t, k, q => t.go (k := fun ds => k (_ :: ds)) q
 | _, _, _, .ro h t, k, q => ⟨rfl, h, t.go (k := fun ds => k (_ :: ds)) q⟩
end TX
namespace TX
open PySem PySem.Spec PyProof.Rows L2 BX PySem.W
end TX
namespace BX
open TX
end BX
namespace TX
open PySem PySem.Spec PyProof.Rows L2 BX
end TX
namespace TX
open PySem PySem.Spec PyProof.Rows L2 BX PySem.W
end TX
namespace TX
open PySem PySem.Spec PyProof.Rows L2 BX
end TX
namespace TX
open PySem PySem.Spec PyProof.Rows L2 BX
end TX
namespace BX
open PySem PySem.Spec PyProof.Rows L2
end BX
namespace BX
open PySem PySem.Spec PyProof.Rows L2
end BX
namespace BX
open PySem PySem.Spec PyProof.Rows L2
end BX
namespace TX
open PySem PySem.Spec PyProof.Rows L2 BX
end TX
namespace TX
open PySem PySem.Spec PyProof.Rows L2 BX
end TX
namespace TX
open PySem PySem.Spec PyProof.Rows L2 BX
end TX
namespace BX
open PySem PySem.Spec PyProof.Rows L2
end BX
namespace BX
open PySem PySem.Spec PyProof.Rows L2
end BX
namespace BX
open PySem PySem.Spec PyProof.Rows L2
end BX
namespace TX
open PySem PySem.Spec PyProof.Rows L2 BX
end TX
namespace TX
open PySem PySem.Spec PyProof.Rows L2 BX
end TX
namespace BX
open PySem PySem.Spec PyProof.Rows L2
end BX
namespace BX
open PySem PySem.Spec PyProof.Rows L2 RZ
def Jf (r1 r2 : R) (d1 d2 : D) (e : En) (k : List D → Option Bool → Lok → En → Prop) : Prop := match zc r1, zc r2 with
 | some false, some false => match d1, d2 with
   | .lF xs, .lst ys => immL xs = true ∧ immL ys = true ∧ k (zipL xs ys) none none e
   | _, _ => False
 | _, _ => False
def qgR (t u : XE) : XI := fun env k => t env fun r1 e1 => u e1 fun r2 e2 => rd 2 r1 e2 fun d1 => rd 2 r2 e2 fun d2 => Jf r1 r2 d1 d2 e2 k
theorem qbg {r1 r2 : R} {d1 d2 : D} {e : En} {k k' : List D → Option Bool → Lok → En → Prop} (h : ∀ ds kd lk e, k ds kd lk e → k' ds kd lk e) (q : Jf r1 r2 d1 d2 e k) : Jf r1 r2 d1 d2 e k' := by
 unfold Jf at q ⊢
 revert q
 cases zc r1 with
 | none => exact id
 | some c => cases c with
   | true => exact id
   | false => cases zc r2 with
   | none => exact id
   | some c' => cases c' with
   | true => exact id
   | false => cases d1 <;> cases d2 <;> first | exact id | exact fun q => ⟨q.1, q.2.1, h _ _ _ _ q.2.2⟩
section
variable {K : PySem.W.Frag} {H1 : Hp} {xs ys : List D} {vs ws : List V} {a b : Addr} {P : List Addr}
theorem qfW (ha : ∀ H, Near H1 P H → SqL K H a vs) (hb : ∀ H, Near H1 P H → SqL K H b ws) (r1 : Reps K H1 0 xs vs []) (r2 : Reps K H1 0 ys ws []) : Wk K (Itz K a b) (zipL xs ys) none H1 P where
 go := fun i H n h => by
  rw [zipL, List.length_zipWith] at h
  have l1 := r1.len; have l2 := r2.len
  exact ⟨vs, ws, vs[i]'(by omega), ws[i]'(by omega), ha H n, hb H n, List.getElem?_eq_getElem _, List.getElem?_eq_getElem _⟩
 stop := fun i H n h => by
  rw [zipL, List.length_zipWith] at h
  have l1 := r1.len; have l2 := r2.len
  exact ⟨vs, ws, ha H n, hb H n, by omega⟩
 yld := fun i H x H' d n e y => by
  obtain ⟨T, x', y', rfl, hT, rfl, hx, hy⟩ := y
  obtain ⟨d1, d2, e1, e2, rfl⟩ := Y0 e
  obtain ⟨v1, h1, q1, rp1, t1⟩ := r1.get e1
  obtain ⟨v2, h2, q2, rp2, t2⟩ := r2.get e2
  have := hx vs (ha H n); rw [q1] at this; cases this
  have := hy ws (hb H n); rw [q2] at this; cases this
  have kp : ∀ b o, H b = some o → (upd H T (.tup [x', y'])) b = some o := (Ext.upd (o := .tup [x', y']) hT).same
  have rp1 := r1.nilAt rfl i d1 x' e1 q1
  have rp2 := r2.nilAt rfl i d2 y' e2 q2
  have k1 : ∀ {d : D} {v : V}, Rep K H1 0 d v [] → Rep K (upd H T (.tup [x', y'])) 0 d v [] := fun r => r.keep fun b o hb z => z.elim (fun z => by simp at z) fun z => kp b o (n b o hb (.inr z))
  refine ⟨kp, ?_⟩
  show Rep K _ 0 (.tup [d1, d2]) (.ref T) ([] ++ ([] ++ []))
  exact .tup upd_same (.cons (k1 rp1) (.cons (k1 rp2) .nil fun z b hb => by simp at hb) fun z b hb => by simp at hb)
end
section
variable {X : Cx} {e e2 : Expr} {t u : XE} {p pos tpos : Pos} {elts : List Expr} {kk : Nat}
theorem qgY (ha : DE X e t) (hb : DE X e2 u) (hm : X.mg "zip" = none) (hg : Gl X "zip" := by rfl) (hs' : starEach [e, e2] X.env = (false, eval e X.env) :: starEach [e2] X.env := by rfl) (hs2' : starEach [e2] X.env = (false, eval e2 X.env) :: starEach [] X.env := by rfl)
 (hpl : (backTo pos (starEach [e2] X.env)).any (·.1) = false := by rfl) : DI X (.Tuple elts kk tpos) (.Call (.Name "zip" p) [e, e2] [] pos) (qgR t u) := by
 refine ⟨PI.imp (pi_zipA hg hm (qb ha (qb hb qp hs2') hs').run hs' hpl) fun σ H R q => ?_, fun env k k' h q => ha.mono _ _ _ (fun r e q => hb.mono _ _ _ (fun r2 e2 q => qZ (fun d q => qZ (fun d2 q => ?_) q) q) q) q⟩
 ·obtain ⟨env, f, A, q⟩ := q
  refine ⟨env, f, A, ha.mono _ _ _ (fun r1 e1 q => hb.mono _ _ _ (fun r2 e2 q => ?_) q) q⟩
  intro vs H1 f1 gs A1 R1 S1 K1
  cases R1 with
  | cons R1 Rt _ =>
    cases Rt with
    | cons R2 Rt _ =>
      cases Rt
      obtain ⟨d1, dd1, q⟩ := Wb q
      obtain ⟨d2, dd2, q⟩ := Wb q
      unfold Jf at q
      split at q
      ·rename_i hc hc'
       obtain ⟨gg1, rp1, n1⟩ := qa1 A1 R1 hc dd1
       obtain ⟨gg2, rp2, n2⟩ := qa1 A1 R2 hc' dd2
       have S0 := S1.drop (G2 := []) fun _ z => by simp at z
       have nn : ∀ b ∈ gg1 ++ gg2, (∃ o, H1 b = some o) ∧ ¬ L0 e2 f1 b := fun b hb => (List.mem_append.mp hb).elim (n1 b) (n2 b)
       have w1 : ∀ b ∈ gg1, b ∈ gg1 ++ gg2 := fun b hb => List.mem_append_left _ hb
       have w2 : ∀ b ∈ gg2, b ∈ gg1 ++ gg2 := fun b hb => List.mem_append_right _ hb
       split at q
       ·obtain ⟨i1, i2, q⟩ := q
        obtain ⟨a1, vs1, rfl, hq1, hn1, rr1⟩ := VG rp1
        obtain ⟨a2, vs2, k2, rfl, hq2, hn2, rr2, hs2⟩ := jG rp2
        obtain ⟨_, z1⟩ := rr1.imm (Nat.le_refl 1) i1
        obtain ⟨_, z2⟩ := rr2.imm (Nat.le_refl 1) i2
        exact ⟨a1, a2, vs1, vs2, rfl, .inl ⟨hq1, hq2, q _ H1 f1 _ e2 A1 S0 K1 .none (qfW (P := gg1 ++ gg2) (fun H n => hn1 H (vO n w1)) (fun H n => hn2 H (vO n w2)) z1 z2) (fun b hb => ⟨(nn b hb).1, fun w => (nn b hb).2 w.l0⟩) (fun z => by cases z)⟩⟩
       ·exact q.elim
      ·exact q.elim
 ·exact qbg h q
end
end BX
namespace BX
open PySem PySem.Spec PyProof.Rows L2 HT
end BX
namespace BC
open PySem PySem.Spec PyProof.Rows L2 BX TX COM
abbrev jT (l : List J) : J := toJ (eV eJ) l
theorem isT (l : List J) : isiB "tuple" (jT l).1 = true := rfl
structure Sm (n : Nat) (t : J) : Prop where
 sj : Sj n 6 t.1
 log : ∀ i, t.1 = .int i → i.natAbs.log2 < 1920
 str : ∀ a, t.1 = .str a → PyData.strOk a = true
theorem qba : ∀ l : List PyData, l.length ≤ PyData.bulkAll l
 | [] => Nat.zero_le _
 | x :: l => by
   have := qba l
   show l.length + 1 ≤ x.bulk + 1 + PyData.bulkAll l
   omega
theorem Sm.len {n : Nat} {l : List J} (h : Sm n (jT l)) : l.length ≤ n := by
 have e : D.pd (jT l).1 = .tuple (pdL (l.map eJ)) := by show D.pd (.tup _) = _; rw [D.pd]
 have b := h.sj.bk
 rw [e] at b
 have b : PyData.bulkAll (pdL (l.map eJ)) ≤ n := b
 have := qba (pdL (l.map eJ))
 rw [qcL, List.length_map] at this
 omega
theorem Sm.sh {n : Nat} {t : J} (h : Sm n t) (hn : n ≤ 100000) : ShJ (eJ t) := h.sj.sh_ok t.2 hn (by decide) h.log
theorem Sm.ok {n : Nat} {t : J} (h : Sm n t) (hn : n ≤ 100000) : PyData.strOk (strJ (eJ t)) = true := h.sj.str_ok t.2 hn (by decide) h.str
abbrev Pt (t : J) : Prop := Sj 20 4 t.1 ∧ (∀ i, t.1 = .int i → i.natAbs.log2 < 1920) ∧ ∀ a, t.1 = .str a → PyData.strOk a = true
section
variable {α σ : Type} {b : Bool} {A B : (σ → Prop) → Prop} {k : σ → Prop} {p q : Prop}
theorem qdj (h : b = false) (x : q) : ifP b p q := ⟨fun z => (by rw [h] at z; cases z), fun _ => x⟩
end
end BC
namespace TX
open PySem PySem.Spec PyProof.Rows L2 BX
section
variable {e : En} {r1 r2 : R} {α β : Type} {kI : List D → Option Bool → Lok → En → Prop}
theorem qi9 {t u : XE} (q : t e fun r1 e1 => u e1 fun r2 e2 => rd 2 r1 e2 fun d1 => rd 2 r2 e2 fun d2 => Jf r1 r2 d1 d2 e2 kI) : qgR t u e kI := q
theorem qgs {f : α → D} {g : β → D} [Im f] [Im g] {l : List α} {m : List β} (h1 : Rv e 2 r1 (eF f l)) (h2 : Rv e 2 r2 (eL g m)) (z1 : zc r1 = some false) (z2 : zc r2 = some false) (q : aI kI ((l.zip m).map (eT2 f g)) none none e) : rd 2 r1 e fun d1 => rd 2 r2 e fun d2 => Jf r1 r2 d1 d2 e kI :=
 h1.rd (h2.rd (by
  unfold Jf eF eL
  simp only [z1, z2]
  rw [WY]
  exact ⟨imL _, imL _, q⟩))
end
end TX
namespace TX
open PySem PySem.Spec PyProof.Rows L2 BX
end TX
namespace TX
open PySem PySem.Spec PyProof.Rows L2 BX
end TX
namespace BX
open PySem PySem.Spec PyProof.Rows L2
end BX
namespace BX
open PySem PySem.Spec PyProof.Rows L2 RT
end BX
namespace BX
open PySem PySem.Spec PyProof.Rows L2
end BX
namespace TX
open PySem PySem.Spec PyProof.Rows L2 BX
end TX
namespace TX
open PySem PySem.Spec PyProof.Rows L2 BX
end TX
namespace TX
open PySem PySem.Spec PyProof.Rows L2 BX
end TX
namespace TX
open PySem PySem.Spec PyProof.Rows L2 BX
end TX
namespace BX
open PySem PySem.Spec PyProof.Rows L2
end BX
namespace BX
open PySem PySem.Spec PyProof.Rows L2
end BX
namespace BX
open PySem PySem.Spec PyProof.Rows L2
end BX
namespace TX
open PySem PySem.Spec PyProof.Rows L2 BX
end TX
namespace BX
open PySem PySem.Spec PyProof.Rows L2 RT L2.DX
end BX
namespace BX
open PySem PySem.Spec PyProof.Rows L2
end BX
namespace BX
open PySem PySem.Spec PyProof.Rows L2 RT PySem.W
structure MinDs (xs : List D) : Prop where
 imm : immL xs = true
 alike : AlikeAll (xs.map D.py)
 lay : ∀ d ∈ xs, d.py.canLay0 = true
 deep : PyData.depthAll (xs.map D.py) ≤ 40
def qbO (d : D) (k : D → Prop) : Prop := match d with
 | .lst (x :: xs) => MinDs (x :: xs) ∧ ∀ d ∈ x :: xs, d.py = minD x.py (xs.map D.py) → k d
 | _ => False
theorem readsAll_each {h : Heap} {α : Type} {f : α → PyData} : ∀ {vs : List Value} {xs : List α}, EachIs (fun v b => ∃ as, Reads h v (f b) as) vs xs → ∃ as, ReadsAll h vs (xs.map f) as
 | _, _, .nil => ⟨_, .nil⟩
 | _, _, .cons ⟨_, r⟩ t => by
   obtain ⟨as, q⟩ := readsAll_each t
   exact ⟨_, .cons r q⟩
theorem qdz {α β : Type} {R : α → β → Prop} : ∀ {as : List α} {bs : List β}, EachIs R as bs → ∀ {i : Nat} {a : α}, as[i]? = some a → ∃ b, b ∈ bs ∧ R a b
 | _, _, .nil, _, _, h => by simp at h
 | _, _, .cons (a := a') h t, 0, a, e => by
   have e : some a' = some a := e
   cases e
   exact ⟨_, List.mem_cons_self, h⟩
 | _, _, .cons h t, i + 1, a, e => by
   obtain ⟨b, m, r⟩ := qdz t (i := i) (a := a) (by simpa using e)
   exact ⟨b, List.mem_cons_of_mem _ m, r⟩
theorem qcC {h : Heap} {v : Value} {d d' : PyData} {as bs : List Addr} (l : d.canLay0 = true) (l' : d'.canLay0 = true) (r : Reads h v d as) (r' : Reads h v d' bs) : d = d' := by
 have e1 := SeqAt.readsAll_map [d] [v] _ (by simp [PyData.canLayAll0, l]) (.cons r .nil)
 have e2 := SeqAt.readsAll_map [d'] [v] _ (by simp [PyData.canLayAll0, l']) (.cons r' .nil)
 have e := e1.symm.trans e2
 injection e
theorem qeF (x : PyData) : ∀ xs : List PyData, minD x xs ∈ x :: xs := fun xs => by
 have : ∀ (xs : List PyData) (a : PyData), xs.foldl (fun a y => if dataLt y a then y else a) a ∈ a :: xs := fun xs => by
  induction xs with
  | nil => intro a; exact List.mem_cons_self
  | cons y ys ih =>
    intro a
    rw [List.foldl_cons]
    have := ih (if dataLt y a then y else a)
    rcases List.mem_cons.mp this with h | h
    ·rw [h]
     split
     ·simp
     ·simp
    ·exact List.mem_cons_of_mem _ (List.mem_cons_of_mem _ h)
 exact this xs x
section
variable {X : Cx}
theorem qhe (hx : Ok X) : CallD X (.builtin "min") 1 (op1 qbO) := QZ (by decide) (fun pins s σ H x us Q d g I rs r q => by
 obtain ⟨u, rfl, rx⟩ := vals1 rs
 unfold qbO at q
 split at q
 ·rename_i x xs
  obtain ⟨ok, q⟩ := q
  obtain ⟨a, vs, g', rfl, ha, ra, _⟩ := r.listAt1 (Nat.le_refl _)
  cases rx
  obtain ⟨its, rv, pl, hz⟩ := I.list (.inl (.inl ha) : SqL X.K H a vs)
  have e := qad (Nat.le_refl _) ra ok.imm rv
  have er : EachIs (fun v b => ∃ as, Reads s.heap v (D.py b) as) its (x :: xs) := jw e fun v b hb ⟨y, rl, rp⟩ => Dp.reads I _ y v (rp.dp (ok.lay b hb)) rl
  obtain ⟨as, all⟩ := readsAll_each er
  refine min_list_data (x := x.py) (xs := xs.map D.py) (I.ok.hd hx.calm) pl.isList (by simpa using all) ok.alike (by have h1 := ok.deep; have := hx.un; rw [List.map_cons] at h1; omega) fun i v h' tk bs hv hr keep => ?_
  have hv : its[i]? = some v := by simpa using hv
  obtain ⟨b, hb, y, rl, rp⟩ := qdz e hv
  obtain ⟨cs, rb⟩ := Dp.reads I _ y v (rp.dp (ok.lay b hb)) rl
  have ly : (minD x.py (xs.map D.py)).canLay0 = true := by
   have := qeF x.py (xs.map D.py)
   rw [← List.map_cons (f := D.py)] at this
   obtain ⟨d, hd, ed⟩ := List.mem_map.mp this
   rw [← ed]; exact ok.lay d hd
  have eb : b.py = minD x.py (xs.map D.py) := qcC (ok.lay b hb) ly (Reads.keeps keep rb) hr
  exact ⟨y, H, I.kept keep, rl, q b hb eb _ H [] rp ⟨fun b o h => h, fun b hb => by simp at hb⟩⟩
 ·exact q.elim) (fun d k k' h q => by
 unfold qbO at q ⊢
 split at q
 ·exact ⟨q.1, fun d hd e => h _ (q.2 d hd e)⟩
 ·exact q.elim)
end
end BX
namespace BX
open PySem PySem.Spec PyProof.Rows L2
end BX
namespace BX
open PySem PySem.Spec PyProof.Rows L2 RZ
end BX
namespace TX
open PySem PySem.Spec PyProof.Rows L2 BX RT PySem.W
instance {α : Type} {f : α → D} : Nn (eF f) := ⟨fun _ => rfl⟩
end TX
namespace BX
open PySem PySem.Spec PyProof.Rows L2
end BX
namespace TX
open PySem PySem.Spec PyProof.Rows L2 BX
end TX
namespace BX
open PySem PySem.Spec PyProof.Rows L2 RT
end BX
namespace BX
open PySem PySem.Spec PyProof.Rows L2 HT
end BX
namespace TX
open PySem PySem.Spec PyProof.Rows L2 BX RT PySem.W
end TX
namespace TX
open PySem PySem.Spec PyProof.Rows L2 BX RT PySem.W
end TX
namespace BX
open PySem PySem.Spec PyProof.Rows L2
mutual
def toN : NK → NestedKey
 | .num i => .num i
 | .tup l => .tup (toNL l)
def toNL : List NK → List NestedKey
 | [] => []
 | k :: l => toN k :: toNL l
end
mutual
theorem Vd : ∀ {a b : NK}, toN a = toN b → a = b
 | .num i, .num j, h => by rw [toN, toN] at h; injection h with h; rw [h]
 | .tup l, .tup m, h => by rw [toN, toN] at h; injection h with h; rw [qax h]
 | .num i, .tup m, h => by rw [toN, toN] at h; cases h
 | .tup l, .num j, h => by rw [toN, toN] at h; cases h
theorem qax : ∀ {a b : List NK}, toNL a = toNL b → a = b
 | [], [], _ => rfl
 | a :: l, b :: m, h => by rw [toNL, toNL] at h; injection h with h1 h2; rw [Vd h1, qax h2]
 | [], b :: m, h => by rw [toNL, toNL] at h; cases h
 | a :: l, [], h => by rw [toNL, toNL] at h; cases h
end
mutual
theorem qaZ (w : World) : ∀ k : NK, NestedKey.hash w (toN k) = zE k
 | .num i => by rw [toN, NestedKey.hash, zE]
 | .tup l => by rw [toN, NestedKey.hash, zE, YK w l]
theorem YK (w : World) : ∀ l : List NK, NestedKey.hashes w (toNL l) = Wi l
 | [] => by rw [toNL, NestedKey.hashes, Wi]
 | k :: l => by rw [toNL, NestedKey.hashes, Wi, qaZ w k, YK w l]
end
mutual
theorem Z5 : ∀ k : NK, (toN k).depth = yG k
 | .num i => by rw [toN, NestedKey.depth, yG]
 | .tup l => by rw [toN, NestedKey.depth, yG, YL l]
theorem YL : ∀ l : List NK, NestedKey.depthAll (toNL l) = xV l
 | [] => by rw [toNL, NestedKey.depthAll, xV]
 | k :: l => by rw [toNL, NestedKey.depthAll, xV, Z5 k, YL l]
end
def jo (P : Program) (w : World) : HeapKind P w NK where
 is h k a := (nestedKind P w).is h (toN k) a
 hash k := zE k
 draws k := (nestedKind P w).draws (toN k)
 room := (nestedKind P w).room
 inj h1 h2 := Vd ((nestedKind P w).inj h1 h2)
 keeps h1 h2 h3 h4 := (nestedKind P w).keeps h1 h2 h3 h4
 pyHash {A E s k a Q} hr hi h := (nestedKind P w).pyHash (A := A) (E := E) (s := s) (k := toN k) (a := a) (Q := Q) hr hi (by
  have e : (nestedKind P w).hash (toN k) = zE k := qaZ w k
  rw [e]; exact h)
 eqBool {A E s x y a b Q} hr h1 h2 h := (nestedKind P w).eqBool (A := A) (E := E) (s := s) (x := toN x) (y := toN y) (a := a) (b := b) (Q := Q) hr h1 h2 (by
  have e : decide (toN x = toN y) = decide (x = y) := decide_eq_decide.mpr ⟨fun z => Vd z, fun z => by rw [z]⟩
  rw [e]; exact h)
 quiet {A E s k a Q} hi h := (nestedKind P w).quiet (A := A) (E := E) (s := s) (k := toN k) (a := a) (Q := Q) hi h
section
variable {P : Program} {w : World} {H : Hp} {h : Heap}
mutual
theorem qiR (I : HOk P w H h) : ∀ {k : NK} {v : V} {u : Value}, NkV H k v → L2.RelV v u → NestedIs h (toN k) u
 | .num i, v, u, hk, r => by
   rw [NkV] at hk; subst hk
   obtain ⟨t, rfl⟩ := r
   rw [toN]; exact .int i t
 | .tup l, v, u, hk, r => by
   rw [NkV] at hk
   obtain ⟨a, vs, rfl, ha, hs⟩ := hk
   cases r
   obtain ⟨_, its, rv, o, e1, e2, n, e3⟩ := I a _ ha
   rw [toN]
   refine .tup e1 e2 e3 ?_
   have := qfz I hs rv
   simpa using this
theorem qfz (I : HOk P w H h) : ∀ {l : List NK} {vs : List V} {us : List Value}, NkVs H l vs → Vals vs us → NestedAll h (toNL l) us
 | [], vs, us, hk, r => by
   rw [NkVs] at hk; subst hk
   cases r; rw [toNL]; exact .nil
 | k :: l, vs, us, hk, r => by
   rw [NkVs] at hk
   obtain ⟨v, ws, rfl, h1, h2⟩ := hk
   cases r with
   | cons r1 r2 => rw [toNL]; exact .cons (qiR I h1 r1) (qfz I h2 r2)
end
theorem key_is (I : HOk P w H h) {k : NK} {a : Addr} (hk : NkV H k (.ref a)) (hd : yG k ≤ 8) : (jo P w).is h k a := ⟨qiR I hk rfl, by rw [Z5]; exact hd⟩
def Kok (H : Hp) (xs : List (NK × Addr × V)) : Prop := ∀ x ∈ xs, NkV H x.1 (.ref x.2.1) ∧ yG x.1 ≤ 8
abbrev PNd (xs : List (NK × Addr × V)) (ys : List (NK × Addr × Value)) : Prop := Paired (fun p q => p.1 = q.1 ∧ p.2.1 = q.2.1 ∧ L2.RelV p.2.2 q.2.2) xs ys
theorem PNd.mem : ∀ {xs : List (NK × Addr × V)} {ys : List (NK × Addr × Value)}, PNd xs ys → ∀ y ∈ ys, ∃ x ∈ xs, x.1 = y.1 ∧ x.2.1 = y.2.1
 | _, _, .nil, y, hy => by cases hy
 | _, _, .cons (a := a) r t, y, hy => by
   rcases List.mem_cons.mp hy with rfl | hy
   ·exact ⟨a, List.mem_cons_self .., r.1, r.2.1⟩
   ·obtain ⟨x, hx, e⟩ := PNd.mem t y hy
    exact ⟨x, List.mem_cons_of_mem _ hx, e⟩
theorem PNd.keys : ∀ {xs : List (NK × Addr × V)} {ys : List (NK × Addr × Value)}, PNd xs ys → ys.map (·.1) = xs.map (·.1)
 | _, _, .nil => rfl
 | _, _, .cons r t => by rw [List.map_cons, List.map_cons, PNd.keys t, r.1]
theorem Qn (I : HOk P w H h) {a : Addr} {xs : List (NK × Addr × V)} (ha : H a = some (NdO a xs)) (hk : Kok H xs) : xs.length ≤ sizeLine ∧ (a == sysModules) = false ∧ ∃ ys, PNd xs ys ∧ h.DictOfH (jo P w) a ys := by
 obtain ⟨⟨⟨h1, h2, h3⟩, ys, h4, o, es, ep, g1, g2, g3, g4⟩, _⟩ := (show ObjOk P w H h a (NdO a xs) from I a _ ha)
 refine ⟨h1, h2, ys, h4, o, es, ep, g1, g2, g3, g4, fun y hy => ?_, by rw [PNd.keys h4]; exact h3⟩
 obtain ⟨x, hx, e1, e2⟩ := PNd.mem h4 y hy
 obtain ⟨k1, k2⟩ := hk x hx
 rw [e1, e2] at k1
 rw [e1] at k2
 exact key_is I k1 k2
theorem qez {U : Hp} {a : Addr} {xs : List (NK × Addr × V)} {ys : List (NK × Addr × Value)} (z : xs.length ≤ sizeLine) (hm : (a == sysModules) = false) (p : PNd xs ys) (d : h.DictOfH (jo P w) a ys) : ObjOk P w U h a (NdO a xs) := by
 obtain ⟨o, es, ep, g1, g2, g3, g4, _, g5⟩ := d
 refine ⟨⟨⟨z, hm, by rw [← PNd.keys p]; exact g5⟩, ys, p, o, es, ep, g1, g2, g3, g4⟩, ⟨o, g1⟩, ?_⟩
 rintro h1 h2 ⟨q1, ys', q2, o', es', ep', e1, e2⟩ keep
 exact ⟨q1, ys', q2, o', es', ep', keep _ e1, e2⟩
def atN (xs : List (NK × Addr × V)) (k : NK) : Option (Addr × V) := (xs.find? fun x => decide (x.1 = k)).map (·.2)
def putN (xs : List (NK × Addr × V)) (k : NK) (a : Addr) (v : V) : List (NK × Addr × V) := if (atN xs k).isSome then xs.map fun x => if x.1 = k then (x.1, x.2.1, v) else x else xs ++ [(k, a, v)]
theorem PNd.at : ∀ {xs : List (NK × Addr × V)} {ys : List (NK × Addr × Value)} (k : NK), PNd xs ys → (atN xs k = none ∧ atKey ys k = none) ∨ ∃ a v u, atN xs k = some (a, v) ∧ atKey ys k = some (a, u) ∧ L2.RelV v u
 | _, _, k, .nil => .inl ⟨rfl, rfl⟩
 | _, _, k, .cons (a := x) (b := y) r t => by
   obtain ⟨r1, r2, r3⟩ := r
   by_cases e : x.1 = k
   ·refine .inr ⟨x.2.1, x.2.2, y.2.2, ?_, ?_, r3⟩
    ·unfold atN; rw [List.find?_cons_of_pos (by exact decide_eq_true e)]; rfl
    ·unfold atKey; rw [List.find?_cons_of_pos (by exact decide_eq_true (r1 ▸ e)), r2]; rfl
   ·have e' : ¬ y.1 = k := r1 ▸ e
    have := PNd.at k t
    unfold atN atKey at this ⊢
    rw [List.find?_cons_of_neg (by simpa using e), List.find?_cons_of_neg (by simpa using e')]
    exact this
theorem PNd.put {xs : List (NK × Addr × V)} {ys : List (NK × Addr × Value)} (k : NK) (a : Addr) {v : V} {u : Value} (rv : L2.RelV v u) (p : PNd xs ys) : PNd (putN xs k a v) (storedH ys k a u) := by
 have go : ∀ {xs : List (NK × Addr × V)} {ys : List (NK × Addr × Value)}, PNd xs ys → PNd (xs.map fun x => if x.1 = k then (x.1, x.2.1, v) else x) (ys.map (putAt k u)) := fun {xs ys} p => by
  induction p with
  | nil => exact .nil
  | cons r t ih =>
    refine .cons ?_ ih
    unfold putAt
    obtain ⟨r1, r2, r3⟩ := r
    dsimp only
    split
    ·rename_i e
     rw [if_pos (r1 ▸ e)]
     exact ⟨r1, r2, rv⟩
    ·rename_i e
     rw [if_neg (r1 ▸ e)]
     exact ⟨r1, r2, r3⟩
 have app : ∀ {xs : List (NK × Addr × V)} {ys : List (NK × Addr × Value)}, PNd xs ys → PNd (xs ++ [(k, a, v)]) (ys ++ [(k, a, u)]) := fun {xs ys} p => by
  induction p with
  | nil => exact .cons ⟨rfl, rfl, rv⟩ .nil
  | cons r t ih => exact .cons r ih
 unfold putN storedH
 rcases PNd.at k p with ⟨e1, e2⟩ | ⟨b, v', u', e1, e2, _⟩
 ·rw [e1, e2]; exact app p
 ·rw [e1, e2]; exact go p
theorem Xg {xs : List (NK × Addr × V)} {k : NK} {a : Addr} {v : V} : (putN xs k a v).length ≤ xs.length + 1 := by
 unfold putN
 split
 ·rw [List.length_map]; omega
 ·rw [List.length_append, List.length_singleton]; omega
end
section
variable {X : Cx}
theorem Xq (hx : Ok X) : (jo X.prog X.w).room X.A.in1 := by
 show X.A.units + 1 + 8 < cLine
 have := hx.un
 omega
def qkf : TSet := fun o i v H Q => ∃ a xs k b, o = .ref a ∧ i = .ref b ∧ H a = some (NdO a xs) ∧ Kok H xs ∧ NkV H k (.ref b) ∧ yG k ≤ 8 ∧ xs.length < sizeLine ∧ Q (L2.upd H a (NdO a (putN xs k b v)))
theorem qh2 (hx : Ok X) : PSet X qkf := by
 intro pins s σ H o i v ov iv u Q I ro ri rv ⟨a, xs, k, b, eo, ei, ha, hk, kv, kd8, z, q⟩
 subst eo ei
 cases ro; cases ri
 obtain ⟨z1, hm, ys, p, d⟩ := Qn I.hok ha hk
 refine wpAny_setItem_heap (knd := jo X.prog X.w) (Xq hx) (key_is I.hok kv kd8) d (fun h' d' sb => ?_) (by rw [← p.length]; exact z1)
 have d2 := d'
 obtain ⟨o1, es, ep, g1, _⟩ := id d'
 refine ⟨L2.upd H a (NdO a (putN xs k b v)), I.write (x := a) (e := a) (by rw [ha]; exact True.intro) (.inl rfl) (fun c o2 hc e => by rw [sb.2 c hc]; exact e) ⟨o1, g1⟩ (qez (by have := Xg (xs := xs) (k := k) (a := b) (v := v); omega) hm (PNd.put k b rv p) d2), q⟩
def rInN (f : Bool → Bool) : R2 := fun x y H Q => ∃ a xs k b, x = .ref b ∧ y = .ref a ∧ H a = some (NdO a xs) ∧ Kok H xs ∧ NkV H k (.ref b) ∧ yG k ≤ 8 ∧ Q (.bl (f (atN xs k).isSome)) H
theorem qaP (hx : Ok X) : OpR X (compareOp .In) (rInN id) := by
 intro pins s σ H x y v u Q I rx ry ⟨a, xs, k, b, ex, ey, ha, hk, kv, kd8, q⟩
 subst ex ey
 cases rx; cases ry
 obtain ⟨z1, hm, ys, p, d⟩ := Qn I.hok ha hk
 refine wpAny_in_heap (knd := jo X.prog X.w) (Xq hx) (key_is I.hok kv kd8) hm d ?_
 have e : (atKey ys k).isSome = (atN xs k).isSome := by
  rcases PNd.at k p with ⟨e1, e2⟩ | ⟨_, _, _, e1, e2, _⟩ <;> rw [e1, e2] <;> rfl
 rw [e]
 exact ⟨.bl _, H, I.tok _, rfl, q⟩
theorem Vw (hx : Ok X) : OpR X (compareOp .NotIn) (rInN (!·)) := by
 intro pins s σ H x y v u Q I rx ry ⟨a, xs, k, b, ex, ey, ha, hk, kv, kd8, q⟩
 subst ex ey
 cases rx; cases ry
 obtain ⟨z1, hm, ys, p, d⟩ := Qn I.hok ha hk
 refine wpAny_notIn_heap (knd := jo X.prog X.w) (Xq hx) (key_is I.hok kv kd8) hm d ?_
 have e : (atKey ys k).isSome = (atN xs k).isSome := by
  rcases PNd.at k p with ⟨e1, e2⟩ | ⟨_, _, _, e1, e2, _⟩ <;> rw [e1, e2] <;> rfl
 rw [e]
 exact ⟨.bl _, H, I.tok _, rfl, q⟩
end
end BX
namespace BX
open PySem PySem.Spec PyProof.Rows L2
mutual
def toK : D → Option NK
 | .int i => some (.num i)
 | .tup xs => (toKs xs).map .tup
 | _ => none
def toKs : List D → Option (List NK)
 | [] => some []
 | d :: ds => match toK d, toKs ds with
   | some k, some l => some (k :: l)
   | _, _ => none
end
section
variable {K : PySem.W.Frag} {H : Hp} {lv : Nat}
mutual
theorem Rep.nk : ∀ {d : D} {v : V} {f : List Addr}, Rep K H lv d v f → lv ≤ 1 → ∀ {k : NK}, toK d = some k → NkV H k v
 | _, _, _, .int i, _, k, e => by
   rw [toK] at e; cases e; rw [NkV]
 | _, _, _, .tup (ds := ds) h r, l, k, e => by
   rw [toK] at e
   cases et : toKs ds with
   | none => rw [et] at e; cases e
   | some m =>
     rw [et] at e; cases e
     rw [NkV]
     exact ⟨_, _, rfl, h, Reps.nk r l et⟩
 | _, _, _, .tupK l' h r, l, k, e => absurd l' (by omega)
 | _, _, _, .non, _, k, e => by simp [toK] at e
 | _, _, _, .bl b, _, k, e => by simp [toK] at e
 | _, _, _, .str s, _, k, e => by simp [toK] at e
 | _, _, _, .lst h r n, _, k, e => by simp [toK] at e
 | _, _, _, .lstF l h r, _, k, e => by simp [toK] at e
 | _, _, _, .dT h e' nd r n, _, k, e => by simp [toK] at e
 | _, _, _, .dTF l h e' nd r, _, k, e => by simp [toK] at e
 | _, _, _, .dF h e' nd r, _, k, e => by simp [toK] at e
 | _, _, _, .lF h r, _, k, e => by simp [toK] at e
 | _, _, _, .ob h c e' r n, _, k, e => by simp [toK] at e
 | _, _, _, .ex h c e' z, _, k, e => by simp [toK] at e
 | _, _, _, .dK h e' nd r n, _, k, e => by simp [toK] at e
 | _, _, _, .dN h e' nd kk r n, _, k, e => by simp [toK] at e
theorem Reps.nk : ∀ {ds : List D} {vs : List V} {f : List Addr}, Reps K H lv ds vs f → lv ≤ 1 → ∀ {m : List NK}, toKs ds = some m → NkVs H m vs
 | _, _, _, .nil, _, m, e => by
   rw [toKs] at e; cases e; rw [NkVs]
 | _, _, _, .cons (d := d) (ds := ds) r t n, l, m, e => by
   rw [toKs] at e
   cases e1 : toK d with
   | none => rw [e1] at e; cases e
   | some k =>
     cases e2 : toKs ds with
     | none => rw [e1, e2] at e; cases e
     | some l' =>
       rw [e1, e2] at e; cases e
       rw [NkVs]
       exact ⟨_, _, rfl, Rep.nk r l e1, Reps.nk t l e2⟩
end
end
def keyN (d : D) (k : NK → Prop) : Prop := match toK d with
 | some (.tup l) => yG (.tup l) ≤ 8 ∧ k (.tup l)
 | _ => False
theorem ZW {d : D} {k k' : NK → Prop} (h : ∀ x, k x → k' x) (q : keyN d k) : keyN d k' := by
 unfold keyN at q ⊢
 split at q
 ·exact ⟨q.1, h _ q.2⟩
 ·exact q.elim
theorem V5 {K : PySem.W.Frag} {H : Hp} {d : D} {v : V} {f : List Addr} {k : NK → Prop} (r : Rep K H 1 d v f) (q : keyN d k) : ∃ b x, v = .ref b ∧ NkV H x (.ref b) ∧ yG x ≤ 8 ∧ k x := by
 unfold keyN at q
 split at q
 ·rename_i l e
  have h := r.nk (Nat.le_refl _) e
  have h' := h
  rw [NkV] at h'
  obtain ⟨a, vs, rfl, _⟩ := h'
  exact ⟨a, _, rfl, h, q.1, q.2⟩
 ·exact q.elim
def hasN (kvs : List (NK × D)) (k : NK) : Bool := kvs.any fun p => decide (p.1 = k)
theorem qap : ∀ {xs : List (NK × Addr × V)} {kvs : List (NK × D)} {k : NK}, xs.map (·.1) = kvs.map (·.1) → (atN xs k).isSome = hasN kvs k
 | [], [], _, _ => rfl
 | [], _ :: _, _, e => by simp at e
 | _ :: _, [], _, e => by simp at e
 | x :: xs, p :: kvs, k, e => by
   rw [List.map_cons, List.map_cons, List.cons.injEq] at e
   unfold atN hasN
   rw [List.any_cons]
   by_cases h : x.1 = k
   ·rw [List.find?_cons_of_pos (by exact decide_eq_true h), decide_eq_true (e.1 ▸ h)]; rfl
   ·rw [List.find?_cons_of_neg (by simpa using h), decide_eq_false (e.1 ▸ h), Bool.false_or]
    exact qap e.2
def prN (x : NK × Addr × V) : NK × V := (x.1, x.2.2)
theorem qcI {xs : List (NK × Addr × V)} {k : NK} {b : Addr} {v : V} : (putN xs k b v).map prN = putK (xs.map prN) k v := by
 have hs : (atN xs k).isSome = (xs.map prN).any fun p => decide (p.1 = k) := by
  unfold atN
  induction xs with
  | nil => rfl
  | cons x xs ih =>
    rw [List.map_cons, List.any_cons]
    by_cases z : x.1 = k
    ·rw [List.find?_cons_of_pos (by exact decide_eq_true z), decide_eq_true (show (prN x).1 = k from z)]; rfl
    ·rw [List.find?_cons_of_neg (by simpa using z), decide_eq_false (show ¬ (prN x).1 = k from z), Bool.false_or]; exact ih
 unfold putN putK
 rw [hs]
 split
 ·rw [List.map_map, List.map_map]
  refine List.map_congr_left fun x _ => ?_
  show prN (if x.1 = k then (x.1, x.2.1, v) else x) = if (prN x).1 = k then ((prN x).1, v) else prN x
  by_cases z : x.1 = k
  ·rw [if_pos z, if_pos (show (prN x).1 = k from z)]; rfl
  ·rw [if_neg z, if_neg (show ¬ (prN x).1 = k from z)]
 ·rw [List.map_append]; rfl
theorem V2 {H : Hp} {xs : List (NK × Addr × V)} {k : NK} {b : Addr} {v : V} (h : Kok H xs) (hk : NkV H k (.ref b)) (hd : yG k ≤ 8) : Kok H (putN xs k b v) := fun x hx => by
 unfold putN at hx
 split at hx
 ·obtain ⟨y, hy, rfl⟩ := List.mem_map.mp hx
  by_cases z : y.1 = k
  ·rw [if_pos z]; exact h y hy
  ·rw [if_neg z]; exact h y hy
 ·rcases List.mem_append.mp hx with hx | hx
  ·exact h x hx
  ·rw [List.mem_singleton.mp hx]; exact ⟨hk, hd⟩
theorem qeN {H H' : Hp} {xs : List (NK × Addr × V)} (h : Kok H xs) (k : ∀ b o, H b = some o → Mu o = false → H' b = some o) : Kok H' xs := fun x hx => ⟨(h x hx).1.keep k, (h x hx).2⟩
def qj9 : TE := fun _ H Q => ∀ p, H p = none → Q (.ref p) (L2.upd H p (NdO p []))
section
variable {X : Cx} {pos : Pos}
theorem qiD (I : L2.HOk X.prog X.w H h) (hb : sysModules < h.objs.size) {U : Hp} : ObjOk X.prog X.w U (h.push { cls := .type "dict", data := .dict #[] }) h.objs.size (NdO h.objs.size []) :=
 qez (ys := []) (Nat.zero_le _) (beq_eq_false_iff_ne.mpr (Nat.ne_of_gt hb)) .nil (Heap.DictOfH.new h)
theorem qgk : PE X (.Dict [] [] pos) qj9 := by
 refine ⟨fun pins s σ H Q I h => wpAny_Dict_empty ?_⟩
 exact ⟨.ref s.heap.objs.size, L2.upd H s.heap.objs.size (NdO s.heap.objs.size []), I.laid (t' := s.toks) (fun b o q => Heap.get?_push_of_some _ q) (Nat.le_refl _) (qiD I.hok I.big), rfl, h _ (I.hok.fresh (Nat.le_refl _))⟩
def qdG : XE := fun env Q => Q (.tmp (.dN [])) env
theorem qae : DE X (.Dict [] [] pos) qdG := by
 refine ⟨PE.imp qgk fun σ H Q q => ?_, fun env Q Q' h q => h _ _ q⟩
 obtain ⟨env, f, A, q⟩ := q
 intro p hp
 have x : Ext H (L2.upd H p (NdO p [])) [p] := .upd hp
 obtain ⟨A3, R3, S3⟩ := uQ A .refl x (z := .ref p) (d := .dN []) (by
  have := Rep.dN (K := X.K) (H := L2.upd H p (NdO p [])) (lv := 0) (a := p) (xs := []) (kvs := []) (f := []) upd_same rfl List.nodup_nil (fun _ z => by cases z) .nil (fun _ z => by simp at z)
  exact this)
 exact q _ _ f [p] A3 R3 S3 .refl
end
def Qi (n : Bool) (d1 d2 : D) (k : D → Prop) : Prop := match d2 with
 | .dN kvs => keyN d1 fun key => k (.bl (n != hasN kvs key))
 | _ => False
theorem qaR {n : Bool} : Jd (Qi n) := fun d1 d2 k k' h q => by
 unfold Qi at q ⊢
 split at q
 ·exact ZW (fun x z => h _ z) q
 ·exact q.elim
section
variable {X : Cx}
theorem qfn (hx : Ok X) : OpD X (compareOp .In) 1 (Qi false) := .mk' (fun pins s σ H x y v u Q d1 d2 g1 g2 I rx ry r1 r2 q => by
 unfold Qi at q
 split at q
 ·obtain ⟨a, xs, g, rfl, ha, ek, nd, kok, rr, _, _⟩ := r2.dNAt
  obtain ⟨b, key, rfl, hk, hd, q⟩ := V5 r1 q
  refine qaP hx pins s σ H _ _ v u Q I rx ry ⟨a, xs, key, b, rfl, rfl, ha, kok, hk, hd, ?_⟩
  rw [qap ek]
  simp only [Bool.false_bne] at q
  exact q _ H [] (.bl _) ⟨fun b o h => h, fun b hb => by simp at hb⟩
 ·exact q.elim) qaR
theorem qgp (hx : Ok X) : OpD X (compareOp .NotIn) 1 (Qi true) := .mk' (fun pins s σ H x y v u Q d1 d2 g1 g2 I rx ry r1 r2 q => by
 unfold Qi at q
 split at q
 ·obtain ⟨a, xs, g, rfl, ha, ek, nd, kok, rr, _, _⟩ := r2.dNAt
  obtain ⟨b, key, rfl, hk, hd, q⟩ := V5 r1 q
  refine Vw hx pins s σ H _ _ v u Q I rx ry ⟨a, xs, key, b, rfl, rfl, ha, kok, hk, hd, ?_⟩
  rw [qap ek]
  simp only [Bool.true_bne] at q
  exact q _ H [] (.bl _) ⟨fun b o h => h, fun b hb => by simp at hb⟩
 ·exact q.elim) qaR
variable {a b : Expr} {ta tb : XE} {pos : Pos}
end
end BX
namespace BX
open PySem PySem.Spec PyProof.Rows L2
section
variable {K : PySem.W.Frag} {σ : L2.St} {H : Hp} {env : En} {f : FA} {d : D} {m : Md} {i : Nat} {G G' fp' : List Addr}
theorem qfK {kvs : List (NK × D)} {hs : List (NK × Addr × V)} {ho : HO} {a : Addr} {fp : List Addr} (A : Abs K σ H env f) (e : env[i]? = some (some (d, m))) (hm : m.rd = false) (hl : m.lv = 0) (hv : σ[i]? = some (some (.ref a)))
 (ha : H a = some ho) (mo : Mu ho = true) (hf : f i = a :: fp) (nfp : a ∉ fp) (ek : hs.map (·.1) = kvs.map (·.1)) (nd : (kvs.map (·.1)).Nodup) (kk : Kok H hs) (r : Reps K H 0 (kvs.map (·.2)) (hs.map (·.2.2)) fp') (sub : ∀ b ∈ fp', b ∈ fp ∨ b ∈ G) (hG : ∀ b ∈ G, ¬ L0 env f b ∧ ¬ Ro env f b)
 (hG' : ∀ b ∈ G', (b ∈ fp ∨ b ∈ G) ∧ b ∉ fp') :
 Abs K σ (upd H a (NdO a hs)) (env.set i (some (.dN kvs, m))) (fset f i (a :: fp')) ∧ Stp H env f G (upd H a (NdO a hs)) (env.set i (some (.dN kvs, m))) (fset f i (a :: fp')) G' ∧ Kp env f (env.set i (some (.dN kvs, m))) (fset f i (a :: fp')) ∧
  (∀ b ∈ G', ¬ L0 (env.set i (some (.dN kvs, m))) (fset f i (a :: fp')) b ∧ ¬ Ro (env.set i (some (.dN kvs, m))) (fset f i (a :: fp')) b) := by
 have aG : a ∉ G := fun z => (hG a z).1 ⟨i, d, m, e, hl, by rw [hf]; exact List.mem_cons_self ..⟩
 have afp' : a ∉ fp' := fun z => (sub a z).elim nfp aG
 refine A.mut e hm hv (fun b o hb n => ?_) ?_ (fun b hb => ?_) hG fun b hb => ⟨?_, fun z => ?_⟩
 ·have : b ≠ a := fun z => n (by rw [hf, z]; exact List.mem_cons_self ..)
  rw [upd_ne this]; exact hb
 ·rw [hl]
  refine .dN upd_same ek nd (qeN kk fun b o hb q => ?_) (r.keep fun b o hb q => ?_) fun _ => afp'
  ·have : b ≠ a := fun z => by
    subst z
    rw [ha] at hb; cases hb; rw [mo] at q; cases q
   rw [upd_ne this]; exact hb
  ·have : b ≠ a := fun z => by
    subst z
    rcases q with q | q
    ·exact afp' q
    ·rw [ha] at hb; cases hb; rw [mo] at q; cases q
   rw [upd_ne this]; exact hb
 ·rcases List.mem_cons.mp hb with rfl | hb
  ·exact .inl (by rw [hf]; exact List.mem_cons_self ..)
  ·rcases sub b hb with z | z
   ·exact .inl (by rw [hf]; exact List.mem_cons_of_mem _ z)
   ·exact .inr (.inl z)
 ·rcases (hG' b hb).1 with z | z
  ·exact .inl (by rw [hf]; exact List.mem_cons_of_mem _ z)
  ·exact .inr (.inl z)
 ·rcases List.mem_cons.mp z with rfl | z
  ·exact (hG' b hb).1.elim nfp aG
  ·exact (hG' b hb).2 z
end
theorem qaM (xs : List (NK × Addr × V)) : (xs.map prN).map (·.1) = xs.map (·.1) := by rw [List.map_map]; rfl
theorem qaL (xs : List (NK × Addr × V)) : (xs.map prN).map (·.2) = xs.map (·.2.2) := by rw [List.map_map]; rfl
def qcH (ro : R) (di d : D) (e : En) (nx : En → Prop) : Prop := chg ro e fun i dd m => match dd with
 | .dN kvs => keyN di fun k => kvs.length < sizeLine ∧ nx (e.set i (some (.dN (putD k d kvs), m)))
 | _ => False
def Vn (te to ti : XE) : XS := fun env nx _ => te env fun r e1 => to e1 fun ro e2 => ti e2 fun ri e3 => stor r e3 fun d => rd 1 ri e3 fun di => qcH ro di d e3 nx
theorem qbC {ro : R} {di d : D} {e : En} {k k' : En → Prop} (h : ∀ e, k e → k' e) (q : qcH ro di d e k) : qcH ro di d e k' := Zg (fun i dd m q => by
 split at q
 ·exact ZW (fun x z => ⟨z.1, h _ z.2⟩) q
 ·exact q.elim) q
section
variable {X : Cx} {o i e : Expr} {te to ti : XE} {pos tpos : Pos}
theorem Z4 (hx : Ok X) (he : DE X e te) (ho : DE X o to) (hi : DE X i ti) (hs : swapsWithSole [.Subscript o i tpos] e pos.line X.env = pure false := by rfl) (hw : swappedStores [.Subscript o i tpos] e X.env = pure none := by rfl)
 (h1 : (assignEach [.Subscript o i tpos] X.env).map (·.2) = [assign (.Subscript o i tpos) X.env] := by rfl)
 (ha : ∀ v, assign (.Subscript o i tpos) X.env v = (do
  let ov ← holding [v] (eval o X.env)
  let iv ← holding [v, ov] (eval i X.env)
  standAt tpos
  holding [v, ov, iv] (setItem ov iv v)
  release [v, ov, iv] []) := by intro _; rfl) : DS X (.Assign [.Subscript o i tpos] e pos) (Vn te to ti) := by
 refine ⟨PS.imp (ps_asg he.run (pg_sub ho.run hi.run (qh2 hx) ha) hs hw h1) fun D σ H q => ?_, fun env nx nx' rt rt' h h' q => he.mono _ _ _ (fun r e q => ho.mono _ _ _ (fun r e q => hi.mono _ _ _ (fun r e q => vq (fun d q => qZ (fun d q => qbC h q) q) q) q) q) q⟩
 obtain ⟨env, f, A, q⟩ := q
 refine ⟨env, f, A, he.mono _ _ _ (fun r e1 q => ?_) q⟩
 intro v H1 f1 g1 A1 R1 S1 K1
 refine ⟨e1, f1, A1, ho.mono _ _ _ (fun ro e2 q => ?_) q⟩
 intro vo H2 f2 g2 A2 R2 S2 K2
 refine ⟨e2, f2, A2, hi.mono _ _ _ (fun ri e3 q => ?_) q⟩
 intro vi H3 f3 g3 A3 R3 S3 K3
 obtain ⟨R1', n1⟩ := R1.wait A1 S2 K2
 obtain ⟨R1'', n1'⟩ := R1'.wait A2 S3 K3
 obtain ⟨R2', n2⟩ := R2.wait A2 S3 K3
 have S : Stp H env f [] H3 e3 f3 g1 := ((S1.trans ((S2.drop (G2 := []) fun _ z => by simp at z).frame g1)).drop (G2 := g1) (fun b hb => by simpa using hb)).trans ((S3.drop (G2 := []) fun _ z => by simp at z).frame g1) |>.drop fun b hb => by simpa using hb
 have Kk := (K1.trans K2).trans K3
 obtain ⟨d, rd1, q, nn⟩ := Zr A3 R1'' q
 obtain ⟨di, gi, rpi, q⟩ := xf A3 R3 q
 obtain ⟨n, dd, m, en, hm, hl, hv, rp, rfl, q⟩ := qa6 A3 R2' q
 split at q
 ·obtain ⟨a, xs, fp, rfl, hH, ek, nd, kok, rr, hf, nfp⟩ := rp.dNAt
  obtain ⟨b, k, rfl, hk, hd, z, q⟩ := V5 rpi q
  have dj : ∀ b ∈ fp, b ∉ g1 := fun b hb z => (nn b z).1 ⟨n, _, m, en, hl, by rw [hf]; exact List.mem_cons_of_mem _ hb⟩
  have ekp : (xs.map prN).map (·.1) = _ := (qaM xs).trans ek
  obtain ⟨fp', r', s'⟩ := QH (k := k) (hs := xs.map prN) rd1 ekp (by rw [qaL]; exact rr) dj
  have ndh : ((xs.map prN).map (·.1)).Nodup := by rw [ekp]; exact nd
  have e1 : (putN xs k b v).map prN = putV k v (xs.map prN) := by rw [qcI, qaH ndh]
  obtain ⟨A4, S4, K4, _⟩ := qfK (G := g1) (G' := []) (hs := putN xs k b v) A3 en hm hl hv hH qgC hf (nfp rfl) (by rw [← qaM, e1]; exact QJ k v d ekp) (uC nd) (V2 kok hk hd) (by rw [← qaL, e1]; exact r') s' nn qC
  have hlen := congrArg List.length ek
  rw [List.length_map, List.length_map] at hlen
  exact ⟨a, xs, k, b, rfl, rfl, hH, kok, hk, hd, by rw [hlen]; exact z, q σ _ _ A4 (S.trans S4) (Kk.trans K4).kq⟩
 ·exact q.elim
end
end BX
namespace TX
open PySem PySem.Spec PyProof.Rows L2 BX RT PySem.W
section
variable {α β γ δ κ : Type}
def nI (i : Int) : NK := .num i
def nT2 (f : α → NK) (g : β → NK) (p : α × β) : NK := .tup [f p.1, g p.2]
def nT4 (f : α → NK) (g : β → NK) (h : γ → NK) (i : δ → NK) (p : α × β × γ × δ) : NK := .tup [f p.1, g p.2.1, h p.2.2.1, i p.2.2.2]
def nV (f : α → NK) (l : List α) : NK := .tup (l.map f)
class Kn (c : α → D) (kf : outParam (α → NK)) (n : outParam Nat) : Prop where
 ok : ∀ a, toK (c a) = some (kf a)
 inj : ∀ a b, kf a = kf b → a = b
 dep : ∀ a, yG (kf a) ≤ n
class KnT (kf : α → NK) : Prop where
 tup : ∀ a, ∃ l, kf a = .tup l
instance : Kn D.int nI 0 := ⟨fun a => by rw [toK]; rfl, fun a b h => by unfold nI at h; injection h, fun a => by unfold nI; rw [yG] <;> exact Nat.le_refl _⟩
theorem Y8 {c : α → D} {kf : α → NK} {n : Nat} [h : Kn c kf n] : ∀ l : List α, toKs (l.map c) = some (l.map kf)
 | [] => by rw [List.map_nil, toKs]; rfl
 | a :: l => by rw [List.map_cons, toKs, h.ok, Y8 l]; rfl
theorem YF {c : α → D} {kf : α → NK} {n : Nat} [h : Kn c kf n] : ∀ l : List α, xV (l.map kf) ≤ n
 | [] => by rw [List.map_nil, xV]; exact Nat.zero_le _
 | a :: l => by
   rw [List.map_cons, xV]
   exact Nat.max_le.mpr ⟨h.dep (c := c) a, YF (c := c) l⟩
theorem map_inj {c : α → D} {kf : α → NK} {n : Nat} [h : Kn c kf n] : ∀ {l m : List α}, l.map kf = m.map kf → l = m
 | [], [], _ => rfl
 | [], _ :: _, e => by simp at e
 | _ :: _, [], e => by simp at e
 | a :: l, b :: m, e => by
   rw [List.map_cons, List.map_cons, List.cons.injEq] at e
   rw [h.inj (c := c) a b e.1, map_inj (c := c) e.2]
instance {c : α → D} {kf : α → NK} {n : Nat} [h : Kn c kf n] : Kn (eV c) (nV kf) (n + 1) := ⟨fun l => by unfold eV nV; rw [toK, Y8 (c := c)]; rfl, fun l m e => by unfold nV at e; injection e with e; exact map_inj (c := c) e, fun l => by unfold nV; rw [yG]; exact Nat.succ_le_succ (YF (c := c) l)⟩
instance {c : α → D} {d : β → D} {kf : α → NK} {kg : β → NK} {m n : Nat} [h : Kn c kf m] [g : Kn d kg n] : Kn (eT2 c d) (nT2 kf kg) (max m n + 1) := ⟨fun p => by unfold eT2 nT2; rw [toK, toKs, toKs, toKs, h.ok, g.ok]; rfl, fun p q e => by
 unfold nT2 at e
 injection e with e
 injection e with e1 e
 injection e with e2 _
 exact Prod.ext (h.inj (c := c) _ _ e1) (g.inj (c := d) _ _ e2), fun p => by
 unfold nT2
 rw [yG, xV, xV, xV]
 have a := h.dep (c := c) p.1
 have b := g.dep (c := d) p.2
 omega⟩
instance {c : α → D} {d : β → D} {e : γ → D} {i : δ → D} {kf : α → NK} {kg : β → NK} {kh : γ → NK} {ki : δ → NK} {a b m n : Nat} [h1 : Kn c kf a] [h2 : Kn d kg b] [h3 : Kn e kh m] [h4 : Kn i ki n] : Kn (eT4 c d e i) (nT4 kf kg kh ki) (max (max a b) (max m n) + 1) := ⟨fun p => by unfold eT4 nT4; rw [toK, toKs, toKs, toKs, toKs, toKs, h1.ok, h2.ok, h3.ok, h4.ok]; rfl, fun p q e' => by
 unfold nT4 at e'
 injection e' with e'
 injection e' with e1 e'
 injection e' with e2 e'
 injection e' with e3 e'
 injection e' with e4 _
 obtain ⟨p1, p2, p3, p4⟩ := p
 obtain ⟨q1, q2, q3, q4⟩ := q
 have := h1.inj (c := c) _ _ e1
 have := h2.inj (c := d) _ _ e2
 have := h3.inj (c := e) _ _ e3
 have := h4.inj (c := i) _ _ e4
 dsimp only at *
 subst_vars
 rfl, fun p => by
 unfold nT4
 rw [yG, xV, xV, xV, xV, xV]
 have := h1.dep (c := c) p.1
 have := h2.dep (c := d) p.2.1
 have := h3.dep (c := e) p.2.2.1
 have := h4.dep (c := i) p.2.2.2
 omega⟩
instance {kf : α → NK} : KnT (nV kf) := ⟨fun l => ⟨_, rfl⟩⟩
instance {kf : α → NK} {kg : β → NK} : KnT (nT2 kf kg) := ⟨fun l => ⟨_, rfl⟩⟩
instance {kf : α → NK} {kg : β → NK} {kh : γ → NK} {ki : δ → NK} : KnT (nT4 kf kg kh ki) := ⟨fun l => ⟨_, rfl⟩⟩
def eDN (kf : κ → NK) (f : α → D) (m : List (κ × α)) : D := .dN (m.map fun p => (kf p.1, f p.2))
instance {kf : κ → NK} {f : α → D} : Nn (eDN kf f) := ⟨fun _ => rfl⟩
variable [DecidableEq κ] {c : κ → D} {kf : κ → NK} {n : Nat} [hc : Kn c kf n] [ht : KnT kf] {f : α → D} {l : List (κ × α)} {k : κ} {v : α}
include hc ht in
theorem V6 (hn : n ≤ 8) {q : NK → Prop} (h : q (kf k)) : keyN (c k) q := by
 unfold keyN
 rw [hc.ok]
 obtain ⟨m, e⟩ := ht.tup k
 have d := hc.dep (c := c) k
 rw [e] at h d ⊢
 exact ⟨Nat.le_trans d hn, h⟩
include hc in
theorem qdn : hasN (l.map fun p => (kf p.1, f p.2)) (kf k) = hasA l k := by
 unfold hasN hasA
 rw [List.any_map]
 congr 1
 funext p
 show decide (kf p.1 = kf k) = decide (p.1 = k)
 exact decide_eq_decide.mpr ⟨fun z => hc.inj (c := c) _ _ z, fun z => by rw [z]⟩
include hc in
theorem qaJ : putD (kf k) (f v) (l.map fun p => (kf p.1, f p.2)) = (putA k v l).map fun p => (kf p.1, f p.2) := by
 induction l with
 | nil => rfl
 | cons p l ih =>
   rw [List.map_cons, putD, putA]
   by_cases h : p.1 = k
   ·simp [h]
   ·have : ¬ kf p.1 = kf k := fun z => h (hc.inj (c := c) _ _ z)
    rw [if_neg this, if_neg h, ih]; rfl
include hc ht in
theorem qaP (hn : n ≤ 8 := by decide) : OpTo (Qi false) (c k) (eDN kf f l) (.bl (hasA l k)) := fun kk q => by
 unfold eDN Qi
 refine V6 hn ?_
 rw [qdn (c := c)]
 simpa using q
include hc ht in
theorem Vw (hn : n ≤ 8 := by decide) : OpTo (Qi true) (c k) (eDN kf f l) (.bl (!hasA l k)) := fun kk q => by
 unfold eDN Qi
 refine V6 hn ?_
 rw [qdn (c := c)]
 simpa using q
variable {e : En} {i : Nat} {Q : R → En → Prop} {nx : En → Prop} {rt : D → En → Prop}
theorem qdN {kf : κ → NK} {f : α → D} (q : aR Q (.tmp (eDN kf f [])) e) : qdG e Q := q
theorem Jq {te to ti : XE} (q : te e fun r e1 => to e1 fun ro e2 => ti e2 fun ri e3 => stor r e3 fun d => rd 1 ri e3 fun di => qcH ro di d e3 nx) : Vn te to ti e nx rt := q
include hc ht in
theorem JC {m : Md} {r ri : R} {P : List (κ × α) → Prop} (ee : List (κ × α) → En) (h : lt (putA k v l) P) (hr : St e r (f v)) (hi : Rv e 1 ri (c k)) (h0 : e[i]? = some (some (eDN kf f l, m))) (hl : l.length < sizeLine) (he : ∀ x, e.set i (some (eDN kf f x, m)) = ee x) (q : ∀ x, P x → aN nx (ee x)) (hm : m = .own ∨ m = .io := by decide) (hn : n ≤ 8 := by decide) :
 stor r e fun d => rd 1 ri e fun di => qcH (.sl i) di d e nx := by
 have q := q _ h
 rw [← he] at q
 refine hr _ (hi.rd ?_)
 unfold eDN at h0 q
 rw [← qaJ (c := c)] at q
 show chg _ _ _
 unfold chg
 rcases hm with rfl | rfl <;> (simp only [h0]; exact V6 hn ⟨by rw [List.length_map]; exact hl, q⟩)
end
end TX
namespace BX
open PySem PySem.Spec PyProof.Rows L2 RT PySem.W
theorem qfM {n : Bool} : BlOp (Qi n) := fun d1 d2 k q => by
 unfold Qi at q ⊢
 split at q
 ·exact ZW (fun x z => ⟨⟨_, rfl⟩, z⟩) q
 ·exact q.elim
end BX
namespace TX
open PySem PySem.Spec PyProof.Rows L2 BX RT PySem.W
end TX
namespace BX
open PySem PySem.Spec PyProof.Rows L2
section
variable {X : Cx}
theorem qhc : CallR X (.builtin "len") (fun xs H Q => ∃ a ys, xs = [V.ref a] ∧ H a = some (NdO a ys) ∧ Kok H ys ∧ Q (.int ((ys.length : Nat) : Int)) H) := by
 intro pins s σ H xs us Q I r h
 obtain ⟨a, ys, rfl, ha, hk, q⟩ := h
 obtain ⟨u, rfl, rx⟩ := vals1 r
 cases rx
 obtain ⟨z, hm, zs, p, d⟩ := Qn I.hok ha hk
 have hl : ys.length = zs.length := Paired.length p
 refine call_len_dictH hm d (by rw [← hl]; rw [sizeLine_eq] at z; omega) ?_
 rw [← hl]
 exact ⟨.int ((ys.length : Nat) : Int), H, I.tok _, ⟨_, rfl⟩, q⟩
def qbQ (d : D) (k : D → Prop) : Prop := match d with
 | .dN kvs => k (.int ((kvs.length : Nat) : Int))
 | _ => False
theorem qhh : CallD X (.builtin "len") 1 (op1 qbQ) := QZ (by decide) (fun pins s σ H x us Q d g I rs r q => by
 unfold qbQ at q
 split at q
 ·obtain ⟨a, xs, f, rfl, hH, ek, nd, kok, rr, hf, nn⟩ := r.dNAt
  have hl := congrArg List.length ek
  rw [List.length_map, List.length_map] at hl
  exact qhc pins s σ H _ us Q I rs ⟨a, xs, rfl, hH, kok, by rw [hl]; exact q _ _ _ (.int _) .refl⟩
 ·exact q.elim) (fun d k k' h q => by
 unfold qbQ at q ⊢
 split at q
 ·exact h _ q
 ·exact q.elim)
end
structure PrN where
 at' : Addr
 kat : Addr
 key : NK
 val : V
def qdV (K : PySem.W.Frag) (H : Hp) (x : PrN) : Prop := SqT K H x.at' [.ref x.kat, x.val] ∧ NkV H x.key (.ref x.kat) ∧ yG x.key ≤ 8
def j8 (xs : List (NK × Addr × V)) (l : List PrN) : List (NK × Addr × V) := l.foldl (fun a x => putN a x.key x.kat x.val) xs
theorem Vr (l : List PrN) : ∀ xs, (j8 xs l).length ≤ xs.length + l.length := by
 induction l with
 | nil => intro xs; exact Nat.le_refl _
 | cons x l ih =>
   intro xs
   have h1 := ih (putN xs x.key x.kat x.val)
   have h2 := Xg (xs := xs) (k := x.key) (a := x.kat) (v := x.val)
   rw [List.length_cons]
   show (j8 (putN xs x.key x.kat x.val) l).length ≤ _
   omega
section
variable {P : Program} {w : World} {H : Hp} {h h' : Heap}
mutual
theorem qiS (I : HOk P w H h) (k : ∀ b o, h.get? b = some o → h'.get? b = some o) : ∀ {key : NK} {v : V} {u : Value}, NkV H key v → L2.RelV v u → NestedIs h' (toN key) u
 | .num i, v, u, hk, r => by
   rw [NkV] at hk; subst hk
   obtain ⟨t, rfl⟩ := r
   rw [toN]; exact .int i t
 | .tup l, v, u, hk, r => by
   rw [NkV] at hk
   obtain ⟨a, vs, rfl, ha, hs⟩ := hk
   cases r
   obtain ⟨_, its, rv, o, e1, e2, n, e3⟩ := I a _ ha
   rw [toN]
   refine .tup (k _ _ e1) e2 e3 ?_
   have := qfy I k hs rv
   simpa using this
theorem qfy (I : HOk P w H h) (k : ∀ b o, h.get? b = some o → h'.get? b = some o) : ∀ {l : List NK} {vs : List V} {us : List Value}, NkVs H l vs → Vals vs us → NestedAll h' (toNL l) us
 | [], vs, us, hk, r => by
   rw [NkVs] at hk; subst hk
   cases r; rw [toNL]; exact .nil
 | key :: l, vs, us, hk, r => by
   rw [NkVs] at hk
   obtain ⟨v, ws, rfl, h1, h2⟩ := hk
   cases r with
   | cons r1 r2 => rw [toNL]; exact .cons (qiS I k h1 r1) (qfy I k h2 r2)
end
theorem qiQ (I : HOk P w H h) (k : ∀ b o, h.get? b = some o → h'.get? b = some o) {key : NK} {a : Addr} (hk : NkV H key (.ref a)) (hd : yG key ≤ 8) : (jo P w).is h' key a := ⟨qiS I k hk rfl, by rw [Z5]; exact hd⟩
end
section
variable {X : Cx} {pins : List (Addr × Obj)} {σ : L2.St} {H : Hp} {s : Shared}
inductive TripN (H : Hp) (h : Heap) : List PrN → List (NK × Addr × Value) → Prop
 | nil : TripN H h [] []
 | cons {x : PrN} {u : Value} {l : List PrN} {ts : List (NK × Addr × Value)} : RelV x.val u → IsTup h x.at' #[.ref x.kat, u] → NkV H x.key (.ref x.kat) ∧ yG x.key ≤ 8 → TripN H h l ts → TripN H h (x :: l) ((x.key, x.kat, u) :: ts)
theorem qaw (I : Inv X pins σ H s) : ∀ {l : List PrN}, (∀ x ∈ l, qdV X.K H x) → ∃ ts, TripN H s.heap l ts
 | [], _ => ⟨[], .nil⟩
 | x :: l, h => by
   obtain ⟨ts, ht⟩ := qaw I fun y hy => h y (List.mem_cons_of_mem _ hy)
   obtain ⟨h1, h2⟩ := h x (List.mem_cons_self ..)
   obtain ⟨its, rv, hT, _⟩ := I.tuple h1
   obtain ⟨u, y, ei, ru, ry⟩ := vals2 rv
   subst ei
   cases (show u = Value.ref x.kat from ru)
   exact ⟨_, .cons ry hT h2 ht⟩
theorem TripN.len {h : Heap} : ∀ {l : List PrN} {ts : List (NK × Addr × Value)}, TripN H h l ts → ts.length = l.length
 | _, _, .nil => rfl
 | _, _, .cons _ _ _ t => by rw [List.length_cons, List.length_cons, t.len]
theorem TripN.get {h : Heap} : ∀ {l : List PrN} {ts : List (NK × Addr × Value)} {j : Nat} {t : NK × Addr × Value}, TripN H h l ts → ts[j]? = some t → ∃ x, l[j]? = some x ∧ t.2.1 = x.kat ∧ IsTup h x.at' #[.ref t.2.1, t.2.2]
 | _, _, 0, _, .cons r i e t, q => by cases q; exact ⟨_, rfl, rfl, i⟩
 | _, _, j + 1, _, .cons r i e t, q => by simpa using t.get (j := j) (by simpa using q)
theorem TripN.keys {h : Heap} {l : List PrN} {ts : List (NK × Addr × Value)} (t : TripN H h l ts) : ∀ y ∈ ts, NkV H y.1 (.ref y.2.1) ∧ yG y.1 ≤ 8 := by
 induction t with
 | nil => intro y hy; simp at hy
 | cons r i e t ih =>
   intro y hy
   rcases List.mem_cons.mp hy with rfl | hy
   ·exact e
   ·exact ih y hy
theorem TripN.all {h : Heap} {l : List PrN} {ts : List (NK × Addr × Value)} (t : TripN H h l ts) : ∀ {xs : List (NK × Addr × V)} {ys : List (NK × Addr × Value)}, PNd xs ys → PNd (j8 xs l) (storedAllH ys ts) := by
 induction t with
 | nil => intro xs ys r; exact r
 | cons rv i e t ih =>
   intro xs ys r
   exact ih (r.put _ _ rv)
theorem Z9 (hx : Ok X) : CallR X (.type "dict") (fun xs H Q => ∃ (a : Addr) (l : List PrN), xs = [.ref a] ∧ SqL X.K H a (l.map fun x => V.ref x.at') ∧ (∀ x ∈ l, qdV X.K H x) ∧ ∀ p, H p = none → Q (.ref p) (upd H p (NdO p (j8 [] l)))) := by
 intro pins s σ H xs us Q I r q
 obtain ⟨a, l, rfl, hq, hp, q⟩ := q
 obtain ⟨u, rfl, rx⟩ := vals1 r
 cases rx
 obtain ⟨its, rv, pl, hz⟩ := I.list hq
 obtain ⟨ts, T⟩ := qaw I hp
 have ei : its = l.map fun x => Value.ref x.at' := by
  have : ∀ {l : List PrN} {us : List Value}, Vals (l.map fun x => V.ref x.at') us → us = l.map fun x => Value.ref x.at' := by
   intro l
   induction l with
   | nil => intro us r; cases r; rfl
   | cons x l ih => intro us r; cases r with
     | cons h t => cases h; rw [List.map_cons, ← ih t]
  exact this rv
 subst ei
 rw [List.length_map] at hz
 have hl := T.len
 have big := I.big
 have hm : (s.heap.objs.size == sysModules) = false := beq_eq_false_iff_ne.mpr (Nat.ne_of_gt big)
 obtain ⟨o, n, ho, hc, hd, hdat⟩ := pl
 have P := PairArg.list (prog := X.prog) (w := X.w) a (l.map fun x => Value.ref x.at').toArray (fun j => (l.map (·.at')).getD j 0) (ts.map fun t => (Value.ref t.2.1, t.2.2))
 refine call_dict_pairsH (knd := jo X.prog X.w) (ps := ts) P (I.ok.hd hx.calm) ?_ ⟨⟨o, n, ho, hc, hd, hdat⟩, ?_, fun j k v e => ?_⟩ ⟨by simp, fun i key v e => ?_⟩ (fun h' hk y hy => ?_) (by rw [List.length_map, hl]; exact hz) fun h' tk hd' k => ?_
 ·show X.A.in1.in1.units + 8 < cLine
  have := hx.un
  have e : X.A.in1.in1.units ≤ X.A.units + 2 := by first | exact Nat.le_refl _ | (simp [Around.in1]) | omega
  omega
 ·simp [hl]
 ·rw [List.getElem?_map] at e
  cases et : ts[j]? with
  | none => rw [et] at e; cases e
  | some t =>
    rw [et] at e
    cases e
    obtain ⟨x, hx1, hx2, hx3⟩ := T.get et
    have hj : ((l.map (·.at')).getD j 0) = x.at' := by simp [List.getD, hx1]
    refine ⟨by simp [hx1], .inl ?_⟩
    show s.heap.IsTuple ((l.map (·.at')).getD j 0) _
    rw [hj]
    exact hx3
 ·rw [PairRel, List.getElem?_map] at e
  cases et : ts[i]? with
  | none => rw [et] at e; cases e
  | some t => rw [et] at e; cases e; exact ⟨t.1, t.2.1, rfl, rfl⟩
 ·obtain ⟨k1, k2⟩ := T.keys y hy
  exact qiQ I.hok (fun b o e => hk b o (Nat.ne_of_lt (Heap.lt_size e)) (by simp) e) k1 k2
 ·have hf : H s.heap.objs.size = none := I.hok.fresh (Nat.le_refl _)
  have kt := (T.all (xs := []) (ys := []) .nil)
  refine ⟨.ref s.heap.objs.size, upd H s.heap.objs.size (NdO s.heap.objs.size (j8 [] l)), I.laid (t' := tk) (fun b o e => k b o (by simp) e) (Nat.le_refl _) (qez ?_ hm kt hd'), rfl, q _ hf⟩
  have := Vr l []
  simp only [List.length_nil] at this
  omega
end
def qcM (d : D) : Option (NK × D) := match d with
 | .tup [kd, v] => match toK kd with
   | some (.tup l) => if yG (.tup l) ≤ 8 ∧ v.imm = true then some (.tup l, v) else none
   | _ => none
 | _ => none
def YB : List D → Option (List (NK × D))
 | [] => some []
 | d :: r => match qcM d, YB r with
   | some p, some l => some (p :: l)
   | _, _ => none
def jW (kvs : List (NK × D)) (l : List (NK × D)) : List (NK × D) := l.foldl (fun a x => putD x.1 x.2 a) kvs
def YZ (d : D) (k : D → Prop) : Prop := match d with
 | .lst xs => match YB xs with
   | some l => k (.dN (jW [] l))
   | none => False
 | _ => False
section
variable {K : PySem.W.Frag} {H : Hp} {lv : Nat}
theorem qer {d : D} {v : V} {f : List Addr} {p : NK × D} (hl : lv ≤ 1) (r : Rep K H lv d v f) (e : qcM d = some p) : ∃ x : PrN, v = V.ref x.at' ∧ qdV K H x ∧ x.key = p.1 ∧ Rep K H 0 p.2 x.val [] := by
 unfold qcM at e
 split at e
 ·rename_i kd w
  split at e
  ·rename_i l hk
   split at e
   ·rename_i hc
    cases e
    obtain ⟨a, vs, rfl, ha, rr⟩ := r.tupleAt hl
    cases rr with
    | cons r1 t _ => cases t with
      | cons r2 t _ =>
        cases t
        have h := r1.nk hl hk
        have h' := h
        rw [NkV] at h'
        obtain ⟨b, ws, rfl, _⟩ := h'
        obtain ⟨_, r0⟩ := r2.imm hl hc.2
        exact ⟨⟨a, b, .tup l, _⟩, rfl, ⟨.of ha, h, hc.1⟩, rfl, r0⟩
   ·cases e
  ·cases e
 ·cases e
theorem Jx : ∀ {xs : List D} {vs : List V} {f : List Addr} {l : List (NK × D)}, lv ≤ 1 → Reps K H lv xs vs f → YB xs = some l → ∃ ps : List PrN, vs = ps.map (fun x => V.ref x.at') ∧ (∀ x ∈ ps, qdV K H x) ∧ Paired (fun (x : PrN) (p : NK × D) => x.key = p.1 ∧ Rep K H 0 p.2 x.val []) ps l
 | _, _, _, _, _, .nil, e => by cases e; exact ⟨[], rfl, fun x hx => by simp at hx, .nil⟩
 | _, _, _, l, hl, .cons r t _, e => by
   rw [YB] at e
   split at e
   ·rename_i p l' h1 h2
    cases e
    obtain ⟨x, rfl, ho, hx⟩ := qer hl r h1
    obtain ⟨ps, rfl, hp, hq⟩ := Jx hl t h2
    exact ⟨x :: ps, rfl, fun y hy => (List.mem_cons.mp hy).elim (fun z => z ▸ ho) (hp y), .cons hx hq⟩
   ·cases e
theorem Ju {k : NK} {b : Addr} {d : D} {v : V} {xs : List (NK × Addr × V)} {kvs : List (NK × D)} (r : Rep K H 0 d v []) (ek : xs.map (·.1) = kvs.map (·.1)) (nd : (kvs.map (·.1)).Nodup) (rr : Reps K H 0 (kvs.map (·.2)) (xs.map (·.2.2)) []) :
 (putN xs k b v).map (·.1) = (putD k d kvs).map (·.1) ∧ ((putD k d kvs).map (·.1)).Nodup ∧ Reps K H 0 ((putD k d kvs).map (·.2)) ((putN xs k b v).map (·.2.2)) [] := by
 have ekp : (xs.map prN).map (·.1) = kvs.map (·.1) := (qaM xs).trans ek
 have ndh : ((xs.map prN).map (·.1)).Nodup := by rw [ekp]; exact nd
 have e1 : (putN xs k b v).map prN = putV k v (xs.map prN) := by rw [qcI, qaH ndh]
 obtain ⟨fp', r', s'⟩ := QH (k := k) (hs := xs.map prN) r ekp (by rw [qaL]; exact rr) (fun _ hb => by simp at hb)
 have e := nil_of (l := fp') fun b hb => (s' b hb).elim id id
 subst e
 refine ⟨by rw [← qaM, e1]; exact QJ k v d ekp, uC nd, by rw [← qaL, e1]; exact r'⟩
theorem Vq {ps : List PrN} {l : List (NK × D)} (p : Paired (fun (x : PrN) (p : NK × D) => x.key = p.1 ∧ Rep K H 0 p.2 x.val []) ps l) : ∀ {xs : List (NK × Addr × V)} {kvs : List (NK × D)}, xs.map (·.1) = kvs.map (·.1) → (kvs.map (·.1)).Nodup → Reps K H 0 (kvs.map (·.2)) (xs.map (·.2.2)) [] →
 (j8 xs ps).map (·.1) = (jW kvs l).map (·.1) ∧ ((jW kvs l).map (·.1)).Nodup ∧ Reps K H 0 ((jW kvs l).map (·.2)) ((j8 xs ps).map (·.2.2)) [] := by
 induction p with
 | nil => intro xs kvs a b c; exact ⟨a, b, c⟩
 | @cons x q ps l h t ih =>
   intro xs kvs a b c
   obtain ⟨h1, h2, h3⟩ := Ju (k := q.1) (b := x.kat) h.2 a b c
   have := ih h1 h2 h3
   show (j8 (putN xs x.key x.kat x.val) ps).map (·.1) = (jW (putD q.1 q.2 kvs) l).map (·.1) ∧ _
   rw [h.1]
   refine ⟨this.1, this.2.1, ?_⟩
   show Reps K H 0 ((jW (putD q.1 q.2 kvs) l).map (·.2)) ((j8 (putN xs x.key x.kat x.val) ps).map (·.2.2)) []
   rw [h.1]
   exact this.2.2
theorem Vs {ps : List PrN} (h : ∀ x ∈ ps, qdV K H x) : ∀ {xs : List (NK × Addr × V)}, Kok H xs → Kok H (j8 xs ps) := by
 induction ps with
 | nil => intro xs k; exact k
 | cons x ps ih =>
   intro xs k
   have hx := h x (List.mem_cons_self ..)
   exact ih (fun y hy => h y (List.mem_cons_of_mem _ hy)) (V2 k hx.2.1 hx.2.2)
end
section
variable {X : Cx}
theorem qib {H : Hp} {p : Addr} {xs : List (NK × Addr × V)} {kvs : List (NK × D)} (h : H p = none) (kok : Kok H xs) (ek : xs.map (·.1) = kvs.map (·.1)) (nd : (kvs.map (·.1)).Nodup) (r : Reps X.K H 0 (kvs.map (·.2)) (xs.map (·.2.2)) []) : Rep X.K (upd H p (NdO p xs)) 0 (.dN kvs) (.ref p) [p] :=
 .dN upd_same ek nd (fun x hx => ⟨(kok x hx).1.keep fun b o e _ => by rw [upd_ne (ne_of_none e h)]; exact e, (kok x hx).2⟩) (r.keep fun b o e _ => by rw [upd_ne (ne_of_none e h)]; exact e) fun _ z => by simp at z
theorem qe1 (hx : Ok X) : CallD X (.type "dict") 1 (op1 YZ) := QZ (by decide) (fun pins s σ H x us Q d g I rs r q => by
 unfold YZ at q
 split at q
 ·split at q
  ·rename_i xs l e
   obtain ⟨a, vs, g', rfl, ha, rr, _⟩ := r.listAt1 (Nat.le_refl _)
   obtain ⟨ps, rfl, hp, hq⟩ := Jx (Nat.le_refl _) rr e
   obtain ⟨h1, h2, h3⟩ := Vq hq (xs := []) (kvs := []) rfl List.nodup_nil .nil
   exact Z9 hx pins s σ H _ us Q I rs ⟨a, ps, rfl, .inl (.inl ha), hp, fun p hf => q _ _ _ (qib hf (Vs hp fun x hx => by cases hx) h1 h2 h3) (.upd hf)⟩
  ·exact q.elim
 ·exact q.elim) (fun d k k' h q => by
 unfold YZ at q ⊢
 split at q
 ·split at q
  ·rename_i l e
   first | (simp only [e]; exact h _ q) | (have q2 := h _ q; simp only [*])
  ·exact q.elim
 ·exact q.elim)
end
end BX
namespace BX
open PySem PySem.Spec PyProof.Rows L2
def mrgN (xs ys : List (NK × Addr × V)) : List (NK × Addr × V) := ys.foldl (fun a x => putN a x.1 x.2.1 x.2.2) xs
theorem qeD (ys : List (NK × Addr × V)) : ∀ xs, (mrgN xs ys).length ≤ xs.length + ys.length := by
 induction ys with
 | nil => intro xs; exact Nat.le_refl _
 | cons x l ih =>
   intro xs
   have h1 := ih (putN xs x.1 x.2.1 x.2.2)
   have h2 := Xg (xs := xs) (k := x.1) (a := x.2.1) (v := x.2.2)
   rw [List.length_cons]
   show (mrgN (putN xs x.1 x.2.1 x.2.2) l).length ≤ _
   omega
theorem PNd.mrg {xs2 : List (NK × Addr × V)} {ys2 : List (NK × Addr × Value)} (p : PNd xs2 ys2) : ∀ {xs : List (NK × Addr × V)} {ys : List (NK × Addr × Value)}, PNd xs ys → PNd (mrgN xs xs2) (storedAllH ys ys2) := by
 induction p with
 | nil => intro xs ys r; exact r
 | @cons a b xs2 ys2 h t ih =>
   intro xs ys r
   obtain ⟨h1, h2, h3⟩ := h
   have := ih (r.put b.1 b.2.1 h3)
   show PNd (mrgN (putN xs a.1 a.2.1 a.2.2) xs2) (storedAllH (storedH ys b.1 b.2.1 b.2.2) ys2)
   rw [h1, h2]
   exact this
def qke : V → List V → Hp → VK → Prop := fun x xs H Q => ∃ a b xs1 xs2, x = .ref a ∧ xs = [.ref b] ∧ a ≠ b ∧ H a = some (NdO a xs1) ∧ Kok H xs1 ∧ H b = some (NdO b xs2) ∧ Kok H xs2 ∧ (xs1 ≠ [] ∨ (xs2.map fun x => zE x.1).Nodup) ∧
 xs1.length + xs2.length ≤ sizeLine ∧ Q .non (L2.upd H a (NdO a (mrgN xs1 xs2)))
section
variable {X : Cx}
theorem qiC {pins : List (Addr × Obj)} {σ : L2.St} {H : Hp} {s : Shared} (I : Inv X pins σ H s) {k : NK} {a : Addr} (h : NkV H k (.ref a)) : s.TypeIs (.ref a) "tuple" := by
 cases k with
 | num i => rw [NkV] at h; cases h
 | tup l =>
   rw [NkV] at h
   obtain ⟨b, vs, e, ha, _⟩ := h
   cases e
   obtain ⟨_, its, rv, o, e1, e2, _⟩ := I.hok a _ ha
   exact ⟨o, e1, e2⟩
theorem qgD (hx : Ok X) : MtR X "dict.update" qke := by
 intro pins s σ H x xs v us Q I rx rxs h
 obtain ⟨a, b, xs1, xs2, rfl, rfl, ne, ha, k1, hb, k2, hap, hsz, q⟩ := h
 cases rx
 obtain ⟨u, rfl, r1⟩ := vals1 rxs
 cases r1
 obtain ⟨z1, m1, ys1, p1, d1⟩ := Qn I.hok ha k1
 obtain ⟨z2, m2, ys2, p2, d2⟩ := Qn I.hok hb k2
 have l1 : xs1.length = ys1.length := Paired.length p1
 have l2 : xs2.length = ys2.length := Paired.length p2
 refine call_update_dictH (knd := jo X.prog X.w) (Xq hx) ne m2 d1 d2 ?_ (by omega) fun h' hd' ho' hs' => ?_
 ·rcases hap with h | h
  ·refine .inl fun z => h ?_
   rw [z] at l1
   exact List.length_eq_zero_iff.mp l1
  ·refine .inr ⟨fun y hy => ?_, ?_⟩
   ·obtain ⟨x, hx, e1, e2⟩ := PNd.mem p2 y hy
    have := (k2 x hx).1
    rw [e2] at this
    exact qiC I this
   ·have e : (ys2.map fun y => (jo X.prog X.w).hash y.1) = xs2.map fun x => zE x.1 := by
     have := PNd.keys p2
     have e2 := congrArg (List.map zE) this
     rw [List.map_map, List.map_map] at e2
     exact e2
    rw [e]; exact h
 ·obtain ⟨o1, es, ep, g1, _⟩ := id hd'
  refine ⟨.non, L2.upd H a (NdO a (mrgN xs1 xs2)), I.write (x := a) (e := a) (by rw [ha]; exact True.intro) (.inl rfl) (fun c o2 hc e => by rw [hs'.2 c hc]; exact e) ⟨o1, g1⟩ (qez (by have := qeD xs2 xs1; omega) m1 (p2.mrg p1) hd'), rfl, q⟩
variable {o e : Expr} {to te : TE} {name : Str} {apos cpos : Pos} {id : String} {r : V → List V → Hp → VK → Prop}
theorem qig (pa : PlainAttrs "dict") (slot : Slot "dict" name id) (hty : typeOf (.builtin id) = pure (.type "method_descriptor")) (hm : MtR X id r) (ho : PE X o to) (he : PE X e te)
 (hbase : attributeBase o name X.env (eval o X.env) = eval o X.env := by rfl)
 (hfew : ((backTo cpos (starEach [e] X.env)).all (fun x => !x.1) && (backToKw cpos (keywordEach [] X.env)).all (fun x => x.1.isSome)
  && decide ([e].length + ([] : List Keyword).length + (if ([] : List Keyword).isEmpty then 0 else 1) < 30)) = true := by rfl)
 (hline : (apos.endLine == cpos.line) = true := by rfl) (hs : starEach [e] X.env = (false, eval e X.env) :: starEach [] X.env := by rfl) (hplain : (backTo cpos (starEach [] X.env)).any (·.1) = false := by rfl) :
 PE X (.Call (.Attribute o name apos) [e] [] cpos) (fun σ H Q => to σ H fun x H1 => (∃ a xs, x = .ref a ∧ H1 a = some (NdO a xs) ∧ Kok H1 xs) ∧ te σ H1 fun y H2 => r x [y] H2 Q) := by
 refine ⟨fun pins s σ H Q I h => ?_⟩
 have ha : PA X [e] (tCons te tNil) := pa_cons he pa_nil hs
 refine wpAny_Call_method_late hbase hfew hline rfl (thn (ho.run pins s σ H _ I h) fun v s1 ⟨x, H1, I1, r1, ty, q1⟩ => ?_)
 obtain ⟨a, xs, rfl, hH, kok⟩ := ty
 cases r1
 obtain ⟨_, _, ys, _, d⟩ := Qn I1.hok hH kok
 refine ⟨"dict", id, pa, slot, hty, d.typeIs, dictOfH_noDict d, ?_⟩
 have hA := ha.run cpos pins s1 σ H1 (fun ys H2 => r (.ref a) ys H2 Q) I1 q1
 rw [hs] at hA ⊢
 refine Calls.callWith_builtin (by show (false || (backTo cpos (starEach [] X.env)).any (·.1)) = false; rw [hplain] <;> rfl) (Calls.evalArgs_plain ?_)
 exact thn hA fun us s2 ⟨vs, H2, I2, r2, q2⟩ => hm pins s2 σ H2 (.ref a) vs _ us Q I2 rfl r2 q2
end
section
variable {K : PySem.W.Frag} {H : Hp}
theorem qc0 : ∀ {l : List (NK × D)} {xs2 : List (NK × Addr × V)} {F : List Addr}, xs2.map (·.1) = l.map (·.1) → immL (l.map (·.2)) = true → Reps K H 0 (l.map (·.2)) (xs2.map (·.2.2)) F → ∀ {xs : List (NK × Addr × V)} {kvs : List (NK × D)}, xs.map (·.1) = kvs.map (·.1) → (kvs.map (·.1)).Nodup → Reps K H 0 (kvs.map (·.2)) (xs.map (·.2.2)) [] →
 (mrgN xs xs2).map (·.1) = (jW kvs l).map (·.1) ∧ ((jW kvs l).map (·.1)).Nodup ∧ Reps K H 0 ((jW kvs l).map (·.2)) ((mrgN xs xs2).map (·.2.2)) []
 | [], [], _, _, _, _, _, _, a, b, c => ⟨a, b, c⟩
 | [], _ :: _, _, e, _, _, _, _, _, _, _ => by cases e
 | _ :: _, [], _, e, _, _, _, _, _, _, _ => by cases e
 | p :: l, x :: xs2, _, e, im, .cons r t _, xs, kvs, a, b, c => by
   injection e with e1 e2
   have e1 : x.1 = p.1 := e1
   rw [List.map_cons, immL, Bool.and_eq_true] at im
   obtain ⟨h1, h2, h3⟩ := Ju (k := p.1) (b := x.2.1) (r.imm (Nat.zero_le _) im.1).2 a b c
   have := qc0 (l := l) (xs2 := xs2) e2 im.2 t h1 h2 h3
   show (mrgN (putN xs x.1 x.2.1 x.2.2) xs2).map (·.1) = (jW (putD p.1 p.2 kvs) l).map (·.1) ∧ _ ∧ Reps K H 0 _ ((mrgN (putN xs x.1 x.2.1 x.2.2) xs2).map (·.2.2)) []
   rw [e1]
   exact this
theorem qgE {xs2 : List (NK × Addr × V)} (h : Kok H xs2) : ∀ {xs : List (NK × Addr × V)}, Kok H xs → Kok H (mrgN xs xs2) := by
 induction xs2 with
 | nil => intro xs k; exact k
 | cons x l ih =>
   intro xs k
   obtain ⟨h1, h2⟩ := h x (List.mem_cons_self ..)
   exact ih (fun y hy => h y (List.mem_cons_of_mem _ hy)) (V2 k h1 h2)
end
def isNd (i : Nat) (env : En) : Prop := match env[i]? with
 | some (some (.dN _, .own)) => True
 | some (some (.dN _, .io)) => True
 | _ => False
def updK (i : Nat) (l : List (NK × D)) (e : En) (Q : En → Prop) : Prop := match e[i]? with
 | some (some (.dN kvs, m)) => m.rd = false ∧ (immL (kvs.map (·.2)) = true ∧ immL (l.map (·.2)) = true) ∧ (kvs ≠ [] ∨ (l.map fun p => zE p.1).Nodup) ∧ kvs.length + l.length ≤ sizeLine ∧ Q (e.set i (some (.dN (jW kvs l), m)))
 | _ => False
def qg7 (i : Nat) (t : XE) : XE := fun env Q => isNd i env ∧ t env fun r e => match r with
 | .tmp (.dN l) => updK i l e fun e' => Q (.tmp .non) e'
 | _ => False
theorem qch {i : Nat} {l : List (NK × D)} {e : En} {Q Q' : En → Prop} (h : ∀ e, Q e → Q' e) (q : updK i l e Q) : updK i l e Q' := by
 unfold updK at q ⊢
 split at q
 ·exact ⟨q.1, q.2.1, q.2.2.1, q.2.2.2.1, h _ q.2.2.2.2⟩
 ·exact q.elim
theorem qfZ {i : Nat} {l : List (NK × D)} {e : En} {Q : En → Prop} (q : updK i l e Q) : ∃ kvs m, e[i]? = some (some (.dN kvs, m)) ∧ m.rd = false ∧ (immL (kvs.map (·.2)) = true ∧ immL (l.map (·.2)) = true) ∧ (kvs ≠ [] ∨ (l.map fun p => zE p.1).Nodup) ∧ kvs.length + l.length ≤ sizeLine ∧ Q (e.set i (some (.dN (jW kvs l), m))) := by
 unfold updK at q
 split at q
 ·rename_i kvs m h
  exact ⟨kvs, m, h, q⟩
 ·exact q.elim
section
variable {X : Cx} {o e : Expr} {t : XE} {apos cpos : Pos} {i : Nat}
theorem qg1 (hx : Ok X) (ho : DE X o (dVar i)) (he : DE X e t) (hbase : attributeBase o "update" X.env (eval o X.env) = eval o X.env := by rfl)
 (hfew : ((backTo cpos (starEach [e] X.env)).all (fun x => !x.1) && (backToKw cpos (keywordEach [] X.env)).all (fun x => x.1.isSome)
  && decide ([e].length + ([] : List Keyword).length + (if ([] : List Keyword).isEmpty then 0 else 1) < 30)) = true := by rfl)
 (hline : (apos.endLine == cpos.line) = true := by rfl) (hs : starEach [e] X.env = (false, eval e X.env) :: starEach [] X.env := by rfl) (hplain : (backTo cpos (starEach [] X.env)).any (·.1) = false := by rfl) :
 DE X (.Call (.Attribute o "update" apos) [e] [] cpos) (qg7 i t) := by
 refine ⟨PE.imp (qig PySem.F.plainAttrs_dict PySem.F.slot_dict_update PySem.F.type_dict_update (qgD hx) ho.run he.run hbase hfew hline hs hplain) fun σ H Q q => ?_, fun env Q Q' h q => ⟨q.1, he.mono _ _ _ (fun r e q => by
  split at q
  ·exact qch (fun e q => h _ _ q) q
  ·exact q.elim) q.2⟩⟩
 obtain ⟨env, f, A, nd0, q⟩ := q
 obtain ⟨kvs0, m0, e0, hm0⟩ : ∃ kvs m, env[i]? = some (some (.dN kvs, m)) ∧ m.rd = false := by
  unfold isNd at nd0
  split at nd0
  ·rename_i k h; exact ⟨k, _, h, rfl⟩
  ·rename_i k h; exact ⟨k, _, h, rfl⟩
  ·exact nd0.elim
 refine ⟨env, f, A, ?_⟩
 have dv : ∀ {Q : R → En → Prop}, Q (.sl i) env → dVar i env Q := fun {Q} q => by
  unfold dVar
  rw [e0]
  cases m0 <;> first | exact q | cases hm0
 refine dv ?_
 intro x H1 f1 g1 A1 R1 S1 K1
 cases R1 with
 | @sl _ _ d0 m1 h1 h2 h3 =>
   rw [e0] at h2; cases h2
   obtain ⟨v0, hv0, rp⟩ := A1.rep _ _ _ e0
   rw [h1] at hv0; cases hv0
   rw [h3] at rp
   obtain ⟨a, xs, F, rfl, hH, ek, nd, kok, rr, hf, na⟩ := rp.dNAt
   refine ⟨⟨a, xs, rfl, hH, kok⟩, env, f1, A1, he.mono _ _ _ (fun r e2 q => ?_) q⟩
   intro y H2 f2 g2 A2 R2 S2 K2
   split at q
   ·rename_i l
    obtain ⟨kvs, m, e3, hm, ⟨im1, im2⟩, hap, hsz, q⟩ := qfZ q
    obtain ⟨v3, hv3, rp3⟩ := A2.rep _ _ _ e3
    rw [h1] at hv3; cases hv3
    rw [Md.lv_of hm] at rp3
    obtain ⟨a', xs1, F1, ea, hH1, ek1, nd1, kok1, rr1, hf1, na1⟩ := rp3.dNAt
    cases ea
    cases R2 with
    | @tmp _ _ g0 rp2 nn =>
      obtain ⟨b, xs2, F2, rfl, hH2, ek2, nd2, kok2, rr2, hf2, na2⟩ := rp2.dNAt
      have ne : a ≠ b := fun z => by
       subst z
       exact (nn a (by rw [hf2]; exact List.mem_cons_self ..)).1 ⟨i, _, m, e3, Md.lv_of hm, by rw [hf1]; exact List.mem_cons_self ..⟩
      obtain ⟨eF, rr1'⟩ := rr1.imm (Nat.zero_le _) im1
      obtain ⟨q1, q2, q3⟩ := qc0 ek2 im2 rr2 ek1 nd1 rr1'
      have l1 := congrArg List.length ek1
      have l2 := congrArg List.length ek2
      rw [List.length_map, List.length_map] at l1 l2
      refine ⟨a, b, xs1, xs2, rfl, rfl, ne, hH1, kok1, hH2, kok2, ?_, by rw [l1, l2]; exact hsz, ?_⟩
      ·rcases hap with z | z
       ·refine .inl fun w => z ?_
        rw [w] at l1
        exact List.length_eq_zero_iff.mp l1.symm
       ·refine .inr ?_
        have e := congrArg (List.map zE) ek2
        rw [List.map_map, List.map_map] at e
        have e : (xs2.map fun x => zE x.1) = l.map fun p => zE p.1 := e
        rw [e]; exact z
      ·obtain ⟨A4, S4, K4, _⟩ := qfK (G := g2) (G' := []) (hs := mrgN xs1 xs2) (fp' := []) A2 e3 hm (Md.lv_of hm) h1 hH1 qgC hf1 (na1 rfl) q1 q2 (qgE kok2 kok1) q3 (fun b hb => by cases hb) nn (fun b hb => by cases hb)
       exact q _ _ _ [] A4 (.tmp .non (fun b hb => by cases hb)) ((S1.trans S2).trans S4) ((K1.trans K2).trans K4)
   ·exact q.elim
end
end BX
namespace BX
open PySem PySem.Spec PyProof.Rows L2 RT PySem.W
section
variable {X : Cx} {pins : List (Addr × Obj)} {σ : L2.St} {H : Hp} {s : Shared}
theorem Vj {d : Addr} {ds : List D} {vs : List Value} {Q : VK} (hx : Ok X) (I : Inv X pins σ H s) (e : EachIs (StF X.K H) vs ds) (ok : SortDs ds) (hz : vs.length ≤ sizeLine)
 (hc : ∀ (A : Around) (E : Value → Shared → Prop) (Q : List Value → Shared → Prop), A.handled = none → (∀ (h' : Heap) (tk : Nat), (∀ b o, s.heap.get? b = some o → h'.get? b = some o) → Q vs { s with heap := h', toks := tk }) → wpAny (model X.prog X.w) A (collect (.ref d)) Q E s)
 (q : ∀ p ys, H p = none → Reps X.K H 0 (Zx ds) ys [] → Q (.ref p) (L2.upd H p (.lst ys))) : wpAny (model X.prog X.w) X.A (call (.builtin "sorted") [.ref d]) (EP X pins σ Q) X.xe s := by
 refine Calls.call_function_entry kind_sorted plain_sorted entry_sorted (args_sorted1 _) ?_
 unfold Builtin.«sorted»
 refine wpAny_bind (m := checkCount "sorted" 1 1 _) (wpAny_pure ?_)
 refine wpAny_bind (hc X.A.in1 _ _ (I.ok.hd hx.calm) fun h' tk kp => ?_)
 refine wpAny_bind (wpAny_newList ?_ hz)
 have I1 : Inv X pins σ H { s with heap := h', toks := tk } := I.kept kp
 have hoL : (h'.push (seqObj "list" vs.toArray 0)).get? h'.objs.size = some (seqObj "list" vs.toArray 0) := Heap.get?_push_size _ rfl
 show wpAny _ _ _ _ _ { s with heap := h'.push (seqObj "list" vs.toArray 0), toks := tk }
 have er : EachIs (fun v b => ∃ as, Reads h' v (D.py b) as) vs ds := jw e fun v b hb ⟨y, rl, rp⟩ => Dp.reads I1 _ y v (rp.dp (ok.lay b hb).1) rl
 have old : ∀ b o, h'.get? b = some o → (sortingHeap (h'.push (seqObj "list" vs.toArray 0)) h'.objs.size vs).get? b = some o := fun b o e => sortingHeap_old (Nat.ne_of_lt (Heap.lt_size e)) (Heap.get?_push_of_some _ e)
 have er' : EachIs (fun v b => ∃ as, Reads (sortingHeap (h'.push (seqObj "list" vs.toArray 0)) h'.objs.size vs) v (D.py b) as) vs ds := er.mono fun _ _ ⟨as, r⟩ => ⟨as, PyProof.Rows.Reads.keeps (fun b o e => old b o e) r⟩
 have hL : ds.length ≤ sizeLine := by rw [← XD e]; exact hz
 have hu : ∀ b, b ∈ ds → X.A.in1.units + 1 + (D.py b).depth < cLine := fun b hb => by
  have h1 := (ok.lay b hb).2
  have := hx.un
  have e : X.A.in1.units ≤ X.A.units + 1 := by first | exact Nat.le_refl _ | (simp [Around.in1]) | omega
  omega
 refine wpAny_bind (wpAny_holding (wpAny_call_entry slot_list_sort ⟨_, hoL, rfl⟩ entry_list_sort (list_sort_vals (s := { s with heap := h'.push (seqObj "list" vs.toArray 0), toks := tk }) (κ := dataKind (sortingHeap (h'.push (seqObj "list" vs.toArray 0)) h'.objs.size vs) (ds.map D.py)) hoL (SortsAt.data (s := { s with heap := sortingHeap (h'.push (seqObj "list" vs.toArray 0)) h'.objs.size vs, toks := tk }) (each_map (R := fun v d => ∃ as, Reads (sortingHeap (h'.push (seqObj "list" vs.toArray 0)) h'.objs.size vs) v d as) D.py er') ok.alike ok.kinds (bound_map hu)) (by rw [e.length]; exact hL) ⟨.none, rfl, ?_⟩) (args_list_sort _)))
 have eo := sortVals_data false e er' ok.alike
 have ol : (sortVals (dataKind (sortingHeap (h'.push (seqObj "list" vs.toArray 0)) h'.objs.size vs) (ds.map D.py)) false vs vs).length = vs.length := sortVals_length false rfl
 generalize sortVals (dataKind (sortingHeap (h'.push (seqObj "list" vs.toArray 0)) h'.objs.size vs) (ds.map D.py)) false vs vs = out at eo ol ⊢
 obtain ⟨n, hn⟩ := PyProof.Rows.sortedHeap_at (vs := vs) (out := out.toArray) hoL
 have k2 : ∀ b o, h'.get? b = some o → (sortedHeap (h'.push (seqObj "list" vs.toArray 0)) h'.objs.size vs out.toArray).get? b = some o := fun b o e => by
  have hbb : b < h'.objs.size := Heap.lt_size e
  rw [PyProof.Rows.sortedHeap_old (Nat.ne_of_lt hbb) (by rw [size_push']; exact Nat.lt_succ_of_lt hbb)]
  exact Heap.get?_push_of_some _ e
 have hf : H h'.objs.size = none := I1.hok.fresh (Nat.le_refl _)
 obtain ⟨ys, ry, rp⟩ := Z3 (fun d x r => r) eo
 refine wpAny_pure ⟨_, rfl, .ref h'.objs.size, L2.upd H h'.objs.size (.lst ys), I1.laid (t' := tk) k2 (Nat.le_refl _) ?_, rfl, q _ ys hf rp⟩
 exact ⟨by rw [ry.length, ol]; exact hz, out, n, ry, hn⟩
end
section
variable {X : Cx}
theorem qee {K : PySem.W.Frag} {H : Hp} {xs : List (NK × Addr × V)} {ys : List (NK × Addr × Value)} (p : PNd xs ys) : Kok H xs → EachIs (StF K H) (ys.map fun y => Value.ref y.2.1) (xs.map fun x => nkD x.1) := by
 induction p with
 | nil => intro _; exact .nil
 | @cons x y xs ys h t ih =>
   intro k
   refine .cons ⟨.ref x.2.1, ?_, ((k x (List.mem_cons_self ..)).1).rep⟩ (ih fun z hz => k z (List.mem_cons_of_mem _ hz))
   rw [h.2.1]; rfl
def YW (d : D) (k : D → Prop) : Prop := match d with
 | .dN kvs => SortDs (kvs.map fun p => nkD p.1) ∧ k (.lst (Zx (kvs.map fun p => nkD p.1)))
 | _ => False
theorem qeZ (hx : Ok X) : CallD X (.builtin "sorted") 1 (op1 YW) := QZ (by decide) (fun pins s σ H x us Q d g I rs r q => by
 obtain ⟨u, rfl, rx⟩ := vals1 rs
 unfold YW at q
 split at q
 ·rename_i kvs
  obtain ⟨ok, q⟩ := q
  obtain ⟨a, xs, f, rfl, hH, ek, nd, kok, rr, hf, nn⟩ := r.dNAt
  cases rx
  obtain ⟨⟨⟨z, hss, _⟩, ys, pr, o, es, ep, ho, hxx, hdt, hee⟩, _⟩ := (show ObjOk X.prog X.w H s.heap a (NdO a xs) from I.hok a _ hH)
  have l1 : es.size = ys.length := by rw [← Array.length_toList, hee, List.length_map]
  have l2 : xs.length = ys.length := Paired.length pr
  have ed : (xs.map fun x => nkD x.1) = kvs.map fun p => nkD p.1 := by
   have := congrArg (List.map nkD) ek
   rw [List.map_map, List.map_map] at this
   exact this
  refine Vj (vs := ys.map fun y => Value.ref y.2.1) (ds := kvs.map fun p => nkD p.1) hx I (by rw [← ed]; exact qee pr kok) ok (by rw [List.length_map]; omega) (fun A E Q hh k => ?_) fun p zs hp rz => q _ _ _ (vf hp rz) (Ext.upd hp)
  refine PySem.W.kdu_collect (A := A) (kdl_raw hss hxx hdt) hh ho (by omega) fun h' tk acc kp it => ?_
  have ea : acc.toList = ys.map fun y => Value.ref y.2.1 := by
   apply List.ext_getElem?
   intro j
   have hl : acc.toList.length = ys.length := by rw [Array.length_toList, it.1]; exact l1
   cases hj : acc.toList[j]? with
   | none =>
     have h1 := List.getElem?_eq_none_iff.mp hj
     rw [List.getElem?_eq_none (by rw [List.length_map]; omega)]
   | some v =>
     obtain ⟨en, hen, hv⟩ := it.2 j v (by rw [← Array.getElem?_toList]; exact hj)
     have qe : es[j]? = (ys[j]?).map qgw := by rw [← Array.getElem?_toList, hee, List.getElem?_map]
     rw [hen] at qe
     rw [List.getElem?_map]
     cases hb : ys[j]? with
     | none => rw [hb] at qe; cases qe
     | some b =>
       rw [hb] at qe
       have e2 : en = qgw b := Option.some.inj qe
       rw [hv, e2]
       rfl
  rw [ea]
  exact k h' tk kp
 ·exact q.elim) (fun d k k' h q => by
 unfold YW at q ⊢
 split at q
 ·exact ⟨q.1, h _ q.2⟩
 ·exact q.elim)
end
end BX
namespace BX
open PySem PySem.Spec PyProof.Rows L2 RT PySem.W
def qet : OP := fun a b k => (a.imm = true ∧ b.imm = true) ∧ (alike a.py b.py = true ∧ a.py ≠ .none) ∧ (a.py.canLay0 = true ∧ b.py.canLay0 = true) ∧ a.py.depth ≤ 40 ∧ k (.bl (dataLt a.py b.py))
section
variable {X : Cx}
theorem qfm (hx : Ok X) : OpD X (compareOp .Lt) 1 qet := .mk' (fun pins s σ H x y v u Q d1 d2 g1 g2 I rx ry r1 r2 q => by
 obtain ⟨⟨i1, i2⟩, ⟨al, nn⟩, ⟨c1, c2⟩, dp, q⟩ := q
 have p1 := (r1.imm (Nat.le_refl _) i1).2
 have p2 := (r2.imm (Nat.le_refl _) i2).2
 obtain ⟨as, ra⟩ := Dp.reads I _ x v (p1.dp c1) rx
 obtain ⟨bs, rb⟩ := Dp.reads I _ y u (p2.dp c2) ry
 have hu := hx.un
 exact lt_data ra rb al nn (by omega) ⟨.bl (dataLt d1.py d2.py), H, I, rfl, q _ _ [] (.bl _) .refl⟩) (fun a b k k' h q => ⟨q.1, q.2.1, q.2.2.1, q.2.2.2.1, h _ q.2.2.2.2⟩)
def vG (n : Bool) : OP := fun a b k => match b with
 | .dF kvs => match a with
   | .tup ds => match xU ds with
     | some ks => k (.bl (n != hasT kvs ks))
     | none => False
   | _ => False
 | _ => False
theorem qaS {n : Bool} : Jd (vG n) := fun d1 d2 k k' h q => by
 unfold vG at q ⊢
 split at q
 ·split at q
  ·split at q
   ·simp only [*] <;> exact h _ q
   ·exact q.elim
  ·exact q.elim
 ·exact q.elim
theorem qdi {n : Bool} (hx : Ok X) {pins : List (Addr × Obj)} {s : Shared} {σ : L2.St} {H : Hp} {x y : V} {v u : Value} {Q : VK} {d1 d2 : D} {g1 g2 : List Addr} (I : Inv X pins σ H s) (rx : RelV x v) (ry : RelV y u) (r1 : Rep X.K H 1 d1 x g1) (r2 : Rep X.K H 1 d2 y g2)
 (q : vG n d1 d2 fun d => ∀ z H' g, Rep X.K H' 0 d z g → Ext H H' g → Q z H') : wpAny (model X.prog X.w) X.A (compareOp (if n then .NotIn else .In) v u) (EP X pins σ Q) X.xe s := by
 have hu := hx.un
 unfold vG at q
 split at q
 ·rename_i kvs
  split at q
  ·rename_i ds
   split at q
   ·rename_i ks e
    obtain ⟨a, vs, rfl, ha, ra⟩ := r1.tupleAt (Nat.le_refl _)
    rw [ra.xU e] at ha
    cases r2 with
    | @dF b o hs kvs hb he nd r =>
      cases ry
      have q' := q (.bl (n != hasT kvs ks)) H [] (.bl _) .refl
      have e2 := W4 (k := ks) he
      have g : DGet H b (.ref a) (valV hs ks) := .inr ⟨_, _, _, .inr ⟨o, hb⟩, rfl, ha, rfl⟩
      cases n with
      | false => exact d_in (by omega) I g rx fun s' I' => ⟨.bl _, H, I', rfl, by rw [e2]; simpa [hasT] using q'⟩
      | true => exact d_notIn (by omega) I g rx fun s' I' => ⟨.bl _, H, I', rfl, by rw [e2]; simpa [hasT] using q'⟩
   ·exact q.elim
  ·exact q.elim
 ·exact q.elim
theorem qin (hx : Ok X) : OpD X (compareOp .In) 1 (vG false) := .mk' (fun pins s σ H x y v u Q d1 d2 g1 g2 I rx ry r1 r2 q => qdi (n := false) hx I rx ry r1 r2 q) qaS
theorem Xn (hx : Ok X) : OpD X (compareOp .NotIn) 1 (vG true) := .mk' (fun pins s σ H x y v u Q d1 d2 g1 g2 I rx ry r1 r2 q => qdi (n := true) hx I rx ry r1 r2 q) qaS
theorem Um {n : Bool} : BlOp (vG n) := fun d1 d2 k q => by
 unfold vG at q ⊢
 split at q
 ·split at q
  ·split at q
   ·rename_i ks h
    first
     | exact ⟨⟨_, rfl⟩, q⟩
     | (simp only [h]; exact ⟨⟨_, rfl⟩, q⟩)
     | (rw [h]; exact ⟨⟨_, rfl⟩, q⟩)
   ·exact q.elim
  ·exact q.elim
 ·exact q.elim
end
end BX
namespace BX
open PySem PySem.Spec PyProof.Rows L2
def rotN (a : Nat) : Nat := Nat.add (Nat.mod (Nat.mul a 2147483648) 18446744073709551616) (Nat.div a 8589934592)
def Yk (acc h : Nat) : Nat := Nat.mod (Nat.mul (rotN (Nat.mod (Nat.add acc (Nat.mul h 14029467366897019727)) 18446744073709551616)) 11400714785074694791) 18446744073709551616
def finN (a : Nat) : Nat := cond (Nat.beq a 18446744073709551615) 1546275796 a
def endN (acc : Nat) : Nat := finN (Nat.mod (Nat.add acc 2870177450013471924) 18446744073709551616)
def ptN (x y : Nat) : Nat := endN (Yk (Yk 2870177450012600261 x) y)
def sdN (p w : Nat) : Nat := endN (Yk (Yk 2870177450012600261 p) w)
def spl (f : List Nat → List Nat → Bool) (K : Nat) : List Nat → List Nat → List Nat → Bool
 | [], e, o => f e o
 | a :: l, e, o => cond (Nat.beq (Nat.mod (Nat.div a K) 2) 0) (spl f K l (a :: e) o) (spl f K l e (a :: o))
def qbH : Nat → Nat → List Nat → Bool
 | 0, _, l => match l with
   | [] => true
   | [_] => true
   | _ => false
 | n + 1, K, l => match l with
   | [] => true
   | [_] => true
   | l => spl (fun e o => and (qbH n (Nat.mul K 2) e) (qbH n (Nat.mul K 2) o)) K l [] []
def qgK (n : Nat) : List Nat := (List.range n).flatMap fun x => (List.range n).flatMap fun y => (List.range 4).map fun w => sdN (ptN x y) w
theorem qhn : qbH 64 1 (qgK 42) = true := by decide +kernel
theorem qcn {f : List Nat → List Nat → Bool} {K : Nat} : ∀ {l e o : List Nat}, spl f K l e o = true → f ((l.filter fun a => Nat.beq (Nat.mod (Nat.div a K) 2) 0).reverse ++ e) ((l.filter fun a => !Nat.beq (Nat.mod (Nat.div a K) 2) 0).reverse ++ o) = true
 | [], e, o, h => h
 | a :: l, e, o, h => by
   unfold spl at h
   cases hb : Nat.beq (Nat.mod (Nat.div a K) 2) 0 with
   | true =>
     rw [hb] at h
     have := qcn (l := l) h
     rw [List.filter_cons_of_pos (by exact hb), List.filter_cons_of_neg (by rw [hb]; simp), List.reverse_cons, List.append_assoc]
     exact this
   | false =>
     rw [hb] at h
     have := qcn (l := l) h
     rw [List.filter_cons_of_neg (by rw [hb]; simp), List.filter_cons_of_pos (by rw [hb] <;> rfl), List.reverse_cons, List.append_assoc]
     exact this
theorem JL {l : List Nat} (h : l.reverse.Nodup) : l.Nodup := (List.reverse_perm l).nodup_iff.mp h
theorem Qq : ∀ {n K : Nat} {l : List Nat}, qbH n K l = true → l.Nodup
 | 0, K, l, h => by
   unfold qbH at h
   split at h
   ·exact List.nodup_nil
   ·simp
   ·cases h
 | n + 1, K, l, h => by
   unfold qbH at h
   split at h
   ·exact List.nodup_nil
   ·simp
   ·have h := qcn h
    have h := Bool.and_eq_true_iff.mp h
    rw [List.append_nil, List.append_nil] at h
    exact JK (p := fun a => Nat.beq (Nat.mod (Nat.div a K) 2) 0) (JL (Qq h.1)) (JL (Qq h.2))
theorem qgP (u v : Nat) : ((u + v * 14029467366897019727) % 18446744073709551616 * 2147483648 % 18446744073709551616 + (u + v * 14029467366897019727) % 18446744073709551616 / 8589934592) * 11400714785074694791 % 18446744073709551616 = Yk u v := rfl
theorem qiX (u : Nat) : endN u = finN ((u + 2870177450013471924) % 18446744073709551616) := rfl
theorem qgh (i : Int) (h1 : -9223372036854775808 ≤ i) (h2 : i < 9223372036854775808) (h3 : i ≠ -1) : reduceHash i = i := by
 unfold reduceHash
 have : (decide (-(2 ^ 63 : Int) ≤ i) && decide (i < 2 ^ 63)) = true := by
  rw [Bool.and_eq_true, decide_eq_true_eq, decide_eq_true_eq]; omega
 rw [if_pos this, if_neg (by simpa using h3)]
theorem qic (A : Nat) (lt : A < 18446744073709551616) : (reduceHash (if A == 18446744073709551615 then (1546275796 : Int) else if A < 9223372036854775808 then (A : Int) else (A : Int) - 18446744073709551616) % 18446744073709551616).toNat = finN A := by
 unfold finN
 cases hb : Nat.beq A 18446744073709551615 with
 | true =>
   have e := Nat.eq_of_beq_eq_true hb
   rw [if_pos (by rw [beq_iff_eq]; exact e), qgh _ (by omega) (by omega) (by omega), cond_true]
   omega
 | false =>
   have ne : A ≠ 18446744073709551615 := Nat.ne_of_beq_eq_false hb
   rw [if_neg (by rw [beq_iff_eq]; exact ne), cond_false]
   split
   ·rw [qgh _ (by omega) (by omega) (by omega)]; omega
   ·rw [qgh _ (by omega) (by omega) (by omega)]; omega
theorem qhY : (fun (acc : Nat) (h : Int) => ((((acc + (h % ((2 ^ 64 : Nat) : Int)).toNat * 14029467366897019727) % 2 ^ 64) * 2 ^ 31 % 2 ^ 64 + ((acc + (h % ((2 ^ 64 : Nat) : Int)).toNat * 14029467366897019727) % 2 ^ 64) / 2 ^ 33) * 11400714785074694791) % 2 ^ 64) = fun acc h => Yk acc (h % 18446744073709551616).toNat := by
 funext acc h
 have l3 : ((2 ^ 64 : Nat) : Int) = 18446744073709551616 := by omega
 rw [l3]
 have q64 : (2 : Nat) ^ 64 = 18446744073709551616 := by decide
 have q31 : (2 : Nat) ^ 31 = 2147483648 := by decide
 have q33 : (2 : Nat) ^ 33 = 8589934592 := by decide
 rw [q64, q31, q33]
 exact qgP acc _
theorem qf1 (hs : List Int) : Builtin.Tuple.tupleHashOf hs = (let acc : Nat := ((hs.foldl (fun (acc : Nat) (h : Int) => ((((acc + (h % ((2 ^ 64 : Nat) : Int)).toNat * 14029467366897019727) % 2 ^ 64) * 2 ^ 31 % 2 ^ 64 + ((acc + (h % ((2 ^ 64 : Nat) : Int)).toNat * 14029467366897019727) % 2 ^ 64) / 2 ^ 33) * 11400714785074694791) % 2 ^ 64) 2870177450012600261 : Nat) + (hs.length ^^^ (2870177450012600261 ^^^ 3527539))) % 2 ^ 64; if acc == 2 ^ 64 - 1 then (1546275796 : Int) else if acc < 2 ^ 63 then (acc : Int) else (acc : Int) - ((2 ^ 64 : Nat) : Int)) := rfl
theorem len2 (a b : Int) : ([a, b] : List Int).length = 2 := rfl
theorem tho (a b : Int) : Builtin.Tuple.tupleHashOf [a, b] = (let acc := (Yk (Yk 2870177450012600261 (a % 18446744073709551616).toNat) (b % 18446744073709551616).toNat + 2870177450013471924) % 18446744073709551616; if acc == 18446744073709551615 then (1546275796 : Int) else if acc < 9223372036854775808 then (acc : Int) else (acc : Int) - 18446744073709551616) := by
 rw [qf1, qhY, len2, List.foldl_cons, List.foldl_cons, List.foldl_nil]
 have l3 : ((2 ^ 64 : Nat) : Int) = 18446744073709551616 := by omega
 have q64 : (2 : Nat) ^ 64 = 18446744073709551616 := by decide
 have q63 : (2 : Nat) ^ 63 = 9223372036854775808 := by decide
 have qx : (2 ^^^ (2870177450012600261 ^^^ 3527539)) = 2870177450013471924 := by decide
 have q1 : (18446744073709551616 - 1 : Nat) = 18446744073709551615 := by decide
 rw [l3, qx, q64, q63, q1]
theorem th2 (a b : Int) : (reduceHash (Builtin.Tuple.tupleHashOf [a, b]) % 18446744073709551616).toNat = endN (Yk (Yk 2870177450012600261 (a % 18446744073709551616).toNat) (b % 18446744073709551616).toNat) := by
 rw [tho, qiX]
 exact qic _ (Nat.mod_lt _ (by omega))
def qbz (c : Int × Int) (w : Int) : NK := .tup [.tup [.num c.1, .num c.2], .num w]
theorem numA : ∀ x : Fin 64, (zE (.num ((x.1 : Nat) : Int)) % 18446744073709551616).toNat = x.1 := by decide +kernel
theorem numH {x : Nat} (h : x < 64) : (zE (.num (x : Int)) % 18446744073709551616).toNat = x := numA ⟨x, h⟩
theorem qh1 {x y w : Nat} (hx : x < 64) (hy : y < 64) (hw : w < 64) : (zE (qbz ((x : Int), (y : Int)) (w : Int)) % 18446744073709551616).toNat = sdN (ptN x y) w := by
 have e : zE (qbz ((x : Int), (y : Int)) (w : Int)) = reduceHash (Builtin.Tuple.tupleHashOf [reduceHash (Builtin.Tuple.tupleHashOf [zE (.num (x : Int)), zE (.num (y : Int))]), zE (.num (w : Int))]) := by
  unfold qbz
  simp only [zE, Wi]
 rw [e, th2, th2, numH hx, numH hy, numH hw]
 rfl
def qej : List ((Nat × Nat) × Nat) := (List.range 42).flatMap fun x => (List.range 42).flatMap fun y => (List.range 4).map fun w => ((x, y), w)
theorem qei : qej.map (fun p => sdN (ptN p.1.1 p.1.2) p.2) = qgK 42 := by
 unfold qej qgK
 rw [List.map_flatMap]
 congr 1
theorem qcr {c d : Int × Int} {v w : Int} (hc : (0 ≤ c.1 ∧ c.1 < 42) ∧ 0 ≤ c.2 ∧ c.2 < 42) (hd : (0 ≤ d.1 ∧ d.1 < 42) ∧ 0 ≤ d.2 ∧ d.2 < 42) (hv : 0 ≤ v ∧ v < 4) (hw : 0 ≤ w ∧ w < 4) (e : zE (qbz c v) = zE (qbz d w)) : c = d ∧ v = w := by
 obtain ⟨x, y⟩ := c
 obtain ⟨x', y'⟩ := d
 obtain ⟨x, rfl⟩ : ∃ n : Nat, x = (n : Int) := ⟨x.toNat, by omega⟩
 obtain ⟨y, rfl⟩ : ∃ n : Nat, y = (n : Int) := ⟨y.toNat, by omega⟩
 obtain ⟨x', rfl⟩ : ∃ n : Nat, x' = (n : Int) := ⟨x'.toNat, by omega⟩
 obtain ⟨y', rfl⟩ : ∃ n : Nat, y' = (n : Int) := ⟨y'.toNat, by omega⟩
 obtain ⟨v, rfl⟩ : ∃ n : Nat, v = (n : Int) := ⟨v.toNat, by omega⟩
 obtain ⟨w, rfl⟩ : ∃ n : Nat, w = (n : Int) := ⟨w.toNat, by omega⟩
 dsimp only at hc hd
 have mem : ∀ {p q r : Nat}, p < 42 → q < 42 → r < 4 → ((p, q), r) ∈ qej := fun hp hq hr => List.mem_flatMap.mpr ⟨_, List.mem_range.mpr hp, List.mem_flatMap.mpr ⟨_, List.mem_range.mpr hq, List.mem_map.mpr ⟨_, List.mem_range.mpr hr, rfl⟩⟩⟩
 have nd : (qej.map (fun p => sdN (ptN p.1.1 p.1.2) p.2)).Nodup := by rw [qei]; exact Qq qhn
 have e := congrArg (fun i => (i % 18446744073709551616 : Int).toNat) e
 rw [qh1 (by omega) (by omega) (by omega), qh1 (by omega) (by omega) (by omega)] at e
 have := qfA nd (mem (by omega) (by omega) (by omega)) (mem (by omega) (by omega) (by omega)) e
 injection this with h1 h2
 injection h1 with h3 h4
 rw [h2, h3, h4]
 exact ⟨rfl, rfl⟩
theorem Vl {l : List NK} (h : ∀ k ∈ l, ∃ c w, k = qbz c w ∧ ((0 ≤ c.1 ∧ c.1 < 42) ∧ 0 ≤ c.2 ∧ c.2 < 42) ∧ 0 ≤ w ∧ w < 4) (nd : l.Nodup) : (l.map zE).Nodup := by
 induction l with
 | nil => exact List.nodup_nil
 | cons k l ih =>
   obtain ⟨n1, n2⟩ := List.nodup_cons.mp nd
   refine List.nodup_cons.mpr ⟨fun z => n1 ?_, ih (fun k hk => h k (List.mem_cons_of_mem _ hk)) n2⟩
   obtain ⟨k', hk, e⟩ := List.mem_map.mp z
   obtain ⟨c, w, rfl, h1, h2⟩ := h k (List.mem_cons_self ..)
   obtain ⟨c', w', rfl, h3, h4⟩ := h k' (List.mem_cons_of_mem _ hk)
   obtain ⟨e1, e2⟩ := qcr h3 h1 h4 h2 e
   rw [← e1, ← e2]; exact hk
end BX
namespace BT2
open PySem PySem.Spec PyProof.Rows L2 BT
structure Mild {P : Program} {w : World} {κ : Type} [DecidableEq κ] (HK : HeapKind P w κ) (byv : κ → Bool) : Prop where
 stay : ∀ {h h' : Heap} {k : κ} {a : Addr}, (∀ b o vs n, h.get? b = some o → o.data = .seq vs n → h'.get? b = some o) → HK.is h k a → HK.is h' k a
 rm : ∀ {A : Around}, A.units + 40 < cLine → HK.room A
 cls : ∀ {A : Around} {E : Value → Shared → Prop} {s : Shared} {k : κ} {b : Addr} {Q : Bool → Shared → Prop}, HK.is s.heap k b → Q false s → wpAny (model P w) A (ofAClassStatement 8 (.ref b)) Q E s
 val : ∀ {A : Around} {E : Value → Shared → Prop} {s : Shared} {k : κ} {b : Addr} {Q : Bool → Shared → Prop}, HK.is s.heap k b → Q (byv k) s → wpAny (model P w) A (hashByValue 8 (.ref b)) Q E s
section
variable {P : Program} {w : World} {κ : Type} [DecidableEq κ] {HK : HeapKind P w κ} {byv : κ → Bool}
def vA (HK : HeapKind P w κ) (L : List (Addr × κ)) : List (Int × Value) := L.map fun p => (HK.hash p.2, Value.ref p.1)
def hsh (HK : HeapKind P w κ) (L : List (Addr × κ)) : List Int := L.map fun p => HK.hash p.2
structure StG (HK : HeapKind P w κ) (h : Heap) (a : Addr) (L : List (Addr × κ)) (es : Array (Int × Value)) (ep : Nat) (t : SetTable) : Prop where
 ob : ∃ o, h.get? a = some o ∧ o.ExactSet ∧ o.data = .set es ep t
 row : es.toList = vA HK L
 tab : Tb t (hsh HK L)
 nd : (L.map (·.2)).Nodup
 mem : ∀ p ∈ L, HK.is h p.2 p.1
 led : w.params.followText "set-order" = true ∨ t.led = true
 room : L.length * 5 < t.mask * 3
 few : L.length < 4096
variable {A : Around} {E : Value → Shared → Prop} {s : Shared} {a : Addr} {L : List (Addr × κ)} {es : Array (Int × Value)} {ep : Nat} {t : SetTable}
theorem uf : (hsh HK L).length = L.length := List.length_map _
theorem jr (h : es.toList = vA HK L) : es.size = L.length := by
 have := congrArg List.length h
 unfold vA at this
 simpa using this
theorem StG.fits (R : StG HK s.heap a L es ep t) : t.fits es.size = true := by
 have a := R.tab.sz
 have b := jr R.row
 have c := R.room
 rw [uf] at a
 unfold SetTable.fits SetTable.fill
 rw [R.tab.dm, Bool.and_eq_true, beq_iff_eq, decide_eq_true_eq]
 refine ⟨by omega, ?_⟩
 show t.place.size + 0 ≤ t.mask
 omega
theorem StG.at_ (R : StG HK s.heap a L es ep t) {i : Nat} {p : Addr × κ} (h : L[i]? = some p) : es[i]? = some (HK.hash p.2, Value.ref p.1) := by
 have e : es.toList[i]? = _ := congrArg (·[i]?) R.row
 rw [Array.getElem?_toList] at e
 rw [e]
 unfold vA
 simp [h]
theorem StG.whole (R : StG HK s.heap a L es ep t) : ¬ t.gaveWay = true := by
 unfold SetTable.gaveWay
 rw [R.tab.mg.odd]
 decide
abbrev pr (t : SetTable) (h : Int) (c : Nat) : SetTable.Probe := nth t.mask (runAt t.mask (SetTable.bits h % (t.mask + 1)) (SetTable.bits h)) c
theorem qfj (t : SetTable) (h : Int) (c q : Nat) : nth t.mask (pr t h c) q = pr t h (c + q) := (nth_add t.mask c _ q).symm
theorem JH (m : Nat) : ∀ (n : Nat) (p : SetTable.Probe), p.dummy = none → (nth m p n).dummy = none
 | 0, _, h => h
 | n + 1, p, h => JH m n (adv m p) (by unfold adv; split <;> exact h)
theorem Vu {hs : List Int} (T : Tb t hs) {h : Int} {K c : Nat} (hK : Hole t h K) (lt : K < 10 * SetTable.turns t.mask) (hc : c ≤ K) (f : Nat → Int) :
 (∃ q i, c ≤ q ∧ q < K ∧ t.place.toList[i]? = some (way t.mask h q) ∧ f i = h ∧ (∀ c' i', c ≤ c' → c' < q → t.place.toList[i']? = some (way t.mask h c') → f i' ≠ h) ∧
  t.probe f h (pr t h c) = some (.candidate (way t.mask h q) i (pr t h (q + 1)))) ∨
 ((∀ c' i', c ≤ c' → c' < K → t.place.toList[i']? = some (way t.mask h c') → f i' ≠ h) ∧ t.probe f h (pr t h c) = some (.empty (way t.mask h K) none)) := by
 have j_at : ∀ q, (nth t.mask (pr t h c) q).j = way t.mask h (c + q) := fun q => by rw [qfj]
 have all := go_spec t T.ris T.dm f h (10 * SetTable.turns t.mask) (K - c) (pr t h c) (JH _ _ _ rfl) (by omega) (fun q hq => by rw [j_at]; exact hK.2 _ (by omega))
  (by rw [j_at, show c + (K - c) = K by omega]; exact hK.1)
 rcases all with ⟨q, i, l, e1, e2, e3, e4⟩ | ⟨e3, e4⟩
 ·refine .inl ⟨c + q, i, by omega, by omega, by rw [← j_at]; exact e1, e2, fun c' i' l1 l2 e => ?_, ?_⟩
  ·refine e3 (c' - c) i' (by omega) ?_
   rw [j_at, show c + (c' - c) = c' by omega]
   exact e
  ·rw [← j_at, show c + q + 1 = c + (q + 1) by omega, ← qfj]
   exact e4
 ·refine .inr ⟨fun c' i' l1 l2 e => ?_, ?_⟩
  ·refine e3 (c' - c) i' (by omega) ?_
   rw [j_at, show c + (c' - c) = c' by omega]
   exact e
  ·have e5 := j_at (K - c)
   rw [show c + (K - c) = K by omega] at e5
   rw [← e5]
   exact e4
theorem qhS (M : Mild HK byv) {k : κ} {b : Addr} {Q : Bool → Shared → Prop} (hk : HK.is s.heap k b) {ys : List Value} (hy : ∀ y ∈ ys, ∃ k' c, y = Value.ref c ∧ HK.is s.heap k' c) (h : Q false s) :
 wpAny (model P w) A (searchCouldBeSeen (.ref b) ys) Q E s := by
 unfold searchCouldBeSeen
 apply wpAny_bind
 refine wpAny_forIn_list _ (fun rest r s' => r.1 = none ∧ s' = s ∧ ∀ y ∈ rest, ∃ k' c, y = Value.ref c ∧ HK.is s.heap k' c) _ ?step ?fin _ _ ⟨rfl, rfl, hy⟩
 case step =>
  intro v rest r s' z
  obtain ⟨hr, rfl, all⟩ := z
  obtain ⟨k', c, rfl, hc⟩ := all v (.head _)
  have more := fun u hu => all u (.tail _ hu)
  dsimp only
  by_cases q : (b == c || (carriedByValue (.ref b) && carriedByValue (.ref c))) = true
  ·exact wp_if_pos q (wpAny_pure ⟨rfl, rfl, more⟩)
  ·refine wp_if_neg q (wpAny_bind (HK.quiet hk ?_))
   simp only [Bool.not_true, Bool.false_eq_true, if_false]
   refine wpAny_bind (HK.quiet hc ?_)
   simp only [Bool.not_true, Bool.false_eq_true, if_false]
   refine wpAny_bind (M.cls hk ?_)
   simp only [Bool.false_eq_true, if_false]
   refine wpAny_bind (M.cls hc ?_)
   simp only [Bool.false_eq_true, if_false]
   exact wpAny_pure ⟨rfl, rfl, more⟩
 case fin =>
  rintro ⟨r1, r2⟩ s' ⟨hr, rfl, _⟩
  have hr : r1 = none := hr
  subst hr
  exact wpAny_pure h
theorem qct (M : Mild HK byv) (R : StG HK s.heap a L es ep t) {x : Addr} {k : κ} (hx : HK.is s.heap k x) (hu : A.units + 40 < cLine) {K : Nat} (lt : K < 10 * SetTable.turns t.mask) (hK : Hole t (HK.hash k) K)
 {Q : SetFound → Shared → Prop} (hin : k ∈ L.map (·.2) → Q (.there none) s) (hout : k ∉ L.map (·.2) → Q (.free (way t.mask (HK.hash k) K) false) s) :
 ∀ (f c : Nat) (from' : Option SetTable.Probe), from'.getD (t.probeStart (HK.hash k)) = pr t (HK.hash k) c → c ≤ K → K - c < f →
  (∀ (i : Nat) p, L[i]? = some p → p.2 = k → ∃ c', c ≤ c' ∧ c' < K ∧ t.place.toList[i]? = some (way t.mask (HK.hash k) c')) →
  wpAny (model P w) A (setSearchFrom a (.ref x) (HK.hash k) true f from') Q E s := by
 intro f
 induction f with
 | zero => intro c _ _ _ z; exact absurd z (Nat.not_lt_zero _)
 | succ f ih =>
   intro c from' hfrom hc hf ahead
   obtain ⟨o, ho, hex, hd⟩ := R.ob
   have hashAt : ∀ {i : Nat} {p : Addr × κ}, L[i]? = some p → (es[i]?.map (·.1)).getD 0 = HK.hash p.2 := fun h => by rw [R.at_ h]; rfl
   rw [setSearchFrom_succ]
   refine wpAny_bind (wpAny_setState_of ho hd R.fits ?_)
   dsimp only
   refine wp_if_neg R.whole ?_
   try refine wpAny_bind (wpAny_pure ?_)
   rw [hfrom]
   rcases Vu R.tab hK lt hc (fun i => (es[i]?.map (·.1)).getD 0) with ⟨q, i, l1, l2, hi, hh, no, met⟩ | ⟨no, met⟩
   ·rw [met]
    dsimp only
    have il : i < L.length := by
     have a := (List.getElem?_eq_some_iff.mp hi).1
     have b := R.tab.sz
     rw [uf] at b
     rw [Array.length_toList] at a
     omega
    obtain ⟨p, hp⟩ : ∃ p, L[i]? = some p := ⟨_, List.getElem?_eq_getElem il⟩
    have pin := List.mem_of_getElem? hp
    have live := slot_live R.tab.ris hi
    have go : wpAny (model P w) A (searchRest a (.ref x) (HK.hash k) true f es t (way t.mask (HK.hash k) q) i (pr t (HK.hash k) (q + 1))) Q E s := by
     unfold searchRest
     rw [R.at_ hp]
     dsimp only
     refine wpAny_bind (wpAny_holding (HK.eqBool (M.rm hu) (R.mem p pin) hx (wpAny_bind (wpAny_setState_of ho hd R.fits ?_))))
     dsimp only
     by_cases same : p.2 = k
     ·exact wp_if_pos (by simp [same]) (wpAny_pure (hin (List.mem_map.mpr ⟨p, pin, same⟩)))
     ·refine wp_if_neg (by simp [same]) ?_
      try refine wpAny_bind (wpAny_pure ?_)
      rw [sameMem]
      dsimp only
      simp only [if_true, live, R.at_ hp]
      refine wpAny_bind (wpAny_isSame_ref_self (wpAny_bind (wpAny_pure ?_)))
      simp only [if_true]
      refine wp_if_neg (by simp [same]) (ih (q + 1) _ rfl (by omega) (by omega) ?_)
      intro i0 p0 h0 e0
      obtain ⟨c', b1, b2, b3⟩ := ahead i0 p0 h0 e0
      have h1 : (fun i => (es[i]?.map (·.1)).getD 0) i0 = HK.hash k := (hashAt h0).trans (congrArg HK.hash e0)
      refine ⟨c', ?_, b2, b3⟩
      rcases Nat.lt_trichotomy c' q with z | z | z
      ·exact absurd h1 (no c' i0 b1 z b3)
      ·subst z
       have l0 := slot_live R.tab.ris b3
       rw [live] at l0
       injection l0 with l0
       subst l0
       rw [hp] at h0
       cases h0
       exact absurd e0 same
      ·exact z
    cases hl : t.led with
    | true =>
      refine wp_if_neg (by simp) ?_
      try refine wpAny_bind (wpAny_pure ?_)
      exact go
    | false =>
      refine wp_if_pos (by simp) (wpAny_bind (qhS M hx ?_ ?_))
      ·intro y hy
       obtain ⟨e, he, rfl⟩ := List.mem_map.mp hy
       have he : e ∈ es.toList := by simp at he; simpa using he.1
       rw [R.row] at he
       obtain ⟨p2, m2, rfl⟩ := List.mem_map.mp he
       exact ⟨p2.2, p2.1, rfl, R.mem p2 m2⟩
      ·refine wp_if_neg (by decide) ?_
       try refine wpAny_bind (wpAny_pure ?_)
       exact go
   ·rw [met]
    dsimp only
    refine wpAny_pure (hout fun z => ?_)
    obtain ⟨p0, m0, e0⟩ := List.mem_map.mp z
    obtain ⟨i0, h0⟩ := List.getElem?_of_mem m0
    obtain ⟨c', b1, b2, b3⟩ := ahead i0 p0 h0 e0
    exact no c' i0 b1 b2 b3 ((hashAt h0).trans (congrArg HK.hash e0))
theorem qbA (M : Mild HK byv) (R : StG HK s.heap a L es ep t) {x : Addr} {k : κ} (hx : HK.is s.heap k x) (hu : A.units + 40 < cLine) {Q : SetFound → Shared → Prop}
 (hin : k ∈ L.map (·.2) → Q (.there none) s) (hout : ∀ K, k ∉ L.map (·.2) → Hole t (HK.hash k) K → Q (.free (way t.mask (HK.hash k) K) false) s) :
 wpAny (model P w) A (setSearch a (.ref x) (HK.hash k) true) Q E s := by
 have room := R.room
 obtain ⟨K, lt, hK⟩ := R.tab.hole (by rw [uf]; omega) (HK.hash k)
 have small : 10 * SetTable.turns t.mask ≤ 82060 := by
  have := R.tab.mg.top
  unfold SetTable.turns
  omega
 unfold setSearch
 refine qct M R hx hu lt hK hin (fun z => hout K z hK) 100000 0 none rfl (Nat.zero_le _) (by omega) ?_
 intro i p hp e
 have il : i < t.place.toList.length := by
  have a := (List.getElem?_eq_some_iff.mp hp).1
  have b := R.tab.sz
  rw [uf] at b
  rw [Array.length_toList]
  omega
 have hj := List.getElem?_eq_getElem il
 have hi : (hsh HK L)[i]? = some (HK.hash k) := by
  unfold hsh
  rw [List.getElem?_map, hp, ← e]
  rfl
 obtain ⟨c, b1, b2⟩ := R.tab.ahead hK hi hj
 exact ⟨c, Nat.zero_le _, b1, by rw [hj, b2]⟩
end
end BT2
namespace BT2
open PySem PySem.Spec PyProof.Rows L2 BT
section
variable {P : Program} {w : World} {κ : Type} [DecidableEq κ] {HK : HeapKind P w κ} {byv : κ → Bool}
variable {A : Around} {E : Value → Shared → Prop} {s : Shared} {a : Addr} {L : List (Addr × κ)} {es : Array (Int × Value)} {ep : Nat} {t : SetTable}
theorem Mild.but (M : Mild HK byv) {h h' : Heap} {k : κ} {b : Addr} {o : Obj} (x : HK.is h k b) (ho : h.get? a = some o) (hd : o.data = .set es ep t) (hs : Heap.SameBut a h h') : HK.is h' k b := by
 refine M.stay (fun c oc vs n e d => ?_) x
 rw [hs.2 c (fun z => ?_)]
 ·exact e
 ·subst z
  rw [ho] at e
  cases e
  rw [hd] at d
  cases d
theorem Mild.grow (M : Mild HK byv) {h h' : Heap} {k : κ} {b : Addr} (x : HK.is h k b) (kp : ∀ c o, h.get? c = some o → h'.get? c = some o) : HK.is h' k b := M.stay (fun c o _ _ e _ => kp c o e) x
theorem reorder {ord : Array Nat} (hr : es.toList = vA HK L) (hp : ord.toList.Perm (List.range L.length)) :
 ∃ L', (ord.filterMap (es[·]?)).toList = vA HK L' ∧ L'.Perm L ∧ hsh HK L' = ord.toList.map fun i => (es.map (·.1)).getD i 0 := by
 have sz := jr hr
 have entry : ∀ {i : Nat} {p : Addr × κ}, L[i]? = some p → es[i]? = some (HK.hash p.2, Value.ref p.1) := by
  intro i p h
  have e : es.toList[i]? = _ := congrArg (·[i]?) hr
  rw [Array.getElem?_toList] at e
  rw [e]
  unfold vA
  simp [h]
 refine ⟨ord.toList.filterMap (L[·]?), ?_, ?_, ?_⟩
 ·have both : ∀ l : List Nat, (∀ i ∈ l, i < L.length) → l.filterMap (es[·]?) = vA HK (l.filterMap (L[·]?)) := by
   intro l
   induction l with
   | nil => intro _; rfl
   | cons i l ih =>
     intro hl
     have hi := List.getElem?_eq_getElem (hl i (.head _))
     rw [List.filterMap_cons_some (entry hi), List.filterMap_cons_some hi, ih fun j hj => hl j (.tail _ hj)]
     rfl
  have e := both ord.toList fun i hi => List.mem_range.mp (hp.mem_iff.mp hi)
  rw [← e]
  simp
 ·have e : (List.range L.length).filterMap (L[·]?) = L := by
   apply List.ext_getElem?
   have pre : ∀ n, n ≤ L.length → (List.range n).filterMap (L[·]?) = L.take n := by
    intro n
    induction n with
    | zero => intro _; rfl
    | succ n ih =>
      intro hn
      have hi := List.getElem?_eq_getElem (show n < L.length from hn)
      rw [List.range_succ, List.filterMap_append, ih (Nat.le_of_lt hn), List.filterMap_cons_some hi, List.take_succ, hi]
      rfl
   intro i
   rw [pre _ (Nat.le_refl _), List.take_length]
  have q := hp.filterMap (L[·]?)
  rwa [e] at q
 ·have each : ∀ l : List Nat, (∀ i ∈ l, i < L.length) → hsh HK (l.filterMap (L[·]?)) = l.map fun i => (es.map (·.1)).getD i 0 := by
   intro l
   induction l with
   | nil => intro _; rfl
   | cons i l ih =>
     intro hl
     have hi := List.getElem?_eq_getElem (hl i (.head _))
     have z : (es.map (·.1)).getD i 0 = HK.hash (L[i]'(hl i (.head _))).2 := by
      simp [Array.getD_eq_getD_getElem?, entry hi]
     rw [List.filterMap_cons_some hi, List.map_cons, z, ← ih fun j hj => hl j (.tail _ hj)]
     rfl
  exact each _ fun i hi => List.mem_range.mp (hp.mem_iff.mp hi)
theorem qkd (M : Mild HK byv) {o : Obj} (ho : s.heap.get? a = some o) (hex : o.ExactSet) (hd : o.data = .set es ep t) (hr : es.toList = vA HK L) (sz : t.place.size = es.size) (dm : t.dummies = #[]) (fl : es.size ≤ t.mask)
 (nd : (L.map (·.2)).Nodup) (mem : ∀ p ∈ L, HK.is s.heap p.2 p.1) (ld : w.params.followText "set-order" = true ∨ t.led = true) (few : L.length < 4096) {wanted N : Nat}
 (hw : SetTable.sizeAbove wanted - 1 = N) (hN : MG N) (top : SetTable.sizeAbove wanted ≤ 8192) (rm : L.length * 5 < N * 3) {Q : Unit → Shared → Prop}
 (q : ∀ h' L' es' ep' t', Heap.SameBut a s.heap h' → StG HK h' a L' es' ep' t' → L'.Perm L → Q () { s with heap := h' }) : wpAny (model P w) A (setRelay a wanted) Q E s := by
 have hz := jr hr
 have fits : t.fits es.size = true := by
  unfold SetTable.fits SetTable.fill
  rw [dm, Bool.and_eq_true, beq_iff_eq, decide_eq_true_eq]
  refine ⟨sz, ?_⟩
  show t.place.size + 0 ≤ t.mask
  omega
 obtain ⟨t', ord, e, hp, T, em, el⟩ := qcB t (hs := es.map (·.1)) hw hN (by rw [Array.size_map]; omega)
 rw [Array.size_map, hz] at hp
 obtain ⟨L', r1, r2, r3⟩ := reorder hr hp
 rw [← r3] at T
 have z2 : (ord.filterMap (es[·]?)).size = es.size := by rw [jr r1, r2.length_eq, hz]
 rw [setRelay_eq]
 refine wpAny_bind (wpAny_setState_of ho hd fits ?_)
 dsimp only
 refine wp_if_neg (by rw [sizeLine_eq]; omega) ?_
 try refine wpAny_bind (wpAny_pure ?_)
 rw [e]
 dsimp only
 apply wpAny_bind
 refine wp_if_neg (by rw [z2]; simp) ?_
 try refine wpAny_bind (wpAny_pure ?_)
 apply wpAny_pure
 dsimp only
 have sb : Heap.SameBut a s.heap (s.heap.update a (Obj.putSet (ord.filterMap (es[·]?)) t')) := Heap.SameBut.update ..
 refine wpAny_storeSet_of ho hd (q _ L' (ord.filterMap (es[·]?)) (ep + 1) t' sb ?_ r2) (by rw [z2, hz, sizeLine_eq]; omega)
 constructor
 ·exact ⟨_, store_at ho hd, ⟨hex.1, hex.2.1, hex.2.2⟩, rfl⟩
 ·exact r1
 ·exact T
 ·exact (r2.map (·.2)).nodup_iff.mpr nd
 ·exact fun p m => M.but (mem p (r2.mem_iff.mp m)) ho hd sb
 ·rw [el]; exact ld
 ·rw [r2.length_eq, em]; exact rm
 ·rw [r2.length_eq]; exact few
theorem qho (M : Mild HK byv) (R : StG HK s.heap a L es ep t) {x : Addr} {k : κ} (hx : HK.is s.heap k x) (hu : A.units + 40 < cLine) (few : L.length + 1 < 4096) {Q : Bool → Shared → Prop}
 (q : ∀ b h' L' es' ep' t', Heap.SameBut a s.heap h' → StG HK h' a L' es' ep' t' → (k ∈ L.map (·.2) → L' = L) → (k ∉ L.map (·.2) → L'.Perm ((x, k) :: L)) → Q b { s with heap := h' }) :
 wpAny (model P w) A (setAddHashed a (.ref x) (HK.hash k)) Q E s := by
 obtain ⟨o, ho, hex, hd⟩ := R.ob
 have sz := jr R.row
 have room := R.room
 unfold setAddHashed
 apply wpAny_holding
 rw [show (100000 : Nat) = 99999 + 1 from rfl, setAddHashedIn_succ]
 refine wpAny_bind (wpAny_setState_of ho hd R.fits ?_)
 dsimp only
 refine wp_if_neg (by simp [byScan, Value.scannable]) ?_
 try refine wpAny_bind (wpAny_pure ?_)
 refine wpAny_bind (qbA M R hx hu ?there ?hole)
 case there =>
  intro z
  dsimp only
  exact wpAny_pure (q false s.heap L es ep t (Heap.SameBut.refl a s.heap) R (fun _ => rfl) fun y => absurd z y)
 case hole =>
  intro K new hK
  dsimp only
  refine wpAny_bind (wpAny_setState_of ho hd R.fits ?_)
  dsimp only
  generalize ej : way t.mask (HK.hash k) K = j
  generalize epp : SetTable.below t.place j = p
  obtain ⟨lp, T, fill⟩ := R.tab.put hK ej epp
  have two : (t.put j).2 = p := epp
  have m1 : (t.put j).1.mask = t.mask := rfl
  have m2 : (t.put j).1.led = t.led := rfl
  generalize t.put j = pt at T fill two m1 m2 ⊢
  obtain ⟨t1, p1⟩ := pt
  dsimp only at T fill two m1 m2 ⊢
  subst two
  rw [uf] at lp
  have ins : (SetTable.insertAt es p1 (HK.hash k, Value.ref x)).toList = vA HK (L.take p1 ++ (x, k) :: L.drop p1) := by
   rw [SetTable.toList_insertAt, R.row]
   unfold vA
   simp
  have hins : hsh HK (L.take p1 ++ (x, k) :: L.drop p1) = (hsh HK L).take p1 ++ HK.hash k :: (hsh HK L).drop p1 := by
   unfold hsh
   simp
  rw [← hins] at T
  have pm := put_perm L p1 (x, k)
  generalize L.take p1 ++ (x, k) :: L.drop p1 = L1 at ins T pm
  have l1 : L1.length = L.length + 1 := pm.length_eq
  have nd1 : (L1.map (·.2)).Nodup := (pm.map (·.2)).nodup_iff.mpr (List.nodup_cons.mpr ⟨new, R.nd⟩)
  have sz1 := jr ins
  generalize SetTable.insertAt es p1 (HK.hash k, Value.ref x) = es1 at ins sz1 ⊢
  have main : ∀ t2 : SetTable, t2.mask = t1.mask → t2.place = t1.place → t2.dummies = t1.dummies → t2.led = t1.led →
   wpAny (model P w) A (do
    storeSet a es1 t2
    if !false && t2.tooFull then setRelay a (SetTable.grown (es.size + 1))
    return true) Q E s := by
   intro t2 b1 b2 b3 b4
   have T2 : Tb t2 (hsh HK L1) := ⟨by rw [b2]; exact T.ris, by rw [b3]; exact T.dm, by rw [b2]; exact T.sz, by rw [b1]; exact T.mg, by rw [b1, b2]; exact T.back⟩
   have fill2 : t2.fill = L.length + 1 := by
    have : t2.fill = t1.fill := by unfold SetTable.fill; rw [b2, b3]
    rw [this, fill, uf]
   refine wpAny_bind (wpAny_storeSet_of ho hd ?_ (by rw [sz1, l1, sizeLine_eq]; omega))
   have sb : Heap.SameBut a s.heap (s.heap.update a (Obj.putSet es1 t2)) := Heap.SameBut.update ..
   have ho1 := store_at (es' := es1) (t' := t2) ho hd
   generalize s.heap.update a (Obj.putSet es1 t2) = h1 at sb ho1 ⊢
   have mem1 : ∀ p ∈ L1, HK.is h1 p.2 p.1 := by
    intro p hp
    rcases List.mem_cons.mp (pm.mem_iff.mp hp) with rfl | hp
    ·exact M.but hx ho hd sb
    ·exact M.but (R.mem p hp) ho hd sb
   have ld : w.params.followText "set-order" = true ∨ t2.led = true := by rw [b4, m2]; exact R.led
   have ex1 : ({ o with data := .set es1 (ep + 1) t2 } : Obj).ExactSet := ⟨hex.1, hex.2.1, hex.2.2⟩
   by_cases full : t2.tooFull = true
   ·have over := full
    unfold SetTable.tooFull at over
    rw [decide_eq_true_eq, fill2, b1, m1] at over
    obtain ⟨N, n1, n2, n3, n4⟩ := qgT R.tab.mg room over few
    have end' : wpAny (model P w) A (setRelay a (SetTable.grown (es.size + 1))) (fun _ s' => wpAny (model P w) A (pure true) Q E s') E { s with heap := h1 } := by
     rw [sz]
     refine qkd (s := { s with heap := h1 }) M ho1 ex1 rfl ins ?_ T2.dm ?_ nd1 mem1 ld (by omega) n1 n2 n3 (by rw [l1]; exact n4) ?_
     ·rw [T2.sz, uf, sz1]
     ·rw [b1, m1, sz1, l1]; omega
     ·intro h2 L2 es2 ep2 t3 sb2 R2 pm2
      exact wpAny_pure (q true h2 L2 es2 ep2 t3 (sb.trans sb2) R2 (fun z => absurd z new) fun _ => pm2.trans pm)
    first
     | (refine wpAny_bind ?_; refine wp_if_pos (by simp [full]) ?_; exact end')
     | (refine wp_if_pos (by simp [full]) ?_; refine wpAny_bind ?_; exact end')
   ·have under := full
    unfold SetTable.tooFull at under
    rw [decide_eq_true_eq, fill2, b1, m1] at under
    have fine : wpAny (model P w) A (pure true) Q E { s with heap := h1 } := by
     refine wpAny_pure (q true h1 L1 es1 (ep + 1) t2 sb ⟨⟨_, ho1, ex1, rfl⟩, ins, T2, nd1, mem1, ld, ?_, by omega⟩ (fun z => absurd z new) fun _ => pm)
     rw [l1, b1, m1]
     omega
    first
     | (refine wp_if_neg (by simp [full]) ?_; exact fine)
     | (refine wpAny_bind ?_; refine wp_if_neg (by simp [full]) ?_; refine wpAny_pure ?_; exact fine)
  cases hpl : t1.plain with
  | true =>
    simp only [if_true]
    refine wpAny_bind (M.val hx ?_)
    cases hb : byv k with
    | true => simp only [if_true]; exact main t1 rfl rfl rfl rfl
    | false => simp only [Bool.false_eq_true, if_false]; exact main { t1 with plain := false } rfl rfl rfl rfl
  | false =>
    simp only [Bool.false_eq_true, if_false]
    try refine wpAny_bind (wpAny_pure ?_)
    simp only [if_true]
    exact main t1 rfl rfl rfl rfl
end
end BT2
namespace BT2
open PySem PySem.Spec PyProof.Rows L2 BT
section
variable {P : Program} {w : World} {κ : Type} [DecidableEq κ] {HK : HeapKind P w κ} {byv : κ → Bool}
variable {A : Around} {E : Value → Shared → Prop} {s : Shared}
structure Upto (ks : List (Addr × κ)) (i : Nat) (L : List (Addr × κ)) : Prop where
 sub : ∀ p ∈ L, p ∈ ks
 all : ∀ (j : Nat) p, j < i → ks[j]? = some p → p.2 ∈ L.map (·.2)
 nd : (L.map (·.2)).Nodup
 len : L.length ≤ i
theorem Upto.step {ks L L' : List (Addr × κ)} {i : Nat} {x : Addr × κ} (g : Upto ks i L) (h : ks[i]? = some x) (nd : (L'.map (·.2)).Nodup) (c1 : x.2 ∈ L.map (·.2) → L' = L) (c2 : x.2 ∉ L.map (·.2) → L'.Perm (x :: L)) : Upto ks (i + 1) L' := by
 by_cases m : x.2 ∈ L.map (·.2)
 ·obtain rfl := c1 m
  refine ⟨g.sub, fun j p hj e => ?_, nd, Nat.le_succ_of_le g.len⟩
  rcases Nat.lt_or_eq_of_le (Nat.le_of_lt_succ hj) with z | rfl
  ·exact g.all j p z e
  ·rw [h] at e; cases e; exact m
 ·have pm := c2 m
  refine ⟨fun p hp => ?_, fun j p hj e => ?_, nd, ?_⟩
  ·rcases List.mem_cons.mp (pm.mem_iff.mp hp) with rfl | z
   ·exact List.mem_of_getElem? h
   ·exact g.sub p z
  ·rw [(pm.map (·.2)).mem_iff, List.map_cons]
   rcases Nat.lt_or_eq_of_le (Nat.le_of_lt_succ hj) with z | rfl
   ·exact .tail _ (g.all j p z e)
   ·rw [h] at e; cases e; exact .head _
  ·rw [pm.length_eq]; exact Nat.succ_le_succ g.len
abbrev Z0 (w : World) : SetTable := .fresh 0 0 (!w.params.followText "set-order")
abbrev uU (w : World) : Obj := { cls := .type "set", dict := none, data := .set #[] 0 (Z0 w) }
theorem StG.empty {h : Heap} {a : Addr} (ho : h.get? a = some (uU w)) : StG HK h a [] #[] 0 (Z0 w) := by
 have tb : Tb (Z0 w) (hsh HK ([] : List (Addr × κ))) := ⟨List.Pairwise.nil, rfl, rfl, .inl rfl, fun i h j e => nomatch (show ([] : List Int)[i]? = some h from e)⟩
 refine ⟨⟨_, ho, ⟨rfl, rfl, rfl⟩, rfl⟩, rfl, tb, List.nodup_nil, (fun p hp => nomatch hp), ?_, by show 0 * 5 < 7 * 3; decide, by show 0 < 4096; decide⟩
 show (w.params.followText "set-order" = true ∨ (!w.params.followText "set-order") = true)
 cases w.params.followText "set-order" with
 | true => exact .inl rfl
 | false => exact .inr rfl
theorem StG.keep (M : Mild HK byv) {h h' : Heap} {a : Addr} {L : List (Addr × κ)} {es : Array (Int × Value)} {ep : Nat} {t : SetTable} (R : StG HK h a L es ep t) (ha : ∀ o, h.get? a = some o → h'.get? a = some o) (hm : ∀ p ∈ L, HK.is h' p.2 p.1) : StG HK h' a L es ep t := by
 obtain ⟨o, ho, r⟩ := R.ob
 exact { R with ob := ⟨o, ha o ho, r⟩, mem := hm }
theorem upd_loop (M : Mild HK byv) {I : Addr} {fp wr : List Addr} {G : Array GenState → Array GenState → Prop} {n : Nat} {Pv : Nat → Value → Prop} {St : Nat → Shared → Prop} {R : Result → Shared → Prop}
 (W : WalksS P w A.in1 I fp wr G n Pv St) (S : Addr) (hSf : S ∉ fp) (ks : List (Addr × κ)) (hn : n = ks.length) (few : ks.length < 4096) (hv : ∀ i v, Pv i v → ∃ p, ks[i]? = some p ∧ v = .ref p.1)
 (h0 : Heap) (hk : ∀ p ∈ ks, HK.is h0 p.2 p.1) (free : h0.get? S = none) (wfree : ∀ b ∈ wr, h0.get? b = none) (hu : A.in1.units + 40 < cLine) :
 ∀ (k i : Nat) (s : Shared), n - i = k → i ≤ n → St i s → (∀ b o, h0.get? b = some o → s.heap.get? b = some o) → (∃ L es ep t, StG HK s.heap S L es ep t ∧ Upto ks i L) →
  (∀ s' L es ep t, Moved (S :: wr) G s s' → StG HK s'.heap S L es ep t → Upto ks n L → (∀ b o, h0.get? b = some o → s'.heap.get? b = some o) → R (.ok (.ret .none)) s') →
  codeAny (model P w) A (.builtin "set.update.loop" ⟨[.ref S, .ref I], []⟩) R s := by
 have nw : S ∉ wr := fun h => hSf (W.sub _ h)
 have more : ∀ b ∈ wr, b ∈ S :: wr := fun b hb => .tail _ hb
 have still : ∀ {s s' : Shared}, Moved wr G s s' → (∀ b o, h0.get? b = some o → s.heap.get? b = some o) → ∀ b o, h0.get? b = some o → s'.heap.get? b = some o := by
  intro s s' hm kp b o e
  refine hm.heap b o (fun hb => ?_) (kp b o e)
  rw [wfree b hb] at e
  cases e
 intro k
 induction k with
 | zero =>
   intro i s hk' hi hst kp ⟨L, es, ep, t, hS, g⟩ hR
   obtain rfl : i = n := by omega
   refine codeAny_builtin F.entry_set_update_loop ?_
   rw [Around.under_plainId F.plain_set_update_loop _]
   show wpAny _ A.in1 (pyNext (.ref I) >>= _) _ _ s
   refine wpAny_bind (W.done s _ _ hst ?_)
   intro s' hm
   have kp' := still hm kp
   show wpAny _ A.in1 (ret Value.none) _ _ s'
   exact wpAny_pure (hR s' L es ep t (hm.mono more) (hS.keep M (fun o e => hm.heap S o nw e) fun p hp => M.grow (hk p (g.sub p hp)) kp') g kp')
 | succ k ih =>
   intro i s hk' hi hst kp ⟨L, es, ep, t, hS, g⟩ hR
   have lt : i < n := by omega
   refine codeAny_builtin F.entry_set_update_loop ?_
   rw [Around.under_plainId F.plain_set_update_loop _]
   show wpAny _ A.in1 (pyNext (.ref I) >>= _) _ _ s
   refine wpAny_bind (W.item i s _ _ lt hst ?_)
   intro v s' hP hst' hm
   obtain ⟨p, hp, rfl⟩ := hv i v hP
   have kp' := still hm kp
   have hS' : StG HK s'.heap S L es ep t := hS.keep M (fun o e => hm.heap S o nw e) fun q hq => M.grow (hk q (g.sub q hq)) kp'
   have hx : HK.is s'.heap p.2 p.1 := M.grow (hk p (List.mem_of_getElem? hp)) kp'
   show wpAny _ A.in1 (holding [Value.ref p.1] (setAdd S (.ref p.1)) >>= _) _ _ s'
   refine wpAny_bind (wpAny_holding ?_)
   unfold setAdd
   refine wpAny_holding (wpAny_bind (HK.pyHash (M.rm hu) hx ?_))
   refine qho (s := { s' with toks := s'.toks + HK.draws p.2 }) M hS' hx hu (by have := g.len; omega) ?_
   intro b h' L' es' ep' t' sb hS2 c1 c2
   have g' : Upto ks (i + 1) L' := g.step hp hS2.nd c1 c2
   have kp2 : ∀ b o, h0.get? b = some o → h'.get? b = some o := by
    intro b o e
    rw [sb.2 b (fun z => by rw [z, free] at e; cases e)]
    exact kp' b o e
   refine wpAny_pure ⟨plainId_quiet F.plain_set_update_loop _, ih (i + 1) _ (by omega) lt (W.frame _ s' _ _ hst' (Nat.le_add_right _ _) ?_) kp2 ⟨L', es', ep', t', hS2, g'⟩ ?_⟩
   ·intro b hb o e
    rw [sb.2 b (fun h : b = S => hSf (h ▸ hb))]
    exact e
   ·intro s'' L2 es2 ep2 t2 hm'' hS'' g'' kp''
    refine hR s'' L2 es2 ep2 t2 (Moved.trans W.gtrans ((hm.mono more).then_heap (Nat.le_add_right _ _) ?_) hm'') hS'' g'' kp''
    intro b o hb e
    rw [sb.2 b (fun h : b = S => hb (h ▸ .head _))]
    exact e
set_option maxRecDepth 100000 in
set_option maxHeartbeats 3200000 in
theorem Vm (M : Mild HK byv) {l : Addr} {its : Array Value} (ks : List (Addr × κ)) {Q : Value → Shared → Prop} (hh : A.handled = none) (hl : s.heap.IsList l its) (hit : its.toList = ks.map fun p => Value.ref p.1)
 (hk : ∀ p ∈ ks, HK.is s.heap p.2 p.1) (few : ks.length < 4096) (hu : A.units + 43 < cLine)
 (q : ∀ (h' : Heap) (tk : Nat) L es ep t, StG HK h' s.heap.objs.size L es ep t → Upto ks ks.length L → (∀ b o, s.heap.get? b = some o → h'.get? b = some o) → Q (.ref s.heap.objs.size) { s with heap := h', toks := tk }) :
 wpAny (model P w) A (call (.type "set") [.ref l]) Q E s := by
 have sz : its.size = ks.length := by
  have e := congrArg List.length hit
  simpa using e
 obtain ⟨c, tl, hmro⟩ := F.called_set.mro
 have hmade := F.called_set.made
 have hsub := F.called_set.sub
 refine wpAny_call (codeAny_of_tree ?_)
 show wpAny _ _ (callAny (.type "set") _) _ _ _
 apply wpAny_pure
 refine ⟨Code.quiet_builtin _ (by decide +kernel), codeAny_builtin F.entry_type_call ?_⟩
 rw [Around.under_plain (weight_type_call_type "set" [.ref l] []) rfl]
 have h1 := F.called_set.notType
 have h2 := F.called_set.canCreate
 have hct := F.typeCall_set_1 (.ref l)
 repeat (any_goals (first | assumption | wp_step))
 refine codeAny_mono (code_set_led1 (.ref l) (E := E) (Q₁ := fun o s₁ => o = .ref s.heap.objs.size ∧ s₁ = { s with heap := s.heap.push (uU w) }) ⟨rfl, rfl⟩) ?_
 intro r s₁ hr
 match r, hr with
 | .error e, hr => exact hr
 | .ok .next, hr => exact hr.elim
 | .ok .brk, hr => exact hr.elim
 | .ok .cont, hr => exact hr.elim
 | .ok (.ret o), hr =>
   obtain ⟨rfl, rfl⟩ := hr
   have at_S : (s.heap.push (uU w)).get? s.heap.objs.size = some (uU w) := Heap.get?_push_size _ rfl
   have hT : Shared.TypeIs { s with heap := s.heap.push (uU w) } (.ref s.heap.objs.size) "set" := ⟨_, at_S, rfl⟩
   have hli := F.called_set.init.lookup
   have hbi := F.called_set.init.bind (.ref s.heap.objs.size)
   repeat (any_goals (first | assumption | wp_step))
   refine codeAny_mono (codeAny_call_builtin (R := wants (fun r s₂ => r = .none ∧ ∃ h' tk L es ep t, s₂ = { s with heap := h', toks := tk } ∧ StG HK h' s.heap.objs.size L es ep t ∧ Upto ks ks.length L ∧ (∀ b o, s.heap.get? b = some o → h'.get? b = some o)) E)
    F.called_set.init.plain F.entry_set_init (check_set_init_1 hT ?init)) ?fin
   case fin =>
    intro r₂ s₂ z
    match r₂, z with
    | .error e, z => exact z
    | .ok .next, z => exact z.elim
    | .ok .brk, z => exact z.elim
    | .ok .cont, z => exact z.elim
    | .ok (.ret r), z =>
      obtain ⟨rfl, h', tk, L, es, ep, t, rfl, z1, z2, z3⟩ := z
      repeat (any_goals (first | assumption | wp_step))
      exact q _ _ _ _ _ _ z1 z2 z3
   case init =>
    have lS : l < s.heap.objs.size := by
     obtain ⟨o, ho, _⟩ := hl
     exact Heap.lt_size ho
    have hlS : (s.heap.push (uU w)).IsList l its := by
     obtain ⟨o, ho, r⟩ := hl
     exact ⟨o, Heap.get?_push_of_some _ ho, r⟩
    have size1 : (s.heap.push (uU w)).objs.size = s.heap.objs.size + 1 := Heap.size_push ..
    have nothing : ∀ b, s.heap.objs.size ≤ b → s.heap.get? b = none := by
     intro b hb
     cases e : s.heap.get? b with
     | none => rfl
     | some o => exact absurd (Heap.lt_size e) (Nat.not_lt.mpr hb)
    obtain ⟨ol, hol, hcl, nl, hdl⟩ := id hl
    obtain ⟨ocls, odict, odata, oslots⟩ := ol
    simp only at hcl hdl
    subst hcl; subst hdl
    have hol' : (s.heap.push (uU w)).get? l = some { cls := .type "list", dict := odict, data := .seq its nl, slots := oslots } := Heap.get?_push_of_some _ hol
    have hs1 := F.sub_list_set
    have hs2 := F.sub_list_frozenset
    have hs3 : (Value.type "list" == Value.type "dict") = false := by decide
    unfold Builtin.«set.__init__» noKeywords Builtin.Frozenset.updateFrom
    generalize hPI : pyIter = PI
    wp_walk
    subst hPI
    refine wpAny_pyIter_list hlS (wpAny_bind (wpAny_runValue ?_))
    have ne1 : l ≠ (s.heap.push (uU w)).objs.size := by rw [size1]; exact Nat.ne_of_lt (Nat.lt_succ_of_lt lS)
    have ne2 : s.heap.objs.size ∉ [(s.heap.push (uU w)).objs.size, l] := by
     rw [size1]
     simp only [List.mem_cons, List.not_mem_nil, or_false, not_or]
     exact ⟨Nat.ne_of_lt (Nat.lt_succ_self _), Nat.ne_of_gt lS⟩
    have val : ∀ (i : Nat) (v : Value), its[i]? = some v → ∃ p, ks[i]? = some p ∧ v = .ref p.1 := by
     intro i v e
     rw [← Array.getElem?_toList, hit, List.getElem?_map] at e
     obtain ⟨p, e1, e2⟩ := Option.map_eq_some_iff.mp e
     exact ⟨p, e1, e2.symm⟩
    refine upd_loop M ((Walks.list (show A.in1.in1.in1.handled = none by simp [hh]) _ l ne1 its).toS) s.heap.objs.size ne2 ks sz few val s.heap hk (nothing _ (Nat.le_refl _)) (fun b hb => nothing b ?low) hu
     (its.size - 0) 0 _ (by omega) (Nat.zero_le _) ⟨⟨_, Heap.get?_push_size _ rfl, rfl, rfl⟩, (hlS.push _)⟩ (fun b o e => Heap.get?_push_of_some _ (Heap.get?_push_of_some _ e)) ⟨[], #[], 0, _, StG.empty (Heap.get?_push_of_some _ at_S), ⟨(fun p hp => nomatch hp), fun j p hj _ => absurd hj (Nat.not_lt_zero _), List.nodup_nil, Nat.le_refl _⟩⟩ ?after
    case low =>
     rw [List.mem_singleton.mp hb, size1]
     exact Nat.le_succ _
    case after =>
     intro s' L es ep t hm hS' g' kp
     obtain ⟨h', g2, d', tk', os'⟩ := s'
     obtain rfl : g2 = s.gens := hm.gens
     obtain rfl : d' = s.drawn := hm.drawn
     obtain rfl : os' = s.os := hm.os
     show wpAny _ _ _ _ _ _
     refine wpAny_pure ?_
     show wpAny _ _ (ret Value.none) _ _ _
     rw [sz] at g'
     exact wpAny_pure ⟨rfl, h', tk', L, es, ep, t, rfl, hS', g', kp⟩
end
end BT2
namespace BT2
open PySem PySem.Spec PyProof.Rows L2 BT
end BT2
namespace BX
open PySem PySem.Spec PyProof.Rows L2 BT2
section
variable {P : Program} {w : World}
theorem VF {h : Heap} : ∀ {l : List NK} {vs : List Value}, NestedAll h (toNL l) vs → ∀ v ∈ vs, ∃ k ∈ l, NestedIs h (toN k) v
 | [], vs, r, v, hv => by
   rw [toNL] at r; cases r; cases hv
 | k :: l, vs, r, v, hv => by
   rw [toNL] at r
   cases r with
   | cons r1 r2 =>
     rcases List.mem_cons.mp hv with rfl | hv
     ·exact ⟨k, List.mem_cons_self .., r1⟩
     ·obtain ⟨k', h1, h2⟩ := VF r2 v hv
      exact ⟨k', List.mem_cons_of_mem _ h1, h2⟩
theorem Wj : ∀ {l : List NK} {k : NK}, k ∈ l → yG k ≤ xV l
 | [], _, h => by cases h
 | a :: l, k, h => by
   rw [xV]
   rcases List.mem_cons.mp h with rfl | h
   ·exact Nat.le_max_left _ _
   ·exact Nat.le_trans (Wj h) (Nat.le_max_right _ _)
theorem qi6 : ∀ (n : Nat) {A : Around} {E : Value → Shared → Prop} {s : Shared} {k : NK} {v : Value} {Q : Bool → Shared → Prop}, NestedIs s.heap (toN k) v → yG k ≤ n → Q false s → wpAny (model P w) A (ofAClassStatement n v) Q E s := by
 intro n
 induction n with
 | zero =>
   intro A E s k v Q hk hd hq
   cases k with
   | num i =>
     rw [toN] at hk
     cases hk with
     | bool e => exact wpAny_pure hq
     | int _ t => exact wpAny_pure hq
   | tup l => rw [yG] at hd; omega
 | succ n ih =>
   intro A E s k v Q hk hd hq
   cases k with
   | num i =>
     rw [toN] at hk
     cases hk with
     | bool e => exact wpAny_pure hq
     | int _ t => exact wpAny_pure hq
   | tup l =>
     rw [toN] at hk
     rw [yG] at hd
     cases hk with
     | @tup b o its _ _ ho hc hd2 hi =>
       have hT : s.TypeIs (.ref b) "tuple" := ⟨o, ho, hc⟩
       unfold ofAClassStatement
       refine wpAny_bind (wpAny_typeOf hT ?_)
       dsimp only
       simp only [show (("tuple" : String) == "tuple") = true by decide, if_true, Bool.not_true, Bool.false_eq_true, if_false]
       try refine wpAny_bind (wpAny_pure ?_)
       try simp only [Bool.not_true, Bool.false_eq_true, if_false]
       show wpAny _ _ (seqItems? (.ref b) >>= _) _ _ s
       refine wpAny_bind (wpAny_seqItems ho hd2 ?_)
       dsimp only
       apply wpAny_bind
       show wpAny _ _ (forIn its _ _) _ _ s
       rw [← Array.forIn_toList]
       refine wpAny_forIn_list _ (fun rest r s' => r.1 = none ∧ s' = s ∧ ∀ v ∈ rest, ∃ k ∈ l, NestedIs s.heap (toN k) v) _ ?turn ?fin _ _ ⟨rfl, rfl, VF hi⟩
       case turn =>
        intro v rest r s' z
        obtain ⟨hr, rfl, all⟩ := z
        obtain ⟨k, hk, is⟩ := all v (.head _)
        refine wpAny_bind (ih is (by have := Wj hk; omega) ?_)
        simp only [Bool.false_eq_true, if_false]
        exact wpAny_pure ⟨rfl, rfl, fun u hu => all u (.tail _ hu)⟩
       case fin =>
        rintro ⟨r1, r2⟩ s' ⟨hr, rfl, _⟩
        have hr : r1 = none := hr
        subst hr
        exact wpAny_pure hq
theorem qhR : ∀ (n : Nat) {A : Around} {E : Value → Shared → Prop} {s : Shared} {k : NK} {v : Value} {Q : Bool → Shared → Prop}, NestedIs s.heap (toN k) v → yG k ≤ n → Q true s → wpAny (model P w) A (hashByValue n v) Q E s := by
 intro n
 induction n with
 | zero =>
   intro A E s k v Q hk hd hq
   cases k with
   | num i =>
     rw [toN] at hk
     cases hk with
     | bool e => exact wpAny_pure hq
     | int _ t => exact wpAny_pure hq
   | tup l => rw [yG] at hd; omega
 | succ n ih =>
   intro A E s k v Q hk hd hq
   cases k with
   | num i =>
     rw [toN] at hk
     cases hk with
     | bool e => exact wpAny_pure hq
     | int _ t => exact wpAny_pure hq
   | tup l =>
     rw [toN] at hk
     rw [yG] at hd
     cases hk with
     | @tup b o its _ _ ho hc hd2 hi =>
       have hT : s.TypeIs (.ref b) "tuple" := ⟨o, ho, hc⟩
       unfold hashByValue
       refine wpAny_bind (wpAny_specialOf hT F.slot_tuple_hash.lookup ?_)
       show wpAny _ _ (seqItems? (.ref b) >>= _) _ _ s
       refine wpAny_bind (wpAny_seqItems ho hd2 ?_)
       apply wpAny_bind
       show wpAny _ _ (forIn its _ _) _ _ s
       rw [← Array.forIn_toList]
       refine wpAny_forIn_list _ (fun rest r s' => r.1 = none ∧ s' = s ∧ ∀ v ∈ rest, ∃ k ∈ l, NestedIs s.heap (toN k) v) _ ?turn ?fin _ _ ⟨rfl, rfl, VF hi⟩
       case turn =>
        intro v rest r s' z
        obtain ⟨hr, rfl, all⟩ := z
        obtain ⟨k, hk, is⟩ := all v (.head _)
        refine wpAny_bind (ih is (by have := Wj hk; omega) ?_)
        simp only [Bool.not_true, Bool.false_eq_true, if_false]
        exact wpAny_pure ⟨rfl, rfl, fun u hu => all u (.tail _ hu)⟩
       case fin =>
        rintro ⟨r1, r2⟩ s' ⟨hr, rfl, _⟩
        have hr : r1 = none := hr
        subst hr
        exact wpAny_pure hq
theorem qgH : Mild (jo P w) fun _ => true where
 stay := fun hk ⟨h1, h2⟩ => ⟨NestedIs.at hk _ _ h1, h2⟩
 rm := fun {A} h => by
  show A.units + 8 < cLine
  omega
 cls := fun ⟨h1, h2⟩ hq => qi6 8 h1 (by rw [← Z5]; exact h2) hq
 val := fun ⟨h1, h2⟩ hq => qhR 8 h1 (by rw [← Z5]; exact h2) hq
end
def qe8 (P : Program) (w : World) (h : Heap) (a : Addr) (L : List (Addr × NK)) : Prop :=
 ∃ (es : Array (Int × Value)) (ep : Nat) (t : SetTable), (∃ o, h.get? a = some o ∧ o.ExactSet ∧ o.data = .set es ep t) ∧ es.toList = vA (jo P w) L ∧ BT.Tb t (hsh (jo P w) L) ∧ (L.map (·.2)).Nodup ∧
  (w.params.followText "set-order" = true ∨ t.led = true) ∧ L.length * 5 < t.mask * 3 ∧ L.length < 4096
def qe7 (P : Program) (w : World) (a : Addr) (L : List (Addr × NK)) : HO := .ext fun h => qe8 P w h a L
theorem qeh {P : Program} {w : World} {H : Hp} {h : Heap} {a : Addr} {L : List (Addr × NK)} (R : qe8 P w h a L) : ObjOk P w H h a (qe7 P w a L) := by
 refine ⟨R, ?_, fun h1 h2 p k => ?_⟩
 ·obtain ⟨es, ep, t, ⟨o, ho, _⟩, _⟩ := R
  exact ⟨o, ho⟩
 ·have p : qe8 P w h1 a L := p
  obtain ⟨es, ep, t, ⟨o, ho, r⟩, q⟩ := p
  exact ⟨es, ep, t, ⟨o, k o ho, r⟩, q⟩
section
variable {X : Cx} {pins : List (Addr × Obj)} {σ : L2.St} {H : Hp} {s : Shared}
theorem Jt : ∀ {ks : List (Addr × NK)} {us : List Value}, Vals (ks.map fun p => V.ref p.1) us → us = ks.map fun p => Value.ref p.1
 | [], _, .nil => rfl
 | p :: ks, _, .cons r t => by cases r; rw [Jt t]; rfl
def qid (K : PySem.W.Frag) (P : Program) (w : World) : List V → Hp → VK → Prop := fun xs H Q => ∃ (l : Addr) (ks : List (Addr × NK)), xs = [V.ref l] ∧ SqL K H l (ks.map fun p => V.ref p.1) ∧
 (∀ p ∈ ks, NkV H p.2 (.ref p.1) ∧ yG p.2 ≤ 8) ∧ ks.length < 4096 ∧ ∀ a L, H a = none → Upto ks ks.length L → Q (.ref a) (upd H a (qe7 P w a L))
theorem qhb (hx : Ok X) : CallR X (.type "set") (qid X.K X.prog X.w) := by
 intro pins s σ H xs us Q I r h
 obtain ⟨l, ks, rfl, hl, hk, few, q⟩ := h
 rw [Vals.ref1 r]
 have hu := hx.un
 have hn : H s.heap.objs.size = none := I.hok.fresh (Nat.le_refl _)
 have kk : ∀ p ∈ ks, (jo X.prog X.w).is s.heap p.2 p.1 := fun p hp => key_is I.hok (hk p hp).1 (hk p hp).2
 have fin : ∀ (h' : Heap) (tk : Nat) L es ep t, StG (jo X.prog X.w) h' s.heap.objs.size L es ep t → Upto ks ks.length L → (∀ b o, s.heap.get? b = some o → h'.get? b = some o) →
  EP X pins σ Q (.ref s.heap.objs.size) { s with heap := h', toks := tk } := by
  intro h' tk L es ep t R g kp
  exact ⟨.ref s.heap.objs.size, _, I.laid (t' := tk) kp (Nat.le_refl _) (qeh ⟨es, ep, t, R.ob, R.row, R.tab, R.nd, R.led, R.room, R.few⟩), rfl, q _ L hn g⟩
 obtain ⟨its, rv, pl, _⟩ := I.list hl
 exact Vm qgH ks (I.ok.hd hx.calm) pl.isList (by simpa using Jt rv) kk few (by omega) fin
theorem qeY : CallR X (.builtin "len") (fun xs H Q => ∃ a L, xs = [V.ref a] ∧ H a = some (qe7 X.prog X.w a L) ∧ Q (.int (L.length : Nat)) H) := by
 intro pins s σ H xs us Q I r h
 obtain ⟨a, L, rfl, ha, q⟩ := h
 rw [Vals.ref1 r]
 obtain ⟨es, ep, t, ⟨o, ho, ex, hd⟩, row, tab, _, _, room, few⟩ : qe8 X.prog X.w s.heap a L := (I.hok a _ ha).1
 have sz := jr row
 have fits : t.fits es.size = true := by
  have z := tab.sz
  rw [uf] at z
  unfold SetTable.fits SetTable.fill
  rw [tab.dm, Bool.and_eq_true, beq_iff_eq, decide_eq_true_eq]
  refine ⟨by omega, ?_⟩
  show t.place.size + 0 ≤ t.mask
  omega
 refine call_len_set ho ex hd fits (by rw [sz]; omega) ?_
 exact ⟨.int (L.length : Nat), H, I.tok _, ⟨_, by rw [sz]⟩, q⟩
end
def jZ (d : D) (k : D → Prop) : Prop := match d with
 | .lst xs => match toKs xs with
   | some l => (∀ x ∈ l, 1 ≤ yG x ∧ yG x ≤ 8) ∧ l.length < 4096 ∧ k (.int ((dd l).length : Nat))
   | none => False
 | _ => False
def XR (t : XE) : XE := fun env Q => t env fun r e => rd 1 r e fun d => jZ d fun d' => Q (.tmp d') e
theorem Ja {d : D} {k k' : D → Prop} (h : ∀ d, k d → k' d) (q : jZ d k) : jZ d k' := by
 unfold jZ at q ⊢
 split at q
 ·split at q
  ·exact ⟨q.1, q.2.1, h _ q.2.2⟩
  ·exact q.elim
 ·exact q.elim
section
variable {K : PySem.W.Frag} {H : Hp}
theorem qfq : ∀ {l : List NK} {vs : List V}, NkVs H l vs → (∀ x ∈ l, 1 ≤ yG x ∧ yG x ≤ 8) → ∃ ks : List (Addr × NK), vs = (ks.map fun p => V.ref p.1) ∧ ks.map (·.2) = l ∧ ∀ p ∈ ks, NkV H p.2 (.ref p.1) ∧ yG p.2 ≤ 8
 | [], vs, h, _ => by
   rw [NkVs] at h
   exact ⟨[], h, rfl, fun p hp => nomatch hp⟩
 | k :: l, vs, h, d => by
   rw [NkVs] at h
   obtain ⟨v, ws, rfl, h1, h2⟩ := h
   obtain ⟨ks, rfl, rfl, h3⟩ := qfq h2 fun x hx => d x (List.mem_cons_of_mem _ hx)
   obtain ⟨d1, d2⟩ := d k (List.mem_cons_self ..)
   cases k with
   | num i => rw [yG] at d1; omega
   | tup m =>
     obtain ⟨a, rfl⟩ : ∃ a, v = .ref a := by
      rw [NkV] at h1
      obtain ⟨a, vs, e, _⟩ := h1
      exact ⟨a, e⟩
     refine ⟨(a, .tup m) :: ks, rfl, rfl, fun p hp => ?_⟩
     rcases List.mem_cons.mp hp with rfl | hp
     ·exact ⟨h1, d2⟩
     ·exact h3 p hp
theorem qfY {ks L : List (Addr × NK)} (u : Upto ks ks.length L) : (L.map (·.2)).Perm (dd (ks.map (·.2))) := by
 refine qg6 u.nd fun k => ⟨fun h => ?_, fun h => ?_⟩
 ·obtain ⟨p, hp, rfl⟩ := List.mem_map.mp h
  exact List.mem_map.mpr ⟨p, u.sub p hp, rfl⟩
 ·obtain ⟨p, hp, rfl⟩ := List.mem_map.mp h
  obtain ⟨j, hj⟩ := List.getElem?_of_mem hp
  exact u.all j p (List.getElem?_eq_some_iff.mp hj).1 hj
end
section
variable {X : Cx} {e : Expr} {t : XE} {p p2 q pos : Pos}
theorem qbI (hx : Ok X) (he : DE X e t) (m1 : X.mg "len" = none) (m2 : X.mg "set" = none) (g1 : Gl X "len" := by rfl) (g2 : Gl X "set" := by rfl)
 (n1 : starEach [e] X.env = (false, eval e X.env) :: starEach [] X.env := by rfl) (n2 : starEach [Expr.Call (.Name "set" p2) [e] [] q] X.env = (false, eval (.Call (.Name "set" p2) [e] [] q) X.env) :: starEach [] X.env := by rfl)
 (b2 : bootBuiltins "set" = some (.type "set") := by decide +kernel) (b1 : bootBuiltins "len" = some (.builtin "len") := by decide +kernel) : DE X (.Call (.Name "len" p) [.Call (.Name "set" p2) [e] [] q] [] pos) (XR t) := by
 refine ⟨PE.imp (pe_callB qeY g1 m1 b1 (pa_cons (pe_callTy (qhb hx) g2 m2 b2 (pa_cons he.run pa_nil n1) (by decide) (by decide) n1) pa_nil n2) (by decide) (by decide) n2) fun σ H Q q => ?_,
  fun env Q Q' h q => he.mono _ _ _ (fun r e q => qZ (fun d q => Ja (fun d q => h _ _ q) q) q) q⟩
 obtain ⟨env, f, A, q⟩ := q
 refine ⟨env, f, A, he.mono _ _ _ (fun r e1 q => ?_) q⟩
 intro x H1 f1 g1 A1 R1 S1 K1
 obtain ⟨d, g', rp, q⟩ := xf A1 R1 q
 unfold jZ at q
 split at q
 ·rename_i xs
  split at q
  ·rename_i l e
   obtain ⟨a, vs, g9, rfl, hs, rr, _, _⟩ := rp.listSq
   obtain ⟨ks, rfl, h2, h3⟩ := qfq (rr.nk (Nat.le_refl _) e) q.1
   have hl : ks.length = l.length := by rw [← h2, List.length_map]
   refine ⟨a, ks, rfl, hs, h3, by rw [hl]; exact q.2.1, fun S L hf up => ⟨S, L, rfl, upd_same, ?_⟩⟩
   have ex : Ext H1 (L2.upd H1 S (qe7 X.prog X.w S L)) [] := .updT hf
   have len : L.length = (dd l).length := by
    have := (qfY up).length_eq
    rw [List.length_map, h2] at this
    exact this
   rw [len]
   obtain ⟨A3, R3, S3⟩ := uQ A1 S1 ex (.int ((dd l).length : Nat))
   exact q.2.2 _ _ f1 [] A3 R3 S3 K1
  ·exact q.elim
 ·exact q.elim
end
end BX
namespace BX
open PySem PySem.Spec PyProof.Rows L2
mutual
def thwD : D → D
 | .tup xs => .tup (Ye xs)
 | .lF xs => .lst (Ye xs)
 | .non => .non
 | .bl b => .bl b
 | .int i => .int i
 | .str s => .str s
 | .lst xs => .lst xs
 | .dT m => .dT m
 | .dK m => .dK m
 | .dF m => .dF m
 | .ob n fs => .ob n fs
 | .ex n fs => .ex n fs
 | .dN m => .dN m
 | .op m => .op m
def Ye : List D → List D
 | [] => []
 | d :: ds => thwD d :: Ye ds
end
section
variable {K : PySem.W.Frag} {H : Hp}
mutual
theorem Rep.thaw : ∀ {d : D} {v : V} {f : List Addr}, Rep K H 0 d v f → d.imm = true → Rep K H 2 (BX.thwD d) v []
 | _, _, _, .non, _ => by rw [BX.thwD]; exact .non
 | _, _, _, .bl b, _ => by rw [BX.thwD]; exact .bl b
 | _, _, _, .int i, _ => by rw [BX.thwD]; exact .int i
 | _, _, _, .str s, _ => by rw [BX.thwD]; exact .str s
 | _, _, _, .tup h r, e => by
   rw [D.imm] at e
   rw [BX.thwD]; exact .tup h (Reps.thaw r e)
 | _, _, _, .tupK l h r, e => absurd l (by omega)
 | _, _, _, .lst h r n, e => by rw [D.imm] at e; cases e
 | _, _, _, .lstF l h r, e => absurd l (by omega)
 | _, _, _, .dT h e' nd r n, e => by rw [D.imm] at e; cases e
 | _, _, _, .dTF l h e' nd r, e => absurd l (by omega)
 | _, _, _, .dF h e' nd r, e => by rw [D.imm] at e; cases e
 | _, _, _, .lF h r, e => by
   rw [D.imm] at e
   rw [BX.thwD]; exact .lstF (Nat.le_refl _) (.inl ⟨_, h⟩) (Reps.thaw r e)
 | _, _, _, .ob h c e' r n, e => by rw [D.imm] at e; cases e
 | _, _, _, .ex h c e' z, e => by rw [D.imm] at e; cases e
 | _, _, _, .dK h e' nd r n, e => by rw [D.imm] at e; cases e
 | _, _, _, .dN h e' nd kk r n, e => by rw [D.imm] at e; cases e
 | _, _, _, .opN v, e => by rw [D.imm] at e; cases e
 | _, _, _, .opF h, e => by rw [D.imm] at e; cases e
theorem Reps.thaw : ∀ {ds : List D} {vs : List V} {f : List Addr}, Reps K H 0 ds vs f → immL ds = true → Reps K H 2 (Ye ds) vs []
 | _, _, _, .nil, _ => by rw [Ye]; exact .nil
 | _, _, _, .cons r t n, e => by
   rw [immL, Bool.and_eq_true] at e
   rw [Ye]
   exact .cons (f := []) (g := []) (Rep.thaw r e.1) (Reps.thaw t e.2) fun _ b hb => by simp at hb
end
end
def qg8 (t : XE) : XE := fun env Q => t env fun r e => rd 1 r e fun d => d.imm = true ∧ Q (.ro true (thwD d)) e
section
variable {X : Cx} {e : Expr} {t : XE}
theorem qg2 (ha : DE X e t) : DE X e (qg8 t) := by
 refine ⟨PE.imp ha.run fun σ H Q q => ?_, fun env Q Q' h q => ha.mono _ _ _ (fun r e q => qZ (fun d q => ⟨q.1, h _ _ q.2⟩) q) q⟩
 obtain ⟨env, f, A, q⟩ := q
 refine ⟨env, f, A, ha.mono _ _ _ (fun r1 e1 q => ?_) q⟩
 intro x H1 f1 g1 A1 R1 S1 K1
 obtain ⟨d, g', rp, im, q⟩ := xf A1 R1 q
 obtain ⟨_, r0⟩ := rp.imm (Nat.le_refl _) im
 exact q x H1 f1 [] A1 (.ro (c := true) (r0.thaw im) qC) (S1.drop fun _ z => by simp at z) K1
end
end BX
namespace TX
open PySem PySem.Spec PyProof.Rows L2 BX
variable {e : En} {Q : R → En → Prop}
theorem qjb {t : XE} (q : t e fun r e => rd 1 r e fun d => d.imm = true ∧ aR Q (.ro true (thwD d)) e) : qg8 t e Q := q
theorem qis {d d' : D} {r : R} (h : Rv e 1 r d) (im : d.imm = true) (ed : thwD d = d') (q : aR Q (.ro true d') e) : rd 1 r e fun d => d.imm = true ∧ aR Q (.ro true (thwD d)) e := h.rd ⟨im, by rw [ed]; exact q⟩
end TX
namespace TX
open PySem PySem.Spec PyProof.Rows L2 BX
theorem Zm {α : Type} {f g : α → D} (h : ∀ a, thwD (f a) = g a) : ∀ l : List α, Ye (l.map f) = l.map g
 | [] => by rw [List.map_nil, Ye]; rfl
 | a :: l => by rw [List.map_cons, Ye, h, Zm h l]; rfl
end TX
namespace TX
open PySem PySem.Spec PyProof.Rows L2 BX RT PySem.W
mutual
theorem qcj : ∀ {d : D} {k : NK}, toK d = some k → nkD k = d
 | .int i, k, e => by rw [toK] at e; cases e; rw [nkD]
 | .tup xs, k, e => by
   rw [toK] at e
   cases h : toKs xs with
   | none => rw [h] at e; cases e
   | some l =>
     rw [h] at e
     cases e
     rw [nkD, qay h]
 | .non, k, e => by simp [toK] at e
 | .bl _, k, e => by simp [toK] at e
 | .str _, k, e => by simp [toK] at e
 | .lst _, k, e => by simp [toK] at e
 | .dT _, k, e => by simp [toK] at e
 | .dK _, k, e => by simp [toK] at e
 | .dF _, k, e => by simp [toK] at e
 | .lF _, k, e => by simp [toK] at e
 | .dN _, k, e => by simp [toK] at e
 | .ob _ _, k, e => by simp [toK] at e
 | .ex _ _, k, e => by simp [toK] at e
 | .op _, k, e => by simp [toK] at e
theorem qay : ∀ {ds : List D} {l : List NK}, toKs ds = some l → nkDs l = ds
 | [], l, e => by rw [toKs] at e; cases e; rw [nkDs]
 | d :: ds, l, e => by
   rw [toKs] at e
   cases h1 : toK d with
   | none => rw [h1] at e; simp at e
   | some k =>
     cases h2 : toKs ds with
     | none => rw [h1, h2] at e; simp at e
     | some m =>
       rw [h1, h2] at e
       simp at e
       subst e
       rw [nkDs, qcj h1, qay h2]
end
section
variable {α κ : Type} [DecidableEq κ] {c : κ → D} {kf : κ → NK} {n : Nat} [hc : Kn c kf n] [ht : KnT kf] {f : α → D} [hf : Im f]
omit [DecidableEq κ] hf in
theorem qiF {l : List (κ × α)} : OpN (op1 qbQ) [eDN kf f l] (.int (l.length : Nat)) := fun k q => by
 unfold op1 eDN qbQ
 simpa using q
include hc ht hf in
theorem Yz (hn : n ≤ 8) : ∀ l : List (κ × α), YB (l.map (eT2 c f)) = some (l.map fun p => (kf p.1, f p.2))
 | [] => rfl
 | p :: l => by
   rw [List.map_cons, YB, Yz hn l]
   have : qcM (eT2 c f p) = some (kf p.1, f p.2) := by
    obtain ⟨m, e⟩ := ht.tup p.1
    have d := hc.dep (c := c) p.1
    unfold eT2 qcM
    dsimp only
    rw [hc.ok, e]
    rw [e] at d
    dsimp only
    rw [if_pos ⟨Nat.le_trans d hn, hf.im _⟩]
   rw [this]; rfl
include hc in
theorem Wd : ∀ (l m : List (κ × α)), jW (m.map fun p => (kf p.1, f p.2)) (l.map fun p => (kf p.1, f p.2)) = (xg m l).map fun p => (kf p.1, f p.2)
 | [], m => rfl
 | p :: l, m => by
   have := Wd l (putA p.1 p.2 m)
   unfold jW xg at this ⊢
   rw [List.map_cons, List.foldl_cons, List.foldl_cons]
   dsimp only
   rw [qaJ (c := c)]
   exact this
include hc ht hf in
theorem qgB {l : List (κ × α)} (hn : n ≤ 8 := by decide) : OpN (op1 YZ) [eL (eT2 c f) l] (eDN kf f (xg [] l)) := fun k q => by
 unfold op1 YZ eL
 simp only [Yz (c := c) (f := f) (kf := kf) hn]
 have := Wd (c := c) (f := f) (kf := kf) l []
 rw [List.map_nil] at this
 rw [this]; exact q
variable {e : En} {i : Nat} {Q : R → En → Prop}
theorem qja {t : XE} (h : isNd i e) (q : t e fun r e1 => match r with
 | .tmp (.dN l) => updK i l e1 fun e' => aR Q (.tmp .non) e'
 | _ => False) : qg7 i t e Q := ⟨h, q⟩
include hc hf in
theorem qip {l ys : List (κ × α)} {m : Md} {P : List (κ × α) → Prop} (ee : List (κ × α) → En) (h : lt (xg l ys) P) (h0 : e[i]? = some (some (eDN kf f l, m))) (hap : l ≠ [] ∨ (ys.map fun p => zE (kf p.1)).Nodup) (hl : l.length + ys.length ≤ sizeLine)
 (he : ∀ x, e.set i (some (eDN kf f x, m)) = ee x) (q : ∀ x, P x → aR Q (.tmp .non) (ee x)) (hm : m = .own ∨ m = .io := by decide) :
 (match (R.tmp (eDN kf f ys)) with
 | .tmp (.dN l) => updK i l e fun e' => aR Q (.tmp .non) e'
 | _ => False) := by
 have q := q _ h
 rw [← he] at q
 unfold eDN at h0 q ⊢
 dsimp only
 rw [← Wd (c := c)] at q
 have im : ∀ l : List (κ × α), immL ((l.map fun p => (kf p.1, f p.2)).map (·.2)) = true := fun l => uO fun d hd => by
  simp only [List.map_map, List.mem_map, Function.comp] at hd
  obtain ⟨p, _, rfl⟩ := hd
  exact hf.im _
 have ap : (l.map fun p => (kf p.1, f p.2)) ≠ [] ∨ ((ys.map fun p => (kf p.1, f p.2)).map fun p => zE p.1).Nodup := by
  rcases hap with z | z
  ·exact .inl fun w => z (List.map_eq_nil_iff.mp w)
  ·right
   rw [List.map_map]
   exact z
 unfold updK
 rcases hm with rfl | rfl <;> (simp only [h0]; exact ⟨rfl, ⟨im l, im ys⟩, ap, by simpa using hl, q⟩)
theorem qdM {t : XE} (q : t e fun r e => rd 1 r e fun d => jZ d fun d' => aR Q (.tmp d') e) : XR t e Q := q
omit [DecidableEq κ] in
theorem qfI {β : Type} [DecidableEq β] [DecidableEq κ] {g : κ → β} (h : ∀ a b, g a = g b → a = b) : ∀ l : List κ, dd (l.map g) = (dd l).map g
 | [] => rfl
 | a :: l => by
   rw [List.map_cons, dd, dd, qfI h l]
   by_cases z : a ∈ dd l
   ·rw [if_pos z, if_pos (List.mem_map_of_mem z)]
   ·rw [if_neg z, if_neg (fun w => z (by
     obtain ⟨b, hb, e⟩ := List.mem_map.mp w
     rw [h _ _ e] at hb; exact hb))]
    rfl
include hc ht in
theorem qcU {l : List κ} {r : R} (h : Rv e 1 r (eL c l)) (few : l.length < 4096) (q : aR Q (.tmp (.int ((dd l).length : Nat))) e) (hn : n ≤ 8 := by decide) : rd 1 r e fun d => jZ d fun d' => aR Q (.tmp d') e := by
 refine h.rd ?_
 unfold eL jZ
 simp only [Y8 (c := c) l]
 refine ⟨fun x hx => ?_, by rw [List.length_map]; exact few, ?_⟩
 ·obtain ⟨a, _, rfl⟩ := List.mem_map.mp hx
  obtain ⟨m, em⟩ := ht.tup a
  have d := hc.dep (c := c) a
  refine ⟨?_, Nat.le_trans d hn⟩
  rw [em, yG]; omega
 ·rw [qfI (fun a b => hc.inj (c := c) a b), List.length_map]
  exact q
end
section
variable {e : En} {Q : R → En → Prop}
abbrev Pt := Int × Int
abbrev ePt : Pt → D := eT2 D.int D.int
abbrev eSD : Pt × Int → D := eT2 ePt D.int
abbrev eRg : List Pt → D := eV ePt
theorem qen (a : Pt) : (ePt a).py = Datum.toD a := by
 obtain ⟨x, y⟩ := a
 simp [eT2, D.py, pyL]
 rfl
theorem Yg (l : List Pt) : (eRg l).py = .tuple (l.map Datum.toD) := by
 show (D.tup (l.map ePt)).py = _
 rw [D.py, qcE, List.map_map]
 exact congrArg PyData.tuple (List.map_congr_left fun b _ => qen b)
theorem qif {a b : Pt} (h : (Datum.toD a : PyData) = Datum.toD b) : a = b := by
 rw [← qen, ← qen] at h
 obtain ⟨x, y⟩ := a
 obtain ⟨u, v⟩ := b
 simp [eT2, D.py, pyL] at h
 rw [h.1, h.2]
theorem qcD (s : Pt × Int) : (eSD s).py = Datum.toD s := by
 obtain ⟨⟨x, y⟩, w⟩ := s
 simp [eT2, D.py, pyL]
 rfl
def ltV (a b : List Pt) : Bool := listLt a b
theorem qgI (a b : List Pt) : dataLt (eRg a).py (eRg b).py = ltV a b := by
 rw [Yg, Yg, dataLt_tuple]
 exact lexAll_map a b
theorem Jc (a b : List Pt) : alike (eRg a).py (eRg b).py = true := by
 rw [Yg, Yg]
 simp only [alike]
 exact alikeAll_map a b
theorem qgN (l : List Pt) : PyData.canLayAll0 (l.map Datum.toD) = true ∧ PyData.depthAll (l.map Datum.toD) ≤ 1 := by
 induction l with
 | nil => simp [PyData.canLayAll0, PyData.depthAll]
 | cons b l ih =>
   rw [List.map_cons, ← qen]
   simp only [PyData.canLayAll0, PyData.depthAll]
   refine ⟨by rw [ih.1]; simp [eT2, D.py, pyL, PyData.canLay0, PyData.canLayAll0], Nat.max_le.mpr ⟨by simp [eT2, D.py, pyL, PyData.depth, PyData.depthAll], ih.2⟩⟩
theorem ZV (l : List Pt) : (eRg l).py.canLay0 = true ∧ (eRg l).py.depth ≤ 2 := by
 obtain ⟨h1, h2⟩ := qgN l
 rw [Yg]
 refine ⟨by simp only [PyData.canLay0]; exact h1, ?_⟩
 simp only [PyData.depth]
 omega
theorem qfk {a b : List Pt} : OpTo qet (eRg a) (eRg b) (.bl (ltV a b)) := fun k q => by
 rw [← qgI] at q
 exact ⟨⟨Im.im (f := eRg) a, Im.im (f := eRg) b⟩, ⟨Jc a b, by rw [Yg]; exact fun z => by cases z⟩, ⟨(ZV a).1, (ZV b).1⟩, by have := (ZV a).2; omega, q⟩
def srtV (l : List (List Pt)) : List (List Pt) := l.mergeSort fun a b => !ltV b a
theorem qeB {l : List (List Pt)} (h : ∀ r ∈ l, r ≠ []) : OpN (op1 YX) [eL eRg l] (eL eRg (srtV l)) := fun k q => by
 unfold op1 eL YX
 dsimp only
 refine ⟨⟨?_, ?_, ?_, fun d hd => ?_⟩, ?_⟩
 ·exact Xy.mpr fun d hd => by
   obtain ⟨c, _, rfl⟩ := List.mem_map.mp hd
   exact Im.im (f := eRg) c
 ·rw [List.map_map]; exact AllAlike.of fun a b => Jc a b
 ·left
  intro d hd
  obtain ⟨c, hc, rfl⟩ := List.mem_map.mp hd
  obtain ⟨r, hr, rfl⟩ := List.mem_map.mp hc
  rw [Yg]
  cases r with
  | nil => exact absurd rfl (h _ hr)
  | cons a r => exact ⟨_, _, rfl⟩
 ·obtain ⟨c, hc, rfl⟩ := List.mem_map.mp hd
  exact ⟨(ZV c).1, Nat.le_trans (ZV c).2 (by decide)⟩
 ·have e : Zx (l.map eRg) = (srtV l).map eRg := by
   unfold Zx srtV
   refine (List.map_mergeSort fun a _ b _ => ?_).symm
   show (!ltV b a) = dataLe false D.py (eRg a) (eRg b)
   rw [dataLe_eq]
   show (!ltV b a) = !dataLt (eRg b).py (eRg a).py
   rw [qgI]
  rw [e]
  exact q
def qcm (l : List (Pt × Int)) : List (Pt × Int) := l.mergeSort fun a b => !DatumOrd.lt b a
theorem qeA {β : Type} {kf : Pt × Int → NK} {n : Nat} [hc : Kn eSD kf n] {f : β → D} {l : List ((Pt × Int) × β)} : OpN (op1 YW) [eDN kf f l] (eL eSD (qcm (l.map (·.1)))) := fun k q => by
 unfold op1 eDN YW
 have ek : ((l.map fun p => (kf p.1, f p.2)).map fun p => nkD p.1) = (l.map (·.1)).map eSD := by
  rw [List.map_map, List.map_map]
  exact List.map_congr_left fun p _ => qcj (hc.ok p.1)
 dsimp only
 rw [ek]
 generalize l.map (·.1) = l at q ⊢
 refine ⟨⟨?_, ?_, ?_, fun d hd => ?_⟩, ?_⟩
 ·exact Xy.mpr fun d hd => by
   obtain ⟨c, _, rfl⟩ := List.mem_map.mp hd
   exact Im.im (f := eSD) c
 ·rw [List.map_map]; exact AllAlike.of fun a b => by
   show alike (eSD a).py (eSD b).py = true
   rw [qcD, qcD]; exact DatumOrd.alike a b
 ·rw [List.map_map]
  exact Sortable.tuples fun c => by
   show ∃ x r, (eSD c).py = .tuple (x :: r)
   rw [qcD]; exact ⟨_, _, rfl⟩
 ·obtain ⟨c, hc, rfl⟩ := List.mem_map.mp hd
  obtain ⟨⟨u, v⟩, w⟩ := c
  simp [eT2, D.py, pyL, PyData.canLay0, PyData.canLayAll0, PyData.depth, PyData.depthAll]
 ·have e : Zx (l.map eSD) = (qcm l).map eSD := by
   unfold Zx qcm
   refine (List.map_mergeSort fun a _ b _ => ?_).symm
   show (!DatumOrd.lt b a) = dataLe false D.py (eSD a) (eSD b)
   rw [dataLe_eq]
   show (!DatumOrd.lt b a) = !dataLt (eSD b).py (eSD a).py
   rw [qcD, qcD, DatumOrd.lt_eq]
  rw [e]
  exact q
def minV : List (List Pt) → Option (List Pt)
 | [] => none
 | x :: xs => some (xs.foldl (fun a y => if ltV y a then y else a) x)
theorem qh8 {a b : List Pt} (h : (eRg a).py = (eRg b).py) : a = b := by
 rw [Yg, Yg] at h
 injection h with h
 induction a generalizing b with
 | nil => cases b with
   | nil => rfl
   | cons _ _ => simp at h
 | cons x a ih => cases b with
   | nil => simp at h
   | cons y b =>
     rw [List.map_cons, List.map_cons, List.cons.injEq] at h
     have e1 : x = y := qif h.1
     rw [e1, ih h.2]
theorem qc3 (xs : List (List Pt)) : ∀ x : List Pt, minD (eRg x).py ((xs.map eRg).map D.py) = (eRg (xs.foldl (fun a y => if ltV y a then y else a) x)).py := by
 induction xs with
 | nil => intro x; rfl
 | cons y ys ih =>
   intro x
   unfold minD at ih ⊢
   rw [List.map_cons, List.map_cons, List.foldl_cons, List.foldl_cons, qgI]
   cases h : ltV y x with
   | true => rw [if_pos rfl, if_pos rfl]; exact ih y
   | false => rw [if_neg Bool.false_ne_true, if_neg Bool.false_ne_true]; exact ih x
theorem qgz {l : List (List Pt)} {m : List Pt} (h : minV l = some m) : OpN (op1 qbO) [eL eRg l] (eRg m) := fun k q => by
 cases l with
 | nil => cases h
 | cons x xs =>
   unfold op1 eL qbO
   show MinDs (eRg x :: xs.map eRg) ∧ ∀ d ∈ eRg x :: xs.map eRg, d.py = minD (eRg x).py ((xs.map eRg).map D.py) → k d
   refine ⟨⟨?_, ?_, ?_, ?_⟩, fun d hd e => ?_⟩
   ·exact Xy.mpr fun d hd => by
     obtain ⟨c, _, rfl⟩ := List.mem_map.mp (show d ∈ (x :: xs).map eRg from hd)
     exact Im.im (f := eRg) c
   ·show AlikeAll (((x :: xs).map eRg).map D.py)
    rw [List.map_map]
    refine ⟨fun a ha b hb => ?_, fun a ha => ?_⟩
    ·obtain ⟨p, _, rfl⟩ := List.mem_map.mp ha
     obtain ⟨r, _, rfl⟩ := List.mem_map.mp hb
     exact Jc _ _
    ·obtain ⟨p, _, rfl⟩ := List.mem_map.mp ha
     show (eRg p).py ≠ .none
     rw [Yg]
     exact fun z => by cases z
   ·intro d hd
    obtain ⟨c, _, rfl⟩ := List.mem_map.mp (show d ∈ (x :: xs).map eRg from hd)
    exact (ZV c).1
   ·show PyData.depthAll (((x :: xs).map eRg).map D.py) ≤ 40
    have : ∀ l : List (List Pt), PyData.depthAll ((l.map eRg).map D.py) ≤ 2 := fun l => by
     induction l with
     | nil => simp [PyData.depthAll]
     | cons c l ih =>
       rw [List.map_cons, List.map_cons]
       simp only [PyData.depthAll]
       exact Nat.max_le.mpr ⟨(ZV c).2, ih⟩
    exact Nat.le_trans (this _) (by decide)
   ·obtain ⟨c, _, rfl⟩ := List.mem_map.mp (show d ∈ (x :: xs).map eRg from hd)
    rw [qc3] at e
    have := qh8 e
    have h : some (xs.foldl (fun a y => if ltV y a then y else a) x) = some m := h
    cases h
    rw [this]
    exact q
end
section
variable {α κ : Type} [DecidableEq κ] {c : κ → D} {kf : κ → List Key} [hk : Kt c kf] {f : α → D} {l : List (κ × α)} {k : κ}
theorem qii : OpTo (vG false) (c k) (eDF kf f l) (.bl (hasA l k)) := fun kk q => by
 obtain ⟨ds, h1, h2⟩ := hk.key k
 rw [h1]
 unfold eDF vG
 simp only [h2, V9 (c := c)]
 simpa using q
theorem Xl : OpTo (vG true) (c k) (eDF kf f l) (.bl (!hasA l k)) := fun kk q => by
 obtain ⟨ds, h1, h2⟩ := hk.key k
 rw [h1]
 unfold eDF vG
 simp only [h2, V9 (c := c)]
 simpa using q
end
theorem qhV (a : Pt) : thwD (ePt a) = ePt a := by
 simp [eT2, thwD, Ye]
theorem qhU (l : List Pt) : thwD (eRg l) = eRg l := by
 have := Zm (f := ePt) (g := ePt) qhV l
 show thwD (.tup (l.map ePt)) = .tup (l.map ePt)
 rw [thwD, this]
theorem qf0 (l : List (List Pt)) : thwD (eF eRg l) = eL eRg l := by
 have := Zm (f := eRg) (g := eRg) qhU l
 show thwD (.lF (l.map eRg)) = .lst (l.map eRg)
 rw [thwD, this]
end TX
namespace K34
open PySem PySem.Spec PyProof.Rows L2 BX TX COM BC
def xY (x y : D) (kr : Bool → Prop) : Prop := Ji 4 x y kr
def qW : FS := mkS (α := D × D) (κ := Bool) [.cst, .cst] (fun a => [eA a.1, eA a.2]) (fun a => xY a.1 a.2) (fun r => D.bl r) fun a r => [eA a.1, eA a.2]
def Ut : List (Int × Int) := [(1, 0), (0, 1), (-1, 0), (0, -1)]
def Q6 : XS :=
 (sSeq (sAsg (dCall 1 (op1 qao) (ql (dLc (iSeq (dVar 0)) (gN 9) xYes (dTup (ql (dVar 9) (ql (dC (.bl true)) aNil))) [9]) aNil)) (gN 1))
 (sSeq (sAsg qdG (gN 2))
 (sSeq (sFor (iSeq (dVar 0)) (gT 2 (wN (gN 3) (wN (gN 4) jR))) (sSeq (sAsg (dLst (ql (dTup (ql (dTup (ql (dVar 3) (ql (dVar 4) aNil))) (ql (dTup (ql (dVar 3) (ql (dBin 2 j9 (dVar 4) (dC (.int 1))) aNil))) aNil))) (ql (dTup (ql (dTup (ql (dBin 1 wY (dVar 3) (dC (.int 1))) (ql (dVar 4) aNil))) (ql (dTup (ql (dBin 1 wY (dVar 3) (dC (.int 1))) (ql (dVar 4) aNil))) aNil))) (ql (dTup (ql (dTup (ql (dBin 1 wY (dVar 3) (dC (.int 1))) (ql (dBin 1 wY (dVar 4) (dC (.int 1))) aNil))) (ql (dTup (ql (dVar 3) (ql (dBin 1 wY (dVar 4) (dC (.int 1))) aNil))) aNil))) (ql (dTup (ql (dTup (ql (dVar 3) (ql (dBin 1 wY (dVar 4) (dC (.int 1))) aNil))) (ql (dTup (ql (dBin 2 j9 (dVar 3) (dC (.int 1))) (ql (dVar 4) aNil))) aNil))) aNil))))) (gN 5))
 (sFor (qdk (dVar 5)) (gT 2 (wN (gN 6) (wN (gT 2 (wN (gN 7) (wN (gN 8) jR))) jR))) (sIf (xVal (dBin 1 Xm (dVar 8) (dVar 1))) (Vn (dC (.bl true)) (dVar 2) (dTup (ql (dVar 7) (ql (dVar 6) aNil)))) sNil))))
 (sRet (dVar 2)))))
def ux (room : (List (Int × Int))) (kr : (List (((Int × Int) × Int) × Bool)) → Prop) : Prop :=
 (room.length ≤ sizeLine) ∧
 lt ((xg [] (room.map (fun cell => (cell, true)))) : (List ((Int × Int) × Bool))) fun there =>
 lt (([] : (List (((Int × Int) × Int) × Bool))) : (List (((Int × Int) × Int) × Bool))) fun found =>
 forW room found (fun a8 (found : (List (((Int × Int) × Int) × Bool))) kk9 => lt ([((a8.1, a8.2), (a8.1, (a8.2 - 1))), (((a8.1 + 1), a8.2), ((a8.1 + 1), a8.2)), (((a8.1 + 1), (a8.2 + 1)), (a8.1, (a8.2 + 1))), ((a8.1, (a8.2 + 1)), ((a8.1 - 1), a8.2))] : (List ((Int × Int) × (Int × Int)))) fun ends =>
 forW (qdx ends) found (fun a13 (found : (List (((Int × Int) × Int) × Bool))) kk14 => ifW (!hasA there a13.2.2) (fun kk15 => (found.length < sizeLine) ∧
 lt (putA (a13.2.1, a13.1) true found) fun found =>
 kk15 found) (fun kk15 => kk15 found) fun (found : (List (((Int × Int) × Int) × Bool))) =>
 kk14 found) fun found =>
 kk9 found) fun found =>
 kr found
def yV : FS := mkS (α := (List (Int × Int))) (κ := (List (((Int × Int) × Int) × Bool))) [.ro] (fun a => [(eV (eT2 D.int D.int)) a]) (fun a => ux a) (fun r => (eDN (nT2 (nT2 nI nI) nI) D.bl) r) fun a r => [(eV (eT2 D.int D.int)) a]
theorem qbu : BodyOk yV 10 Q6 := by
 intro ds Q hl h
 obtain ⟨room, kr, rfl, h, q⟩ := h
 refine u6 (e' := [_, _, _, _, _, _, _, _, _, _]) rfl ?_
 unfold Q6
 unfold ux at h
 refine wy <| s_asg <| zf <| qd <| c_lc <| yP <| qw rfl <| qaQ ?_
 obtain ⟨p1, h⟩ := h
 refine ZP (e := [_, _, _, _, _, _, _, _, _, _]) (fI := zP) (fo := (eT2 zP D.bl)) (fun cell => (cell, true)) (all1 rfl) p1 rfl (fun cell ha c k1 hc h1 => ?_) ?_
 ·skip
  refine ZZ (e' := [_, _, _, _, _, _, _, _, _, _]) rfl rfl (?_)
  refine qX <| qd <| qw rfl <| qd <| c_C <| qu <| qO zP D.bl cell true (.cons (.of .ro (Im.im (f := zP) _)) (.cons .tmp .nil)) ?_
  exact o_el .tmp hc rfl h1
 refine yM (e' := [_, _, _, _, _, _, _, _, _, _]) rfl <| wA <| qu <| zb (.cons .tmp .nil) (qfs (c := zP) (f := D.bl)) ?_
 refine g_N (f := zD) (fun there => [_, zO (zD there), _, _, _, _, _, _, _, _]) h rfl (fun _ => rfl) fun there h => ?_
 refine wy <| s_asg <| qdN (kf := (nT2 (nT2 nI nI) nI)) (f := D.bl) ?_
 refine g_N (f := (eDN (nT2 (nT2 nI nI) nI) D.bl)) (fun found => [_, _, zO (eDN (nT2 (nT2 nI nI) nI) D.bl found), _, _, _, _, _, _, _]) h rfl (fun _ => rfl) fun found h => ?_
 refine wy <| QF <| yP <| qw rfl <| qaQ ?_
 refine Ql (fI := zP) (sh := fun (found : (List (((Int × Int) × Int) × Bool))) e => ∃ c2 c3 c4 c5 c6 c7 : Option (D × Md), (setS (some c2) = true ∧ setS (some c3) = true ∧ setS (some c4) = true ∧ setS (some c5) = true ∧ setS (some c6) = true ∧ setS (some c7) = true) ∧ e = [zR (zV room), zO (zD there), zO (eDN (nT2 (nT2 nI nI) nI) D.bl found), c2, c3, c4, c5, c6, c7, none]) h ⟨_, _, _, _, _, _, ⟨rfl, rfl, rfl, rfl, rfl, rfl⟩, rfl⟩ (fun a8 ha found e hs kk9 nxkk9 hJ9 h => ?_) ?_
 ·skip
  obtain ⟨c2, c3, c4, c5, c6, c7, ⟨hc2, hc3, hc4, hc5, hc6, hc7⟩, rfl⟩ := hs
  refine XC (by rfl) (zj (g_n (e' := [_, _, _, _, _, _, _, _, _, _]) hc2 rfl (zj (g_n (e' := [_, _, _, _, _, _, _, _, _, _]) hc3 rfl (vJ (?_))))))
  refine wy <| s_asg <| uo <| qd <| qX <| qd <| qX <| qd <| qw rfl <| qd <| qw rfl <| qu <| qO D.int D.int a8.1 a8.2 (.cons .tmp (.cons .tmp .nil)) <| qd <| qX <| qd <| qw rfl <| qd <| qM <| qw rfl <| c_C <| qK .tmp .tmp yC <| qu <| qO D.int D.int a8.1 (a8.2 - 1) (.cons .tmp (.cons .tmp .nil)) <| qu <| qO zP zP (a8.1, a8.2) (a8.1, (a8.2 - 1)) (.cons .tmp (.cons .tmp .nil)) <| qd <| qX <| qd <| qX <| qd <| qM <| qw rfl <| c_C <| qK .tmp .tmp wH <| qd <| qw rfl <| qu <| qO D.int D.int (a8.1 + 1) a8.2 (.cons .tmp (.cons .tmp .nil)) <| qd <| qX <| qd <| qM <| qw rfl <| c_C <| qK .tmp .tmp wH <| qd <| qw rfl <| qu <| qO D.int D.int (a8.1 + 1) a8.2 (.cons .tmp (.cons .tmp .nil)) <| qu <| qO zP zP ((a8.1 + 1), a8.2) ((a8.1 + 1), a8.2) (.cons .tmp (.cons .tmp .nil)) <| qd <| qX <| qd <| qX <| qd <| qM <| qw rfl <| c_C <| qK .tmp .tmp wH <| qd <| qM <| qw rfl <| c_C <| qK .tmp .tmp wH <| qu <| qO D.int D.int (a8.1 + 1) (a8.2 + 1) (.cons .tmp (.cons .tmp .nil)) <| qd <| qX <| qd <| qw rfl <| qd <| qM <| qw rfl <| c_C <| qK .tmp .tmp wH <| qu <| qO D.int D.int a8.1 (a8.2 + 1) (.cons .tmp (.cons .tmp .nil)) <| qu <| qO zP zP ((a8.1 + 1), (a8.2 + 1)) (a8.1, (a8.2 + 1)) (.cons .tmp (.cons .tmp .nil)) <| qd <| qX <| qd <| qX <| qd <| qw rfl <| qd <| qM <| qw rfl <| c_C <| qK .tmp .tmp wH <| qu <| qO D.int D.int a8.1 (a8.2 + 1) (.cons .tmp (.cons .tmp .nil)) <| qd <| qX <| qd <| qM <| qw rfl <| c_C <| qK .tmp .tmp yC <| qd <| qw rfl <| qu <| qO D.int D.int (a8.1 - 1) a8.2 (.cons .tmp (.cons .tmp .nil)) <| qu <| qO zP zP (a8.1, (a8.2 + 1)) ((a8.1 - 1), a8.2) (.cons .tmp (.cons .tmp .nil)) <| qu <| xj (eT2 zP zP) [((a8.1, a8.2), (a8.1, (a8.2 - 1))), (((a8.1 + 1), a8.2), ((a8.1 + 1), a8.2)), (((a8.1 + 1), (a8.2 + 1)), (a8.1, (a8.2 + 1))), ((a8.1, (a8.2 + 1)), ((a8.1 - 1), a8.2))] (.cons .tmp (.cons .tmp (.cons .tmp (.cons .tmp .nil)))) ?_
  refine g_N (f := (eL (eT2 zP zP))) (fun ends => [_, _, _, _, _, zO (eL (eT2 zP zP) ends), _, _, _, _]) h hc4 (fun _ => rfl) fun ends h => ?_
  refine QF <| qje <| qw rfl <| qkm (e' := [_, _, _, _, _, _, _, _, _, _]) rfl rfl rfl ?_
  refine Ql (fI := (eT2 D.int (eT2 zP zP))) (sh := fun (found : (List (((Int × Int) × Int) × Bool))) e => ∃ c10 c11 c12 : Option (D × Md), (setS (some c10) = true ∧ setS (some c11) = true ∧ setS (some c12) = true) ∧ e = [zR (zV room), zO (zD there), zO (eDN (nT2 (nT2 nI nI) nI) D.bl found), zO (D.int a8.1), zO (D.int a8.2), some ((eL (eT2 zP zP)) ends, .lk), c10, c11, c12, none]) h ⟨_, _, _, ⟨hc5, hc6, hc7⟩, rfl⟩ (fun a13 ha found e hs kk14 nxkk14 hJ14 h => ?_) ?_
  ·skip
   obtain ⟨c10, c11, c12, ⟨hc10, hc11, hc12⟩, rfl⟩ := hs
   refine g_T (by rfl) (zj (g_n (e' := [_, _, _, _, _, _, _, _, _, _]) hc10 rfl (zj (g_T (by rfl) (zj (g_n (e' := [_, _, _, _, _, _, _, _, _, _]) hc11 rfl (zj (g_n (e' := [_, _, _, _, _, _, _, _, _, _]) hc12 rfl (vJ (vJ (?_)))))))))))
   refine s_if <| zH <| qM <| qw rfl <| qw rfl <| qK .z .z (qgn (c := zP)) <| zG .tmp tr_b ?_
   refine Xp (sh := fun (found : (List (((Int × Int) × Int) × Bool))) e => e = [zR (zV room), zO (zD there), zO (eDN (nT2 (nT2 nI nI) nI) D.bl found), zO (D.int a8.1), zO (D.int a8.2), some ((eL (eT2 zP zP)) ends, .lk), zO (D.int a13.1), zO (zP a13.2.1), zO (zP a13.2.2), none]) h (fun hb kk15 nxkk15 hJ15 h => ?_) (fun hb kk15 nxkk15 hJ15 h => ?_) ?_
   ·skip
    refine Jq <| c_C <| qw rfl <| qX <| qd <| qw rfl <| qd <| qw rfl <| qu <| qO zP D.int a13.2.1 a13.1 (.cons (.of .z (Im.im (f := zP) _)) (.cons .tmp .nil)) ?_
    obtain ⟨p16, h⟩ := h
    refine JC (c := (eT2 zP D.int)) (f := D.bl) (fun found => [_, _, zO (eDN (nT2 (nT2 nI nI) nI) D.bl found), _, _, _, _, _, _, _]) h .tmp .tmp (by rfl) p16 (fun _ => rfl) fun found h => ?_
    exact hJ15 found _ rfl h
   ·skip
    refine jc ?_
    exact hJ15 found _ rfl h
   rintro found e hs h
   obtain rfl := hs
   exact hJ14 found _ ⟨_, _, _, ⟨rfl, rfl, rfl⟩, rfl⟩ h
  rintro found e hs h
  obtain ⟨c10, c11, c12, ⟨hc10, hc11, hc12⟩, rfl⟩ := hs
  refine vH (e' := [_, _, _, _, _, _, _, _, _, _]) rfl rfl ?_
  exact hJ9 found _ ⟨_, _, _, _, _, _, ⟨rfl, rfl, rfl, hc10, hc11, hc12⟩, rfl⟩ h
 rintro found e hs h
 obtain ⟨c2, c3, c4, c5, c6, c7, ⟨hc2, hc3, hc4, hc5, hc6, hc7⟩, rfl⟩ := hs
 refine wA <| s_ret <| qw rfl <| ZM (m := .own) (by rfl) ?_
 exact q found h
def uG : XS :=
 (sSeq (sAsg (dVar 1) (gT 2 (wN (gT 2 (wN (gN 2) (wN (gN 3) jR))) (wN (gN 4) jR))))
 (sSeq (sAsg (dTup (ql (dBin 1 wY (dVar 2) (dIdx (dIdx (dG X6) (dVar 4)) (dC (.int 0)))) (ql (dBin 1 wY (dVar 3) (dIdx (dIdx (dG X6) (dVar 4)) (dC (.int 1)))) aNil))) (gN 5))
 (sSeq (sFor (iSeq (dTup (ql (dC (.int 1)) (ql (dC (.int 0)) (ql (dC (.int 3)) aNil))))) (gN 6) (sIf (xVal (dBin 1 (Qi false) (dTup (ql (dVar 5) (ql (dBin 2 u5 (dBin 1 wY (dVar 4) (dVar 6)) (dC (.int 4))) aNil))) (dVar 0))) (sRet (dTup (ql (dVar 5) (ql (dBin 2 u5 (dBin 1 wY (dVar 4) (dVar 6)) (dC (.int 4))) aNil)))) sNil))
 (sRet (dC .non)))))
def yQ (sides : (List (((Int × Int) × Int) × Bool))) (side : ((Int × Int) × Int)) (kr : ((Int × Int) × Int) → Prop) : Prop :=
 exW (atI Ut side.2) fun x1 =>
 exW (atI Ut side.2) fun x3 =>
 lt (((side.1.1 + x1.1), (side.1.2 + x3.2)) : (Int × Int)) fun end' =>
 forW [1, 0, 3] () (fun turn (s5 : Unit) kk7 => ifP (hasA sides (end', ((side.2 + turn) % 4))) (kr (end', ((side.2 + turn) % 4))) <|
 kk7 ()) fun s5 =>
 False
def w6 : FS := mkS (α := ((List (((Int × Int) × Int) × Bool)) × ((Int × Int) × Int))) (κ := ((Int × Int) × Int)) [.ro, .ro] (fun a => [(eDN (nT2 (nT2 nI nI) nI) D.bl) a.1, (eT2 (eT2 D.int D.int) D.int) a.2]) (fun a => yQ a.1 a.2) (fun r => (eT2 (eT2 D.int D.int) D.int) r) fun a r => [(eDN (nT2 (nT2 nI nI) nI) D.bl) a.1, (eT2 (eT2 D.int D.int) D.int) a.2]
theorem Y5 : BodyOk w6 7 uG := by
 intro ds Q hl h
 obtain ⟨⟨sides, side⟩, kr, rfl, h, q⟩ := h
 refine u6 (e' := [_, _, _, _, _, _, _]) rfl ?_
 unfold uG
 unfold yQ at h
 refine wy <| s_asg <| qw rfl ?_
 refine XC (by rfl) (zj (XC (by rfl) (zj (g_n (e' := [_, _, _, _, _, _, _]) rfl rfl (zj (g_n (e' := [_, _, _, _, _, _, _]) rfl rfl (vJ (zj (g_n (e' := [_, _, _, _, _, _, _]) rfl rfl (vJ (?_)))))))))))
 refine wy <| s_asg <| qX <| qd <| qM <| qw rfl <| yJ <| yJ <| c_GV (f := zP) (xs := Ut) <| qw rfl ?_
 obtain ⟨x1, p2, h⟩ := h
 refine o_idx .cst .tmp (ix_V p2) (.ro rfl) <| c_C <| o_idx .cst .tmp WR (.ro rfl) <| qK .tmp .tmp wH <| qd <| qM <| qw rfl <| yJ <| yJ <| c_GV (f := zP) (xs := Ut) <| qw rfl ?_
 obtain ⟨x3, p4, h⟩ := h
 refine o_idx .cst .tmp (ix_V p4) (.ro rfl) <| c_C <| o_idx .cst .tmp WQ (.ro rfl) <| qK .tmp .tmp wH <| qu <| qO D.int D.int (side.1.1 + x1.1) (side.1.2 + x3.2) (.cons .tmp (.cons .tmp .nil)) ?_
 refine g_N (f := zP) (fun end' => [zR (eDN (nT2 (nT2 nI nI) nI) D.bl sides), zR (eT2 zP D.int side), zO (D.int side.1.1), zO (D.int side.1.2), zO (D.int side.2), zO (zP end'), none]) h rfl (fun _ => rfl) fun end' h => ?_
 refine wy <| QF <| yP <| qX <| qd <| c_C <| qd <| c_C <| qd <| c_C <| qu <| ZL D.int [1, 0, 3] (.cons .tmp (.cons .tmp (.cons .tmp .nil))) <| qit ?_
 refine Ql (fI := D.int) (sh := fun (s5 : Unit) e => ∃ c6 : Option (D × Md), (setS (some c6) = true) ∧ e = [zR (eDN (nT2 (nT2 nI nI) nI) D.bl sides), zR (eT2 zP D.int side), zO (D.int side.1.1), zO (D.int side.1.2), zO (D.int side.2), zO (zP end'), c6]) h ⟨_, rfl, rfl⟩ (fun turn ha s5 e hs kk7 nxkk7 hJ7 h => ?_) ?_
 ·skip
  obtain ⟨c6, hc6, rfl⟩ := hs
  refine g_n (e' := [_, _, _, _, _, _, _]) hc6 rfl (?_)
  refine s_if <| zH <| qM <| qX <| qd <| qw rfl <| qd <| qM <| qM <| qw rfl <| qw rfl <| qK .tmp .tmp wH <| c_C <| qK .tmp .tmp (Qg (by decide)) <| qu <| qO zP D.int end' ((side.2 + turn) % 4) (.cons (.of .z (Im.im (f := zP) _)) (.cons .tmp .nil)) <| qw rfl <| qK .tmp .ro (qaP (c := (eT2 zP D.int))) <| zG .tmp tr_b ?_
  refine ju h (fun hb h => ?_) (fun hb h => ?_)
  ·skip
   refine s_ret <| qX <| qd <| qw rfl <| qd <| qM <| qM <| qw rfl <| qw rfl <| qK .tmp .tmp wH <| c_C <| qK .tmp .tmp (Qg (by decide)) <| qu <| qO zP D.int end' ((side.2 + turn) % 4) (.cons (.of .z (Im.im (f := zP) _)) (.cons .tmp .nil)) <| xR <| wA ?_
   exact q (end', ((side.2 + turn) % 4)) h
  refine jc ?_
  exact hJ7 () _ ⟨_, rfl, rfl⟩ h
 rintro s5 e hs h
 obtain ⟨c6, hc6, rfl⟩ := hs
 refine wA ?_
 exact h.elim
def uF (w6 : FS) : XS :=
 (sSeq (sAsg (dLst (ql (dVar 1) aNil)) (gN 2))
 (sSeq (sAsg (dFn w6 (ql (dVar 0) (ql (dVar 1) aNil))) (gN 3))
 (sSeq (qcv (xVal (dBin 2 opNe (dVar 3) (dVar 1))) (sSeq (Q8 (dM1 D.isLst bAppend (dVar 2) (dVar 3)))
 (sAsg (dFn w6 (ql (dVar 0) (ql (dVar 3) aNil))) (gN 3))))
 (sRet (dVar 2)))))
def xN (sides : (List (((Int × Int) × Int) × Bool))) (first : ((Int × Int) × Int)) (kr : (List ((Int × Int) × Int)) → Prop) : Prop :=
 lt ([first] : (List ((Int × Int) × Int))) fun met =>
 yQ sides first fun t1 =>
 whW (met, t1) fun (s2 : ((List ((Int × Int) × Int)) × ((Int × Int) × Int))) kk3 =>
 ifP (!(decide (s2.2 = first))) ((s2.1.length < sizeLine) ∧
 lt (s2.1 ++ [s2.2]) fun met =>
 yQ sides s2.2 fun t5 =>
 kk3 (met, t5)) <|
 kr s2.1
def zu : FS := mkS (α := ((List (((Int × Int) × Int) × Bool)) × ((Int × Int) × Int))) (κ := (List ((Int × Int) × Int))) [.ro, .ro] (fun a => [(eDN (nT2 (nT2 nI nI) nI) D.bl) a.1, (eT2 (eT2 D.int D.int) D.int) a.2]) (fun a => xN a.1 a.2) (fun r => (eL (eT2 (eT2 D.int D.int) D.int)) r) fun a r => [(eDN (nT2 (nT2 nI nI) nI) D.bl) a.1, (eT2 (eT2 D.int D.int) D.int) a.2]
theorem Y4 : BodyOk zu 4 (uF w6) := by
 intro ds Q hl h
 obtain ⟨⟨sides, first⟩, kr, rfl, h, q⟩ := h
 refine u6 (e' := [_, _, _, _]) rfl ?_
 unfold uF
 unfold xN at h
 refine wy <| s_asg <| uo <| qd <| qw rfl <| qu <| xj (eT2 zP D.int) [first] (.cons (.of .ro (Im.im (f := (eT2 zP D.int)) _)) .nil) ?_
 refine g_N (f := (eL (eT2 zP D.int))) (fun met => [_, _, zO (eL (eT2 zP D.int) met), _]) h rfl (fun _ => rfl) fun met h => ?_
 refine wy <| s_asg <| c_fn <| qd <| qw rfl <| qd <| qw rfl <| qu ?_
 refine x_call (sides, first) (fun t1 => [_, _, _, _]) h (.cons .ro (.cons .ro .nil)) (qD (jE .ro) (qD (jE .ro) ww)) (wF (by rfl)) (fun _ => rfl) fun t1 h => ?_
 refine g_n (e' := [_, _, _, _]) rfl rfl ?_
 refine wy ?_
 refine s_while (sh := fun (s2 : ((List ((Int × Int) × Int)) × ((Int × Int) × Int))) e => e = [zR (eDN (nT2 (nT2 nI nI) nI) D.bl sides), zR (eT2 zP D.int first), zO (eL (eT2 zP D.int) s2.1), zO (eT2 zP D.int s2.2)]) h rfl (fun s2 e hs kk3 nxkk3 hJ3 h => ?_)
 obtain rfl := hs
 refine zH <| qM <| qw rfl <| qw rfl <| qK .z .ro (op_ne (f := (eT2 zP D.int))) <| zG .tmp tr_b ?_
 refine ju h (fun hb h => ?_) (fun hb h => ?_)
 ·skip
  refine wy <| vZ <| c_m1 (by rfl) (by rfl) (by decide) (by rfl) <| qw rfl ?_
  obtain ⟨p4, h⟩ := h
  refine QM (fun met => [_, _, zO (eL (eT2 zP D.int) met), _]) h (.of .z (Im.im (f := (eT2 zP D.int)) _)) (by rfl) p4 (fun _ => rfl) fun met h => s_asg <| c_fn <| qd <| qw rfl <| qd <| qw rfl <| qu ?_
  refine x_call (sides, s2.2) (fun t5 => [_, _, _, _]) h (.cons .ro (.cons .z .nil)) (qD (jE .ro) (qD (jE .z) ww)) (wF (by rfl)) (fun _ => rfl) fun t5 h => ?_
  refine g_n (e' := [_, _, _, _]) rfl rfl ?_
  exact hJ3 (met, t5) _ rfl h
 refine s_ret <| qw rfl <| ZM (m := .own) (by rfl) ?_
 exact q s2.1 h
def vg : XS :=
 (sRet (dLc (V7 (dVar 0) (dBin 1 wY (uD (dVar 0) (Wg (dNeg (dC (.int 1)))) Wh) (uD (dVar 0) Wh (Wg (dNeg (dC (.int 1))))))) (gT 2 (wN (gN 1) (wN (gN 2) jR))) (xVal (dBin 2 opNe (dIdx (dVar 1) (dC (.int 1))) (dIdx (dVar 2) (dC (.int 1))))) (dIdx (dVar 1) (dC (.int 0))) [1, 2]))
def je (met : (List ((Int × Int) × Int))) (kr : (List (Int × Int)) → Prop) : Prop :=
 ((cutA met (some (-1)) none).length + (cutA met none (some (-1))).length ≤ sizeLine) ∧
 ((met.zip ((cutA met (some (-1)) none) ++ (cutA met none (some (-1))))).length ≤ sizeLine) ∧
 kr (((met.zip ((cutA met (some (-1)) none) ++ (cutA met none (some (-1))))).filter (fun a2 => (!(decide (a2.1.2 = a2.2.2))))).map (fun a2 => a2.1.1))
def ye : FS := mkS (α := (List ((Int × Int) × Int))) (κ := (List (Int × Int))) [.ro] (fun a => [(eL (eT2 (eT2 D.int D.int) D.int)) a]) (fun a => je a) (fun r => (eL (eT2 D.int D.int)) r) fun a r => [(eL (eT2 (eT2 D.int D.int) D.int)) a]
theorem Jj : BodyOk ye 3 vg := by
 intro ds Q hl h
 obtain ⟨met, kr, rfl, h, q⟩ := h
 refine u6 (e' := [_, _, _]) rfl ?_
 unfold vg
 unfold je at h
 refine s_ret <| c_lc <| qhi <| qw rfl <| qM <| jM <| qw rfl <| jN <| qbM <| c_C <| qbE .tmp <| jF .tmp <| jO <| qcT (f := (eT2 zP D.int)) (lo := (some (-1))) (hi := none) .ro <| jM <| qw rfl <| jO <| jN <| qbM <| c_C <| qbE .tmp <| jF .tmp <| qcT (f := (eT2 zP D.int)) (lo := none) (hi := (some (-1))) .ro ?_
 obtain ⟨p1, h⟩ := h
 refine qK .tmp .tmp (Vz (f := (eT2 zP D.int)) p1) <| qfo (f := (eT2 zP D.int)) (g := (eT2 zP D.int)) .ro .tmp rfl rfl ?_
 obtain ⟨p3, h⟩ := h
 refine qiw (e := [_, _, _]) (fI := (eT2 (eT2 zP D.int) (eT2 zP D.int))) (fo := zP) (fun a2 => (!(decide (a2.1.2 = a2.2.2)))) (fun a2 => a2.1.1) (all2 rfl rfl) p3 rfl (fun a2 ha c k1 k2 hc h1 h2 => ?_) ?_
 ·skip
  refine XC (by rfl) (zj (ZZ (e' := [_, _, _]) rfl rfl (zj (ZZ (e' := [_, _, _]) rfl rfl (vJ (?_))))))
  refine zH <| qM <| yJ <| qw rfl <| c_C <| o_idx .ro .tmp WQ (.ro rfl) <| yJ <| qw rfl <| c_C <| o_idx .ro .tmp WQ (.ro rfl) <| qK .tmp .tmp (op_ne (f := D.int)) <| zG .tmp tr_b ?_
  refine ⟨fun hb => ?_, fun hb => h2 hb⟩
  refine yJ <| qw rfl <| c_C <| o_idx .ro .tmp WR (.ro rfl) ?_
  exact o_el (.of .ro (Im.im (f := zP) _)) hc rfl (h1 hb)
 refine yM (e' := [_, _, _]) rfl <| wA <| xR ?_
 exact q (((met.zip ((cutA met (some (-1)) none) ++ (cutA met none (some (-1))))).filter (fun a2 => (!(decide (a2.1.2 = a2.2.2))))).map (fun a2 => a2.1.1)) h
def j6 : XS :=
 (sSeq (sAsg (dLc (jH (dCall 2 (op1 bLen) (ql (dVar 0) aNil))) (gN 2) xYes (dBin 1 wY (dCall 1 (op1 uX) (ql (uD (dVar 0) (Wg (dVar 2)) Wh) aNil)) (dCall 1 (op1 uX) (ql (uD (dVar 0) Wh (Wg (dVar 2))) aNil))) [2]) (gN 1))
 (sRet (dCall 1 (op1 qbO) (ql (dVar 1) aNil))))
def yZ (points : (List (Int × Int))) (kr : (List (Int × Int)) → Prop) : Prop :=
 (Yc 0 (points.length : Int)) ∧
 ((rng 0 (points.length : Int)).length ≤ sizeLine) ∧
 (∀ k' ∈ (rng 0 (points.length : Int)), ((cutA points (some k') none).length + (cutA points none (some k')).length ≤ sizeLine) ∧
 True) ∧
 lt (((rng 0 (points.length : Int)).map (fun k' => ((cutA points (some k') none) ++ (cutA points none (some k'))))) : (List (List (Int × Int)))) fun rows =>
 exW (minV rows) fun x5 =>
 kr x5
def za : FS := mkS (α := (List (Int × Int))) (κ := (List (Int × Int))) [.ro] (fun a => [(eL (eT2 D.int D.int)) a]) (fun a => yZ a) (fun r => (eV (eT2 D.int D.int)) r) fun a r => [(eL (eT2 D.int D.int)) a]
theorem Yd : BodyOk za 3 j6 := by
 intro ds Q hl h
 obtain ⟨points, kr, rfl, h, q⟩ := h
 refine u6 (e' := [_, _, _]) rfl ?_
 unfold j6
 unfold yZ at h
 refine wy <| s_asg <| c_lc <| Uk <| zf <| qd <| qw rfl <| qu <| zb (.cons .ro .nil) YH ?_
 obtain ⟨p1, h⟩ := h
 refine JB p1 ?_
 obtain ⟨p2, h⟩ := h
 obtain ⟨p3, h⟩ := h
 refine ZP (e := [_, _, _]) (fI := D.int) (fo := zV) (fun k' => ((cutA points (some k') none) ++ (cutA points none (some k')))) (all1 rfl) p2 rfl (fun k' ha c k1 hc h1 => ?_) ?_
 ·have h := p3 k' ha
  refine g_n (e' := [_, _, _]) rfl rfl (?_)
  refine qM <| zf <| qd <| jM <| qw rfl <| jN <| qw rfl <| jF .tmp <| jO <| qcT (f := zP) (lo := (some k')) (hi := none) .ro <| qu <| zb (.cons .tmp .nil) (YG (f := zP)) <| zf <| qd <| jM <| qw rfl <| jO <| jN <| qw rfl <| jF .tmp <| qcT (f := zP) (lo := none) (hi := (some k')) .ro <| qu <| zb (.cons .tmp .nil) (YG (f := zP)) ?_
  obtain ⟨p4, h⟩ := h
  refine qK .tmp .tmp (Vy (f := zP) p4) ?_
  exact o_el .tmp hc rfl h1
 refine yM (e' := [_, _, _]) rfl <| wA ?_
 refine g_N (f := (eL zV)) (fun rows => [_, zO (eL zV rows), _]) h rfl (fun _ => rfl) fun rows h => ?_
 refine s_ret <| zf <| qd <| qw rfl <| qu ?_
 obtain ⟨x5, p6, h⟩ := h
 refine zb (.cons .z .nil) (qgz p6) <| xR ?_
 exact q x5 h
def Q7 (za ye zu yV : FS) : XS :=
 (sSeq (sAsg (dFn yV (ql (dVar 0) aNil)) (gN 1))
 (sSeq (sAsg qdG (gN 2))
 (sSeq (sAsg (dLst aNil) (gN 3))
 (sSeq (sFor (iSeq (dCall 1 (op1 YW) (ql (dVar 1) aNil))) (gN 4) (sIf (xVal (dBin 1 (Qi true) (dVar 4) (dVar 2))) (sSeq (sAsg (dFn zu (ql (dVar 1) (ql (dVar 4) aNil))) (gN 5))
 (sSeq (Q8 (qg7 2 (dCall 1 (op1 YZ) (ql (dLc (iSeq (dVar 5)) (gN 6) xYes (dTup (ql (dVar 6) (ql (dC (.bl true)) aNil))) [6]) aNil))))
 (Q8 (dM1 D.isLst bAppend (dVar 3) (dFn za (ql (dFn ye (ql (dVar 5) aNil)) aNil)))))) sNil))
 (sRet (dCall 1 (op1 YX) (ql (dVar 3) aNil)))))))
def zN (room : (List (Int × Int))) (kr : (List (List (Int × Int))) → Prop) : Prop :=
 ux room fun t1 =>
 lt (([] : (List (((Int × Int) × Int) × Bool))) : (List (((Int × Int) × Int) × Bool))) fun met =>
 lt (([] : List (List (Int × Int))) : (List (List (Int × Int)))) fun rings =>
 forW (qcm (t1.map (·.1))) (met, rings) (fun first (s2 : ((List (((Int × Int) × Int) × Bool)) × (List (List (Int × Int))))) kk5 => ifW (!hasA s2.1 first) (fun kk8 => xN t1 first fun t9 =>
 (t9.length ≤ sizeLine) ∧
 ((s2.1 ≠ [] ∨ ((xg [] (t9.map (fun side => (side, true)))).map fun p => BX.zE ((nT2 (nT2 nI nI) nI) p.1)).Nodup) ∧ s2.1.length + (xg [] (t9.map (fun side => (side, true)))).length ≤ sizeLine) ∧
 lt (xg s2.1 (xg [] (t9.map (fun side => (side, true))))) fun met =>
 je t9 fun t12 =>
 yZ t12 fun t13 =>
 (s2.2.length < sizeLine) ∧
 lt (s2.2 ++ [t13]) fun rings =>
 kk8 (met, rings)) (fun kk8 => kk8 (s2.1, s2.2)) fun (s6 : ((List (((Int × Int) × Int) × Bool)) × (List (List (Int × Int))))) =>
 kk5 (s6.1, s6.2)) fun s2 =>
 (∀ r ∈ s2.2, r ≠ []) ∧
 kr (srtV s2.2)
def yr : FS := mkS (α := (List (Int × Int))) (κ := (List (List (Int × Int)))) [.ro] (fun a => [(eV (eT2 D.int D.int)) a]) (fun a => zN a) (fun r => (eL (eV (eT2 D.int D.int))) r) fun a r => [(eV (eT2 D.int D.int)) a]
theorem qbv : BodyOk yr 7 (Q7 za ye zu yV) := by
 intro ds Q hl h
 obtain ⟨room, kr, rfl, h, q⟩ := h
 refine u6 (e' := [_, _, _, _, _, _, _]) rfl ?_
 unfold Q7
 unfold zN at h
 refine wy <| s_asg <| c_fn <| qd <| qw rfl <| qu ?_
 refine x_call room (fun t1 => [_, _, _, _, _, _, _]) h (.cons .ro .nil) (qD (jE .ro) ww) (wF (by rfl)) (fun _ => rfl) fun t1 h => ?_
 refine g_n (e' := [_, _, _, _, _, _, _]) rfl rfl ?_
 refine wy <| s_asg <| qdN (kf := (nT2 (nT2 nI nI) nI)) (f := D.bl) ?_
 refine g_N (f := (eDN (nT2 (nT2 nI nI) nI) D.bl)) (fun met => [_, _, zO (eDN (nT2 (nT2 nI nI) nI) D.bl met), _, _, _, _]) h rfl (fun _ => rfl) fun met h => ?_
 refine wy <| s_asg <| uo <| qu <| xj zV ([] : List (List (Int × Int))) .nil ?_
 refine g_N (f := (eL zV)) (fun rings => [_, _, _, zO (eL zV rings), _, _, _]) h rfl (fun _ => rfl) fun rings h => ?_
 refine wy <| QF <| yP <| zf <| qd <| qw rfl <| qu <| zb (.cons .z .nil) qeA <| qev ?_
 refine Ql (fI := (eT2 zP D.int)) (sh := fun (s2 : ((List (((Int × Int) × Int) × Bool)) × (List (List (Int × Int))))) e => ∃ c3 c4 : Option (D × Md), (setS (some c3) = true ∧ setS (some c4) = true) ∧ e = [zR (zV room), zO (eDN (nT2 (nT2 nI nI) nI) D.bl t1), zO (eDN (nT2 (nT2 nI nI) nI) D.bl s2.1), zO (eL zV s2.2), c3, c4, none]) h ⟨_, _, ⟨rfl, rfl⟩, rfl⟩ (fun first ha s2 e hs kk5 nxkk5 hJ5 h => ?_) ?_
 ·skip
  obtain ⟨c3, c4, ⟨hc3, hc4⟩, rfl⟩ := hs
  refine g_n (e' := [_, _, _, _, _, _, _]) hc3 rfl (?_)
  refine s_if <| zH <| qM <| qw rfl <| qw rfl <| qK .z .z (Vw (c := (eT2 zP D.int))) <| zG .tmp tr_b ?_
  refine Xp (sh := fun (s6 : ((List (((Int × Int) × Int) × Bool)) × (List (List (Int × Int))))) e => ∃ c7 : Option (D × Md), (setS (some c7) = true) ∧ e = [zR (zV room), zO (eDN (nT2 (nT2 nI nI) nI) D.bl t1), zO (eDN (nT2 (nT2 nI nI) nI) D.bl s6.1), zO (eL zV s6.2), zO (eT2 zP D.int first), c7, none]) h (fun hb kk8 nxkk8 hJ8 h => ?_) (fun hb kk8 nxkk8 hJ8 h => ?_) ?_
  ·skip
   refine wy <| s_asg <| c_fn <| qd <| qw rfl <| qd <| qw rfl <| qu ?_
   refine x_call (t1, first) (fun t9 => [_, _, _, _, _, _, _]) h (.cons .z (.cons .z .nil)) (qD (jE .z) (qD (jE .z) ww)) (wF (by rfl)) (fun _ => rfl) fun t9 h => ?_
   refine g_n (e' := [_, _, _, _, _, _, _]) hc4 rfl ?_
   refine wy <| vZ <| qja (by show True; trivial) <| zf <| qd <| c_lc <| yP <| qw rfl <| Yi (e' := [_, _, _, _, _, _, _]) rfl rfl rfl ?_
   obtain ⟨p10, h⟩ := h
   refine ZP (e := [_, _, _, _, _, _, _]) (fI := (eT2 zP D.int)) (fo := (eT2 (eT2 zP D.int) D.bl)) (fun side => (side, true)) (all1 rfl) p10 rfl (fun side ha c k1 hc h1 => ?_) ?_
   ·skip
    refine g_n (e' := [_, _, _, _, _, _, _]) rfl rfl (?_)
    refine qX <| qd <| qw rfl <| qd <| c_C <| qu <| qO (eT2 zP D.int) D.bl side true (.cons (.of .z (Im.im (f := (eT2 zP D.int)) _)) (.cons .tmp .nil)) ?_
    exact o_el .tmp hc rfl h1
   refine yM (e' := [_, _, _, _, _, _, _]) rfl <| vH (e' := [_, _, _, _, _, _, _]) rfl rfl <| qu <| zb (.cons .tmp .nil) (qgB (c := (eT2 zP D.int)) (f := D.bl)) ?_
   obtain ⟨p11, h⟩ := h
   refine qip (c := (eT2 zP D.int)) (f := D.bl) (fun met => [_, _, zO (eDN (nT2 (nT2 nI nI) nI) D.bl met), _, _, _, _]) h (by rfl) p11.1 p11.2 (fun _ => rfl) fun met h => vZ <| c_m1 (by rfl) (by rfl) (by decide) (by rfl) <| c_fn <| qd <| c_fn <| qd <| qw rfl <| qu ?_
   refine x_call t9 (fun t12 => [_, _, _, _, _, _, _]) h (.cons .z .nil) (qD (jE .z) ww) (wF (by rfl)) (fun _ => rfl) fun t12 h => ?_
   refine qu ?_
   refine x_call t12 (fun t13 => [_, _, _, _, _, _, _]) h (.cons .tmp .nil) (qD (jE .tmp) ww) (wF (by rfl)) (fun _ => rfl) fun t13 h => ?_
   obtain ⟨p14, h⟩ := h
   refine QM (fun rings => [_, _, _, zO (eL zV rings), _, _, _]) h .tmp (by rfl) p14 (fun _ => rfl) fun rings h => ?_
   exact hJ8 (met, rings) _ ⟨_, rfl, rfl⟩ h
  ·skip
   refine jc ?_
   exact hJ8 (s2.1, s2.2) _ ⟨_, hc4, rfl⟩ h
  rintro s6 e hs h
  obtain ⟨c7, hc7, rfl⟩ := hs
  exact hJ5 (s6.1, s6.2) _ ⟨_, _, ⟨rfl, hc7⟩, rfl⟩ h
 rintro s2 e hs h
 obtain ⟨c3, c4, ⟨hc3, hc4⟩, rfl⟩ := hs
 refine wA <| s_ret <| zf <| qd <| qw rfl <| qu ?_
 obtain ⟨p15, h⟩ := h
 refine zb (.cons .z .nil) (qeB p15) <| xR ?_
 exact q (srtV s2.2) h
def Qc : XS :=
 (sSeq (sAsg (dVar 1) (gT 2 (wN (gN 2) (wN (gN 3) jR))))
 (sSeq (sAsg (dLc (iSeq (dLst (ql (dTup (ql (dBin 2 j9 (dVar 2) (dC (.int 1))) (ql (dBin 2 j9 (dVar 3) (dC (.int 1))) aNil))) (ql (dTup (ql (dVar 2) (ql (dBin 2 j9 (dVar 3) (dC (.int 1))) aNil))) (ql (dTup (ql (dBin 2 j9 (dVar 2) (dC (.int 1))) (ql (dVar 3) aNil))) (ql (dTup (ql (dVar 2) (ql (dVar 3) aNil))) aNil)))))) (gN 5) (xVal (dBin 1 (vG false) (dVar 5) (dVar 0))) (dVar 5) [5]) (gN 4))
 (sSeq (sIf (xVal (dBin 2 opEq (dCall 2 (op1 bLen) (ql (dVar 4) aNil)) (dC (.int 2)))) (sRet (dIdx (dLst (ql (dC (.str (Str.ofString "wall"))) (ql (dC (.str (Str.ofString "twice"))) aNil))) (dCall 2 (op1 bInt) (ql (dAnd (dBin 2 opNe (dIdx (dIdx (dVar 4) (dC (.int 0))) (dC (.int 0))) (dIdx (dIdx (dVar 4) (dC (.int 1))) (dC (.int 0)))) (dBin 2 opNe (dIdx (dIdx (dVar 4) (dC (.int 0))) (dC (.int 1))) (dIdx (dIdx (dVar 4) (dC (.int 1))) (dC (.int 1))))) aNil)))) sNil)
 (sRet (dIdx (dLst (ql (dC (.str (Str.ofString "none"))) (ql (dC (.str (Str.ofString "outer"))) (ql (dC (.str (Str.ofString ""))) (ql (dC (.str (Str.ofString "inner"))) (ql (dC (.str (Str.ofString "within"))) aNil)))))) (dCall 2 (op1 bLen) (ql (dVar 4) aNil)))))))
def jB (room : (List ((Int × Int) × Bool))) (point : (Int × Int)) (kr : Str → Prop) : Prop :=
 ([((point.1 - 1), (point.2 - 1)), (point.1, (point.2 - 1)), ((point.1 - 1), point.2), (point.1, point.2)].length ≤ sizeLine) ∧
 lt (([((point.1 - 1), (point.2 - 1)), (point.1, (point.2 - 1)), ((point.1 - 1), point.2), (point.1, point.2)].filter (fun cell => (hasA room cell))) : (List (Int × Int))) fun some' =>
 ifP (decide ((some'.length : Int) = 2)) (exW (atI some' 0) fun x2 =>
 exW (atI some' 1) fun x4 =>
 ifW (!(decide (x2.1 = x4.1))) (fun kk6 => exW (atI some' 0) fun x7 =>
 exW (atI some' 1) fun x9 =>
 kk6 ((!(decide (x7.2 = x9.2))), ())) (fun kk6 => kk6 (false, ())) fun (b11 : Bool × Unit) =>
 exW (atI [(Str.ofString "wall"), (Str.ofString "twice")] (intB b11.1)) fun x12 =>
 kr x12) <|
 exW (atI [(Str.ofString "none"), (Str.ofString "outer"), (Str.ofString ""), (Str.ofString "inner"), (Str.ofString "within")] (some'.length : Int)) fun x14 =>
 kr x14
def yF : FS := mkS (α := ((List ((Int × Int) × Bool)) × (Int × Int))) (κ := Str) [.ro, .ro] (fun a => [(eDF (kf2 Sum.inl Sum.inl) D.bl) a.1, (eT2 D.int D.int) a.2]) (fun a => jB a.1 a.2) (fun r => D.str r) fun a r => [(eDF (kf2 Sum.inl Sum.inl) D.bl) a.1, (eT2 D.int D.int) a.2]
theorem Va : BodyOk yF 6 Qc := by
 intro ds Q hl h
 obtain ⟨⟨room, point⟩, kr, rfl, h, q⟩ := h
 refine u6 (e' := [_, _, _, _, _, _]) rfl ?_
 unfold Qc
 unfold jB at h
 refine wy <| s_asg <| qw rfl ?_
 refine XC (by rfl) (zj (g_n (e' := [_, _, _, _, _, _]) rfl rfl (zj (g_n (e' := [_, _, _, _, _, _]) rfl rfl (vJ (?_))))))
 refine wy <| s_asg <| c_lc <| yP <| uo <| qd <| qX <| qd <| qM <| qw rfl <| c_C <| qK .tmp .tmp yC <| qd <| qM <| qw rfl <| c_C <| qK .tmp .tmp yC <| qu <| qO D.int D.int (point.1 - 1) (point.2 - 1) (.cons .tmp (.cons .tmp .nil)) <| qd <| qX <| qd <| qw rfl <| qd <| qM <| qw rfl <| c_C <| qK .tmp .tmp yC <| qu <| qO D.int D.int point.1 (point.2 - 1) (.cons .tmp (.cons .tmp .nil)) <| qd <| qX <| qd <| qM <| qw rfl <| c_C <| qK .tmp .tmp yC <| qd <| qw rfl <| qu <| qO D.int D.int (point.1 - 1) point.2 (.cons .tmp (.cons .tmp .nil)) <| qd <| qX <| qd <| qw rfl <| qd <| qw rfl <| qu <| qO D.int D.int point.1 point.2 (.cons .tmp (.cons .tmp .nil)) <| qu <| xj zP [((point.1 - 1), (point.2 - 1)), (point.1, (point.2 - 1)), ((point.1 - 1), point.2), (point.1, point.2)] (.cons .tmp (.cons .tmp (.cons .tmp (.cons .tmp .nil)))) <| qev ?_
 obtain ⟨p1, h⟩ := h
 refine qcV (e := [_, _, _, _, _, _]) (fI := zP) (fo := zP) (fun cell => (hasA room cell)) (all1 rfl) p1 rfl (fun cell ha c k1 k2 hc h1 h2 => ?_) ?_
 ·skip
  refine g_n (e' := [_, _, _, _, _, _]) rfl rfl (?_)
  refine zH <| qM <| qw rfl <| qw rfl <| qK .z .ro (qii (c := zP)) <| zG .tmp tr_b ?_
  refine ⟨fun hb => ?_, fun hb => h2 hb⟩
  refine qw rfl ?_
  exact o_el (.of .z (Im.im (f := zP) _)) hc rfl (h1 hb)
 refine yM (e' := [_, _, _, _, _, _]) rfl <| wA ?_
 refine g_N (f := zL) (fun some' => [zR (eDF zk2 D.bl room), zR (zP point), zO (D.int point.1), zO (D.int point.2), zO (zL some'), none]) h rfl (fun _ => rfl) fun some' h => ?_
 refine wy <| s_if <| zH <| qM <| zf <| qd <| qw rfl <| qu <| zb (.cons .z .nil) YH <| c_C <| qK .tmp .tmp (op_eq (f := D.int)) <| zG .tmp tr_b ?_
 refine ju h (fun hb h => ?_) (fun hb h => ?_)
 ·skip
  refine s_ret <| yJ <| uo <| qd <| c_C <| qd <| c_C <| qu <| xj D.str [(Str.ofString "wall"), (Str.ofString "twice")] (.cons .tmp (.cons .tmp .nil)) <| zf <| qd <| qhl <| qM <| yJ <| yJ <| qw rfl <| c_C ?_
  obtain ⟨x2, p3, h⟩ := h
  refine o_idx .z .tmp (ix_L p3) (.sl (Im.im (f := zP) _)) <| c_C <| o_idx .tmp .tmp WR .tmp <| yJ <| yJ <| qw rfl <| c_C ?_
  obtain ⟨x4, p5, h⟩ := h
  refine o_idx .z .tmp (ix_L p5) (.sl (Im.im (f := zP) _)) <| c_C <| o_idx .tmp .tmp WR .tmp <| qK .tmp .tmp (op_ne (f := D.int)) <| qfp .tmp ?_
  refine qgv (sh := fun (s : Unit) e => e = [zR (eDF zk2 D.bl room), zR (zP point), zO (D.int point.1), zO (D.int point.2), zO (zL some'), none]) h rfl (fun hb kk6 N hJ6 h => ?_) ?_
  ·skip
   refine qM <| yJ <| yJ <| qw rfl <| c_C ?_
   obtain ⟨x7, p8, h⟩ := h
   refine o_idx .z .tmp (ix_L p8) (.sl (Im.im (f := zP) _)) <| c_C <| o_idx .tmp .tmp WQ .tmp <| yJ <| yJ <| qw rfl <| c_C ?_
   obtain ⟨x9, p10, h⟩ := h
   refine o_idx .z .tmp (ix_L p10) (.sl (Im.im (f := zP) _)) <| c_C <| o_idx .tmp .tmp WQ .tmp <| qK .tmp .tmp (op_ne (f := D.int)) ?_
   exact hJ6 ((!(decide (x7.2 = x9.2))), ()) _ rfl h
  rintro b11 e hs h
  obtain rfl := hs
  refine qu <| zb (.cons .tmp .nil) qiG ?_
  obtain ⟨x12, p13, h⟩ := h
  refine o_idx .tmp .tmp (ix_L p13) .tmp <| xR ?_
  exact q x12 h
 refine jc <| s_ret <| yJ <| uo <| qd <| c_C <| qd <| c_C <| qd <| c_C <| qd <| c_C <| qd <| c_C <| qu <| xj D.str [(Str.ofString "none"), (Str.ofString "outer"), (Str.ofString ""), (Str.ofString "inner"), (Str.ofString "within")] (.cons .tmp (.cons .tmp (.cons .tmp (.cons .tmp (.cons .tmp .nil))))) <| zf <| qd <| qw rfl <| qu <| zb (.cons .z .nil) YH ?_
 obtain ⟨x14, p15, h⟩ := h
 refine o_idx .tmp .tmp (ix_L p15) .tmp <| xR ?_
 exact q x14 h
def vh : XS :=
 (sSeq (sAsg qdG (gN 1))
 (sSeq (sFor (iKs 0) (gT 2 (wN (gN 2) (wN (gN 3) jR))) (sSeq (sIf (xVal (dBin 1 (vG true) (dTup (ql (dVar 2) (ql (dBin 2 j9 (dVar 3) (dC (.int 1))) aNil))) (WW 0))) (Vn (dC (.bl true)) (dVar 1) (dTup (ql (dTup (ql (dVar 2) (ql (dVar 3) aNil))) (ql (dTup (ql (dC (.int 1)) (ql (dC (.int 0)) aNil))) aNil)))) sNil)
 (sSeq (sIf (xVal (dBin 1 (vG true) (dTup (ql (dBin 1 wY (dVar 2) (dC (.int 1))) (ql (dVar 3) aNil))) (WW 0))) (Vn (dC (.bl true)) (dVar 1) (dTup (ql (dTup (ql (dBin 1 wY (dVar 2) (dC (.int 1))) (ql (dVar 3) aNil))) (ql (dTup (ql (dC (.int 0)) (ql (dC (.int 1)) aNil))) aNil)))) sNil)
 (sSeq (sIf (xVal (dBin 1 (vG true) (dTup (ql (dVar 2) (ql (dBin 1 wY (dVar 3) (dC (.int 1))) aNil))) (WW 0))) (Vn (dC (.bl true)) (dVar 1) (dTup (ql (dTup (ql (dBin 1 wY (dVar 2) (dC (.int 1))) (ql (dBin 1 wY (dVar 3) (dC (.int 1))) aNil))) (ql (dTup (ql (dNeg (dC (.int 1))) (ql (dC (.int 0)) aNil))) aNil)))) sNil)
 (sIf (xVal (dBin 1 (vG true) (dTup (ql (dBin 2 j9 (dVar 2) (dC (.int 1))) (ql (dVar 3) aNil))) (WW 0))) (Vn (dC (.bl true)) (dVar 1) (dTup (ql (dTup (ql (dVar 2) (ql (dBin 1 wY (dVar 3) (dC (.int 1))) aNil))) (ql (dTup (ql (dC (.int 0)) (ql (dNeg (dC (.int 1))) aNil))) aNil)))) sNil)))))
 (sRet (dVar 1))))
def jf (there : (List ((Int × Int) × Bool))) (kr : (List (((Int × Int) × (Int × Int)) × Bool)) → Prop) : Prop :=
 lt (([] : (List (((Int × Int) × (Int × Int)) × Bool))) : (List (((Int × Int) × (Int × Int)) × Bool))) fun found =>
 forW (there.map (·.1)) found (fun a3 (found : (List (((Int × Int) × (Int × Int)) × Bool))) kk4 => ifW (!hasA there (a3.1, (a3.2 - 1))) (fun kk5 => (found.length < sizeLine) ∧
 lt (putA ((a3.1, a3.2), (1, 0)) true found) fun found =>
 kk5 found) (fun kk5 => kk5 found) fun (found : (List (((Int × Int) × (Int × Int)) × Bool))) =>
 ifW (!hasA there ((a3.1 + 1), a3.2)) (fun kk7 => (found.length < sizeLine) ∧
 lt (putA (((a3.1 + 1), a3.2), (0, 1)) true found) fun found =>
 kk7 found) (fun kk7 => kk7 found) fun (found : (List (((Int × Int) × (Int × Int)) × Bool))) =>
 ifW (!hasA there (a3.1, (a3.2 + 1))) (fun kk9 => (found.length < sizeLine) ∧
 lt (putA (((a3.1 + 1), (a3.2 + 1)), ((-1), 0)) true found) fun found =>
 kk9 found) (fun kk9 => kk9 found) fun (found : (List (((Int × Int) × (Int × Int)) × Bool))) =>
 ifW (!hasA there ((a3.1 - 1), a3.2)) (fun kk11 => (found.length < sizeLine) ∧
 lt (putA ((a3.1, (a3.2 + 1)), (0, (-1))) true found) fun found =>
 kk11 found) (fun kk11 => kk11 found) fun (found : (List (((Int × Int) × (Int × Int)) × Bool))) =>
 kk4 found) fun found =>
 kr found
def yf : FS := mkS (α := (List ((Int × Int) × Bool))) (κ := (List (((Int × Int) × (Int × Int)) × Bool))) [.ro] (fun a => [(eDF (kf2 Sum.inl Sum.inl) D.bl) a]) (fun a => jf a) (fun r => (eDN (nT2 (nT2 nI nI) (nT2 nI nI)) D.bl) r) fun a r => [(eDF (kf2 Sum.inl Sum.inl) D.bl) a]
theorem Jk : BodyOk yf 4 vh := by
 intro ds Q hl h
 obtain ⟨there, kr, rfl, h, q⟩ := h
 refine u6 (e' := [_, _, _, _]) rfl ?_
 unfold vh
 unfold jf at h
 refine wy <| s_asg <| qdN (kf := (nT2 (nT2 nI nI) (nT2 nI nI))) (f := D.bl) ?_
 refine g_N (f := (eDN (nT2 (nT2 nI nI) (nT2 nI nI)) D.bl)) (fun found => [_, zO (eDN (nT2 (nT2 nI nI) (nT2 nI nI)) D.bl found), _, _]) h rfl (fun _ => rfl) fun found h => ?_
 refine wy <| QF <| qkl (c := zP) (by rfl) ?_
 refine Ql (fI := zP) (sh := fun (found : (List (((Int × Int) × (Int × Int)) × Bool))) e => ∃ c1 c2 : Option (D × Md), (setS (some c1) = true ∧ setS (some c2) = true) ∧ e = [zR (eDF zk2 D.bl there), zO (eDN (nT2 (nT2 nI nI) (nT2 nI nI)) D.bl found), c1, c2]) h ⟨_, _, ⟨rfl, rfl⟩, rfl⟩ (fun a3 ha found e hs kk4 nxkk4 hJ4 h => ?_) ?_
 ·skip
  obtain ⟨c1, c2, ⟨hc1, hc2⟩, rfl⟩ := hs
  refine g_T (by rfl) (zj (g_n (e' := [_, _, _, _]) hc1 rfl (zj (g_n (e' := [_, _, _, _]) hc2 rfl (vJ (?_))))))
  refine wy <| s_if <| zH <| qM <| qX <| qd <| qw rfl <| qd <| qM <| qw rfl <| c_C <| qK .tmp .tmp yC <| qu <| qO D.int D.int a3.1 (a3.2 - 1) (.cons .tmp (.cons .tmp .nil)) <| Yb (kf := zk2) (f := D.bl) (by rfl) (by decide) <| qK .tmp .tmp (Xl (c := zP)) <| zG .tmp tr_b ?_
  refine Xp (sh := fun (found : (List (((Int × Int) × (Int × Int)) × Bool))) e => e = [zR (eDF zk2 D.bl there), zO (eDN (nT2 (nT2 nI nI) (nT2 nI nI)) D.bl found), zO (D.int a3.1), zO (D.int a3.2)]) h (fun hb kk5 nxkk5 hJ5 h => ?_) (fun hb kk5 nxkk5 hJ5 h => ?_) ?_
  ·skip
   refine Jq <| c_C <| qw rfl <| qX <| qd <| qX <| qd <| qw rfl <| qd <| qw rfl <| qu <| qO D.int D.int a3.1 a3.2 (.cons .tmp (.cons .tmp .nil)) <| qd <| qX <| qd <| c_C <| qd <| c_C <| qu <| qO D.int D.int 1 0 (.cons .tmp (.cons .tmp .nil)) <| qu <| qO zP zP (a3.1, a3.2) (1, 0) (.cons .tmp (.cons .tmp .nil)) ?_
   obtain ⟨p6, h⟩ := h
   refine JC (c := (eT2 zP zP)) (f := D.bl) (fun found => [_, zO (eDN (nT2 (nT2 nI nI) (nT2 nI nI)) D.bl found), _, _]) h .tmp .tmp (by rfl) p6 (fun _ => rfl) fun found h => ?_
   exact hJ5 found _ rfl h
  ·skip
   refine jc ?_
   exact hJ5 found _ rfl h
  rintro found e hs h
  obtain rfl := hs
  refine wy <| s_if <| zH <| qM <| qX <| qd <| qM <| qw rfl <| c_C <| qK .tmp .tmp wH <| qd <| qw rfl <| qu <| qO D.int D.int (a3.1 + 1) a3.2 (.cons .tmp (.cons .tmp .nil)) <| Yb (kf := zk2) (f := D.bl) (by rfl) (by decide) <| qK .tmp .tmp (Xl (c := zP)) <| zG .tmp tr_b ?_
  refine Xp (sh := fun (found : (List (((Int × Int) × (Int × Int)) × Bool))) e => e = [zR (eDF zk2 D.bl there), zO (eDN (nT2 (nT2 nI nI) (nT2 nI nI)) D.bl found), zO (D.int a3.1), zO (D.int a3.2)]) h (fun hb kk7 nxkk7 hJ7 h => ?_) (fun hb kk7 nxkk7 hJ7 h => ?_) ?_
  ·skip
   refine Jq <| c_C <| qw rfl <| qX <| qd <| qX <| qd <| qM <| qw rfl <| c_C <| qK .tmp .tmp wH <| qd <| qw rfl <| qu <| qO D.int D.int (a3.1 + 1) a3.2 (.cons .tmp (.cons .tmp .nil)) <| qd <| qX <| qd <| c_C <| qd <| c_C <| qu <| qO D.int D.int 0 1 (.cons .tmp (.cons .tmp .nil)) <| qu <| qO zP zP ((a3.1 + 1), a3.2) (0, 1) (.cons .tmp (.cons .tmp .nil)) ?_
   obtain ⟨p8, h⟩ := h
   refine JC (c := (eT2 zP zP)) (f := D.bl) (fun found => [_, zO (eDN (nT2 (nT2 nI nI) (nT2 nI nI)) D.bl found), _, _]) h .tmp .tmp (by rfl) p8 (fun _ => rfl) fun found h => ?_
   exact hJ7 found _ rfl h
  ·skip
   refine jc ?_
   exact hJ7 found _ rfl h
  rintro found e hs h
  obtain rfl := hs
  refine wy <| s_if <| zH <| qM <| qX <| qd <| qw rfl <| qd <| qM <| qw rfl <| c_C <| qK .tmp .tmp wH <| qu <| qO D.int D.int a3.1 (a3.2 + 1) (.cons .tmp (.cons .tmp .nil)) <| Yb (kf := zk2) (f := D.bl) (by rfl) (by decide) <| qK .tmp .tmp (Xl (c := zP)) <| zG .tmp tr_b ?_
  refine Xp (sh := fun (found : (List (((Int × Int) × (Int × Int)) × Bool))) e => e = [zR (eDF zk2 D.bl there), zO (eDN (nT2 (nT2 nI nI) (nT2 nI nI)) D.bl found), zO (D.int a3.1), zO (D.int a3.2)]) h (fun hb kk9 nxkk9 hJ9 h => ?_) (fun hb kk9 nxkk9 hJ9 h => ?_) ?_
  ·skip
   refine Jq <| c_C <| qw rfl <| qX <| qd <| qX <| qd <| qM <| qw rfl <| c_C <| qK .tmp .tmp wH <| qd <| qM <| qw rfl <| c_C <| qK .tmp .tmp wH <| qu <| qO D.int D.int (a3.1 + 1) (a3.2 + 1) (.cons .tmp (.cons .tmp .nil)) <| qd <| qX <| qd <| qbM <| c_C <| qbE .tmp <| qd <| c_C <| qu <| qO D.int D.int (-1) 0 (.cons .tmp (.cons .tmp .nil)) <| qu <| qO zP zP ((a3.1 + 1), (a3.2 + 1)) ((-1), 0) (.cons .tmp (.cons .tmp .nil)) ?_
   obtain ⟨p10, h⟩ := h
   refine JC (c := (eT2 zP zP)) (f := D.bl) (fun found => [_, zO (eDN (nT2 (nT2 nI nI) (nT2 nI nI)) D.bl found), _, _]) h .tmp .tmp (by rfl) p10 (fun _ => rfl) fun found h => ?_
   exact hJ9 found _ rfl h
  ·skip
   refine jc ?_
   exact hJ9 found _ rfl h
  rintro found e hs h
  obtain rfl := hs
  refine s_if <| zH <| qM <| qX <| qd <| qM <| qw rfl <| c_C <| qK .tmp .tmp yC <| qd <| qw rfl <| qu <| qO D.int D.int (a3.1 - 1) a3.2 (.cons .tmp (.cons .tmp .nil)) <| Yb (kf := zk2) (f := D.bl) (by rfl) (by decide) <| qK .tmp .tmp (Xl (c := zP)) <| zG .tmp tr_b ?_
  refine Xp (sh := fun (found : (List (((Int × Int) × (Int × Int)) × Bool))) e => e = [zR (eDF zk2 D.bl there), zO (eDN (nT2 (nT2 nI nI) (nT2 nI nI)) D.bl found), zO (D.int a3.1), zO (D.int a3.2)]) h (fun hb kk11 nxkk11 hJ11 h => ?_) (fun hb kk11 nxkk11 hJ11 h => ?_) ?_
  ·skip
   refine Jq <| c_C <| qw rfl <| qX <| qd <| qX <| qd <| qw rfl <| qd <| qM <| qw rfl <| c_C <| qK .tmp .tmp wH <| qu <| qO D.int D.int a3.1 (a3.2 + 1) (.cons .tmp (.cons .tmp .nil)) <| qd <| qX <| qd <| c_C <| qd <| qbM <| c_C <| qbE .tmp <| qu <| qO D.int D.int 0 (-1) (.cons .tmp (.cons .tmp .nil)) <| qu <| qO zP zP (a3.1, (a3.2 + 1)) (0, (-1)) (.cons .tmp (.cons .tmp .nil)) ?_
   obtain ⟨p12, h⟩ := h
   refine JC (c := (eT2 zP zP)) (f := D.bl) (fun found => [_, zO (eDN (nT2 (nT2 nI nI) (nT2 nI nI)) D.bl found), _, _]) h .tmp .tmp (by rfl) p12 (fun _ => rfl) fun found h => ?_
   exact hJ11 found _ rfl h
  ·skip
   refine jc ?_
   exact hJ11 found _ rfl h
  rintro found e hs h
  obtain rfl := hs
  exact hJ4 found _ ⟨_, _, ⟨rfl, rfl⟩, rfl⟩ h
 rintro found e hs h
 obtain ⟨c1, c2, ⟨hc1, hc2⟩, rfl⟩ := hs
 refine wA <| s_ret <| qw rfl <| ZM (m := .own) (by rfl) ?_
 exact q found h
def uH : XS :=
 (sSeq (sAsg (dLst aNil) (gN 1))
 (sSeq (sFor (V7 (dVar 0) (dBin 1 wY (uD (dVar 0) (Wg (dC (.int 1))) Wh) (uD (dVar 0) Wh (Wg (dC (.int 1)))))) (gT 2 (wN (gT 2 (wN (gN 2) (wN (gN 3) jR))) (wN (gT 2 (wN (gN 4) (wN (gN 5) jR))) jR))) (sSeq (sIf (xVal (dBin 2 opEq (dBin 2 opEq (dVar 2) (dVar 4)) (dBin 2 opEq (dVar 3) (dVar 5)))) (sRet (dC .non)) sNil)
 (sSeq (sAsg (dBin 1 wY (dCall 2 (op1 bAbs) (ql (dBin 2 j9 (dVar 4) (dVar 2)) aNil)) (dCall 2 (op1 bAbs) (ql (dBin 2 j9 (dVar 5) (dVar 3)) aNil))) (gN 6))
 (sSeq (sAsg (dTup (ql (dBin 2 qcP (dBin 2 j9 (dVar 4) (dVar 2)) (dVar 6)) (ql (dBin 2 qcP (dBin 2 j9 (dVar 5) (dVar 3)) (dVar 6)) aNil))) (gN 7))
 (Q8 (dM1 D.isLst vL (dVar 1) (dLc (jH (dVar 6)) (gN 8) xYes (dTup (ql (dTup (ql (dBin 1 wY (dVar 2) (dBin 1 Qh (dVar 8) (dIdx (dVar 7) (dC (.int 0))))) (ql (dBin 1 wY (dVar 3) (dBin 1 Qh (dVar 8) (dIdx (dVar 7) (dC (.int 1))))) aNil))) (ql (dVar 7) aNil))) [8])))))))
 (sRet (dVar 1))))
def yu (ring : (List (Int × Int))) (kr : (Option (List ((Int × Int) × (Int × Int)))) → Prop) : Prop :=
 lt (([] : List ((Int × Int) × (Int × Int))) : (List ((Int × Int) × (Int × Int)))) fun found =>
 ((cutA ring (some 1) none).length + (cutA ring none (some 1)).length ≤ sizeLine) ∧
 forW (ring.zip ((cutA ring (some 1) none) ++ (cutA ring none (some 1)))) found (fun a8 (found : (List ((Int × Int) × (Int × Int)))) kk9 => ifP (decide ((decide (a8.1.1 = a8.2.1)) = (decide (a8.1.2 = a8.2.2)))) (kr (none : (Option (List ((Int × Int) × (Int × Int)))))) <|
 lt (((absI (a8.2.1 - a8.1.1)) + (absI (a8.2.2 - a8.1.2))) : Int) fun long =>
 (CDiv (a8.2.1 - a8.1.1) long) ∧
 (CDiv (a8.2.2 - a8.1.2) long) ∧
 lt ((((a8.2.1 - a8.1.1) / long), ((a8.2.2 - a8.1.2) / long)) : (Int × Int)) fun step =>
 (Yc 0 long) ∧
 ((rng 0 long).length ≤ sizeLine) ∧
 (∀ k' ∈ (rng 0 long), (IntMulOk k' step.1) ∧
 (IntMulOk k' step.2) ∧
 True) ∧
 (found.length + ((rng 0 long).map (fun k' => (((a8.1.1 + (k' * step.1)), (a8.1.2 + (k' * step.2))), step))).length ≤ sizeLine) ∧
 lt (found ++ ((rng 0 long).map (fun k' => (((a8.1.1 + (k' * step.1)), (a8.1.2 + (k' * step.2))), step)))) fun found =>
 kk9 found) fun found =>
 kr (some found)
def wg : FS := mkS (α := (List (Int × Int))) (κ := (Option (List ((Int × Int) × (Int × Int))))) [.ro] (fun a => [(eV (eT2 D.int D.int)) a]) (fun a => yu a) (fun r => (eO (eL (eT2 (eT2 D.int D.int) (eT2 D.int D.int)))) r) fun a r => [(eV (eT2 D.int D.int)) a]
theorem Y6 : BodyOk wg 9 uH := by
 intro ds Q hl h
 obtain ⟨ring, kr, rfl, h, q⟩ := h
 refine u6 (e' := [_, _, _, _, _, _, _, _, _]) rfl ?_
 unfold uH
 unfold yu at h
 refine wy <| s_asg <| uo <| qu <| xj (eT2 zP zP) ([] : List ((Int × Int) × (Int × Int))) .nil ?_
 refine g_N (f := (eL (eT2 zP zP))) (fun found => [_, zO (eL (eT2 zP zP) found), _, _, _, _, _, _, _]) h rfl (fun _ => rfl) fun found h => ?_
 refine wy <| QF <| qhi <| qw rfl <| qM <| jM <| qw rfl <| jN <| c_C <| jF .tmp <| jO <| qex (f := zP) (lo := (some 1)) (hi := none) .ro <| jM <| qw rfl <| jO <| jN <| c_C <| jF .tmp <| qex (f := zP) (lo := none) (hi := (some 1)) .ro ?_
 obtain ⟨p1, h⟩ := h
 refine qK .tmp .tmp (Vy (f := zP) p1) <| qio (f := zP) (g := zP) .ro .tmp rfl rfl ?_
 refine Ql (fI := (eT2 zP zP)) (sh := fun (found : (List ((Int × Int) × (Int × Int)))) e => ∃ c2 c3 c4 c5 c6 c7 : Option (D × Md), (setS (some c2) = true ∧ setS (some c3) = true ∧ setS (some c4) = true ∧ setS (some c5) = true ∧ setS (some c6) = true ∧ setS (some c7) = true) ∧ e = [zR (zV ring), zO (eL (eT2 zP zP) found), c2, c3, c4, c5, c6, c7, none]) h ⟨_, _, _, _, _, _, ⟨rfl, rfl, rfl, rfl, rfl, rfl⟩, rfl⟩ (fun a8 ha found e hs kk9 nxkk9 hJ9 h => ?_) ?_
 ·skip
  obtain ⟨c2, c3, c4, c5, c6, c7, ⟨hc2, hc3, hc4, hc5, hc6, hc7⟩, rfl⟩ := hs
  refine XC (by rfl) (zj (XC (by rfl) (zj (g_n (e' := [_, _, _, _, _, _, _, _, _]) hc2 rfl (zj (g_n (e' := [_, _, _, _, _, _, _, _, _]) hc3 rfl (vJ (zj (XC (by rfl) (zj (g_n (e' := [_, _, _, _, _, _, _, _, _]) hc4 rfl (zj (g_n (e' := [_, _, _, _, _, _, _, _, _]) hc5 rfl (vJ (vJ (?_))))))))))))))))
  refine wy <| s_if <| zH <| qM <| qM <| qw rfl <| qw rfl <| qK .tmp .tmp (op_eq (f := D.int)) <| qM <| qw rfl <| qw rfl <| qK .tmp .tmp (op_eq (f := D.int)) <| qK .tmp .tmp (op_eq (f := D.bl)) <| zG .tmp tr_b ?_
  refine ju h (fun hb h => ?_) (fun hb h => ?_)
  ·skip
   refine s_ret <| c_C <| xR <| wA ?_
   exact q (none : (Option (List ((Int × Int) × (Int × Int))))) h
  refine jc <| wy <| s_asg <| qM <| zf <| qd <| qM <| qw rfl <| qw rfl <| qK .tmp .tmp yC <| qu <| zb (.cons .tmp .nil) qiH <| zf <| qd <| qM <| qw rfl <| qw rfl <| qK .tmp .tmp yC <| qu <| zb (.cons .tmp .nil) qiH <| qK .tmp .tmp wH ?_
  refine g_N (f := D.int) (fun long => [_, _, _, _, _, _, zO (D.int long), _, _]) h hc6 (fun _ => rfl) fun long h => ?_
  refine wy <| s_asg <| qX <| qd <| qM <| qM <| qw rfl <| qw rfl <| qK .tmp .tmp yC <| qw rfl ?_
  obtain ⟨p10, h⟩ := h
  refine qK .tmp .tmp (qcO p10) <| qd <| qM <| qM <| qw rfl <| qw rfl <| qK .tmp .tmp yC <| qw rfl ?_
  obtain ⟨p11, h⟩ := h
  refine qK .tmp .tmp (qcO p11) <| qu <| qO D.int D.int ((a8.2.1 - a8.1.1) / long) ((a8.2.2 - a8.1.2) / long) (.cons .tmp (.cons .tmp .nil)) ?_
  refine g_N (f := zP) (fun step => [_, _, _, _, _, _, _, zO (zP step), _]) h hc7 (fun _ => rfl) fun step h => ?_
  refine vZ <| c_m1 (by rfl) (by rfl) (by decide) (by rfl) <| c_lc <| Uk <| qw rfl ?_
  obtain ⟨p12, h⟩ := h
  refine JB p12 ?_
  obtain ⟨p13, h⟩ := h
  obtain ⟨p14, h⟩ := h
  refine ZP (e := [_, _, _, _, _, _, _, _, _]) (fI := D.int) (fo := (eT2 zP zP)) (fun k' => (((a8.1.1 + (k' * step.1)), (a8.1.2 + (k' * step.2))), step)) (all1 rfl) p13 rfl (fun k' ha c k1 hc h1 => ?_) ?_
  ·have h := p14 k' ha
   refine g_n (e' := [_, _, _, _, _, _, _, _, _]) rfl rfl (?_)
   refine qX <| qd <| qX <| qd <| qM <| qw rfl <| qM <| qw rfl <| yJ <| qw rfl <| c_C <| o_idx .z .tmp WR (.sl (Im.im (f := D.int) _)) ?_
   obtain ⟨p15, h⟩ := h
   refine qK .tmp .tmp (Vx p15) <| qK .tmp .tmp wH <| qd <| qM <| qw rfl <| qM <| qw rfl <| yJ <| qw rfl <| c_C <| o_idx .z .tmp WQ (.sl (Im.im (f := D.int) _)) ?_
   obtain ⟨p16, h⟩ := h
   refine qK .tmp .tmp (Vx p16) <| qK .tmp .tmp wH <| qu <| qO D.int D.int (a8.1.1 + (k' * step.1)) (a8.1.2 + (k' * step.2)) (.cons .tmp (.cons .tmp .nil)) <| qd <| qw rfl <| qu <| qO zP zP ((a8.1.1 + (k' * step.1)), (a8.1.2 + (k' * step.2))) step (.cons .tmp (.cons (.of .z (Im.im (f := zP) _)) .nil)) ?_
   exact o_el .tmp hc rfl h1
  refine yM (e' := [_, _, _, _, _, _, _, _, _]) rfl <| wA ?_
  obtain ⟨p17, h⟩ := h
  refine ZQ (fun found => [_, zO (eL (eT2 zP zP) found), _, _, _, _, _, _, _]) h (by rfl) p17 (fun _ => rfl) fun found h => ?_
  exact hJ9 found _ ⟨_, _, _, _, _, _, ⟨rfl, rfl, rfl, rfl, rfl, rfl⟩, rfl⟩ h
 rintro found e hs h
 obtain ⟨c2, c3, c4, c5, c6, c7, ⟨hc2, hc3, hc4, hc5, hc6, hc7⟩, rfl⟩ := hs
 refine wA <| s_ret <| qw rfl <| ZM (m := .own) (by rfl) ?_
 exact q (some found) h
def xZ (yF wg : FS) : XS :=
 (sSeq (sAsg (dFn wg (ql (dVar 2) aNil)) (gN 3))
 (sSeq (sIf (xOr (xVal (dBin 2 opIs (dVar 3) (dC .non))) (xOr (xVal (dBin 2 opLt (dCall 2 (op1 bLen) (ql (dVar 2) aNil)) (dC (.int 4)))) (xNot (xVal (dCall 2 (op1 bAll) (ql (dLc (iSeq (dVar 3)) (gN 8) xYes (dBin 1 (Qi false) (dVar 8) (dVar 1)) [8]) aNil)))))) (sRet (dC (.bl false))) sNil)
 (sSeq (sFzO 3 (sFor (qgR (dTmp (dVar 3)) (dBin 1 wY (uD (dTmp (dVar 3)) (Wg (dNeg (dC (.int 1)))) Wh) (uD (dTmp (dVar 3)) Wh (Wg (dNeg (dC (.int 1))))))) (gT 2 (wN (gT 2 (wN (gN 4) (wN (gN 5) jR))) (wN (gT 2 (wN (gN 6) (wN (gN 7) jR))) jR))) (sSeq (sIf (xOr (xVal (dBin 2 opNe (dBin 1 opIn (dVar 4) (dVar 2)) (dBin 2 opNe (dVar 5) (dVar 7)))) (xVal (dBin 2 opEq (dVar 5) (dTup (ql (dBin 2 j9 (dC (.int 0)) (dIdx (dVar 7) (dC (.int 0)))) (ql (dBin 2 j9 (dC (.int 0)) (dIdx (dVar 7) (dC (.int 1)))) aNil)))))) (sRet (dC (.bl false))) sNil)
 (sIf (xAnd (xVal (dBin 2 opEq (dFn yF (ql (WW 0) (ql (dVar 4) aNil))) (dC (.str (Str.ofString "twice"))))) (xVal (dBin 2 opNe (dVar 5) (dTup (ql (dBin 2 j9 (dC (.int 0)) (dIdx (dVar 7) (dC (.int 1)))) (ql (dIdx (dVar 7) (dC (.int 0))) aNil)))))) (sRet (dC (.bl false))) sNil))))
 (sRet (dC (.bl true))))))
def yh (there : (List ((Int × Int) × Bool))) (sides : (List (((Int × Int) × (Int × Int)) × Bool))) (ring : (List (Int × Int))) (kr : Bool → Prop) : Prop :=
 yu ring fun t1 =>
 ifW t1.isNone (fun kk4 => kk4 (true, ())) (fun kk4 => exW t1 fun x5 =>
 ((decide ((ring.length : Int) < 4)) = false → (x5.length ≤ sizeLine) ∧
 True) ∧
 kk4 (((decide ((ring.length : Int) < 4)) || (!((x5.map (fun side => (hasA sides side))).all id))), ())) fun (b10 : Bool × Unit) =>
 ifP b10.1 (kr false) <|
 exW t1 fun x11 =>
 ((cutA x11 (some (-1)) none).length + (cutA x11 none (some (-1))).length ≤ sizeLine) ∧
 forW (x11.zip ((cutA x11 (some (-1)) none) ++ (cutA x11 none (some (-1))))) () (fun a25 (s20 : Unit) kk26 => ifP ((!(decide ((memB a25.1.1 ring) = (!(decide (a25.1.2 = a25.2.2)))))) || (decide (a25.1.2 = ((0 - a25.2.2.1), (0 - a25.2.2.2))))) (kr false) <|
 jB there a25.1.1 fun t27 =>
 (PyData.strOk t27 = true ∧ PyData.strOk (Str.ofString "twice") = true) ∧
 ifW (decide (t27 = (Str.ofString "twice"))) (fun kk29 => kk29 ((!(decide (a25.1.2 = ((0 - a25.2.2.2), a25.2.2.1)))), ())) (fun kk29 => kk29 (false, ())) fun (b30 : Bool × Unit) =>
 ifP b30.1 (kr false) <|
 kk26 ()) fun s20 =>
 kr true
def wG : FS := mkS (α := ((List ((Int × Int) × Bool)) × (List (((Int × Int) × (Int × Int)) × Bool)) × (List (Int × Int)))) (κ := Bool) [.ro, .ro, .ro] (fun a => [(eDF (kf2 Sum.inl Sum.inl) D.bl) a.1, (eDN (nT2 (nT2 nI nI) (nT2 nI nI)) D.bl) a.2.1, (eV (eT2 D.int D.int)) a.2.2]) (fun a => yh a.1 a.2.1 a.2.2) (fun r => D.bl r) fun a r => [(eDF (kf2 Sum.inl Sum.inl) D.bl) a.1, (eDN (nT2 (nT2 nI nI) (nT2 nI nI)) D.bl) a.2.1, (eV (eT2 D.int D.int)) a.2.2]
theorem Q5 : BodyOk wG 9 (xZ yF wg) := by
 intro ds Q hl h
 obtain ⟨⟨there, sides, ring⟩, kr, rfl, h, q⟩ := h
 refine u6 (e' := [_, _, _, _, _, _, _, _, _]) rfl ?_
 unfold xZ
 unfold yh at h
 refine wy <| s_asg <| c_fn <| qd <| qw rfl <| qu ?_
 refine x_call ring (fun t1 => [_, _, _, _, _, _, _, _, _]) h (.cons .ro .nil) (qD (jE .ro) ww) (wF (by rfl)) (fun _ => rfl) fun t1 h => ?_
 refine g_n (e' := [_, _, _, _, _, _, _, _, _]) rfl rfl ?_
 refine wy <| s_if <| Ul <| zH <| qM <| qa9 (by rfl) rfl fun r2 hr3 => c_C <| qK hr3.up .tmp qih <| zG .tmp tr_b ?_
 refine JD (sh := fun (s : Unit) e => e = [zR (eDF zk2 D.bl there), zR (eDN (nT2 (nT2 nI nI) (nT2 nI nI)) D.bl sides), zR (zV ring), zO (eO (eL (eT2 zP zP)) t1), none, none, none, none, none]) h rfl (fun hb kk4 N hJ4 h => ?_) ?_
 ·skip
  obtain ⟨x5, p6, hx7⟩ := h
  subst p6
  have h := hx7
  obtain ⟨p8, h⟩ := h
  refine qe3 (decide ((ring.length : Int) < 4)) (!((x5.map (fun side => (hasA sides side))).all id)) (fun Q q => ?_) (fun hb Q q => ?_) ?_
  ·skip
   refine zH <| qM <| zf <| qd <| qw rfl <| qu <| zb (.cons .ro .nil) qcY <| c_C <| qK .tmp .tmp qaO <| zG .tmp tr_b ?_
   exact q
  ·have h := p8 hb
   refine Q3 <| zH <| zf <| qd <| c_lc <| yP <| qw rfl <| Yi (e' := [_, _, _, _, _, _, _, _, _]) rfl rfl rfl ?_
   obtain ⟨p9, h⟩ := h
   refine ZP (e := [_, _, _, _, _, _, _, _, _]) (fI := (eT2 zP zP)) (fo := D.bl) (fun side => (hasA sides side)) (all1 rfl) p9 rfl (fun side ha c k1 hc h1 => ?_) ?_
   ·skip
    refine g_n (e' := [_, _, _, _, _, _, _, _, _]) rfl rfl (?_)
    refine qM <| qw rfl <| qw rfl <| qK .z .ro (qaP (c := (eT2 zP zP))) ?_
    exact o_el .tmp hc rfl h1
   refine yM (e' := [_, _, _, _, _, _, _, _, _]) rfl <| vH (e' := [_, _, _, _, _, _, _, _, _]) rfl rfl <| qu <| zb (.cons .tmp .nil) qeC <| zG .tmp tr_b ?_
   exact q
  exact hJ4 (((decide ((ring.length : Int) < 4)) || (!((x5.map (fun side => (hasA sides side))).all id))), ()) _ rfl h
 rintro b10 e hs h
 obtain rfl := hs
 refine ju h (fun hb h => ?_) (fun hb h => ?_)
 ·skip
  refine s_ret <| c_C <| xR ?_
  exact q false h
 refine jc <| wy ?_
 obtain ⟨x11, p12, h⟩ := h
 refine u6 (e' := [_, _, _, _, _, _, _, _, _]) (by rw [p12] <;> rfl) <| qh4 (f := (eT2 zP zP)) (e' := [_, _, _, _, _, _, _, _, _]) (by rfl) rfl <| QF <| qi9 <| qhk <| qa9 (by rfl) rfl fun r13 hr14 => qgt hr14 (Im.im (f := (eF (eT2 zP zP))) _) <| qM <| jM <| qhk <| qa9 (by rfl) rfl fun r15 hr16 => qgt hr16 (Im.im (f := (eF (eT2 zP zP))) _) <| jN <| qbM <| c_C <| qbE .tmp <| jF .tmp <| jO <| qiu (f := (eT2 zP zP)) (lo := (some (-1))) (hi := none) .tmp <| jM <| qhk <| qa9 (by rfl) rfl fun r17 hr18 => qgt hr18 (Im.im (f := (eF (eT2 zP zP))) _) <| jO <| jN <| qbM <| c_C <| qbE .tmp <| jF .tmp <| qiu (f := (eT2 zP zP)) (lo := none) (hi := (some (-1))) .tmp ?_
 obtain ⟨p19, h⟩ := h
 refine qK .tmp .tmp (Vz (f := (eT2 zP zP)) p19) <| qgs (f := (eT2 zP zP)) (g := (eT2 zP zP)) .tmp .tmp rfl rfl ?_
 refine Ql (fI := (eT2 (eT2 zP zP) (eT2 zP zP))) (sh := fun (s20 : Unit) e => ∃ c21 c22 c23 c24 : Option (D × Md), (setS (some c21) = true ∧ setS (some c22) = true ∧ setS (some c23) = true ∧ setS (some c24) = true) ∧ e = [zR (eDF zk2 D.bl there), zR (eDN (nT2 (nT2 nI nI) (nT2 nI nI)) D.bl sides), zR (zV ring), zO (eF (eT2 zP zP) x11), c21, c22, c23, c24, none]) h ⟨_, _, _, _, ⟨rfl, rfl, rfl, rfl⟩, rfl⟩ (fun a25 ha s20 e hs kk26 nxkk26 hJ26 h => ?_) ?_
 ·skip
  obtain ⟨c21, c22, c23, c24, ⟨hc21, hc22, hc23, hc24⟩, rfl⟩ := hs
  refine g_T (by rfl) (zj (g_T (by rfl) (zj (g_n (e' := [_, _, _, _, _, _, _, _, _]) hc21 rfl (zj (g_n (e' := [_, _, _, _, _, _, _, _, _]) hc22 rfl (vJ (zj (g_T (by rfl) (zj (g_n (e' := [_, _, _, _, _, _, _, _, _]) hc23 rfl (zj (g_n (e' := [_, _, _, _, _, _, _, _, _]) hc24 rfl (vJ (vJ (?_))))))))))))))))
  refine wy <| s_if ?_
  refine qe3 (!(decide ((memB a25.1.1 ring) = (!(decide (a25.1.2 = a25.2.2)))))) (decide (a25.1.2 = ((0 - a25.2.2.1), (0 - a25.2.2.2)))) (fun Q q => ?_) (fun hb Q q => ?_) ?_
  ·skip
   refine zH <| qM <| qM <| qw rfl <| qw rfl <| qK .z .ro (qfl (f := zP)) <| qM <| qw rfl <| qw rfl <| qK .z .z (op_ne (f := zP)) <| qK .tmp .tmp (op_ne (f := D.bl)) <| zG .tmp tr_b ?_
   exact q
  ·skip
   refine zH <| qM <| qw rfl <| qX <| qd <| qM <| c_C <| yJ <| qw rfl <| c_C <| o_idx .z .tmp WR (.sl (Im.im (f := D.int) _)) <| qK .tmp .tmp yC <| qd <| qM <| c_C <| yJ <| qw rfl <| c_C <| o_idx .z .tmp WQ (.sl (Im.im (f := D.int) _)) <| qK .tmp .tmp yC <| qu <| qO D.int D.int (0 - a25.2.2.1) (0 - a25.2.2.2) (.cons .tmp (.cons .tmp .nil)) <| qK .z .tmp (op_eq (f := zP)) <| zG .tmp tr_b ?_
   exact q
  refine ju h (fun hb h => ?_) (fun hb h => ?_)
  ·skip
   refine s_ret <| c_C <| xR <| wA ?_
   exact q false h
  refine jc <| s_if <| qdO <| zH <| qM <| c_fn <| qd <| Yb (kf := zk2) (f := D.bl) (by rfl) (by decide) <| qd <| qw rfl <| qu ?_
  refine x_call (there, a25.1.1) (fun t27 => [_, _, _, _, _, _, _, _, _]) h (.cons .tmp (.cons .z .nil)) (qD (jE .tmp) (qD (jE .z) ww)) (wF (by rfl)) (fun _ => rfl) fun t27 h => ?_
  refine c_C ?_
  obtain ⟨p28, h⟩ := h
  refine qK .tmp .tmp (qij p28.1 p28.2) <| zG .tmp tr_b ?_
  refine qcW (sh := fun (s : Unit) e => e = [zR (eDF zk2 D.bl there), zR (eDN (nT2 (nT2 nI nI) (nT2 nI nI)) D.bl sides), zR (zV ring), zO (eF (eT2 zP zP) x11), zO (zP a25.1.1), zO (zP a25.1.2), zO (zP a25.2.1), zO (zP a25.2.2), none]) h rfl (fun hb kk29 N hJ29 h => ?_) ?_
  ·skip
   refine zH <| qM <| qw rfl <| qX <| qd <| qM <| c_C <| yJ <| qw rfl <| c_C <| o_idx .z .tmp WQ (.sl (Im.im (f := D.int) _)) <| qK .tmp .tmp yC <| qd <| yJ <| qw rfl <| c_C <| o_idx .z .tmp WR (.sl (Im.im (f := D.int) _)) <| qu <| qO D.int D.int (0 - a25.2.2.2) a25.2.2.1 (.cons .tmp (.cons .tmp .nil)) <| qK .z .tmp (op_ne (f := zP)) <| zG .tmp tr_b ?_
   exact hJ29 ((!(decide (a25.1.2 = ((0 - a25.2.2.2), a25.2.2.1)))), ()) _ rfl h
  rintro b30 e hs h
  obtain rfl := hs
  refine ju h (fun hb h => ?_) (fun hb h => ?_)
  ·skip
   refine s_ret <| c_C <| xR <| wA ?_
   exact q false h
  refine jc ?_
  exact hJ26 () _ ⟨_, _, _, _, ⟨rfl, rfl, rfl, rfl⟩, rfl⟩ h
 rintro s20 e hs h
 obtain ⟨c21, c22, c23, c24, ⟨hc21, hc22, hc23, hc24⟩, rfl⟩ := hs
 refine wA <| s_ret <| c_C <| xR ?_
 exact q true h
def xG (wg wG yf : FS) : XS :=
 (sSeq (sAsg (dCall 1 (op1 qao) (ql (dLc (iSeq (dVar 0)) (gN 6) xYes (dTup (ql (dVar 6) (ql (dC (.bl true)) aNil))) [6]) aNil)) (gN 2))
 (sSeq (sFrz 2 (sAsg (dFn yf (ql (WW 2) aNil)) (gN 3)))
 (sSeq (sIf (xNot (xVal (dCall 2 (op1 bAll) (ql (dLc (iSeq (dVar 1)) (gN 5) xYes (dFn wG (ql (WW 2) (ql (dVar 3) (ql (dVar 5) aNil)))) [5]) aNil)))) (sRet (dC (.bl false))) sNil)
 (sSeq (sAsg (dLst aNil) (gN 4))
 (sSeq (sFor (iSeq (dVar 1)) (gN 5) (Q8 (dM1 D.isLst vL (dVar 4) (dFn wg (ql (dVar 5) aNil)))))
 (sRet (dAnd (dBin 2 opEq (dCall 2 (op1 bLen) (ql (dVar 4) aNil)) (dCall 1 (op1 qbQ) (ql (dVar 3) aNil))) (dBin 2 opEq (XR (dVar 4)) (dCall 2 (op1 bLen) (ql (dVar 4) aNil))))))))))
def zK (room : (List (Int × Int))) (rings : (List (List (Int × Int)))) (kr : Bool → Prop) : Prop :=
 (room.length ≤ sizeLine) ∧
 lt ((xg [] (room.map (fun cell => (cell, true)))) : (List ((Int × Int) × Bool))) fun there =>
 jf there fun t2 =>
 (rings.length ≤ sizeLine) ∧
 lcW rings ([] : List Bool) () (fun ring (s : Unit) w => yh there t2 ring fun t4 =>
 w (some t4) ()) fun l5 s6 =>
 ifP (!(l5.all id)) (kr false) <|
 lt (([] : List ((Int × Int) × (Int × Int))) : (List ((Int × Int) × (Int × Int)))) fun walked =>
 forW rings walked (fun ring (walked : (List ((Int × Int) × (Int × Int)))) kk8 => yu ring fun t9 =>
 exW t9 fun x10 =>
 (walked.length + x10.length ≤ sizeLine) ∧
 lt (walked ++ x10) fun walked =>
 kk8 walked) fun walked =>
 ((decide ((walked.length : Int) = (t2.length : Int))) = true → (walked.length < 4096) ∧
 True) ∧
 kr ((decide ((walked.length : Int) = (t2.length : Int))) && (decide (((BX.dd walked).length : Int) = (walked.length : Int))))
def wu : FS := mkS (α := ((List (Int × Int)) × (List (List (Int × Int))))) (κ := Bool) [.ro, .ro] (fun a => [(eV (eT2 D.int D.int)) a.1, (eL (eV (eT2 D.int D.int))) a.2]) (fun a => zK a.1 a.2) (fun r => D.bl r) fun a r => [(eV (eT2 D.int D.int)) a.1, (eL (eV (eT2 D.int D.int))) a.2]
theorem v8 : BodyOk wu 7 (xG wg wG yf) := by
 intro ds Q hl h
 obtain ⟨⟨room, rings⟩, kr, rfl, h, q⟩ := h
 refine u6 (e' := [_, _, _, _, _, _, _]) rfl ?_
 unfold xG
 unfold zK at h
 refine wy <| s_asg <| zf <| qd <| c_lc <| yP <| qw rfl <| qaQ ?_
 obtain ⟨p1, h⟩ := h
 refine ZP (e := [_, _, _, _, _, _, _]) (fI := zP) (fo := (eT2 zP D.bl)) (fun cell => (cell, true)) (all1 rfl) p1 rfl (fun cell ha c k1 hc h1 => ?_) ?_
 ·skip
  refine ZZ (e' := [_, _, _, _, _, _, _]) rfl rfl (?_)
  refine qX <| qd <| qw rfl <| qd <| c_C <| qu <| qO zP D.bl cell true (.cons (.of .ro (Im.im (f := zP) _)) (.cons .tmp .nil)) ?_
  exact o_el .tmp hc rfl h1
 refine yM (e' := [_, _, _, _, _, _, _]) rfl <| wA <| qu <| zb (.cons .tmp .nil) (qfs (c := zP) (f := D.bl)) ?_
 refine g_N (f := zD) (fun there => [_, _, zO (zD there), _, _, _, _]) h rfl (fun _ => rfl) fun there h => ?_
 refine wy <| qka (e' := [_, _, _, _, _, _, _]) (by rfl) rfl <| s_asg <| c_fn <| qd <| Yb (kf := zk2) (f := D.bl) (by rfl) (by decide) <| qu ?_
 refine x_call there (fun t2 => [_, _, _, _, _, _, _]) h (.cons .tmp .nil) (qD (jE .tmp) ww) (wF (by rfl)) (fun _ => rfl) fun t2 h => ?_
 refine g_n (e' := [_, _, _, _, _, _, _]) rfl rfl ?_
 refine wy <| s_if <| Q3 <| zH <| zf <| qd <| c_lc <| yP <| qw rfl <| qew ?_
 obtain ⟨p3, h⟩ := h
 refine JF (fI := zV) (fo := D.bl) (sh := fun (s : Unit) e => e = [zR (zV room), zR (eL zV rings), zO (eDF zk2 D.bl there), zO (eDN (nT2 (nT2 nI nI) (nT2 nI nI)) D.bl t2), none, none, none]) h (all1 rfl) p3 rfl (fun ring ha s e hs w c k1 k2 hc h1 h2 h => ?_) ?_
 ·obtain rfl := hs
  refine ZZ (e' := [_, _, _, _, _, _, _]) rfl rfl (?_)
  refine qhj <| c_fn <| qd <| Yb (kf := zk2) (f := D.bl) (by rfl) (by decide) <| qd <| qw rfl <| qd <| qw rfl <| qu ?_
  refine x_call (there, t2, ring) (fun t4 => [_, _, _, _, _, _, _]) h (.cons .tmp (.cons .z (.cons .ro .nil))) (qD (jE .tmp) (qD (jE .z) (qD (jE .ro) ww))) (wF (by rfl)) (fun _ => rfl) fun t4 h => ?_
  exact o_el .tmp hc rfl (h1 _ () _ rfl h)
 rintro l5 s6 e hs h
 obtain rfl := hs
 refine yM (e' := [_, _, _, _, _, _, _]) rfl <| wA <| qu <| zb (.cons .tmp .nil) qeC <| zG .tmp tr_b ?_
 refine ju h (fun hb h => ?_) (fun hb h => ?_)
 ·skip
  refine s_ret <| c_C <| xR ?_
  exact q false h
 refine jc <| wy <| s_asg <| uo <| qu <| xj (eT2 zP zP) ([] : List ((Int × Int) × (Int × Int))) .nil ?_
 refine g_N (f := (eL (eT2 zP zP))) (fun walked => [_, _, _, _, zO (eL (eT2 zP zP) walked), _, _]) h rfl (fun _ => rfl) fun walked h => ?_
 refine wy <| QF <| yP <| qw rfl <| qew ?_
 refine Ql (fI := zV) (sh := fun (walked : (List ((Int × Int) × (Int × Int)))) e => ∃ c7 : Option (D × Md), (setS (some c7) = true) ∧ e = [zR (zV room), zR (eL zV rings), zO (eDF zk2 D.bl there), zO (eDN (nT2 (nT2 nI nI) (nT2 nI nI)) D.bl t2), zO (eL (eT2 zP zP) walked), c7, none]) h ⟨_, rfl, rfl⟩ (fun ring ha walked e hs kk8 nxkk8 hJ8 h => ?_) ?_
 ·skip
  obtain ⟨c7, hc7, rfl⟩ := hs
  refine ZZ (e' := [_, _, _, _, _, _, _]) hc7 rfl (?_)
  refine vZ <| c_m1 (by rfl) (by rfl) (by decide) (by rfl) <| c_fn <| qd <| qw rfl <| qu ?_
  refine x_call ring (fun t9 => [_, _, _, _, _, _, _]) h (.cons .ro .nil) (qD (jE .ro) ww) (wF (by rfl)) (fun _ => rfl) fun t9 h => ?_
  obtain ⟨x10, p11, h⟩ := h
  subst p11
  obtain ⟨p12, h⟩ := h
  refine ZQ (fun walked => [_, _, _, _, zO (eL (eT2 zP zP) walked), _, _]) h (by rfl) p12 (fun _ => rfl) fun walked h => ?_
  exact hJ8 walked _ ⟨_, rfl, rfl⟩ h
 rintro walked e hs h
 obtain ⟨c7, hc7, rfl⟩ := hs
 refine wA <| s_ret ?_
 obtain ⟨p13, h⟩ := h
 refine qfL (decide ((walked.length : Int) = (t2.length : Int))) (decide (((BX.dd walked).length : Int) = (walked.length : Int))) (fun Q q => ?_) (fun hb Q q => ?_) ?_
 ·skip
  refine qM <| zf <| qd <| qw rfl <| qu <| zb (.cons .z .nil) YH <| zf <| qd <| qw rfl <| qu <| zb (.cons .z .nil) (qiF (kf := (nT2 (nT2 nI nI) (nT2 nI nI))) (f := D.bl)) <| qK .tmp .tmp (op_eq (f := D.int)) ?_
  exact q
 ·have h := p13 hb
  refine qM <| qdM <| qw rfl ?_
  obtain ⟨p14, h⟩ := h
  refine qcU (c := (eT2 zP zP)) .z p14 <| zf <| qd <| qw rfl <| qu <| zb (.cons .z .nil) YH <| qK .tmp .tmp (op_eq (f := D.int)) ?_
  exact q
 refine xR ?_
 exact q ((decide ((walked.length : Int) = (t2.length : Int))) && (decide (((BX.dd walked).length : Int) = (walked.length : Int)))) h
def uJ (qW : FS) : XS :=
 (sSeq (sIf (xOr (xNot (xVal (xIsi "list" (dVar 0)))) (xNot (xVal (dCall 2 (op1 bAll) (ql (dLc (iSeq (dVar 0)) (gN 1) xYes (dAnd (xIsi "tuple" (dVar 1)) (dBin 2 opGt (dCall 2 (op1 bLen) (ql (dVar 1) aNil)) (dC (.int 3)))) [1]) aNil))))) (sRet (dC (.bl false))) sNil)
 (sSeq (sFor (iSeq (dVar 0)) (gN 1) (sSeq (sFor (iSeq (dVar 1)) (gN 2) (sIf (xNot (xVal (dFn qW (ql (dVar 2) (ql (dTup (ql (dCall 2 (op1 bInt) (ql (dIdx (dVar 2) (dC (.int 0))) aNil)) (ql (dCall 2 (op1 bInt) (ql (dIdx (dVar 2) (dC (.int 1))) aNil)) aNil))) aNil))))) (sRet (dC (.bl false))) sNil))
 (sIf (xVal (dCall 2 (op1 bAny) (ql (dLc (jH (dCall 2 (op1 bLen) (ql (dVar 1) aNil))) (gN 3) xYes (dBin 1 qet (dBin 1 wY (uD (dVar 1) (Wg (dVar 3)) Wh) (uD (dVar 1) Wh (Wg (dVar 3)))) (dVar 1)) [3]) aNil))) (sRet (dC (.bl false))) sNil)))
 (sRet (dCall 2 (op1 bAll) (ql (dLc (V7 (dVar 0) (uD (dVar 0) (Wg (dC (.int 1))) Wh)) (gT 2 (wN (gN 4) (wN (gN 5) jR))) xYes (dBin 1 qet (dVar 4) (dVar 5)) [4, 5]) aNil)))))
def xO (rings : (List (List (Int × Int)))) (kr : Bool → Prop) : Prop :=
 ((!(isiB "list" ((eL (eV (eT2 D.int D.int))) rings))) = false → (rings.length ≤ sizeLine) ∧
 True) ∧
 (ifP ((!(isiB "list" ((eL (eV (eT2 D.int D.int))) rings))) || (!((rings.map (fun ring => ((isiB "tuple" ((eV (eT2 D.int D.int)) ring)) && (decide (3 < (ring.length : Int)))))).all id))) (kr false) <|
 forW rings () (fun ring (s3 : Unit) kk6 => forW ring () (fun point (s7 : Unit) kk9 => xY ((eT2 D.int D.int) point) ((eT2 D.int D.int) (point.1, point.2)) fun t10 =>
 ifP (!t10) (kr false) <|
 kk9 ()) fun s7 =>
 (Yc 0 (ring.length : Int)) ∧
 ((rng 0 (ring.length : Int)).length ≤ sizeLine) ∧
 (∀ at' ∈ (rng 0 (ring.length : Int)), ((cutA ring (some at') none).length + (cutA ring none (some at')).length ≤ sizeLine) ∧
 True) ∧
 (ifP (((rng 0 (ring.length : Int)).map (fun at' => (ltV ((cutA ring (some at') none) ++ (cutA ring none (some at'))) ring))).any id) (kr false) <|
 kk6 ())) fun s3 =>
 ((rings.zip (cutA rings (some 1) none)).length ≤ sizeLine) ∧
 kr (((rings.zip (cutA rings (some 1) none)).map (fun a15 => (ltV a15.1 a15.2))).all id))
def zA : FS := mkS (α := (List (List (Int × Int)))) (κ := Bool) [.ro] (fun a => [(eL (eV (eT2 D.int D.int))) a]) (fun a => xO a) (fun r => D.bl r) fun a r => [(eL (eV (eT2 D.int D.int))) a]
theorem Y7 : BodyOk zA 6 (uJ qW) := by
 intro ds Q hl h
 obtain ⟨rings, kr, rfl, h, q⟩ := h
 refine u6 (e' := [_, _, _, _, _, _]) rfl ?_
 unfold uJ
 unfold xO at h
 refine wy <| s_if ?_
 obtain ⟨p1, h⟩ := h
 refine qe3 (!(isiB "list" ((eL zV) rings))) (!((rings.map (fun ring => ((isiB "tuple" (zV ring)) && (decide (3 < (ring.length : Int)))))).all id)) (fun Q q => ?_) (fun hb Q q => ?_) ?_
 ·skip
  refine Q3 <| zH <| qjd <| qw rfl <| qix .ro <| zG .tmp tr_b ?_
  exact q
 ·have h := p1 hb
  refine Q3 <| zH <| zf <| qd <| c_lc <| yP <| qw rfl <| qew ?_
  obtain ⟨p2, h⟩ := h
  refine ZP (e := [_, _, _, _, _, _]) (fI := zV) (fo := D.bl) (fun ring => ((isiB "tuple" (zV ring)) && (decide (3 < (ring.length : Int))))) (all1 rfl) p2 rfl (fun ring ha c k1 hc h1 => ?_) ?_
  ·skip
   refine ZZ (e' := [_, _, _, _, _, _]) rfl rfl (?_)
   refine qfL (isiB "tuple" (zV ring)) (decide (3 < (ring.length : Int))) (fun Q q => ?_) (fun hb Q q => ?_) ?_
   ·skip
    refine qjd <| qw rfl <| qix .ro ?_
    exact q
   ·skip
    refine qM <| zf <| qd <| qw rfl <| qu <| zb (.cons .ro .nil) qcY <| c_C <| qK .tmp .tmp Jy ?_
    exact q
   exact o_el .tmp hc rfl h1
  refine yM (e' := [_, _, _, _, _, _]) rfl <| wA <| qu <| zb (.cons .tmp .nil) qeC <| zG .tmp tr_b ?_
  exact q
 refine ju h (fun hb h => ?_) (fun hb h => ?_)
 ·skip
  refine s_ret <| c_C <| xR ?_
  exact q false h
 refine jc <| wy <| QF <| yP <| qw rfl <| qew ?_
 refine Ql (fI := zV) (sh := fun (s3 : Unit) e => ∃ c4 c5 : Option (D × Md), (setS (some c4) = true ∧ setS (some c5) = true) ∧ e = [zR (eL zV rings), c4, c5, none, none, none]) h ⟨_, _, ⟨rfl, rfl⟩, rfl⟩ (fun ring ha s3 e hs kk6 nxkk6 hJ6 h => ?_) ?_
 ·skip
  obtain ⟨c4, c5, ⟨hc4, hc5⟩, rfl⟩ := hs
  refine ZZ (e' := [_, _, _, _, _, _]) hc4 rfl (?_)
  refine wy <| QF <| yP <| qw rfl <| qaQ ?_
  refine Ql (fI := zP) (sh := fun (s7 : Unit) e => ∃ c8 : Option (D × Md), (setS (some c8) = true) ∧ e = [zR (eL zV rings), zR (zV ring), c8, none, none, none]) h ⟨_, hc5, rfl⟩ (fun point ha s7 e hs kk9 nxkk9 hJ9 h => ?_) ?_
  ·skip
   obtain ⟨c8, hc8, rfl⟩ := hs
   refine ZZ (e' := [_, _, _, _, _, _]) hc8 rfl (?_)
   refine s_if <| Q3 <| zH <| c_fn <| qd <| qw rfl <| qd <| qX <| qd <| zf <| qd <| yJ <| qw rfl <| c_C <| o_idx .ro .tmp WR (.ro rfl) <| qu <| zb (.cons .tmp .nil) qfr <| qd <| zf <| qd <| yJ <| qw rfl <| c_C <| o_idx .ro .tmp WQ (.ro rfl) <| qu <| zb (.cons .tmp .nil) qfr <| qu <| qO D.int D.int point.1 point.2 (.cons .tmp (.cons .tmp .nil)) <| qu ?_
   refine x_call ((zP point), (zP (point.1, point.2))) (fun t10 => [_, _, _, _, _, _]) h (.cons .ro (.cons .tmp .nil)) (qD qR (qD qR ww)) (wF (by rfl)) (fun _ => rfl) fun t10 h => ?_
   refine zG .tmp tr_b ?_
   refine ju h (fun hb h => ?_) (fun hb h => ?_)
   ·skip
    refine s_ret <| c_C <| xR <| wA <| wA ?_
    exact q false h
   refine jc ?_
   exact hJ9 () _ ⟨_, rfl, rfl⟩ h
  rintro s7 e hs h
  obtain ⟨c8, hc8, rfl⟩ := hs
  refine wA <| s_if <| zH <| zf <| qd <| c_lc <| Uk <| zf <| qd <| qw rfl <| qu <| zb (.cons .ro .nil) qcY ?_
  obtain ⟨p11, h⟩ := h
  refine JB p11 ?_
  obtain ⟨p12, h⟩ := h
  obtain ⟨p13, h⟩ := h
  refine ZP (e := [_, _, _, _, _, _]) (fI := D.int) (fo := D.bl) (fun at' => (ltV ((cutA ring (some at') none) ++ (cutA ring none (some at'))) ring)) (all1 rfl) p12 rfl (fun at' ha c k1 hc h1 => ?_) ?_
  ·have h := p13 at' ha
   refine g_n (e' := [_, _, _, _, _, _]) rfl rfl (?_)
   refine qM <| qM <| jM <| qw rfl <| jN <| qw rfl <| jF .tmp <| jO <| qex (f := zP) (lo := (some at')) (hi := none) .ro <| jM <| qw rfl <| jO <| jN <| qw rfl <| jF .tmp <| qex (f := zP) (lo := none) (hi := (some at')) .ro ?_
   obtain ⟨p14, h⟩ := h
   refine qK .tmp .tmp (Vy (f := zP) p14) <| qw rfl <| qK .tmp .ro qfk ?_
   exact o_el .tmp hc rfl h1
  refine yM (e' := [_, _, _, _, _, _]) rfl <| wA <| qu <| zb (.cons .tmp .nil) qkn <| zG .tmp tr_b ?_
  refine ju h (fun hb h => ?_) (fun hb h => ?_)
  ·skip
   refine s_ret <| c_C <| xR <| wA ?_
   exact q false h
  refine jc ?_
  exact hJ6 () _ ⟨_, _, ⟨rfl, hc8⟩, rfl⟩ h
 rintro s3 e hs h
 obtain ⟨c4, c5, ⟨hc4, hc5⟩, rfl⟩ := hs
 refine wA <| s_ret <| zf <| qd <| c_lc <| qhi <| qw rfl <| jM <| qw rfl <| jN <| c_C <| jF .tmp <| jO <| qcT (f := zV) (lo := (some 1)) (hi := none) .ro <| qfo (f := zV) (g := zV) .ro .tmp rfl rfl ?_
 obtain ⟨p16, h⟩ := h
 refine ZP (e := [_, _, _, _, _, _]) (fI := (eT2 zV zV)) (fo := D.bl) (fun a15 => (ltV a15.1 a15.2)) (all2 rfl rfl) p16 rfl (fun a15 ha c k1 hc h1 => ?_) ?_
 ·skip
  refine XC (by rfl) (zj (ZZ (e' := [_, _, _, _, _, _]) rfl rfl (zj (ZZ (e' := [_, _, _, _, _, _]) rfl rfl (vJ (?_))))))
  refine qM <| qw rfl <| qw rfl <| qK .ro .ro qfk ?_
  exact o_el .tmp hc rfl h1
 refine yM (e' := [_, _, _, _, _, _]) rfl <| wA <| qu <| zb (.cons .tmp .nil) qeC <| xR ?_
 exact q (((rings.zip (cutA rings (some 1) none)).map (fun a15 => (ltV a15.1 a15.2))).all id) h
def xr (qN : FS) : XS :=
 (sSeq (sAsg (dLc (iSeq (dFn qN (ql (dC (.int 0)) (ql (dC (.int 0)) (ql (dC (.int 41)) (ql (dC (.int 41)) aNil)))))) (gN 3) (xOr (xVal (dBin 1 opIn (dC (.int 0)) (dVar 3))) (xVal (dBin 1 opIn (dC (.int 40)) (dVar 3)))) (dVar 3) [3]) (gN 0))
 (sSeq (sAsg (dLst (ql (dTup (ql (dTup (ql (dTup (ql (dC (.int 40)) (ql (dC (.int 40)) aNil))) aNil)) (ql (dFz (dLst (ql (dTup (ql (dTup (ql (dC (.int 40)) (ql (dC (.int 40)) aNil))) (ql (dTup (ql (dC (.int 41)) (ql (dC (.int 40)) aNil))) (ql (dTup (ql (dC (.int 41)) (ql (dC (.int 41)) aNil))) (ql (dTup (ql (dC (.int 40)) (ql (dC (.int 41)) aNil))) aNil))))) aNil))) aNil))) aNil)) (gN 1))
 (sSeq (Q8 (dM1 D.isLst bAppend (dVar 1) (dTup (ql (dCall 1 (op1 uX) (ql (dFn qN (ql (dC (.int 0)) (ql (dC (.int 0)) (ql (dC (.int 41)) (ql (dC (.int 1)) aNil))))) aNil)) (ql (dFz (dLst (ql (dTup (ql (dTup (ql (dC (.int 0)) (ql (dC (.int 0)) aNil))) (ql (dTup (ql (dC (.int 41)) (ql (dC (.int 0)) aNil))) (ql (dTup (ql (dC (.int 41)) (ql (dC (.int 1)) aNil))) (ql (dTup (ql (dC (.int 0)) (ql (dC (.int 1)) aNil))) aNil))))) aNil))) aNil)))))
 (sSeq (Q8 (dM1 D.isLst bAppend (dVar 1) (dTup (ql (dCall 1 (op1 uX) (ql (dFn qN (ql (dC (.int 0)) (ql (dC (.int 0)) (ql (dC (.int 1)) (ql (dC (.int 41)) aNil))))) aNil)) (ql (dFz (dLst (ql (dTup (ql (dTup (ql (dC (.int 0)) (ql (dC (.int 0)) aNil))) (ql (dTup (ql (dC (.int 1)) (ql (dC (.int 0)) aNil))) (ql (dTup (ql (dC (.int 1)) (ql (dC (.int 41)) aNil))) (ql (dTup (ql (dC (.int 0)) (ql (dC (.int 41)) aNil))) aNil))))) aNil))) aNil)))))
 (sSeq (sAsg (dLst (ql (dTup (ql (dTup (ql (dC (.int 0)) (ql (dC (.int 0)) aNil))) (ql (dTup (ql (dC (.int 41)) (ql (dC (.int 0)) aNil))) (ql (dTup (ql (dC (.int 41)) (ql (dC (.int 41)) aNil))) (ql (dTup (ql (dC (.int 0)) (ql (dC (.int 41)) aNil))) aNil))))) (ql (dTup (ql (dTup (ql (dC (.int 1)) (ql (dC (.int 1)) aNil))) (ql (dTup (ql (dC (.int 1)) (ql (dC (.int 40)) aNil))) (ql (dTup (ql (dC (.int 40)) (ql (dC (.int 40)) aNil))) (ql (dTup (ql (dC (.int 40)) (ql (dC (.int 1)) aNil))) aNil))))) aNil))) (gN 2))
 (sFzO 2 (sRet (dBin 1 wY (dVar 1) (dLst (ql (dTup (ql (dCall 1 (op1 uX) (ql (dVar 0) aNil)) (ql (dVar 2) aNil))) aNil))))))))))
def zJ  (kr : (List ((List (Int × Int)) × (List (List (Int × Int))))) → Prop) : Prop :=
 wV 0 0 41 41 fun t1 =>
 (t1.length ≤ sizeLine) ∧
 lt ((t1.filter (fun cell => ((decide (cell.1 = 0) || decide (cell.2 = 0)) || (decide (cell.1 = 40) || decide (cell.2 = 40))))) : (List (Int × Int))) fun frame =>
 lt ([([(40, 40)], [[(40, 40), (41, 40), (41, 41), (40, 41)]])] : (List ((List (Int × Int)) × (List (List (Int × Int)))))) fun found =>
 wV 0 0 41 1 fun t3 =>
 (found.length < sizeLine) ∧
 lt (found ++ [(t3, [[(0, 0), (41, 0), (41, 1), (0, 1)]])]) fun found =>
 wV 0 0 1 41 fun t5 =>
 (found.length < sizeLine) ∧
 lt (found ++ [(t5, [[(0, 0), (1, 0), (1, 41), (0, 41)]])]) fun found =>
 lt ([[(0, 0), (41, 0), (41, 41), (0, 41)], [(1, 1), (1, 40), (40, 40), (40, 1)]] : (List (List (Int × Int)))) fun rings =>
 (found.length + [(frame, rings)].length ≤ sizeLine) ∧
 kr (found ++ [(frame, rings)])
def wj : FS := mkS (α := Unit) (κ := (List ((List (Int × Int)) × (List (List (Int × Int)))))) [] (fun a => []) (fun a => zJ ) (fun r => (eL (eT2 (eV (eT2 D.int D.int)) (eF (eV (eT2 D.int D.int))))) r) fun a r => []
theorem v7 : BodyOk wj 4 (xr qN) := by
 intro ds Q hl h
 obtain ⟨_, kr, rfl, h, q⟩ := h
 refine u6 (e' := [_, _, _, _]) rfl ?_
 unfold xr
 unfold zJ at h
 refine wy <| s_asg <| c_lc <| yP <| c_fn <| qd <| c_C <| qd <| c_C <| qd <| c_C <| qd <| c_C <| qu ?_
 refine x_call (0, 0, 41, 41) (fun t1 => [_, _, _, _]) h (.cons .tmp (.cons .tmp (.cons .tmp (.cons .tmp .nil)))) (qD qR (qD qR (qD qR (qD qR ww)))) (wF (by rfl)) (fun _ => rfl) fun t1 h => ?_
 refine qev ?_
 obtain ⟨p2, h⟩ := h
 refine qcV (e := [_, _, _, _]) (fI := zP) (fo := zP) (fun cell => ((decide (cell.1 = 0) || decide (cell.2 = 0)) || (decide (cell.1 = 40) || decide (cell.2 = 40)))) (all1 rfl) p2 rfl (fun cell ha c k1 k2 hc h1 h2 => ?_) ?_
 ·skip
  refine g_n (e' := [_, _, _, _]) rfl rfl (?_)
  refine qe3 (decide (cell.1 = 0) || decide (cell.2 = 0)) (decide (cell.1 = 40) || decide (cell.2 = 40)) (fun Q q => ?_) (fun hb Q q => ?_) ?_
  ·skip
   refine zH <| qM <| c_C <| qw rfl <| qK .tmp .z qcN <| zG .tmp tr_b ?_
   exact q
  ·skip
   refine zH <| qM <| c_C <| qw rfl <| qK .tmp .z qcN <| zG .tmp tr_b ?_
   exact q
  refine ⟨fun hb => ?_, fun hb => h2 hb⟩
  refine qw rfl ?_
  exact o_el (.of .z (Im.im (f := zP) _)) hc rfl (h1 hb)
 refine yM (e' := [_, _, _, _]) rfl <| wA ?_
 refine g_N (f := zL) (fun frame => [zO (zL frame), _, _, _]) h rfl (fun _ => rfl) fun frame h => ?_
 refine wy <| s_asg <| uo <| qd <| qX <| qd <| qX <| qd <| qX <| qd <| c_C <| qd <| c_C <| qu <| qO D.int D.int 40 40 (.cons .tmp (.cons .tmp .nil)) <| qu <| ZL zP [(40, 40)] (.cons .tmp .nil) <| qd <| c_fz <| uo <| qd <| qX <| qd <| qX <| qd <| c_C <| qd <| c_C <| qu <| qO D.int D.int 40 40 (.cons .tmp (.cons .tmp .nil)) <| qd <| qX <| qd <| c_C <| qd <| c_C <| qu <| qO D.int D.int 41 40 (.cons .tmp (.cons .tmp .nil)) <| qd <| qX <| qd <| c_C <| qd <| c_C <| qu <| qO D.int D.int 41 41 (.cons .tmp (.cons .tmp .nil)) <| qd <| qX <| qd <| c_C <| qd <| c_C <| qu <| qO D.int D.int 40 41 (.cons .tmp (.cons .tmp .nil)) <| qu <| ZL zP [(40, 40), (41, 40), (41, 41), (40, 41)] (.cons .tmp (.cons .tmp (.cons .tmp (.cons .tmp .nil)))) <| qu <| xj zV [[(40, 40), (41, 40), (41, 41), (40, 41)]] (.cons .tmp .nil) <| o_fz (f := zV) <| qu <| qO zV (eF zV) [(40, 40)] [[(40, 40), (41, 40), (41, 41), (40, 41)]] (.cons .tmp (.cons .tmp .nil)) <| qu <| xj (eT2 zV (eF zV)) [([(40, 40)], [[(40, 40), (41, 40), (41, 41), (40, 41)]])] (.cons .tmp .nil) ?_
 refine g_N (f := (eL (eT2 zV (eF zV)))) (fun found => [_, zO (eL (eT2 zV (eF zV)) found), _, _]) h rfl (fun _ => rfl) fun found h => ?_
 refine wy <| vZ <| c_m1 (by rfl) (by rfl) (by decide) (by rfl) <| qX <| qd <| zf <| qd <| c_fn <| qd <| c_C <| qd <| c_C <| qd <| c_C <| qd <| c_C <| qu ?_
 refine x_call (0, 0, 41, 1) (fun t3 => [_, _, _, _]) h (.cons .tmp (.cons .tmp (.cons .tmp (.cons .tmp .nil)))) (qD qR (qD qR (qD qR (qD qR ww)))) (wF (by rfl)) (fun _ => rfl) fun t3 h => ?_
 refine qu <| zb (.cons .tmp .nil) (YG (f := zP)) <| qd <| c_fz <| uo <| qd <| qX <| qd <| qX <| qd <| c_C <| qd <| c_C <| qu <| qO D.int D.int 0 0 (.cons .tmp (.cons .tmp .nil)) <| qd <| qX <| qd <| c_C <| qd <| c_C <| qu <| qO D.int D.int 41 0 (.cons .tmp (.cons .tmp .nil)) <| qd <| qX <| qd <| c_C <| qd <| c_C <| qu <| qO D.int D.int 41 1 (.cons .tmp (.cons .tmp .nil)) <| qd <| qX <| qd <| c_C <| qd <| c_C <| qu <| qO D.int D.int 0 1 (.cons .tmp (.cons .tmp .nil)) <| qu <| ZL zP [(0, 0), (41, 0), (41, 1), (0, 1)] (.cons .tmp (.cons .tmp (.cons .tmp (.cons .tmp .nil)))) <| qu <| xj zV [[(0, 0), (41, 0), (41, 1), (0, 1)]] (.cons .tmp .nil) <| o_fz (f := zV) <| qu <| qO zV (eF zV) t3 [[(0, 0), (41, 0), (41, 1), (0, 1)]] (.cons .tmp (.cons .tmp .nil)) ?_
 obtain ⟨p4, h⟩ := h
 refine QM (fun found => [_, zO (eL (eT2 zV (eF zV)) found), _, _]) h .tmp (by rfl) p4 (fun _ => rfl) fun found h => wy <| vZ <| c_m1 (by rfl) (by rfl) (by decide) (by rfl) <| qX <| qd <| zf <| qd <| c_fn <| qd <| c_C <| qd <| c_C <| qd <| c_C <| qd <| c_C <| qu ?_
 refine x_call (0, 0, 1, 41) (fun t5 => [_, _, _, _]) h (.cons .tmp (.cons .tmp (.cons .tmp (.cons .tmp .nil)))) (qD qR (qD qR (qD qR (qD qR ww)))) (wF (by rfl)) (fun _ => rfl) fun t5 h => ?_
 refine qu <| zb (.cons .tmp .nil) (YG (f := zP)) <| qd <| c_fz <| uo <| qd <| qX <| qd <| qX <| qd <| c_C <| qd <| c_C <| qu <| qO D.int D.int 0 0 (.cons .tmp (.cons .tmp .nil)) <| qd <| qX <| qd <| c_C <| qd <| c_C <| qu <| qO D.int D.int 1 0 (.cons .tmp (.cons .tmp .nil)) <| qd <| qX <| qd <| c_C <| qd <| c_C <| qu <| qO D.int D.int 1 41 (.cons .tmp (.cons .tmp .nil)) <| qd <| qX <| qd <| c_C <| qd <| c_C <| qu <| qO D.int D.int 0 41 (.cons .tmp (.cons .tmp .nil)) <| qu <| ZL zP [(0, 0), (1, 0), (1, 41), (0, 41)] (.cons .tmp (.cons .tmp (.cons .tmp (.cons .tmp .nil)))) <| qu <| xj zV [[(0, 0), (1, 0), (1, 41), (0, 41)]] (.cons .tmp .nil) <| o_fz (f := zV) <| qu <| qO zV (eF zV) t5 [[(0, 0), (1, 0), (1, 41), (0, 41)]] (.cons .tmp (.cons .tmp .nil)) ?_
 obtain ⟨p6, h⟩ := h
 refine QM (fun found => [_, zO (eL (eT2 zV (eF zV)) found), _, _]) h .tmp (by rfl) p6 (fun _ => rfl) fun found h => wy <| s_asg <| uo <| qd <| qX <| qd <| qX <| qd <| c_C <| qd <| c_C <| qu <| qO D.int D.int 0 0 (.cons .tmp (.cons .tmp .nil)) <| qd <| qX <| qd <| c_C <| qd <| c_C <| qu <| qO D.int D.int 41 0 (.cons .tmp (.cons .tmp .nil)) <| qd <| qX <| qd <| c_C <| qd <| c_C <| qu <| qO D.int D.int 41 41 (.cons .tmp (.cons .tmp .nil)) <| qd <| qX <| qd <| c_C <| qd <| c_C <| qu <| qO D.int D.int 0 41 (.cons .tmp (.cons .tmp .nil)) <| qu <| ZL zP [(0, 0), (41, 0), (41, 41), (0, 41)] (.cons .tmp (.cons .tmp (.cons .tmp (.cons .tmp .nil)))) <| qd <| qX <| qd <| qX <| qd <| c_C <| qd <| c_C <| qu <| qO D.int D.int 1 1 (.cons .tmp (.cons .tmp .nil)) <| qd <| qX <| qd <| c_C <| qd <| c_C <| qu <| qO D.int D.int 1 40 (.cons .tmp (.cons .tmp .nil)) <| qd <| qX <| qd <| c_C <| qd <| c_C <| qu <| qO D.int D.int 40 40 (.cons .tmp (.cons .tmp .nil)) <| qd <| qX <| qd <| c_C <| qd <| c_C <| qu <| qO D.int D.int 40 1 (.cons .tmp (.cons .tmp .nil)) <| qu <| ZL zP [(1, 1), (1, 40), (40, 40), (40, 1)] (.cons .tmp (.cons .tmp (.cons .tmp (.cons .tmp .nil)))) <| qu <| xj zV [[(0, 0), (41, 0), (41, 41), (0, 41)], [(1, 1), (1, 40), (40, 40), (40, 1)]] (.cons .tmp (.cons .tmp .nil)) ?_
 refine g_N (f := (eL zV)) (fun rings => [_, _, zO (eL zV rings), _]) h rfl (fun _ => rfl) fun rings h => ?_
 refine qh4 (f := zV) (e' := [_, _, _, _]) (by rfl) rfl <| s_ret <| qM <| qw rfl <| uo <| qd <| qX <| qd <| zf <| qd <| qw rfl <| qu <| zb (.cons .z .nil) (YG (f := zP)) <| qd <| qw rfl <| qu <| qO zV (eF zV) frame rings (.cons .tmp (.cons (.of .z (Im.im (f := (eF zV)) _)) .nil)) <| qu <| xj (eT2 zV (eF zV)) [(frame, rings)] (.cons .tmp .nil) ?_
 obtain ⟨p7, h⟩ := h
 refine qK .z .tmp (Vz (f := (eT2 zV (eF zV))) p7) <| xR ?_
 exact q (found ++ [(frame, rings)]) h
def qf3 (qW yr wu zA yE qG yD wj : FS) : XS :=
 (sSeq (sFor (iSeq (dFn wj aNil)) (gT 2 (wN (gN 1) (wN (gN 2) jR))) (sIf (xNot (xVal (dFn qW (ql (dFn yr (ql (dVar 1) aNil)) (ql (qg8 (dVar 2)) aNil))))) (sRet (dC (.bl false))) sNil))
 (sSeq (sFor (jH (dBin 1 wY (dC (.int 1)) (dCall 2 (op2 qbP) (ql (dC (.int 5)) (ql (dCall 2 (op1 bLen) (ql (dVar 0) aNil)) aNil))))) (gN 3) (sSeq (sAsg (dFn yD (ql (dVar 0) (ql (dVar 3) aNil))) (gN 4))
 (sSeq (sAsg (dFn yE (ql (dVar 4) (ql (dBin 2 opEq (dFn qG (ql (dVar 4) (ql (dC (.int 8)) aNil))) (dC (.int 0))) aNil))) (gN 1))
 (sSeq (sAsg (dFn yr (ql (dVar 1) aNil)) (gN 5))
 (sSeq (sIf (xOr (xNot (xVal (dFn zA (ql (dVar 5) aNil)))) (xNot (xVal (dFn wu (ql (dVar 1) (ql (dVar 5) aNil)))))) (sRet (dC (.bl false))) sNil)
 (sSeq (sAsg (dCall 1 (op1 qan) (ql (dVar 5) aNil)) (gN 6))
 (sSeq (Q8 (dM1 D.isLst bAppend (dVar 5) (dTup aNil)))
 (sIf (xNot (xVal (dFn qW (ql (dFn yr (ql (dVar 1) aNil)) (ql (dVar 6) aNil))))) (sRet (dC (.bl false))) sNil))))))))
 (sRet (dC (.bl true)))))
def qd8 (script : (List Int)) (kr : Bool → Prop) : Prop :=
 zJ  fun t1 =>
 forW t1 () (fun a5 (s2 : Unit) kk6 => zN a5.1 fun t7 =>
 xY ((eL (eV (eT2 D.int D.int))) t7) ((eL (eV (eT2 D.int D.int))) a5.2) fun t8 =>
 ifP (!t8) (kr false) <|
 kk6 ()) fun s2 =>
 (Yc 0 (1 + (min 5 (script.length : Int)))) ∧
 forW (rng 0 (1 + (min 5 (script.length : Int)))) () (fun k' (s10 : Unit) kk16 => v5 script k' fun t17 =>
 qH t17 8 fun t18 =>
 jA t18.2 (decide (t18.1 = 0)) fun t19 =>
 zN t19.1 fun t20 =>
 xO t20 fun t21 =>
 ifW (!t21) (fun kk22 => kk22 (true, ())) (fun kk22 => zK t19.1 t20 fun t23 =>
 kk22 ((!t23), ())) fun (b24 : Bool × Unit) =>
 ifP b24.1 (kr false) <|
 lt (t20 : (List (List (Int × Int)))) fun kept =>
 (t20.length < sizeLine) ∧
 lt (t20 ++ [([] : (List (Int × Int)))]) fun found =>
 zN t19.1 fun t26 =>
 xY ((eL (eV (eT2 D.int D.int))) t26) ((eL (eV (eT2 D.int D.int))) kept) fun t27 =>
 ifP (!t27) (kr false) <|
 kk16 ()) fun s10 =>
 kr true
def Us : FS := mkS (α := (List Int)) (κ := Bool) [.cst] (fun a => [(eL D.int) a]) (fun a => qd8 a) (fun r => D.bl r) fun a r => [(eL D.int) a]
theorem qj8 : BodyOk Us 7 (qf3 qW yr wu zA yE qG yD wj) := by
 intro ds Q hl h
 obtain ⟨script, kr, rfl, h, q⟩ := h
 refine u6 (e' := [_, _, _, _, _, _, _]) rfl ?_
 unfold qf3
 unfold qd8 at h
 refine wy <| QF <| yP <| c_fn <| qu ?_
 refine x_call () (fun t1 => [_, _, _, _, _, _, _]) h .nil ww (wF (by rfl)) (fun _ => rfl) fun t1 h => ?_
 refine qev ?_
 refine Ql (fI := (eT2 zV (eF zV))) (sh := fun (s2 : Unit) e => ∃ c3 c4 : Option (D × Md), (setS (some c3) = true ∧ setS (some c4) = true) ∧ e = [zS (eL D.int script), c3, c4, none, none, none, none]) h ⟨_, _, ⟨rfl, rfl⟩, rfl⟩ (fun a5 ha s2 e hs kk6 nxkk6 hJ6 h => ?_) ?_
 ·skip
  obtain ⟨c3, c4, ⟨hc3, hc4⟩, rfl⟩ := hs
  refine g_T (by rfl) (zj (g_n (e' := [_, _, _, _, _, _, _]) hc3 rfl (zj (g_n (e' := [_, _, _, _, _, _, _]) hc4 rfl (vJ (?_))))))
  refine s_if <| Q3 <| zH <| c_fn <| qd <| c_fn <| qd <| qw rfl <| qu ?_
  refine x_call a5.1 (fun t7 => [_, _, _, _, _, _, _]) h (.cons .z .nil) (qD (jE .z) ww) (wF (by rfl)) (fun _ => rfl) fun t7 h => ?_
  refine qd <| qjb <| qw rfl <| qis .z (Im.im (f := (eF zV)) _) (qf0 _) <| qu ?_
  refine x_call (((eL zV) t7), ((eL zV) a5.2)) (fun t8 => [_, _, _, _, _, _, _]) h (.cons .tmp (.cons .cst .nil)) (qD qR (qD qR ww)) (wF (by rfl)) (fun _ => rfl) fun t8 h => ?_
  refine zG .tmp tr_b ?_
  refine ju h (fun hb h => ?_) (fun hb h => ?_)
  ·skip
   refine s_ret <| c_C <| xR <| wA ?_
   exact q false h
  refine jc ?_
  exact hJ6 () _ ⟨_, _, ⟨rfl, rfl⟩, rfl⟩ h
 rintro s2 e hs h
 obtain ⟨c3, c4, ⟨hc3, hc4⟩, rfl⟩ := hs
 refine wA <| wy <| QF <| Uk <| qM <| c_C <| zf <| qd <| c_C <| qd <| zf <| qd <| qw rfl <| qu <| zb (.cons .cst .nil) YH <| qu <| zb (.cons .tmp (.cons .tmp .nil)) qiE <| qK .tmp .tmp wH ?_
 obtain ⟨p9, h⟩ := h
 refine JB p9 ?_
 refine Ql (fI := D.int) (sh := fun (s10 : Unit) e => ∃ c11 c12 c13 c14 c15 : Option (D × Md), (setS (some c11) = true ∧ setS (some c12) = true ∧ setS (some c13) = true ∧ setS (some c14) = true ∧ setS (some c15) = true) ∧ e = [zS (eL D.int script), c11, c4, c12, c13, c14, c15]) h ⟨_, _, _, _, _, ⟨hc3, rfl, rfl, rfl, rfl⟩, rfl⟩ (fun k' ha s10 e hs kk16 nxkk16 hJ16 h => ?_) ?_
 ·skip
  obtain ⟨c11, c12, c13, c14, c15, ⟨hc11, hc12, hc13, hc14, hc15⟩, rfl⟩ := hs
  refine g_n (e' := [_, _, _, _, _, _, _]) hc12 rfl (?_)
  refine wy <| s_asg <| c_fn <| qd <| qw rfl <| qd <| qw rfl <| qu ?_
  refine x_call (script, k') (fun t17 => [_, _, _, _, _, _, _]) h (.cons .cst (.cons .tmp .nil)) (qD qR (qD qR ww)) (wF (by rfl)) (fun _ => rfl) fun t17 h => ?_
  refine g_n (e' := [_, _, _, _, _, _, _]) hc13 rfl ?_
  refine wy <| s_asg <| c_fn <| qd <| qw rfl <| qd <| qM <| c_fn <| qd <| qw rfl <| qd <| c_C <| qu ?_
  refine x_call (t17, 8) (fun t18 => [_, _, _, _, zO (eP t18.2), _, _]) h (.cons .z (.cons .tmp .nil)) (qD (by rfl) (qD qR ww)) (by rfl) (fun _ => rfl) fun t18 h => ?_
  refine c_C <| qK .tmp .tmp (op_eq (f := D.int)) <| qu ?_
  refine x_call (t18.2, (decide (t18.1 = 0))) (fun t19 => [_, _, _, _, zO (eP t19.2), _, _]) h (.cons .z (.cons .tmp .nil)) (qD (by rfl) (qD qR ww)) (by rfl) (fun _ => rfl) fun t19 h => ?_
  refine g_n (e' := [_, _, _, _, _, _, _]) hc11 rfl ?_
  refine wy <| s_asg <| c_fn <| qd <| qw rfl <| qu ?_
  refine x_call t19.1 (fun t20 => [_, _, _, _, _, _, _]) h (.cons .z .nil) (qD (jE .z) ww) (wF (by rfl)) (fun _ => rfl) fun t20 h => ?_
  refine g_n (e' := [_, _, _, _, _, _, _]) hc14 rfl ?_
  refine wy <| s_if <| Ul <| Q3 <| zH <| c_fn <| qd <| qw rfl <| qu ?_
  refine x_call t20 (fun t21 => [_, _, _, _, _, _, _]) h (.cons .z .nil) (qD (jE .z) ww) (wF (by rfl)) (fun _ => rfl) fun t21 h => ?_
  refine zG .tmp tr_b ?_
  refine JD (sh := fun (s : Unit) e => e = [zS (eL D.int script), zO (zV t19.1), c4, zO (D.int k'), zO (eP t19.2), zO (eL zV t20), c15]) h rfl (fun hb kk22 N hJ22 h => ?_) ?_
  ·skip
   refine Q3 <| zH <| c_fn <| qd <| qw rfl <| qd <| qw rfl <| qu ?_
   refine x_call (t19.1, t20) (fun t23 => [_, _, _, _, _, _, _]) h (.cons .z (.cons .z .nil)) (qD (jE .z) (qD (jE .z) ww)) (wF (by rfl)) (fun _ => rfl) fun t23 h => ?_
   refine zG .tmp tr_b ?_
   exact hJ22 ((!t23), ()) _ rfl h
  rintro b24 e hs h
  obtain rfl := hs
  refine ju h (fun hb h => ?_) (fun hb h => ?_)
  ·skip
   refine s_ret <| c_C <| xR <| wA ?_
   exact q false h
  refine jc <| wy <| s_asg <| zf <| qd <| qw rfl <| qu <| zb (.cons .z .nil) (qgA (f := zV)) ?_
  refine g_N (f := (eL zV)) (fun kept => [_, _, _, _, _, _, zO (eL zV kept)]) h hc15 (fun _ => rfl) fun kept h => ?_
  refine wy <| vZ <| c_m1 (by rfl) (by rfl) (by decide) (by rfl) <| qX <| qu <| qiq zP ?_
  obtain ⟨p25, h⟩ := h
  refine QM (fun found => [_, _, _, _, _, zO (eL zV found), _]) h .tmp (by rfl) p25 (fun _ => rfl) fun found h => s_if <| Q3 <| zH <| c_fn <| qd <| c_fn <| qd <| qw rfl <| qu ?_
  refine x_call t19.1 (fun t26 => [_, _, _, _, _, _, _]) h (.cons .z .nil) (qD (jE .z) ww) (wF (by rfl)) (fun _ => rfl) fun t26 h => ?_
  refine qd <| qw rfl <| qu ?_
  refine x_call (((eL zV) t26), ((eL zV) kept)) (fun t27 => [_, _, _, _, _, _, _]) h (.cons .tmp (.cons .z .nil)) (qD qR (qD qR ww)) (wF (by rfl)) (fun _ => rfl) fun t27 h => ?_
  refine zG .tmp tr_b ?_
  refine ju h (fun hb h => ?_) (fun hb h => ?_)
  ·skip
   refine s_ret <| c_C <| xR <| wA ?_
   exact q false h
  refine jc ?_
  exact hJ16 () _ ⟨_, _, _, _, _, ⟨rfl, rfl, rfl, rfl, rfl⟩, rfl⟩ h
 rintro s10 e hs h
 obtain ⟨c11, c12, c13, c14, c15, ⟨hc11, hc12, hc13, hc14, hc15⟩, rfl⟩ := hs
 refine wA <| s_ret <| c_C <| xR ?_
 exact q true h
end K34
namespace RG
open PySem PySem.Spec PyProof.Rows L2 BX TX COM
abbrev C2 := Int × Int
abbrev Sd := C2 × Int
def stp (w : Int) : C2 := if w = 0 then (1, 0) else if w = 1 then (0, 1) else if w = 2 then (-1, 0) else (0, -1)
def qc (c : C2) (w : Int) : C2 := if w = 0 then (c.1, c.2) else if w = 1 then (c.1 - 1, c.2) else if w = 2 then (c.1 - 1, c.2 - 1) else (c.1, c.2 - 1)
def isS (p : C2 → Bool) (s : Sd) : Bool := (decide (0 ≤ s.2) && decide (s.2 < 4)) && (p (qc s.1 s.2) && !p (qc s.1 ((s.2 + 3) % 4)))
def fin (s : Sd) : C2 := (s.1.1 + (stp s.2).1, s.1.2 + (stp s.2).2)
def nx (p : C2 → Bool) (s : Sd) : Sd := if isS p (fin s, (s.2 + 1) % 4) then (fin s, (s.2 + 1) % 4) else if isS p (fin s, s.2) then (fin s, s.2) else (fin s, (s.2 + 3) % 4)
def aw (p : C2 → Bool) (s : Sd) : Int := if p (qc s.1 ((s.2 + 1) % 4)) then (if p (qc s.1 ((s.2 + 2) % 4)) then (s.2 + 1) % 4 else s.2) else (s.2 + 3) % 4
def pv (p : C2 → Bool) (s : Sd) : Sd := ((s.1.1 - (stp (aw p s)).1, s.1.2 - (stp (aw p s)).2), aw p s)
section
variable {p : C2 → Bool} {s t : Sd}
theorem way4 (h : isS p s = true) : s.2 = 0 ∨ s.2 = 1 ∨ s.2 = 2 ∨ s.2 = 3 := by
 unfold isS at h
 simp only [Bool.and_eq_true, decide_eq_true_eq] at h
 omega
theorem qgX (h : isS p s = true) : p (qc (fin s) ((s.2 + 1) % 4)) = true ∧ p (qc (fin s) ((s.2 + 2) % 4)) = false := by
 obtain ⟨⟨x, y⟩, w⟩ := s
 have w4 := way4 h
 unfold isS at h
 simp only [Bool.and_eq_true, Bool.not_eq_true'] at h
 obtain ⟨_, h1, h2⟩ := h
 dsimp only at w4
 rcases w4 with rfl | rfl | rfl | rfl
 ·exact ⟨by simpa [fin, stp, qc] using h1, by simpa [fin, stp, qc] using h2⟩
 ·exact ⟨by simpa [fin, stp, qc] using h1, by simpa [fin, stp, qc] using h2⟩
 ·exact ⟨by simpa [fin, stp, qc, Int.sub_eq_add_neg] using h1, by simpa [fin, stp, qc, Int.sub_eq_add_neg] using h2⟩
 ·exact ⟨by simpa [fin, stp, qc, Int.sub_eq_add_neg] using h1, by simpa [fin, stp, qc, Int.sub_eq_add_neg] using h2⟩
theorem yX {c : C2} {w : Int} (h0 : 0 ≤ w) (h4 : w < 4) : isS p (c, w) = (p (qc c w) && !p (qc c ((w + 3) % 4))) := by
 unfold isS
 simp [h0, h4]
theorem qiB (h : isS p s = true) : nx p s = (fin s, if p (qc (fin s) s.2) then (if p (qc (fin s) ((s.2 + 3) % 4)) then (s.2 + 3) % 4 else s.2) else (s.2 + 1) % 4) := by
 obtain ⟨q1, q2⟩ := qgX h
 have w4 := way4 h
 have e1 : isS p (fin s, (s.2 + 1) % 4) = !p (qc (fin s) s.2) := by
  rw [yX (by omega) (by omega), q1]
  have : ((s.2 + 1) % 4 + 3) % 4 = s.2 := by omega
  rw [this, Bool.true_and]
 have e2 : isS p (fin s, s.2) = (p (qc (fin s) s.2) && !p (qc (fin s) ((s.2 + 3) % 4))) := yX (by omega) (by omega)
 unfold nx
 rw [e1, e2]
 cases p (qc (fin s) s.2) <;> cases p (qc (fin s) ((s.2 + 3) % 4)) <;> rfl
theorem qiz (h : isS p s = true) : isS p (nx p s) = true := by
 obtain ⟨q1, q2⟩ := qgX h
 have w4 := way4 h
 rw [qiB h]
 cases a : p (qc (fin s) s.2) with
 | false =>
   rw [if_neg (by decide), yX (by omega) (by omega), q1]
   have : ((s.2 + 1) % 4 + 3) % 4 = s.2 := by omega
   rw [this, a]; rfl
 | true =>
   rw [if_pos rfl]
   cases b : p (qc (fin s) ((s.2 + 3) % 4)) with
   | false => rw [if_neg (by decide), yX (by omega) (by omega), a, b]; rfl
   | true =>
     rw [if_pos rfl, yX (by omega) (by omega), b]
     have : ((s.2 + 3) % 4 + 3) % 4 = (s.2 + 2) % 4 := by omega
     rw [this, q2]; rfl
theorem qe5 (h : isS p s = true) : aw p (nx p s) = s.2 := by
 obtain ⟨q1, q2⟩ := qgX h
 have w4 := way4 h
 rw [qiB h]
 unfold aw
 cases a : p (qc (fin s) s.2) with
 | false =>
   simp only [Bool.false_eq_true, if_false]
   have e : ((s.2 + 1) % 4 + 1) % 4 = (s.2 + 2) % 4 := by omega
   rw [e, q2]
   simp only [Bool.false_eq_true, if_false]
   omega
 | true =>
   simp only [if_true]
   cases b : p (qc (fin s) ((s.2 + 3) % 4)) with
   | false =>
     simp only [Bool.false_eq_true, if_false]
     rw [q1, q2]
     simp
   | true =>
     simp only [if_true]
     have e1 : ((s.2 + 3) % 4 + 1) % 4 = s.2 := by omega
     have e2 : ((s.2 + 3) % 4 + 2) % 4 = (s.2 + 1) % 4 := by omega
     rw [e1, e2, a, q1]
     simp
theorem JG (p : C2 → Bool) (s : Sd) : (nx p s).1 = fin s := by
 unfold nx
 split
 ·rfl
 ·split <;> rfl
theorem qeo (h : isS p s = true) : pv p (nx p s) = s := by
 unfold pv
 rw [qe5 h, JG]
 unfold fin
 refine Prod.ext (Prod.ext ?_ ?_) rfl
 ·dsimp only; omega
 ·dsimp only; omega
theorem qiA (h : isS p s = true) (k : isS p t = true) (e : nx p s = nx p t) : s = t := by rw [← qeo h, ← qeo k, e]
theorem qhm (h : isS p s = true) : (aw p s = s.2 ↔ p (qc s.1 ((s.2 + 1) % 4)) = true ∧ p (qc s.1 ((s.2 + 2) % 4)) = false) ∧ (0 ≤ aw p s ∧ aw p s < 4) ∧ aw p s ≠ (s.2 + 2) % 4 := by
 have w4 := way4 h
 unfold aw
 cases p (qc s.1 ((s.2 + 1) % 4)) <;> cases p (qc s.1 ((s.2 + 2) % 4)) <;> simp <;> omega
theorem qd9 (h : isS p s = true) (k : isS p t = true) (e : s.1 = t.1) (ne : s ≠ t) : aw p s = (s.2 + 3) % 4 := by
 have w4 := way4 h
 have v4 := way4 k
 obtain ⟨c, w⟩ := s
 obtain ⟨d, v⟩ := t
 dsimp only at e w4 v4
 subst e
 have hw : w ≠ v := fun z => ne (by rw [z])
 rw [yX (by omega) (by omega), Bool.and_eq_true, Bool.not_eq_true'] at h k
 have hv : v = (w + 2) % 4 := by
  have h3 : v ≠ (w + 1) % 4 := fun z => by
   have e : (v + 3) % 4 = w := by omega
   rw [e, h.1] at k
   cases k.2
  have h4 : v ≠ (w + 3) % 4 := fun z => by
   rw [← z, k.1] at h
   cases h.2
  omega
 unfold aw
 have e1 : (v + 3) % 4 = (w + 1) % 4 := by omega
 rw [e1] at k
 dsimp only
 rw [k.2]
 simp
end
end RG
namespace RG
open PySem PySem.Spec PyProof.Rows L2 BX TX COM
def Seg (p : C2 → Bool) : List Sd → Sd → Sd → Prop
 | [], s, z => s = z
 | a :: M, s, z => a = s ∧ Seg p M (nx p s) z
section
variable {p : C2 → Bool}
theorem jx : ∀ {A B : List Sd} {s z : Sd}, Seg p (A ++ B) s z ↔ ∃ y, Seg p A s y ∧ Seg p B y z
 | [], B, s, z => ⟨fun h => ⟨s, rfl, h⟩, fun ⟨y, h, k⟩ => by rw [show s = y from h]; exact k⟩
 | a :: A, B, s, z => by
   show (a = s ∧ Seg p (A ++ B) (nx p s) z) ↔ ∃ y, (a = s ∧ Seg p A (nx p s) y) ∧ Seg p B y z
   rw [jx]
   constructor
   ·rintro ⟨h, y, k, l⟩; exact ⟨y, ⟨h, k⟩, l⟩
   ·rintro ⟨y, ⟨h, k⟩, l⟩; exact ⟨h, y, k, l⟩
theorem Xd {M : List Sd} {a s z : Sd} (h : Seg p (M ++ [a]) s z) : nx p a = z := by
 obtain ⟨y, _, e, k⟩ := jx.mp h
 rw [e]; exact k
structure Cyc (p : C2 → Bool) (M : List Sd) : Prop where
 ne : M ≠ []
 nd : M.Nodup
 is : ∀ s ∈ M, isS p s = true
 seg : ∃ s, Seg p M s s
theorem Cyc.rot {A B : List Sd} (h : Cyc p (A ++ B)) : Cyc p (B ++ A) where
 ne := fun z => by
  rw [List.append_eq_nil_iff] at z
  exact h.ne (by rw [z.1, z.2]; rfl)
 nd := (List.perm_append_comm.nodup_iff).mp h.nd
 is := fun s hs => h.is s (List.perm_append_comm.mem_iff.mp hs)
 seg := by
  obtain ⟨s, hs⟩ := h.seg
  obtain ⟨y, k, l⟩ := jx.mp hs
  exact ⟨y, jx.mpr ⟨s, l, k⟩⟩
def K (w : Int) : List Sd → List C2
 | [] => []
 | s :: M => (if s.2 = w then [] else [s.1]) ++ K s.2 M
def lw (w : Int) : List Sd → Int
 | [] => w
 | s :: M => lw s.2 M
theorem Je : ∀ {A B : List Sd} {w : Int}, K w (A ++ B) = K w A ++ K (lw w A) B
 | [], B, w => rfl
 | s :: A, B, w => by
   show _ ++ K s.2 (A ++ B) = (_ ++ K s.2 A) ++ K (lw s.2 A) B
   rw [Je, List.append_assoc]
theorem ZR : ∀ {A B : List Sd} {w : Int}, lw w (A ++ B) = lw (lw w A) B
 | [], B, w => rfl
 | s :: A, B, w => ZR (A := A)
theorem qiM {M : List Sd} (h : M ≠ []) (w v : Int) : lw w M = lw v M := by
 cases M with
 | nil => exact absurd rfl h
 | cons s M => rfl
def crn (M : List Sd) : List C2 := K (lw 0 M) M
theorem qas : ∀ {M : List Sd} {w : Int} {k : Nat}, k < (K w M).length → ∃ A b B, M = A ++ b :: B ∧ (K w A).length = k ∧ b.2 ≠ lw w A
 | [], w, k, h => by simp [K] at h
 | s :: M, w, k, h => by
   by_cases e : s.2 = w
   ·have h' : k < (K s.2 M).length := by simpa [K, e] using h
    obtain ⟨A, b, B, e1, e2, e3⟩ := qas h'
    exact ⟨s :: A, b, B, by rw [e1]; rfl, by simpa [K, e] using e2, e3⟩
   ·cases k with
    | zero => exact ⟨[], s, M, rfl, rfl, e⟩
    | succ k =>
      have h' : k < (K s.2 M).length := by simpa [K, e] using h
      obtain ⟨A, b, B, e1, e2, e3⟩ := qas h'
      exact ⟨s :: A, b, B, by rw [e1]; rfl, by simp [K, e, e2], e3⟩
theorem qha {M : List Sd} (h : Cyc p M) {k : Nat} (hk : k < (crn M).length) : ∃ A B b B', M = A ++ B ∧ B = b :: B' ∧ crn (B ++ A) = (crn M).drop k ++ (crn M).take k ∧ b.2 ≠ lw 0 (B ++ A) := by
 obtain ⟨A, b, B', e, l, ne⟩ := qas hk
 have hB : (b :: B') ≠ [] := by simp
 have w0 : lw 0 M = lw 0 (b :: B') := by
  rw [e, ZR]
  exact qiM hB _ _
 have wl : lw 0 ((b :: B') ++ A) = lw (lw 0 M) A := by
  rw [ZR, w0]
 refine ⟨A, b :: B', b, B', e, rfl, ?_, by rw [wl]; exact ne⟩
 have c1 : crn M = K (lw 0 M) A ++ K (lw (lw 0 M) A) (b :: B') := by
  unfold crn
  rw [e, Je]
 rw [c1, List.drop_left' l, List.take_left' l]
 unfold crn
 rw [wl, Je]
 congr 2
 rw [w0]
 exact qiM hB _ _
def pt (a : C2) (w : Int) (j : Nat) : C2 := (a.1 + j * (stp w).1, a.2 + j * (stp w).2)
def U (a : C2) (w : Int) (j : Nat) : List Sd := (List.range j).map fun k => (pt a w k, w)
theorem qjk (a : C2) (w : Int) (j : Nat) : U a w (j + 1) = U a w j ++ [(pt a w j, w)] := by
 unfold U
 rw [List.range_succ, List.map_append]; rfl
theorem Xh (a : C2) (w : Int) : pt a w 0 = a := by
 unfold pt
 simp
theorem Vt (a : C2) (w : Int) (j : Nat) : pt a w (j + 1) = fin (pt a w j, w) := by
 unfold pt fin
 refine Prod.ext ?_ ?_
 ·show a.1 + ((j + 1 : Nat) : Int) * (stp w).1 = a.1 + j * (stp w).1 + (stp w).1
  rw [Int.natCast_add, Int.add_mul]; omega
 ·show a.2 + ((j + 1 : Nat) : Int) * (stp w).2 = a.2 + j * (stp w).2 + (stp w).2
  rw [Int.natCast_add, Int.add_mul]; omega
def legs : C2 → List C2 → C2 → List (C2 × C2)
 | a, [], z => [(a, z)]
 | a, b :: l, z => (a, b) :: legs b l z
def leg (l : C2 × C2) : List (C2 × C2) :=
 let n := ((l.2.1 - l.1.1).natAbs : Int) + ((l.2.2 - l.1.2).natAbs : Int)
 let d : C2 := ((l.2.1 - l.1.1) / n, (l.2.2 - l.1.2) / n)
 (List.range n.toNat).map fun k : Nat => ((l.1.1 + (k : Int) * d.1, l.1.2 + (k : Int) * d.2), d)
def toL (s : Sd) : C2 × C2 := (s.1, stp s.2)
def Good (l : C2 × C2) : Prop := ∃ (w : Int) (j : Nat), (0 ≤ w ∧ w < 4) ∧ 1 ≤ j ∧ l.2 = pt l.1 w j
theorem qfw {a : C2} {w : Int} {j : Nat} (hw : 0 ≤ w ∧ w < 4) (hj : 1 ≤ j) : leg (a, pt a w j) = (U a w j).map toL := by
 have hw : w = 0 ∨ w = 1 ∨ w = 2 ∨ w = 3 := by omega
 have jp : (j : Int) ≠ 0 := by omega
 unfold leg U pt toL
 rw [List.map_map]
 rcases hw with rfl | rfl | rfl | rfl
 ·have e1 : a.1 + (j : Int) * (stp 0).1 - a.1 = j := by simp [stp]; omega
  have e2 : a.2 + (j : Int) * (stp 0).2 - a.2 = 0 := by simp [stp]
  dsimp only
  rw [e1, e2]
  have e3 : ((j : Int).natAbs : Int) + ((0 : Int).natAbs : Int) = j := by simp
  rw [e3, Int.toNat_natCast, Int.ediv_self jp, Int.zero_ediv]
  rfl
 ·have e1 : a.1 + (j : Int) * (stp 1).1 - a.1 = 0 := by simp [stp]
  have e2 : a.2 + (j : Int) * (stp 1).2 - a.2 = j := by simp [stp]; omega
  dsimp only
  rw [e1, e2]
  have e3 : ((0 : Int).natAbs : Int) + ((j : Int).natAbs : Int) = j := by simp
  rw [e3, Int.toNat_natCast, Int.ediv_self jp, Int.zero_ediv]
  rfl
 ·have e1 : a.1 + (j : Int) * (stp 2).1 - a.1 = -j := by simp [stp]; omega
  have e2 : a.2 + (j : Int) * (stp 2).2 - a.2 = 0 := by simp [stp]
  dsimp only
  rw [e1, e2]
  have e3 : ((-(j : Int)).natAbs : Int) + ((0 : Int).natAbs : Int) = j := by simp
  rw [e3, Int.toNat_natCast, Int.zero_ediv]
  have e4 : -(j : Int) / j = -1 := by rw [Int.neg_ediv_self _ jp]
  rw [e4]
  rfl
 ·have e1 : a.1 + (j : Int) * (stp 3).1 - a.1 = 0 := by simp [stp]
  have e2 : a.2 + (j : Int) * (stp 3).2 - a.2 = -j := by simp [stp]; omega
  dsimp only
  rw [e1, e2]
  have e3 : ((0 : Int).natAbs : Int) + ((-(j : Int)).natAbs : Int) = j := by simp
  rw [e3, Int.toNat_natCast, Int.zero_ediv]
  have e4 : -(j : Int) / j = -1 := by rw [Int.neg_ediv_self _ jp]
  rw [e4]
  rfl
theorem xK {s : Sd} (h : isS p s = true) : 0 ≤ s.2 ∧ s.2 < 4 := by
 have := way4 h
 omega
theorem Zi : ∀ (M : List Sd) {s z : Sd} {a : C2} {w : Int} {j : Nat}, (0 ≤ w ∧ w < 4) → 1 ≤ j → s.1 = pt a w j → Seg p M s z → (∀ t ∈ M, isS p t = true) →
 (legs a (K w M) z.1).flatMap leg = (U a w j ++ M).map toL ∧ ∀ l ∈ legs a (K w M) z.1, Good l
 | [], s, z, a, w, j, hw, hj, hs, hz, _ => by
   have e : s = z := hz
   rw [← e, hs]
   refine ⟨?_, fun l hl => ?_⟩
   ·show leg (a, pt a w j) ++ [] = _
    rw [List.append_nil, List.append_nil, qfw hw hj]
   ·rw [List.mem_singleton.mp hl]
    exact ⟨w, j, hw, hj, rfl⟩
 | t :: M, s, z, a, w, j, hw, hj, hs, ⟨e, hz⟩, hi => by
   subst e
   have it := hi t (List.mem_cons_self ..)
   have ht := xK it
   have hi' : ∀ u ∈ M, isS p u = true := fun u hu => hi u (List.mem_cons_of_mem _ hu)
   by_cases e : t.2 = w
   ·have et : t = (pt a w j, w) := Prod.ext hs e
    have ek : K w (t :: M) = K w M := by simp [K, e]
    have n1 : (nx p t).1 = pt a w (j + 1) := by rw [JG, Vt, et]
    obtain ⟨h1, h2⟩ := Zi M hw (Nat.le_succ_of_le hj) n1 hz hi'
    rw [ek]
    refine ⟨?_, h2⟩
    rw [h1, qjk, List.append_assoc, et]
    rfl
   ·have ek : K w (t :: M) = t.1 :: K t.2 M := by simp [K, e]
    have n1 : (nx p t).1 = pt t.1 t.2 1 := by rw [JG, Vt, Xh]
    obtain ⟨h1, h2⟩ := Zi M (a := t.1) ht (Nat.le_refl 1) n1 hz hi'
    rw [ek]
    refine ⟨?_, fun l hl => ?_⟩
    ·show leg (a, t.1) ++ (legs t.1 (K t.2 M) z.1).flatMap leg = _
     rw [h1, hs, qfw hw hj, List.map_append, List.map_append]
     congr 1
     have : U t.1 t.2 1 = [t] := by
      unfold U
      show [(pt t.1 t.2 0, t.2)] = _
      rw [Xh]
     rw [← hs, this]
     rfl
    ·rcases List.mem_cons.mp hl with e | hl
     ·rw [e]
      exact ⟨w, j, hw, hj, hs⟩
     ·exact h2 l hl
theorem qcg {s : Sd} {M : List Sd} (h : Cyc p (s :: M)) (hc : s.2 ≠ lw 0 (s :: M)) : crn (s :: M) = s.1 :: K s.2 M ∧ (legs s.1 (K s.2 M) s.1).flatMap leg = (s :: M).map toL ∧ ∀ l ∈ legs s.1 (K s.2 M) s.1, Good l := by
 obtain ⟨z, e, hz⟩ := h.seg
 subst e
 have is := h.is s (List.mem_cons_self ..)
 refine ⟨?_, ?_⟩
 ·unfold crn
  show (if s.2 = lw 0 (s :: M) then [] else [s.1]) ++ _ = _
  rw [if_neg hc]; rfl
 ·have n1 : (nx p s).1 = pt s.1 s.2 1 := by rw [JG, Vt, Xh]
  have := Zi M (a := s.1) (xK is) (Nat.le_refl 1) n1 hz fun u hu => h.is u (List.mem_cons_of_mem _ hu)
  refine ⟨?_, this.2⟩
  rw [this.1]
  unfold U
  show (((pt s.1 s.2 0, s.2)) :: M).map toL = _
  rw [Xh]
end
end RG
namespace RG
open PySem PySem.Spec PyProof.Rows L2 BX TX COM
section
variable {p : C2 → Bool}
def turn (p : C2 → Bool) (s : Sd) : Bool := !decide (aw p s = s.2)
theorem qfN : ∀ {M : List Sd} {s z : Sd}, Seg p M s z → (∀ t ∈ M, isS p t = true) → K (aw p s) M = (M.filter (turn p)).map (·.1)
 | [], s, z, _, _ => rfl
 | t :: M, s, z, ⟨e, h⟩, hi => by
   subst e
   have it := hi t (List.mem_cons_self ..)
   have ih := qfN h fun u hu => hi u (List.mem_cons_of_mem _ hu)
   rw [qe5 it] at ih
   show (if t.2 = aw p t then [] else [t.1]) ++ K t.2 M = _
   rw [ih]
   by_cases e : t.2 = aw p t
   ·have : turn p t = false := by unfold turn; simp [e.symm]
    rw [if_pos e, List.filter_cons_of_neg (by rw [this]; decide)]; rfl
   ·have : turn p t = true := by unfold turn; simp; exact fun z => e z.symm
    rw [if_neg e, List.filter_cons_of_pos this]; rfl
theorem qfu : ∀ {M : List Sd} {s z : Sd} {w : Int}, M ≠ [] → Seg p M s z → (∀ t ∈ M, isS p t = true) → lw w M = aw p z
 | [], s, z, w, h, _, _ => absurd rfl h
 | [t], s, z, w, _, ⟨e, h⟩, hi => by
   have h : nx p s = z := h
   rw [← h, ← e, qe5 (hi t (List.mem_cons_self ..))]; rfl
 | t :: u :: M, s, z, w, _, ⟨e, h⟩, hi => qfu (M := u :: M) (w := t.2) (by simp) h fun v hv => hi v (List.mem_cons_of_mem _ hv)
theorem vP {M : List Sd} (h : Cyc p M) : crn M = (M.filter (turn p)).map (·.1) := by
 obtain ⟨s, hs⟩ := h.seg
 unfold crn
 rw [qfu h.ne hs h.is, qfN hs h.is]
theorem qe9 : ∀ {M : List Sd} {s z a : Sd}, Seg p M s z → (∀ t ∈ M, isS p t = true) → pv p s = a → M.zip (a :: M.dropLast) = M.map fun t => (t, pv p t)
 | [], s, z, a, _, _, _ => rfl
 | [t], s, z, a, ⟨e, _⟩, hi, ha => by
   show [(t, a)] = [(t, pv p t)]
   rw [e, ha]
 | t :: u :: M, s, z, a, ⟨e, h⟩, hi, ha => by
   have it := hi t (List.mem_cons_self ..)
   have ih := qe9 (M := u :: M) (a := t) h (fun v hv => hi v (List.mem_cons_of_mem _ hv)) (by rw [← e]; exact qeo it)
   show (t, a) :: (u :: M).zip (t :: (u :: M).dropLast) = (t, pv p t) :: _
   rw [ih, e, ha]
theorem uP : ∀ {M : List Sd} {s z : Sd} (h : M ≠ []), Seg p M s z → (∀ t ∈ M, isS p t = true) → M.getLast h = pv p z
 | [], s, z, h, _, _ => absurd rfl h
 | [t], s, z, _, ⟨e, h⟩, hi => by
   have h : nx p s = z := h
   rw [← h, ← e, qeo (hi t (List.mem_cons_self ..))]; rfl
 | t :: u :: M, s, z, _, ⟨e, h⟩, hi => by
   rw [List.getLast_cons (by simp)]
   exact uP (M := u :: M) (by simp) h fun v hv => hi v (List.mem_cons_of_mem _ hv)
theorem qcz {M : List Sd} (h : Cyc p M) : M.zip (M.getLast h.ne :: M.dropLast) = M.map fun t => (t, pv p t) := by
 obtain ⟨s, hs⟩ := h.seg
 exact qe9 hs h.is (uP h.ne hs h.is).symm
theorem qcs : ∀ {M : List Sd} {s z : Sd}, Seg p M s z → z.1.1 = s.1.1 + (M.map fun t => (stp t.2).1).sum ∧ z.1.2 = s.1.2 + (M.map fun t => (stp t.2).2).sum
 | [], s, z, h => by
   rw [← show s = z from h]; simp
 | t :: M, s, z, ⟨e, h⟩ => by
   subst e
   obtain ⟨h1, h2⟩ := qcs h
   rw [JG] at h1 h2
   unfold fin at h1 h2
   rw [List.map_cons, List.map_cons, List.sum_cons, List.sum_cons]
   dsimp only at h1 h2
   omega
theorem qcK {f : Sd → Int} : ∀ {M : List Sd}, (∀ t ∈ M, 0 ≤ f t) → (∃ t ∈ M, 1 ≤ f t) → 1 ≤ (M.map f).sum
 | [], _, ⟨t, ht, _⟩ => by cases ht
 | s :: M, h, ⟨t, ht, h1⟩ => by
   have nn : ∀ {M : List Sd}, (∀ t ∈ M, 0 ≤ f t) → 0 ≤ (M.map f).sum := fun {M} => by
    induction M with
    | nil => intro _; simp
    | cons a M ih =>
      intro h
      have := h a (List.mem_cons_self ..)
      have := ih fun t ht => h t (List.mem_cons_of_mem _ ht)
      rw [List.map_cons, List.sum_cons]; omega
   rw [List.map_cons, List.sum_cons]
   have h0 := h s (List.mem_cons_self ..)
   have hM := fun t ht => h t (List.mem_cons_of_mem _ ht)
   rcases List.mem_cons.mp ht with rfl | ht
   ·have := nn hM
    omega
   ·have := qcK hM ⟨t, ht, h1⟩
    omega
theorem qgx (f : Sd → Int) (M : List Sd) : (M.map fun t => -f t).sum = -(M.map f).sum := by
 induction M with
 | nil => rfl
 | cons a M ih => rw [List.map_cons, List.map_cons, List.sum_cons, List.sum_cons, ih]; omega
theorem V8 {f : Sd → Int} {M : List Sd} (h0 : (M.map f).sum = 0) (h1 : ∃ t ∈ M, 1 ≤ f t) : ∃ t ∈ M, f t < 0 := by
 by_cases h : ∃ t ∈ M, f t < 0
 ·exact h
 ·have := qcK (f := f) (M := M) (fun t ht => by
   by_cases z : f t < 0
   ·exact absurd ⟨t, ht, z⟩ h
   ·omega) h1
  omega
theorem qdl {f : Sd → Int} {M : List Sd} (h0 : (M.map f).sum = 0) (h1 : ∃ t ∈ M, f t ≤ -1) : ∃ t ∈ M, 0 < f t := by
 obtain ⟨t, ht, h⟩ := V8 (f := fun t => -f t) (M := M) (by rw [qgx]; omega) (by
  obtain ⟨t, ht, h⟩ := h1
  exact ⟨t, ht, by omega⟩)
 exact ⟨t, ht, by omega⟩
theorem begins {v : Int} : ∀ {M : List Sd} {s z : Sd}, Seg p M s z → s.2 ≠ v → (∃ t ∈ M, t.2 = v) → ∃ u ∈ M, u.2 ≠ v ∧ nx p u ∈ M ∧ (nx p u).2 = v
 | [], s, z, _, _, ⟨t, ht, _⟩ => by cases ht
 | a :: M, s, z, ⟨e, h⟩, hs, ⟨t, ht, hv⟩ => by
   subst e
   rcases List.mem_cons.mp ht with rfl | ht
   ·exact absurd hv hs
   ·by_cases n : (nx p a).2 = v
    ·cases M with
     | nil => cases ht
     | cons b M =>
       obtain ⟨e2, _⟩ := h
       exact ⟨a, List.mem_cons_self .., hs, by rw [← e2]; exact List.mem_cons_of_mem _ (List.mem_cons_self ..), n⟩
    ·obtain ⟨u, h1, h2, h3, h4⟩ := begins h n ⟨t, ht, hv⟩
     exact ⟨u, List.mem_cons_of_mem _ h1, h2, List.mem_cons_of_mem _ h3, h4⟩
theorem Cyc.at {M : List Sd} (h : Cyc p M) {s : Sd} (hs : s ∈ M) : ∃ A B, M = A ++ s :: B ∧ Cyc p (s :: B ++ A) ∧ Seg p (s :: B ++ A) s s := by
 obtain ⟨A, B, e⟩ := List.append_of_mem hs
 subst e
 have c := h.rot
 obtain ⟨z, hz⟩ := c.seg
 have ez : s = z := hz.1
 exact ⟨A, B, rfl, c, by rw [← ez] at hz; exact hz⟩
theorem Cyc.begins {M : List Sd} (h : Cyc p M) {v : Int} (h1 : ∃ t ∈ M, t.2 = v) (h2 : ∃ t ∈ M, t.2 ≠ v) : ∃ s ∈ M, s.2 = v ∧ aw p s ≠ v := by
 obtain ⟨t, ht, hv⟩ := h2
 obtain ⟨A, B, e, c, sg⟩ := h.at ht
 have mem : ∀ u, u ∈ t :: B ++ A ↔ u ∈ M := fun u => by
  rw [e]; exact List.perm_append_comm.mem_iff
 obtain ⟨u, h3, h4, h5, h6⟩ := RG.begins sg hv (by
  obtain ⟨w, hw, e⟩ := h1
  exact ⟨w, (mem w).mpr hw, e⟩)
 refine ⟨nx p u, (mem _).mp h5, h6, ?_⟩
 rw [qe5 (h.is u ((mem u).mp h3))]
 exact h4
theorem JX {M : List Sd} (h : Cyc p M) : ∀ v : Int, 0 ≤ v → v < 4 → ∃ t ∈ M, t.2 = v := by
 obtain ⟨s, hs⟩ := h.seg
 obtain ⟨sx, sy⟩ := qcs hs
 have x0 : (M.map fun t => (stp t.2).1).sum = 0 := by omega
 have y0 : (M.map fun t => (stp t.2).2).sum = 0 := by omega
 have w4 := fun t ht => way4 (h.is t ht)
 have a02 : (∃ t ∈ M, t.2 = 0) → ∃ t ∈ M, t.2 = 2 := fun ⟨t, ht, e⟩ => by
  obtain ⟨u, hu, l⟩ := V8 x0 ⟨t, ht, by rw [e]; decide⟩
  refine ⟨u, hu, ?_⟩
  rcases w4 u hu with e | e | e | e
  ·rw [e] at l; exact absurd l (by decide)
  ·rw [e] at l; exact absurd l (by decide)
  ·exact e
  ·rw [e] at l; exact absurd l (by decide)
 have a20 : (∃ t ∈ M, t.2 = 2) → ∃ t ∈ M, t.2 = 0 := fun ⟨t, ht, e⟩ => by
  obtain ⟨u, hu, l⟩ := qdl x0 ⟨t, ht, by rw [e]; decide⟩
  refine ⟨u, hu, ?_⟩
  rcases w4 u hu with e | e | e | e
  ·exact e
  ·rw [e] at l; exact absurd l (by decide)
  ·rw [e] at l; exact absurd l (by decide)
  ·rw [e] at l; exact absurd l (by decide)
 have a13 : (∃ t ∈ M, t.2 = 1) → ∃ t ∈ M, t.2 = 3 := fun ⟨t, ht, e⟩ => by
  obtain ⟨u, hu, l⟩ := V8 y0 ⟨t, ht, by rw [e]; decide⟩
  refine ⟨u, hu, ?_⟩
  rcases w4 u hu with e | e | e | e
  ·rw [e] at l; exact absurd l (by decide)
  ·rw [e] at l; exact absurd l (by decide)
  ·rw [e] at l; exact absurd l (by decide)
  ·exact e
 have a31 : (∃ t ∈ M, t.2 = 3) → ∃ t ∈ M, t.2 = 1 := fun ⟨t, ht, e⟩ => by
  obtain ⟨u, hu, l⟩ := qdl y0 ⟨t, ht, by rw [e]; decide⟩
  refine ⟨u, hu, ?_⟩
  rcases w4 u hu with e | e | e | e
  ·rw [e] at l; exact absurd l (by decide)
  ·exact e
  ·rw [e] at l; exact absurd l (by decide)
  ·rw [e] at l; exact absurd l (by decide)
 have cross : ∀ v : Int, 0 ≤ v → v < 4 → (∃ t ∈ M, t.2 = v) → (∃ t ∈ M, t.2 = (v + 2) % 4) → ∃ t ∈ M, t.2 = (v + 1) % 4 ∨ t.2 = (v + 3) % 4 := fun v v0 v4 h1 ⟨t, ht, e⟩ => by
  obtain ⟨u, hu, e1, e2⟩ := h.begins h1 ⟨t, ht, by rw [e]; omega⟩
  have iu := h.is u hu
  obtain ⟨_, b1, b2⟩ := qhm iu
  rw [e1] at b2
  obtain ⟨A, B, eM, c, sg⟩ := h.at hu
  have pm : pv p u ∈ M := by
   have := uP c.ne sg c.is
   have m := List.getLast_mem c.ne
   rw [this] at m
   rw [eM]
   exact List.perm_append_comm.mem_iff.mp m
  refine ⟨pv p u, pm, ?_⟩
  show aw p u = _ ∨ aw p u = _
  omega
 obtain ⟨t0, ht0⟩ := List.exists_mem_of_ne_nil M h.ne
 have e01 : (∃ t ∈ M, t.2 = 0) → (∃ t ∈ M, t.2 = 2) → ∃ t ∈ M, t.2 = 1 := fun h0 h2 => by
  obtain ⟨t, ht, e⟩ := cross 0 (by decide) (by decide) h0 h2
  rcases e with e | e
  ·exact ⟨t, ht, e⟩
  ·exact a31 ⟨t, ht, e⟩
 have e10 : (∃ t ∈ M, t.2 = 1) → (∃ t ∈ M, t.2 = 3) → ∃ t ∈ M, t.2 = 0 := fun h0 h2 => by
  obtain ⟨t, ht, e⟩ := cross 1 (by decide) (by decide) h0 h2
  rcases e with e | e
  ·exact a20 ⟨t, ht, e⟩
  ·exact ⟨t, ht, e⟩
 have all : (∃ t ∈ M, t.2 = 0) ∧ (∃ t ∈ M, t.2 = 1) := by
  rcases w4 t0 ht0 with e | e | e | e
  ·have h0 : ∃ t ∈ M, t.2 = 0 := ⟨t0, ht0, e⟩
   exact ⟨h0, e01 h0 (a02 h0)⟩
  ·have h1 : ∃ t ∈ M, t.2 = 1 := ⟨t0, ht0, e⟩
   exact ⟨e10 h1 (a13 h1), h1⟩
  ·have h2 : ∃ t ∈ M, t.2 = 2 := ⟨t0, ht0, e⟩
   exact ⟨a20 h2, e01 (a20 h2) h2⟩
  ·have h3 : ∃ t ∈ M, t.2 = 3 := ⟨t0, ht0, e⟩
   exact ⟨e10 (a31 h3) h3, a31 h3⟩
 intro v v0 v4
 have hv : v = 0 ∨ v = 1 ∨ v = 2 ∨ v = 3 := by omega
 rcases hv with rfl | rfl | rfl | rfl
 ·exact all.1
 ·exact all.2
 ·exact a02 all.1
 ·exact a13 all.2
theorem qbF {α : Type} [DecidableEq α] : ∀ {l k : List α}, l.Nodup → (∀ a ∈ l, a ∈ k) → l.length ≤ k.length
 | [], k, _, _ => Nat.zero_le _
 | a :: l, k, nd, sub => by
   have ha := sub a (List.mem_cons_self ..)
   obtain ⟨n1, n2⟩ := List.nodup_cons.mp nd
   have := qbF (l := l) (k := k.erase a) n2 fun x hx => (List.mem_erase_of_ne (fun z : x = a => n1 (z ▸ hx))).mpr (sub x (List.mem_cons_of_mem _ hx))
   rw [List.length_erase_of_mem ha] at this
   have p := List.length_pos_of_mem ha
   rw [List.length_cons]; omega
theorem jh {M : List Sd} (h : Cyc p M) : 4 ≤ (crn M).length := by
 rw [vP h, List.length_map]
 have := qbF (l := [(0 : Int), 1, 2, 3]) (k := (M.filter (turn p)).map (·.2)) (by decide) fun v hv => by
  have b : 0 ≤ v ∧ v < 4 := by
   simp at hv
   omega
  obtain ⟨s, hs, e, n⟩ := h.begins (JX h v b.1 b.2) (by
   obtain ⟨t, ht, e⟩ := JX h ((v + 1) % 4) (by omega) (by omega)
   exact ⟨t, ht, by rw [e]; omega⟩)
  refine List.mem_map.mpr ⟨s, List.mem_filter.mpr ⟨hs, ?_⟩, e⟩
  unfold turn
  simp
  rw [e]; exact n
 rw [List.length_map] at this
 exact this
end
end RG
namespace RG
open PySem PySem.Spec PyProof.Rows L2 BX TX COM
section
variable {p : C2 → Bool}
theorem Vh {v w : Int} (hv : 0 ≤ v ∧ v < 4) (hw : 0 ≤ w ∧ w < 4) : stp v = stp w ↔ v = w := by
 have h1 : v = 0 ∨ v = 1 ∨ v = 2 ∨ v = 3 := by omega
 have h2 : w = 0 ∨ w = 1 ∨ w = 2 ∨ w = 3 := by omega
 rcases h1 with rfl | rfl | rfl | rfl <;> rcases h2 with rfl | rfl | rfl | rfl <;> decide
theorem qec {w : Int} (hw : 0 ≤ w ∧ w < 4) : ((0 - (stp w).1, 0 - (stp w).2) : C2) = stp ((w + 2) % 4) := by
 have h2 : w = 0 ∨ w = 1 ∨ w = 2 ∨ w = 3 := by omega
 rcases h2 with rfl | rfl | rfl | rfl <;> decide
theorem qeb {w : Int} (hw : 0 ≤ w ∧ w < 4) : ((0 - (stp w).2, (stp w).1) : C2) = stp ((w + 1) % 4) := by
 have h2 : w = 0 ∨ w = 1 ∨ w = 2 ∨ w = 3 := by omega
 rcases h2 with rfl | rfl | rfl | rfl <;> decide
theorem qci {s t : Sd} (h : isS p s = true) (k : isS p t = true) (e : toL s = toL t) : s = t := by
 unfold toL at e
 rw [Prod.mk.injEq] at e
 exact Prod.ext e.1 ((Vh (xK h) (xK k)).mp e.2)
theorem qiT {M : List Sd} (h : Cyc p M) {t : Sd} (ht : t ∈ M) : t.1 ∈ crn M ↔ turn p t = true := by
 rw [vP h, List.mem_map]
 constructor
 ·rintro ⟨u, hu, e⟩
  obtain ⟨h1, h2⟩ := List.mem_filter.mp hu
  by_cases z : t = u
  ·rw [z]; exact h2
  ·have := qd9 (h.is t ht) (h.is u h1) e.symm z
   have w := xK (h.is t ht)
   unfold turn
   simp
   omega
 ·intro z
  exact ⟨t, List.mem_filter.mpr ⟨ht, z⟩, rfl⟩
theorem qey {t : Sd} (h : isS p t = true) : stp t.2 ≠ stp ((aw p t + 2) % 4) := fun z => by
 obtain ⟨_, b1, b2⟩ := qhm h
 have w := xK h
 have := (Vh w (by omega)).mp z
 omega
def twice (p : C2 → Bool) (c : C2) : Bool := (p (qc c 0) && p (qc c 2) && !p (qc c 1) && !p (qc c 3)) || (p (qc c 1) && p (qc c 3) && !p (qc c 0) && !p (qc c 2))
theorem qbw {t : Sd} (h : isS p t = true) (k : twice p t.1 = true) : stp t.2 = stp ((aw p t + 1) % 4) := by
 have w4 := way4 h
 obtain ⟨c, w⟩ := t
 rw [yX (xK h).1 (xK h).2, Bool.and_eq_true, Bool.not_eq_true'] at h
 dsimp only at w4 k ⊢
 have e : aw p (c, w) = (w + 3) % 4 := by
  unfold aw
  dsimp only
  have : p (qc c ((w + 1) % 4)) = false := by
   unfold twice at k
   rcases w4 with rfl | rfl | rfl | rfl
   ·have h1 : p (qc c 0) = true := h.1
    have h2 : p (qc c 3) = false := h.2
    rw [h1, h2] at k
    show p (qc c 1) = false
    revert k
    cases p (qc c 1) <;> simp
   ·have h1 : p (qc c 1) = true := h.1
    have h2 : p (qc c 0) = false := h.2
    rw [h1, h2] at k
    show p (qc c 2) = false
    revert k
    cases p (qc c 2) <;> simp
   ·have h1 : p (qc c 2) = true := h.1
    have h2 : p (qc c 1) = false := h.2
    rw [h1, h2] at k
    show p (qc c 3) = false
    revert k
    cases p (qc c 3) <;> simp
   ·have h1 : p (qc c 3) = true := h.1
    have h2 : p (qc c 2) = false := h.2
    rw [h1, h2] at k
    show p (qc c 0) = false
    revert k
    cases p (qc c 0) <;> simp
  rw [this]
  simp
 rw [e]
 congr 1
 omega
structure Rd (p : C2 → Bool) (s : Sd) (M : List Sd) (t : Sd) : Prop where
 ne : M ≠ []
 nd : M.Nodup
 is : ∀ u ∈ M, isS p u = true
 seg : Seg p M s t
theorem Rd.start {s : Sd} (h : isS p s = true) : Rd p s [s] (nx p s) := ⟨by simp, by simp, fun u hu => by rw [List.mem_singleton.mp hu]; exact h, rfl, rfl⟩
theorem Rd.isT {s t : Sd} {M : List Sd} (h : Rd p s M t) : isS p t = true := by
 have e := uP h.ne h.seg h.is
 have l := List.getLast_mem h.ne
 obtain ⟨A, ea⟩ : ∃ A, M = A ++ [M.getLast h.ne] := ⟨M.dropLast, (List.dropLast_concat_getLast h.ne).symm⟩
 have := h.seg
 rw [ea] at this
 rw [← Xd this]
 exact qiz (h.is _ l)
theorem Rd.step {s t : Sd} {M : List Sd} (h : Rd p s M t) (ht : t ≠ s) : Rd p s (M ++ [t]) (nx p t) := by
 have it := h.isT
 have nin : t ∉ M := fun z => by
  obtain ⟨A, B, e⟩ := List.append_of_mem z
  have sg := h.seg
  rw [e] at sg
  obtain ⟨y, k, l⟩ := jx.mp sg
  have ey : t = y := l.1
  subst ey
  have nA : A ≠ [] := fun z => by
   rw [z] at k
   exact ht k.symm
  obtain ⟨A', ea⟩ : ∃ A', A = A' ++ [A.getLast nA] := ⟨A.dropLast, (List.dropLast_concat_getLast nA).symm⟩
  have k2 := k
  rw [ea] at k2
  have e1 := Xd k2
  obtain ⟨M', em⟩ : ∃ M', M = M' ++ [M.getLast h.ne] := ⟨M.dropLast, (List.dropLast_concat_getLast h.ne).symm⟩
  have sg2 := h.seg
  rw [em] at sg2
  have e2 := Xd sg2
  have mA : A.getLast nA ∈ M := by
   rw [e]; exact List.mem_append_left _ (List.getLast_mem nA)
  have eq := qiA (h.is _ mA) (h.is _ (List.getLast_mem h.ne)) (e1.trans e2.symm)
  have nd := h.nd
  have lm : M.getLast h.ne ∈ t :: B := by
   have : M.getLast h.ne = (t :: B).getLast (by simp) := by
    have : ∀ {M : List Sd} (hm : M ≠ []), M = A ++ t :: B → M.getLast hm = (t :: B).getLast (by simp) := fun {M} hm e => by
     subst e
     exact List.getLast_append_right (by simp)
    exact this h.ne e
   rw [this]
   exact List.getLast_mem _
  rw [e, List.nodup_append] at nd
  exact nd.2.2 _ (List.getLast_mem nA) _ lm eq
 refine ⟨by simp, ?_, fun u hu => ?_, jx.mpr ⟨t, h.seg, rfl, rfl⟩⟩
 ·rw [List.nodup_append]
  refine ⟨h.nd, by simp, fun a ha b hb e => ?_⟩
  rw [List.mem_singleton] at hb
  subst hb; subst e
  exact nin ha
 ·rcases List.mem_append.mp hu with hu | hu
  ·exact h.is u hu
  ·rw [List.mem_singleton.mp hu]; exact it
theorem Rd.cyc {s : Sd} {M : List Sd} (h : Rd p s M s) : Cyc p M := ⟨h.ne, h.nd, h.is, s, h.seg⟩
theorem Rd.head {s t : Sd} {M : List Sd} (h : Rd p s M t) : s ∈ M := by
 cases M with
 | nil => exact absurd rfl h.ne
 | cons a M =>
   have e : a = s := h.seg.1
   rw [← e]; exact List.mem_cons_self ..
theorem Cyc.nx {M : List Sd} (h : Cyc p M) {t : Sd} (ht : t ∈ M) : RG.nx p t ∈ M := by
 obtain ⟨A, B, e, c, sg⟩ := h.at ht
 have mem : ∀ u, u ∈ t :: B ++ A ↔ u ∈ M := fun u => by
  rw [e]; exact List.perm_append_comm.mem_iff
 refine (mem _).mp ?_
 cases k : B ++ A with
 | nil =>
   have : Seg p [t] t t := by
    have := sg
    rw [List.cons_append, k] at this
    exact this
   have e2 : RG.nx p t = t := this.2
   rw [e2]; exact List.mem_cons_self ..
 | cons b C =>
   have := sg
   rw [List.cons_append, k] at this
   have e2 : b = RG.nx p t := this.2.1
   rw [List.cons_append, k, ← e2]
   exact List.mem_cons_of_mem _ (List.mem_cons_self ..)
theorem qfe {N : List Sd} (hN : ∀ t ∈ N, nx p t ∈ N) : ∀ {A : List Sd} {s z : Sd}, Seg p A s z → s ∈ N → ∀ u ∈ A, u ∈ N
 | [], s, z, _, _, u, hu => by cases hu
 | a :: A, s, z, ⟨e, h⟩, hs, u, hu => by
   subst e
   rcases List.mem_cons.mp hu with rfl | hu
   ·exact hs
   ·exact qfe hN h (hN _ hs) u hu
theorem apart {M N : List Sd} (h : Cyc p M) (k : Cyc p N) {s : Sd} (hs : s ∈ M) (ns : s ∉ N) : ∀ t ∈ M, t ∉ N := fun t ht hn => by
 obtain ⟨A, B, e, c, sg⟩ := h.at ht
 have := qfe (fun t ht => k.nx ht) sg hn s (by rw [e] at hs; exact List.perm_append_comm.mem_iff.mp hs)
 exact ns this
def rot {α : Type} (k : Nat) (l : List α) : List α := l.drop k ++ l.take k
theorem Qe {α : Type} (A B : List α) : rot A.length (A ++ B) = B ++ A := by
 unfold rot
 rw [List.drop_left, List.take_left]
theorem Vo {α : Type} {l : List α} {j k : Nat} (hk : k < l.length) (hj : j < l.length) : ∃ i, i < l.length ∧ rot j (rot k l) = rot i l := by
 obtain ⟨A, B, e, hA⟩ : ∃ A B, l = A ++ B ∧ A.length = k := ⟨l.take k, l.drop k, (List.take_append_drop k l).symm, by rw [List.length_take]; omega⟩
 subst e hA
 rw [Qe]
 rw [List.length_append] at hj hk
 by_cases z : j ≤ B.length
 ·obtain ⟨B1, B2, e, hB⟩ : ∃ B1 B2, B = B1 ++ B2 ∧ B1.length = j := ⟨B.take j, B.drop j, (List.take_append_drop j B).symm, by rw [List.length_take]; omega⟩
  subst e hB
  rw [List.append_assoc, Qe]
  cases B2 with
  | nil =>
    refine ⟨0, by rw [List.length_append]; omega, ?_⟩
    unfold rot
    simp
  | cons b B2 =>
    refine ⟨A.length + B1.length, by simp, ?_⟩
    have : A ++ (B1 ++ b :: B2) = (A ++ B1) ++ b :: B2 := by simp
    rw [this]
    have := Qe (A ++ B1) (b :: B2)
    rw [List.length_append] at this
    rw [this]
    simp
 ·obtain ⟨A1, A2, e, hA⟩ : ∃ A1 A2, A = A1 ++ A2 ∧ A1.length = j - B.length := ⟨A.take (j - B.length), A.drop (j - B.length), (List.take_append_drop _ A).symm, by rw [List.length_take]; omega⟩
  subst e
  refine ⟨A1.length, by simp at hj ⊢; omega, ?_⟩
  have e1 : B ++ (A1 ++ A2) = (B ++ A1) ++ A2 := by simp
  have e2 : j = (B ++ A1).length := by rw [List.length_append, hA]; omega
  rw [e1, e2, Qe, List.append_assoc, Qe]
  simp
theorem qgc {α : Type} {l : List α} {k : Nat} : (rot k l).length = l.length := by
 unfold rot
 rw [List.length_append, List.length_drop, List.length_take]
 omega
structure Ring (p : C2 → Bool) (R : List C2) (M : List Sd) : Prop where
 cyc : Cyc p M
 crn : R = crn M
 hd : ∃ s M', M = s :: M' ∧ R = s.1 :: K s.2 M' ∧ (legs s.1 (K s.2 M') s.1).flatMap leg = M.map toL ∧ ∀ l ∈ legs s.1 (K s.2 M') s.1, Good l
theorem qgd {M : List Sd} (h : Cyc p M) {k : Nat} (hk : k < (crn M).length) : ∃ N, Ring p (rot k (crn M)) N ∧ N.Perm M := by
 obtain ⟨A, B, b, B', e, eB, ec, ne⟩ := qha h hk
 have c : Cyc p (B ++ A) := by
  rw [e] at h; exact h.rot
 have er : rot k (crn M) = crn (B ++ A) := ec.symm
 have c2 : Cyc p (b :: (B' ++ A)) := by
  rw [eB] at c; exact c
 obtain ⟨w1, w2, w3⟩ := qcg c2 (by rw [eB] at ne; exact ne)
 refine ⟨B ++ A, ⟨c, er, b, B' ++ A, by rw [eB]; rfl, ?_, ?_, ?_⟩, by rw [e]; exact List.perm_append_comm⟩
 ·rw [er, eB]; exact w1
 ·rw [w2, eB]; rfl
 ·exact w3
end
end RG
namespace K34
open PySem PySem.Spec PyProof.Rows L2 BX TX COM BC RG
section
variable {κ α : Type} [DecidableEq κ]
theorem qdo {m : List (κ × α)} {c : κ} : hasA m c = true ↔ c ∈ m.map (·.1) := by
 unfold hasA
 rw [List.any_eq_true, List.mem_map]
 constructor
 ·rintro ⟨p, hp, e⟩; exact ⟨p, hp, of_decide_eq_true e⟩
 ·rintro ⟨p, hp, e⟩; exact ⟨p, hp, decide_eq_true e⟩
theorem vD {k : κ} {v : α} : ∀ {m : List (κ × α)}, (putA k v m).map (·.1) = if k ∈ m.map (·.1) then m.map (·.1) else m.map (·.1) ++ [k]
 | [] => rfl
 | p :: m => by
   have ih := vD (k := k) (v := v) (m := m)
   rw [putA]
   by_cases h : p.1 = k
   ·rw [if_pos h, List.map_cons, List.map_cons, if_pos (by rw [← h]; exact List.mem_cons_self ..), h]
   ·rw [if_neg h, List.map_cons, List.map_cons, ih]
    by_cases h2 : k ∈ m.map (·.1)
    ·rw [if_pos h2, if_pos (List.mem_cons_of_mem _ h2)]
    ·rw [if_neg h2, if_neg (fun z => by
      rcases List.mem_cons.mp z with z | z
      ·exact h z.symm
      ·exact h2 z)]
     rfl
structure Kh (f : List (κ × Bool)) (S : κ → Prop) (n : Nat) : Prop where
 nd : (f.map (·.1)).Nodup
 mem : ∀ s, s ∈ f.map (·.1) ↔ S s
 len : f.length ≤ n
theorem Kh.nil : Kh ([] : List (κ × Bool)) (fun _ => False) 0 := ⟨List.nodup_nil, fun s => by simp, Nat.le_refl _⟩
theorem Kh.put1 {f : List (κ × Bool)} {S : κ → Prop} {n : Nat} (h : Kh f S n) (t : κ) (v : Bool) : Kh (putA t v f) (fun s => s = t ∨ S s) (n + 1) := by
 have e := vD (k := t) (v := v) (m := f)
 have l : (putA t v f).length ≤ n + 1 := by
  have := congrArg List.length e
  have hl := h.len
  rw [List.length_map] at this
  split at this
  ·rw [List.length_map] at this; omega
  ·rw [List.length_append, List.length_map] at this
   simp at this; omega
 by_cases z : t ∈ f.map (·.1)
 ·rw [if_pos z] at e
  refine ⟨by rw [e]; exact h.nd, fun s => ?_, l⟩
  rw [e, h.mem]
  constructor
  ·exact .inr
  ·rintro (rfl | q)
   ·exact (h.mem _).mp z
   ·exact q
 ·rw [if_neg z] at e
  refine ⟨?_, fun s => ?_, l⟩
  ·rw [e, List.nodup_append]
   refine ⟨h.nd, by simp, fun a ha b hb q => ?_⟩
   rw [List.mem_singleton] at hb
   rw [q, hb] at ha
   exact z ha
  ·rw [e, List.mem_append, List.mem_singleton, h.mem]
   exact Or.comm
theorem Kh.put {f : List (κ × Bool)} {S : κ → Prop} {n : Nat} (h : Kh f S n) (b : Bool) (t : κ) : Kh (if b then putA t true f else f) (fun s => (b = true ∧ s = t) ∨ S s) (n + 1) := by
 cases b with
 | true =>
   have := h.put1 t true
   exact ⟨this.nd, fun s => by rw [if_pos rfl, this.mem]; simp, this.len⟩
 | false => exact ⟨h.nd, fun s => by rw [if_neg Bool.false_ne_true, h.mem]; simp, Nat.le_succ_of_le h.len⟩
theorem Kh.congr {f : List (κ × Bool)} {S T : κ → Prop} {n m : Nat} (h : Kh f S n) (e : ∀ s, S s ↔ T s) (hn : n ≤ m) : Kh f T m := ⟨h.nd, fun s => by rw [h.mem, e], Nat.le_trans h.len hn⟩
theorem Kh.has {f : List (κ × Bool)} {S : κ → Prop} {n : Nat} (h : Kh f S n) (s : κ) : hasA f s = true ↔ S s := by rw [qdo, h.mem]
theorem Wy {b : Bool} {t : κ} {f : List (κ × Bool)} {kk : List (κ × Bool) → Prop} (hl : b = true → f.length < sizeLine) (h : kk (if b then putA t true f else f)) :
 ifW b (fun kk15 => (f.length < sizeLine) ∧ lt (putA t true f) fun found => kk15 found) (fun kk15 => kk15 f) (fun found => kk found) := by
 refine ⟨fun e => ?_, fun e => ?_⟩
 ·rw [e, if_pos rfl] at h; exact ⟨hl e, h⟩
 ·rw [e, if_neg Bool.false_ne_true] at h; exact h
end
section
variable {r : List Pt}
def pr (r : List Pt) : Pt → Bool := fun c => memB c r
structure Rm (r : List Pt) : Prop where
 nd : r.Nodup
 len : r.length ≤ 1681
 bd : ∀ c ∈ r, (0 ≤ c.1 ∧ c.1 ≤ 40) ∧ 0 ≤ c.2 ∧ c.2 ≤ 40
theorem QK {c : Pt} : pr r c = true ↔ c ∈ r := by unfold pr memB; simp
theorem Zo {c : Pt} : hasA (xg [] (r.map fun cell => (cell, true))) c = pr r c := qeR
theorem Vp {p : Pt → Bool} {x y : Int} (h : p (x, y) = true) (s : Sd) : (isS p s = true ∧ qc s.1 s.2 = (x, y)) ↔
 ((!p (x, y - 1)) = true ∧ s = ((x, y), 0)) ∨ ((!p (x + 1, y)) = true ∧ s = ((x + 1, y), 1)) ∨ ((!p (x, y + 1)) = true ∧ s = ((x + 1, y + 1), 2)) ∨ ((!p (x - 1, y)) = true ∧ s = ((x, y + 1), 3)) := by
 constructor
 ·obtain ⟨⟨u, v⟩, w⟩ := s
  rintro ⟨h1, h2⟩
  have w4 := way4 h1
  rw [yX (xK h1).1 (xK h1).2, Bool.and_eq_true] at h1
  dsimp only at w4 h1 h2
  rcases w4 with rfl | rfl | rfl | rfl
  ·have e : (u, v) = (x, y) := h2
   cases e
   exact .inl ⟨h1.2, rfl⟩
  ·have e : (u - 1, v) = (x, y) := h2
   injection e with e1 e2
   obtain rfl : u = x + 1 := by omega
   subst e2
   exact .inr (.inl ⟨h1.2, rfl⟩)
  ·have e : (u - 1, v - 1) = (x, y) := h2
   injection e with e1 e2
   obtain rfl : u = x + 1 := by omega
   obtain rfl : v = y + 1 := by omega
   refine .inr (.inr (.inl ⟨?_, rfl⟩))
   have := h1.2
   show (!p (x, y + 1)) = true
   have e3 : (x, y + 1) = (x + 1 - 1, y + 1) := by rw [Int.add_sub_cancel]
   rw [e3]; exact this
  ·have e : (u, v - 1) = (x, y) := h2
   injection e with e1 e2
   subst e1
   obtain rfl : v = y + 1 := by omega
   refine .inr (.inr (.inr ⟨?_, rfl⟩))
   have := h1.2
   have e3 : (u - 1, y) = (u - 1, y + 1 - 1) := by rw [Int.add_sub_cancel]
   rw [e3]; exact this
 ·rintro (⟨h1, rfl⟩ | ⟨h1, rfl⟩ | ⟨h1, rfl⟩ | ⟨h1, rfl⟩)
  ·refine ⟨?_, rfl⟩
   rw [yX (by decide) (by decide), Bool.and_eq_true]
   exact ⟨h, h1⟩
  ·have q : qc (x + 1, y) 1 = (x, y) := by unfold qc; simp
   refine ⟨?_, q⟩
   rw [yX (by decide) (by decide), Bool.and_eq_true]
   exact ⟨by rw [q]; exact h, h1⟩
  ·have q : qc (x + 1, y + 1) 2 = (x, y) := by unfold qc; simp
   have q2 : qc (x + 1, y + 1) 1 = (x, y + 1) := by unfold qc; simp
   refine ⟨?_, q⟩
   rw [yX (by decide) (by decide), Bool.and_eq_true]
   exact ⟨by rw [q]; exact h, by show (!p (qc (x + 1, y + 1) 1)) = true; rw [q2]; exact h1⟩
  ·have q : qc (x, y + 1) 3 = (x, y) := by unfold qc; simp
   have q2 : qc (x, y + 1) 2 = (x - 1, y) := by unfold qc; simp
   refine ⟨?_, q⟩
   rw [yX (by decide) (by decide), Bool.and_eq_true]
   exact ⟨by rw [q]; exact h, by show (!p (qc (x, y + 1) 2)) = true; rw [q2]; exact h1⟩
theorem Yu (hr : Rm r) : ∃ f : List (Sd × Bool), Kh f (fun s => isS (pr r) s = true) (4 * r.length) ∧ ∀ {kr : List (Sd × Bool) → Prop}, kr f → ux r kr := by
 let stepF : List (Sd × Bool) → Pt → List (Sd × Bool) := fun f c =>
  let f1 := if !pr r (c.1, c.2 - 1) then putA ((c.1, c.2), 0) true f else f
  let f2 := if !pr r (c.1 + 1, c.2) then putA ((c.1 + 1, c.2), 1) true f1 else f1
  let f3 := if !pr r (c.1, c.2 + 1) then putA ((c.1 + 1, c.2 + 1), 2) true f2 else f2
  if !pr r (c.1 - 1, c.2) then putA ((c.1, c.2 + 1), 3) true f3 else f3
 have stp_ok : ∀ {S : Sd → Prop} {n : Nat} {f : List (Sd × Bool)} {c : Pt}, c ∈ r → Kh f S n → Kh (stepF f c) (fun s => S s ∨ (isS (pr r) s = true ∧ qc s.1 s.2 = c)) (n + 4) := fun {S n f c} hc h => by
  have h4 := (((h.put (!pr r (c.1, c.2 - 1)) ((c.1, c.2), 0)).put (!pr r (c.1 + 1, c.2)) ((c.1 + 1, c.2), 1)).put (!pr r (c.1, c.2 + 1)) ((c.1 + 1, c.2 + 1), 2)).put (!pr r (c.1 - 1, c.2)) ((c.1, c.2 + 1), 3)
  refine h4.congr (fun s => ?_) (Nat.le_refl _)
  have := Vp (p := pr r) (x := c.1) (y := c.2) (QK.mpr hc) s
  rw [show (c.1, c.2) = c from rfl] at this
  rw [this]
  constructor
  ·rintro (z | z | z | z | z)
   ·exact .inr (.inr (.inr (.inr z)))
   ·exact .inr (.inr (.inr (.inl z)))
   ·exact .inr (.inr (.inl z))
   ·exact .inr (.inl z)
   ·exact .inl z
  ·rintro (z | z | z | z | z)
   ·exact .inr (.inr (.inr (.inr z)))
   ·exact .inr (.inr (.inr (.inl z)))
   ·exact .inr (.inr (.inl z))
   ·exact .inr (.inl z)
   ·exact .inl z
 have all : ∀ (l pre : List Pt) {f : List (Sd × Bool)}, (∀ c ∈ l, c ∈ r) → Kh f (fun s => isS (pr r) s = true ∧ qc s.1 s.2 ∈ pre) (4 * pre.length) → Kh (l.foldl stepF f) (fun s => isS (pr r) s = true ∧ qc s.1 s.2 ∈ pre ++ l) (4 * (pre ++ l).length) := by
  intro l
  induction l with
  | nil => intro pre f _ h; simpa using h
  | cons c l ih =>
    intro pre f hl h
    have h2 := (stp_ok (hl c (List.mem_cons_self ..)) h).congr (T := fun s => isS (pr r) s = true ∧ qc s.1 s.2 ∈ pre ++ [c]) (fun s => by
     rw [List.mem_append, List.mem_singleton]
     constructor
     ·rintro (z | z)
      ·exact ⟨z.1, .inl z.2⟩
      ·exact ⟨z.1, .inr z.2⟩
     ·rintro ⟨a, z | z⟩
      ·exact .inl ⟨a, z⟩
      ·exact .inr ⟨a, z⟩) (m := 4 * (pre ++ [c]).length) (by rw [List.length_append]; simp; omega)
    have := ih (pre ++ [c]) (fun d hd => hl d (List.mem_cons_of_mem _ hd)) h2
    rw [List.append_assoc] at this
    exact this
 have h0 : Kh ([] : List (Sd × Bool)) (fun s => isS (pr r) s = true ∧ qc s.1 s.2 ∈ ([] : List Pt)) (4 * ([] : List Pt).length) := Kh.nil.congr (fun s => by simp) (Nat.zero_le _)
 refine ⟨r.foldl stepF [], ?_, fun {kr} hk => ?_⟩
 ·have := all r [] (fun c h => h) h0
  refine this.congr (fun s => ⟨fun z => z.1, fun z => ⟨z, ?_⟩⟩) (Nat.le_refl _)
  rw [yX (xK z).1 (xK z).2, Bool.and_eq_true] at z
  exact QK.mp z.1
 ·unfold ux
  have z1 : r.length ≤ sizeLine := by rw [sizeLine_eq]; have := hr.len; omega
  refine ⟨z1, ?_⟩
  show forW r [] _ _
  refine jX (fun pre f => (∀ c ∈ pre, c ∈ r) ∧ f = pre.foldl stepF [] ∧ pre.length ≤ r.length) ⟨(fun c h => by cases h), rfl, Nat.zero_le _⟩ (fun pre c post f kk e I hkk => ?_) fun f I => by rw [I.2.1]; exact hk
  obtain ⟨i1, i2, i3⟩ := I
  have hc : c ∈ r := by rw [e]; simp
  have K0 := all pre [] i1 h0
  rw [← i2] at K0
  have l0 := K0.len
  rw [List.nil_append] at l0
  have len := hr.len
  have hl : pre.length + 1 ≤ r.length := by rw [e]; simp
  have fits : ∀ {g : List (Sd × Bool)} {n : Nat}, n ≤ 3 → g.length ≤ f.length + n → g.length < sizeLine := fun {g n} h1 h2 => by rw [sizeLine_eq]; omega
  have grow : ∀ (b : Bool) (t : Sd) (g : List (Sd × Bool)), (if b then putA t true g else g).length ≤ g.length + 1 := fun b t g => by
   cases b with
   | false => exact Nat.le_succ _
   | true =>
     have e := vD (k := t) (v := true) (m := g)
     have := congrArg List.length e
     rw [List.length_map] at this
     split at this
     ·rw [List.length_map] at this; rw [if_pos rfl]; omega
     ·rw [List.length_append, List.length_map] at this
      simp at this; rw [if_pos rfl]; omega
  have hfin : kk (stepF f c) := hkk _ ⟨fun d hd => by
   rcases List.mem_append.mp hd with hd | hd
   ·exact i1 d hd
   ·rw [List.mem_singleton.mp hd]; exact hc, by rw [List.foldl_append, ← i2]; rfl, by rw [List.length_append]; simp; omega⟩
  show forW (qdx [((c.1, c.2), (c.1, c.2 - 1)), ((c.1 + 1, c.2), (c.1 + 1, c.2)), ((c.1 + 1, c.2 + 1), (c.1, c.2 + 1)), ((c.1, c.2 + 1), (c.1 - 1, c.2))]) f _ _
  refine Wy (fun _ => fits (n := 0) (by omega) (by omega)) ?_
  refine Wy (fun _ => fits (n := 1) (by omega) (grow _ _ _)) ?_
  refine Wy (fun _ => fits (n := 2) (by omega) (Nat.le_trans (grow _ _ _) (Nat.succ_le_succ (grow _ _ _)))) ?_
  refine Wy (fun _ => fits (n := 3) (by omega) (Nat.le_trans (grow _ _ _) (Nat.succ_le_succ (Nat.le_trans (grow _ _ _) (Nat.succ_le_succ (grow _ _ _)))))) ?_
  simp only [Zo]
  exact hfin
end
end K34
namespace K34
open PySem PySem.Spec PyProof.Rows L2 BX TX COM BC RG
section
variable {p : Pt → Bool} {f : List (Sd × Bool)} {n : Nat}
theorem qef {w : Int} (h : 0 ≤ w ∧ w < 4) : atI Ut w = some (stp w) := by
 have h2 : w = 0 ∨ w = 1 ∨ w = 2 ∨ w = 3 := by omega
 rcases h2 with rfl | rfl | rfl | rfl <;> decide
theorem Qx (k : Kh f (fun s => isS p s = true) n) {s : Sd} (h : isS p s = true) {kr : Sd → Prop} (hk : kr (nx p s)) : yQ f s kr := by
 have at' := qef (xK h)
 have w := xK h
 unfold yQ
 refine ⟨stp s.2, at', stp s.2, at', ?_⟩
 show ifP (hasA f (RG.fin s, (s.2 + 1) % 4)) (kr (RG.fin s, (s.2 + 1) % 4)) (ifP (hasA f (RG.fin s, (s.2 + 0) % 4)) (kr (RG.fin s, (s.2 + 0) % 4)) (ifP (hasA f (RG.fin s, (s.2 + 3) % 4)) (kr (RG.fin s, (s.2 + 3) % 4)) False))
 have e0 : (s.2 + 0) % 4 = s.2 := by omega
 have nxe : nx p s = if isS p (RG.fin s, (s.2 + 1) % 4) then (RG.fin s, (s.2 + 1) % 4) else if isS p (RG.fin s, s.2) then (RG.fin s, s.2) else (RG.fin s, (s.2 + 3) % 4) := rfl
 have ix := qiz h
 refine ⟨fun b1 => ?_, fun b1 => ⟨fun b2 => ?_, fun b2 => ⟨fun b3 => ?_, fun b3 => ?_⟩⟩⟩
 ·have := (k.has _).mp b1
  rw [nxe, if_pos this] at hk
  exact hk
 ·have n1 : ¬ isS p (RG.fin s, (s.2 + 1) % 4) = true := fun z => by
   have := (k.has _).mpr z
   exact absurd (this.symm.trans b1) (by decide)
  have := (k.has _).mp b2
  rw [e0] at this
  rw [nxe, if_neg n1, if_pos this] at hk
  rw [e0]
  exact hk
 ·have n1 : ¬ isS p (RG.fin s, (s.2 + 1) % 4) = true := fun z => by
   have := (k.has _).mpr z
   exact absurd (this.symm.trans b1) (by decide)
  have n2 : ¬ isS p (RG.fin s, s.2) = true := fun z => by
   have := (k.has _).mpr z
   have b2' : hasA f (RG.fin s, s.2) = false := by rw [e0] at b2; exact b2
   rw [b2'] at this
   cases this
  rw [nxe, if_neg n1, if_neg n2] at hk
  exact hk
 ·have n1 : ¬ isS p (RG.fin s, (s.2 + 1) % 4) = true := fun z => by
   have := (k.has _).mpr z
   exact absurd (this.symm.trans b1) (by decide)
  have n2 : ¬ isS p (RG.fin s, s.2) = true := fun z => by
   have := (k.has _).mpr z
   have b2' : hasA f (RG.fin s, s.2) = false := by rw [e0] at b2; exact b2
   rw [b2'] at this
   cases this
  rw [nxe, if_neg n1, if_neg n2] at ix
  have := (k.has _).mpr ix
  exact absurd (this.symm.trans b3) (by decide)
def goR (p : Pt → Bool) (s : Sd) : Nat → List Sd → Sd → List Sd
 | 0, M, _ => M
 | n + 1, M, t => if t = s then M else goR p s n (M ++ [t]) (nx p t)
theorem Rd.le (k : Kh f (fun s => isS p s = true) n) {s t : Sd} {M : List Sd} (h : Rd p s M t) : M.length ≤ n := by
 have := qbF h.nd (k := f.map (·.1)) fun a ha => (k.mem a).mpr (h.is a ha)
 rw [List.length_map] at this
 exact Nat.le_trans this k.len
theorem qfC (k : Kh f (fun s => isS p s = true) n) {s : Sd} : ∀ {m : Nat} {M : List Sd} {t : Sd}, Rd p s M t → n < M.length + m → Rd p s (goR p s m M t) s
 | 0, M, t, h, hm => by have := Rd.le k h; omega
 | m + 1, M, t, h, hm => by
   rw [goR]
   by_cases z : t = s
   ·rw [if_pos z]; rw [z] at h; exact h
   ·rw [if_neg z]
    exact qfC k (h.step z) (by rw [List.length_append]; simp; omega)
def zY (p : Pt → Bool) (n : Nat) (s : Sd) : List Sd := goR p s n [s] (nx p s)
theorem vB (k : Kh f (fun s => isS p s = true) n) {s : Sd} (h : isS p s = true) : Rd p s (zY p n s) s := qfC k (.start h) (by simp)
theorem Xc (k : Kh f (fun s => isS p s = true) n) (hn : n < 100000) {s : Sd} (h : isS p s = true) {kr : List Sd → Prop} (hk : kr (zY p n s)) : xN f s kr := by
 unfold xN
 simp only [lt]
 refine Qx k h ?_
 refine ⟨fun m st => Rd p s st.1 st.2 ∧ n < st.1.length + m ∧ goR p s m st.1 st.2 = zY p n s, ⟨n, .start h, by simp, rfl⟩, fun m st I => ?_⟩
 obtain ⟨M, t⟩ := st
 obtain ⟨h1, h2, h3⟩ := I
 dsimp only at h1 h2 h3
 have le := Rd.le k h1
 cases m with
 | zero => omega
 | succ m =>
   refine ⟨fun b => ?_, fun b => ?_⟩
   ·have z : t ≠ s := by simpa using b
    refine ⟨by dsimp only; rw [sizeLine_eq]; omega, Qx k h1.isT ⟨m, Nat.lt_succ_self m, h1.step z, by dsimp only; rw [List.length_append]; simp; omega, ?_⟩⟩
    rw [goR, if_neg z] at h3
    exact h3
   ·have z : t = s := by simpa using b
    rw [goR, if_pos z] at h3
    rw [← h3] at hk
    exact hk
theorem XX {α : Type} {M : List α} (h : M ≠ []) : cutA M (some (-1)) none = [M.getLast h] := by
 have hp : 0 < M.length := List.length_pos_iff.mpr h
 have e : HT.sIx M.length 0 (some (-1)) = M.length - 1 := by
  unfold HT.sIx
  dsimp only
  rw [if_pos (by decide)]
  omega
 unfold cutA
 rw [e, HT.sIx_none]
 have e1 : M.length - (M.length - 1) = 1 := by omega
 have e2 : M.drop (M.length - 1) = [M.getLast h] := by
  have e3 := List.dropLast_concat_getLast h
  have e4 : M.dropLast.length = M.length - 1 := List.length_dropLast
  have e5 : (M.dropLast ++ [M.getLast h]).drop M.dropLast.length = [M.getLast h] := List.drop_left
  rw [e3, e4] at e5
  exact e5
 rw [e1, e2]; rfl
theorem X3 {α : Type} (M : List α) : cutA M none (some (-1)) = M.dropLast := by
 have e : HT.sIx M.length M.length (some (-1)) = M.length - 1 := by
  unfold HT.sIx
  dsimp only
  rw [if_pos (by decide)]
  omega
 unfold cutA
 rw [e, HT.sIx_none, List.drop_zero, Nat.sub_zero, List.dropLast_eq_take]
theorem Ug {M : List Sd} (h : Cyc p M) (hl : M.length < 100000) {kr : List Pt → Prop} (hk : kr (crn M)) : je M kr := by
 unfold je
 rw [XX h.ne, X3]
 have e : [M.getLast h.ne] ++ M.dropLast = M.getLast h.ne :: M.dropLast := rfl
 rw [e, qcz h]
 refine ⟨?_, ?_, ?_⟩
 ·rw [List.length_dropLast, sizeLine_eq]; simp; omega
 ·rw [List.length_map, sizeLine_eq]; omega
 ·rw [vP h] at hk
  have ee : ((M.map fun t => (t, pv p t)).filter fun a2 => !decide (a2.1.2 = a2.2.2)).map (fun a2 => a2.1.1) = (M.filter (turn p)).map (·.1) := by
   rw [List.filter_map, List.map_map]
   have : ((fun a2 : Sd × Sd => !decide (a2.1.2 = a2.2.2)) ∘ fun t => (t, pv p t)) = turn p := by
    funext t
    show (!decide (t.2 = aw p t)) = !decide (aw p t = t.2)
    congr 1
    exact decide_eq_decide.mpr ⟨Eq.symm, Eq.symm⟩
   rw [this]; rfl
  rw [ee]; exact hk
end
theorem VN (a b : List Pt) : ltV a b = PyProof.Rows.lexLt PyProof.Rows.itemOrd (PySem.W.keyToksAll (a.map PySem.W.Datum.toD)) (PySem.W.keyToksAll (b.map PySem.W.Datum.toD)) := (PySem.W.lexAll_map a b).symm
theorem Wl (a : List Pt) : ltV a a = false := by rw [VN]; exact PyProof.Rows.lex_irrefl _
theorem ZS {a b c : List Pt} (h : ltV a b = true) (k : ltV b c = true) : ltV a c = true := by
 rw [VN] at *; exact PyProof.Rows.lex_trans _ _ _ h k
theorem qc4 {a c : List Pt} (b : List Pt) (h : ltV a c = true) : ltV a b = true ∨ ltV b c = true := by
 simp only [VN] at *; exact PyProof.Rows.lex_negTrans _ _ _ h
theorem qie {a b : Pt} (h : PySem.W.DatumOrd.lt a b = false) (k : PySem.W.DatumOrd.lt b a = false) : a = b := by
 rw [← PySem.W.DatumOrd.lt_eq] at h k
 obtain ⟨x, y⟩ := a
 obtain ⟨u, v⟩ := b
 have e1 : (PySem.W.Datum.toD ((x, y) : Pt)) = PyData.tuple [.int x, .int y] := rfl
 have e2 : (PySem.W.Datum.toD ((u, v) : Pt)) = PyData.tuple [.int u, .int v] := rfl
 rw [e1, e2, PySem.W.dataLt_ii] at h k
 have h := of_decide_eq_false h
 have k := of_decide_eq_false k
 have : x = u ∧ y = v := by omega
 rw [this.1, this.2]
theorem VM : ∀ {a b : List Pt}, ltV a b = false → ltV b a = false → a = b
 | [], [], _, _ => rfl
 | [], _ :: _, h, _ => by simp [ltV, PySem.W.listLt] at h
 | _ :: _, [], _, k => by simp [ltV, PySem.W.listLt] at k
 | x :: a, y :: b, h, k => by
   unfold ltV at h k
   rw [PySem.W.listLt] at h k
   by_cases e : x = y
   ·rw [if_pos e] at h
    rw [if_pos e.symm] at k
    rw [e, VM (a := a) (b := b) h k]
   ·rw [if_neg e] at h
    rw [if_neg (fun z => e z.symm)] at k
    exact absurd (qie h k) e
theorem qal {l : List Pt} {k : Nat} (h : k ≤ l.length) : cutA l (some (k : Int)) none ++ cutA l none (some (k : Int)) = rot k l := by
 unfold cutA rot
 rw [HT.sIx_nat, HT.sIx_nat, HT.sIx_none, HT.sIx_none, Nat.min_eq_left h, List.drop_zero, Nat.sub_zero]
 congr 1
 rw [List.take_of_length_le (by rw [List.length_drop]; omega)]
def least (x : List Pt) (xs : List (List Pt)) : List Pt := xs.foldl (fun a y => if ltV y a then y else a) x
theorem qaV : ∀ {xs : List (List Pt)} {x : List Pt}, least x xs ∈ x :: xs ∧ ∀ y ∈ x :: xs, ltV y (least x xs) = false
 | [], x => ⟨List.mem_singleton.mpr rfl, fun y hy => by rw [List.mem_singleton.mp hy]; exact Wl x⟩
 | y :: xs, x => by
   obtain ⟨h1, h2⟩ := qaV (xs := xs) (x := if ltV y x then y else x)
   have e : least x (y :: xs) = least (if ltV y x then y else x) xs := rfl
   rw [e]
   generalize least (if ltV y x then y else x) xs = m at h1 h2 ⊢
   cases b : ltV y x with
   | true =>
     rw [b, if_pos rfl] at h1 h2
     refine ⟨List.mem_cons_of_mem _ h1, fun z hz => ?_⟩
     rcases List.mem_cons.mp hz with rfl | hz
     ·cases q : ltV z m with
      | false => rfl
      | true =>
        have := ZS b q
        rw [h2 y (List.mem_cons_self ..)] at this
        cases this
     ·exact h2 z hz
   | false =>
     rw [b, if_neg Bool.false_ne_true] at h1 h2
     refine ⟨?_, fun z hz => ?_⟩
     ·rcases List.mem_cons.mp h1 with h1 | h1
      ·rw [h1]; exact List.mem_cons_self ..
      ·exact List.mem_cons_of_mem _ (List.mem_cons_of_mem _ h1)
     ·rcases List.mem_cons.mp hz with rfl | hz
      ·exact h2 z (List.mem_cons_self ..)
      ·rcases List.mem_cons.mp hz with rfl | hz
       ·cases q : ltV z m with
        | false => rfl
        | true =>
          rcases qc4 x q with w | w
          ·rw [b] at w; cases w
          ·rw [h2 x (List.mem_cons_self ..)] at w; cases w
       ·exact h2 z (List.mem_cons_of_mem _ hz)
def WD (l : List Pt) : List Pt := match (List.range l.length).map fun k => rot k l with
 | [] => []
 | x :: xs => least x xs
theorem vI {l : List Pt} (ne : l ≠ []) : (∃ k, k < l.length ∧ WD l = rot k l) ∧ ∀ j, j < l.length → ltV (rot j l) (WD l) = false := by
 have hp : 0 < l.length := List.length_pos_iff.mpr ne
 have hm : ∀ y, y ∈ ((List.range l.length).map fun k => rot k l) ↔ ∃ k, k < l.length ∧ y = rot k l := fun y => by
  rw [List.mem_map]
  constructor
  ·rintro ⟨k, h, e⟩; exact ⟨k, List.mem_range.mp h, e.symm⟩
  ·rintro ⟨k, h, e⟩; exact ⟨k, List.mem_range.mpr h, e.symm⟩
 unfold WD
 split
 ·rename_i e
  have := (hm (rot 0 l)).mpr ⟨0, hp, rfl⟩
  rw [e] at this; cases this
 ·rename_i x xs e
  rw [e] at hm
  obtain ⟨h1, h2⟩ := qaV (xs := xs) (x := x)
  exact ⟨(hm _).mp h1, fun j hj => h2 _ ((hm _).mpr ⟨j, hj, rfl⟩)⟩
theorem Xe {β : Type} {g : Int → β} {n : Nat} : (rng 0 (n : Int)).map g = (List.range n).map fun (k : Nat) => g (k : Int) := by
 unfold rng
 rw [List.map_map, Int.sub_zero, Int.toNat_natCast]
 refine List.map_congr_left fun k _ => ?_
 show g (0 + (k : Int)) = g (k : Int)
 rw [Int.zero_add]
theorem qgb (l : List Pt) : (rng 0 (l.length : Int)).map (fun k' => cutA l (some k') none ++ cutA l none (some k')) = (List.range l.length).map fun k => rot k l := by
 rw [Xe]
 exact List.map_congr_left fun k hk => qal (Nat.le_of_lt (List.mem_range.mp hk))
theorem qak (l : List Pt) (k : Int) : (cutA l (some k) none).length + (cutA l none (some k)).length ≤ 2 * l.length := by
 unfold cutA
 simp only [List.length_take, List.length_drop]
 omega
theorem Yj {l : List Pt} (ne : l ≠ []) (hl : l.length < 100000) {kr : List Pt → Prop} (hk : kr (WD l)) : yZ l kr := by
 have hp : 0 < l.length := List.length_pos_iff.mpr ne
 unfold yZ
 refine ⟨⟨by decide, by decide, by omega, by omega⟩, ?_, fun k' _ => ⟨?_, trivial⟩, ?_⟩
 ·have : (rng 0 (l.length : Int)).length = l.length := by
   have := congrArg List.length (Xe (g := id) (n := l.length))
   rw [List.length_map, List.length_map, List.length_range] at this
   exact this
  rw [this, sizeLine_eq]; omega
 ·have := qak l k'
  rw [sizeLine_eq]; omega
 ·show exW (minV _) _
  rw [qgb]
  unfold WD at hk
  split at hk
  ·rename_i e
   have := congrArg List.length e
   rw [List.length_map, List.length_range] at this
   exact absurd (List.length_eq_zero_iff.mp this) ne
  ·rename_i x xs e
   rw [e]
   exact ⟨_, rfl, hk⟩
end K34
namespace K34
open PySem PySem.Spec PyProof.Rows L2 BX TX COM BC RG
section
variable {κ : Type} [DecidableEq κ]
theorem Kh.puts {S : κ → Prop} {n : Nat} : ∀ {l : List (κ × Bool)} {f : List (κ × Bool)} {S : κ → Prop} {n : Nat}, Kh f S n → Kh (xg f l) (fun s => s ∈ l.map (·.1) ∨ S s) (n + l.length)
 | [], f, S, n, h => h.congr (fun s => by simp) (Nat.le_refl _)
 | x :: l, f, S, n, h => by
   have := Kh.puts (S := S) (n := n) (l := l) (h.put1 x.1 x.2)
   refine this.congr (fun s => ?_) (by rw [List.length_cons]; omega)
   rw [List.map_cons, List.mem_cons]
   constructor
   ·rintro (z | z | z)
    ·exact .inl (.inr z)
    ·exact .inl (.inl z)
    ·exact .inr z
   ·rintro ((z | z) | z)
    ·exact .inr (.inl z)
    ·exact .inl z
    ·exact .inr (.inr z)
theorem We : ∀ {M : List κ} {m : List (κ × Bool)}, (m.map (·.1) ++ M).Nodup → (xg m (M.map fun s => (s, true))).map (·.1) = m.map (·.1) ++ M
 | [], m, _ => by simp [xg]
 | s :: M, m, h => by
   have ns : s ∉ m.map (·.1) := fun z => by
    rw [List.nodup_append] at h
    exact h.2.2 s z s (List.mem_cons_self ..) rfl
   have e : (putA s true m).map (·.1) = m.map (·.1) ++ [s] := by rw [vD, if_neg ns]
   have := We (M := M) (m := putA s true m) (by rw [e, List.append_assoc]; exact h)
   rw [e, List.append_assoc] at this
   exact this
end
section
variable {r : List Pt}
structure Prt (p : Pt → Bool) (Ms : List (List Sd)) : Prop where
 cyc : ∀ M ∈ Ms, Cyc p M
 nd : Ms.flatten.Nodup
 all : ∀ s, isS p s = true → s ∈ Ms.flatten
theorem Prt.is {p : Pt → Bool} {Ms : List (List Sd)} (h : Prt p Ms) {s : Sd} (hs : s ∈ Ms.flatten) : isS p s = true := by
 obtain ⟨M, h1, h2⟩ := List.mem_flatten.mp hs
 exact (h.cyc M h1).is s h2
def addM (p : Pt → Bool) (n : Nat) (Ms : List (List Sd)) (s : Sd) : List (List Sd) := if s ∈ Ms.flatten then Ms else Ms ++ [zY p n s]
structure Pre (p : Pt → Bool) (Ms : List (List Sd)) (pre : List Sd) : Prop where
 cyc : ∀ M ∈ Ms, Cyc p M
 nd : Ms.flatten.Nodup
 all : ∀ s ∈ pre, s ∈ Ms.flatten
 len : Ms.length ≤ pre.length
theorem Pre.add {p : Pt → Bool} {f : List (Sd × Bool)} {n : Nat} (k : Kh f (fun s => isS p s = true) n) {Ms : List (List Sd)} {pre : List Sd} (h : Pre p Ms pre) {s : Sd} (hs : isS p s = true) : Pre p (addM p n Ms s) (pre ++ [s]) := by
 unfold addM
 by_cases z : s ∈ Ms.flatten
 ·rw [if_pos z]
  refine ⟨h.cyc, h.nd, fun t ht => ?_, by rw [List.length_append]; exact Nat.le_succ_of_le h.len⟩
  rcases List.mem_append.mp ht with ht | ht
  ·exact h.all t ht
  ·rw [List.mem_singleton.mp ht]; exact z
 ·rw [if_neg z]
  have R := vB k hs
  have C := R.cyc
  refine ⟨fun M hM => ?_, ?_, fun t ht => ?_, by rw [List.length_append, List.length_append]; exact Nat.succ_le_succ h.len⟩
  ·rcases List.mem_append.mp hM with hM | hM
   ·exact h.cyc M hM
   ·rw [List.mem_singleton.mp hM]; exact C
  ·rw [List.flatten_append, List.nodup_append]
   have e : [zY p n s].flatten = zY p n s := by simp
   rw [e]
   refine ⟨h.nd, C.nd, fun a ha b hb q => ?_⟩
   subst q
   obtain ⟨M, h1, h2⟩ := List.mem_flatten.mp ha
   exact apart C (h.cyc M h1) R.head (fun w => z (List.mem_flatten.mpr ⟨M, h1, w⟩)) a hb h2
  ·have e : (Ms ++ [zY p n s]).flatten = Ms.flatten ++ zY p n s := by simp
   rw [e, List.mem_append]
   rcases List.mem_append.mp ht with ht | ht
   ·exact .inl (h.all t ht)
   ·rw [List.mem_singleton.mp ht]; exact .inr R.head
def msF (p : Pt → Bool) (n : Nat) (l : List Sd) : List (List Sd) := l.foldl (addM p n) []
theorem VH {p : Pt → Bool} {f : List (Sd × Bool)} {n : Nat} (k : Kh f (fun s => isS p s = true) n) : ∀ (l pre : List Sd) {Ms : List (List Sd)}, Pre p Ms pre → (∀ s ∈ l, isS p s = true) → Pre p (l.foldl (addM p n) Ms) (pre ++ l)
 | [], pre, Ms, h, _ => by rw [List.append_nil]; exact h
 | s :: l, pre, Ms, h, hl => by
   have := VH k l (pre ++ [s]) (h.add k (hl s (List.mem_cons_self ..))) fun t ht => hl t (List.mem_cons_of_mem _ ht)
   rw [List.append_assoc] at this
   exact this
def qU (M : List Sd) : List Pt := WD (crn M)
theorem vN {p : Pt → Bool} {M : List Sd} (h : Cyc p M) : (qU M).length = (crn M).length ∧ 4 ≤ (qU M).length := by
 have four := jh h
 obtain ⟨⟨k, hk, e⟩, _⟩ := vI (l := crn M) (fun z => by rw [z] at four; simp at four)
 unfold qU
 rw [e, qgc]
 exact ⟨rfl, four⟩
theorem Ue {p : Pt → Bool} {M : List Sd} (h : Cyc p M) : (crn M).length ≤ M.length := by
 rw [vP h, List.length_map]
 exact List.length_filter_le _ _
theorem qf7 (hr : Rm r) {s : Sd} (h : isS (pr r) s = true) : ((0 ≤ s.1.1 ∧ s.1.1 < 42) ∧ 0 ≤ s.1.2 ∧ s.1.2 < 42) ∧ 0 ≤ s.2 ∧ s.2 < 4 := by
 have w4 := way4 h
 have w := xK h
 rw [yX w.1 w.2, Bool.and_eq_true] at h
 have b := hr.bd _ (QK.mp h.1)
 obtain ⟨⟨x, y⟩, v⟩ := s
 dsimp only at w4 b w ⊢
 refine ⟨?_, w⟩
 rcases w4 with rfl | rfl | rfl | rfl
 ·have e : qc (x, y) 0 = (x, y) := rfl
  rw [e] at b; dsimp only at b; omega
 ·have e : qc (x, y) 1 = (x - 1, y) := rfl
  rw [e] at b; dsimp only at b; omega
 ·have e : qc (x, y) 2 = (x - 1, y - 1) := rfl
  rw [e] at b; dsimp only at b; omega
 ·have e : qc (x, y) 3 = (x, y - 1) := rfl
  rw [e] at b; dsimp only at b; omega
theorem YC (hr : Rm r) : ∃ Ms, Prt (pr r) Ms ∧ Ms.flatten.length ≤ 4 * r.length ∧ ∀ {kr : List (List Pt) → Prop}, kr (srtV (Ms.map qU)) → zN r kr := by
 obtain ⟨f, kf, hf⟩ := Yu hr
 have len := hr.len
 obtain ⟨n, hn⟩ : ∃ n, n = 4 * r.length := ⟨_, rfl⟩
 obtain ⟨p, hp⟩ : ∃ p, p = pr r := ⟨_, rfl⟩
 rw [← hp, ← hn] at kf
 rw [← hp, ← hn]
 obtain ⟨L, hLd⟩ : ∃ L, L = qcm (f.map (·.1)) := ⟨_, rfl⟩
 have pm : L.Perm (f.map (·.1)) := by rw [hLd]; exact List.mergeSort_perm _ _
 have hL : ∀ s ∈ L, isS p s = true := fun s hs => (kf.mem s).mp (pm.mem_iff.mp hs)
 have lL : L.length ≤ n := by rw [pm.length_eq, List.length_map]; exact kf.len
 have P := VH kf L [] (Ms := []) ⟨(fun M h => by cases h), List.nodup_nil, (fun s h => by cases h), Nat.le_refl _⟩ hL
 have small : ∀ {l : List Sd}, l.Nodup → (∀ s ∈ l, isS p s = true) → l.length ≤ n := fun {l} h1 h2 => by
  have := qbF h1 (k := f.map (·.1)) fun a ha => (kf.mem a).mpr (h2 a ha)
  rw [List.length_map] at this
  exact Nat.le_trans this kf.len
 refine ⟨msF p n L, ⟨P.cyc, P.nd, fun s hs => P.all s (by rw [List.nil_append]; exact pm.mem_iff.mpr ((kf.mem s).mpr hs))⟩, ?_, fun {kr} hk => ?_⟩
 ·exact small P.nd fun s hs => by
   obtain ⟨M, h1, h2⟩ := List.mem_flatten.mp hs
   exact (P.cyc M h1).is s h2
 unfold zN
 refine hf ?_
 simp only [lt]
 rw [← hLd]
 refine jX (fun pre st => (∀ s ∈ pre, s ∈ L) ∧ pre.length ≤ L.length ∧ Kh st.1 (fun s => s ∈ (msF p n pre).flatten) (msF p n pre).flatten.length ∧ st.2 = (msF p n pre).map qU) ⟨(fun s h => by cases h), Nat.zero_le _, ?_, rfl⟩ (fun pre s post st kk e I hkk => ?_) fun st I => ?_
 ·exact Kh.nil.congr (fun s => by simp [msF]) (Nat.zero_le _)
 ·obtain ⟨i1, i2, i3, i4⟩ := I
  obtain ⟨met, rings⟩ := st
  dsimp only at i3 i4 ⊢
  have eL : L = pre ++ s :: post := e
  have hs : s ∈ L := by rw [eL]; simp
  have is := hL s hs
  have Q := VH kf pre [] (Ms := []) ⟨(fun M h => by cases h), List.nodup_nil, (fun s h => by cases h), Nat.le_refl _⟩ fun t ht => hL t (i1 t ht)
  rw [List.nil_append] at Q
  have Qm : pre.foldl (addM p n) [] = msF p n pre := rfl
  rw [Qm] at Q
  have e1 : msF p n (pre ++ [s]) = addM p n (msF p n pre) s := by unfold msF; rw [List.foldl_append]; rfl
  have i1' : ∀ t ∈ pre ++ [s], t ∈ L := fun t ht => by
   rcases List.mem_append.mp ht with ht | ht
   ·exact i1 t ht
   ·rw [List.mem_singleton.mp ht]; exact hs
  have i2' : (pre ++ [s]).length ≤ L.length := by rw [eL]; simp
  refine ⟨fun b => ?_, fun b => ?_⟩
  ·have nin : s ∉ (msF p n pre).flatten := fun z => by
    rw [(i3.has s).mpr z] at b; cases b
   have R := vB kf is
   have C := R.cyc
   have lM : (zY p n s).length ≤ n := small C.nd C.is
   have four := jh C
   have nec : crn (zY p n s) ≠ [] := fun z => by rw [z] at four; simp at four
   have lc := Ue C
   have ek : (xg ([] : List (Sd × Bool)) ((zY p n s).map fun side => (side, true))).map (·.1) = zY p n s := by
    have := We (M := zY p n s) (m := []) (by simpa using C.nd)
    simpa using this
   have el : (xg ([] : List (Sd × Bool)) ((zY p n s).map fun side => (side, true))).length = (zY p n s).length := by
    have := congrArg List.length ek
    rw [List.length_map] at this; exact this
   have lmet : met.length ≤ n := by
    have h1 : ((msF p n pre).flatten).length ≤ n := small Q.nd fun t ht => by
     obtain ⟨M, h1, h2⟩ := List.mem_flatten.mp ht
     exact (Q.cyc M h1).is t h2
    exact Nat.le_trans i3.len h1
   have e2 : addM p n (msF p n pre) s = msF p n pre ++ [zY p n s] := by unfold addM; rw [if_neg nin]
   have lr : rings.length ≤ n := by
    rw [i4, List.length_map]
    have := Q.len
    omega
   refine Xc kf (by omega) is ?_
   refine ⟨by rw [sizeLine_eq]; omega, ⟨.inr ?_, by rw [el, sizeLine_eq]; omega⟩, ?_⟩
   ·have en : ((xg ([] : List (Sd × Bool)) ((zY p n s).map fun side => (side, true))).map fun q => BX.zE ((nT2 (nT2 nI nI) nI) q.1)) = ((zY p n s).map (nT2 (nT2 nI nI) nI)).map BX.zE := by
     have t := congrArg (List.map fun t : Sd => BX.zE (nT2 (nT2 nI nI) nI t)) ek
     rw [List.map_map] at t
     rw [List.map_map]
     exact t
    rw [en]
    refine Vl (fun k hk => ?_) ?_
    ·obtain ⟨t, ht, rfl⟩ := List.mem_map.mp hk
     obtain ⟨b1, b2⟩ := qf7 hr (hp ▸ C.is t ht)
     exact ⟨t.1, t.2, rfl, b1, b2⟩
    ·refine List.Pairwise.map _ (fun a b q z => q ?_) C.nd
     exact Kn.inj (c := eSD) _ _ z
   ·refine Ug C (by omega) ?_
    refine Yj nec (by omega) ?_
    refine ⟨by rw [sizeLine_eq]; omega, ?_⟩
    refine hkk _ ⟨i1', i2', ?_, ?_⟩
    ·rw [e1, e2]
     have := i3.puts (S := fun _ => True) (n := 0) (l := xg ([] : List (Sd × Bool)) ((zY p n s).map fun side => (side, true)))
     refine this.congr (fun t => ?_) (by rw [el]; simp)
     rw [ek, List.flatten_append, List.mem_append]
     simp only [List.flatten_cons, List.flatten_nil, List.append_nil]
     exact Or.comm
    ·rw [e1, e2, List.map_append, ← i4]; rfl
  ·have z : s ∈ (msF p n pre).flatten := by
    refine (i3.has s).mp ?_
    revert b
    cases hasA met s <;> simp
   have e2 : addM p n (msF p n pre) s = msF p n pre := by unfold addM; rw [if_pos z]
   exact hkk _ ⟨i1', i2', by rw [e1, e2]; exact i3, by rw [e1, e2]; exact i4⟩
 ·obtain ⟨i1, i2, i3, i4⟩ := I
  refine ⟨fun R hR => ?_, by rw [i4]; exact hk⟩
  rw [i4] at hR
  obtain ⟨M, hM, rfl⟩ := List.mem_map.mp hR
  have P2 : Pre p (msF p n L) ([] ++ L) := P
  have := (vN (P2.cyc M hM)).2
  exact fun z => by rw [z] at this; simp at this
end
end K34
namespace K34
open PySem PySem.Spec PyProof.Rows L2 BX TX COM BC RG
section
variable {r : List Pt}
abbrev th (r : List Pt) : List (Pt × Bool) := xg [] (r.map fun cell => (cell, true))
theorem qf2 (hr : Rm r) : (th r).map (·.1) = r := by
 have := We (M := r) (m := []) (by simpa using hr.nd)
 simpa using this
theorem grow (b : Bool) {κ : Type} [DecidableEq κ] (t : κ) (g : List (κ × Bool)) : (if b then putA t true g else g).length ≤ g.length + 1 := by
 cases b with
 | false => exact Nat.le_succ _
 | true =>
   have e := vD (k := t) (v := true) (m := g)
   have := congrArg List.length e
   rw [List.length_map] at this
   split at this
   ·rw [List.length_map] at this; rw [if_pos rfl]; omega
   ·rw [List.length_append, List.length_map] at this
    simp at this; rw [if_pos rfl]; omega
theorem V1 (hr : Rm r) : ∃ f : List ((Pt × Pt) × Bool), Kh f (fun t => ∃ s, isS (pr r) s = true ∧ t = toL s) (4 * r.length) ∧ ∀ {kr : List ((Pt × Pt) × Bool) → Prop}, kr f → jf (th r) kr := by
 let stepF : List ((Pt × Pt) × Bool) → Pt → List ((Pt × Pt) × Bool) := fun f c =>
  let f1 := if !pr r (c.1, c.2 - 1) then putA ((c.1, c.2), (1, 0)) true f else f
  let f2 := if !pr r (c.1 + 1, c.2) then putA ((c.1 + 1, c.2), (0, 1)) true f1 else f1
  let f3 := if !pr r (c.1, c.2 + 1) then putA ((c.1 + 1, c.2 + 1), (-1, 0)) true f2 else f2
  if !pr r (c.1 - 1, c.2) then putA ((c.1, c.2 + 1), (0, -1)) true f3 else f3
 have stp_ok : ∀ {S : Pt × Pt → Prop} {n : Nat} {f : List ((Pt × Pt) × Bool)} {c : Pt}, c ∈ r → Kh f S n → Kh (stepF f c) (fun t => S t ∨ ∃ s, (isS (pr r) s = true ∧ qc s.1 s.2 = c) ∧ t = toL s) (n + 4) := fun {S n f c} hc h => by
  have h4 := (((h.put (!pr r (c.1, c.2 - 1)) ((c.1, c.2), (1, 0))).put (!pr r (c.1 + 1, c.2)) ((c.1 + 1, c.2), (0, 1))).put (!pr r (c.1, c.2 + 1)) ((c.1 + 1, c.2 + 1), (-1, 0))).put (!pr r (c.1 - 1, c.2)) ((c.1, c.2 + 1), (0, -1))
  refine h4.congr (fun t => ?_) (Nat.le_refl _)
  have q := fun s => Vp (p := pr r) (x := c.1) (y := c.2) (QK.mpr hc) s
  rw [show (c.1, c.2) = c from rfl] at q
  constructor
  ·rintro (z | z | z | z | z)
   ·exact .inr ⟨_, (q ((c.1, c.2 + 1), 3)).mpr (.inr (.inr (.inr ⟨z.1, rfl⟩))), z.2⟩
   ·exact .inr ⟨_, (q ((c.1 + 1, c.2 + 1), 2)).mpr (.inr (.inr (.inl ⟨z.1, rfl⟩))), z.2⟩
   ·exact .inr ⟨_, (q ((c.1 + 1, c.2), 1)).mpr (.inr (.inl ⟨z.1, rfl⟩)), z.2⟩
   ·exact .inr ⟨_, (q (c, 0)).mpr (.inl ⟨z.1, rfl⟩), z.2⟩
   ·exact .inl z
  ·rintro (z | ⟨s, z, e⟩)
   ·exact .inr (.inr (.inr (.inr z)))
   ·rcases (q s).mp z with w | w | w | w
    ·exact .inr (.inr (.inr (.inl ⟨w.1, by rw [e, w.2]; rfl⟩)))
    ·exact .inr (.inr (.inl ⟨w.1, by rw [e, w.2]; rfl⟩))
    ·exact .inr (.inl ⟨w.1, by rw [e, w.2]; rfl⟩)
    ·exact .inl ⟨w.1, by rw [e, w.2]; rfl⟩
 have all : ∀ (l pre : List Pt) {f : List ((Pt × Pt) × Bool)}, (∀ c ∈ l, c ∈ r) → Kh f (fun t => ∃ s, (isS (pr r) s = true ∧ qc s.1 s.2 ∈ pre) ∧ t = toL s) (4 * pre.length) → Kh (l.foldl stepF f) (fun t => ∃ s, (isS (pr r) s = true ∧ qc s.1 s.2 ∈ pre ++ l) ∧ t = toL s) (4 * (pre ++ l).length) := by
  intro l
  induction l with
  | nil => intro pre f _ h; simpa using h
  | cons c l ih =>
    intro pre f hl h
    have h2 := (stp_ok (hl c (List.mem_cons_self ..)) h).congr (T := fun t => ∃ s, (isS (pr r) s = true ∧ qc s.1 s.2 ∈ pre ++ [c]) ∧ t = toL s) (fun t => by
     constructor
     ·rintro (⟨s, z, e⟩ | ⟨s, z, e⟩)
      ·exact ⟨s, ⟨z.1, List.mem_append_left _ z.2⟩, e⟩
      ·exact ⟨s, ⟨z.1, List.mem_append_right _ (List.mem_singleton.mpr z.2)⟩, e⟩
     ·rintro ⟨s, ⟨a, z⟩, e⟩
      rcases List.mem_append.mp z with z | z
      ·exact .inl ⟨s, ⟨a, z⟩, e⟩
      ·exact .inr ⟨s, ⟨a, List.mem_singleton.mp z⟩, e⟩) (m := 4 * (pre ++ [c]).length) (by rw [List.length_append]; simp; omega)
    have := ih (pre ++ [c]) (fun d hd => hl d (List.mem_cons_of_mem _ hd)) h2
    rw [List.append_assoc] at this
    exact this
 have h0 : Kh ([] : List ((Pt × Pt) × Bool)) (fun t => ∃ s, (isS (pr r) s = true ∧ qc s.1 s.2 ∈ ([] : List Pt)) ∧ t = toL s) (4 * ([] : List Pt).length) := Kh.nil.congr (fun s => by simp) (Nat.zero_le _)
 refine ⟨r.foldl stepF [], ?_, fun {kr} hk => ?_⟩
 ·have := all r [] (fun c h => h) h0
  refine this.congr (fun t => ⟨fun ⟨s, z, e⟩ => ⟨s, z.1, e⟩, fun ⟨s, z, e⟩ => ⟨s, ⟨z, ?_⟩, e⟩⟩) (Nat.le_refl _)
  rw [yX (xK z).1 (xK z).2, Bool.and_eq_true] at z
  exact QK.mp z.1
 ·unfold jf
  rw [qf2 hr]
  simp only [lt]
  refine jX (fun pre f => (∀ c ∈ pre, c ∈ r) ∧ f = pre.foldl stepF [] ∧ pre.length ≤ r.length) ⟨(fun c h => by cases h), rfl, Nat.zero_le _⟩ (fun pre c post f kk e I hkk => ?_) fun f I => by rw [I.2.1]; exact hk
  obtain ⟨i1, i2, i3⟩ := I
  have hc : c ∈ r := by rw [e]; simp
  have K0 := all pre [] i1 h0
  rw [← i2] at K0
  have l0 := K0.len
  rw [List.nil_append] at l0
  have len := hr.len
  have hl : pre.length + 1 ≤ r.length := by rw [e]; simp
  have fits : ∀ {g : List ((Pt × Pt) × Bool)} {n : Nat}, n ≤ 3 → g.length ≤ f.length + n → g.length < sizeLine := fun {g n} h1 h2 => by rw [sizeLine_eq]; omega
  have hfin : kk (stepF f c) := hkk _ ⟨fun d hd => by
   rcases List.mem_append.mp hd with hd | hd
   ·exact i1 d hd
   ·rw [List.mem_singleton.mp hd]; exact hc, by rw [List.foldl_append, ← i2]; rfl, by rw [List.length_append]; simp; omega⟩
  refine Wy (fun _ => fits (n := 0) (by omega) (by omega)) ?_
  refine Wy (fun _ => fits (n := 1) (by omega) (grow _ _ _)) ?_
  refine Wy (fun _ => fits (n := 2) (by omega) (Nat.le_trans (grow _ _ _) (Nat.succ_le_succ (grow _ _ _)))) ?_
  refine Wy (fun _ => fits (n := 3) (by omega) (Nat.le_trans (grow _ _ _) (Nat.succ_le_succ (Nat.le_trans (grow _ _ _) (Nat.succ_le_succ (grow _ _ _)))))) ?_
  simp only [Zo]
  exact hfin
theorem j5 (i : Int) : absI i = (i.natAbs : Int) := by
 unfold absI
 split <;> omega
theorem qau : ∀ {B : List Pt} {a z : Pt}, (a :: B).zip (B ++ [z]) = legs a B z
 | [], a, z => rfl
 | b :: B, a, z => by
   rw [List.cons_append, List.zip_cons_cons, qau (B := B) (a := b) (z := z)]; rfl
theorem qdq {a b : Pt} (g : Good (a, b)) : decide ((decide (a.1 = b.1)) = (decide (a.2 = b.2))) = false := by
 obtain ⟨w, j, hw, hj, e⟩ := g
 have w4 : w = 0 ∨ w = 1 ∨ w = 2 ∨ w = 3 := by omega
 have e : b = pt a w j := e
 subst e
 obtain ⟨x, y⟩ := a
 rcases w4 with rfl | rfl | rfl | rfl
 ·have h1 : ¬ x = (pt (x, y) 0 j).1 := by show ¬ x = x + j * 1; omega
  have h2 : y = (pt (x, y) 0 j).2 := by show y = y + j * 0; omega
  simp only [h1, ← h2]; rfl
 ·have h1 : x = (pt (x, y) 1 j).1 := by show x = x + j * 0; omega
  have h2 : ¬ y = (pt (x, y) 1 j).2 := by show ¬ y = y + j * 1; omega
  simp only [← h1, h2]; rfl
 ·have h1 : ¬ x = (pt (x, y) 2 j).1 := by show ¬ x = x + j * (-1); omega
  have h2 : y = (pt (x, y) 2 j).2 := by show y = y + j * 0; omega
  simp only [h1, ← h2]; rfl
 ·have h1 : x = (pt (x, y) 3 j).1 := by show x = x + j * 0; omega
  have h2 : ¬ y = (pt (x, y) 3 j).2 := by show ¬ y = y + j * (-1); omega
  simp only [← h1, h2]; rfl
theorem qdr {a b : Pt} (g : Good (a, b)) : 1 ≤ absI (b.1 - a.1) + absI (b.2 - a.2) := by
 have h := qdq g
 rw [j5, j5]
 by_cases h1 : a.1 = b.1
 ·by_cases h2 : a.2 = b.2
  ·simp [h1, h2] at h
  ·omega
 ·omega
theorem qgM {a b : Pt} : ((leg (a, b)).length : Int) = absI (b.1 - a.1) + absI (b.2 - a.2) := by
 unfold leg
 dsimp only
 rw [List.length_map, List.length_range, j5, j5]
 omega
theorem qc7 {a b : Pt} : (rng 0 (absI (b.1 - a.1) + absI (b.2 - a.2))).map (fun k' => (((a.1 + (k' * ((b.1 - a.1) / (absI (b.1 - a.1) + absI (b.2 - a.2))))), (a.2 + (k' * ((b.2 - a.2) / (absI (b.1 - a.1) + absI (b.2 - a.2)))))), (((b.1 - a.1) / (absI (b.1 - a.1) + absI (b.2 - a.2))), ((b.2 - a.2) / (absI (b.1 - a.1) + absI (b.2 - a.2)))))) = leg (a, b) := by
 obtain ⟨m, hm⟩ : ∃ m : Nat, absI (b.1 - a.1) + absI (b.2 - a.2) = (m : Int) := ⟨((b.1 - a.1).natAbs + (b.2 - a.2).natAbs), by rw [j5, j5]; omega⟩
 unfold leg
 dsimp only
 rw [← j5, ← j5, hm, Xe, Int.toNat_natCast]
theorem UL {R : List Pt} {Ls : List (Pt × Pt)} (hz : R.zip (cutA R (some 1) none ++ cutA R none (some 1)) = Ls) (good : ∀ l ∈ Ls, Good l) (tot : (Ls.flatMap leg).length ≤ 100000) (hR : R.length ≤ 100000) {kr : Option (List (Pt × Pt)) → Prop} (hk : kr (some (Ls.flatMap leg))) : yu R kr := by
 unfold yu
 simp only [lt]
 refine ⟨by have := qak R 1; rw [sizeLine_eq]; omega, ?_⟩
 rw [hz]
 refine jX (fun pre f => f = pre.flatMap leg) rfl (fun pre l post f kk e I hkk => ?_) fun f I => by rw [I]; exact hk
 obtain ⟨a, b⟩ := l
 have g : Good (a, b) := good _ (by rw [e]; simp)
 have long1 := qdr g
 have ln := qgM (a := a) (b := b)
 have lt' : f.length + (leg (a, b)).length ≤ 100000 := by
  rw [e, List.flatMap_append, List.flatMap_cons, List.length_append, List.length_append] at tot
  rw [I]; omega
 dsimp only
 refine ⟨fun b1 => ?_, fun _ => ?_⟩
 ·rw [qdq g] at b1; cases b1
 ·refine ⟨by unfold CDiv; omega, by unfold CDiv; omega, ⟨by decide, by decide, by omega, by omega⟩, ?_, fun k' hk' => ?_, ?_, ?_⟩
  ·rw [ue, sizeLine_eq]; omega
  ·rw [VL] at hk'
   exact ⟨Qo (by omega) (by omega), Qo (by omega) (by omega), trivial⟩
  ·rw [qc7, sizeLine_eq]; omega
  ·rw [qc7]
   refine hkk _ ?_
   rw [List.flatMap_append, ← I]; simp
theorem qem {B : List Pt} {a : Pt} : (a :: B).zip (cutA (a :: B) (some 1) none ++ cutA (a :: B) none (some 1)) = legs a B a := by
 have e := qal (l := a :: B) (k := 1) (by simp)
 have e2 : cutA (a :: B) (some 1) none ++ cutA (a :: B) none (some 1) = B ++ [a] := e
 rw [e2, qau]
theorem WF {p : Pt → Bool} {R : List Pt} {M : List Sd} (h : Ring p R M) (hM : M.length ≤ 50000) {kr : Option (List (Pt × Pt)) → Prop} (hk : kr (some (M.map toL))) : yu R kr := by
 obtain ⟨s, M', e1, e2, e3, e4⟩ := h.hd
 have lc := Ue h.cyc
 refine UL (Ls := legs s.1 (RG.K s.2 M') s.1) (by rw [e2]; exact qem) e4 (by rw [e3, List.length_map]; omega) (by rw [h.crn]; omega) (by rw [e3]; exact hk)
end
end K34
namespace K34
open PySem PySem.Spec PyProof.Rows L2 BX TX COM BC RG
section
variable {r : List Pt}
theorem ok_text : ∀ k ∈ [Str.ofString "none", Str.ofString "outer", Str.ofString "", Str.ofString "inner", Str.ofString "within", Str.ofString "wall", Str.ofString "twice"], PyData.strOk k = true := by decide +kernel
theorem qcX : ∀ k ∈ [Str.ofString "none", Str.ofString "outer", Str.ofString "", Str.ofString "inner", Str.ofString "within", Str.ofString "wall"], k ≠ Str.ofString "twice" := by decide +kernel
theorem qdd {l : List Pt} (hl : l.length ≤ 4) {T : Bool} (h2 : ∀ a b, l = [a, b] → a.1 ≠ b.1 → a.2 ≠ b.2 → T = true) {kr : Str → Prop} (hk : ∀ k, PyData.strOk k = true → (k = Str.ofString "twice" → T = true) → kr k) :
 ifP (decide ((l.length : Int) = 2)) (exW (atI l 0) fun x2 =>
exW (atI l 1) fun x4 =>
ifW (!(decide (x2.1 = x4.1))) (fun kk6 => exW (atI l 0) fun x7 =>
exW (atI l 1) fun x9 =>
kk6 ((!(decide (x7.2 = x9.2))), ())) (fun kk6 => kk6 (false, ())) fun (b11 : Bool × Unit) =>
exW (atI [(Str.ofString "wall"), (Str.ofString "twice")] (intB b11.1)) fun x12 =>
kr x12) (exW (atI [(Str.ofString "none"), (Str.ofString "outer"), (Str.ofString ""), (Str.ofString "inner"), (Str.ofString "within")] (l.length : Int)) fun x14 =>
kr x14) := by
 have other : ∀ k ∈ [Str.ofString "none", Str.ofString "outer", Str.ofString "", Str.ofString "inner", Str.ofString "within", Str.ofString "wall"], kr k := fun k hm =>
  hk k (ok_text k (by
   rcases List.mem_cons.mp hm with h | h
   ·rw [h]; simp
   ·simp only [List.mem_cons, List.not_mem_nil, or_false] at h ⊢
    rcases h with h | h | h | h | h <;> simp [h])) fun z => absurd z (qcX k hm)
 match l, hl, h2 with
 | [], _, _ => exact ⟨fun b => by simp at b, fun _ => ⟨_, rfl, other _ (by simp)⟩⟩
 | [a], _, _ => exact ⟨fun b => by simp at b, fun _ => ⟨_, rfl, other _ (by simp)⟩⟩
 | [a, b], _, h2 =>
   refine ⟨fun _ => ⟨a, rfl, b, rfl, fun e1 => ⟨a, rfl, b, rfl, ?_⟩, fun _ => ⟨_, rfl, other _ (by simp)⟩⟩, fun z => by simp at z⟩
   cases e2 : decide (a.2 = b.2) with
   | true =>
     dsimp only
     rw [e2]
     exact ⟨Str.ofString "wall", rfl, other _ (by simp)⟩
   | false =>
     dsimp only
     rw [e2]
     exact ⟨Str.ofString "twice", rfl, hk _ (ok_text _ (by simp)) fun _ => h2 a b rfl (by simpa using e1) (of_decide_eq_false e2)⟩
 | [a, b, c], _, _ => exact ⟨fun b => by simp at b, fun _ => ⟨_, rfl, other _ (by simp)⟩⟩
 | [a, b, c, d], _, _ => exact ⟨fun b => by simp at b, fun _ => ⟨_, rfl, other _ (by simp)⟩⟩
theorem qbG {q : Pt} {kr : Str → Prop} (hk : ∀ k, PyData.strOk k = true → (k = Str.ofString "twice" → twice (pr r) q = true) → kr k) : jB (th r) q kr := by
 obtain ⟨x, y⟩ := q
 unfold jB
 simp only [lt, Zo]
 refine ⟨by rw [sizeLine_eq]; simp, ?_⟩
 refine qdd (T := twice (pr r) (x, y)) (Nat.le_trans (List.length_filter_le _ _) (by simp)) (fun a b e n1 n2 => ?_) hk
 have tw : twice (pr r) (x, y) = ((pr r (x, y) && pr r (x - 1, y - 1) && !pr r (x - 1, y) && !pr r (x, y - 1)) || (pr r (x - 1, y) && pr r (x, y - 1) && !pr r (x, y) && !pr r (x - 1, y - 1))) := rfl
 rw [tw]
 simp only [List.filter_cons, List.filter_nil] at e
 cases c2 : pr r (x - 1, y - 1) <;> cases c3 : pr r (x, y - 1) <;> cases c1 : pr r (x - 1, y) <;> cases c0 : pr r (x, y) <;> simp [c0, c1, c2, c3] at e ⊢
 all_goals (obtain ⟨ea, eb⟩ := e; rw [← ea, ← eb] at n1 n2; first | exact n1 rfl | exact n2 rfl)
theorem qeG {a : Pt} {l : List Pt} : memB a l = true ↔ a ∈ l := by unfold memB; simp
theorem Zf {α β : Type} {f : α → β} {l : List α} {a b : Option Int} : cutA (l.map f) a b = (cutA l a b).map f := by
 unfold cutA
 rw [List.length_map, ← List.map_drop, ← List.map_take]
theorem JW {f : List ((Pt × Pt) × Bool)} {n : Nat} (kf : Kh f (fun t => ∃ s, isS (pr r) s = true ∧ t = toL s) n) {R : List Pt} {M : List Sd} (h : Ring (pr r) R M) (hM : M.length ≤ 50000) {kr : Bool → Prop} (hk : kr true) : yh (th r) f R kr := by
 have C := h.cyc
 have four := jh C
 have lc := Ue C
 unfold yh
 refine WF h hM ?_
 refine ⟨fun z => (by cases z), fun _ => ⟨_, rfl, fun _ => ⟨(by rw [List.length_map, sizeLine_eq]; omega), trivial⟩, ?_⟩⟩
 have v : (decide ((R.length : Int) < 4) || (!(((M.map toL).map (fun side => (hasA f side))).all id))) = false := by
  rw [h.crn, Bool.or_eq_false_iff]
  refine ⟨decide_eq_false (by omega), ?_⟩
  rw [Bool.not_eq_false', List.all_eq_true]
  intro b hb
  obtain ⟨t, ht, rfl⟩ := List.mem_map.mp hb
  obtain ⟨s, hs, rfl⟩ := List.mem_map.mp ht
  exact (kf.has _).mpr ⟨s, C.is s hs, rfl⟩
 refine ⟨fun z => (by have z := z.symm.trans v; cases z), fun _ => ⟨_, rfl, ?_, ?_⟩⟩
 ·rw [Zf, Zf, XX C.ne, X3, List.length_map, List.length_map, List.length_dropLast, sizeLine_eq]; simp; omega
 ·rw [Zf, Zf, XX C.ne, X3, ← List.map_append]
  have e : [M.getLast C.ne] ++ M.dropLast = M.getLast C.ne :: M.dropLast := rfl
  rw [e, List.zip_map, qcz C, List.map_map]
  refine QV (fun _ => True) trivial (fun a ha s kk _ hkk => ?_) fun _ _ => hk
  obtain ⟨t, ht, rfl⟩ := List.mem_map.mp ha
  have is := C.is t ht
  have w := xK is
  obtain ⟨_, b1, b2⟩ := qhm is
  dsimp only [Function.comp, Prod.map, toL, RG.pv]
  have z1 : memB t.1 R = turn (pr r) t := by
   rw [h.crn]
   rw [Bool.eq_iff_iff]
   exact qeG.trans (qiT C ht)
  have z2 : (!(decide (stp t.2 = stp (aw (pr r) t)))) = turn (pr r) t := by
   unfold turn
   congr 1
   exact decide_eq_decide.mpr ((Vh w b1).trans ⟨Eq.symm, Eq.symm⟩)
  have v2 : ((!(decide ((memB t.1 R) = (!(decide (stp t.2 = stp (aw (pr r) t))))))) || (decide (stp t.2 = ((0 - (stp (aw (pr r) t)).1), (0 - (stp (aw (pr r) t)).2))))) = false := by
   rw [z1, z2, Bool.or_eq_false_iff]
   refine ⟨by simp, decide_eq_false ?_⟩
   rw [qec b1]
   exact qey is
  refine ⟨fun z => ?_, fun _ => ?_⟩
  ·have z := z.symm.trans v2; cases z
  ·refine qbG fun k ok tw => ⟨⟨ok, ok_text _ (by simp)⟩, ?_⟩
   refine ⟨fun e => ⟨fun z => ?_, fun _ => hkk () trivial⟩, fun _ => ⟨fun z => (by cases z), fun _ => hkk () trivial⟩⟩
   have e2 := qbw is (tw (of_decide_eq_true e))
   have z3 : (!(decide (stp t.2 = ((0 - (stp (aw (pr r) t)).2), (stp (aw (pr r) t)).1)))) = false := by
    rw [qeb b1, ← e2]; simp
   have z := z.symm.trans z3; cases z
end
end K34
namespace K34
open PySem PySem.Spec PyProof.Rows L2 BX TX COM BC
def qhp (r : List (Int × Int)) : Prop := r.Pairwise ltC ∧ r.length ≤ 144 ∧ ∀ c ∈ r, (0 ≤ c.1 ∧ c.1 ≤ 40) ∧ 0 ≤ c.2 ∧ c.2 ≤ 40
theorem qhp.rm {r : List (Int × Int)} (h : qhp r) : Rm r := ⟨Zu h.1, Nat.le_trans h.2.1 (by decide), h.2.2⟩
theorem qek {t : Int × Int} {g : Bool} {kr : List (Int × Int) × (Int × Int) → Prop} (ht : TpOk t) (hk : ∀ r s, qhp r → TpOk s → kr (r, s)) : jA t g kr := by
 unfold jA
 refine yN ht (by decide) (by decide) fun a t1 ha0 ha1 ht => yN ht (by decide) (by decide) fun b t2 hb0 hb1 ht => ?_
 simp only [lt]
 have rest : ∀ (t : Int × Int) (w h : Int), TpOk t → 1 ≤ w → w ≤ 12 → 1 ≤ h → h ≤ 12 → (fun (s3 : ((Int × Int) × Int × Int)) => xM s3.1 s3.2.1 s3.2.2 fun t6 =>
  ifW (decide (t6.1 = ([] : List (Int × Int)))) (fun kk => qH t6.2 4 fun t7 => kk ((decide (0 < t7.1)), t7.2)) (fun kk => kk (false, t6.2)) fun (b8 : Bool × (Int × Int)) =>
  ifW b8.1 (fun kk => wV 0 0 s3.2.1 s3.2.2 fun t9 => kk t9) (fun kk => kk t6.1) fun (cells : (List (Int × Int))) =>
  qH b8.2 4 fun t10 =>
  ifW (decide (t10.1 = 0)) (fun kk => qH t10.2 20 fun t12 => qH t12.2 20 fun t13 => qH t13.2 2 fun t14 => exW (atI [[t12.1, t13.1], [(41 - s3.2.1), (41 - s3.2.2)]] t14.1) fun x15 => kk (t14.2, x15)) (fun kk => kk (t10.2, [0, 0])) fun (s11 : ((Int × Int) × (List Int))) =>
  (cells.length ≤ sizeLine) ∧ lcW cells ([] : List (Int × Int)) () (fun a17 (s : Unit) w => exW (atI s11.2 0) fun x19 => exW (atI s11.2 1) fun x21 => w (some ((a17.1 + x19), (a17.2 + x21))) ()) fun l23 s24 => kr ((srt tl2 l23), s11.1)) (t, w, h) := by
  intro t w h ht hw0 hw1 hh0 hh1
  refine qf8 ht hw0 hw1 hh0 hh1 fun m s hm hs => ?_
  have gl := qaa (x := 0) (y := 0) (w := w) (h := h) (by omega) (by omega) (by omega) (by omega)
  have fin : ∀ (m : List (Int × Int)) (s : Int × Int), m.Sublist (yH 0 0 w h) → TpOk s → qH s 4 fun t10 =>
   ifW (decide (t10.1 = 0)) (fun kk => qH t10.2 20 fun t12 => qH t12.2 20 fun t13 => qH t13.2 2 fun t14 => exW (atI [[t12.1, t13.1], [(41 - w), (41 - h)]] t14.1) fun x15 => kk (t14.2, x15)) (fun kk => kk (t10.2, [0, 0])) fun (s11 : ((Int × Int) × (List Int))) =>
   (m.length ≤ sizeLine) ∧ lcW m ([] : List (Int × Int)) () (fun a17 (s : Unit) w => exW (atI s11.2 0) fun x19 => exW (atI s11.2 1) fun x21 => w (some ((a17.1 + x19), (a17.2 + x21))) ()) fun l23 s24 => kr ((srt tl2 l23), s11.1) := by
   intro m s hm hs
   refine yN hs (by decide) (by decide) fun z s1 _ _ hs => ?_
   have last : ∀ (s2 : Int × Int) (u v : Int), TpOk s2 → 0 ≤ u → u + w ≤ 41 → 0 ≤ v → v + h ≤ 41 → (fun (s11 : ((Int × Int) × (List Int))) =>
    (m.length ≤ sizeLine) ∧ lcW m ([] : List (Int × Int)) () (fun a17 (s : Unit) w => exW (atI s11.2 0) fun x19 => exW (atI s11.2 1) fun x21 => w (some ((a17.1 + x19), (a17.2 + x21))) ()) fun l23 s24 => kr ((srt tl2 l23), s11.1)) (s2, [u, v]) := by
    intro s2 u v hs hu0 hu1 hv0 hv1
    have hml : m.length ≤ 144 := Nat.le_trans hm.length_le gl
    refine ⟨by rw [sz]; omega, qda (fun c => (c.1 + u, c.2 + v)) (fun c hc w' hw => ⟨u, rfl, v, rfl, hw⟩) (hk _ _ ⟨qhZ _ ?_, ?_, ?_⟩ hs)⟩
    ·refine (List.pairwise_map).mpr (((Zu (JT 0 0 w h)).sublist hm).imp fun {a b} hab e => hab ?_)
     simp only [Prod.mk.injEq] at e
     exact Prod.ext (by omega) (by omega)
    ·rw [(Xb _).length_eq, List.length_map]; exact hml
    ·intro c hc
     rw [qf5, List.mem_map] at hc
     obtain ⟨d, hd, rfl⟩ := hc
     have := QR.mp (hm.mem hd)
     simp only; omega
   refine ⟨fun _ => ?_, fun _ => last _ 0 0 hs (by omega) (by omega) (by omega) (by omega)⟩
   refine yN hs (by decide) (by decide) fun u s2 hu0 hu1 hs => yN hs (by decide) (by decide) fun v s3 hv0 hv1 hs => yN hs (by decide) (by decide) fun z s4 hz0 hz1 hs => ?_
   have hz : z = 0 ∨ z = 1 := by omega
   rcases hz with rfl | rfl
   ·exact ⟨_, rfl, last _ u v hs (by omega) (by omega) (by omega) (by omega)⟩
   ·exact ⟨_, rfl, last _ _ _ hs (by omega) (by omega) (by omega) (by omega)⟩
  have mid : ∀ (b : Bool) (s : Int × Int), TpOk s → (fun (b8 : Bool × (Int × Int)) =>
   ifW b8.1 (fun kk => wV 0 0 w h fun t9 => kk t9) (fun kk => kk m) fun (cells : (List (Int × Int))) =>
   qH b8.2 4 fun t10 =>
   ifW (decide (t10.1 = 0)) (fun kk => qH t10.2 20 fun t12 => qH t12.2 20 fun t13 => qH t13.2 2 fun t14 => exW (atI [[t12.1, t13.1], [(41 - w), (41 - h)]] t14.1) fun x15 => kk (t14.2, x15)) (fun kk => kk (t10.2, [0, 0])) fun (s11 : ((Int × Int) × (List Int))) =>
   (cells.length ≤ sizeLine) ∧ lcW cells ([] : List (Int × Int)) () (fun a17 (s : Unit) w => exW (atI s11.2 0) fun x19 => exW (atI s11.2 1) fun x21 => w (some ((a17.1 + x19), (a17.2 + x21))) ()) fun l23 s24 => kr ((srt tl2 l23), s11.1)) (b, s) := by
   intro b s hs
   exact ⟨fun _ => Wq (by omega) (by omega) (by omega) (by omega) (fin _ _ (List.Sublist.refl _) hs), fun _ => fin _ _ hm hs⟩
  exact ⟨fun _ => yN hs (by decide) (by decide) fun z s1 _ _ hs => mid _ _ hs, fun _ => mid _ _ hs⟩
 refine ⟨fun _ => yN ht (by decide) (by decide) fun c t3 hc0 hc1 ht => yN ht (by decide) (by decide) fun d t4 hd0 hd1 ht => rest _ _ _ ht (by omega) (by omega) (by omega) (by omega), fun _ => rest _ _ _ ht (by omega) (by omega) (by omega) (by omega)⟩
end K34
namespace K34
open PySem PySem.Spec PyProof.Rows L2 BX TX COM BC RG
section
variable {r : List Pt} {p : Pt → Bool}
def u9 : List Pt → List (Pt × Pt)
 | [] => []
 | a :: B => (legs a B a).flatMap leg
theorem ZG {R : List Pt} {N : List Sd} (h : Ring p R N) : u9 R = N.map toL := by
 obtain ⟨s, M', e1, e2, e3, _⟩ := h.hd
 rw [e2, ← e3]; rfl
theorem qfh {M : List Sd} (h : Cyc p M) : ∃ N, Ring p (qU M) N ∧ N.Perm M := by
 have four := jh h
 obtain ⟨⟨k, hk, e⟩, _⟩ := vI (l := crn M) (fun z => by rw [z] at four; simp at four)
 have e2 : qU M = rot k (crn M) := e
 rw [e2]
 exact qgd h hk
theorem Zh {M : List Sd} (h : Cyc p M) : (u9 (qU M)).Perm (M.map toL) := by
 obtain ⟨N, h1, h2⟩ := qfh h
 rw [ZG h1]
 exact h2.map _
theorem Yr : ∀ {Ms : List (List Sd)}, (∀ M ∈ Ms, Cyc p M) → ((Ms.map qU).flatMap u9).Perm (Ms.flatten.map toL)
 | [], _ => .refl _
 | M :: Ms, h => by
   rw [List.map_cons, List.flatMap_cons, List.flatten_cons, List.map_append]
   exact (Zh (h M (List.mem_cons_self ..))).append (Yr fun M hM => h M (List.mem_cons_of_mem _ hM))
theorem QW : ∀ {Ms : List (List Sd)}, (∀ M ∈ Ms, Cyc p M) → Ms.length ≤ Ms.flatten.length
 | [], _ => Nat.le_refl _
 | M :: Ms, h => by
   have h1 := QW fun M hM => h M (List.mem_cons_of_mem _ hM)
   have h2 : 0 < M.length := List.length_pos_iff.mpr (h M (List.mem_cons_self ..)).ne
   rw [List.flatten_cons, List.length_append, List.length_cons]
   omega
theorem VB {Ms : List (List Sd)} (h : Prt p Ms) {M : List Sd} (hM : M ∈ Ms) : M.length ≤ Ms.flatten.length := qbF (h.cyc M hM).nd fun a ha => List.mem_flatten.mpr ⟨M, hM, ha⟩
theorem qd7 {Ms : List (List Sd)} (h : Prt p Ms) : (Ms.flatten.map toL).Nodup := by
 rw [List.Nodup, List.pairwise_map]
 exact h.nd.imp_of_mem fun {a b} ha hb ne e => ne (qci (h.is ha) (h.is hb) e)
theorem jD (l : List (List Pt)) : (srtV l).Perm l := List.mergeSort_perm _ _
theorem Ze {Ms : List (List Sd)} {R : List Pt} (h : R ∈ srtV (Ms.map qU)) : ∃ M ∈ Ms, R = qU M := by
 obtain ⟨M, hM, e⟩ := List.mem_map.mp ((jD _).mem_iff.mp h)
 exact ⟨M, hM, e.symm⟩
theorem Yq (hr : Rm r) {Ms : List (List Sd)} (P : Prt (pr r) Ms) (hl : Ms.flatten.length ≤ 4 * r.length) (few : r.length ≤ 1000) {kr : Bool → Prop} (hk : kr true) : zK r (srtV (Ms.map qU)) kr := by
 obtain ⟨f, kf, hf⟩ := V1 hr
 have ln : (srtV (Ms.map qU)).length ≤ 4000 := by
  rw [(jD _).length_eq, List.length_map]
  have := QW P.cyc
  omega
 have ring : ∀ R ∈ srtV (Ms.map qU), ∃ N, Ring (pr r) R N ∧ N.length ≤ 4000 := fun R hR => by
  obtain ⟨M, hM, rfl⟩ := Ze hR
  obtain ⟨N, h1, h2⟩ := qfh (P.cyc M hM)
  refine ⟨N, h1, ?_⟩
  rw [h2.length_eq]
  have := VB P hM
  omega
 have pm : ((srtV (Ms.map qU)).flatMap u9).Perm (Ms.flatten.map toL) := ((jD _).flatMap_right u9).trans (Yr P.cyc)
 have nd := qd7 P
 have lw' : ((srtV (Ms.map qU)).flatMap u9).length = Ms.flatten.length := by rw [pm.length_eq, List.length_map]
 have lf : f.length = Ms.flatten.length := by
  have : (f.map (·.1)).Perm (Ms.flatten.map toL) := (List.perm_ext_iff_of_nodup kf.nd nd).mpr fun t => by
   rw [kf.mem, List.mem_map]
   constructor
   ·rintro ⟨s, h1, h2⟩; exact ⟨s, P.all s h1, h2.symm⟩
   ·rintro ⟨s, h1, h2⟩; exact ⟨s, P.is h1, h2.symm⟩
  have := this.length_eq
  rw [List.length_map, List.length_map] at this
  exact this
 unfold zK
 simp only [lt]
 refine ⟨by rw [sizeLine_eq]; omega, hf ⟨by rw [sizeLine_eq]; omega, ?_⟩⟩
 refine qda (fun _ => true) (fun R hR w hw => ?_) ?_
 ·obtain ⟨N, h1, h2⟩ := ring R hR
  exact JW kf h1 (by omega) hw
 ·have v : (!(((srtV (Ms.map qU)).map fun _ => true).all id)) = false := by simp
  refine ⟨fun z => (by have z := z.symm.trans v; cases z), fun _ => ?_⟩
  refine jX (fun pre walked => walked = pre.flatMap u9) rfl (fun pre R post walked kk e I hkk => ?_) fun walked I => ?_
  ·obtain ⟨N, h1, h2⟩ := ring R (by rw [e]; simp)
   refine WF h1 (by omega) ⟨_, rfl, ?_, hkk _ ?_⟩
   ·rw [e, List.flatMap_append, List.flatMap_cons, List.length_append, List.length_append, ← I, ZG h1] at lw'
    rw [sizeLine_eq]; omega
   ·rw [List.flatMap_append, ← I, ← ZG h1]; simp
  ·rw [I]
   refine ⟨fun _ => ⟨by rw [lw']; omega, trivial⟩, ?_⟩
   have e1 : (decide ((((srtV (Ms.map qU)).flatMap u9).length : Int) = (f.length : Int))) = true := decide_eq_true (by rw [lw', lf])
   have e2 : (decide (((BX.dd ((srtV (Ms.map qU)).flatMap u9)).length : Int) = (((srtV (Ms.map qU)).flatMap u9).length : Int))) = true := decide_eq_true (by rw [qbJ.mpr (pm.nodup_iff.mpr nd)])
   rw [e1, e2]
   exact hk
theorem W9 {Ms : List (List Sd)} (h : Prt p Ms) : (Ms.map qU).Nodup := by
 have nd : Ms.flatten.Pairwise (· ≠ ·) := h.nd
 rw [List.pairwise_flatten] at nd
 rw [List.Nodup, List.pairwise_map]
 refine nd.2.imp_of_mem fun {M N} hM hN dj e => ?_
 have c := h.cyc M hM
 obtain ⟨s, hs⟩ : ∃ s, s ∈ M := by
  cases M with
  | nil => exact absurd rfl c.ne
  | cons a M => exact ⟨a, List.mem_cons_self ..⟩
 have h1 : toL s ∈ u9 (qU N) := by rw [← e]; exact (Zh c).mem_iff.mpr (List.mem_map_of_mem hs)
 obtain ⟨t, ht, et⟩ := List.mem_map.mp ((Zh (h.cyc N hN)).mem_iff.mp h1)
 have := qci ((h.cyc N hN).is t ht) (c.is s hs) et
 rw [this] at ht
 exact dj s hs s ht rfl
theorem Zv {l : List (List Pt)} (nd : l.Nodup) : (srtV l).Pairwise fun a b => ltV a b = true := by
 have h1 : (srtV l).Pairwise fun a b => (!ltV b a) = true := List.pairwise_mergeSort (fun a b c h k => by
  rw [Bool.not_eq_true'] at *
  cases q : ltV c a with
  | false => rfl
  | true =>
    rcases qc4 b q with z | z
    ·rw [k] at z; cases z
    ·rw [h] at z; cases z) (fun a b => by
  rw [Bool.or_eq_true, Bool.not_eq_true', Bool.not_eq_true']
  cases q : ltV b a with
  | false => exact .inl rfl
  | true =>
    right
    cases q2 : ltV a b with
    | false => rfl
    | true =>
      have := ZS q q2
      rw [Wl] at this; cases this) l
 have h2 : (srtV l).Nodup := (jD l).nodup_iff.mpr nd
 refine (h1.and h2).imp fun {a b} h => ?_
 have h3 := h.1
 rw [Bool.not_eq_true'] at h3
 cases q : ltV a b with
 | true => rfl
 | false => exact absurd (VM q h3) h.2
theorem qat {α : Type} {R : α → α → Prop} : ∀ {l : List α}, l.Pairwise R → ∀ q ∈ l.zip (l.drop 1), R q.1 q.2
 | [], _, q, hq => by cases hq
 | [a], _, q, hq => by cases hq
 | a :: b :: l, h, q, hq => by
   have hq : q ∈ (a, b) :: (b :: l).zip ((b :: l).drop 1) := hq
   rcases List.mem_cons.mp hq with rfl | hq
   ·exact (List.pairwise_cons.mp h).1 b (List.mem_cons_self ..)
   ·exact qat (List.pairwise_cons.mp h).2 q hq
theorem qeX {α : Type} (l : List α) : cutA l (some 1) none = l.drop 1 := by
 unfold cutA
 have e : HT.sIx l.length 0 (some 1) = min 1 l.length := HT.sIx_nat l.length 0 1
 rw [e, HT.sIx_none]
 cases l with
 | nil => rfl
 | cons a l =>
   have : min 1 (a :: l).length = 1 := by simp
   rw [this, List.take_of_length_le (by simp)]
theorem qcu {x y : D} {kr : Bool → Prop} (e : x = y) (h : jQ 4 y) (hk : kr true) : xY x y kr := ⟨e, by first | exact h | (rw [e]; exact h), hk⟩
theorem qeT {Ms : List (List Sd)} (P : Prt p Ms) (hl : Ms.flatten.length ≤ 10000) {kr : Bool → Prop} (hk : kr true) : xO (srtV (Ms.map qU)) kr := by
 have ln : (srtV (Ms.map qU)).length ≤ 10000 := by
  rw [(jD _).length_eq, List.length_map]
  exact Nat.le_trans (QW P.cyc) hl
 unfold xO
 have i1 : isiB "list" ((eL (eV (eT2 D.int D.int))) (srtV (Ms.map qU))) = true := by
  simp [isiB, eL, D.ty]
 refine ⟨fun _ => ⟨by rw [sizeLine_eq]; omega, trivial⟩, ?_⟩
 have v : ((!(isiB "list" ((eL (eV (eT2 D.int D.int))) (srtV (Ms.map qU))))) || (!(((srtV (Ms.map qU)).map (fun ring => ((isiB "tuple" ((eV (eT2 D.int D.int)) ring)) && (decide (3 < (ring.length : Int)))))).all id))) = false := by
  rw [i1, Bool.or_eq_false_iff]
  refine ⟨rfl, ?_⟩
  rw [Bool.not_eq_false', List.all_eq_true]
  intro b hb
  obtain ⟨R, hR, rfl⟩ := List.mem_map.mp hb
  obtain ⟨M, hM, rfl⟩ := Ze hR
  have i2 : isiB "tuple" ((eV (eT2 D.int D.int)) (qU M)) = true := by
   simp [isiB, eV, D.ty]
  have := (vN (P.cyc M hM)).2
  show (isiB "tuple" ((eV (eT2 D.int D.int)) (qU M)) && decide (3 < ((qU M).length : Int))) = true
  rw [i2, decide_eq_true (by omega)]; rfl
 refine ⟨fun z => (by have z := z.symm.trans v; cases z), fun _ => ?_⟩
 refine QV (fun _ => True) trivial (fun R hR _ kk _ hkk => ?_) fun _ _ => ?_
 ·obtain ⟨M, hM, rfl⟩ := Ze hR
  have c := P.cyc M hM
  obtain ⟨l1, l2⟩ := vN c
  have lc := Ue c
  have lM := VB P hM
  refine QV (fun _ => True) trivial (fun pt' hpt _ kk2 _ hkk2 => ?_) fun _ _ => ?_
  ·refine qcu rfl (qh0 qaA qaA) ?_
   exact qdj rfl (hkk2 _ trivial)
  ·refine ⟨Yv (by omega) (by omega) (by omega) (by omega), ?_, fun k' _ => ⟨?_, trivial⟩, ?_⟩
   ·rw [ue, sizeLine_eq]; omega
   ·have := qak (qU M) k'
    rw [sizeLine_eq]; omega
   ·refine qdj ?_ (hkk _ trivial)
    rw [Xe, List.any_eq_false]
    intro b hb
    obtain ⟨j, hj, rfl⟩ := List.mem_map.mp hb
    have hj := List.mem_range.mp hj
    show ¬ ltV (cutA (qU M) (some (j : Int)) none ++ cutA (qU M) none (some (j : Int))) (qU M) = true
    rw [qal (Nat.le_of_lt hj)]
    have nec : crn M ≠ [] := fun z => by rw [z] at l1; simp at l1; rw [l1] at l2; simp at l2
    obtain ⟨⟨k, hk', e⟩, least⟩ := vI (l := crn M) nec
    obtain ⟨i, hi, ei⟩ := Vo (l := crn M) (j := j) (k := k) hk' (by omega)
    have e3 : qU M = rot k (crn M) := e
    have e4 : rot j (qU M) = rot i (crn M) := by rw [e3]; exact ei
    have := least i hi
    have e5 : ltV (rot j (qU M)) (qU M) = false := by rw [e4]; exact this
    rw [e5]; exact Bool.false_ne_true
 ·rw [qeX]
  refine ⟨?_, ?_⟩
  ·rw [List.length_zip, sizeLine_eq]; omega
  ·have st := qat (Zv (W9 P))
   have : (((srtV (Ms.map qU)).zip ((srtV (Ms.map qU)).drop 1)).map (fun a15 => (ltV a15.1 a15.2))).all id = true := by
    rw [List.all_eq_true]
    intro b hb
    obtain ⟨q, hq, rfl⟩ := List.mem_map.mp hb
    exact st q hq
   rw [this]
   exact hk
end
end K34
namespace K34
open PySem PySem.Spec PyProof.Rows L2 BX TX COM BC RG
section
variable {r : List Pt} {p : Pt → Bool}
theorem qff : ∀ {A B : List Sd} {s z w : Sd}, Seg p A s z → Seg p B s w → A.length = B.length → A = B
 | [], [], _, _, _, _, _, _ => rfl
 | [], b :: B, _, _, _, _, _, h => by simp at h
 | a :: A, [], _, _, _, _, _, h => by simp at h
 | a :: A, b :: B, s, z, w, ⟨e1, h1⟩, ⟨e2, h2⟩, h => by
   subst e1
   have e2 : b = a := e2
   subst e2
   rw [qff h1 h2 (by simpa using h)]
theorem qeK {l : List Pt} {A B : List Pt} (e : l = A ++ B) (ne : l ≠ []) : WD (B ++ A) = WD l := by
 subst e
 have ne2 : B ++ A ≠ [] := fun z => ne (by
  obtain ⟨h1, h2⟩ := List.append_eq_nil_iff.mp z
  rw [h1, h2]; rfl)
 have ll : (B ++ A).length = (A ++ B).length := by rw [List.length_append, List.length_append]; omega
 have hp : 0 < (A ++ B).length := List.length_pos_iff.mpr ne
 have turn1 : ∀ j, j < (A ++ B).length → ∃ i, i < (A ++ B).length ∧ rot j (B ++ A) = rot i (A ++ B) := fun j hj => by
  by_cases z : A.length < (A ++ B).length
  ·obtain ⟨i, hi, e⟩ := Vo (l := A ++ B) (j := j) (k := A.length) z hj
   rw [Qe] at e
   exact ⟨i, hi, e⟩
  ·have hb : B = [] := by
    rw [List.length_append] at z
    exact List.length_eq_zero_iff.mp (by omega)
   subst hb
   exact ⟨j, hj, by simp⟩
 have turn2 : ∀ j, j < (A ++ B).length → ∃ i, i < (A ++ B).length ∧ rot j (A ++ B) = rot i (B ++ A) := fun j hj => by
  by_cases z : B.length < (B ++ A).length
  ·obtain ⟨i, hi, e⟩ := Vo (l := B ++ A) (j := j) (k := B.length) z (by rw [ll]; exact hj)
   rw [Qe] at e
   exact ⟨i, by rw [← ll]; exact hi, e⟩
  ·have hb : A = [] := by
    rw [List.length_append] at z
    exact List.length_eq_zero_iff.mp (by omega)
   subst hb
   exact ⟨j, hj, by simp⟩
 obtain ⟨⟨k1, h1, e1⟩, m1⟩ := vI ne
 obtain ⟨⟨k2, h2, e2⟩, m2⟩ := vI ne2
 rw [ll] at h2 m2
 obtain ⟨i1, g1, f1⟩ := turn2 k1 h1
 obtain ⟨i2, g2, f2⟩ := turn1 k2 h2
 refine VM ?_ ?_
 ·rw [e2, f2]; exact m1 i2 g2
 ·rw [e1, f1]; exact m2 i1 g1
theorem qaD {A B : List Sd} (h : Cyc p (A ++ B)) : qU (B ++ A) = qU (A ++ B) := by
 have four := jh h
 unfold qU
 have e1 : crn (A ++ B) = (A.filter (turn p)).map (·.1) ++ (B.filter (turn p)).map (·.1) := by
  rw [vP h, List.filter_append, List.map_append]
 have e2 : crn (B ++ A) = (B.filter (turn p)).map (·.1) ++ (A.filter (turn p)).map (·.1) := by
  rw [vP h.rot, List.filter_append, List.map_append]
 rw [e2]
 exact qeK e1 (fun z => by rw [z] at four; simp at four)
theorem qcy {M N : List Sd} (h : Cyc p M) (k : Cyc p N) {s : Sd} (hs : s ∈ M) (ks : s ∈ N) : qU M = qU N := by
 have sub : ∀ {M N : List Sd}, Cyc p M → Cyc p N → s ∈ M → s ∈ N → ∀ t ∈ M, t ∈ N := fun {M N} h k hs ks t ht => by
  refine Classical.byContradiction fun nt => ?_
  exact apart h k ht nt s hs ks
 obtain ⟨A, B, e, c1, g1⟩ := h.at hs
 obtain ⟨A', B', e', c2, g2⟩ := k.at ks
 have p1 : (s :: B ++ A).Perm M := by rw [e]; exact List.perm_append_comm
 have p2 : (s :: B' ++ A').Perm N := by rw [e']; exact List.perm_append_comm
 have pm : M.Perm N := (List.perm_ext_iff_of_nodup h.nd k.nd).mpr fun t => ⟨sub h k hs ks t, sub k h ks hs t⟩
 have eq := qff g1 g2 ((p1.trans pm).trans p2.symm).length_eq
 have r1 : qU (s :: B ++ A) = qU M := by
  have h2 := h
  rw [e] at h2 ⊢
  exact qaD h2
 have r2 : qU (s :: B' ++ A') = qU N := by
  have h2 := k
  rw [e'] at h2 ⊢
  exact qaD h2
 rw [← r1, ← r2, eq]
theorem qbB {Ms Ns : List (List Sd)} (P : Prt p Ms) (Q : Prt p Ns) : (Ms.map qU).Perm (Ns.map qU) := by
 have sub : ∀ {Ms Ns : List (List Sd)}, Prt p Ms → Prt p Ns → ∀ R ∈ Ms.map qU, R ∈ Ns.map qU := fun {Ms Ns} P Q R hR => by
  obtain ⟨M, hM, rfl⟩ := List.mem_map.mp hR
  have c := P.cyc M hM
  obtain ⟨s, hs⟩ : ∃ s, s ∈ M := by
   cases M with
   | nil => exact absurd rfl c.ne
   | cons a M => exact ⟨a, List.mem_cons_self ..⟩
  obtain ⟨N, hN, ks⟩ := List.mem_flatten.mp (Q.all s (c.is s hs))
  exact List.mem_map.mpr ⟨N, hN, (qcy c (Q.cyc N hN) hs ks).symm⟩
 exact (List.perm_ext_iff_of_nodup (W9 P) (W9 Q)).mpr fun R => ⟨sub P Q R, sub Q P R⟩
theorem Jo : ∀ {l m : List (List Pt)}, l.Pairwise (fun a b => ltV a b = true) → m.Pairwise (fun a b => ltV a b = true) → l.Perm m → l = m
 | [], m, _, _, h => h.symm.eq_nil.symm
 | a :: l, [], _, _, h => absurd h.eq_nil (by simp)
 | a :: l, b :: m, h1, h2, h => by
   obtain ⟨a1, a2⟩ := List.pairwise_cons.mp h1
   obtain ⟨b1, b2⟩ := List.pairwise_cons.mp h2
   have e : a = b := by
    rcases List.mem_cons.mp (h.mem_iff.mp (List.mem_cons_self ..)) with z | z
    ·exact z
    ·rcases List.mem_cons.mp (h.mem_iff.mpr (List.mem_cons_self ..)) with w | w
     ·exact w.symm
     ·have := ZS (a1 b w) (b1 a z)
      rw [Wl] at this; cases this
   subst e
   rw [Jo a2 b2 (List.Perm.cons_inv h)]
theorem qel {Ms Ns : List (List Sd)} (P : Prt p Ms) (Q : Prt p Ns) {Ks : List (List Pt)} (h : Ns.map qU = Ks) (st : Ks.Pairwise fun a b => ltV a b = true) : srtV (Ms.map qU) = Ks := by
 refine Jo (Zv (W9 P)) st ((jD _).trans ?_)
 rw [← h]
 exact qbB P Q
end
end K34
namespace K34
open PySem PySem.Spec PyProof.Rows L2 BX TX COM BC RG
section
variable {r : List Pt} {p : Pt → Bool}
def E4 (c : Pt) : List Sd := [((c.1, c.2), 0), ((c.1 + 1, c.2), 1), ((c.1 + 1, c.2 + 1), 2), ((c.1, c.2 + 1), 3)]
def qcq (p : Pt → Bool) (r : List Pt) : List Sd := r.flatMap fun c => (E4 c).filter (isS p)
theorem qdh {s : Sd} (h : isS (pr r) s = true) : s ∈ qcq (pr r) r := by
 have h1 := h
 rw [yX (xK h).1 (xK h).2, Bool.and_eq_true] at h1
 have hc := QK.mp h1.1
 refine List.mem_flatMap.mpr ⟨qc s.1 s.2, hc, List.mem_filter.mpr ⟨?_, h⟩⟩
 have q := (Vp (p := pr r) (x := (qc s.1 s.2).1) (y := (qc s.1 s.2).2) h1.1 s).mp ⟨h, rfl⟩
 unfold E4
 rcases q with ⟨_, e⟩ | ⟨_, e⟩ | ⟨_, e⟩ | ⟨_, e⟩
 ·exact List.mem_cons.mpr (.inl e)
 ·exact List.mem_cons.mpr (.inr (List.mem_cons.mpr (.inl e)))
 ·exact List.mem_cons.mpr (.inr (List.mem_cons.mpr (.inr (List.mem_cons.mpr (.inl e)))))
 ·exact List.mem_cons.mpr (.inr (List.mem_cons.mpr (.inr (List.mem_cons.mpr (.inr (List.mem_singleton.mpr e))))))
def disB (p : Pt → Bool) : List Sd → Bool
 | [] => true
 | s :: l => l.all (fun t => !decide (t ∈ zY p 6724 s)) && disB p l
theorem qdC {f : List (Sd × Bool)} (k : Kh f (fun s => isS p s = true) 6724) : ∀ {l : List Sd}, (∀ s ∈ l, isS p s = true) → disB p l = true → (l.map (zY p 6724)).Pairwise fun a b => ∀ x ∈ a, ∀ y ∈ b, x ≠ y
 | [], _, _ => List.Pairwise.nil
 | s :: l, h, d => by
   rw [disB, Bool.and_eq_true, List.all_eq_true] at d
   rw [List.map_cons]
   refine List.pairwise_cons.mpr ⟨fun M hM x hx y hy e => ?_, qdC k (fun t ht => h t (List.mem_cons_of_mem _ ht)) d.2⟩
   obtain ⟨t, ht, rfl⟩ := List.mem_map.mp hM
   subst e
   have h1 := vB k (h s (List.mem_cons_self ..))
   have h2 := vB k (h t (List.mem_cons_of_mem _ ht))
   have nt : t ∉ zY p 6724 s := by simpa using d.1 t ht
   exact apart h2.cyc h1.cyc h2.head nt x hy hx
theorem known (hr : Rm r) (hp : pr r = p) {ss : List Sd} {Ks : List (List Pt)} (c1 : ss.all (isS p) = true) (c2 : disB p ss = true) (c3 : (qcq p r).length ≤ (ss.map (zY p 6724)).flatten.length)
 (c4 : (ss.map (zY p 6724)).map qU = Ks) (c5 : Ks.Pairwise fun a b => ltV a b = true) {kr : List (List Pt) → Prop} (hk : kr Ks) : zN r kr := by
 obtain ⟨f, kf, _⟩ := Yu hr
 have kf := kf.congr (T := fun s => isS p s = true) (fun s => by rw [hp]) (m := 6724) (by have := hr.len; omega)
 have is : ∀ s ∈ ss, isS p s = true := fun s hs => List.all_eq_true.mp c1 s hs
 have cyc : ∀ M ∈ ss.map (zY p 6724), Cyc p M := fun M hM => by
  obtain ⟨s, hs, rfl⟩ := List.mem_map.mp hM
  exact (vB kf (is s hs)).cyc
 have nd : (ss.map (zY p 6724)).flatten.Nodup := by
  show (ss.map (zY p 6724)).flatten.Pairwise (· ≠ ·)
  rw [List.pairwise_flatten]
  exact ⟨fun M hM => (cyc M hM).nd, qdC kf is c2⟩
 have Q : Prt p (ss.map (zY p 6724)) := ⟨cyc, nd, fun s hs => Classical.byContradiction fun ns => by
  have := qbF (l := s :: (ss.map (zY p 6724)).flatten) (k := qcq p r) (List.nodup_cons.mpr ⟨ns, nd⟩) fun t ht => by
   have it : isS p t = true := by
    rcases List.mem_cons.mp ht with rfl | ht
    ·exact hs
    ·obtain ⟨M, hM, h2⟩ := List.mem_flatten.mp ht
     exact (cyc M hM).is t h2
   rw [← hp] at it ⊢
   exact qdh it
  rw [List.length_cons] at this
  omega⟩
 obtain ⟨Ms, P, _, ho⟩ := YC hr
 rw [hp] at P
 refine ho ?_
 rw [qel P Q c4 c5]
 exact hk
def pBox (x0 x1 y0 y1 : Int) : Pt → Bool := fun c => (decide (x0 ≤ c.1) && decide (c.1 < x1)) && (decide (y0 ≤ c.2) && decide (c.2 < y1))
theorem Xi (x y w h : Int) : pr (yH x y w h) = pBox x (x + w) y (y + h) := by
 funext c
 rw [Bool.eq_iff_iff, QK, QR]
 unfold pBox
 simp only [Bool.and_eq_true, decide_eq_true_eq]
def onF : Pt → Bool := fun cell => ((decide (cell.1 = 0) || decide (cell.2 = 0)) || (decide (cell.1 = 40) || decide (cell.2 = 40)))
def pF : Pt → Bool := fun c => onF c && pBox 0 41 0 41 c
theorem qeq : pr ((yH 0 0 41 41).filter onF) = pF := by
 funext c
 have := congrFun (Xi 0 0 41 41) c
 rw [Bool.eq_iff_iff, QK, List.mem_filter, ← QK, this]
 show (pBox 0 (0 + 41) 0 (0 + 41) c = true ∧ onF c = true) ↔ (onF c && pBox 0 41 0 41 c) = true
 rw [Bool.and_eq_true]
 exact And.comm
theorem Xf {x y w h : Int} (hx : 0 ≤ x ∧ x + w ≤ 41) (hy : 0 ≤ y ∧ y + h ≤ 41) (q : Pt → Bool) (hl : ((yH x y w h).filter q).length ≤ 1681) : Rm ((yH x y w h).filter q) := ⟨(Zu (JT x y w h)).sublist (List.filter_sublist), hl, fun c hc => by
 have := QR.mp (List.mem_filter.mp hc).1
 omega⟩
theorem qab (l : List Pt) : l.filter (fun _ => true) = l := List.filter_eq_self.mpr fun _ _ => rfl
theorem qi7 {kr : List (List Pt) → Prop} (hk : kr [[(40, 40), (41, 40), (41, 41), (40, 41)]]) : zN [(40, 40)] kr := by
 have e : ([(40, 40)] : List Pt) = (yH 40 40 1 1).filter (fun _ => true) := by decide +kernel
 have hr : Rm [(40, 40)] := by rw [e]; exact Xf (by decide) (by decide) _ (by decide +kernel)
 have hp : pr [(40, 40)] = pBox 40 41 40 41 := by rw [e, qab]; exact Xi 40 40 1 1
 exact known hr hp (ss := [((40, 40), 0)]) (by decide +kernel) (by decide +kernel) (by decide +kernel) (by decide +kernel) (by decide +kernel) hk
theorem qkc {kr : List (List Pt) → Prop} (hk : kr [[(0, 0), (41, 0), (41, 1), (0, 1)]]) : zN (yH 0 0 41 1) kr := by
 have hr : Rm (yH 0 0 41 1) := by rw [← qab (yH 0 0 41 1)]; exact Xf (by decide) (by decide) _ (by decide +kernel)
 have hp : pr (yH 0 0 41 1) = pBox 0 41 0 1 := Xi 0 0 41 1
 exact known hr hp (ss := [((0, 0), 0)]) (by decide +kernel) (by decide +kernel) (by decide +kernel) (by decide +kernel) (by decide +kernel) hk
theorem qkx {kr : List (List Pt) → Prop} (hk : kr [[(0, 0), (1, 0), (1, 41), (0, 41)]]) : zN (yH 0 0 1 41) kr := by
 have hr : Rm (yH 0 0 1 41) := by rw [← qab (yH 0 0 1 41)]; exact Xf (by decide) (by decide) _ (by decide +kernel)
 have hp : pr (yH 0 0 1 41) = pBox 0 1 0 41 := Xi 0 0 1 41
 exact known hr hp (ss := [((0, 0), 0)]) (by decide +kernel) (by decide +kernel) (by decide +kernel) (by decide +kernel) (by decide +kernel) hk
theorem qgW {kr : List (List Pt) → Prop} (hk : kr [[(0, 0), (41, 0), (41, 41), (0, 41)], [(1, 1), (1, 40), (40, 40), (40, 1)]]) : zN ((yH 0 0 41 41).filter onF) kr := by
 have hr : Rm ((yH 0 0 41 41).filter onF) := Xf (by decide) (by decide) _ (by decide +kernel)
 exact known hr qeq (ss := [((0, 0), 0), ((1, 1), 1)]) (by decide +kernel) (by decide +kernel) (by decide +kernel) (by decide +kernel) (by decide +kernel) hk
end
end K34
namespace K34
open PySem PySem.Spec PyProof.Rows L2 BX TX COM BC RG
theorem qbR {kr : List (List Pt × List (List Pt)) → Prop} (hk : kr [([(40, 40)], [[(40, 40), (41, 40), (41, 41), (40, 41)]]), (yH 0 0 41 1, [[(0, 0), (41, 0), (41, 1), (0, 1)]]), (yH 0 0 1 41, [[(0, 0), (1, 0), (1, 41), (0, 41)]]),
 ((yH 0 0 41 41).filter onF, [[(0, 0), (41, 0), (41, 41), (0, 41)], [(1, 1), (1, 40), (40, 40), (40, 1)]])]) : zJ kr := by
 unfold zJ
 simp only [lt]
 have g : (yH 0 0 41 41).length ≤ sizeLine := by
  have : (yH 0 0 41 41).length = 1681 := by decide +kernel
  rw [this, sizeLine_eq]; omega
 refine Wq (by decide) (by decide) (by decide) (by decide) ⟨g, ?_⟩
 refine Wq (by decide) (by decide) (by decide) (by decide) ⟨by rw [sizeLine_eq]; simp, ?_⟩
 refine Wq (by decide) (by decide) (by decide) (by decide) ⟨by rw [sizeLine_eq]; simp, ?_⟩
 exact ⟨by rw [sizeLine_eq]; simp, hk⟩
theorem qaz {l : List (List Pt)} (h : l.length ≤ 1000000) (h2 : ∀ R ∈ l, R.length ≤ 1000000) : jQ 4 (eL (eV (eT2 D.int D.int)) l) := so_L h fun R hR => so_V (h2 R hR) fun a _ => qh0 qaA qaA
theorem qkr (ns : List Int) {kr : Bool → Prop} (hk : kr true) : qd8 ns kr := by
 unfold qd8
 refine qbR ?_
 refine QV (fun _ => True) trivial (fun a ha _ kk _ hkk => ?_) fun _ _ => ?_
 ·have fin : ∀ {Ks : List (List Pt)}, Ks.length ≤ 2 → (∀ R ∈ Ks, R.length ≤ 4) → xY ((eL (eV (eT2 D.int D.int))) Ks) ((eL (eV (eT2 D.int D.int))) Ks) fun t8 => ifP (!t8) (kr false) <| kk () := fun {Ks} h1 h2 => qcu rfl (qaz (by omega) fun R hR => by have := h2 R hR; omega) (qdj rfl (hkk _ trivial))
  simp only [List.mem_cons, List.not_mem_nil, or_false] at ha
  rcases ha with rfl | rfl | rfl | rfl
  ·exact qi7 (fin (by simp) (by simp))
  ·exact qkc (fin (by simp) (by simp))
  ·exact qkx (fin (by simp) (by simp))
  ·exact qgW (fin (by simp) (by simp))
 ·refine ⟨Yv (by omega) (by omega) (by omega) (by omega), QV (fun _ => True) trivial (fun k hk1 _ kk _ hkk => ?_) fun _ _ => hk⟩
  rw [VL] at hk1
  refine qhW (by omega) (by omega) fun t ht => yN ht (by decide) (by decide) fun b t2 _ _ ht2 => qek ht2 fun r s hr _ => ?_
  obtain ⟨Ms, P, lP, ho⟩ := YC hr.rm
  have few := hr.2.1
  have lr : (srtV (Ms.map qU)).length ≤ 1000 := by
   rw [(jD _).length_eq, List.length_map]
   have := QW P.cyc
   omega
  refine ho (qeT P (by omega) ?_)
  refine ⟨fun z => (by cases z), fun _ => ?_⟩
  refine Yq hr.rm P lP (by omega) ?_
  refine qdj rfl ?_
  simp only [lt]
  refine ⟨by rw [sizeLine_eq]; omega, ?_⟩
  refine ho (qcu rfl (qaz (by omega) fun R hR => ?_) (qdj rfl (hkk _ trivial)))
  obtain ⟨M, hM, rfl⟩ := Ze hR
  have c := P.cyc M hM
  have l1 := (vN c).1
  have l2 := Ue c
  have l3 := VB P hM
  omega
end K34
namespace K34
open PySem PySem.Spec PyProof.Rows L2 BX COM BC
def topS (i : Nat) : Stmt := PySem.Challenge.pw_boxcut_k34_outlines.main.body.getD i (.Pass ⟨0, 0, 0, 0⟩)
abbrev yR : Stmt := topS 2
theorem Zz : FnScope ["room", "there", "found", "x", "y", "ends", "way", "point", "beyond", "cell"] ["room"] (defScope yR) := ⟨rfl, rfl, rfl, by decide +kernel, rfl, by decide +kernel, by decide +kernel⟩
section
variable {P : Program} {w : World} {K : PySem.W.Frag} {mg : Str → Option Value} {base : Heap} {k : Nat} {f : Addr} {cdv : Value} {A : Around} {outer : List PySem.Env} {s : Shared} {H : Hp} {E : XK}
theorem rk {N : List Str} {x : Str} {sc : Scope} {b : List Stmt} {t : XS} (hr : Room k (A.deeper (envOfC x sc s.heap.objs.size f cdv))) (q : Ok (cxOf CX0 P w K mg base N x sc f cdv A outer s H E).nox → DSs (cxOf CX0 P w K mg base N x sc f cdv A outer s H E).nox b t) : DSs (cxOf CX0 P w K mg base N x sc f cdv A outer s H E).nox b t := q (Room.ok hr)
theorem qbK (m_enumerate : mg "enumerate" = none) (m_dict : mg "dict" = none)
 (hr : Room k (A.deeper (envOfC "sides_of" (defScope yR) s.heap.objs.size f cdv))) :
 DSs (cxOf CX0 P w K mg base ["room", "there", "found", "x", "y", "ends", "way", "point", "beyond", "cell"] "sides_of" (defScope yR) f cdv A outer s H E).nox (defBody yR) Q6 := by
 refine rk hr fun hx => ?_
 have nd := Zz.nd
 exact (qF (wQ nd (yd (qdK hx) (by rfl) m_dict (by decide +kernel) (qb (uh (own := [("cell", 9)]) (ts := [9]) hx nd (yO (qj 0)) (blkOk_by (own := [("cell", 9)]) (N := ["room", "there", "found", "x", "y", "ends", "way", "point", "beyond", "cell"]) (sc := defScope yR) (by decide +kernel)) (fun _ _ _ _ _ => (qL nd)) (fun _ _ _ _ _ => xJ) (fun _ _ _ _ _ => (qJ (qb (qj 9) (qb jU qp)))) (by decide)) qp)))
  (qF (wQ nd qae)
  (qF (jY hx (yO (qj 0)) (xX hx (qQ (qL nd) (qQ (qL nd) yI))) (qF (wQ nd (yW (qb (qJ (qb (qJ (qb (qj 3) (qb (qj 4) qp))) (qb (qJ (qb (qj 3) (qb (qI xQ (qj 4) qm) qp))) qp))) (qb (qJ (qb (qJ (qb (qI wI (qj 3) qm) (qb (qj 4) qp))) (qb (qJ (qb (qI wI (qj 3) qm) (qb (qj 4) qp))) qp))) (qb (qJ (qb (qJ (qb (qI wI (qj 3) qm) (qb (qI wI (qj 4) qm) qp))) (qb (qJ (qb (qj 3) (qb (qI wI (qj 4) qm) qp))) qp))) (qb (qJ (qb (qJ (qb (qj 3) (qb (qI wI (qj 4) qm) qp))) (qb (qJ (qb (qI xQ (qj 3) qm) (qb (qj 4) qp))) qp))) qp))))))
  (qP (jY hx (qg0 (qj 5) m_enumerate) (xX hx (qQ (qL nd) (qQ (xX hx (qQ (qL nd) (qQ (qL nd) yI))) yI))) (qP (yU (wO (qeu hx) (qj 8) (qj 1) (by rfl) qdS) (qP (Z4 hx jU (qj 2) (qJ (qb (qj 7) (qb (qj 6) qp))))) zp))))))
  (qP (wJ (qj 2))))))
abbrev zU : Stmt := topS 3
theorem vW : FnScope ["sides", "side", "x", "y", "way", "end", "turn"] ["sides", "side"] (defScope zU) := ⟨rfl, rfl, rfl, by decide +kernel, rfl, by decide +kernel, by decide +kernel⟩
theorem XM (g_STEPS : Gv K mg "STEPS" X6)
 (hr : Room k (A.deeper (envOfC "side_behind" (defScope zU) s.heap.objs.size f cdv))) :
 DSs (cxOf CX0 P w K mg base ["sides", "side", "x", "y", "way", "end", "turn"] "side_behind" (defScope zU) f cdv A outer s H E).nox (defBody zU) uG := by
 refine rk hr fun hx => ?_
 have nd := vW.nd
 exact (qF (qfG (qj 1) (xX hx (qQ (xX hx (qQ (qL nd) (qQ (qL nd) yI))) (qQ (qL nd) yI))))
  (qF (wQ nd (qJ (qb (qI wI (qj 2) (wL hx (wL hx (qdF (by rfl) g_STEPS) (qj 4)) qm)) (qb (qI wI (qj 3) (wL hx (wL hx (qdF (by rfl) g_STEPS) (qj 4)) qm)) qp))))
  (qF (jY hx (yO (qJ (qb qm (qb qm (qb qm qp))))) (qL nd) (qP (yU (wO (qfn hx) (qJ (qb (qj 5) (qb (qI jn (qI wI (qj 4) (qj 6)) qm) qp))) (qj 0) (by rfl) qfM) (qP (wJ (qJ (qb (qj 5) (qb (qI jn (qI wI (qj 4) (qj 6)) qm) qp))))) zp)))
  (qP (wJ J8)))))
abbrev zQ : Stmt := topS 4
theorem vU : FnScope ["sides", "first", "met", "side"] ["sides", "first"] (defScope zQ) := ⟨rfl, rfl, rfl, by decide +kernel, rfl, by decide +kernel, by decide +kernel⟩
theorem XJ {w6 : FS} (F_side_behind : Fn P w K mg base "side_behind" k ["sides", "side"] w6)
 (hr : Room k (A.deeper (envOfC "sides_round" (defScope zQ) s.heap.objs.size f cdv))) :
 DSs (cxOf CX0 P w K mg base ["sides", "first", "met", "side"] "sides_round" (defScope zQ) f cdv A outer s H E).nox (defBody zQ) (uF w6) := by
 refine rk hr fun hx => ?_
 have nd := vU.nd
 exact (qF (wQ nd (yW (qb (qj 1) qp)))
  (qF (wQ nd (zg F_side_behind hr (by rfl) (qb (qj 0) (qb (qj 1) qp))))
  (qF (qeV (wO (Xo hx) (qj 3) (qj 1) (by rfl) qbN) (qF (ug (vK (qj 2) (qj 3)))
  (qP (wQ nd (zg F_side_behind hr (by rfl) (qb (qj 0) (qb (qj 3) qp)))))))
  (qP (wJ (qj 2))))))
abbrev zW : Stmt := topS 5
theorem Qy : FnScope ["met", "side", "ahead"] ["met"] (defScope zW) := ⟨rfl, rfl, rfl, by decide +kernel, rfl, by decide +kernel, by decide +kernel⟩
theorem J9 (m_zip : mg "zip" = none)
 (hr : Room k (A.deeper (envOfC "corners_of" (defScope zW) s.heap.objs.size f cdv))) :
 DSs (cxOf CX0 P w K mg base ["met", "side", "ahead"] "corners_of" (defScope zW) f cdv A outer s H E).nox (defBody zW) vg := by
 refine rk hr fun hx => ?_
 have nd := Qy.nd
 exact (qP (wJ (uh (own := [("side", 1), ("ahead", 2)]) (ts := [1, 2]) hx nd (qa3 (qj 0) (qI wI (xT (qj 0) (jK (YM qm)) jL) (xT (qj 0) jL (jK (YM qm)))) m_zip) (blkOk_by (own := [("side", 1), ("ahead", 2)]) (N := ["met", "side", "ahead"]) (sc := defScope zW) (by decide +kernel)) (fun _ _ _ _ _ => (xX (hx).blk (qQ (qL nd) (qQ (qL nd) yI)))) (fun _ _ _ _ _ => (uR (wO (Xo (hx).blk) (wL (hx).blk (qj 1) qm) (wL (hx).blk (qj 2) qm) (by rfl) qbN))) (fun _ _ _ _ _ => (wL (hx).blk (qj 1) qm)) (by decide))))
abbrev wW : Stmt := topS 6
theorem vz : FnScope ["points", "rows", "k"] ["points"] (defScope wW) := ⟨rfl, rfl, rfl, by decide +kernel, rfl, by decide +kernel, by decide +kernel⟩
theorem Yn (m_min : mg "min" = none) (m_len : mg "len" = none) (m_range : mg "range" = none) (m_tuple : mg "tuple" = none)
 (hr : Room k (A.deeper (envOfC "least_turned" (defScope wW) s.heap.objs.size f cdv))) :
 DSs (cxOf CX0 P w K mg base ["points", "rows", "k"] "least_turned" (defScope wW) f cdv A outer s H E).nox (defBody wW) j6 := by
 refine rk hr fun hx => ?_
 have nd := vz.nd
 exact (qF (XF (own := [("k", 2)]) (ts := [2]) hx nd (by rfl) (ji (wC uW (by rfl) m_len (by decide +kernel) (qb (qj 0) qp)) m_range) (blkOk_by (own := [("k", 2)]) (N := ["points", "rows", "k"]) (sc := defScope wW) (by decide +kernel)) (fun _ _ _ _ _ => (qL nd)) (fun _ _ _ _ _ => xJ) (fun _ _ _ _ _ => (qI wI (yd vQ (by rfl) m_tuple (by decide +kernel) (qb (xT (qj 0) (jK (qj 2)) jL) qp)) (yd vQ (by rfl) m_tuple (by decide +kernel) (qb (xT (qj 0) jL (jK (qj 2))) qp)))) (by decide))
  (qP (wJ (wC (qhe hx) (by rfl) m_min (by decide +kernel) (qb (qj 1) qp)))))
abbrev yS : Stmt := topS 7
theorem ZC : FnScope ["room", "sides", "met", "rings", "first", "whole", "side"] ["room"] (defScope yS) := ⟨rfl, rfl, rfl, by decide +kernel, rfl, by decide +kernel, by decide +kernel⟩
theorem qbL {za ye zu yV : FS} (F_least_turned : Fn P w K mg base "least_turned" k ["points"] za) (F_corners_of : Fn P w K mg base "corners_of" k ["met"] ye) (F_sides_round : Fn P w K mg base "sides_round" k ["sides", "first"] zu) (F_sides_of : Fn P w K mg base "sides_of" k ["room"] yV) (m_sorted : mg "sorted" = none) (m_dict : mg "dict" = none)
 (hr : Room k (A.deeper (envOfC "outlines" (defScope yS) s.heap.objs.size f cdv))) :
 DSs (cxOf CX0 P w K mg base ["room", "sides", "met", "rings", "first", "whole", "side"] "outlines" (defScope yS) f cdv A outer s H E).nox (defBody yS) (Q7 za ye zu yV) := by
 refine rk hr fun hx => ?_
 have nd := ZC.nd
 exact (qF (wQ nd (zg F_sides_of hr (by rfl) (qb (qj 0) qp)))
  (qF (wQ nd qae)
  (qF (wQ nd (yW qp))
  (qF (jY hx (yO (wC (qeZ hx) (by rfl) m_sorted (by decide +kernel) (qb (qj 1) qp))) (qL nd) (qP (yU (wO (qgp hx) (qj 4) (qj 2) (by rfl) qfM) (qF (wQ nd (zg F_sides_round hr (by rfl) (qb (qj 1) (qb (qj 4) qp))))
  (qF (ug (qg1 hx (qj 2) (yd (qe1 hx) (by rfl) m_dict (by decide +kernel) (qb (uh (own := [("side", 6)]) (ts := [6]) hx nd (yO (qj 5)) (blkOk_by (own := [("side", 6)]) (N := ["room", "sides", "met", "rings", "first", "whole", "side"]) (sc := defScope yS) (by decide +kernel)) (fun _ _ _ _ _ => (qL nd)) (fun _ _ _ _ _ => xJ) (fun _ _ _ _ _ => (qJ (qb (qj 6) (qb jU qp)))) (by decide)) qp))))
  (qP (ug (vK (qj 3) (zg F_least_turned hr (by rfl) (qb (zg F_corners_of hr (by rfl) (qb (qj 5) qp)) qp))))))) zp)))
  (qP (wJ (wC (qe0 hx) (by rfl) m_sorted (by decide +kernel) (qb (qj 3) qp))))))))
abbrev yK : Stmt := topS 9
theorem Wt : FnScope ["_law_script", "_law_k", "_law_cell", "_law_digits"] ["_law_script", "_law_k"] (defScope yK) := ⟨rfl, rfl, rfl, by decide +kernel, rfl, by decide +kernel, by decide +kernel⟩
theorem qaf (m_abs : mg "abs" = none) (m_int : mg "int" = none) (m_len : mg "len" = none)
 (hr : Room k (A.deeper (envOfC "_law_tape" (defScope yK) s.heap.objs.size f cdv))) :
 DSs (cxOf CX0 P w K mg base ["_law_script", "_law_k", "_law_cell", "_law_digits"] "_law_tape" (defScope yK) f cdv A outer s H E).nox (defBody yK) uI := by
 refine rk hr fun hx => ?_
 have nd := Wt.nd
 exact (qF (wQ nd qm)
  (qF (yU (wO (qcQ hx) (qj 1) (wC uW (by rfl) m_len (by decide +kernel) (qb (qj 0) qp)) (by rfl) qdR) (qP (wQ nd (wL hx (qj 0) (qj 1)))) zp)
  (qF (wQ nd (qI QL (wC qa8 (by rfl) m_abs (by decide +kernel) (qb (qj 2) qp)) (yd qa7 (by rfl) m_int (by decide +kernel) (qb (xm qki (wC qa8 (by rfl) m_abs (by decide +kernel) (qb (qj 2) qp)) (qI qim qm qm) (by rfl)) qp))))
  (qP (wJ (yW (qb (qj 3) (qb (qI jn (qI QL (qI jn (qI wI (qI wI (qj 2) (qI QL qm (qj 1))) qm) qm) qm) qm) qp))))))))
abbrev yL : Stmt := topS 10
theorem Wx : FnScope ["_law_tape_here", "_law_many", "_law_found", "_law_once"] ["_law_tape_here", "_law_many"] (defScope yL) := ⟨rfl, rfl, rfl, by decide +kernel, rfl, by decide +kernel, by decide +kernel⟩
theorem qaj
 (hr : Room k (A.deeper (envOfC "_law_draw" (defScope yL) s.heap.objs.size f cdv))) :
 DSs (cxOf CX0 P w K mg base ["_law_tape_here", "_law_many", "_law_found", "_law_once"] "_law_draw" (defScope yL) f cdv A outer s H E).nox (defBody yL) uK := by
 refine rk hr fun hx => ?_
 have nd := Wx.nd
 exact (qF (yU (wO qbD (wL hx (qj 0) qm) qm (by rfl) qe4) (qF (wQ nd (qI jn (wL hx (qj 0) qm) (qj 1)))
  (qF (qfE hx (qI qcS (wL hx (qj 0) qm) (qj 1)) (qj 0) qm)
  (qP (wJ (qj 2))))) zp)
  (qF (qfE hx (qI jn (qI wI (qI QL (wL hx (qj 0) qm) qm) qm) qm) (qj 0) qm)
  (qF (wQ nd (qI jn (qI QL (wL hx (qj 0) qm) (qI wI (qI jn (wL hx (qj 0) qm) qm) qm)) qm))
  (qP (wJ (qI jn (qI jn (qI QL (qj 3) (qI wI (qI jn (qj 3) qm) qm)) qm) (qj 1)))))))
abbrev zX : Stmt := topS 11
theorem QD : FnScope ["_law_x", "_law_y", "_law_wide", "_law_high", "_law_found", "_law_k", "_law_j"] ["_law_x", "_law_y", "_law_wide", "_law_high"] (defScope zX) := ⟨rfl, rfl, rfl, by decide +kernel, rfl, by decide +kernel, by decide +kernel⟩
theorem Uc (m_range : mg "range" = none)
 (hr : Room k (A.deeper (envOfC "_law_cells" (defScope zX) s.heap.objs.size f cdv))) :
 DSs (cxOf CX0 P w K mg base ["_law_x", "_law_y", "_law_wide", "_law_high", "_law_found", "_law_k", "_law_j"] "_law_cells" (defScope zX) f cdv A outer s H E).nox (defBody zX) vp := by
 refine rk hr fun hx => ?_
 have nd := QD.nd
 exact (qF (wQ nd (yW qp))
  (qF (jY hx (ji (qj 2) m_range) (qL nd) (qP (ug (Z6 (qj 4) (uh (own := [("_law_j", 6)]) (ts := [6]) hx nd (ji (qj 3) m_range) (blkOk_by (own := [("_law_j", 6)]) (N := ["_law_x", "_law_y", "_law_wide", "_law_high", "_law_found", "_law_k", "_law_j"]) (sc := defScope zX) (by decide +kernel)) (fun _ _ _ _ _ => (qL nd)) (fun _ _ _ _ _ => xJ) (fun _ _ _ _ _ => (qJ (qb (qI wI (qj 0) (qj 5)) (qb (qI wI (qj 1) (qj 6)) qp)))) (by decide))))))
  (qP (wJ (qj 4)))))
abbrev wz : Stmt := topS 12
theorem QC : FnScope ["_law_tape_here", "_law_wide", "_law_high", "_law_way", "_law_every", "_law_there", "_law_turn", "_law_x", "_law_y", "_law_more", "_law_put", "_law_tall", "_law_cell"] ["_law_tape_here", "_law_wide", "_law_high"] (defScope wz) := ⟨rfl, rfl, rfl, by decide +kernel, rfl, by decide +kernel, by decide +kernel⟩
theorem Ub {qG qN : FS} (F__law_draw : Fn P w K mg base "_law_draw" k ["_law_tape_here", "_law_many"] qG) (F__law_cells : Fn P w K mg base "_law_cells" k ["_law_x", "_law_y", "_law_wide", "_law_high"] qN) (m_range : mg "range" = none)
 (hr : Room k (A.deeper (envOfC "_law_shape" (defScope wz) s.heap.objs.size f cdv))) :
 DSs (cxOf CX0 P w K mg base ["_law_tape_here", "_law_wide", "_law_high", "_law_way", "_law_every", "_law_there", "_law_turn", "_law_x", "_law_y", "_law_more", "_law_put", "_law_tall", "_law_cell"] "_law_shape" (defScope wz) f cdv A outer s H E).nox (defBody wz) (vm qG qN) := by
 refine rk hr fun hx => ?_
 have nd := QC.nd
 exact (qF (wQ nd (zg F__law_draw hr (by rfl) (qb (qj 0) (qb qm qp))))
  (qF (wQ nd (zg F__law_cells hr (by rfl) (qb qm (qb qm (qb (qj 1) (qb (qj 2) qp))))))
  (qF (yU (wO (qcQ hx) (qj 3) qm (by rfl) qdR) (qP (wJ (uh (own := [("_law_cell", 12)]) (ts := [12]) hx nd (yO (qj 4)) (blkOk_by (own := [("_law_cell", 12)]) (N := ["_law_tape_here", "_law_wide", "_law_high", "_law_way", "_law_every", "_law_there", "_law_turn", "_law_x", "_law_y", "_law_more", "_law_put", "_law_tall", "_law_cell"]) (sc := defScope wz) (by decide +kernel)) (fun _ _ _ _ _ => (qL nd)) (fun _ _ _ _ _ => (uR (wO qbD (zg F__law_draw hr (by rfl) (qb (qj 0) (qb qm qp))) (qI jn (qj 3) qm) (by rfl) qe4))) (fun _ _ _ _ _ => (qj 12)) (by decide)))) zp)
  (qF (yU (wO (qcQ hx) (qj 3) qm (by rfl) qdR) (qF (wQ nd qi5)
  (qF (jY hx (ji (qI wI qm (zg F__law_draw hr (by rfl) (qb (qj 0) (qb qm qp)))) m_range) (qL nd) (qF (qdB hx nd (by decide) (qb (zg F__law_draw hr (by rfl) (qb (qj 0) (qb (qj 1) qp))) (qb (zg F__law_draw hr (by rfl) (qb (qj 0) (qb (qj 2) qp))) qp)))
  (qF (wQ nd (zg F__law_cells hr (by rfl) (qb (qj 7) (qb (qj 8) (qb (qI wI qm (zg F__law_draw hr (by rfl) (qb (qj 0) (qb (qI xQ (qj 1) (qj 7)) qp)))) (qb (qI wI qm (zg F__law_draw hr (by rfl) (qb (qj 0) (qb (qI xQ (qj 2) (qj 8)) qp)))) qp))))))
  (qF (wQ nd (qkv (xm (jt hx) (qj 6) qm (by rfl)) (WN (xm qbD (zg F__law_draw hr (by rfl) (qb (qj 0) (qb qm qp))) qm (by rfl)))))
  (qP (ug (qdD hx (qj 5) (qb (uh (own := [("_law_cell", 12)]) (ts := [12]) hx nd (yO (qj 9)) (blkOk_by (own := [("_law_cell", 12)]) (N := ["_law_tape_here", "_law_wide", "_law_high", "_law_way", "_law_every", "_law_there", "_law_turn", "_law_x", "_law_y", "_law_more", "_law_put", "_law_tall", "_law_cell"]) (sc := defScope wz) (by decide +kernel)) (fun _ _ _ _ _ => (qL nd)) (fun _ _ _ _ _ => xJ) (fun _ _ _ _ _ => (qJ (qb (qj 12) (qb (qj 10) qp)))) (by decide)) qp))))))))
  (qP (wJ (uh (own := [("_law_cell", 12)]) (ts := [12]) hx nd (yO (qj 4)) (blkOk_by (own := [("_law_cell", 12)]) (N := ["_law_tape_here", "_law_wide", "_law_high", "_law_way", "_law_every", "_law_there", "_law_turn", "_law_x", "_law_y", "_law_more", "_law_put", "_law_tall", "_law_cell"]) (sc := defScope wz) (by decide +kernel)) (fun _ _ _ _ _ => (qL nd)) (fun _ _ _ _ _ => (uR (jJ (qi3 (hx).blk (qj 5) (qb (qj 12) (qb jU qp)))))) (fun _ _ _ _ _ => (qj 12)) (by decide)))))) zp)
  (qF (yU (wO (jt hx) (qj 3) qm (by rfl) Q4) (qP (wJ (uh (own := [("_law_cell", 12)]) (ts := [12]) hx nd (yO (qj 4)) (blkOk_by (own := [("_law_cell", 12)]) (N := ["_law_tape_here", "_law_wide", "_law_high", "_law_way", "_law_every", "_law_there", "_law_turn", "_law_x", "_law_y", "_law_more", "_law_put", "_law_tall", "_law_cell"]) (sc := defScope wz) (by decide +kernel)) (fun _ _ _ _ _ => (qL nd)) (fun _ _ _ _ _ => (uR (wO qbD (zg F__law_draw hr (by rfl) (qb (qj 0) (qb qm qp))) qm (by rfl) qe4))) (fun _ _ _ _ _ => (qj 12)) (by decide)))) zp)
  (qF (yU (wO (jt hx) (qj 3) qm (by rfl) Q4) (qF (wQ nd (uh (own := [("_law_x", 7)]) (ts := [7]) hx nd (ji (qj 1) m_range) (blkOk_by (own := [("_law_x", 7)]) (N := ["_law_tape_here", "_law_wide", "_law_high", "_law_way", "_law_every", "_law_there", "_law_turn", "_law_x", "_law_y", "_law_more", "_law_put", "_law_tall", "_law_cell"]) (sc := defScope wz) (by decide +kernel)) (fun _ _ _ _ _ => (qL nd)) (fun _ _ _ _ _ => xJ) (fun _ _ _ _ _ => (qI wI qm (zg F__law_draw hr (by rfl) (qb (qj 0) (qb (qj 2) qp))))) (by decide)))
  (qP (wJ (uh (own := [("_law_cell", 12)]) (ts := [12]) hx nd (yO (qj 4)) (blkOk_by (own := [("_law_cell", 12)]) (N := ["_law_tape_here", "_law_wide", "_law_high", "_law_way", "_law_every", "_law_there", "_law_turn", "_law_x", "_law_y", "_law_more", "_law_put", "_law_tall", "_law_cell"]) (sc := defScope wz) (by decide +kernel)) (fun _ _ _ _ _ => (qL nd)) (fun _ _ _ _ _ => (uR (wO (qcQ (hx).blk) (wL (hx).blk (qj 12) qm) (wL (hx).blk (yW (qb (wL (hx).blk (qj 11) (wL (hx).blk (qj 12) qm)) (qb qm qp))) (qI QL (qI jn (wL (hx).blk (qj 12) qm) qm) (zg F__law_draw hr (by rfl) (qb (qj 0) (qb qm qp))))) (by rfl) qdR))) (fun _ _ _ _ _ => (qj 12)) (by decide))))) zp)
  (qF (yU (wO (jt hx) (qj 3) qm (by rfl) Q4) (qP (wJ (uh (own := [("_law_cell", 12)]) (ts := [12]) hx nd (yO (qj 4)) (blkOk_by (own := [("_law_cell", 12)]) (N := ["_law_tape_here", "_law_wide", "_law_high", "_law_way", "_law_every", "_law_there", "_law_turn", "_law_x", "_law_y", "_law_more", "_law_put", "_law_tall", "_law_cell"]) (sc := defScope wz) (by decide +kernel)) (fun _ _ _ _ _ => (qL nd)) (fun _ _ _ _ _ => (uR (DW.dt (Ym (wO (jt (hx).blk) (qI jn (wL (hx).blk (qj 12) qm) qm) qm (by rfl) Q4) (Ym (wO (jt (hx).blk) (qI jn (wL (hx).blk (qj 12) qm) qm) qm (by rfl) Q4) (WL (wO (jt (hx).blk) (zg F__law_draw hr (by rfl) (qb (qj 0) (qb qm qp))) qm (by rfl) Q4))))))) (fun _ _ _ _ _ => (qj 12)) (by decide)))) zp)
  (qP (wJ (uh (own := [("_law_cell", 12)]) (ts := [12]) hx nd (yO (qj 4)) (blkOk_by (own := [("_law_cell", 12)]) (N := ["_law_tape_here", "_law_wide", "_law_high", "_law_way", "_law_every", "_law_there", "_law_turn", "_law_x", "_law_y", "_law_more", "_law_put", "_law_tall", "_law_cell"]) (sc := defScope wz) (by decide +kernel)) (fun _ _ _ _ _ => (qL nd)) (fun _ _ _ _ _ => (uR (DW.dt (Ym (wO (jt (hx).blk) (qI jn (qI wI (wL (hx).blk (qj 12) qm) (wL (hx).blk (qj 12) qm)) qm) qm (by rfl) Q4) (WL (wO (jt (hx).blk) (zg F__law_draw hr (by rfl) (qb (qj 0) (qb qm qp))) qm (by rfl) Q4)))))) (fun _ _ _ _ _ => (qj 12)) (by decide)))))))))))
abbrev yx : Stmt := topS 13
theorem Wv : FnScope ["_law_tape_here", "_law_great", "_law_wide", "_law_high", "_law_cells_here", "_law_far", "_law_x", "_law_y"] ["_law_tape_here", "_law_great"] (defScope yx) := ⟨rfl, rfl, rfl, by decide +kernel, rfl, by decide +kernel, by decide +kernel⟩
theorem qah {qG qN yg : FS} (F__law_draw : Fn P w K mg base "_law_draw" k ["_law_tape_here", "_law_many"] qG) (F__law_cells : Fn P w K mg base "_law_cells" k ["_law_x", "_law_y", "_law_wide", "_law_high"] qN) (F__law_shape : Fn P w K mg base "_law_shape" k ["_law_tape_here", "_law_wide", "_law_high"] yg) (m_sorted : mg "sorted" = none) (m_tuple : mg "tuple" = none)
 (hr : Room k (A.deeper (envOfC "_law_room" (defScope yx) s.heap.objs.size f cdv))) :
 DSs (cxOf CX0 P w K mg base ["_law_tape_here", "_law_great", "_law_wide", "_law_high", "_law_cells_here", "_law_far", "_law_x", "_law_y"] "_law_room" (defScope yx) f cdv A outer s H E).nox (defBody yx) (Qa qG qN yg) := by
 refine rk hr fun hx => ?_
 have nd := Wv.nd
 exact (qF (qdB hx nd (by decide) (qb (qI wI qm (zg F__law_draw hr (by rfl) (qb (qj 0) (qb qm qp)))) (qb (qI wI qm (zg F__law_draw hr (by rfl) (qb (qj 0) (qb qm qp)))) qp)))
  (qF (yU (jJ (qj 1)) (qP (qdB hx nd (by decide) (qb (qI wI qm (zg F__law_draw hr (by rfl) (qb (qj 0) (qb qm qp)))) (qb (qI wI qm (zg F__law_draw hr (by rfl) (qb (qj 0) (qb qm qp)))) qp)))) zp)
  (qF (wQ nd (zg F__law_shape hr (by rfl) (qb (qj 0) (qb (qj 2) (qb (qj 3) qp)))))
  (qF (yU (DW.dt (qfD (wO (jt hx) (qj 4) (yW qp) (by rfl) Q4) (qdA (wO qbD (zg F__law_draw hr (by rfl) (qb (qj 0) (qb qm qp))) qm (by rfl) qe4)))) (qP (wQ nd (zg F__law_cells hr (by rfl) (qb qm (qb qm (qb (qj 2) (qb (qj 3) qp))))))) zp)
  (qF (wQ nd (yW (qb qm (qb qm qp))))
  (qF (yU (wO (jt hx) (zg F__law_draw hr (by rfl) (qb (qj 0) (qb qm qp))) qm (by rfl) Q4) (qP (wQ nd (wL hx (yW (qb (yW (qb (zg F__law_draw hr (by rfl) (qb (qj 0) (qb qm qp))) (qb (zg F__law_draw hr (by rfl) (qb (qj 0) (qb qm qp))) qp))) (qb (yW (qb (qI xQ qm (qj 2)) (qb (qI xQ qm (qj 3)) qp))) qp))) (zg F__law_draw hr (by rfl) (qb (qj 0) (qb qm qp)))))) zp)
  (qP (wJ (yd vQ (by rfl) m_tuple (by decide +kernel) (qb (wC (qdJ hx) (by rfl) m_sorted (by decide +kernel) (qb (uh (own := [("_law_x", 6), ("_law_y", 7)]) (ts := [6, 7]) hx nd (yO (qj 4)) (blkOk_by (own := [("_law_x", 6), ("_law_y", 7)]) (N := ["_law_tape_here", "_law_great", "_law_wide", "_law_high", "_law_cells_here", "_law_far", "_law_x", "_law_y"]) (sc := defScope yx) (by decide +kernel)) (fun _ _ _ _ _ => (xX (hx).blk (qQ (qL nd) (qQ (qL nd) yI)))) (fun _ _ _ _ _ => xJ) (fun _ _ _ _ _ => (qJ (qb (qI wI (qj 6) (wL (hx).blk (qj 5) qm)) (qb (qI wI (qj 7) (wL (hx).blk (qj 5) qm)) qp)))) (by decide)) qp)) qp))))))))))
abbrev yz : Stmt := topS 14
theorem Ww : FnScope ["_law_room_here", "_law_point", "_law_x", "_law_y", "_law_some", "_law_cell"] ["_law_room_here", "_law_point"] (defScope yz) := ⟨rfl, rfl, rfl, by decide +kernel, rfl, by decide +kernel, by decide +kernel⟩
theorem qai (m_len : mg "len" = none) (m_int : mg "int" = none)
 (hr : Room k (A.deeper (envOfC "_law_kind" (defScope yz) s.heap.objs.size f cdv))) :
 DSs (cxOf CX0 P w K mg base ["_law_room_here", "_law_point", "_law_x", "_law_y", "_law_some", "_law_cell"] "_law_kind" (defScope yz) f cdv A outer s H E).nox (defBody yz) Qc := by
 refine rk hr fun hx => ?_
 have nd := Ww.nd
 exact (qF (qfG (qj 1) (xX hx (qQ (qL nd) (qQ (qL nd) yI))))
  (qF (XF (own := [("_law_cell", 5)]) (ts := [5]) hx nd (by rfl) (yO (yW (qb (qJ (qb (qI xQ (qj 2) qm) (qb (qI xQ (qj 3) qm) qp))) (qb (qJ (qb (qj 2) (qb (qI xQ (qj 3) qm) qp))) (qb (qJ (qb (qI xQ (qj 2) qm) (qb (qj 3) qp))) (qb (qJ (qb (qj 2) (qb (qj 3) qp))) qp)))))) (blkOk_by (own := [("_law_cell", 5)]) (N := ["_law_room_here", "_law_point", "_law_x", "_law_y", "_law_some", "_law_cell"]) (sc := defScope yz) (by decide +kernel)) (fun _ _ _ _ _ => (qL nd)) (fun _ _ _ _ _ => (uR (wO (qin (hx).blk) (qj 5) (qj 0) (by rfl) Um))) (fun _ _ _ _ _ => (qj 5)) (by decide))
  (qF (yU (wO (jt hx) (wC uW (by rfl) m_len (by decide +kernel) (qb (qj 4) qp)) qm (by rfl) Q4) (qP (wJ (wL hx (yW (qb WM (qb WM qp))) (yd qa7 (by rfl) m_int (by decide +kernel) (qb (WP (xm (Xo hx) (wL hx (wL hx (qj 4) qm) qm) (wL hx (wL hx (qj 4) qm) qm) (by rfl)) (WN (xm (Xo hx) (wL hx (wL hx (qj 4) qm) qm) (wL hx (wL hx (qj 4) qm) qm) (by rfl)))) qp))))) zp)
  (qP (wJ (wL hx (yW (qb WM (qb WM (qb WM (qb WM (qb WM qp)))))) (wC uW (by rfl) m_len (by decide +kernel) (qb (qj 4) qp))))))))
abbrev yw : Stmt := topS 15
theorem Wu : FnScope ["_law_found", "_law_due", "_law_one", "_law_other"] ["_law_found", "_law_due"] (defScope yw) := ⟨rfl, rfl, rfl, by decide +kernel, rfl, by decide +kernel, by decide +kernel⟩
theorem qag {qW : FS} (F__law_same : Fn P w K mg base "_law_same" k ["_law_found", "_law_due"] qW) (m_isinstance : mg "isinstance" = none) (m_bool : mg "bool" = none) (m_int : mg "int" = none) (m_str : mg "str" = none) (m_list : mg "list" = none) (m_tuple : mg "tuple" = none) (m_zip : mg "zip" = none) (m_all : mg "all" = none) (m_len : mg "len" = none)
 (hr : Room k (A.deeper (envOfC "_law_same" (defScope yw) s.heap.objs.size f cdv))) :
 DSs (cxOf CX0 P w K mg base ["_law_found", "_law_due", "_law_one", "_law_other"] "_law_same" (defScope yw) f cdv A outer s H E).nox (defBody yw) (v9 qW) := by
 refine rk hr fun hx => ?_
 have nd := Wu.nd
 exact (qF (yU (wO qgq (qj 1) J8 (by rfl) qjf) (qP (wJ (xm qgq (qj 0) J8 (by rfl)))) zp)
  (qF (yU (jJ (qg4 Y9 W6 (qj 1) m_isinstance m_list m_tuple (by rfl) (by rfl))) (qF (yU (DW.dt (Ym (wO (Xo hx) (uV Y9 (qj 0) m_isinstance m_list (by rfl)) (uV Y9 (qj 1) m_isinstance m_list (by rfl)) (by rfl) qbN) (WL (wO (Xo hx) (uV W6 (qj 0) m_isinstance m_tuple (by rfl)) (uV W6 (qj 1) m_isinstance m_tuple (by rfl)) (by rfl) qbN)))) (qP (wJ jU)) zp)
  (qP (wJ (WP (xm (jt hx) (wC uW (by rfl) m_len (by decide +kernel) (qb (qj 0) qp)) (wC uW (by rfl) m_len (by decide +kernel) (qb (qj 1) qp)) (by rfl)) (WN (wC (Uj hx) (by rfl) m_all (by decide +kernel) (qb (uh (own := [("_law_one", 2), ("_law_other", 3)]) (ts := [2, 3]) hx nd (qa3 (qj 0) (qj 1) m_zip) (blkOk_by (own := [("_law_one", 2), ("_law_other", 3)]) (N := ["_law_found", "_law_due", "_law_one", "_law_other"]) (sc := defScope yw) (by decide +kernel)) (fun _ _ _ _ _ => (xX (hx).blk (qQ (qL nd) (qQ (qL nd) yI)))) (fun _ _ _ _ _ => xJ) (fun _ _ _ _ _ => (zg F__law_same hr (by rfl) (qb (qj 2) (qb (qj 3) qp)))) (by decide)) qp))))))) zp)
  (qF (yU (jJ (uV Ve (qj 1) m_isinstance m_bool (by rfl))) (qP (wJ (WP (uV Ve (qj 0) m_isinstance m_bool (by rfl)) (WN (xm (jt hx) (qj 0) (qj 1) (by rfl)))))) zp)
  (qF (yU (jJ (uV qfd (qj 1) m_isinstance m_str (by rfl))) (qP (wJ (WP (uV qfd (qj 0) m_isinstance m_str (by rfl)) (WN (xm (jt hx) (qj 0) (qj 1) (by rfl)))))) zp)
  (qP (wJ (WP (uV qhT (qj 0) m_isinstance m_int (by rfl)) (WP (qg3 (uV Ve (qj 0) m_isinstance m_bool (by rfl))) (WN (xm (jt hx) (qj 0) (qj 1) (by rfl)))))))))))
abbrev yt : Stmt := topS 16
theorem Qz : FnScope ["_law_there", "_law_found", "_law_x", "_law_y"] ["_law_there"] (defScope yt) := ⟨rfl, rfl, rfl, by decide +kernel, rfl, by decide +kernel, by decide +kernel⟩
theorem Ua
 (hr : Room k (A.deeper (envOfC "_law_sides" (defScope yt) s.heap.objs.size f cdv))) :
 DSs (cxOf CX0 P w K mg base ["_law_there", "_law_found", "_law_x", "_law_y"] "_law_sides" (defScope yt) f cdv A outer s H E).nox (defBody yt) vh := by
 refine rk hr fun hx => ?_
 have nd := Qz.nd
 exact (qF (wQ nd qae)
  (qF (jY hx (qgZ 0) (xX hx (qQ (qL nd) (qQ (qL nd) yI))) (qF (yU (wO (Xn hx) (qJ (qb (qj 2) (qb (qI xQ (qj 3) qm) qp))) (Qs 0) (by rfl) Um) (qP (Z4 hx jU (qj 1) (qJ (qb (qJ (qb (qj 2) (qb (qj 3) qp))) (qb (qJ (qb qm (qb qm qp))) qp))))) zp)
  (qF (yU (wO (Xn hx) (qJ (qb (qI wI (qj 2) qm) (qb (qj 3) qp))) (Qs 0) (by rfl) Um) (qP (Z4 hx jU (qj 1) (qJ (qb (qJ (qb (qI wI (qj 2) qm) (qb (qj 3) qp))) (qb (qJ (qb qm (qb qm qp))) qp))))) zp)
  (qF (yU (wO (Xn hx) (qJ (qb (qj 2) (qb (qI wI (qj 3) qm) qp))) (Qs 0) (by rfl) Um) (qP (Z4 hx jU (qj 1) (qJ (qb (qJ (qb (qI wI (qj 2) qm) (qb (qI wI (qj 3) qm) qp))) (qb (qJ (qb (YM qm) (qb qm qp))) qp))))) zp)
  (qP (yU (wO (Xn hx) (qJ (qb (qI xQ (qj 2) qm) (qb (qj 3) qp))) (Qs 0) (by rfl) Um) (qP (Z4 hx jU (qj 1) (qJ (qb (qJ (qb (qj 2) (qb (qI wI (qj 3) qm) qp))) (qb (qJ (qb qm (qb (YM qm) qp))) qp))))) zp))))))
  (qP (wJ (qj 1)))))
abbrev zq : Stmt := topS 17
theorem vX : FnScope ["_law_ring", "_law_found", "_law_x", "_law_y", "_law_far_x", "_law_far_y", "_law_long", "_law_step", "_law_k"] ["_law_ring"] (defScope zq) := ⟨rfl, rfl, rfl, by decide +kernel, rfl, by decide +kernel, by decide +kernel⟩
theorem XN (m_zip : mg "zip" = none) (m_range : mg "range" = none) (m_abs : mg "abs" = none)
 (hr : Room k (A.deeper (envOfC "_law_walked" (defScope zq) s.heap.objs.size f cdv))) :
 DSs (cxOf CX0 P w K mg base ["_law_ring", "_law_found", "_law_x", "_law_y", "_law_far_x", "_law_far_y", "_law_long", "_law_step", "_law_k"] "_law_walked" (defScope zq) f cdv A outer s H E).nox (defBody zq) uH := by
 refine rk hr fun hx => ?_
 have nd := vX.nd
 exact (qF (wQ nd (yW qp))
  (qF (jY hx (qa3 (qj 0) (qI wI (xT (qj 0) (jK qm) jL) (xT (qj 0) jL (jK qm))) m_zip) (xX hx (qQ (xX hx (qQ (qL nd) (qQ (qL nd) yI))) (qQ (xX hx (qQ (qL nd) (qQ (qL nd) yI))) yI))) (qF (yU (wO (jt hx) (xm (jt hx) (qj 2) (qj 4) (by rfl)) (xm (jt hx) (qj 3) (qj 5) (by rfl)) (by rfl) Q4) (qP (wJ J8)) zp)
  (qF (wQ nd (qI wI (wC qa8 (by rfl) m_abs (by decide +kernel) (qb (qI xQ (qj 4) (qj 2)) qp)) (wC qa8 (by rfl) m_abs (by decide +kernel) (qb (qI xQ (qj 5) (qj 3)) qp))))
  (qF (wQ nd (qJ (qb (qI qcS (qI xQ (qj 4) (qj 2)) (qj 6)) (qb (qI qcS (qI xQ (qj 5) (qj 3)) (qj 6)) qp))))
  (qP (ug (Z6 (qj 1) (uh (own := [("_law_k", 8)]) (ts := [8]) hx nd (ji (qj 6) m_range) (blkOk_by (own := [("_law_k", 8)]) (N := ["_law_ring", "_law_found", "_law_x", "_law_y", "_law_far_x", "_law_far_y", "_law_long", "_law_step", "_law_k"]) (sc := defScope zq) (by decide +kernel)) (fun _ _ _ _ _ => (qL nd)) (fun _ _ _ _ _ => xJ) (fun _ _ _ _ _ => (qJ (qb (qJ (qb (qI wI (qj 2) (qI QL (qj 8) (wL (hx).blk (qj 7) qm))) (qb (qI wI (qj 3) (qI QL (qj 8) (wL (hx).blk (qj 7) qm))) qp))) (qb (qj 7) qp)))) (by decide)))))))))
  (qP (wJ (qj 1)))))
abbrev wD : Stmt := topS 18
theorem jV : FnScope ["_law_there", "_law_sides_here", "_law_ring", "_law_walked_here", "_law_point", "_law_step", "_law_before", "_law_ahead", "_law_side"] ["_law_there", "_law_sides_here", "_law_ring"] (defScope wD) := ⟨rfl, rfl, rfl, by decide +kernel, rfl, by decide +kernel, by decide +kernel⟩
theorem Wo {yF wg : FS} (F__law_kind : Fn P w K mg base "_law_kind" k ["_law_room_here", "_law_point"] yF) (F__law_walked : Fn P w K mg base "_law_walked" k ["_law_ring"] wg) (m_zip : mg "zip" = none) (m_all : mg "all" = none) (m_len : mg "len" = none)
 (hr : Room k (A.deeper (envOfC "_law_goes_round" (defScope wD) s.heap.objs.size f cdv))) :
 DSs (cxOf CX0 P w K mg base ["_law_there", "_law_sides_here", "_law_ring", "_law_walked_here", "_law_point", "_law_step", "_law_before", "_law_ahead", "_law_side"] "_law_goes_round" (defScope wD) f cdv A outer s H E).nox (defBody wD) (xZ yF wg) := by
 refine rk hr fun hx => ?_
 have nd := jV.nd
 exact (qF (wQ nd (zg F__law_walked hr (by rfl) (qb (qj 2) qp)))
  (qF (yU (DW.dt (Ym (wO qgq (qj 3) J8 (by rfl) qjf) (Ym (wO (qcQ hx) (wC uW (by rfl) m_len (by decide +kernel) (qb (qj 2) qp)) qm (by rfl) qdR) (WL (QX (jJ (wC (Uj hx) (by rfl) m_all (by decide +kernel) (qb (uh (own := [("_law_side", 8)]) (ts := [8]) hx nd (yO (qj 3)) (blkOk_by (own := [("_law_side", 8)]) (N := ["_law_there", "_law_sides_here", "_law_ring", "_law_walked_here", "_law_point", "_law_step", "_law_before", "_law_ahead", "_law_side"]) (sc := defScope wD) (by decide +kernel)) (fun _ _ _ _ _ => (qL nd)) (fun _ _ _ _ _ => xJ) (fun _ _ _ _ _ => (xm (qfn (hx).blk) (qj 8) (qj 1) (by rfl))) (by decide)) qp)))))))) (qP (wJ jU)) zp)
  (qF (qfF (jY hx (qgY (qdE (qj 3)) (qI wI (xT (qdE (qj 3)) (jK (YM qm)) jL) (xT (qdE (qj 3)) jL (jK (YM qm)))) m_zip) (xX hx (qQ (xX hx (qQ (qL nd) (qQ (qL nd) yI))) (qQ (xX hx (qQ (qL nd) (qQ (qL nd) yI))) yI))) (qF (yU (DW.dt (Ym (wO (Xo hx) (xm (qgr hx) (qj 4) (qj 2) (by rfl)) (xm (Xo hx) (qj 5) (qj 7) (by rfl)) (by rfl) qbN) (WL (wO (jt hx) (qj 5) (qJ (qb (qI xQ qm (wL hx (qj 7) qm)) (qb (qI xQ qm (wL hx (qj 7) qm)) qp))) (by rfl) Q4)))) (qP (wJ jU)) zp)
  (qP (yU (DW.dt (qfD (wO (jt hx) (zg F__law_kind hr (by rfl) (qb (Qs 0) (qb (qj 4) qp))) WM (by rfl) Q4) (qdA (wO (Xo hx) (qj 5) (qJ (qb (qI xQ qm (wL hx (qj 7) qm)) (qb (wL hx (qj 7) qm) qp))) (by rfl) qbN)))) (qP (wJ jU)) zp)))))
  (qP (wJ jU)))))
abbrev qT : Stmt := topS 19
theorem jm : FnScope ["_law_room_here", "_law_rings", "_law_there", "_law_sides_here", "_law_walked_here", "_law_ring", "_law_cell"] ["_law_room_here", "_law_rings"] (defScope qT) := ⟨rfl, rfl, rfl, by decide +kernel, rfl, by decide +kernel, by decide +kernel⟩
theorem Qu {wg wG yf : FS} (F__law_walked : Fn P w K mg base "_law_walked" k ["_law_ring"] wg) (F__law_goes_round : Fn P w K mg base "_law_goes_round" k ["_law_there", "_law_sides_here", "_law_ring"] wG) (F__law_sides : Fn P w K mg base "_law_sides" k ["_law_there"] yf) (m_len : mg "len" = none) (m_set : mg "set" = none) (m_all : mg "all" = none) (m_dict : mg "dict" = none)
 (hr : Room k (A.deeper (envOfC "_law_are_outlines" (defScope qT) s.heap.objs.size f cdv))) :
 DSs (cxOf CX0 P w K mg base ["_law_room_here", "_law_rings", "_law_there", "_law_sides_here", "_law_walked_here", "_law_ring", "_law_cell"] "_law_are_outlines" (defScope qT) f cdv A outer s H E).nox (defBody qT) (xG wg wG yf) := by
 refine rk hr fun hx => ?_
 have nd := jm.nd
 exact (qF (wQ nd (yd (qdK hx) (by rfl) m_dict (by decide +kernel) (qb (uh (own := [("_law_cell", 6)]) (ts := [6]) hx nd (yO (qj 0)) (blkOk_by (own := [("_law_cell", 6)]) (N := ["_law_room_here", "_law_rings", "_law_there", "_law_sides_here", "_law_walked_here", "_law_ring", "_law_cell"]) (sc := defScope qT) (by decide +kernel)) (fun _ _ _ _ _ => (qL nd)) (fun _ _ _ _ _ => xJ) (fun _ _ _ _ _ => (qJ (qb (qj 6) (qb jU qp)))) (by decide)) qp)))
  (qF (qi0 (wQ nd (zg F__law_sides hr (by rfl) (qb (Qs 2) qp))))
  (qF (yU (QX (jJ (wC (Uj hx) (by rfl) m_all (by decide +kernel) (qb (uh (own := [("_law_ring", 5)]) (ts := [5]) hx nd (yO (qj 1)) (blkOk_by (own := [("_law_ring", 5)]) (N := ["_law_room_here", "_law_rings", "_law_there", "_law_sides_here", "_law_walked_here", "_law_ring", "_law_cell"]) (sc := defScope qT) (by decide +kernel)) (fun _ _ _ _ _ => (qL nd)) (fun _ _ _ _ _ => xJ) (fun _ _ _ _ _ => (zg F__law_goes_round hr (by rfl) (qb (Qs 2) (qb (qj 3) (qb (qj 5) qp))))) (by decide)) qp)))) (qP (wJ jU)) zp)
  (qF (wQ nd (yW qp))
  (qF (jY hx (yO (qj 1)) (qL nd) (qP (ug (Z6 (qj 4) (zg F__law_walked hr (by rfl) (qb (qj 5) qp))))))
  (qP (wJ (WP (xm (jt hx) (wC uW (by rfl) m_len (by decide +kernel) (qb (qj 4) qp)) (wC qhh (by rfl) m_len (by decide +kernel) (qb (qj 3) qp)) (by rfl)) (WN (xm (jt hx) (qbI hx (qj 4) m_len m_set) (wC uW (by rfl) m_len (by decide +kernel) (qb (qj 4) qp)) (by rfl)))))))))))
abbrev wU : Stmt := topS 20
theorem vY : FnScope ["_law_rings", "_law_ring", "_law_point", "_law_at", "_law_one", "_law_other"] ["_law_rings"] (defScope wU) := ⟨rfl, rfl, rfl, by decide +kernel, rfl, by decide +kernel, by decide +kernel⟩
theorem XQ {qW : FS} (F__law_same : Fn P w K mg base "_law_same" k ["_law_found", "_law_due"] qW) (m_zip : mg "zip" = none) (m_all : mg "all" = none) (m_len : mg "len" = none) (m_range : mg "range" = none) (m_any : mg "any" = none) (m_int : mg "int" = none) (m_isinstance : mg "isinstance" = none) (m_tuple : mg "tuple" = none) (m_list : mg "list" = none)
 (hr : Room k (A.deeper (envOfC "_law_formed" (defScope wU) s.heap.objs.size f cdv))) :
 DSs (cxOf CX0 P w K mg base ["_law_rings", "_law_ring", "_law_point", "_law_at", "_law_one", "_law_other"] "_law_formed" (defScope wU) f cdv A outer s H E).nox (defBody wU) (uJ qW) := by
 refine rk hr fun hx => ?_
 have nd := vY.nd
 exact (qF (yU (DW.dt (Ym (QX (jJ (uV Y9 (qj 0) m_isinstance m_list (by rfl)))) (WL (QX (jJ (wC (Uj hx) (by rfl) m_all (by decide +kernel) (qb (uh (own := [("_law_ring", 1)]) (ts := [1]) hx nd (yO (qj 0)) (blkOk_by (own := [("_law_ring", 1)]) (N := ["_law_rings", "_law_ring", "_law_point", "_law_at", "_law_one", "_law_other"]) (sc := defScope wU) (by decide +kernel)) (fun _ _ _ _ _ => (qL nd)) (fun _ _ _ _ _ => xJ) (fun _ _ _ _ _ => (WP (uV W6 (qj 1) m_isinstance m_tuple (by rfl)) (WN (xm qbD (wC uW (by rfl) m_len (by decide +kernel) (qb (qj 1) qp)) qm (by rfl))))) (by decide)) qp))))))) (qP (wJ jU)) zp)
  (qF (jY hx (yO (qj 0)) (qL nd) (qF (jY hx (yO (qj 1)) (qL nd) (qP (yU (QX (jJ (zg F__law_same hr (by rfl) (qb (qj 2) (qb (qJ (qb (yd qa7 (by rfl) m_int (by decide +kernel) (qb (wL hx (qj 2) qm) qp)) (qb (yd qa7 (by rfl) m_int (by decide +kernel) (qb (wL hx (qj 2) qm) qp)) qp))) qp))))) (qP (wJ jU)) zp)))
  (qP (yU (jJ (wC (qi8 hx) (by rfl) m_any (by decide +kernel) (qb (uh (own := [("_law_at", 3)]) (ts := [3]) hx nd (ji (wC uW (by rfl) m_len (by decide +kernel) (qb (qj 1) qp)) m_range) (blkOk_by (own := [("_law_at", 3)]) (N := ["_law_rings", "_law_ring", "_law_point", "_law_at", "_law_one", "_law_other"]) (sc := defScope wU) (by decide +kernel)) (fun _ _ _ _ _ => (qL nd)) (fun _ _ _ _ _ => xJ) (fun _ _ _ _ _ => (xm (qfm (hx).blk) (qI wI (xT (qj 1) (jK (qj 3)) jL) (xT (qj 1) jL (jK (qj 3)))) (qj 1) (by rfl))) (by decide)) qp))) (qP (wJ jU)) zp))))
  (qP (wJ (wC (Uj hx) (by rfl) m_all (by decide +kernel) (qb (uh (own := [("_law_one", 4), ("_law_other", 5)]) (ts := [4, 5]) hx nd (qa3 (qj 0) (xT (qj 0) (jK qm) jL) m_zip) (blkOk_by (own := [("_law_one", 4), ("_law_other", 5)]) (N := ["_law_rings", "_law_ring", "_law_point", "_law_at", "_law_one", "_law_other"]) (sc := defScope wU) (by decide +kernel)) (fun _ _ _ _ _ => (xX (hx).blk (qQ (qL nd) (qQ (qL nd) yI)))) (fun _ _ _ _ _ => xJ) (fun _ _ _ _ _ => (xm (qfm (hx).blk) (qj 4) (qj 5) (by rfl))) (by decide)) qp))))))
abbrev qY : Stmt := topS 21
theorem jk : FnScope ["_law_frame", "_law_found", "_law_rings", "_law_cell"] [] (defScope qY) := ⟨rfl, rfl, rfl, by decide +kernel, rfl, by decide +kernel, by decide +kernel⟩
theorem Qt {qN : FS} (F__law_cells : Fn P w K mg base "_law_cells" k ["_law_x", "_law_y", "_law_wide", "_law_high"] qN) (m_tuple : mg "tuple" = none)
 (hr : Room k (A.deeper (envOfC "_law_at_the_bound" (defScope qY) s.heap.objs.size f cdv))) :
 DSs (cxOf CX0 P w K mg base ["_law_frame", "_law_found", "_law_rings", "_law_cell"] "_law_at_the_bound" (defScope qY) f cdv A outer s H E).nox (defBody qY) (xr qN) := by
 refine rk hr fun hx => ?_
 have nd := jk.nd
 exact (qF (XF (own := [("_law_cell", 3)]) (ts := [3]) hx nd (by rfl) (yO (zg F__law_cells hr (by rfl) (qb qm (qb qm (qb qm (qb qm qp)))))) (blkOk_by (own := [("_law_cell", 3)]) (N := ["_law_frame", "_law_found", "_law_rings", "_law_cell"]) (sc := defScope qY) (by decide +kernel)) (fun _ _ _ _ _ => (qL nd)) (fun _ _ _ _ _ => (uR (DW.dt (Ym (wO (qgr (hx).blk) qm (qj 3) (by rfl) qdS) (WL (wO (qgr (hx).blk) qm (qj 3) (by rfl) qdS)))))) (fun _ _ _ _ _ => (qj 3)) (by decide))
  (qF (wQ nd (yW (qb (qJ (qb (qJ (qb (qJ (qb qm (qb qm qp))) qp)) (qb (qg5 (yW (qb (qJ (qb (qJ (qb qm (qb qm qp))) (qb (qJ (qb qm (qb qm qp))) (qb (qJ (qb qm (qb qm qp))) (qb (qJ (qb qm (qb qm qp))) qp))))) qp))) qp))) qp)))
  (qF (ug (vK (qj 1) (qJ (qb (yd vQ (by rfl) m_tuple (by decide +kernel) (qb (zg F__law_cells hr (by rfl) (qb qm (qb qm (qb qm (qb qm qp))))) qp)) (qb (qg5 (yW (qb (qJ (qb (qJ (qb qm (qb qm qp))) (qb (qJ (qb qm (qb qm qp))) (qb (qJ (qb qm (qb qm qp))) (qb (qJ (qb qm (qb qm qp))) qp))))) qp))) qp)))))
  (qF (ug (vK (qj 1) (qJ (qb (yd vQ (by rfl) m_tuple (by decide +kernel) (qb (zg F__law_cells hr (by rfl) (qb qm (qb qm (qb qm (qb qm qp))))) qp)) (qb (qg5 (yW (qb (qJ (qb (qJ (qb qm (qb qm qp))) (qb (qJ (qb qm (qb qm qp))) (qb (qJ (qb qm (qb qm qp))) (qb (qJ (qb qm (qb qm qp))) qp))))) qp))) qp)))))
  (qF (wQ nd (yW (qb (qJ (qb (qJ (qb qm (qb qm qp))) (qb (qJ (qb qm (qb qm qp))) (qb (qJ (qb qm (qb qm qp))) (qb (qJ (qb qm (qb qm qp))) qp))))) (qb (qJ (qb (qJ (qb qm (qb qm qp))) (qb (qJ (qb qm (qb qm qp))) (qb (qJ (qb qm (qb qm qp))) (qb (qJ (qb qm (qb qm qp))) qp))))) qp))))
  (qP (qfF (wJ (qI wI (qj 1) (yW (qb (qJ (qb (yd vQ (by rfl) m_tuple (by decide +kernel) (qb (qj 0) qp)) (qb (qj 2) qp))) qp)))))))))))
abbrev ZD : Stmt := topS 22
theorem qfg : FnScope ["_law_script", "_law_room_here", "_law_rings", "_law_k", "_law_tape_here", "_law_found", "_law_kept"] ["_law_script"] (defScope ZD) := ⟨rfl, rfl, rfl, by decide +kernel, rfl, by decide +kernel, by decide +kernel⟩
theorem qkw {qW yr wu zA yE qG yD wj : FS} (F__law_same : Fn P w K mg base "_law_same" k ["_law_found", "_law_due"] qW) (F_outlines : Fn P w K mg base "outlines" k ["room"] yr) (F__law_are_outlines : Fn P w K mg base "_law_are_outlines" k ["_law_room_here", "_law_rings"] wu) (F__law_formed : Fn P w K mg base "_law_formed" k ["_law_rings"] zA) (F__law_room : Fn P w K mg base "_law_room" k ["_law_tape_here", "_law_great"] yE) (F__law_draw : Fn P w K mg base "_law_draw" k ["_law_tape_here", "_law_many"] qG) (F__law_tape : Fn P w K mg base "_law_tape" k ["_law_script", "_law_k"] yD) (F__law_at_the_bound : Fn P w K mg base "_law_at_the_bound" k [] wj) (m_len : mg "len" = none) (m_min : mg "min" = none) (m_range : mg "range" = none) (m_list : mg "list" = none)
 (hr : Room k (A.deeper (envOfC "law" (defScope ZD) s.heap.objs.size f cdv))) :
 DSs (cxOf CX0 P w K mg base ["_law_script", "_law_room_here", "_law_rings", "_law_k", "_law_tape_here", "_law_found", "_law_kept"] "law" (defScope ZD) f cdv A outer s H E).nox (defBody ZD) (qf3 qW yr wu zA yE qG yD wj) := by
 refine rk hr fun hx => ?_
 have nd := qfg.nd
 exact (qF (jY hx (yO (qi4 F__law_at_the_bound hr (by rfl))) (xX hx (qQ (qL nd) (qQ (qL nd) yI))) (qP (yU (QX (jJ (zg F__law_same hr (by rfl) (qb (zg F_outlines hr (by rfl) (qb (qj 1) qp)) (qb (qg2 (qj 2)) qp))))) (qP (wJ jU)) zp)))
  (qF (jY hx (ji (qI wI qm (wC (qhf hx) (by rfl) m_min (by decide +kernel) (qb qm (qb (wC uW (by rfl) m_len (by decide +kernel) (qb (qj 0) qp)) qp)))) m_range) (qL nd) (qF (wQ nd (zg F__law_tape hr (by rfl) (qb (qj 0) (qb (qj 3) qp))))
  (qF (wQ nd (zg F__law_room hr (by rfl) (qb (qj 4) (qb (xm (jt hx) (zg F__law_draw hr (by rfl) (qb (qj 4) (qb qm qp))) qm (by rfl)) qp))))
  (qF (wQ nd (zg F_outlines hr (by rfl) (qb (qj 1) qp)))
  (qF (yU (DW.dt (Ym (QX (jJ (zg F__law_formed hr (by rfl) (qb (qj 5) qp)))) (WL (QX (jJ (zg F__law_are_outlines hr (by rfl) (qb (qj 1) (qb (qj 5) qp)))))))) (qP (wJ jU)) zp)
  (qF (wQ nd (yd qhg (by rfl) m_list (by decide +kernel) (qb (qj 5) qp)))
  (qF (ug (vK (qj 5) (qJ qp)))
  (qP (yU (QX (jJ (zg F__law_same hr (by rfl) (qb (zg F_outlines hr (by rfl) (qb (qj 1) qp)) (qb (qj 6) qp))))) (qP (wJ jU)) zp)))))))))
  (qP (wJ jU))))
end
end K34
namespace K34
open PySem PySem.Spec PyProof.Rows L2 BX TX COM BC
theorem UT : ∀ ds Q, qW.wp ds Q → (uY 4).wp ds Q := fun ds Q h => by
 obtain ⟨⟨x, y⟩, kr, rfl, ⟨hxy, hs, h⟩, q⟩ := h
 have hxy : x = y := hxy
 subst hxy
 exact ⟨x, rfl, hs, q true h⟩
section
theorem ym {P : Program} {w : World} {K : PySem.W.Frag} {mg : Str → Option Value} {base : Heap} {x y : Str} {st : Stmt} {f : Addr} {fd : FuncData} {ps : List Str} {k : Nat} {S : FS} (F : Fun K y y st f fd) (ok : FnOk P w K mg base CX0 k f fd ps (spOf K S)) (hm : mg x = some (.ref f)) (hb : Binds K fd ps []) (mo : qbV S) : Fn P w K mg base x k ps S :=
 ⟨⟨f, fd, ok, hm, F.kp, hb⟩, mo⟩
theorem jj {P : Program} {w : World} {K : PySem.W.Frag} {mg : Str → Option Value} {base : Heap} {x : Str} {ps : List Str} {j k : Nat} {S : FS} (F : Fn P w K mg base x j ps S) (h : j ≤ k) : Fn P w K mg base x k ps S :=
 let ⟨f, fd, a, b⟩ := F.ex; ⟨⟨f, fd, a.mono h, b⟩, F.mono⟩
theorem sp_law {K : PySem.W.Frag} {H : Hp} {a : Addr} {ns : List Int} (hs : SqL K H a (ns.map V.int)) {E : XK} : spOf K Us [.ref a] H (fun v _ => v = .bl true) E := by
 have ri : ∀ ns : List Int, Reps K H 2 (ns.map D.int) (ns.map V.int) [] := fun ns => by
  induction ns with
  | nil => exact .nil
  | cons n ns ih => exact .cons (f := []) (g := []) (.int n) ih fun z => by cases z
 have rp : ∃ g, Rep K H 2 (.lst (ns.map D.int)) (.ref a) g := by
  rcases hs with (h | ⟨o, h⟩) | h
  ·exact ⟨_, .lst h (ri ns) fun z => by cases z⟩
  ·exact ⟨_, .lstF (Nat.le_refl _) (.inl ⟨o, h⟩) (ri ns)⟩
  ·exact ⟨_, .lstF (Nat.le_refl _) (.inr h) (ri ns)⟩
 obtain ⟨g, rp⟩ := rp
 refine ⟨rfl, [.lst (ns.map .int)], fun _ => g, rfl, ⟨fun i d m e => ?_, fun i j d m d' m' hij e1 e2 => ?_, rfl⟩, ns, fun b => b = true, rfl, qkr ns rfl, ?_⟩
 ·match i, e with
  | 0, e => cases e; exact ⟨_, rfl, rp⟩
  | i + 1, e => simp [penv, Us, mkS] at e
 ·match i, j, e1, e2 with
  | 0, 0, _, _ => exact absurd rfl hij
  | 0, j + 1, _, e2 => simp [penv, Us, mkS] at e2
  | i + 1, _, e1, _ => simp [penv, Us, mkS] at e1
 ·intro b hb v H' f' g' _ _ r _ _ _
  subst hb
  cases r
  rfl
end
set_option maxHeartbeats 0 in
theorem qjj {l : PySem.W.OpenLaw} {w : World} {K : PySem.W.Frag} {h : Heap} {mg : Str → Option Value} {fa f1 f2 f3 f4 f5 f6 f7 f8 f9 f10 f11 f12 f13 f14 f15 f16 f17 f18 f19 f20 : Addr} (X : K.In h) (G : h.Ns mainGlobals mg) (hfa : mg "law" = some (.ref fa))
 {od1 an1 od2 an2 od3 an3 od4 an4 od5 an5 od6 an6 od7 an7 od8 an8 od9 an9 od10 an10 od11 an11 od12 an12 od13 an13 od14 an14 od15 an15 od16 an16 od17 an17 od18 an18 od19 an19 od20 an20 : Option Addr} {sl1 sl2 sl3 sl4 sl5 sl6 sl7 sl8 sl9 sl10 sl11 sl12 sl13 sl14 sl15 sl16 sl17 sl18 sl19 sl20 : Array (Option Value)} {oc1 kV1 dc1 pm1 cd1 ct1 oc2 kV2 dc2 pm2 cd2 ct2 oc3 kV3 dc3 pm3 cd3 ct3 oc4 kV4 dc4 pm4 cd4 ct4 oc5 kV5 dc5 pm5 cd5 ct5 oc6 kV6 dc6 pm6 cd6 ct6 oc7 kV7 dc7 pm7 cd7 ct7 oc8 kV8 dc8 pm8 cd8 ct8 oc9 kV9 dc9 pm9 cd9 ct9 oc10 kV10 dc10 pm10 cd10 ct10 oc11 kV11 dc11 pm11 cd11 ct11 oc12 kV12 dc12 pm12 cd12 ct12 oc13 kV13 dc13 pm13 cd13 ct13 oc14 kV14 dc14 pm14 cd14 ct14 oc15 kV15 dc15 pm15 cd15 ct15 oc16 kV16 dc16 pm16 cd16 ct16 oc17 kV17 dc17 pm17 cd17 ct17 oc18 kV18 dc18 pm18 cd18 ct18 oc19 kV19 dc19 pm19 cd19 ct19 oc20 kV20 dc20 pm20 cd20 ct20 : Value}
 (a1 : PySem.W.nsIn K mainGlobals "sides_of" = some (some (.ref f1))) (l1 : K.lookup f1 = some ⟨oc1, od1, .func (PySem.W.fnOf "sides_of" "sides_of" (defArgs yR) (defBody yR) (defScope yR) .none kV1 dc1 pm1 an1 cd1 ct1), sl1⟩) (c1 : PySem.W.codeIn K cd1 "sides_of" = true) (k1 : PySem.W.keepIn K (.ref f1) = true)
 (a2 : PySem.W.nsIn K mainGlobals "side_behind" = some (some (.ref f2))) (l2 : K.lookup f2 = some ⟨oc2, od2, .func (PySem.W.fnOf "side_behind" "side_behind" (defArgs zU) (defBody zU) (defScope zU) .none kV2 dc2 pm2 an2 cd2 ct2), sl2⟩) (c2 : PySem.W.codeIn K cd2 "side_behind" = true) (k2 : PySem.W.keepIn K (.ref f2) = true)
 (a3 : PySem.W.nsIn K mainGlobals "sides_round" = some (some (.ref f3))) (l3 : K.lookup f3 = some ⟨oc3, od3, .func (PySem.W.fnOf "sides_round" "sides_round" (defArgs zQ) (defBody zQ) (defScope zQ) .none kV3 dc3 pm3 an3 cd3 ct3), sl3⟩) (c3 : PySem.W.codeIn K cd3 "sides_round" = true) (k3 : PySem.W.keepIn K (.ref f3) = true)
 (a4 : PySem.W.nsIn K mainGlobals "corners_of" = some (some (.ref f4))) (l4 : K.lookup f4 = some ⟨oc4, od4, .func (PySem.W.fnOf "corners_of" "corners_of" (defArgs zW) (defBody zW) (defScope zW) .none kV4 dc4 pm4 an4 cd4 ct4), sl4⟩) (c4 : PySem.W.codeIn K cd4 "corners_of" = true) (k4 : PySem.W.keepIn K (.ref f4) = true)
 (a5 : PySem.W.nsIn K mainGlobals "least_turned" = some (some (.ref f5))) (l5 : K.lookup f5 = some ⟨oc5, od5, .func (PySem.W.fnOf "least_turned" "least_turned" (defArgs wW) (defBody wW) (defScope wW) .none kV5 dc5 pm5 an5 cd5 ct5), sl5⟩) (c5 : PySem.W.codeIn K cd5 "least_turned" = true) (k5 : PySem.W.keepIn K (.ref f5) = true)
 (a6 : PySem.W.nsIn K mainGlobals "outlines" = some (some (.ref f6))) (l6 : K.lookup f6 = some ⟨oc6, od6, .func (PySem.W.fnOf "outlines" "outlines" (defArgs yS) (defBody yS) (defScope yS) .none kV6 dc6 pm6 an6 cd6 ct6), sl6⟩) (c6 : PySem.W.codeIn K cd6 "outlines" = true) (k6 : PySem.W.keepIn K (.ref f6) = true)
 (a7 : PySem.W.nsIn K mainGlobals "_law_tape" = some (some (.ref f7))) (l7 : K.lookup f7 = some ⟨oc7, od7, .func (PySem.W.fnOf "_law_tape" "_law_tape" (defArgs yK) (defBody yK) (defScope yK) .none kV7 dc7 pm7 an7 cd7 ct7), sl7⟩) (c7 : PySem.W.codeIn K cd7 "_law_tape" = true) (k7 : PySem.W.keepIn K (.ref f7) = true)
 (a8 : PySem.W.nsIn K mainGlobals "_law_draw" = some (some (.ref f8))) (l8 : K.lookup f8 = some ⟨oc8, od8, .func (PySem.W.fnOf "_law_draw" "_law_draw" (defArgs yL) (defBody yL) (defScope yL) .none kV8 dc8 pm8 an8 cd8 ct8), sl8⟩) (c8 : PySem.W.codeIn K cd8 "_law_draw" = true) (k8 : PySem.W.keepIn K (.ref f8) = true)
 (a9 : PySem.W.nsIn K mainGlobals "_law_cells" = some (some (.ref f9))) (l9 : K.lookup f9 = some ⟨oc9, od9, .func (PySem.W.fnOf "_law_cells" "_law_cells" (defArgs zX) (defBody zX) (defScope zX) .none kV9 dc9 pm9 an9 cd9 ct9), sl9⟩) (c9 : PySem.W.codeIn K cd9 "_law_cells" = true) (k9 : PySem.W.keepIn K (.ref f9) = true)
 (a10 : PySem.W.nsIn K mainGlobals "_law_shape" = some (some (.ref f10))) (l10 : K.lookup f10 = some ⟨oc10, od10, .func (PySem.W.fnOf "_law_shape" "_law_shape" (defArgs wz) (defBody wz) (defScope wz) .none kV10 dc10 pm10 an10 cd10 ct10), sl10⟩) (c10 : PySem.W.codeIn K cd10 "_law_shape" = true) (k10 : PySem.W.keepIn K (.ref f10) = true)
 (a11 : PySem.W.nsIn K mainGlobals "_law_room" = some (some (.ref f11))) (l11 : K.lookup f11 = some ⟨oc11, od11, .func (PySem.W.fnOf "_law_room" "_law_room" (defArgs yx) (defBody yx) (defScope yx) .none kV11 dc11 pm11 an11 cd11 ct11), sl11⟩) (c11 : PySem.W.codeIn K cd11 "_law_room" = true) (k11 : PySem.W.keepIn K (.ref f11) = true)
 (a12 : PySem.W.nsIn K mainGlobals "_law_kind" = some (some (.ref f12))) (l12 : K.lookup f12 = some ⟨oc12, od12, .func (PySem.W.fnOf "_law_kind" "_law_kind" (defArgs yz) (defBody yz) (defScope yz) .none kV12 dc12 pm12 an12 cd12 ct12), sl12⟩) (c12 : PySem.W.codeIn K cd12 "_law_kind" = true) (k12 : PySem.W.keepIn K (.ref f12) = true)
 (a13 : PySem.W.nsIn K mainGlobals "_law_same" = some (some (.ref f13))) (l13 : K.lookup f13 = some ⟨oc13, od13, .func (PySem.W.fnOf "_law_same" "_law_same" (defArgs yw) (defBody yw) (defScope yw) .none kV13 dc13 pm13 an13 cd13 ct13), sl13⟩) (c13 : PySem.W.codeIn K cd13 "_law_same" = true) (k13 : PySem.W.keepIn K (.ref f13) = true)
 (a14 : PySem.W.nsIn K mainGlobals "_law_sides" = some (some (.ref f14))) (l14 : K.lookup f14 = some ⟨oc14, od14, .func (PySem.W.fnOf "_law_sides" "_law_sides" (defArgs yt) (defBody yt) (defScope yt) .none kV14 dc14 pm14 an14 cd14 ct14), sl14⟩) (c14 : PySem.W.codeIn K cd14 "_law_sides" = true) (k14 : PySem.W.keepIn K (.ref f14) = true)
 (a15 : PySem.W.nsIn K mainGlobals "_law_walked" = some (some (.ref f15))) (l15 : K.lookup f15 = some ⟨oc15, od15, .func (PySem.W.fnOf "_law_walked" "_law_walked" (defArgs zq) (defBody zq) (defScope zq) .none kV15 dc15 pm15 an15 cd15 ct15), sl15⟩) (c15 : PySem.W.codeIn K cd15 "_law_walked" = true) (k15 : PySem.W.keepIn K (.ref f15) = true)
 (a16 : PySem.W.nsIn K mainGlobals "_law_goes_round" = some (some (.ref f16))) (l16 : K.lookup f16 = some ⟨oc16, od16, .func (PySem.W.fnOf "_law_goes_round" "_law_goes_round" (defArgs wD) (defBody wD) (defScope wD) .none kV16 dc16 pm16 an16 cd16 ct16), sl16⟩) (c16 : PySem.W.codeIn K cd16 "_law_goes_round" = true) (k16 : PySem.W.keepIn K (.ref f16) = true)
 (a17 : PySem.W.nsIn K mainGlobals "_law_are_outlines" = some (some (.ref f17))) (l17 : K.lookup f17 = some ⟨oc17, od17, .func (PySem.W.fnOf "_law_are_outlines" "_law_are_outlines" (defArgs qT) (defBody qT) (defScope qT) .none kV17 dc17 pm17 an17 cd17 ct17), sl17⟩) (c17 : PySem.W.codeIn K cd17 "_law_are_outlines" = true) (k17 : PySem.W.keepIn K (.ref f17) = true)
 (a18 : PySem.W.nsIn K mainGlobals "_law_formed" = some (some (.ref f18))) (l18 : K.lookup f18 = some ⟨oc18, od18, .func (PySem.W.fnOf "_law_formed" "_law_formed" (defArgs wU) (defBody wU) (defScope wU) .none kV18 dc18 pm18 an18 cd18 ct18), sl18⟩) (c18 : PySem.W.codeIn K cd18 "_law_formed" = true) (k18 : PySem.W.keepIn K (.ref f18) = true)
 (a19 : PySem.W.nsIn K mainGlobals "_law_at_the_bound" = some (some (.ref f19))) (l19 : K.lookup f19 = some ⟨oc19, od19, .func (PySem.W.fnOf "_law_at_the_bound" "_law_at_the_bound" (defArgs qY) (defBody qY) (defScope qY) .none kV19 dc19 pm19 an19 cd19 ct19), sl19⟩) (c19 : PySem.W.codeIn K cd19 "_law_at_the_bound" = true) (k19 : PySem.W.keepIn K (.ref f19) = true)
 (a20 : PySem.W.nsIn K mainGlobals "law" = some (some (.ref f20))) (l20 : K.lookup f20 = some ⟨oc20, od20, .func (PySem.W.fnOf "law" "law" (defArgs ZD) (defBody ZD) (defScope ZD) .none kV20 dc20 pm20 an20 cd20 ct20), sl20⟩) (c20 : PySem.W.codeIn K cd20 "law" = true) (k20 : PySem.W.keepIn K (.ref f20) = true)
 {tk0 : Tok} {tk1 : Tok} {ad2 : Addr} {tk3 : Tok} {tk4 : Tok} {ad5 : Addr} {tk6 : Tok} {tk7 : Tok} {ad8 : Addr} {tk9 : Tok} {tk10 : Tok} {ad11 : Addr} {ad12 : Addr} {go2 : Option Addr} {gn2 : Nat} {gs2 : Array (Option Value)} {go5 : Option Addr} {gn5 : Nat} {gs5 : Array (Option Value)} {go8 : Option Addr} {gn8 : Nat} {gs8 : Array (Option Value)} {go11 : Option Addr} {gn11 : Nat} {gs11 : Array (Option Value)} {go12 : Option Addr} {gn12 : Nat} {gs12 : Array (Option Value)}
 (ggSTEPS : PySem.W.nsIn K mainGlobals "STEPS" = some (some (.ref ad12)))
 (gl12 : K.lookup ad12 = some ⟨.type "tuple", go12, .seq #[.ref ad2, .ref ad5, .ref ad8, .ref ad11] gn12, gs12⟩)
 (gl11 : K.lookup ad11 = some ⟨.type "tuple", go11, .seq #[.int 0 tk9, .int (-1) tk10] gn11, gs11⟩)
 (gl8 : K.lookup ad8 = some ⟨.type "tuple", go8, .seq #[.int (-1) tk6, .int 0 tk7] gn8, gs8⟩)
 (gl5 : K.lookup ad5 = some ⟨.type "tuple", go5, .seq #[.int 0 tk3, .int 1 tk4] gn5, gs5⟩)
 (gl2 : K.lookup ad2 = some ⟨.type "tuple", go2, .seq #[.int 1 tk0, .int 0 tk1] gn2, gs2⟩)
 (z1 : PySem.W.nsIn K mainGlobals "enumerate" = some none)
 (z2 : PySem.W.nsIn K mainGlobals "dict" = some none)
 (z3 : PySem.W.nsIn K mainGlobals "zip" = some none)
 (z4 : PySem.W.nsIn K mainGlobals "min" = some none)
 (z5 : PySem.W.nsIn K mainGlobals "len" = some none)
 (z6 : PySem.W.nsIn K mainGlobals "range" = some none)
 (z7 : PySem.W.nsIn K mainGlobals "tuple" = some none)
 (z8 : PySem.W.nsIn K mainGlobals "sorted" = some none)
 (z9 : PySem.W.nsIn K mainGlobals "abs" = some none)
 (z10 : PySem.W.nsIn K mainGlobals "int" = some none)
 (z11 : PySem.W.nsIn K mainGlobals "isinstance" = some none)
 (z12 : PySem.W.nsIn K mainGlobals "bool" = some none)
 (z13 : PySem.W.nsIn K mainGlobals "str" = some none)
 (z14 : PySem.W.nsIn K mainGlobals "list" = some none)
 (z15 : PySem.W.nsIn K mainGlobals "all" = some none)
 (z16 : PySem.W.nsIn K mainGlobals "set" = some none)
 (z17 : PySem.W.nsIn K mainGlobals "any" = some none)
 : ∃ fd : FuncData, (∀ (s : Shared) (v : Value), BindsTo s fd ⟨[v], []⟩ [("_law_script", v)]) ∧ ∀ base : Heap, K.In base → base.Ns mainGlobals mg → FnOk l.prog w K mg base CX0 6 fa fd ["_law_script"] (spOf K Us) := by
 have e := hfa.symm.trans (PySem.W.mg_of X G a20)
 cases e
 have U1 := fun_mk (st := yR) l1 c1 k1
 have U2 := fun_mk (st := zU) l2 c2 k2
 have U3 := fun_mk (st := zQ) l3 c3 k3
 have U4 := fun_mk (st := zW) l4 c4 k4
 have U5 := fun_mk (st := wW) l5 c5 k5
 have U6 := fun_mk (st := yS) l6 c6 k6
 have U7 := fun_mk (st := yK) l7 c7 k7
 have U8 := fun_mk (st := yL) l8 c8 k8
 have U9 := fun_mk (st := zX) l9 c9 k9
 have U10 := fun_mk (st := wz) l10 c10 k10
 have U11 := fun_mk (st := yx) l11 c11 k11
 have U12 := fun_mk (st := yz) l12 c12 k12
 have U13 := fun_mk (st := yw) l13 c13 k13
 have U14 := fun_mk (st := yt) l14 c14 k14
 have U15 := fun_mk (st := zq) l15 c15 k15
 have U16 := fun_mk (st := wD) l16 c16 k16
 have U17 := fun_mk (st := qT) l17 c17 k17
 have U18 := fun_mk (st := wU) l18 c18 k18
 have U19 := fun_mk (st := qY) l19 c19 k19
 have U20 := fun_mk (st := ZD) l20 c20 k20
 have b1 := U1.binds (ps := ["room"]) fun _ _ _ _ _ _ us hl => match us, hl with | [_], _ => rfl
 have b2 := U2.binds (ps := ["sides", "side"]) fun _ _ _ _ _ _ us hl => match us, hl with | [_, _], _ => rfl
 have b3 := U3.binds (ps := ["sides", "first"]) fun _ _ _ _ _ _ us hl => match us, hl with | [_, _], _ => rfl
 have b4 := U4.binds (ps := ["met"]) fun _ _ _ _ _ _ us hl => match us, hl with | [_], _ => rfl
 have b5 := U5.binds (ps := ["points"]) fun _ _ _ _ _ _ us hl => match us, hl with | [_], _ => rfl
 have b6 := U6.binds (ps := ["room"]) fun _ _ _ _ _ _ us hl => match us, hl with | [_], _ => rfl
 have b7 := U7.binds (ps := ["_law_script", "_law_k"]) fun _ _ _ _ _ _ us hl => match us, hl with | [_, _], _ => rfl
 have b8 := U8.binds (ps := ["_law_tape_here", "_law_many"]) fun _ _ _ _ _ _ us hl => match us, hl with | [_, _], _ => rfl
 have b9 := U9.binds (ps := ["_law_x", "_law_y", "_law_wide", "_law_high"]) fun _ _ _ _ _ _ us hl => match us, hl with | [_, _, _, _], _ => rfl
 have b10 := U10.binds (ps := ["_law_tape_here", "_law_wide", "_law_high"]) fun _ _ _ _ _ _ us hl => match us, hl with | [_, _, _], _ => rfl
 have b11 := U11.binds (ps := ["_law_tape_here", "_law_great"]) fun _ _ _ _ _ _ us hl => match us, hl with | [_, _], _ => rfl
 have b12 := U12.binds (ps := ["_law_room_here", "_law_point"]) fun _ _ _ _ _ _ us hl => match us, hl with | [_, _], _ => rfl
 have b13 := U13.binds (ps := ["_law_found", "_law_due"]) fun _ _ _ _ _ _ us hl => match us, hl with | [_, _], _ => rfl
 have b14 := U14.binds (ps := ["_law_there"]) fun _ _ _ _ _ _ us hl => match us, hl with | [_], _ => rfl
 have b15 := U15.binds (ps := ["_law_ring"]) fun _ _ _ _ _ _ us hl => match us, hl with | [_], _ => rfl
 have b16 := U16.binds (ps := ["_law_there", "_law_sides_here", "_law_ring"]) fun _ _ _ _ _ _ us hl => match us, hl with | [_, _, _], _ => rfl
 have b17 := U17.binds (ps := ["_law_room_here", "_law_rings"]) fun _ _ _ _ _ _ us hl => match us, hl with | [_, _], _ => rfl
 have b18 := U18.binds (ps := ["_law_rings"]) fun _ _ _ _ _ _ us hl => match us, hl with | [_], _ => rfl
 have b19 := U19.binds (ps := []) fun _ _ _ _ _ _ us hl => match us, hl with | [], _ => rfl
 have b20 := U20.binds (ps := ["_law_script"]) fun _ _ _ _ _ _ us hl => match us, hl with | [_], _ => rfl
 have g_STEPS : Gv K mg "STEPS" X6 := ⟨_, PySem.W.mg_of X G ggSTEPS, (JV gl12 rfl rfl (show 4 ≤ sizeLine by decide) (xq (JV gl2 rfl rfl (show 2 ≤ sizeLine by decide) (xq (WK _ _) (xq (WK _ _) ZX))) (xq (JV gl5 rfl rfl (show 2 ≤ sizeLine by decide) (xq (WK _ _) (xq (WK _ _) ZX))) (xq (JV gl8 rfl rfl (show 2 ≤ sizeLine by decide) (xq (WK _ _) (xq (WK _ _) ZX))) (xq (JV gl11 rfl rfl (show 2 ≤ sizeLine by decide) (xq (WK _ _) (xq (WK _ _) ZX))) ZX)))))⟩
 have m_enumerate := PySem.W.mg_none_of X G z1
 have m_dict := PySem.W.mg_none_of X G z2
 have m_zip := PySem.W.mg_none_of X G z3
 have m_min := PySem.W.mg_none_of X G z4
 have m_len := PySem.W.mg_none_of X G z5
 have m_range := PySem.W.mg_none_of X G z6
 have m_tuple := PySem.W.mg_none_of X G z7
 have m_sorted := PySem.W.mg_none_of X G z8
 have m_abs := PySem.W.mg_none_of X G z9
 have m_int := PySem.W.mg_none_of X G z10
 have m_isinstance := PySem.W.mg_none_of X G z11
 have m_bool := PySem.W.mg_none_of X G z12
 have m_str := PySem.W.mg_none_of X G z13
 have m_list := PySem.W.mg_none_of X G z14
 have m_all := PySem.W.mg_none_of X G z15
 have m_set := PySem.W.mg_none_of X G z16
 have m_any := PySem.W.mg_none_of X G z17
 refine ⟨PySem.W.fnOf "law" "law" (defArgs ZD) (defBody ZD) (defScope ZD) .none kV20 dc20 pm20 an20 cd20 ct20, fun s v => .of_eq rfl, fun base _ _ => ?_⟩
 have F_sides_of : Fn l.prog w K mg base "sides_of" 1 ["room"] yV := ym U1 (yo (k := 0) (S := yV) U1 Zz rfl (by decide) (fun _ _ _ _ _ _ hr => qbK m_enumerate m_dict hr) qbu) (PySem.W.mg_of X G a1) b1 zr
 have F_side_behind : Fn l.prog w K mg base "side_behind" 1 ["sides", "side"] w6 := ym U2 (yo (k := 0) (S := w6) U2 vW rfl (by decide) (fun _ _ _ _ _ _ hr => XM g_STEPS hr) Y5) (PySem.W.mg_of X G a2) b2 zr
 have F_sides_round : Fn l.prog w K mg base "sides_round" 2 ["sides", "first"] zu := ym U3 (yo (k := 1) (S := zu) U3 vU rfl (by decide) (fun _ _ _ _ _ _ hr => XJ (jj F_side_behind (by decide : 1 ≤ 1)) hr) Y4) (PySem.W.mg_of X G a3) b3 zr
 have F_corners_of : Fn l.prog w K mg base "corners_of" 1 ["met"] ye := ym U4 (yo (k := 0) (S := ye) U4 Qy rfl (by decide) (fun _ _ _ _ _ _ hr => J9 m_zip hr) Jj) (PySem.W.mg_of X G a4) b4 zr
 have F_least_turned : Fn l.prog w K mg base "least_turned" 1 ["points"] za := ym U5 (yo (k := 0) (S := za) U5 vz rfl (by decide) (fun _ _ _ _ _ _ hr => Yn m_min m_len m_range m_tuple hr) Yd) (PySem.W.mg_of X G a5) b5 zr
 have F_outlines : Fn l.prog w K mg base "outlines" 3 ["room"] yr := ym U6 (yo (k := 2) (S := yr) U6 ZC rfl (by decide) (fun _ _ _ _ _ _ hr => qbL (jj F_least_turned (by decide : 1 ≤ 2)) (jj F_corners_of (by decide : 1 ≤ 2)) (jj F_sides_round (by decide : 2 ≤ 2)) (jj F_sides_of (by decide : 1 ≤ 2)) m_sorted m_dict hr) qbv) (PySem.W.mg_of X G a6) b6 zr
 have F__law_tape : Fn l.prog w K mg base "_law_tape" 1 ["_law_script", "_law_k"] yD := ym U7 (yo (k := 0) (S := yD) U7 Wt rfl (by decide) (fun _ _ _ _ _ _ hr => qaf m_abs m_int m_len hr) UV) (PySem.W.mg_of X G a7) b7 zr
 have F__law_draw : Fn l.prog w K mg base "_law_draw" 1 ["_law_tape_here", "_law_many"] qG := ym U8 (yo (k := 0) (S := qG) U8 Wx rfl (by decide) (fun _ _ _ _ _ _ hr => qaj  hr) Vb) (PySem.W.mg_of X G a8) b8 zr
 have F__law_cells : Fn l.prog w K mg base "_law_cells" 1 ["_law_x", "_law_y", "_law_wide", "_law_high"] qN := ym U9 (yo (k := 0) (S := qN) U9 QD rfl (by decide) (fun _ _ _ _ _ _ hr => Uc m_range hr) Jm) (PySem.W.mg_of X G a9) b9 zr
 have F__law_shape : Fn l.prog w K mg base "_law_shape" 2 ["_law_tape_here", "_law_wide", "_law_high"] yg := ym U10 (yo (k := 1) (S := yg) U10 QC rfl (by decide) (fun _ _ _ _ _ _ hr => Ub (jj F__law_draw (by decide : 1 ≤ 1)) (jj F__law_cells (by decide : 1 ≤ 1)) m_range hr) Jl) (PySem.W.mg_of X G a10) b10 zr
 have F__law_room : Fn l.prog w K mg base "_law_room" 3 ["_law_tape_here", "_law_great"] yE := ym U11 (yo (k := 2) (S := yE) U11 Wv rfl (by decide) (fun _ _ _ _ _ _ hr => qah (jj F__law_draw (by decide : 1 ≤ 2)) (jj F__law_cells (by decide : 1 ≤ 2)) (jj F__law_shape (by decide : 2 ≤ 2)) m_sorted m_tuple hr) UW) (PySem.W.mg_of X G a11) b11 zr
 have F__law_kind : Fn l.prog w K mg base "_law_kind" 1 ["_law_room_here", "_law_point"] yF := ym U12 (yo (k := 0) (S := yF) U12 Ww rfl (by decide) (fun _ _ _ _ _ _ hr => qai m_len m_int hr) Va) (PySem.W.mg_of X G a12) b12 zr
 have F__law_same : Fn l.prog w K mg base "_law_same" 4 ["_law_found", "_law_due"] (uY 4) := by
  have allN : ∀ n : Nat, Fn l.prog w K mg base "_law_same" (0 + n) ["_law_found", "_law_due"] (uY n) := by
   intro n
   induction n with
   | zero => exact ym U13 ⟨fun vs H Q E h => h.1, fun A outer s H args us vs Q E _ _ _ _ h => by obtain ⟨_, _, _, _, _, d, _, z, _⟩ := h; exact z.elim⟩ (PySem.W.mg_of X G a13) b13 (qft 0)
   | succ n F => exact ym U13 (yo (k := 0 + n) U13 Wu rfl (by show ∀ m ∈ [Md.cst, Md.cst], m ≠ .own ∧ m ≠ .lk; decide) (fun _ _ _ _ _ _ hr => qag F m_isinstance m_bool m_int m_str m_list m_tuple m_zip m_all m_len hr) (qjh n)) (PySem.W.mg_of X G a13) b13 (qft (n + 1))
  exact allN 4
 have F__law_same := qiV (S' := qW) F__law_same rfl (UT) zr
 have F__law_sides : Fn l.prog w K mg base "_law_sides" 1 ["_law_there"] yf := ym U14 (yo (k := 0) (S := yf) U14 Qz rfl (by decide) (fun _ _ _ _ _ _ hr => Ua  hr) Jk) (PySem.W.mg_of X G a14) b14 zr
 have F__law_walked : Fn l.prog w K mg base "_law_walked" 1 ["_law_ring"] wg := ym U15 (yo (k := 0) (S := wg) U15 vX rfl (by decide) (fun _ _ _ _ _ _ hr => XN m_zip m_range m_abs hr) Y6) (PySem.W.mg_of X G a15) b15 zr
 have F__law_goes_round : Fn l.prog w K mg base "_law_goes_round" 2 ["_law_there", "_law_sides_here", "_law_ring"] wG := ym U16 (yo (k := 1) (S := wG) U16 jV rfl (by decide) (fun _ _ _ _ _ _ hr => Wo (jj F__law_kind (by decide : 1 ≤ 1)) (jj F__law_walked (by decide : 1 ≤ 1)) m_zip m_all m_len hr) Q5) (PySem.W.mg_of X G a16) b16 zr
 have F__law_are_outlines : Fn l.prog w K mg base "_law_are_outlines" 3 ["_law_room_here", "_law_rings"] wu := ym U17 (yo (k := 2) (S := wu) U17 jm rfl (by decide) (fun _ _ _ _ _ _ hr => Qu (jj F__law_walked (by decide : 1 ≤ 2)) (jj F__law_goes_round (by decide : 2 ≤ 2)) (jj F__law_sides (by decide : 1 ≤ 2)) m_len m_set m_all m_dict hr) v8) (PySem.W.mg_of X G a17) b17 zr
 have F__law_formed : Fn l.prog w K mg base "_law_formed" 5 ["_law_rings"] zA := ym U18 (yo (k := 4) (S := zA) U18 vY rfl (by decide) (fun _ _ _ _ _ _ hr => XQ (jj F__law_same (by decide : 4 ≤ 4)) m_zip m_all m_len m_range m_any m_int m_isinstance m_tuple m_list hr) Y7) (PySem.W.mg_of X G a18) b18 zr
 have F__law_at_the_bound : Fn l.prog w K mg base "_law_at_the_bound" 2 [] wj := ym U19 (yo (k := 1) (S := wj) U19 jk rfl (by decide) (fun _ _ _ _ _ _ hr => Qt (jj F__law_cells (by decide : 1 ≤ 1)) m_tuple hr) v7) (PySem.W.mg_of X G a19) b19 zr
 exact yo (k := 5) (S := Us) U20 qfg rfl (by decide) (fun _ _ _ _ _ _ hr => qkw (jj F__law_same (by decide : 4 ≤ 5)) (jj F_outlines (by decide : 3 ≤ 5)) (jj F__law_are_outlines (by decide : 3 ≤ 5)) (jj F__law_formed (by decide : 5 ≤ 5)) (jj F__law_room (by decide : 3 ≤ 5)) (jj F__law_draw (by decide : 1 ≤ 5)) (jj F__law_tape (by decide : 1 ≤ 5)) (jj F__law_at_the_bound (by decide : 2 ≤ 5)) m_len m_min m_range m_list hr) qj8
end K34
open PySem PySem.W PyProof.Rows
set_option maxRecDepth 100000 in
set_option maxHeartbeats 0 in
theorem PySem.Challenge.cw_boxcut_k34_outlines_holds : PySem.Challenge.rw_boxcut_k34_outlines.Holds := by
 w_on; o_law; k_head; (case hw => w_witness2)
 k_fill
 refine L2.walk_of (l := PySem.Challenge.rw_boxcut_k34_outlines) (n := 63) (k := 6) (x := "_law_script") (CX := fun _ => L2.CX0) (sp := fun w => BX.spOf _ K34.Us) rfl (by decide) rfl ⟨rfl, by decide, by decide⟩ (fun w h Y => PySem.W.kIn_of Y) ?F (fun _ _ a ns hl _ hS => K34.sp_law hS) (fun _ _ _ _ _ z => z)
 case F =>
  intro w mg fa h KX G hmg
  refine' K34.qjj KX G hmg ?a1 ?l1 ?c1 ?k1 ?a2 ?l2 ?c2 ?k2 ?a3 ?l3 ?c3 ?k3 ?a4 ?l4 ?c4 ?k4 ?a5 ?l5 ?c5 ?k5 ?a6 ?l6 ?c6 ?k6 ?a7 ?l7 ?c7 ?k7 ?a8 ?l8 ?c8 ?k8 ?a9 ?l9 ?c9 ?k9 ?a10 ?l10 ?c10 ?k10 ?a11 ?l11 ?c11 ?k11 ?a12 ?l12 ?c12 ?k12 ?a13 ?l13 ?c13 ?k13 ?a14 ?l14 ?c14 ?k14 ?a15 ?l15 ?c15 ?k15 ?a16 ?l16 ?c16 ?k16 ?a17 ?l17 ?c17 ?k17 ?a18 ?l18 ?c18 ?k18 ?a19 ?l19 ?c19 ?k19 ?a20 ?l20 ?c20 ?k20 ?ggSTEPS ?gl12 ?gl11 ?gl8 ?gl5 ?gl2 ?z1 ?z2 ?z3 ?z4 ?z5 ?z6 ?z7 ?z8 ?z9 ?z10 ?z11 ?z12 ?z13 ?z14 ?z15 ?z16 ?z17
  (case a1 => k_is)
  (case l1 => k_is)
  (case c1 => k_is)
  (case k1 => k_is)
  (case a2 => k_is)
  (case l2 => k_is)
  (case c2 => k_is)
  (case k2 => k_is)
  (case a3 => k_is)
  (case l3 => k_is)
  (case c3 => k_is)
  (case k3 => k_is)
  (case a4 => k_is)
  (case l4 => k_is)
  (case c4 => k_is)
  (case k4 => k_is)
  (case a5 => k_is)
  (case l5 => k_is)
  (case c5 => k_is)
  (case k5 => k_is)
  (case a6 => k_is)
  (case l6 => k_is)
  (case c6 => k_is)
  (case k6 => k_is)
  (case a7 => k_is)
  (case l7 => k_is)
  (case c7 => k_is)
  (case k7 => k_is)
  (case a8 => k_is)
  (case l8 => k_is)
  (case c8 => k_is)
  (case k8 => k_is)
  (case a9 => k_is)
  (case l9 => k_is)
  (case c9 => k_is)
  (case k9 => k_is)
  (case a10 => k_is)
  (case l10 => k_is)
  (case c10 => k_is)
  (case k10 => k_is)
  (case a11 => k_is)
  (case l11 => k_is)
  (case c11 => k_is)
  (case k11 => k_is)
  (case a12 => k_is)
  (case l12 => k_is)
  (case c12 => k_is)
  (case k12 => k_is)
  (case a13 => k_is)
  (case l13 => k_is)
  (case c13 => k_is)
  (case k13 => k_is)
  (case a14 => k_is)
  (case l14 => k_is)
  (case c14 => k_is)
  (case k14 => k_is)
  (case a15 => k_is)
  (case l15 => k_is)
  (case c15 => k_is)
  (case k15 => k_is)
  (case a16 => k_is)
  (case l16 => k_is)
  (case c16 => k_is)
  (case k16 => k_is)
  (case a17 => k_is)
  (case l17 => k_is)
  (case c17 => k_is)
  (case k17 => k_is)
  (case a18 => k_is)
  (case l18 => k_is)
  (case c18 => k_is)
  (case k18 => k_is)
  (case a19 => k_is)
  (case l19 => k_is)
  (case c19 => k_is)
  (case k19 => k_is)
  (case a20 => k_is)
  (case l20 => k_is)
  (case c20 => k_is)
  (case k20 => k_is)
  (case ggSTEPS => k_is)
  (case gl12 => k_is)
  (case gl11 => k_is)
  (case gl8 => k_is)
  (case gl5 => k_is)
  (case gl2 => k_is)
  (case z1 => k_is)
  (case z2 => k_is)
  (case z3 => k_is)
  (case z4 => k_is)
  (case z5 => k_is)
  (case z6 => k_is)
  (case z7 => k_is)
  (case z8 => k_is)
  (case z9 => k_is)
  (case z10 => k_is)
  (case z11 => k_is)
  (case z12 => k_is)
  (case z13 => k_is)
  (case z14 => k_is)
  (case z15 => k_is)
  (case z16 => k_is)
  (case z17 => k_is)
