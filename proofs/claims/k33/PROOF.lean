import PyProof.Rows.All
import Wide.All
import OpenK.AllK
import Wide.FinOn
import HandS.ForMost
import HandS.TupAny
import HandS.TupLe
import HandS.Deep
import HandS.IsInst
import PyProof.P3In
import HandS.Flow
import HandS.SortOrd
import HandS.TupSets
import HandS.Conv
import HandS.TupLen
import HandS.Small
import HandS.Zip
import KE.KDictPairs
import HandS.DictTup
import HandS.Rev
import KE.DatumOrd
import KE.DatumIndex
import KE.KDictWalk
import KE.KDictDisplayH
import KE.KEqDict
import HandS.Iter
import KE.SortData
import HandS.SetFor
import HandS.SortInts
import HandS.Strs
import PyProof.ListRange
import HandS.Text
import PyProof.StrOps2
import KE.GoesMore
import PyProof.EnumFor
import HandS.RaiseMore
import HandS.Style
import HandS.More
import KE.GoesZip
import KE.GoesEnum
import KE.KDictOf
import KE.KDictCopyH
import KE.KDictKeyed
import KE.DataMinMax
import KE.SortKeyHeap
import HandS.SortKw
import PyProof.AutoSeq1
import HandS.DictSubView
import PySem.Challenge.RW_boxcut_k33_the_first_of_the_least
set_option Elab.async false
set_option linter.all false
set_option maxRecDepth 100000
namespace BX
open PySem PySem.Spec PyProof.Rows L2
inductive NK where
 | num (i : Int) | tup (l : List NK)
mutual
def NK.beq : NK → NK → Bool
 | .num i, .num j => decide (i = j)
 | .tup l, .tup m => NK.beqL l m
 | _, _ => false
def NK.beqL : List NK → List NK → Bool
 | [], [] => true
 | a :: l, b :: m => NK.beq a b && NK.beqL l m
 | _, _ => false
end
mutual
theorem NK.beq_eq : ∀ a b : NK, NK.beq a b = true ↔ a = b
 | .num i, .num j => by rw [NK.beq, decide_eq_true_eq, NK.num.injEq]
 | .tup l, .tup m => by rw [NK.beq, NK.tup.injEq]; exact NK.beqL_eq l m
 | .num i, .tup m => by simp [NK.beq]
 | .tup l, .num j => by simp [NK.beq]
theorem NK.beqL_eq : ∀ l m : List NK, NK.beqL l m = true ↔ l = m
 | [], [] => by simp [NK.beqL]
 | a :: l, b :: m => by rw [NK.beqL, Bool.and_eq_true, NK.beq_eq a b, NK.beqL_eq l m, List.cons.injEq]
 | [], b :: m => by simp [NK.beqL]
 | a :: l, [] => by simp [NK.beqL]
end
instance : DecidableEq NK := fun a b => decidable_of_iff _ (NK.beq_eq a b)
inductive D where
 | non | bl (b : Bool) | int (i : Int) | str (s : Str)
 | tup (xs : List D) | lst (xs : List D)
 | dT (kvs : List (List Key × D)) | dK (kvs : List (Key × D))
 | dF (kvs : List (List Key × D))
 | lF (xs : List D)
 | ob (n : Str) (fs : List (Str × D))
 | ex (n : Str) (fs : List (Str × Int))
 | dN (kvs : List (NK × D))
mutual
def D.imm : D → Bool
 | .non => true
 | .bl _ => true
 | .int _ => true
 | .str _ => true
 | .tup xs => immL xs
 | .lst _ => false
 | .dT _ => false
 | .dK _ => false
 | .dF _ => false
 | .lF xs => immL xs
 | .ob _ _ => false
 | .ex _ _ => false
 | .dN _ => false
def immL : List D → Bool
 | [] => true
 | d :: ds => d.imm && immL ds
end
theorem QL : ∀ {ds : List D}, (∀ d ∈ ds, d.imm = true) → immL ds = true
 | [], _ => by rw [immL]
 | d :: ds, h => by rw [immL, h d (List.mem_cons_self ..), QL fun x hx => h x (List.mem_cons_of_mem _ hx)]; rfl
theorem W7 : ∀ {ds : List D}, immL ds = true → ∀ d ∈ ds, d.imm = true
 | [], _, d, h => by simp at h
 | x :: ds, e, d, h => by
   rw [immL, Bool.and_eq_true] at e
   rcases List.mem_cons.mp h with rfl | h
   ·exact e.1
   ·exact W7 e.2 d h
theorem qeb {ds : List D} : immL ds = true ↔ ∀ d ∈ ds, d.imm = true := ⟨W7, QL⟩
mutual
def ZG : NK → Int
 | .num i => hashInt i
 | .tup l => reduceHash (Builtin.Tuple.tupleHashOf (ZF l))
def ZF : List NK → List Int
 | [] => []
 | k :: l => ZG k :: ZF l
end
mutual
def uR : NK → Nat
 | .num _ => 0
 | .tup l => jA l + 1
def jA : List NK → Nat
 | [] => 0
 | k :: l => max (uR k) (jA l)
end
mutual
def NkV (H : Hp) : NK → V → Prop
 | .num i, v => v = .int i
 | .tup l, v => ∃ a vs, v = .ref a ∧ H a = some (.tup vs) ∧ NkVs H l vs
def NkVs (H : Hp) : List NK → List V → Prop
 | [], vs => vs = []
 | k :: l, vs => ∃ v ws, vs = v :: ws ∧ NkV H k v ∧ NkVs H l ws
end
mutual
def nkD : NK → D
 | .num i => .int i
 | .tup l => .tup (nkDs l)
def nkDs : List NK → List D
 | [] => []
 | k :: l => nkD k :: nkDs l
end
def qjf (p : NK × Addr × Value) : DictEntry := { hash := ZG p.1, key := .ref p.2.1, val := p.2.2 }
def NdP (a : Addr) (xs : List (NK × Addr × V)) (h : Heap) : Prop := (xs.length ≤ sizeLine ∧ (a == sysModules) = false ∧ (xs.map (·.1)).Nodup) ∧ ∃ ys, Paired (fun p q => p.1 = q.1 ∧ p.2.1 = q.2.1 ∧ L2.RelV p.2.2 q.2.2) xs ys ∧ ∃ o es ep, h.get? a = some o ∧ o.ExactDict ∧ o.data = .dict es ep ∧ es.toList = ys.map qjf
def NdO (a : Addr) (xs : List (NK × Addr × V)) : HO := .ext (NdP a xs)
noncomputable def Mu : HO → Bool
 | .lst _ => true
 | .dT _ => true
 | .dK _ => true
 | .ins _ _ _ => true
 | .ext p => @decide (∃ a xs, p = NdP a xs) (Classical.propDecidable _)
 | _ => false
theorem qdR {a : Addr} {xs : List (NK × Addr × V)} : Mu (NdO a xs) = true := @decide_eq_true _ (Classical.propDecidable _) ⟨a, xs, rfl⟩
def SqLF (K : PySem.W.Frag) (H : Hp) (a : Addr) (xs : List V) : Prop :=
 (∃ o, H a = some (.frz o (.lst xs))) ∨
  ∃ (o : Obj) (its : Array Value) (n : Nat), K.lookup a = some o ∧ o.cls = .type "list" ∧ o.dict = none ∧ o.data = .seq its n ∧ its.size ≤ sizeLine ∧ Vals xs its.toList
def SqTK (K : PySem.W.Frag) (a : Addr) (xs : List V) : Prop :=
 ∃ (o : Obj) (its : Array Value) (n : Nat), K.lookup a = some o ∧ o.cls = .type "tuple" ∧ o.data = .seq its n ∧ its.size ≤ sizeLine ∧ Vals xs its.toList
theorem SqLF.sq {K : PySem.W.Frag} {H : Hp} {a : Addr} {xs : List V} (h : SqLF K H a xs) : SqL K H a xs := by
 rcases h with ⟨o, h⟩ | h
 ·exact .inl (.inr ⟨o, h⟩)
 ·exact .inr h
theorem SqTK.sq {K : PySem.W.Frag} {H : Hp} {a : Addr} {xs : List V} (h : SqTK K a xs) : SqT K H a xs := .inr h
def EO (cls : Value) (d : Option Addr) (a : Addr) : HO := .ext fun h => ∃ (oe : Obj) (vs : Array Value), h.get? a = some oe ∧ (oe.cls = cls ∧ oe.dict = d) ∧ oe.data = .fields vs
theorem qjg {cls : Value} {d : Option Addr} {a : Addr} : Mu (EO cls d a) = false := @decide_eq_false _ (Classical.propDecidable _) (by
 rintro ⟨b, xs, e⟩
 have at0 : (⟨Array.replicate (a + 1) { cls := cls, dict := d, data := .fields #[] }, {}⟩ : Heap).get? a = some { cls := cls, dict := d, data := .fields #[] } := by
  unfold Heap.get?
  rw [show ((Array.replicate (a + 1) ({ cls := cls, dict := d, data := .fields #[] } : Obj)) : Array Obj)[a]? = some { cls := cls, dict := d, data := .fields #[] } by simp]
 have h0 : NdP b xs ⟨Array.replicate (a + 1) { cls := cls, dict := d, data := .fields #[] }, {}⟩ := by
  rw [← e]
  exact ⟨_, _, at0, ⟨rfl, rfl⟩, rfl⟩
 obtain ⟨_, ys, _, o, es, ep, h1, _, h2, _⟩ := h0
 unfold Heap.get? at h1
 split at h1
 ·cases h1
 ·rename_i x y
  rw [Array.getElem?_replicate] at h1
  split at h1
  ·cases h1
   cases h2
  ·cases h1)
def xdV (fs : List (Str × Int)) : List (Str × V) := fs.map fun p => (p.1, V.int p.2)
mutual
inductive Rep (K : PySem.W.Frag) (H : Hp) (lv : Nat) : D → V → List Addr → Prop
 | non : Rep K H lv .non .non []
 | bl (b : Bool) : Rep K H lv (.bl b) (.bl b) []
 | int (i : Int) : Rep K H lv (.int i) (.int i) []
 | str (s : Str) : Rep K H lv (.str s) (.str s) []
 | tup {a : Addr} {vs : List V} {ds : List D} {f : List Addr} : H a = some (.tup vs) → Reps K H lv ds vs f → Rep K H lv (.tup ds) (.ref a) f
 | tupK {a : Addr} {vs : List V} {ds : List D} {f : List Addr} : 2 ≤ lv → SqTK K a vs → Reps K H lv ds vs f → Rep K H lv (.tup ds) (.ref a) f
 | lst {a : Addr} {vs : List V} {ds : List D} {f : List Addr} : H a = some (.lst vs) → Reps K H lv ds vs f → (lv = 0 → a ∉ f) → Rep K H lv (.lst ds) (.ref a) (a :: f)
 | lstF {a : Addr} {vs : List V} {ds : List D} {f : List Addr} : 2 ≤ lv → SqLF K H a vs → Reps K H lv ds vs f → Rep K H lv (.lst ds) (.ref a) f
 | dT {a : Addr} {hs : List (List Key × V)} {kvs : List (List Key × D)} {f : List Addr} : H a = some (.dT hs) → hs.map (·.1) = kvs.map (·.1) → (kvs.map (·.1)).Nodup → Reps K H lv (kvs.map (·.2)) (hs.map (·.2)) f → (lv = 0 → a ∉ f) → Rep K H lv (.dT kvs) (.ref a) (a :: f)
 | dTF {a : Addr} {o : Obj} {hs : List (List Key × V)} {kvs : List (List Key × D)} {f : List Addr} : 2 ≤ lv → H a = some (.frz o (.dT hs)) → hs.map (·.1) = kvs.map (·.1) → (kvs.map (·.1)).Nodup → Reps K H lv (kvs.map (·.2)) (hs.map (·.2)) f → Rep K H lv (.dT kvs) (.ref a) f
 | dF {a : Addr} {o : Obj} {hs : List (List Key × V)} {kvs : List (List Key × D)} : H a = some (.frz o (.dT hs)) → hs.map (·.1) = kvs.map (·.1) → (kvs.map (·.1)).Nodup → Reps K H lv (kvs.map (·.2)) (hs.map (·.2)) [] → Rep K H lv (.dF kvs) (.ref a) []
 | lF {a : Addr} {o : Obj} {vs : List V} {ds : List D} {f : List Addr} : H a = some (.frz o (.lst vs)) → Reps K H lv ds vs f → Rep K H lv (.lF ds) (.ref a) f
 | ob {a C dx : Addr} {n : Str} {hs : List (Str × V)} {fs : List (Str × D)} {f : List Addr} : H a = some (.ins C dx hs) → PySem.W.nsIn K mainGlobals n = some (some (.ref C)) → hs.map (·.1) = fs.map (·.1) → Reps K H lv (fs.map (·.2)) (hs.map (·.2)) f → (lv = 0 → a ∉ f) → Rep K H lv (.ob n fs) (.ref a) (a :: f)
 | ex {a C : Addr} {d : Option Addr} {n : Str} {fs : List (Str × Int)} : H a = some (EO (.ref C) d a) → PySem.W.nsIn K mainGlobals n = some (some (.ref C)) → (∀ x, d = some x → H x = some (.xd (xdV fs))) → (d = none → fs = []) → Rep K H lv (.ex n fs) (.ref a) []
 | dK {a : Addr} {hs : List (Key × V)} {kvs : List (Key × D)} {f : List Addr} : H a = some (.dK hs) → hs.map (·.1) = kvs.map (·.1) → (kvs.map (·.1)).Nodup → Reps K H lv (kvs.map (·.2)) (hs.map (·.2)) f → (lv = 0 → a ∉ f) → Rep K H lv (.dK kvs) (.ref a) (a :: f)
 | dN {a : Addr} {xs : List (NK × Addr × V)} {kvs : List (NK × D)} {f : List Addr} : H a = some (NdO a xs) → xs.map (·.1) = kvs.map (·.1) → (kvs.map (·.1)).Nodup → (∀ x ∈ xs, NkV H x.1 (.ref x.2.1) ∧ uR x.1 ≤ 8) → Reps K H lv (kvs.map (·.2)) (xs.map (·.2.2)) f → (lv = 0 → a ∉ f) → Rep K H lv (.dN kvs) (.ref a) (a :: f)
inductive Reps (K : PySem.W.Frag) (H : Hp) (lv : Nat) : List D → List V → List Addr → Prop
 | nil : Reps K H lv [] [] []
 | cons {d : D} {v : V} {f : List Addr} {ds : List D} {vs : List V} {g : List Addr} : Rep K H lv d v f → Reps K H lv ds vs g → (lv = 0 → ∀ b ∈ f, b ∉ g) → Reps K H lv (d :: ds) (v :: vs) (f ++ g)
end
section
variable {K : PySem.W.Frag} {H H' : Hp} {lv lv' : Nat}
theorem SqLF.keep {a : Addr} {vs : List V} (h : SqLF K H a vs) (k : ∀ o, H a = some o → Mu o = false → H' a = some o) : SqLF K H' a vs := by
 rcases h with ⟨o, h⟩ | h
 ·exact .inl ⟨o, k _ h rfl⟩
 ·exact .inr h
mutual
theorem NkV.keep : ∀ {k : NK} {v : V}, NkV H k v → (∀ b o, H b = some o → Mu o = false → H' b = some o) → NkV H' k v
 | .num i, v, h, _ => by rw [NkV] at h ⊢; exact h
 | .tup l, v, h, k => by
   rw [NkV] at h ⊢
   obtain ⟨a, vs, e, ha, r⟩ := h
   exact ⟨a, vs, e, k _ _ ha rfl, NkVs.keep r k⟩
theorem NkVs.keep : ∀ {l : List NK} {vs : List V}, NkVs H l vs → (∀ b o, H b = some o → Mu o = false → H' b = some o) → NkVs H' l vs
 | [], vs, h, _ => by rw [NkVs] at h ⊢; exact h
 | x :: l, vs, h, k => by
   rw [NkVs] at h ⊢
   obtain ⟨v, ws, e, r, t⟩ := h
   exact ⟨v, ws, e, NkV.keep r k, NkVs.keep t k⟩
end
mutual
theorem Rep.keep : ∀ {d : D} {v : V} {f : List Addr}, Rep K H lv d v f → (∀ b o, H b = some o → (b ∈ f ∨ Mu o = false) → H' b = some o) → Rep K H' lv d v f
 | _, _, _, .non, _ => .non
 | _, _, _, .bl b, _ => .bl b
 | _, _, _, .int i, _ => .int i
 | _, _, _, .str s, _ => .str s
 | _, _, _, .tup h r, k => .tup (k _ _ h (.inr rfl)) (Reps.keep r k)
 | _, _, _, .tupK l h r, k => .tupK l h (Reps.keep r k)
 | _, _, _, .lst h r n, k => .lst (k _ _ h (.inl (List.mem_cons_self ..))) (Reps.keep r fun b o e c => k b o e (c.imp_left fun z => List.mem_cons_of_mem _ z)) n
 | _, _, _, .lstF l h r, k => .lstF l (h.keep fun o e m => k _ _ e (.inr m)) (Reps.keep r k)
 | _, _, _, .dT h e nd r n, k => .dT (k _ _ h (.inl (List.mem_cons_self ..))) e nd (Reps.keep r fun b o e c => k b o e (c.imp_left fun z => List.mem_cons_of_mem _ z)) n
 | _, _, _, .dTF l h e nd r, k => .dTF l (k _ _ h (.inr rfl)) e nd (Reps.keep r k)
 | _, _, _, .dF h e nd r, k => .dF (k _ _ h (.inr rfl)) e nd (Reps.keep r k)
 | _, _, _, .lF h r, k => .lF (k _ _ h (.inr rfl)) (Reps.keep r k)
 | _, _, _, .ob h c e r n, k => .ob (k _ _ h (.inl (List.mem_cons_self ..))) c e (Reps.keep r fun b o e c => k b o e (c.imp_left fun z => List.mem_cons_of_mem _ z)) n
 | _, _, _, .ex h c e z, k => .ex (k _ _ h (.inr qjg)) c (fun x hx => k _ _ (e x hx) (.inr rfl)) z
 | _, _, _, .dN h e nd kk r n, k => .dN (k _ _ h (.inl (List.mem_cons_self ..))) e nd (fun x hx => ⟨(kk x hx).1.keep fun b o e m => k b o e (.inr m), (kk x hx).2⟩) (Reps.keep r fun b o e c => k b o e (c.imp_left fun z => List.mem_cons_of_mem _ z)) n
 | _, _, _, .dK h e nd r n, k => .dK (k _ _ h (.inl (List.mem_cons_self ..))) e nd (Reps.keep r fun b o e c => k b o e (c.imp_left fun z => List.mem_cons_of_mem _ z)) n
theorem Reps.keep : ∀ {ds : List D} {vs : List V} {f : List Addr}, Reps K H lv ds vs f → (∀ b o, H b = some o → (b ∈ f ∨ Mu o = false) → H' b = some o) → Reps K H' lv ds vs f
 | _, _, _, .nil, _ => .nil
 | _, _, _, .cons r t n, k => .cons (Rep.keep r fun b o e c => k b o e (c.imp_left fun z => List.mem_append_left _ z)) (Reps.keep t fun b o e c => k b o e (c.imp_left fun z => List.mem_append_right _ z)) n
end
mutual
theorem Rep.dom : ∀ {d : D} {v : V} {f : List Addr}, Rep K H lv d v f → ∀ b ∈ f, ∃ o, H b = some o ∧ Mu o = true
 | _, _, _, .tup h r, b, hb => Reps.dom r b hb
 | _, _, _, .tupK l h r, b, hb => Reps.dom r b hb
 | _, _, _, .lst h r n, b, hb => by
   rcases List.mem_cons.mp hb with rfl | hb
   ·exact ⟨_, h, rfl⟩
   ·exact Reps.dom r b hb
 | _, _, _, .lstF l h r, b, hb => Reps.dom r b hb
 | _, _, _, .dT h e nd r n, b, hb => by
   rcases List.mem_cons.mp hb with rfl | hb
   ·exact ⟨_, h, rfl⟩
   ·exact Reps.dom r b hb
 | _, _, _, .dTF l h e nd r, b, hb => Reps.dom r b hb
 | _, _, _, .dF h e nd r, b, hb => by simp at hb
 | _, _, _, .ex h c e z, b, hb => by simp at hb
 | _, _, _, .dN h e nd kk r n, b, hb => by
   rcases List.mem_cons.mp hb with rfl | hb
   ·exact ⟨_, h, qdR⟩
   ·exact Reps.dom r b hb
 | _, _, _, .lF h r, b, hb => Reps.dom r b hb
 | _, _, _, .ob h c e r n, b, hb => by
   rcases List.mem_cons.mp hb with rfl | hb
   ·exact ⟨_, h, rfl⟩
   ·exact Reps.dom r b hb
 | _, _, _, .dK h e nd r n, b, hb => by
   rcases List.mem_cons.mp hb with rfl | hb
   ·exact ⟨_, h, rfl⟩
   ·exact Reps.dom r b hb
theorem Reps.dom : ∀ {ds : List D} {vs : List V} {f : List Addr}, Reps K H lv ds vs f → ∀ b ∈ f, ∃ o, H b = some o ∧ Mu o = true
 | _, _, _, .cons r t n, b, hb => by
   rcases List.mem_append.mp hb with hb | hb
   ·exact Rep.dom r b hb
   ·exact Reps.dom t b hb
end
mutual
theorem Rep.up : ∀ {d : D} {v : V} {f : List Addr}, Rep K H lv d v f → lv ≤ lv' → Rep K H lv' d v f
 | _, _, _, .non, _ => .non
 | _, _, _, .bl b, _ => .bl b
 | _, _, _, .int i, _ => .int i
 | _, _, _, .str s, _ => .str s
 | _, _, _, .tup h r, k => .tup h (Reps.up r k)
 | _, _, _, .tupK l h r, k => .tupK (Nat.le_trans l k) h (Reps.up r k)
 | _, _, _, .lst h r n, k => .lst h (Reps.up r k) fun e => n (by omega)
 | _, _, _, .lstF l h r, k => .lstF (Nat.le_trans l k) h (Reps.up r k)
 | _, _, _, .dT h e nd r n, k => .dT h e nd (Reps.up r k) fun e => n (by omega)
 | _, _, _, .dTF l h e nd r, k => .dTF (Nat.le_trans l k) h e nd (Reps.up r k)
 | _, _, _, .dF h e nd r, k => .dF h e nd (Reps.up r k)
 | _, _, _, .lF h r, k => .lF h (Reps.up r k)
 | _, _, _, .ob h c e r n, k => .ob h c e (Reps.up r k) fun e => n (by omega)
 | _, _, _, .ex h c e z, k => .ex h c e z
 | _, _, _, .dN h e nd kk r n, k => .dN h e nd kk (Reps.up r k) fun e => n (by omega)
 | _, _, _, .dK h e nd r n, k => .dK h e nd (Reps.up r k) fun e => n (by omega)
theorem Reps.up : ∀ {ds : List D} {vs : List V} {f : List Addr}, Reps K H lv ds vs f → lv ≤ lv' → Reps K H lv' ds vs f
 | _, _, _, .nil, _ => .nil
 | _, _, _, .cons r t n, k => .cons (Rep.up r k) (Reps.up t k) fun e => n (by omega)
end
mutual
theorem Rep.imm : ∀ {d : D} {v : V} {f : List Addr}, Rep K H lv d v f → lv ≤ 1 → d.imm = true → f = [] ∧ Rep K H 0 d v []
 | _, _, _, .non, _, _ => ⟨rfl, .non⟩
 | _, _, _, .bl b, _, _ => ⟨rfl, .bl b⟩
 | _, _, _, .int i, _, _ => ⟨rfl, .int i⟩
 | _, _, _, .str s, _, _ => ⟨rfl, .str s⟩
 | _, _, _, .tup h r, l, e => by
   rw [D.imm] at e
   obtain ⟨rfl, r'⟩ := Reps.imm r l e
   exact ⟨rfl, .tup h r'⟩
 | _, _, _, .tupK l h r, k, _ => absurd l (by omega)
 | _, _, _, .lst h r n, _, e => by rw [D.imm] at e; cases e
 | _, _, _, .lstF l h r, _, e => by rw [D.imm] at e; cases e
 | _, _, _, .dT h e' nd r n, _, e => by rw [D.imm] at e; cases e
 | _, _, _, .dTF l h e' nd r, _, e => by rw [D.imm] at e; cases e
 | _, _, _, .dF h e' nd r, _, e => by rw [D.imm] at e; cases e
 | _, _, _, .ob h c e' r n, _, e => by rw [D.imm] at e; cases e
 | _, _, _, .lF h r, l, e => by
   rw [D.imm] at e
   obtain ⟨rfl, r'⟩ := Reps.imm r l e
   exact ⟨rfl, .lF h r'⟩
 | _, _, _, .ex h c e' z, _, e => by rw [D.imm] at e; cases e
 | _, _, _, .dN h e' nd kk r n, _, e => by rw [D.imm] at e; cases e
 | _, _, _, .dK h e' nd r n, _, e => by rw [D.imm] at e; cases e
theorem Reps.imm : ∀ {ds : List D} {vs : List V} {f : List Addr}, Reps K H lv ds vs f → lv ≤ 1 → immL ds = true → f = [] ∧ Reps K H 0 ds vs []
 | _, _, _, .nil, _, _ => ⟨rfl, .nil⟩
 | _, _, _, .cons r t n, l, e => by
   rw [immL, Bool.and_eq_true] at e
   obtain ⟨rfl, r'⟩ := Rep.imm r l e.1
   obtain ⟨rfl, t'⟩ := Reps.imm t l e.2
   exact ⟨rfl, .cons (f := []) (g := []) r' t' (fun _ b hb => by simp at hb)⟩
end
theorem Reps.len : ∀ {ds : List D} {vs : List V} {f : List Addr}, Reps K H lv ds vs f → ds.length = vs.length
 | _, _, _, .nil => rfl
 | _, _, _, .cons _ t _ => by rw [List.length_cons, List.length_cons, t.len]
theorem Reps.get : ∀ {ds : List D} {vs : List V} {f : List Addr} {i : Nat} {d : D}, Reps K H lv ds vs f → ds[i]? = some d → ∃ v g, vs[i]? = some v ∧ Rep K H lv d v g ∧ ∀ b ∈ g, b ∈ f
 | _, _, _, 0, _, .cons r t _, e => by
   cases e
   exact ⟨_, _, rfl, r, fun b hb => List.mem_append_left _ hb⟩
 | _, _, _, i + 1, _, .cons r t _, e => by
   obtain ⟨v, g, h1, h2, h3⟩ := t.get (i := i) (by simpa using e)
   exact ⟨v, g, by simpa using h1, h2, fun b hb => List.mem_append_right _ (h3 b hb)⟩
theorem Reps.append : ∀ {ds es : List D} {vs ws : List V} {f g : List Addr}, Reps K H lv ds vs f → Reps K H lv es ws g → (lv = 0 → ∀ b ∈ f, b ∉ g) → Reps K H lv (ds ++ es) (vs ++ ws) (f ++ g)
 | _, _, _, _, _, _, .nil, q, _ => q
 | _, es, _, ws, _, g, .cons (f := f1) (g := g1) (ds := ds) (vs := vs) r t n, q, k => by
   rw [List.cons_append, List.cons_append, List.append_assoc]
   refine .cons r (Reps.append t q fun e b hb => k e b (List.mem_append_right _ hb)) fun e b hb z => ?_
   rcases List.mem_append.mp z with z | z
   ·exact n e b hb z
   ·exact k e b (List.mem_append_left _ hb) z
theorem Reps.one {d : D} {v : V} {f : List Addr} (r : Rep K H lv d v f) : Reps K H lv [d] [v] f := by
 have := Reps.cons (g := []) r .nil (fun _ b _ z => by simp at z)
 rwa [List.append_nil] at this
theorem Rep.tupleSq {ds : List D} {v : V} {f : List Addr} (r : Rep K H lv (.tup ds) v f) : ∃ a vs, v = .ref a ∧ SqT K H a vs ∧ Reps K H lv ds vs f := by
 cases r with
 | tup h r => exact ⟨_, _, rfl, .inl (.inl h), r⟩
 | tupK l h r => exact ⟨_, _, rfl, h.sq, r⟩
theorem Rep.tupleAt {ds : List D} {v : V} {f : List Addr} (r : Rep K H lv (.tup ds) v f) (l : lv ≤ 1) : ∃ a vs, v = .ref a ∧ H a = some (.tup vs) ∧ Reps K H lv ds vs f := by
 cases r with
 | tup h r => exact ⟨_, _, rfl, h, r⟩
 | tupK l' h r => exact absurd l' (by omega)
theorem Rep.lFSq {ds : List D} {v : V} {f : List Addr} (r : Rep K H lv (.lF ds) v f) : ∃ a vs, v = .ref a ∧ SqL K H a vs ∧ Reps K H lv ds vs f ∧ SqLF K H a vs := by
 cases r with
 | lF h r => exact ⟨_, _, rfl, .inl (.inr ⟨_, h⟩), r, .inl ⟨_, h⟩⟩
theorem Rep.listSq {ds : List D} {v : V} {f : List Addr} (r : Rep K H lv (.lst ds) v f) : ∃ a vs g, v = .ref a ∧ SqL K H a vs ∧ Reps K H lv ds vs g ∧ (∀ b ∈ g, b ∈ f) ∧ (H a = some (.lst vs) ∧ a ∈ f ∨ SqLF K H a vs) := by
 cases r with
 | lst h r n => exact ⟨_, _, _, rfl, .inl (.inl h), r, fun b hb => List.mem_cons_of_mem _ hb, .inl ⟨h, List.mem_cons_self ..⟩⟩
 | lstF l h r => exact ⟨_, _, _, rfl, h.sq, r, fun b hb => hb, .inr h⟩
theorem Rep.listAt {ds : List D} {v : V} {f : List Addr} (r : Rep K H 0 (.lst ds) v f) : ∃ a vs g, v = .ref a ∧ H a = some (.lst vs) ∧ Reps K H 0 ds vs g ∧ f = a :: g ∧ a ∉ g := by
 cases r with
 | lst h r n => exact ⟨_, _, _, rfl, h, r, rfl, n rfl⟩
 | lstF l h r => exact absurd l (by omega)
theorem Rep.dTAt {kvs : List (List Key × D)} {v : V} {f : List Addr} (r : Rep K H lv (.dT kvs) v f) (l : lv ≤ 1 := by omega) : ∃ a hs g, v = .ref a ∧ H a = some (.dT hs) ∧ hs.map (·.1) = kvs.map (·.1) ∧ (kvs.map (·.1)).Nodup ∧ Reps K H lv (kvs.map (·.2)) (hs.map (·.2)) g ∧ f = a :: g ∧ (lv = 0 → a ∉ g) := by
 cases r with
 | dT h e nd r n => exact ⟨_, _, _, rfl, h, e, nd, r, rfl, n⟩
 | dTF l' h e nd r => exact absurd l' (by omega)
theorem Rep.dKAt {kvs : List (Key × D)} {v : V} {f : List Addr} (r : Rep K H lv (.dK kvs) v f) : ∃ a hs g, v = .ref a ∧ H a = some (.dK hs) ∧ hs.map (·.1) = kvs.map (·.1) ∧ (kvs.map (·.1)).Nodup ∧ Reps K H lv (kvs.map (·.2)) (hs.map (·.2)) g ∧ f = a :: g ∧ (lv = 0 → a ∉ g) := by
 cases r with
 | dK h e nd r n => exact ⟨_, _, _, rfl, h, e, nd, r, rfl, n⟩
theorem Rep.dNAt {kvs : List (NK × D)} {v : V} {f : List Addr} (r : Rep K H lv (.dN kvs) v f) : ∃ a xs g, v = .ref a ∧ H a = some (NdO a xs) ∧ xs.map (·.1) = kvs.map (·.1) ∧ (kvs.map (·.1)).Nodup ∧ (∀ x ∈ xs, NkV H x.1 (.ref x.2.1) ∧ uR x.1 ≤ 8) ∧ Reps K H lv (kvs.map (·.2)) (xs.map (·.2.2)) g ∧ f = a :: g ∧ (lv = 0 → a ∉ g) := by
 cases r with
 | dN h e nd kk r n => exact ⟨_, _, _, rfl, h, e, nd, kk, r, rfl, n⟩
mutual
theorem NkV.rep : ∀ {k : NK} {v : V}, NkV H k v → Rep K H lv (nkD k) v []
 | .num i, v, h => by
   rw [NkV] at h; rw [nkD, h]; exact .int i
 | .tup l, v, h => by
   rw [NkV] at h
   obtain ⟨a, vs, rfl, ha, r⟩ := h
   rw [nkD]; exact .tup ha (NkVs.rep r)
theorem NkVs.rep : ∀ {l : List NK} {vs : List V}, NkVs H l vs → Reps K H lv (nkDs l) vs []
 | [], vs, h => by
   rw [NkVs] at h; rw [nkDs, h]; exact .nil
 | k :: l, vs, h => by
   rw [NkVs] at h
   obtain ⟨v, ws, rfl, r, t⟩ := h
   rw [nkDs]
   exact .cons (f := []) (g := []) (NkV.rep r) (NkVs.rep t) fun _ b hb => by simp at hb
end
theorem Rep.listAt1 {ds : List D} {v : V} {f : List Addr} (r : Rep K H lv (.lst ds) v f) (l : lv ≤ 1) : ∃ a vs g, v = .ref a ∧ H a = some (.lst vs) ∧ Reps K H lv ds vs g ∧ f = a :: g := by
 cases r with
 | lst h r n => exact ⟨_, _, _, rfl, h, r, rfl⟩
 | lstF l' h r => exact absurd l' (by omega)
theorem Rep.nonV {v : V} {f : List Addr} (r : Rep K H lv .non v f) : v = .non ∧ f = [] := by cases r; exact ⟨rfl, rfl⟩
theorem Rep.intV {i : Int} {v : V} {f : List Addr} (r : Rep K H lv (.int i) v f) : v = .int i ∧ f = [] := by cases r; exact ⟨rfl, rfl⟩
theorem Rep.blV {i : Bool} {v : V} {f : List Addr} (r : Rep K H lv (.bl i) v f) : v = .bl i ∧ f = [] := by cases r; exact ⟨rfl, rfl⟩
theorem Rep.int0 {i : Int} {v : V} {f : List Addr} (r : Rep K H lv (.int i) v f) : Rep K H 0 (.int i) v [] := by cases r; exact .int i
theorem Rep.bl0 {i : Bool} {v : V} {f : List Addr} (r : Rep K H lv (.bl i) v f) : Rep K H 0 (.bl i) v [] := by cases r; exact .bl i
theorem Rep.str0 {i : Str} {v : V} {f : List Addr} (r : Rep K H lv (.str i) v f) : Rep K H 0 (.str i) v [] := by cases r; exact .str i
theorem Rep.non0 {v : V} {f : List Addr} (r : Rep K H lv .non v f) : Rep K H 0 .non v [] := by cases r; exact .non
theorem Rep.strV {i : Str} {v : V} {f : List Addr} (r : Rep K H lv (.str i) v f) : v = .str i ∧ f = [] := by cases r; exact ⟨rfl, rfl⟩
end
inductive Md where
 | own | io | lk | ro | cst
 deriving DecidableEq
def Md.lv : Md → Nat
 | .own => 0
 | .io => 0
 | .lk => 0
 | .ro => 1
 | .cst => 2
def Md.rd : Md → Bool
 | .own => false
 | .io => false
 | .lk => true
 | .ro => true
 | .cst => true
abbrev En := List (Option (D × Md))
abbrev FA := Nat → List Addr
def W (env : En) (f : FA) (b : Addr) : Prop := ∃ i d m, env[i]? = some (some (d, m)) ∧ m.rd = false ∧ b ∈ f i
def L0 (env : En) (f : FA) (b : Addr) : Prop := ∃ i d m, env[i]? = some (some (d, m)) ∧ m.lv = 0 ∧ b ∈ f i
def Ro (env : En) (f : FA) (b : Addr) : Prop := ∃ i d m, env[i]? = some (some (d, m)) ∧ m.lv ≠ 0 ∧ b ∈ f i
theorem Md.lv_of {m : Md} (h : m.rd = false) : m.lv = 0 := by cases m <;> first | rfl | (cases h)
theorem Md.rd_of {m : Md} (h : m.lv ≠ 0) : m.rd = true := by cases m <;> first | rfl | exact absurd rfl h
theorem W.l0 {env : En} {f : FA} {b : Addr} (h : W env f b) : L0 env f b := let ⟨i, d, m, e, r, hb⟩ := h; ⟨i, d, m, e, Md.lv_of r, hb⟩
structure Abs (K : PySem.W.Frag) (σ : L2.St) (H : Hp) (env : En) (f : FA) : Prop where
 rep : ∀ i d m, env[i]? = some (some (d, m)) → ∃ v, σ[i]? = some (some v) ∧ Rep K H m.lv d v (f i)
 dis : ∀ i j d m d' m', i ≠ j → env[i]? = some (some (d, m)) → env[j]? = some (some (d', m')) → m.lv = 0 → ∀ b ∈ f i, b ∉ f j
 len : env.length = σ.length
inductive R where
 | tmp (d : D)
 | ro (c : Bool) (d : D)
 | sl (i : Nat)
def clv : Bool → Nat
 | false => 1
 | true => 2
inductive ResOk (K : PySem.W.Frag) (σ : L2.St) (H : Hp) (env : En) (f : FA) : R → V → List Addr → Prop
 | tmp {d : D} {v : V} {g : List Addr} : Rep K H 0 d v g → (∀ b ∈ g, ¬ L0 env f b ∧ ¬ Ro env f b) → ResOk K σ H env f (.tmp d) v g
 | ro {c : Bool} {d : D} {v : V} {g : List Addr} : Rep K H (clv c) d v g → (∀ b ∈ g, Ro env f b) → ResOk K σ H env f (.ro c d) v []
 | sl {i : Nat} {v : V} {d : D} {m : Md} : σ[i]? = some (some v) → env[i]? = some (some (d, m)) → m.lv = 0 → ResOk K σ H env f (.sl i) v []
structure Stp (H : Hp) (env : En) (f : FA) (G : List Addr) (H' : Hp) (env' : En) (f' : FA) (G' : List Addr) : Prop where
 same : ∀ b o, H b = some o → (Mu o = false ∨ (¬ W env f b ∧ b ∉ G)) → H' b = some o
 own : ∀ b, (W env' f' b ∨ b ∈ G') → (W env f b ∨ b ∈ G ∨ H b = none)
structure Kp (env : En) (f : FA) (env' : En) (f' : FA) : Prop where
 modes : env'.map (Option.map Prod.snd) = env.map (Option.map Prod.snd)
 ros : ∀ j d m, env[j]? = some (some (d, m)) → m.rd = true → env'[j]? = some (some (d, m)) ∧ f' j = f j
section
variable {K : PySem.W.Frag} {σ : L2.St} {H H1 H2 : Hp} {env env1 env2 : En} {f f1 f2 : FA} {G G1 G2 : List Addr}
theorem Stp.refl : Stp H env f G H env f G := ⟨fun _ _ h _ => h, fun _ h => h.elim .inl fun z => .inr (.inl z)⟩
theorem Stp.trans (a : Stp H env f G H1 env1 f1 G1) (b : Stp H1 env1 f1 G1 H2 env2 f2 G2) : Stp H env f G H2 env2 f2 G2 where
 same := fun c o h q => by
  have h1 := a.same c o h q
  rcases q with q | q
  ·exact b.same c o h1 (.inl q)
  ·refine b.same c o h1 (.inr ⟨fun z => ?_, fun z => ?_⟩)
   ·rcases a.own c (.inl z) with z | z | z
    ·exact q.1 z
    ·exact q.2 z
    ·rw [h] at z; cases z
   ·rcases a.own c (.inr z) with z | z | z
    ·exact q.1 z
    ·exact q.2 z
    ·rw [h] at z; cases z
 own := fun c q => by
  rcases b.own c q with z | z | z
  ·exact a.own c (.inl z)
  ·exact a.own c (.inr z)
  ·by_cases hw : W env f c
   ·exact .inl hw
   ·by_cases hg : c ∈ G
    ·exact .inr (.inl hg)
    ·refine .inr (.inr ?_)
     cases e : H c with
     | none => rfl
     | some o =>
       have := a.same c o e (.inr ⟨hw, hg⟩)
       rw [z] at this; cases this
theorem Stp.frame (a : Stp H env f [] H1 env1 f1 G1) (P : List Addr) : Stp H env f P H1 env1 f1 (P ++ G1) :=
 ⟨fun b o h q => a.same b o h (q.imp_right fun z => ⟨z.1, by simp⟩), fun b q => by
  rcases q with q | q
  ·rcases a.own b (.inl q) with z | z | z
   ·exact .inl z
   ·simp at z
   ·exact .inr (.inr z)
  ·rcases List.mem_append.mp q with z | z
   ·exact .inr (.inl z)
   ·rcases a.own b (.inr z) with z | z | z
    ·exact .inl z
    ·simp at z
    ·exact .inr (.inr z)⟩
theorem Stp.drop (a : Stp H env f G H1 env1 f1 G1) {G2 : List Addr} (h : ∀ b ∈ G2, b ∈ G1) : Stp H env f G H1 env1 f1 G2 :=
 ⟨a.same, fun b q => a.own b (q.imp_right (h b))⟩
theorem Stp.more (a : Stp H env f G H1 env1 f1 G1) {G2 : List Addr} (h : ∀ b ∈ G, b ∈ G2) : Stp H env f G2 H1 env1 f1 G1 :=
 ⟨fun b o e q => a.same b o e (q.imp_right fun z => ⟨z.1, fun y => z.2 (h b y)⟩), fun b q => (a.own b q).imp_right fun z => z.imp_left (h b)⟩
theorem Kp.refl : Kp env f env f := ⟨rfl, fun _ _ _ h _ => ⟨h, rfl⟩⟩
theorem Kp.trans (a : Kp env f env1 f1) (b : Kp env1 f1 env2 f2) : Kp env f env2 f2 :=
 ⟨b.modes.trans a.modes, fun j d m h r => let ⟨h1, e1⟩ := a.ros j d m h r; let ⟨h2, e2⟩ := b.ros j d m h1 r; ⟨h2, e2.trans e1⟩⟩
theorem Kp.slot (a : Kp env f env1 f1) {i : Nat} {d : D} {m : Md} (h : env[i]? = some (some (d, m))) : ∃ d', env1[i]? = some (some (d', m)) := by
 have e := congrArg (fun l => l[i]?) a.modes
 simp only [List.getElem?_map, h, Option.map_some] at e
 cases q : env1[i]? with
 | none => rw [q] at e; cases e
 | some o =>
   rw [q] at e
   cases o with
   | none => cases e
   | some p => obtain ⟨d', m'⟩ := p; simp only [Option.map_some, Option.some.injEq] at e; subst e; exact ⟨d', rfl⟩
theorem Kp.slot' (a : Kp env f env1 f1) {i : Nat} {d : D} {m : Md} (h : env1[i]? = some (some (d, m))) : ∃ d', env[i]? = some (some (d', m)) := by
 have e := congrArg (fun l => l[i]?) a.modes
 simp only [List.getElem?_map, h, Option.map_some] at e
 cases q : env[i]? with
 | none => rw [q] at e; cases e
 | some o =>
   rw [q] at e
   cases o with
   | none => cases e
   | some p => obtain ⟨d', m'⟩ := p; simp only [Option.map_some, Option.some.injEq] at e; subst e; exact ⟨d', rfl⟩
theorem Kp.ro (a : Kp env f env1 f1) {b : Addr} (h : Ro env f b) : Ro env1 f1 b := by
 obtain ⟨i, d, m, e, r, hb⟩ := h
 obtain ⟨e1, e2⟩ := a.ros i d m e (Md.rd_of r)
 exact ⟨i, d, m, e1, r, by rw [e2]; exact hb⟩
theorem Kp.ro' (a : Kp env f env1 f1) {b : Addr} (h : Ro env1 f1 b) : Ro env f b := by
 obtain ⟨i, d, m, e, r, hb⟩ := h
 obtain ⟨d', e'⟩ := a.slot' e
 obtain ⟨e1, e2⟩ := a.ros i d' m e' (Md.rd_of r)
 rw [e2] at hb
 exact ⟨i, d', m, e', r, hb⟩
theorem Kp.l0 (a : Kp env f env1 f1) {b : Addr} (h : L0 env1 f1 b) : W env1 f1 b ∨ L0 env f b := by
 obtain ⟨i, d, m, e, r, hb⟩ := h
 cases hm : m.rd with
 | false => exact .inl ⟨i, d, m, e, hm, hb⟩
 | true =>
   obtain ⟨d', e'⟩ := a.slot' e
   obtain ⟨e1, e2⟩ := a.ros i d' m e' hm
   rw [e2] at hb
   exact .inr ⟨i, d', m, e', r, hb⟩
theorem Abs.rdom (A : Abs K σ H env f) {b : Addr} (h : Ro env f b) : ∃ o, H b = some o ∧ Mu o = true := by
 obtain ⟨i, d, m, e, r, hb⟩ := h
 obtain ⟨v, _, rp⟩ := A.rep i d m e
 exact rp.dom b hb
theorem Abs.ldom (A : Abs K σ H env f) {b : Addr} (h : L0 env f b) : ∃ o, H b = some o ∧ Mu o = true := by
 obtain ⟨i, d, m, e, r, hb⟩ := h
 obtain ⟨v, _, rp⟩ := A.rep i d m e
 exact rp.dom b hb
theorem Abs.apart (A : Abs K σ H env f) {b : Addr} (h : L0 env f b) : ¬ Ro env f b := by
 rintro ⟨j, d', m', e', r', hb'⟩
 obtain ⟨i, d, m, e, r, hb⟩ := h
 refine A.dis i j d m d' m' (fun z => ?_) e e' r b hb hb'
 subst z
 rw [e] at e'; cases e'
 exact r' r
theorem ResOk.dom {r : R} {v : V} {g : List Addr} (h : ResOk K σ H env f r v g) : ∀ b ∈ g, ∃ o, H b = some o ∧ Mu o = true := by
 cases h with
 | tmp r _ => exact r.dom
 | ro _ _ => intro b hb; simp at hb
 | sl _ _ _ => intro b hb; simp at hb
theorem ResOk.wait {r : R} {v : V} {g : List Addr} (h : ResOk K σ H env f r v g) (A : Abs K σ H env f) (s : Stp H env f [] H1 env1 f1 G1) (k : Kp env f env1 f1) :
 ResOk K σ H1 env1 f1 r v g ∧ ∀ b ∈ g, b ∉ G1 := by
 cases h with
 | tmp r n =>
   refine ⟨.tmp (r.keep fun b o e q => ?_) fun b hb => ⟨fun z => ?_, fun z => ?_⟩, fun b hb z => ?_⟩
   ·rcases q with q | q
    ·exact s.same b o e (.inr ⟨fun z => (n b q).1 z.l0, by simp⟩)
    ·exact s.same b o e (.inl q)
   ·obtain ⟨o, ho, _⟩ := r.dom b hb
    rcases k.l0 z with z | z
    ·rcases s.own b (.inl z) with z | z | z
     ·exact (n b hb).1 z.l0
     ·simp at z
     ·rw [ho] at z; cases z
    ·exact (n b hb).1 z
   ·exact (n b hb).2 (k.ro' z)
   ·obtain ⟨o, ho, _⟩ := r.dom b hb
    rcases s.own b (.inr z) with z | z | z
    ·exact (n b hb).1 z.l0
    ·simp at z
    ·rw [ho] at z; cases z
 | ro r n =>
   refine ⟨.ro (r.keep fun b o e q => ?_) fun b hb => k.ro (n b hb), fun b hb => by simp at hb⟩
   rcases q with q | q
   ·exact s.same b o e (.inr ⟨fun z => A.apart z.l0 (n b q), by simp⟩)
   ·exact s.same b o e (.inl q)
 | sl e1 e2 hm =>
   obtain ⟨d', e3⟩ := k.slot e2
   exact ⟨.sl e1 e3 hm, fun b hb => by simp at hb⟩
end
end BX
namespace BX
open PySem PySem.Spec PyProof.Rows L2
abbrev XE := En → (R → En → Prop) → Prop
abbrev XT := En → (Bool → En → Prop) → Prop
abbrev XA := En → (List R → En → Prop) → Prop
def xr (t : XE) : Prop := ∀ env Q Q', (∀ r e, Q r e → Q' r e) → t env Q → t env Q'
def VF (t : XT) : Prop := ∀ env Q Q', (∀ r e, Q r e → Q' r e) → t env Q → t env Q'
def Yo (t : XA) : Prop := ∀ env Q Q', (∀ r e, Q r e → Q' r e) → t env Q → t env Q'
def qdp (K : PySem.W.Frag) (σ : L2.St) (H : Hp) (env : En) (f : FA) (Q : VK) : R → En → Prop := fun r env' => ∀ v H' f' g, Abs K σ H' env' f' → ResOk K σ H' env' f' r v g → Stp H env f [] H' env' f' g → Kp env f env' f' → Q v H'
def jk (K : PySem.W.Frag) (t : XE) : TE := fun σ H Q => ∃ env f, Abs K σ H env f ∧ t env (qdp K σ H env f Q)
def liftT (K : PySem.W.Frag) (t : XT) : TT := fun σ H Q => ∃ env f, Abs K σ H env f ∧ t env fun b env' => ∀ H' f', Abs K σ H' env' f' → Stp H env f [] H' env' f' [] → Kp env f env' f' → Q b H'
inductive ResOks (K : PySem.W.Frag) (σ : L2.St) (H : Hp) (env : En) (f : FA) : List R → List V → List Addr → Prop
 | nil : ResOks K σ H env f [] [] []
 | cons {r : R} {v : V} {g : List Addr} {rs : List R} {vs : List V} {gs : List Addr} : ResOk K σ H env f r v g → ResOks K σ H env f rs vs gs → (∀ b ∈ g, b ∉ gs) → ResOks K σ H env f (r :: rs) (v :: vs) (g ++ gs)
def qa9 (K : PySem.W.Frag) (t : XA) : TA := fun σ H Q => ∃ env f, Abs K σ H env f ∧ t env fun rs env' => ∀ vs H' f' gs, Abs K σ H' env' f' → ResOks K σ H' env' f' rs vs gs → Stp H env f [] H' env' f' gs → Kp env f env' f' → Q vs H'
structure DE (X : Cx) (e : Expr) (t : XE) : Prop where
 run : PE X e (jk X.K t)
 mono : xr t
structure DT (X : Cx) (e : Expr) (t : XT) : Prop where
 run : PT X e (liftT X.K t)
 mono : VF t
structure DW (X : Cx) (e : Expr) (t : XT) : Prop where
 run : PW X e (liftT X.K t)
 mono : VF t
structure DA (X : Cx) (es : List Expr) (t : XA) : Prop where
 run : PA X es (qa9 X.K t)
 mono : Yo t
theorem PE.imp {X : Cx} {e : Expr} {t u : TE} (h : PE X e t) (k : ∀ σ H Q, u σ H Q → t σ H Q) : PE X e u := ⟨fun pins s σ H Q I q => h.run pins s σ H Q I (k _ _ _ q)⟩
theorem PT.imp {X : Cx} {e : Expr} {t u : TT} (h : PT X e t) (k : ∀ σ H Q, u σ H Q → t σ H Q) : PT X e u := ⟨fun pins s σ H Q I q => h.run pins s σ H Q I (k _ _ _ q)⟩
theorem PW.imp {X : Cx} {e : Expr} {t u : TT} (h : PW X e t) (k : ∀ σ H Q, u σ H Q → t σ H Q) : PW X e u := ⟨fun wh pins s σ H Q I q => h.run wh pins s σ H Q I (k _ _ _ q)⟩
theorem PA.imp {X : Cx} {e : List Expr} {t u : TA} (h : PA X e t) (k : ∀ σ H Q, u σ H Q → t σ H Q) : PA X e u := ⟨fun pos pins s σ H Q I q => h.run pos pins s σ H Q I (k _ _ _ q)⟩
def Md.okL : Md → Nat → Bool
 | .own, _ => true
 | .io, _ => true
 | .lk, _ => true
 | .ro, 0 => false
 | .ro, _ + 1 => true
 | .cst, 0 => false
 | .cst, 1 => false
 | .cst, _ + 2 => true
def roOk : Bool → Nat → Bool
 | false, 0 => false
 | false, _ + 1 => true
 | true, 0 => false
 | true, 1 => false
 | true, _ + 2 => true
theorem Md.okL_le {m : Md} {L : Nat} (h : m.okL L = true) : m.lv ≤ L := by
 cases m with
 | own => exact Nat.zero_le _
 | io => exact Nat.zero_le _
 | lk => exact Nat.zero_le _
 | ro => cases L with
   | zero => cases h
   | succ n => exact Nat.succ_le_succ (Nat.zero_le _)
 | cst => match L, h with
   | n + 2, _ => exact Nat.le_add_left 2 n
theorem qbU {c : Bool} {L : Nat} (h : roOk c L = true) : clv c ≤ L := by
 match c, L, h with
 | false, n + 1, _ => exact Nat.le_add_left 1 n
 | true, n + 2, _ => exact Nat.le_add_left 2 n
def R.data (L : Nat) (env : En) : R → Option D
 | .tmp d => some d
 | .ro c d => match roOk c L with
   | true => some d
   | false => none
 | .sl i => match env[i]? with
   | some (some (d, m)) => match m.okL L with
     | true => some d
     | false => none
   | _ => none
def rd (L : Nat) (r : R) (env : En) (k : D → Prop) : Prop := match r.data L env with
 | some d => k d
 | none => False
def stor (r : R) (env : En) (k : D → Prop) : Prop := match r with
 | .tmp d => k d
 | r => rd 1 r env fun d => d.imm = true ∧ k d
def mkRo (c : Bool) (d : D) : R := match d with
 | .int i => .tmp (.int i)
 | .bl i => .tmp (.bl i)
 | .str i => .tmp (.str i)
 | .non => .tmp .non
 | d => .ro c d
def elem (r : R) (d : D) (k : R → Prop) : Prop := match r with
 | .tmp _ => k (.tmp d)
 | .ro c _ => k (mkRo c d)
 | .sl _ => d.imm = true ∧ k (.tmp d)
theorem qQ {L : Nat} {r : R} {env : En} {k k' : D → Prop} (h : ∀ d, k d → k' d) (q : rd L r env k) : rd L r env k' := by
 unfold rd at q ⊢
 cases e : r.data L env with
 | none => rw [e] at q; exact q
 | some d => rw [e] at q; exact h _ q
theorem jM {r : R} {env : En} {k k' : D → Prop} (h : ∀ d, k d → k' d) (q : stor r env k) : stor r env k' := by
 cases r with
 | tmp d => exact h _ q
 | ro c d => exact qQ (fun d z => ⟨z.1, h _ z.2⟩) q
 | sl i => exact qQ (fun d z => ⟨z.1, h _ z.2⟩) q
theorem qcR {r : R} {d : D} {k k' : R → Prop} (h : ∀ d, k d → k' d) (q : elem r d k) : elem r d k' := by
 cases r with
 | tmp _ => exact h _ q
 | ro c _ => exact h _ q
 | sl _ => exact ⟨q.1, h _ q.2⟩
structure Ext (H H' : Hp) (g : List Addr) : Prop where
 same : ∀ b o, H b = some o → H' b = some o
 new : ∀ b ∈ g, H b = none
theorem Ext.refl {H : Hp} : Ext H H [] := ⟨fun _ _ h => h, fun b hb => by simp at hb⟩
theorem Ext.upd {H : Hp} {p : Addr} {o : HO} (h : H p = none) : Ext H (L2.upd H p o) [p] := ⟨fun b u e => by rw [upd_ne (ne_of_none e h)]; exact e, fun b hb => by rw [List.mem_singleton.mp hb]; exact h⟩
theorem Ext.drop {H H' : Hp} {g g' : List Addr} (e : Ext H H' g) (h : ∀ b ∈ g', b ∈ g) : Ext H H' g' := ⟨e.same, fun b hb => e.new b (h b hb)⟩
theorem Stp.new {H H1 H2 : Hp} {env e1 : En} {f f1 : FA} {G G1 g : List Addr} (S : Stp H env f G H1 e1 f1 G1) (x : Ext H1 H2 g) : Stp H env f G H2 e1 f1 (g ++ G1) :=
 S.trans ⟨fun b o h _ => x.same b o h, fun b q => q.elim .inl fun z => (List.mem_append.mp z).elim (fun y => .inr (.inr (x.new b y))) fun y => .inr (.inl y)⟩
section
variable {K : PySem.W.Frag} {σ : L2.St} {H H1 H2 H' : Hp} {env e1 e2 : En} {f f1 f2 : FA} {G g : List Addr} {r : R} {v z : V} {d : D}
theorem yx {L : Nat} {k : D → Prop} (A : Abs K σ H env f) (h : ResOk K σ H env f r v g) (q : rd L r env k) : ∃ d g', Rep K H L d v g' ∧ k d := by
 cases h with
 | tmp r _ => exact ⟨_, _, r.up (Nat.zero_le _), q⟩
 | @ro c d _ _ r _ =>
   unfold rd R.data at q
   cases e : roOk c L with
   | false => simp only [e] at q
   | true => simp only [e] at q; exact ⟨_, _, r.up (qbU e), q⟩
 | @sl i _ d m h1 h2 hm =>
   obtain ⟨v', h3, rp⟩ := A.rep _ _ _ h2
   rw [h1] at h3; cases h3
   unfold rd R.data at q
   simp only [h2] at q
   cases e : m.okL L with
   | false => simp only [e] at q
   | true => simp only [e] at q; exact ⟨_, _, rp.up (Md.okL_le e), q⟩
theorem Qg {k : D → Prop} (A : Abs K σ H env f) (h : ResOk K σ H env f r v g) (q : stor r env k) : ∃ d, Rep K H 0 d v g ∧ k d ∧ (∀ b ∈ g, ¬ L0 env f b ∧ ¬ Ro env f b) := by
 cases r with
 | tmp d => cases h with
   | tmp r n => exact ⟨d, r, q, n⟩
 | ro c d =>
   obtain ⟨d', g', rp, e, q⟩ := yx A h q
   obtain ⟨rfl, rp'⟩ := rp.imm (Nat.le_refl _) e
   cases h
   exact ⟨d', rp', q, fun b hb => by simp at hb⟩
 | sl i =>
   obtain ⟨d', g', rp, e, q⟩ := yx A h q
   obtain ⟨rfl, rp'⟩ := rp.imm (Nat.le_refl _) e
   cases h
   exact ⟨d', rp', q, fun b hb => by simp at hb⟩
theorem Abs.ext (A : Abs K σ H env f) (e : ∀ b o, H b = some o → H' b = some o) : Abs K σ H' env f :=
 ⟨fun i d m h => let ⟨v, h1, r⟩ := A.rep i d m h; ⟨v, h1, r.keep fun b o q _ => e b o q⟩, A.dis, A.len⟩
theorem j8 (A : Abs K σ H2 e2 f2) (S : Stp H env f [] H2 e2 f2 G) (x : Ext H2 H' g) (r : Rep K H' 0 d z g) :
 Abs K σ H' e2 f2 ∧ ResOk K σ H' e2 f2 (.tmp d) z g ∧ Stp H env f [] H' e2 f2 g := by
 refine ⟨A.ext x.same, .tmp r fun b hb => ⟨fun w => ?_, fun w => ?_⟩, S.trans ⟨fun b o h _ => x.same b o h, fun b q => ?_⟩⟩
 ·obtain ⟨o, ho, _⟩ := A.ldom w
  rw [x.new b hb] at ho; cases ho
 ·obtain ⟨o, ho, _⟩ := A.rdom w
  rw [x.new b hb] at ho; cases ho
 ·rcases q with q | q
  ·exact .inl q
  ·exact .inr (.inr (x.new b q))
theorem qaH {ta tb : XE} {C : R → R → En → Prop} (ma : xr ta) (mb : xr tb) (A : Abs K σ H env f) (q : ta env fun r1 e1 => tb e1 fun r2 e2 => C r1 r2 e2) :
 jk K ta σ H fun x H1 => jk K tb σ H1 fun y H2 => ∃ r1 r2 e2 f2 g1 g2, Abs K σ H2 e2 f2 ∧ ResOk K σ H2 e2 f2 r1 x g1 ∧ ResOk K σ H2 e2 f2 r2 y g2 ∧ (∀ b ∈ g1, b ∉ g2) ∧ Stp H env f [] H2 e2 f2 (g1 ++ g2) ∧ Kp env f e2 f2 ∧ C r1 r2 e2 := by
 refine ⟨env, f, A, ma _ _ _ (fun r1 e1 q1 => ?_) q⟩
 intro x H1 f1 g1 A1 R1 S1 K1
 refine ⟨e1, f1, A1, mb _ _ _ (fun r2 e2 q2 => ?_) q1⟩
 intro y H2 f2 g2 A2 R2 S2 K2
 obtain ⟨R1', n⟩ := R1.wait A1 S2 K2
 exact ⟨r1, r2, e2, f2, g1, g2, A2, R1', R2, n, S1.trans (S2.frame g1), K1.trans K2, q2⟩
end
def dVar (i : Nat) : XE := fun env Q => match env[i]? with
 | some (some (.int z, _)) => Q (.tmp (.int z)) env
 | some (some (.bl z, _)) => Q (.tmp (.bl z)) env
 | some (some (.str z, _)) => Q (.tmp (.str z)) env
 | some (some (.non, _)) => Q (.tmp .non) env
 | some (some (.dF kvs, .own)) => Q (.ro true (.dT kvs)) env
 | some (some (d, .ro)) => Q (.ro false d) env
 | some (some (d, .cst)) => Q (.ro true d) env
 | some (some (_, .own)) => Q (.sl i) env
 | some (some (_, .io)) => Q (.sl i) env
 | some (some (_, .lk)) => Q (.sl i) env
 | _ => False
def dC (d : D) : XE := fun env Q => Q (.tmp d) env
def dG (d : D) : XE := fun env Q => Q (mkRo true d) env
section
variable {X : Cx}
theorem qF {P : Addr → Prop} : ∀ b ∈ ([] : List Addr), P b := fun b hb => by simp at hb
theorem Rep.frz2 {K : PySem.W.Frag} {H : Hp} {lv : Nat} {kvs : List (List Key × D)} {v : V} {g : List Addr} (r : Rep K H lv (.dF kvs) v g) (l : lv ≤ 2) : Rep K H 2 (.dT kvs) v [] := by
 cases r with
 | dF h e nd r => exact .dTF (Nat.le_refl _) h e nd (r.up l)
theorem qj (i : Nat) {x : Str} {pos : Pos} (hN : X.N[i]? = some x := by rfl) (hv : Vis X.env.scope x := by first | exact Or.inl rfl | exact Or.inr (Or.inl rfl) | exact Or.inr (Or.inr rfl)) (hd : (x == ("__debug__" : Str)) = false := by decide)
 (hcd : (x == ("__classdict__" : Str)) = false := by decide) : DE X (.Name x pos) (dVar i) := by
 refine ⟨PE.imp (pe_var hN hv hd hcd) fun σ H Q q => ?_, fun env Q Q' h q => ?_⟩
 ·obtain ⟨env, f, A, q⟩ := q
  unfold dVar at q
  split at q
  all_goals first
   | exact q.elim
   | (rename_i e
      obtain ⟨v, h1, rp⟩ := A.rep _ _ _ e
      refine ⟨v, h1, ?_⟩
      first
       | exact q v H f _ A (.tmp rp.int0 qF) .refl .refl
       | exact q v H f _ A (.tmp rp.bl0 qF) .refl .refl
       | exact q v H f _ A (.tmp rp.str0 qF) .refl .refl
       | exact q v H f _ A (.tmp rp.non0 qF) .refl .refl
       | exact q v H f _ A (.ro (rp.frz2 (Nat.zero_le _)) qF) .refl .refl
       | exact q v H f _ A (.ro rp fun b hb => ⟨_, _, _, e, by decide, hb⟩) .refl .refl
       | exact q v H f _ A (.sl h1 e rfl) .refl .refl)
 ·unfold dVar at q ⊢
  split at q <;> first | exact q.elim | exact h _ _ q
theorem qC {i j pos} : DE X (.Constant (.int i) j pos) (dC (.int i)) :=
 ⟨PE.imp pe_int fun σ H Q ⟨env, f, A, q⟩ => q _ H f _ A (.tmp (.int i) qF) .refl .refl, fun env Q Q' h q => h _ _ q⟩
theorem Wf {i j pos} : DE X (.Constant (.bool i) j pos) (dC (.bl i)) :=
 ⟨PE.imp pe_bl fun σ H Q ⟨env, f, A, q⟩ => q _ H f _ A (.tmp (.bl i) qF) .refl .refl, fun env Q Q' h q => h _ _ q⟩
theorem qaw {j pos} : DE X (.Constant .none j pos) (dC .non) :=
 ⟨PE.imp pe_non fun σ H Q ⟨env, f, A, q⟩ => q _ H f _ A (.tmp .non qF) .refl .refl, fun env Q Q' h q => h _ _ q⟩
def rOp (K : PySem.W.Frag) (L : Nat) (op : D → D → (D → Prop) → Prop) : R2 := fun x y H Q => ∃ d1 d2 g1 g2, Rep K H L d1 x g1 ∧ Rep K H L d2 y g2 ∧ op d1 d2 fun d => ∀ z H' g, Rep K H' 0 d z g → Ext H H' g → Q z H'
def Qq (op : D → D → (D → Prop) → Prop) : Prop := ∀ d1 d2 k k', (∀ d, k d → k' d) → op d1 d2 k → op d1 d2 k'
structure OpD (X : Cx) (fn : Value → Value → Sem Value) (L : Nat) (op : D → D → (D → Prop) → Prop) : Prop where
 run : OpR X fn (rOp X.K L op)
 mono : Qq op
def dBin (L : Nat) (op : D → D → (D → Prop) → Prop) (ta tb : XE) : XE := fun env Q => ta env fun r1 e1 => tb e1 fun r2 e2 => rd L r1 e2 fun d1 => rd L r2 e2 fun d2 => op d1 d2 fun d => Q (.tmp d) e2
theorem QW {L : Nat} {op : D → D → (D → Prop) → Prop} {ta tb : XE} (ho : Qq op) (ha : xr ta) (hb : xr tb) : xr (dBin L op ta tb) := fun env Q Q' h q =>
 ha _ _ _ (fun r1 e1 q => hb _ _ _ (fun r2 e2 q => qQ (fun d1 q => qQ (fun d2 q => ho _ _ _ _ (fun d q => h _ _ q) q) q) q) q) q
theorem QX {K : PySem.W.Frag} {L : Nat} {op : D → D → (D → Prop) → Prop} {ta tb : XE} (ho : Qq op) (ha : xr ta) (hb : xr tb) {σ : L2.St} {H : Hp} {Q : VK} (q : jk K (dBin L op ta tb) σ H Q) :
 tOp (rOp K L op) (jk K ta) (jk K tb) σ H Q := by
 obtain ⟨env, f, A, q⟩ := q
 have h := qaH (C := fun r1 r2 e2 => rd L r1 e2 fun d1 => rd L r2 e2 fun d2 => op d1 d2 fun d => _) ha hb A q
 obtain ⟨env1, f1, A1, q1⟩ := h
 refine ⟨env1, f1, A1, ha _ _ _ (fun r1 e1 z => ?_) q1⟩
 intro x H1 f1 g1 a b c d
 obtain ⟨env2, f2, A2, q2⟩ := z x H1 f1 g1 a b c d
 refine ⟨env2, f2, A2, hb _ _ _ (fun r2 e2 z => ?_) q2⟩
 intro y H2 f2 g2 a b c d
 obtain ⟨r1, r2, e2, f2, g1, g2, A2, R1, R2, n, S, Kk, q3⟩ := z y H2 f2 g2 a b c d
 obtain ⟨d1, g1', rp1, q3⟩ := yx A2 R1 q3
 obtain ⟨d2, g2', rp2, q3⟩ := yx A2 R2 q3
 refine ⟨d1, d2, g1', g2', rp1, rp2, ho _ _ _ _ (fun dd q4 => ?_) q3⟩
 intro z H' g rp x
 obtain ⟨A3, R3, S3⟩ := j8 A2 S x rp
 exact q4 z H' f2 g A3 R3 S3 Kk
variable {a b c : Expr} {ta tb tc : XE} {pos : Pos} {L : Nat} {op' : D → D → (D → Prop) → Prop}
theorem qI {op : Operator} (ho : OpD X (binaryOp op) L op') (ha : DE X a ta) (hb : DE X b tb) : DE X (.BinOp a op b pos) (dBin L op' ta tb) :=
 ⟨PE.imp (pe_op ho.run ha.run hb.run) fun σ H Q q => QX ho.mono ha.mono hb.mono q, QW ho.mono ha.mono hb.mono⟩
theorem u9 {op : CmpOp} (ho : OpD X (compareOp op) L op') (ha : DE X a ta) (hb : DE X b tb) (hm : behindInMarks op b = false) : DE X (.Compare a [op] [b] pos) (dBin L op' ta tb) :=
 ⟨PE.imp (pe_cmpR ho.run ha.run hb.run hm) fun σ H Q q => QX ho.mono ha.mono hb.mono q, QW ho.mono ha.mono hb.mono⟩
end
end BX
namespace BX
open PySem PySem.Spec PyProof.Rows L2
structure Ok (X : Cx) : Prop where
 calm : X.calm = true
 un : X.A.units + 100 < cLine
mutual
def D.py : D → PyData
 | .non => .none
 | .bl b => .bool b
 | .int i => .int i
 | .str s => .str s
 | .tup xs => .tuple (pyL xs)
 | .lst xs => .list (pyL xs)
 | .dT _ => .dict []
 | .dK _ => .dict []
 | .dF _ => .dict []
 | .lF xs => .list (pyL xs)
 | .ob _ _ => .dict []
 | .ex _ _ => .dict []
 | .dN _ => .dict []
def pyL : List D → List PyData
 | [] => []
 | d :: ds => d.py :: pyL ds
end
theorem qb1 : ∀ ds : List D, pyL ds = ds.map D.py
 | [] => by rw [pyL]; rfl
 | d :: ds => by rw [pyL, qb1 ds]; rfl
def deq (a b : D) : Bool := PyData.eqv a.py b.py
def eqOk (a : D) : Bool := SeqAt.shaped a.py
section
variable {K : PySem.W.Frag} {H : Hp} {lv : Nat}
mutual
theorem Rep.dp : ∀ {d : D} {v : V} {f : List Addr}, Rep K H lv d v f → d.py.canLay0 = true → Dp K H v d.py
 | _, _, _, .non, _ => by rw [D.py]; exact .non
 | _, _, _, .bl b, _ => by rw [D.py]; exact .bl b
 | _, _, _, .int i, _ => by rw [D.py]; exact .int i
 | _, _, _, .str s, _ => by rw [D.py]; exact .str s
 | _, _, _, .tup h r, e => by
   rw [D.py] at e ⊢
   exact .tup (.inl (.inl h)) (Reps.dp r (by simpa [PyData.canLay0] using e))
 | _, _, _, .tupK l h r, e => by
   rw [D.py] at e ⊢
   exact .tup h.sq (Reps.dp r (by simpa [PyData.canLay0] using e))
 | _, _, _, .lst h r n, e => by
   rw [D.py] at e ⊢
   exact .lst (.inl (.inl h)) (Reps.dp r (by simpa [PyData.canLay0] using e))
 | _, _, _, .lstF l h r, e => by
   rw [D.py] at e ⊢
   exact .lst h.sq (Reps.dp r (by simpa [PyData.canLay0] using e))
 | _, _, _, .dT h e' nd r n, e => by rw [D.py] at e; simp [PyData.canLay0] at e
 | _, _, _, .dTF l h e' nd r, e => by rw [D.py] at e; simp [PyData.canLay0] at e
 | _, _, _, .dF h e' nd r, e => by rw [D.py] at e; simp [PyData.canLay0] at e
 | _, _, _, .ob h c e' r n, e => by rw [D.py] at e; simp [PyData.canLay0] at e
 | _, _, _, .lF h r, e => by
   rw [D.py] at e ⊢
   exact .lst (.inl (.inr ⟨_, h⟩)) (Reps.dp r (by simpa [PyData.canLay0] using e))
 | _, _, _, .dK h e' nd r n, e => by rw [D.py] at e; simp [PyData.canLay0] at e
theorem Reps.dp : ∀ {ds : List D} {vs : List V} {f : List Addr}, Reps K H lv ds vs f → PyData.canLayAll0 (pyL ds) = true → DpAll K H vs (pyL ds)
 | _, _, _, .nil, _ => by rw [pyL]; exact .nil
 | _, _, _, .cons r t n, e => by
   rw [pyL] at e ⊢
   rw [PyData.canLayAll0, Bool.and_eq_true] at e
   have e' := e
   exact .cons (Rep.dp r e'.1) (Reps.dp t e'.2)
end
theorem Rep.eqd {d : D} {v : V} {f : List Addr} (r : Rep K H lv d v f) (e : eqOk d = true) : Dp K H v d.py ∧ SeqAt.shaped d.py = true := ⟨r.dp (SeqAt.canLay_of_shaped e), e⟩
end
abbrev OP := D → D → (D → Prop) → Prop
def opEq : OP := fun a b k => eqOk a = true ∧ eqOk b = true ∧ k (.bl (deq a b))
def opNe : OP := fun a b k => eqOk a = true ∧ eqOk b = true ∧ k (.bl (!deq a b))
def Y5 (g : Int → Int → D) : OP := fun a b k => match a, b with
 | .int i, .int j => k (g i j)
 | _, _ => False
def Wr (C : Int → Int → Prop) (g : Int → Int → D) : OP := fun a b k => match a, b with
 | .int i, .int j => C i j ∧ k (g i j)
 | _, _ => False
def wU : OP := fun a b k => match a, b with
 | .int i, .int j => k (.int (i + j))
 | .str i, .str j => i.length + j.length ≤ sizeLine ∧ k (.str (i ++ j))
 | .lst xs, .lst ys => immL xs = true ∧ immL ys = true ∧ xs.length + ys.length ≤ sizeLine ∧ k (.lst (xs ++ ys))
 | .tup xs, .tup ys => immL xs = true ∧ immL ys = true ∧ xs.length + ys.length ≤ sizeLine ∧ k (.tup (xs ++ ys))
 | .lF xs, .lst ys => immL xs = true ∧ immL ys = true ∧ xs.length + ys.length ≤ sizeLine ∧ k (.lst (xs ++ ys))
 | .lst xs, .lF ys => immL xs = true ∧ immL ys = true ∧ xs.length + ys.length ≤ sizeLine ∧ k (.lst (xs ++ ys))
 | .lF xs, .lF ys => immL xs = true ∧ immL ys = true ∧ xs.length + ys.length ≤ sizeLine ∧ k (.lst (xs ++ ys))
 | _, _ => False
def vB : OP := fun a b k => match a, b with
 | .int i, .int j => IntMulOk i j ∧ k (.int (i * j))
 | .lst xs, .int j => immL xs = true ∧ -(2 ^ 63) ≤ j ∧ j < 2 ^ 63 ∧ xs.length * j.toNat ≤ sizeLine ∧ k (.lst (List.replicate j.toNat xs).flatten)
 | _, _ => False
abbrev uP : OP := Y5 fun i j => .int (i - j)
abbrev vC : OP := Wr (fun _ j => 0 < j) fun i j => .int (i % j)
abbrev qa7 : OP := Wr CDiv fun i j => .int (i / j)
abbrev qha : OP := Wr CPow fun i j => .int (i ^ j.toNat)
abbrev opGt : OP := Y5 fun i j => .bl (decide (j < i))
abbrev opGe : OP := Y5 fun i j => .bl (decide (j ≤ i))
abbrev opLe : OP := Y5 fun i j => .bl (decide (i ≤ j))
def intL : List D → Option (List Int)
 | [] => some []
 | .int i :: ds => (intL ds).map (i :: ·)
 | _ :: _ => none
def opLt : OP := fun a b k => match a, b with
 | .int i, .int j => k (.bl (decide (i < j)))
 | .tup xs, .tup ys => match intL xs, intL ys with
   | some ns, some ms => k (.bl (HT.lexLt ns ms))
   | _, _ => False
 | _, _ => False
def isNon : D → Bool
 | .non => true
 | _ => false
def opIs : OP := fun a b k => match a, b with
 | a, .non => k (.bl (isNon a))
 | .bl i, .bl j => k (.bl (decide (i = j)))
 | _, _ => False
def xj : OP := fun a b k => match a, b with
 | a, .non => k (.bl (!isNon a))
 | .bl i, .bl j => k (.bl (!decide (i = j)))
 | _, _ => False
def dKey : D → Option Key
 | .int i => some (.inl i)
 | .str s => some (.inr s)
 | _ => none
def jd : List D → Option (List Key)
 | [] => some []
 | d :: ds => match dKey d, jd ds with
   | some k, some ks => some (k :: ks)
   | _, _ => none
def hasT (kvs : List (List Key × D)) (k : List Key) : Bool := kvs.any fun p => decide (p.1 = k)
def hasK (kvs : List (Key × D)) (k : Key) : Bool := kvs.any fun p => decide (p.1 = k)
def findIn (a : D) : List D → Bool
 | [] => false
 | d :: ds => deq d a || findIn a ds
def Qz (n : Bool) : OP := fun a b k => match b with
 | .dT kvs => match a with
   | .tup ds => match jd ds with
     | some ks => k (.bl (n != hasT kvs ks))
     | none => False
   | _ => False
 | .dK kvs => match dKey a with
   | some ky => k (.bl (n != hasK kvs ky))
   | none => False
 | .lst ds => eqOk a = true ∧ eqOk (.lst ds) = true ∧ k (.bl (n != findIn a ds))
 | .lF ds => eqOk a = true ∧ eqOk (.lF ds) = true ∧ k (.bl (n != findIn a ds))
 | .tup ds => eqOk a = true ∧ eqOk (.tup ds) = true ∧ k (.bl (n != findIn a ds))
 | .str s => match a with
   | .str t => k (.bl (n != !(Builtin.Str.occurrences s t 0 s.length 1).isEmpty))
   | _ => False
 | _ => False
abbrev opIn := Qz false
abbrev j6 := Qz true
section
variable {K : PySem.W.Frag} {H : Hp} {lv : Nat}
theorem Reps.intL : ∀ {ds : List D} {vs : List V} {f : List Addr} {ns : List Int}, Reps K H lv ds vs f → BX.intL ds = some ns → vs = ns.map V.int
 | _, _, _, _, .nil, e => by
   rw [BX.intL] at e; cases e; rfl
 | _, _, _, ns, .cons (d := d) (ds := ds) r t _, e => by
   cases r with
   | int i =>
     rw [BX.intL] at e
     obtain ⟨ms, h1, h2⟩ := Option.map_eq_some_iff.mp e
     subst h2
     rw [Reps.intL t h1]
     rfl
   | _ => rw [BX.intL] at e <;> first | (cases e) | (intro i z; cases z)
theorem Rep.dKey {d : D} {v : V} {f : List Addr} {k : Key} (r : Rep K H lv d v f) (e : BX.dKey d = some k) : v = kV k := by
 cases r with
 | int i => rw [BX.dKey] at e; cases e; rfl
 | str s => rw [BX.dKey] at e; cases e; rfl
 | _ => rw [BX.dKey] at e <;> first | (cases e) | (intro i z; cases z)
theorem Reps.jd : ∀ {ds : List D} {vs : List V} {f : List Addr} {ks : List Key}, Reps K H lv ds vs f → BX.jd ds = some ks → vs = ks.map kV
 | _, _, _, _, .nil, e => by
   rw [BX.jd] at e; cases e; rfl
 | _, _, _, ns, .cons (d := d) (ds := ds) r t _, e => by
   rw [BX.jd] at e
   split at e
   ·rename_i k ks h1 h2
    cases e
    rw [r.dKey h1, Reps.jd t h2]
    rfl
   ·cases e
end
section
variable {κ : Type} [DecidableEq κ]
theorem YJ : ∀ {hs : List (κ × V)} {kvs : List (κ × D)} {k : κ}, hs.map (·.1) = kvs.map (·.1) → (valV hs k).isSome = kvs.any fun p => decide (p.1 = k)
 | [], [], _, _ => rfl
 | [], _ :: _, _, e => by simp at e
 | _ :: _, [], _, e => by simp at e
 | p :: hs, q :: kvs, k, e => by
   rw [List.map_cons, List.map_cons, List.cons.injEq] at e
   rw [List.any_cons, ← e.1]
   by_cases h : p.1 = k
   ·rw [valV_pos h, decide_eq_true h]; rfl
   ·rw [valV_neg h, decide_eq_false h, Bool.false_or]; exact YJ e.2
end
theorem jG (a : D) : ∀ ds : List D, findIn a ds = (pyL ds).any fun z => PyData.eqv z a.py
 | [] => by rw [pyL]; rfl
 | d :: ds => by rw [pyL, List.any_cons, findIn, jG a ds]; rfl
section
variable {X : Cx}
theorem OpD.mk' {fn : Value → Value → Sem Value} {L : Nat} {op : OP} (run : ∀ (pins : List (Addr × Obj)) (s : Shared) (σ : L2.St) (H : Hp) (x y : V) (v u : Value) (Q : VK) (d1 d2 : D) (g1 g2 : List Addr), Inv X pins σ H s → RelV x v → RelV y u →
 Rep X.K H L d1 x g1 → Rep X.K H L d2 y g2 → (op d1 d2 fun d => ∀ z H' g, Rep X.K H' 0 d z g → Ext H H' g → Q z H') → wpAny (model X.prog X.w) X.A (fn v u) (EP X pins σ Q) X.xe s) (mono : Qq op) : OpD X fn L op :=
 ⟨fun pins s σ H x y v u Q I rx ry ⟨d1, d2, g1, g2, r1, r2, q⟩ => run pins s σ H x y v u Q d1 d2 g1 g2 I rx ry r1 r2 q, mono⟩
theorem qdS {g : Int → Int → D} : Qq (Y5 g) := fun a b k k' h q => by
 unfold Y5 at q ⊢
 split at q
 ·exact h _ q
 ·exact q.elim
theorem qct {C : Int → Int → Prop} {g : Int → Int → D} : Qq (Wr C g) := fun a b k k' h q => by
 unfold Wr at q ⊢
 split at q
 ·exact ⟨q.1, h _ q.2⟩
 ·exact q.elim
theorem qad {fn : Value → Value → Sem Value} {g : Int → Int → D} {gv : Int → Int → V} (h : OpR X fn (rI0 gv)) (hg : ∀ i j H, Rep X.K H 0 (g i j) (gv i j) []) : OpD X fn 2 (Y5 g) := .mk' (fun pins s σ H x y v u Q d1 d2 g1 g2 I rx ry r1 r2 q => by
 unfold Y5 at q
 split at q
 ·obtain ⟨rfl, _⟩ := r1.intV
  obtain ⟨rfl, _⟩ := r2.intV
  exact h pins s σ H _ _ v u Q I rx ry ⟨_, _, rfl, rfl, q _ _ [] (hg _ _ _) .refl⟩
 ·exact q.elim) qdS
theorem UJ {fn : Value → Value → Sem Value} {C : Int → Int → Prop} {g : Int → Int → D} {gv : Int → Int → V} (h : OpR X fn (rI C gv)) (hg : ∀ i j H, Rep X.K H 0 (g i j) (gv i j) []) : OpD X fn 2 (Wr C g) := .mk' (fun pins s σ H x y v u Q d1 d2 g1 g2 I rx ry r1 r2 q => by
 unfold Wr at q
 split at q
 ·obtain ⟨rfl, _⟩ := r1.intV
  obtain ⟨rfl, _⟩ := r2.intV
  exact h pins s σ H _ _ v u Q I rx ry ⟨_, _, rfl, rfl, q.1, q.2 _ _ [] (hg _ _ _) .refl⟩
 ·exact q.elim) qct
theorem jj : OpD X (binaryOp .Sub) 2 uP := qad op_sub fun _ _ _ => .int _
theorem jQ : OpD X (binaryOp .Mod) 2 vC := UJ op_mod fun _ _ _ => .int _
theorem qae : OpD X (binaryOp .FloorDiv) 2 qa7 := UJ op_fdiv fun _ _ _ => .int _
theorem qhc : OpD X (binaryOp .Pow) 2 qha := UJ op_pow fun _ _ _ => .int _
theorem Jb : OpD X (compareOp .Gt) 2 opGt := qad op_gt fun _ _ _ => .bl _
theorem qhe : OpD X (compareOp .GtE) 2 opGe := qad op_ge fun _ _ _ => .bl _
theorem qfy : OpD X (compareOp .LtE) 2 opLe := qad op_le fun _ _ _ => .bl _
theorem Qa {H : Hp} {p : Addr} {ds : List D} {vs : List V} (h : H p = none) (r : Reps X.K H 0 ds vs []) : Rep X.K (L2.upd H p (.lst vs)) 0 (.lst ds) (.ref p) [p] :=
 .lst upd_same (r.keep fun b o e _ => (Ext.upd h).same b o e) (fun _ => by simp)
theorem Zd {H : Hp} {p : Addr} {ds : List D} {vs : List V} {f : List Addr} (h : H p = none) (r : Reps X.K H 0 ds vs f) : Rep X.K (L2.upd H p (.tup vs)) 0 (.tup ds) (.ref p) f :=
 .tup upd_same (r.keep fun b o e _ => (Ext.upd h).same b o e)
theorem Ext.updT {H : Hp} {p : Addr} {o : HO} (h : H p = none) : Ext H (L2.upd H p o) [] := (Ext.upd h).drop qF
def LsF (H : Hp) (a : Addr) (vs : List V) : Prop := H a = some (.lst vs) ∨ ∃ o, H a = some (.frz o (.lst vs))
theorem LsF.at {pins : List (Addr × Obj)} {s : Shared} {σ : L2.St} {H : Hp} {a : Addr} {vs : List V} (I : Inv X pins σ H s) (h : LsF H a vs) : ∃ (its : List Value) (n : Nat), Vals vs its ∧ s.heap.get? a = some { cls := .type "list", data := .seq its.toArray n } := by
 rcases h with h | ⟨o, h⟩
 ·obtain ⟨_, its, n, r, e⟩ := I.hok a _ h
  exact ⟨its, n, r, e⟩
 ·obtain ⟨_, _, its, n, r, e⟩ := I.hok a _ h
  exact ⟨its, n, r, e⟩
theorem Rep.lFLs {K : PySem.W.Frag} {H : Hp} {lv : Nat} {ds : List D} {v : V} {f : List Addr} (r : Rep K H lv (.lF ds) v f) : ∃ a vs, v = .ref a ∧ LsF H a vs ∧ Reps K H lv ds vs f := by
 cases r with
 | lF h r => exact ⟨_, _, rfl, .inr ⟨_, h⟩, r⟩
theorem Xv {pins : List (Addr × Obj)} {s : Shared} {σ : L2.St} {H : Hp} {a b : Addr} {v u : Value} {Q : VK} {vs ws : List V} {xs ys : List D} {f g : List Addr} (I : Inv X pins σ H s) (rx : RelV (.ref a) v) (ry : RelV (.ref b) u) (ha : LsF H a vs) (hb : LsF H b ws)
 (ra : Reps X.K H 1 xs vs f) (rb : Reps X.K H 1 ys ws g) (i1 : immL xs = true) (i2 : immL ys = true) (z : xs.length + ys.length ≤ sizeLine) (q : ∀ z H' g, Rep X.K H' 0 (.lst (xs ++ ys)) z g → Ext H H' g → Q z H') : wpAny (model X.prog X.w) X.A (binaryOp .Add v u) (EP X pins σ Q) X.xe s := by
 obtain ⟨_, ra'⟩ := ra.imm (Nat.le_refl _) i1
 obtain ⟨_, rb'⟩ := rb.imm (Nat.le_refl _) i2
 cases rx
 cases ry
 obtain ⟨i, n, r1, p1⟩ := ha.at I
 obtain ⟨j, m, r2, p2⟩ := hb.at I
 have l1 := r1.length
 have l2 := r2.length
 have l3 := ra.len
 have l4 := rb.len
 refine PySem.P.add_list p1 p2 ?_ (by simp only [List.size_toArray]; omega)
 have e : i.toArray ++ j.toArray = (i ++ j).toArray := by simp
 rw [e]
 exact ⟨.ref _, _, I.lnew (t' := s.toks) (r1.append r2) (by rw [List.length_append]; omega), rfl, q _ _ _ (Qa I.fresh (ra'.append rb' fun _ b hb => by simp at hb)) (.upd I.fresh)⟩
theorem wy : OpD X (binaryOp .Add) 1 wU := .mk' (fun pins s σ H x y v u Q d1 d2 g1 g2 I rx ry r1 r2 q => by
 unfold wU at q
 split at q
 ·obtain ⟨rfl, _⟩ := r1.intV
  obtain ⟨rfl, _⟩ := r2.intV
  exact op_add pins s σ H _ _ v u Q I rx ry ⟨_, _, rfl, rfl, q _ _ [] (.int _) .refl⟩
 ·obtain ⟨rfl, _⟩ := r1.strV
  obtain ⟨rfl, _⟩ := r2.strV
  exact op_add_str pins s σ H _ _ v u Q I rx ry ⟨_, _, rfl, rfl, q.1, q.2 _ _ [] (.str _) .refl⟩
 ·obtain ⟨i1, i2, z, q⟩ := q
  obtain ⟨a, vs, ga, rfl, ha, ra, _⟩ := r1.listAt1 (Nat.le_refl _)
  obtain ⟨b, ws, gb, rfl, hb, rb, _⟩ := r2.listAt1 (Nat.le_refl _)
  obtain ⟨_, ra'⟩ := ra.imm (Nat.le_refl _) i1
  obtain ⟨_, rb'⟩ := rb.imm (Nat.le_refl _) i2
  refine op_cat pins s σ H _ _ v u Q I rx ry ⟨_, _, _, _, rfl, rfl, ha, hb, by rw [← ra.len, ← rb.len]; exact z, fun p hp => q _ _ _ (Qa hp (ra'.append rb' fun _ b hb => by simp at hb)) (.upd hp)⟩
 ·obtain ⟨i1, i2, z, q⟩ := q
  obtain ⟨a, vs, rfl, ha, ra⟩ := r1.tupleSq
  obtain ⟨b, ws, rfl, hb, rb⟩ := r2.tupleSq
  obtain ⟨_, ra'⟩ := ra.imm (Nat.le_refl _) i1
  obtain ⟨_, rb'⟩ := rb.imm (Nat.le_refl _) i2
  refine op_catA pins s σ H _ _ v u Q I rx ry ⟨_, _, _, _, rfl, rfl, ha, hb, by rw [← ra.len, ← rb.len]; exact z, fun e => ?_, fun _ e => ?_, fun e1 e2 p hp => q _ _ _ (Zd hp (ra'.append rb' fun _ b hb => by simp at hb)) (.updT hp)⟩
  ·subst e
   have : _ = [] := List.eq_nil_of_length_eq_zero (ra.len.trans rfl)
   subst this
   exact q _ _ [] (r2.imm (Nat.le_refl _) (by rw [D.imm]; exact i2)).2 .refl
  ·subst e
   have : _ = [] := List.eq_nil_of_length_eq_zero (rb.len.trans rfl)
   subst this
   rw [List.append_nil] at q
   exact q _ _ [] (r1.imm (Nat.le_refl _) (by rw [D.imm]; exact i1)).2 .refl
 ·obtain ⟨i1, i2, z, q⟩ := q
  obtain ⟨a, vs, rfl, ha, ra⟩ := r1.lFLs
  obtain ⟨b, ws, gb, rfl, hb, rb, _⟩ := r2.listAt1 (Nat.le_refl _)
  exact Xv I rx ry ha (.inl hb) ra rb i1 i2 z q
 ·obtain ⟨i1, i2, z, q⟩ := q
  obtain ⟨a, vs, ga, rfl, ha, ra, _⟩ := r1.listAt1 (Nat.le_refl _)
  obtain ⟨b, ws, rfl, hb, rb⟩ := r2.lFLs
  exact Xv I rx ry (.inl ha) hb ra rb i1 i2 z q
 ·obtain ⟨i1, i2, z, q⟩ := q
  obtain ⟨a, vs, rfl, ha, ra⟩ := r1.lFLs
  obtain ⟨b, ws, rfl, hb, rb⟩ := r2.lFLs
  exact Xv I rx ry ha hb ra rb i1 i2 z q
 ·exact q.elim) (fun a b k k' h q => by
 unfold wU at q ⊢
 split at q
 ·exact h _ q
 ·exact ⟨q.1, h _ q.2⟩
 ·exact ⟨q.1, q.2.1, q.2.2.1, h _ q.2.2.2⟩
 ·exact ⟨q.1, q.2.1, q.2.2.1, h _ q.2.2.2⟩
 ·exact ⟨q.1, q.2.1, q.2.2.1, h _ q.2.2.2⟩
 ·exact ⟨q.1, q.2.1, q.2.2.1, h _ q.2.2.2⟩
 ·exact ⟨q.1, q.2.1, q.2.2.1, h _ q.2.2.2⟩
 ·exact q.elim)
theorem qfv : OpR X (binaryOp .Mult) (rI IntMulOk fun i j => .int (i * j)) := opI fun _ _ _ _ _ _ _ hc q => mul_int q hc
theorem V4 {K : PySem.W.Frag} {H : Hp} {ds : List D} {vs : List V} (r : Reps K H 0 ds vs []) : ∀ n : Nat, Reps K H 0 (List.replicate n ds).flatten (List.replicate n vs).flatten []
 | 0 => by
   rw [List.replicate_zero, List.replicate_zero]; exact .nil
 | n + 1 => by
   rw [List.replicate_succ, List.replicate_succ, List.flatten_cons, List.flatten_cons]
   exact r.append (f := []) (g := []) (V4 r n) fun _ b hb => by simp at hb
theorem vD : OpD X (binaryOp .Mult) 1 vB := .mk' (fun pins s σ H x y v u Q d1 d2 g1 g2 I rx ry r1 r2 q => by
 unfold vB at q
 split at q
 ·obtain ⟨rfl, _⟩ := r1.intV
  obtain ⟨rfl, _⟩ := r2.intV
  exact qfv pins s σ H _ _ v u Q I rx ry ⟨_, _, rfl, rfl, q.1, q.2 _ _ [] (.int _) .refl⟩
 ·obtain ⟨i1, z1, z2, z3, q⟩ := q
  obtain ⟨a, vs, ga, rfl, ha, ra, _⟩ := r1.listAt1 (Nat.le_refl _)
  obtain ⟨rfl, _⟩ := r2.intV
  obtain ⟨_, ra'⟩ := ra.imm (Nat.le_refl _) i1
  exact op_rep pins s σ H _ _ v u Q I rx ry ⟨_, _, _, rfl, rfl, ha, z1, z2, by rw [← ra.len]; exact z3, fun p hp => q _ _ _ (Qa hp (V4 ra' _)) (.upd hp)⟩
 ·exact q.elim) (fun a b k k' h q => by
 unfold vB at q ⊢
 split at q
 ·exact ⟨q.1, h _ q.2⟩
 ·exact ⟨q.1, q.2.1, q.2.2.1, q.2.2.2.1, h _ q.2.2.2.2⟩
 ·exact q.elim)
variable (hx : Ok X)
include hx
theorem uQ : OpD X (compareOp .Eq) 2 opEq := .mk' (fun pins s σ H x y v u Q d1 d2 g1 g2 I rx ry r1 r2 q => by
 obtain ⟨a1, b1⟩ := r1.eqd q.1
 obtain ⟨a2, b2⟩ := r2.eqd q.2.1
 exact op_eqD (by have := hx.un; omega) pins s σ H _ _ v u Q I rx ry ⟨_, _, a1, a2, b1, b2, q.2.2 _ _ [] (.bl _) .refl⟩) (fun a b k k' h q => ⟨q.1, q.2.1, h _ q.2.2⟩)
theorem qdO : OpD X (compareOp .NotEq) 2 opNe := .mk' (fun pins s σ H x y v u Q d1 d2 g1 g2 I rx ry r1 r2 q => by
 obtain ⟨a1, b1⟩ := r1.eqd q.1
 obtain ⟨a2, b2⟩ := r2.eqd q.2.1
 exact op_neD (by have := hx.un; omega) pins s σ H _ _ v u Q I rx ry ⟨_, _, a1, a2, b1, b2, q.2.2 _ _ [] (.bl _) .refl⟩) (fun a b k k' h q => ⟨q.1, q.2.1, h _ q.2.2⟩)
theorem Ja : OpD X (compareOp .Lt) 2 opLt := .mk' (fun pins s σ H x y v u Q d1 d2 g1 g2 I rx ry r1 r2 q => by
 unfold opLt at q
 split at q
 ·obtain ⟨rfl, _⟩ := r1.intV
  obtain ⟨rfl, _⟩ := r2.intV
  exact op_lt pins s σ H _ _ v u Q I rx ry ⟨_, _, rfl, rfl, q _ _ [] (.bl _) .refl⟩
 ·split at q
  ·rename_i e1 e2
   obtain ⟨a, vs, rfl, ha, ra⟩ := r1.tupleSq
   obtain ⟨b, ws, rfl, hb, rb⟩ := r2.tupleSq
   rw [ra.intL e1] at ha
   rw [rb.intL e2] at hb
   exact op_ltT (by have := hx.un; omega) pins s σ H _ _ v u Q I rx ry ⟨_, _, _, _, rfl, rfl, ha, hb, q _ _ [] (.bl _) .refl⟩
  ·exact q.elim
 ·exact q.elim) (fun a b k k' h q => by
 unfold opLt at q ⊢
 split at q
 ·exact h _ q
 ·split at q
  ·simp only [*] <;> exact h _ q
  ·exact q.elim
 ·exact q.elim)
omit hx in
theorem Rep.isNon {K : PySem.W.Frag} {H : Hp} {lv : Nat} {d : D} {v : V} {f : List Addr} (r : Rep K H lv d v f) : decide (v = .non) = BX.isNon d := by
 cases r <;> simp [BX.isNon]
omit hx in
theorem qhd : OpD X (compareOp .Is) 2 opIs := .mk' (fun pins s σ H x y v u Q d1 d2 g1 g2 I rx ry r1 r2 q => by
 unfold opIs at q
 split at q
 ·obtain ⟨rfl, _⟩ := r2.nonV
  exact op_isN pins s σ H _ _ v u Q I rx ry ⟨rfl, by rw [r1.isNon]; exact q _ _ [] (.bl _) .refl⟩
 ·obtain ⟨rfl, _⟩ := r1.blV
  obtain ⟨rfl, _⟩ := r2.blV
  exact op_is_bl pins s σ H _ _ v u Q I rx ry ⟨_, _, rfl, rfl, q _ _ [] (.bl _) .refl⟩
 ·exact q.elim) (fun a b k k' h q => by
 unfold opIs at q ⊢
 split at q
 ·exact h _ q
 ·exact h _ q
 ·exact q.elim)
omit hx in
theorem qdP : OpD X (compareOp .IsNot) 2 xj := .mk' (fun pins s σ H x y v u Q d1 d2 g1 g2 I rx ry r1 r2 q => by
 unfold xj at q
 split at q
 ·obtain ⟨rfl, _⟩ := r2.nonV
  exact op_notN pins s σ H _ _ v u Q I rx ry ⟨rfl, by rw [r1.isNon]; exact q _ _ [] (.bl _) .refl⟩
 ·obtain ⟨rfl, _⟩ := r1.blV
  obtain ⟨rfl, _⟩ := r2.blV
  exact op_isnot_bl pins s σ H _ _ v u Q I rx ry ⟨_, _, rfl, rfl, q _ _ [] (.bl _) .refl⟩
 ·exact q.elim) (fun a b k k' h q => by
 unfold xj at q ⊢
 split at q
 ·exact h _ q
 ·exact h _ q
 ·exact q.elim)
omit hx in
theorem qcu {n : Bool} : Qq (Qz n) := fun a b k k' h q => by
 unfold Qz at q ⊢
 split at q
 ·split at q
  ·split at q
   ·simp only [*] <;> exact h _ q
   ·exact q.elim
  ·exact q.elim
 ·split at q
  ·simp only [*] <;> exact h _ q
  ·exact q.elim
 ·exact ⟨q.1, q.2.1, h _ q.2.2⟩
 ·exact ⟨q.1, q.2.1, h _ q.2.2⟩
 ·exact ⟨q.1, q.2.1, h _ q.2.2⟩
 ·split at q
  ·exact h _ q
  ·exact q.elim
 ·exact q.elim
theorem qeU {n : Bool} {pins : List (Addr × Obj)} {s : Shared} {σ : L2.St} {H : Hp} {x y : V} {v u : Value} {Q : VK} {d1 d2 : D} {g1 g2 : List Addr} (I : Inv X pins σ H s) (rx : RelV x v) (ry : RelV y u) (r1 : Rep X.K H 1 d1 x g1) (r2 : Rep X.K H 1 d2 y g2)
 (q : Qz n d1 d2 fun d => ∀ z H' g, Rep X.K H' 0 d z g → Ext H H' g → Q z H') : wpAny (model X.prog X.w) X.A (compareOp (if n then .NotIn else .In) v u) (EP X pins σ Q) X.xe s := by
 have hu := hx.un
 unfold Qz at q
 split at q
 ·rename_i kvs
  split at q
  ·rename_i ds
   split at q
   ·rename_i ks e
    obtain ⟨a, vs, rfl, ha, ra⟩ := r1.tupleAt (Nat.le_refl _)
    rw [ra.jd e] at ha
    cases r2 with
    | @dT b hs kvs f hb he nd r nn =>
      cases ry
      have q' := q (.bl (n != hasT kvs ks)) H [] (.bl _) .refl
      have e2 := YJ (k := ks) he
      cases n with
      | false => exact d_in (by omega) I (DGet.t hb ha) rx fun s' I' => ⟨.bl _, H, I', rfl, by rw [e2]; simpa [hasT] using q'⟩
      | true => exact d_notIn (by omega) I (DGet.t hb ha) rx fun s' I' => ⟨.bl _, H, I', rfl, by rw [e2]; simpa [hasT] using q'⟩
    | dTF l _ _ _ _ => exact absurd l (by omega)
   ·exact q.elim
  ·exact q.elim
 ·rename_i kvs
  split at q
  ·rename_i ky e
   obtain rfl := r1.dKey e
   cases r2 with
   | @dK b hs kvs f hb he nd r nn =>
     cases ry
     have q' := q (.bl (n != hasK kvs ky)) H [] (.bl _) .refl
     have e2 := YJ (k := ky) he
     cases n with
     | false => exact d_in (by omega) I (DGet.k hb) rx fun s' I' => ⟨.bl _, H, I', rfl, by rw [e2]; simpa [hasK] using q'⟩
     | true => exact d_notIn (by omega) I (DGet.k hb) rx fun s' I' => ⟨.bl _, H, I', rfl, by rw [e2]; simpa [hasK] using q'⟩
  ·exact q.elim
 ·rename_i ds
  obtain ⟨a1, b1⟩ := r1.eqd q.1
  obtain ⟨a2, b2⟩ := r2.eqd q.2.1
  have q' := q.2.2 _ _ [] (.bl _) .refl
  rw [D.py] at a2 b2
  cases n with
  | false => exact op_inD (by omega) pins s σ H _ _ v u Q I rx ry ⟨_, _, a1, a2, b1, b2, by rw [jG] at q'; simpa using q'⟩
  | true => exact op_notInD (by omega) pins s σ H _ _ v u Q I rx ry ⟨_, _, a1, a2, b1, b2, by rw [jG] at q'; simpa using q'⟩
 ·rename_i ds
  obtain ⟨a1, b1⟩ := r1.eqd q.1
  obtain ⟨a2, b2⟩ := r2.eqd q.2.1
  have q' := q.2.2 _ _ [] (.bl _) .refl
  rw [D.py] at a2 b2
  cases n with
  | false => exact op_inD (by omega) pins s σ H _ _ v u Q I rx ry ⟨_, _, a1, a2, b1, b2, by rw [jG] at q'; simpa using q'⟩
  | true => exact op_notInD (by omega) pins s σ H _ _ v u Q I rx ry ⟨_, _, a1, a2, b1, b2, by rw [jG] at q'; simpa using q'⟩
 ·rename_i ds
  obtain ⟨a1, b1⟩ := r1.eqd q.1
  obtain ⟨a2, b2⟩ := r2.eqd q.2.1
  have q' := q.2.2 _ _ [] (.bl _) .refl
  rw [D.py] at a2 b2
  rw [jG] at q'
  obtain ⟨as, t1⟩ := Dp.reads I _ x v a1 rx
  obtain ⟨bs, t2⟩ := Dp.reads I _ y u a2 ry
  have hu2 : X.A.units + 65 < cLine := by omega
  cases n with
  | false => exact SeqAt.in_tuple_reads t2 t1 (SeqAt.canLay_of_shaped b2) (SeqAt.canLay_of_shaped b1) (room_in_shaped b1 hu2) ⟨.bl _, H, I, rfl, by simpa using q'⟩
  | true => exact SeqAt.notIn_tuple_reads t2 t1 (SeqAt.canLay_of_shaped b2) (SeqAt.canLay_of_shaped b1) (room_in_shaped b1 hu2) ⟨.bl _, H, I, rfl, by simpa using q'⟩
 ·split at q
  ·obtain ⟨rfl, _⟩ := r1.strV
   obtain ⟨rfl, _⟩ := r2.strV
   have q' := q _ _ [] (.bl _) .refl
   cases n with
   | false => exact op_in_str pins s σ H _ _ v u Q I rx ry ⟨_, _, rfl, rfl, by simpa using q'⟩
   | true => exact op_notin_str pins s σ H _ _ v u Q I rx ry ⟨_, _, rfl, rfl, by simpa using q'⟩
  ·exact q.elim
 ·exact q.elim
theorem qfz : OpD X (compareOp .In) 1 opIn := .mk' (fun pins s σ H x y v u Q d1 d2 g1 g2 I rx ry r1 r2 q => qeU (n := false) hx I rx ry r1 r2 q) qcu
theorem vO : OpD X (compareOp .NotIn) 1 j6 := .mk' (fun pins s σ H x y v u Q d1 d2 g1 g2 I rx ry r1 r2 q => qeU (n := true) hx I rx ry r1 r2 q) qcu
end
end BX
namespace BX
open PySem PySem.Spec PyProof.Rows L2
def tru (d : D) (k : Bool → Prop) : Prop := match d with
 | .non => k false
 | .bl b => k b
 | .int i => k (i != 0)
 | .str s => s.length ≤ sizeLine ∧ k ((s.length : Int) != 0)
 | .lst xs => k (!xs.isEmpty)
 | .tup xs => k (!xs.isEmpty)
 | .dK kvs => k (!kvs.isEmpty)
 | .dT _ => False
 | .dF _ => False
 | .lF xs => k (!xs.isEmpty)
 | .ob _ _ => False
 | .ex _ _ => False
 | .dN _ => False
theorem vK {d : D} {k k' : Bool → Prop} (h : ∀ b, k b → k' b) (q : tru d k) : tru d k' := by
 cases d with
 | str s => exact ⟨q.1, h _ q.2⟩
 | dT _ => exact q.elim
 | dF _ => exact q.elim
 | ob _ _ => exact q.elim
 | ex _ _ => exact q.elim
 | dN _ => exact q.elim
 | _ => exact h _ q
section
variable {K : PySem.W.Frag} {H : Hp} {lv : Nat}
theorem jc {α β : Type} {xs : List α} {ys : List β} (h : xs.length = ys.length) : xs.isEmpty = ys.isEmpty := by
 cases xs <;> cases ys <;> simp at h ⊢
theorem Rep.tru {d : D} {v : V} {f : List Addr} {k : Bool → Prop} (r : Rep K H lv d v f) (q : BX.tru d k) : ∃ b, TruV K v H b ∧ k b := by
 cases r with
 | non => exact ⟨false, rfl, q⟩
 | bl b => exact ⟨b, rfl, q⟩
 | int i => exact ⟨_, rfl, q⟩
 | str s => exact ⟨_, ⟨q.1, rfl⟩, q.2⟩
 | tup h r => exact ⟨_, .inr (.inl ⟨_, .inl (.inl h), by rw [jc r.len]⟩), q⟩
 | tupK l h r => exact ⟨_, .inr (.inl ⟨_, h.sq, by rw [jc r.len]⟩), q⟩
 | lst h r n => exact ⟨_, .inl ⟨_, .inl (.inl h), by rw [jc r.len]⟩, q⟩
 | lstF l h r => exact ⟨_, .inl ⟨_, h.sq, by rw [jc r.len]⟩, q⟩
 | dT h e nd r n => exact q.elim
 | dTF l h e nd r => exact q.elim
 | dF h e nd r => exact q.elim
 | ob h c e r n => exact q.elim
 | ex h c e z => exact q.elim
 | dN h e nd kk r n => exact q.elim
 | lF h r => exact ⟨_, .inl ⟨_, .inl (.inr ⟨_, h⟩), by rw [jc r.len]⟩, q⟩
 | @dK a hs kvs f h e nd r n => exact ⟨_, .inr (.inr ⟨_, h, by rw [jc (xs := kvs) (ys := hs) (by have := congrArg List.length e; simpa using this.symm)]⟩), q⟩
end
def xVal (t : XE) : XT := fun env Q => t env fun r e => rd 2 r e fun d => tru d fun b => Q b e
def xAnd (t u : XT) : XT := fun env Q => t env fun b e => (b = true → u e Q) ∧ (b = false → Q false e)
def xOr (t u : XT) : XT := fun env Q => t env fun b e => (b = true → Q true e) ∧ (b = false → u e Q)
def xNot (t : XT) : XT := fun env Q => t env fun b e => Q (!b) e
def dAnd (t u : XE) : XE := fun env Q => t env fun r e => rd 2 r e fun d => tru d fun b => (b = true → u e Q) ∧ (b = false → Q r e)
def dOr (t u : XE) : XE := fun env Q => t env fun r e => rd 2 r e fun d => tru d fun b => (b = true → Q r e) ∧ (b = false → u e Q)
def dNot (t : XT) : XE := fun env Q => t env fun b e => Q (.tmp (.bl (!b))) e
def dIf (c : XT) (t u : XE) : XE := fun env Q => c env fun b e => (b = true → t e Q) ∧ (b = false → u e Q)
theorem Qs {K : PySem.W.Frag} {σ : L2.St} {H H1 : Hp} {env e1 : En} {f f1 : FA} {Q : VK} {t : XE} {Q' : R → En → Prop} (S : Stp H env f [] H1 e1 f1 []) (Kk : Kp env f e1 f1) (mt : xr t) (A1 : Abs K σ H1 e1 f1) (q : t e1 Q')
 (h : ∀ r e2, Q' r e2 → ∀ v H' f' g, Abs K σ H' e2 f' → ResOk K σ H' e2 f' r v g → Stp H env f [] H' e2 f' g → Kp env f e2 f' → Q v H') : jk K t σ H1 Q :=
 ⟨e1, f1, A1, mt _ _ _ (fun r e2 q2 v H' f' g A2 R2 S2 K2 => h r e2 q2 v H' f' g A2 R2 (S.trans S2) (Kk.trans K2)) q⟩
theorem Yp {K : PySem.W.Frag} {σ : L2.St} {H H1 : Hp} {env e1 : En} {f f1 : FA} {Q : Bool → Hp → Prop} {t : XT} {Q' : Bool → En → Prop} (S : Stp H env f [] H1 e1 f1 []) (Kk : Kp env f e1 f1) (mt : VF t) (A1 : Abs K σ H1 e1 f1) (q : t e1 Q')
 (h : ∀ r e2, Q' r e2 → ∀ H' f', Abs K σ H' e2 f' → Stp H env f [] H' e2 f' [] → Kp env f e2 f' → Q r H') : liftT K t σ H1 Q :=
 ⟨e1, f1, A1, mt _ _ _ (fun r e2 q2 H' f' A2 S2 K2 => h r e2 q2 H' f' A2 (S.trans S2) (Kk.trans K2)) q⟩
section
variable {X : Cx} {a b c : Expr} {rest : List Expr} {ta tb : XE} {uA uB : XT} {pos : Pos}
theorem DW.dt {e : Expr} {t : XT} (h : DW X e t) : DT X e t := ⟨h.run.pt, h.mono⟩
theorem Ww (ha : DE X a ta) (he : ∀ whole, isTrue a X.env whole = (do let v ← whole; standAt a.pos; holding [v] (truthy v)) := by intro _; rfl) : DT X a (xVal ta) := by
 refine ⟨PT.imp (pt_truth ha.run he) fun σ H Q q => ?_, fun env Q Q' h q => ha.mono _ _ _ (fun r e q => qQ (fun d q => vK (fun b q => h _ _ q) q) q) q⟩
 obtain ⟨env, f, A, q⟩ := q
 refine ⟨env, f, A, ha.mono _ _ _ (fun r e q => ?_) q⟩
 intro v H' f' g A' R' S' K'
 obtain ⟨d, g', rp, q⟩ := yx A' R' q
 obtain ⟨b, hb, q⟩ := rp.tru q
 exact ⟨b, hb, q H' f' A' (S'.drop (fun _ z => by simp at z)) K'⟩
theorem wN {op : CmpOp} {L : Nat} {op' : OP} (ho : OpD X (compareOp op) L op') (ha : DE X a ta) (hb : DE X b tb) (hm : behindInMarks op b = false) (hbl : ∀ d1 d2 k, op' d1 d2 k → op' d1 d2 fun d => (∃ b, d = .bl b) ∧ k d) : DT X (.Compare a [op] [b] pos) (xVal (dBin L op' ta tb)) := by
 have md := QW ho.mono ha.mono hb.mono (L := L)
 refine ⟨PT.imp (pt_cmpR ho.run ha.run hb.run hm) fun σ H Q q => ?_, fun env Q Q' h q => md _ _ _ (fun r e q => qQ (fun d q => vK (fun b q => h _ _ q) q) q) q⟩
 obtain ⟨env, f, A, q⟩ := q
 show tOp (rOp X.K L op') (jk X.K ta) (jk X.K tb) σ H fun x H' => ∃ k, x = .bl k ∧ Q k H'
 refine QX ho.mono ha.mono hb.mono ⟨env, f, A, ?_⟩
 unfold xVal at q
 have q2 : dBin L op' ta tb env fun r e => (∃ b, r = .tmp (.bl b)) ∧ rd 2 r e fun d => tru d fun b => ∀ (H' : Hp) (f' : FA), Abs X.K σ H' e f' → Stp H env f [] H' e f' [] → Kp env f e f' → Q b H' := by
  unfold dBin at q ⊢
  refine ha.mono _ _ _ (fun r1 e1 q => hb.mono _ _ _ (fun r2 e2 q => qQ (fun d1 q => qQ (fun d2 q => ?_) q) q) q) q
  refine ho.mono _ _ _ _ (fun d q => ?_) (hbl _ _ _ q)
  obtain ⟨⟨b, rfl⟩, q⟩ := q
  exact ⟨⟨b, rfl⟩, q⟩
 refine md _ _ _ (fun r e q => ?_) q2
 obtain ⟨⟨b, rfl⟩, q⟩ := q
 intro v H' f' g A' R' S' K'
 cases R' with
 | tmp rp n => cases rp with
   | bl => exact ⟨b, rfl, q H' f' A' (S'.drop (fun _ z => by simp at z)) K'⟩
theorem Qo (ha : DT X a uA) : DW X (.BoolOp .And [a] pos) uA := ⟨pw_and1 ha.run, ha.mono⟩
theorem qcU (ha : DT X a uA) : DW X (.BoolOp .Or [a] pos) uA := ⟨pw_or1 ha.run, ha.mono⟩
theorem ZS (ha : DT X a uA) (hb : DW X (.BoolOp .And (b :: rest) pos) uB) : DW X (.BoolOp .And (a :: b :: rest) pos) (xAnd uA uB) := by
 refine ⟨PW.imp (pw_and ha.run hb.run) fun σ H Q q => ?_, fun env Q Q' h q => ha.mono _ _ _ (fun b e q => ⟨fun z => hb.mono _ _ _ h (q.1 z), fun z => h _ _ (q.2 z)⟩) q⟩
 obtain ⟨env, f, A, q⟩ := q
 refine ⟨env, f, A, ha.mono _ _ _ (fun b e q => ?_) q⟩
 intro H' f' A' S' K'
 cases b with
 | true =>
   rw [if_pos rfl]
   exact Yp S' K' hb.mono A' (q.1 rfl) fun r e2 q => q
 | false =>
   rw [if_neg Bool.false_ne_true]
   exact q.2 rfl H' f' A' S' K'
theorem qeg (ha : DT X a uA) (hb : DW X (.BoolOp .Or (b :: rest) pos) uB) : DW X (.BoolOp .Or (a :: b :: rest) pos) (xOr uA uB) := by
 refine ⟨PW.imp (pw_or ha.run hb.run) fun σ H Q q => ?_, fun env Q Q' h q => ha.mono _ _ _ (fun b e q => ⟨fun z => h _ _ (q.1 z), fun z => hb.mono _ _ _ h (q.2 z)⟩) q⟩
 obtain ⟨env, f, A, q⟩ := q
 refine ⟨env, f, A, ha.mono _ _ _ (fun b e q => ?_) q⟩
 intro H' f' A' S' K'
 cases b with
 | false =>
   rw [if_neg Bool.false_ne_true]
   exact Yp S' K' hb.mono A' (q.2 rfl) fun r e2 q => q
 | true =>
   rw [if_pos rfl]
   exact q.1 rfl H' f' A' S' K'
theorem qcV (ha : DT X a uA) : DT X (.UnaryOp .Not a pos) (xNot uA) :=
 ⟨PT.imp (pt_not ha.run) fun σ H Q q => q, fun env Q Q' h q => ha.mono _ _ _ (fun b e q => h _ _ q) q⟩
theorem YB {op} {t : XE} (h : DE X a t) : DE X (.BoolOp op [a] pos) t := ⟨pe_one h.run, h.mono⟩
theorem YC (ha : DE X a ta) (hb : DE X (.BoolOp .And (b :: rest) pos) tb) : DE X (.BoolOp .And (a :: b :: rest) pos) (dAnd ta tb) := by
 refine ⟨PE.imp (pe_andT ha.run hb.run) fun σ H Q q => ?_, fun env Q Q' h q => ha.mono _ _ _ (fun r e q => qQ (fun d q => vK (fun b q => ⟨fun z => hb.mono _ _ _ h (q.1 z), fun z => h _ _ (q.2 z)⟩) q) q) q⟩
 obtain ⟨env, f, A, q⟩ := q
 refine ⟨env, f, A, ha.mono _ _ _ (fun r e q => ?_) q⟩
 intro v H' f' g A' R' S' K'
 obtain ⟨d, g', rp, q⟩ := yx A' R' q
 obtain ⟨b, hb', q⟩ := rp.tru q
 refine ⟨b, hb', ?_⟩
 cases b with
 | true =>
   rw [if_pos rfl]
   exact Qs (S'.drop (fun _ z => by simp at z)) K' hb.mono A' (q.1 rfl) fun r e2 q => q
 | false =>
   rw [if_neg Bool.false_ne_true]
   exact q.2 rfl v H' f' g A' R' S' K'
theorem qju (ha : DE X a ta) (hb : DE X (.BoolOp .Or (b :: rest) pos) tb) : DE X (.BoolOp .Or (a :: b :: rest) pos) (dOr ta tb) := by
 refine ⟨PE.imp (pe_orT ha.run hb.run) fun σ H Q q => ?_, fun env Q Q' h q => ha.mono _ _ _ (fun r e q => qQ (fun d q => vK (fun b q => ⟨fun z => h _ _ (q.1 z), fun z => hb.mono _ _ _ h (q.2 z)⟩) q) q) q⟩
 obtain ⟨env, f, A, q⟩ := q
 refine ⟨env, f, A, ha.mono _ _ _ (fun r e q => ?_) q⟩
 intro v H' f' g A' R' S' K'
 obtain ⟨d, g', rp, q⟩ := yx A' R' q
 obtain ⟨b, hb', q⟩ := rp.tru q
 refine ⟨b, hb', ?_⟩
 cases b with
 | false =>
   rw [if_neg Bool.false_ne_true]
   exact Qs (S'.drop (fun _ z => by simp at z)) K' hb.mono A' (q.2 rfl) fun r e2 q => q
 | true =>
   rw [if_pos rfl]
   exact q.1 rfl v H' f' g A' R' S' K'
theorem qjw {c : Expr} (hc : DT X c uA) (ha : DE X a ta) (hb : DE X b tb) : DE X (.IfExp c a b pos) (dIf uA ta tb) := by
 refine ⟨PE.imp (pe_ifExp hc.run ha.run hb.run) fun σ H Q q => ?_, fun env Q Q' h q => hc.mono _ _ _ (fun b e q => ⟨fun z => ha.mono _ _ _ h (q.1 z), fun z => hb.mono _ _ _ h (q.2 z)⟩) q⟩
 obtain ⟨env, f, A, q⟩ := q
 refine ⟨env, f, A, hc.mono _ _ _ (fun b e q => ?_) q⟩
 intro H' f' A' S' K'
 cases b with
 | true =>
   rw [if_pos rfl]
   exact Qs S' K' ha.mono A' (q.1 rfl) fun r e2 q => q
 | false =>
   rw [if_neg Bool.false_ne_true]
   exact Qs S' K' hb.mono A' (q.2 rfl) fun r e2 q => q
end
def aNil : XA := fun env Q => Q [] env
def qp (t : XE) (u : XA) : XA := fun env Q => t env fun r e => u e fun rs e2 => Q (r :: rs) e2
def jZ : List R → En → (List D → Prop) → Prop
 | [], _, k => k []
 | r :: rs, env, k => stor r env fun d => jZ rs env fun ds => k (d :: ds)
def jP (L : Nat) : List R → En → (List D → Prop) → Prop
 | [], _, k => k []
 | r :: rs, env, k => rd L r env fun d => jP L rs env fun ds => k (d :: ds)
theorem vL : ∀ {rs : List R} {env : En} {k k' : List D → Prop}, (∀ d, k d → k' d) → jZ rs env k → jZ rs env k'
 | [], _, _, _, h, q => h _ q
 | r :: rs, _, _, _, h, q => jM (fun d q => vL (fun ds q => h _ q) q) q
theorem uD {L : Nat} : ∀ {rs : List R} {env : En} {k k' : List D → Prop}, (∀ d, k d → k' d) → jP L rs env k → jP L rs env k'
 | [], _, _, _, h, q => h _ q
 | r :: rs, _, _, _, h, q => qQ (fun d q => uD (fun ds q => h _ q) q) q
section
variable {K : PySem.W.Frag} {σ : L2.St} {H H1 H' : Hp} {env e1 : En} {f f1 : FA} {G1 : List Addr}
theorem ResOks.dom : ∀ {rs : List R} {vs : List V} {gs : List Addr}, ResOks K σ H env f rs vs gs → ∀ b ∈ gs, ∃ o, H b = some o ∧ Mu o = true
 | _, _, _, .cons h t _, b, hb => by
   rcases List.mem_append.mp hb with hb | hb
   ·exact h.dom b hb
   ·exact ResOks.dom t b hb
theorem WR : ∀ {rs : List R} {vs : List V} {gs : List Addr} {k : List D → Prop}, Abs K σ H env f → ResOks K σ H env f rs vs gs → jZ rs env k → ∃ ds, Reps K H 0 ds vs gs ∧ k ds ∧ (∀ b ∈ gs, ¬ L0 env f b ∧ ¬ Ro env f b)
 | _, _, _, _, A, .nil, q => ⟨[], .nil, q, fun b hb => by simp at hb⟩
 | _, _, _, _, A, .cons h t n, q => by
   obtain ⟨d, rp, q, n1⟩ := Qg A h q
   obtain ⟨ds, rps, q, n2⟩ := WR A t q
   exact ⟨d :: ds, .cons rp rps fun _ b hb => n b hb, q, fun b hb => (List.mem_append.mp hb).elim (n1 b) (n2 b)⟩
theorem V5 {L : Nat} (hL : 0 < L) : ∀ {rs : List R} {vs : List V} {gs : List Addr} {k : List D → Prop}, Abs K σ H env f → ResOks K σ H env f rs vs gs → jP L rs env k → ∃ ds g, Reps K H L ds vs g ∧ k ds
 | _, _, _, _, A, .nil, q => ⟨[], [], .nil, q⟩
 | _, _, _, _, A, .cons h t n, q => by
   obtain ⟨d, g, rp, q⟩ := yx A h q
   obtain ⟨ds, gs, rps, q⟩ := V5 hL A t q
   exact ⟨d :: ds, _, .cons rp rps (fun e => by omega), q⟩
end
section
variable {X : Cx} {e : Expr} {es : List Expr} {t : XE} {u : XA} {pos : Pos}
theorem qu : DA X [] aNil :=
 ⟨PA.imp pa_nil fun σ H Q ⟨env, f, A, q⟩ => q [] H f [] A .nil .refl .refl, fun env Q Q' h q => h _ _ q⟩
theorem qd (ha : DE X e t) (hr : DA X es u) (hs : starEach (e :: es) X.env = (false, eval e X.env) :: starEach es X.env := by rfl) : DA X (e :: es) (qp t u) := by
 refine ⟨PA.imp (pa_cons ha.run hr.run hs) fun σ H Q q => ?_, fun env Q Q' h q => ha.mono _ _ _ (fun r e q => hr.mono _ _ _ (fun rs e2 q => h _ _ q) q) q⟩
 obtain ⟨env, f, A, q⟩ := q
 refine ⟨env, f, A, ha.mono _ _ _ (fun r1 e1 q => ?_) q⟩
 intro x H1 f1 g1 A1 R1 S1 K1
 refine ⟨e1, f1, A1, hr.mono _ _ _ (fun rs e2 q => ?_) q⟩
 intro vs H2 f2 gs A2 R2 S2 K2
 obtain ⟨R1', n⟩ := R1.wait A1 S2 K2
 exact q (x :: vs) H2 f2 (g1 ++ gs) A2 (.cons R1' R2 n) (S1.trans (S2.frame g1)) (K1.trans K2)
def dTup (u : XA) : XE := fun env Q => u env fun rs e => rs.length ≤ 1000 ∧ jZ rs e fun ds => Q (.tmp (.tup ds)) e
def dLst (u : XA) : XE := fun env Q => u env fun rs e => rs.length ≤ 1000 ∧ jZ rs e fun ds => Q (.tmp (.lst ds)) e
theorem ResOks.len {K : PySem.W.Frag} {σ : L2.St} {H : Hp} {env : En} {f : FA} : ∀ {rs : List R} {vs : List V} {gs : List Addr}, ResOks K σ H env f rs vs gs → rs.length = vs.length
 | _, _, _, .nil => rfl
 | _, _, _, .cons _ t _ => by rw [List.length_cons, List.length_cons, t.len]
theorem qal {n : Nat} (h : n ≤ 1000) : n ≤ sizeLine := Nat.le_of_lt (small1000 h)
theorem Stp.ext {H H1 H2 : Hp} {env e1 : En} {f f1 : FA} {G G1 : List Addr} (S : Stp H env f G H1 e1 f1 G1) (x : ∀ b o, H1 b = some o → H2 b = some o) : Stp H env f G H2 e1 f1 G1 :=
 S.trans ⟨fun b o h _ => x b o h, fun b q => q.elim .inl fun z => .inr (.inl z)⟩
theorem zq {x1} (ha : DA X es u) : DE X (.Tuple es x1 pos) (dTup u) := by
 refine ⟨PE.imp (pe_tup ha.run) fun σ H Q q => ?_, fun env Q Q' h q => ha.mono _ _ _ (fun r e q => ⟨q.1, vL (fun ds q => h _ _ q) q.2⟩) q⟩
 obtain ⟨env, f, A, q⟩ := q
 refine ⟨env, f, A, ha.mono _ _ _ (fun rs e q => ?_) q⟩
 intro vs H1 f1 gs A1 R1 S1 K1
 obtain ⟨ds, rp, q', n⟩ := WR A1 R1 q.2
 refine ⟨by rw [← R1.len]; exact qal q.1, fun p hp => ?_⟩
 have x : Ext H1 (L2.upd H1 p (.tup vs)) [] := .updT hp
 refine q' _ _ f1 gs (A1.ext x.same) (.tmp (Zd hp rp) n) (S1.ext x.same) K1
theorem xm (ha : DA X es u) : DE X (.List es pos) (dLst u) := by
 refine ⟨PE.imp (pe_lst ha.run) fun σ H Q q => ?_, fun env Q Q' h q => ha.mono _ _ _ (fun r e q => ⟨q.1, vL (fun ds q => h _ _ q) q.2⟩) q⟩
 obtain ⟨env, f, A, q⟩ := q
 refine ⟨env, f, A, ha.mono _ _ _ (fun rs e q => ?_) q⟩
 intro vs H1 f1 gs A1 R1 S1 K1
 obtain ⟨ds, rp, q', n⟩ := WR A1 R1 q.2
 refine ⟨by rw [← R1.len]; exact qal q.1, fun p hp => ?_⟩
 have x : Ext H1 (L2.upd H1 p (.lst vs)) [p] := .upd hp
 have pg : p ∉ gs := fun z => by
  obtain ⟨o, ho, _⟩ := rp.dom p z
  rw [hp] at ho; cases ho
 refine q' _ _ f1 (p :: gs) (A1.ext x.same) (.tmp (.lst upd_same (rp.keep fun b o e _ => x.same b o e) fun _ => pg) fun b hb => ?_) (S1.new x) K1
 rcases List.mem_cons.mp hb with rfl | hb
 ·refine ⟨fun z => ?_, fun z => ?_⟩
  ·obtain ⟨o, ho, _⟩ := A1.ldom z
   rw [hp] at ho; cases ho
  ·obtain ⟨o, ho, _⟩ := A1.rdom z
   rw [hp] at ho; cases ho
 ·exact n b hb
end
section
variable {K : PySem.W.Frag} {σ : L2.St} {H H' : Hp} {env : En} {f : FA} {G G' g' : List Addr} {i : Nat} {d d' : D} {m : Md} {v : V}
def fset (f : FA) (i : Nat) (g : List Addr) : FA := fun j => if j = i then g else f j
theorem yE {f : FA} {i : Nat} {g : List Addr} : fset f i g i = g := if_pos rfl
theorem wV {f : FA} {i j : Nat} {g : List Addr} (h : j ≠ i) : fset f i g j = f j := if_neg h
theorem jm {x : Option (D × Md)} (h : i < env.length) : (env.set i x)[i]? = some x := List.getElem?_set_self h
theorem yS {x : Option (D × Md)} {j : Nat} (h : j ≠ i) : (env.set i x)[j]? = env[j]? := List.getElem?_set_ne (Ne.symm h)
theorem Abs.mut (A : Abs K σ H env f) (e : env[i]? = some (some (d, m))) (hm : m.rd = false) (hv : σ[i]? = some (some v))
 (same : ∀ b o, H b = some o → b ∉ f i → H' b = some o) (r : Rep K H' m.lv d' v g') (sub : ∀ b ∈ g', b ∈ f i ∨ b ∈ G ∨ H b = none) (hG : ∀ b ∈ G, ¬ L0 env f b ∧ ¬ Ro env f b)
 (hG' : ∀ b ∈ G', (b ∈ f i ∨ b ∈ G ∨ H b = none) ∧ b ∉ g') :
 Abs K σ H' (env.set i (some (d', m))) (fset f i g') ∧ Stp H env f G H' (env.set i (some (d', m))) (fset f i g') G' ∧ Kp env f (env.set i (some (d', m))) (fset f i g') ∧
  (∀ b ∈ G', ¬ L0 (env.set i (some (d', m))) (fset f i g') b ∧ ¬ Ro (env.set i (some (d', m))) (fset f i g') b) := by
 have hi : i < env.length := (List.getElem?_eq_some_iff.mp e).1
 have hdom : ∀ j d m, env[j]? = some (some (d, m)) → ∀ b ∈ f j, ∃ o, H b = some o ∧ Mu o = true := fun j d m h b hb => by
  obtain ⟨v, _, rp⟩ := A.rep j d m h
  exact rp.dom b hb
 have get : ∀ {j : Nat} {d1 : D} {m1 : Md}, (env.set i (some (d', m)))[j]? = some (some (d1, m1)) → j ≠ i → env[j]? = some (some (d1, m1)) := fun {j d1 m1} h hj => by rwa [yS hj] at h
 have ati : ∀ {d1 : D} {m1 : Md}, (env.set i (some (d', m)))[i]? = some (some (d1, m1)) → d1 = d' ∧ m1 = m := fun {d1 m1} h => by
  rw [jm hi] at h
  cases h
  exact ⟨rfl, rfl⟩
 have out : ∀ {j : Nat} {d1 : D} {m1 : Md}, j ≠ i → env[j]? = some (some (d1, m1)) → ∀ b, (b ∈ f i ∨ b ∈ G ∨ H b = none) → b ∉ f j := fun {j d1 m1} hj h b q z => by
  rcases q with q | q | q
  ·exact A.dis i j d m d1 m1 (Ne.symm hj) e h (Md.lv_of hm) b q z
  ·by_cases hr : m1.lv = 0
   ·exact (hG b q).1 ⟨j, d1, m1, h, hr, z⟩
   ·exact (hG b q).2 ⟨j, d1, m1, h, hr, z⟩
  ·obtain ⟨o, ho, _⟩ := hdom j d1 m1 h b z
   rw [q] at ho; cases ho
 have wsub : ∀ b, (b ∈ f i ∨ b ∈ G ∨ H b = none) → (W env f b ∨ b ∈ G ∨ H b = none) := fun b q => q.imp_left fun z => ⟨i, d, m, e, hm, z⟩
 refine ⟨⟨fun j d1 m1 h => ?_, fun j k d1 m1 d2 m2 hjk h1 h2 hr b hb z => ?_, by rw [List.length_set]; exact A.len⟩, ⟨fun b o h q => ?_, fun b q => ?_⟩, ⟨?_, fun j d1 m1 h hr => ?_⟩, fun b hb => ⟨?_, ?_⟩⟩
 ·by_cases hj : j = i
  ·subst hj
   obtain ⟨rfl, rfl⟩ := ati h
   exact ⟨v, hv, by rw [yE]; exact r⟩
  ·have h' := get h hj
   obtain ⟨w, h3, rp⟩ := A.rep j d1 m1 h'
   refine ⟨w, h3, ?_⟩
   rw [wV hj]
   refine rp.keep fun b o hb q => same b o hb fun z => ?_
   rcases q with q | q
   ·exact A.dis i j d m d1 m1 (Ne.symm hj) e h' (Md.lv_of hm) b z q
   ·obtain ⟨o', ho', mo⟩ := hdom i d m e b z
    rw [hb] at ho'; cases ho'
    rw [q] at mo; cases mo
 ·by_cases hj : j = i
  ·subst hj
   rw [yE] at hb
   rw [wV (Ne.symm hjk)] at z
   exact out (Ne.symm hjk) (get h2 (Ne.symm hjk)) b (sub b hb) z
  ·rw [wV hj] at hb
   by_cases hk : k = i
   ·subst hk
    rw [yE] at z
    exact out hj (get h1 hj) b (sub b z) hb
   ·rw [wV hk] at z
    exact A.dis j k d1 m1 d2 m2 hjk (get h1 hj) (get h2 hk) hr b hb z
 ·refine same b o h fun z => ?_
  rcases q with q | q
  ·obtain ⟨o', ho', mo⟩ := hdom i d m e b z
   rw [h] at ho'; cases ho'
   rw [q] at mo; cases mo
  ·exact q.1 ⟨i, d, m, e, hm, z⟩
 ·rcases q with ⟨j, d1, m1, h, hr, hb⟩ | q
  ·by_cases hj : j = i
   ·subst hj
    rw [yE] at hb
    exact wsub b (sub b hb)
   ·rw [wV hj] at hb
    exact .inl ⟨j, d1, m1, get h hj, hr, hb⟩
  ·exact wsub b (hG' b q).1
 ·rw [List.map_set]
  apply List.ext_getElem?
  intro j
  by_cases hj : j = i
  ·subst hj
   rw [List.getElem?_set_self (by simpa using hi), List.getElem?_map, e]
   rfl
  ·rw [List.getElem?_set_ne (Ne.symm hj)]
 ·have hj : j ≠ i := fun z => by
   subst z
   rw [e] at h; cases h
   rw [hm] at hr; cases hr
  exact ⟨by rw [yS hj]; exact h, wV hj⟩
 ·rintro ⟨j, d1, m1, h, hr, z⟩
  by_cases hj : j = i
  ·subst hj
   rw [yE] at z
   exact (hG' b hb).2 z
  ·rw [wV hj] at z
   exact out hj (get h hj) b (hG' b hb).1 z
 ·rintro ⟨j, d1, m1, h, hr, z⟩
  by_cases hj : j = i
  ·subst hj
   rw [yE] at z
   exact (hG' b hb).2 z
  ·rw [wV hj] at z
   exact out hj (get h hj) b (hG' b hb).1 z
def chg (r : R) (env : En) (k : Nat → D → Md → Prop) : Prop := match r with
 | .sl i => match env[i]? with
   | some (some (d, .own)) => k i d .own
   | some (some (d, .io)) => k i d .io
   | _ => False
 | _ => False
theorem W8 {r : R} {env : En} {k k' : Nat → D → Md → Prop} (h : ∀ i d m, k i d m → k' i d m) (q : chg r env k) : chg r env k' := by
 unfold chg at q ⊢
 split at q
 ·split at q
  ·simp only [*] <;> exact h _ _ _ q
  ·simp only [*] <;> exact h _ _ _ q
  ·exact q.elim
 ·exact q.elim
theorem qaB {r : R} {v : V} {g : List Addr} {k : Nat → D → Md → Prop} (A : Abs K σ H env f) (h : ResOk K σ H env f r v g) (q : chg r env k) :
 ∃ i d m, env[i]? = some (some (d, m)) ∧ m.rd = false ∧ m.lv = 0 ∧ σ[i]? = some (some v) ∧ Rep K H 0 d v (f i) ∧ g = [] ∧ k i d m := by
 unfold chg at q
 split at q
 ·rename_i i
  cases h with
  | sl h1 h2 hm =>
    obtain ⟨w, h3, rp⟩ := A.rep _ _ _ h2
    rw [h1] at h3; cases h3
    split at q
    ·rename_i e
     rw [h2] at e; cases e
     exact ⟨_, _, _, h2, rfl, rfl, h1, rp, rfl, q⟩
    ·rename_i e
     rw [h2] at e; cases e
     exact ⟨_, _, _, h2, rfl, rfl, h1, rp, rfl, q⟩
    ·exact q.elim
 ·exact q.elim
end
end BX
namespace BX
open PySem PySem.Spec PyProof.Rows L2
def Vc (kvs : List (List Key × D)) (k : List Key) : Option D := (kvs.find? fun p => decide (p.1 = k)).map (·.2)
def qfQ (kvs : List (Key × D)) (k : Key) : Option D := (kvs.find? fun p => decide (p.1 = k)).map (·.2)
def ixd (d1 d2 : D) (k : D → Prop) : Prop := match d1 with
 | .lst ds => match d2 with
   | .int i => match atI ds i with
     | some d => k d
     | none => False
   | _ => False
 | .lF ds => match d2 with
   | .int i => match atI ds i with
     | some d => k d
     | none => False
   | _ => False
 | .tup ds => match d2 with
   | .int i => match atI ds i with
     | some d => k d
     | none => False
   | _ => False
 | .str s => match d2 with
   | .int i => s.length ≤ sizeLine ∧ match atI s.cps.toList i with
     | some c => k (.str ⟨#[c]⟩)
     | none => False
   | _ => False
 | .dT kvs => match d2 with
   | .tup ds => match jd ds with
     | some ks => match Vc kvs ks with
       | some d => k d
       | none => False
     | none => False
   | _ => False
 | .dK kvs => match dKey d2 with
   | some ky => match qfQ kvs ky with
     | some d => k d
     | none => False
   | none => False
 | .dF kvs => match d2 with
   | .tup ds => match jd ds with
     | some ks => match Vc kvs ks with
       | some d => k d
       | none => False
     | none => False
   | _ => False
 | _ => False
theorem qan {d1 d2 : D} {k k' : D → Prop} (h : ∀ d, k d → k' d) (q : ixd d1 d2 k) : ixd d1 d2 k' := by
 unfold ixd at q ⊢
 split at q
 ·split at q
  ·split at q
   ·simp only [*] <;> exact h _ q
   ·exact q.elim
  ·exact q.elim
 ·split at q
  ·split at q
   ·simp only [*] <;> exact h _ q
   ·exact q.elim
  ·exact q.elim
 ·split at q
  ·split at q
   ·simp only [*] <;> exact h _ q
   ·exact q.elim
  ·exact q.elim
 ·split at q
  ·refine ⟨q.1, ?_⟩
   replace q := q.2
   split at q
   ·simp only [*] <;> exact h _ q
   ·exact q.elim
  ·exact q.elim
 ·split at q
  ·split at q
   ·split at q
    ·simp only [*] <;> exact h _ q
    ·exact q.elim
   ·exact q.elim
  ·exact q.elim
 ·split at q
  ·split at q
   ·simp only [*] <;> exact h _ q
   ·exact q.elim
  ·exact q.elim
 ·split at q
  ·split at q
   ·split at q
    ·simp only [*] <;> exact h _ q
    ·exact q.elim
   ·exact q.elim
  ·exact q.elim
 ·exact q.elim
def Part (K : PySem.W.Frag) (H : Hp) (d1 : D) (x : V) (d : D) (z : V) : Prop := ∀ lv f, Rep K H lv d1 x f → ∃ g, Rep K H lv d z g ∧ ∀ b ∈ g, b ∈ f
def rIxd (K : PySem.W.Frag) : R2 := fun x y H Q => ∃ d1 d2 g1 g2, Rep K H 2 d1 x g1 ∧ Rep K H 1 d2 y g2 ∧ ixd d1 d2 fun d => ∀ z, Part K H d1 x d z → Q z H
theorem vJ {α β : Type} {xs : List α} {ys : List β} {i : Int} {a : α} (hl : xs.length = ys.length) (h : atI xs i = some a) : ∃ (j : Nat) (b : β), xs[j]? = some a ∧ ys[j]? = some b ∧ atI ys i = some b := by
 unfold atI at h ⊢
 rw [← hl]
 cases e : ixN xs.length i with
 | none => rw [e] at h; cases h
 | some j =>
   rw [e] at h
   have h' : xs[j]? = some a := h
   have hj := (List.getElem?_eq_some_iff.mp h').1
   exact ⟨j, ys[j]'(by omega), h', List.getElem?_eq_getElem (by omega), List.getElem?_eq_getElem (by omega)⟩
section
variable {κ : Type} [DecidableEq κ]
theorem jJ : ∀ {hs : List (κ × V)} {kvs : List (κ × D)} {k : κ} {d : D}, hs.map (·.1) = kvs.map (·.1) → (kvs.find? fun p => decide (p.1 = k)).map (·.2) = some d →
 ∃ (j : Nat) (z : V), (kvs.map (·.2))[j]? = some d ∧ (hs.map (·.2))[j]? = some z ∧ valV hs k = some z
 | [], [], _, _, _, e => by simp at e
 | [], _ :: _, _, _, e, _ => by simp at e
 | _ :: _, [], _, _, e, _ => by simp at e
 | p :: hs, q :: kvs, k, d, e, h => by
   rw [List.map_cons, List.map_cons, List.cons.injEq] at e
   by_cases hk : q.1 = k
   ·rw [List.find?_cons, decide_eq_true hk] at h
    cases h
    exact ⟨0, p.2, rfl, rfl, valV_pos (e.1.trans hk)⟩
   ·rw [List.find?_cons, decide_eq_false hk] at h
    obtain ⟨j, z, h1, h2, h3⟩ := jJ e.2 h
    exact ⟨j + 1, z, by simpa using h1, by simpa using h2, by rw [valV_neg (fun z => hk (e.1.symm.trans z))]; exact h3⟩
theorem W9 : ∀ {hs : List (κ × V)} {kvs : List (κ × D)} {k : κ}, hs.map (·.1) = kvs.map (·.1) → (kvs.find? fun p => decide (p.1 = k)).map (·.2) = none → valV hs k = none
 | [], [], _, _, e => rfl
 | [], _ :: _, _, e, _ => by simp at e
 | _ :: _, [], _, e, _ => by simp at e
 | p :: hs, q :: kvs, k, e, h => by
   rw [List.map_cons, List.map_cons, List.cons.injEq] at e
   by_cases hk : q.1 = k
   ·rw [List.find?_cons, decide_eq_true hk] at h
    cases h
   ·rw [List.find?_cons, decide_eq_false hk] at h
    rw [valV_neg (fun z => hk (e.1.symm.trans z))]
    exact W9 e.2 h
end
section
variable {prog : Program} {w : World} {A : Around} {E : Value → Shared → Prop} {s : Shared}
theorem Zf {value slice : Expr} {o i : Value} {T id : String} {Q : Value → Shared → Prop} (hT : s.TypeIs o T)
 (hl : typeLookup (.type T) "__getitem__" = pure (some (.builtin id))) (h : wpAny (model prog w) A (getItem o i) Q E s)
 (hs : subscripted slice false o i = operate [o, i] (getItem o i)) : wpAny (model prog w) A (subscriptTail value slice o i) Q E s := by
 unfold subscriptTail
 refine wpAny_bind ?_
 rw [getitemInPython_of_ne hT.not_modules]
 refine wpAny_bind (wpAny_specialOf hT hl ?_)
 have fin : wpAny (model prog w) A (subscripted slice false o i) (fun r s₃ => wpAny (model prog w) A (letTemporaryGo value o r >>= fun _ => pure r) Q E s₃) E s := by
  rw [hs]
  exact wpAny_operating (wpAny_mono h (fun r s₃ h₃ => wpAny_bind (wpAny_letTemporaryGo (wpAny_pure h₃))) fun _ _ x => x)
 first
  | exact wpAny_pure (wpAny_bind fin)
  | exact wpAny_bind (wpAny_pure (wpAny_bind fin))
  | exact wpAny_bind fin
end
section
variable {X : Cx}
theorem Xj (hx : Ok X) {value slice : Expr} {pins : List (Addr × Obj)} {s : Shared} {σ : L2.St} {H : Hp} {a : Addr} {y v : V} {u : Value} {Q : VK} (I : Inv X pins σ H s) (ry : RelV y u) (g : DGet H a y (some v)) (q : Q v H)
 (hs : subscripted slice false (.ref a) u = operate [.ref a, u] (getItem (.ref a) u)) : wpAny (model X.prog X.w) X.A (subscriptTail value slice (.ref a) u) (EP X pins σ Q) X.xe s :=
 Zf (dict_typeIs I g) PySem.F.slot_dict_getitem.lookup (d_getItem (by have := hx.un; omega) I g ry fun w' s3 I3 rw' => ⟨v, H, I3, rw', q⟩) hs
theorem qfV (hx : Ok X) : IxR X (rIxd X.K) := by
 intro value slice pins s σ H x y v u Q I rx ry h hs
 obtain ⟨d1, d2, g1, g2, r1, r2, q⟩ := h
 unfold ixd at q
 split at q
 ·rename_i ds
  split at q
  ·rename_i i
   split at q
   ·rename_i d e
    obtain ⟨a, vs, g, rfl, ha, ra, _, _⟩ := r1.listSq
    obtain ⟨rfl, _⟩ := r2.intV
    obtain ⟨j, z, e1, e2, e3⟩ := vJ ra.len e
    refine ix_list value slice pins s σ H _ _ v u Q I rx ry ⟨a, vs, i, z, rfl, rfl, ha, e3, q z fun lv f rp => ?_⟩ hs
    obtain ⟨a', vs', g', h1, ha', ra', hsub, _⟩ := rp.listSq
    cases h1
    have := I.list_inj ha ha'
    subst this
    obtain ⟨z', g2, e4, rz, hg⟩ := ra'.get e1
    rw [e2] at e4; cases e4
    exact ⟨g2, rz, fun b hb => hsub b (hg b hb)⟩
   ·exact q.elim
  ·exact q.elim
 ·rename_i ds
  split at q
  ·rename_i i
   split at q
   ·rename_i d e
    obtain ⟨a, vs, rfl, ha, ra, _⟩ := r1.lFSq
    obtain ⟨rfl, _⟩ := r2.intV
    obtain ⟨j, z, e1, e2, e3⟩ := vJ ra.len e
    refine ix_list value slice pins s σ H _ _ v u Q I rx ry ⟨a, vs, i, z, rfl, rfl, ha, e3, q z fun lv f rp => ?_⟩ hs
    obtain ⟨a', vs', h1, ha', ra', _⟩ := rp.lFSq
    cases h1
    have := I.list_inj ha ha'
    subst this
    obtain ⟨z', g2, e4, rz, hg⟩ := ra'.get e1
    rw [e2] at e4; cases e4
    exact ⟨g2, rz, hg⟩
   ·exact q.elim
  ·exact q.elim
 ·rename_i ds
  split at q
  ·rename_i i
   split at q
   ·rename_i d e
    obtain ⟨a, vs, rfl, ha, ra⟩ := r1.tupleSq
    obtain ⟨rfl, _⟩ := r2.intV
    obtain ⟨j, z, e1, e2, e3⟩ := vJ ra.len e
    refine ix_tup value slice pins s σ H _ _ v u Q I rx ry ⟨a, vs, i, z, rfl, rfl, ha, e3, q z fun lv f rp => ?_⟩ hs
    obtain ⟨a', vs', h1, ha', ra'⟩ := rp.tupleSq
    cases h1
    have := I.tuple_inj ha ha'
    subst this
    obtain ⟨z', g2, e4, rz, hg⟩ := ra'.get e1
    rw [e2] at e4; cases e4
    exact ⟨g2, rz, hg⟩
   ·exact q.elim
  ·exact q.elim
 ·rename_i t
  split at q
  ·rename_i i
   obtain ⟨hl, q⟩ := q
   split at q
   ·rename_i c e
    obtain ⟨rfl, _⟩ := r1.strV
    obtain ⟨rfl, _⟩ := r2.intV
    exact ix_str value slice pins s σ H _ _ v u Q I rx ry ⟨t, i, c, rfl, rfl, hl, e, q _ fun lv f rp => ⟨[], .str _, qF⟩⟩ hs
   ·exact q.elim
  ·exact q.elim
 ·rename_i kvs
  split at q
  ·rename_i ds
   split at q
   ·rename_i ks e
    split at q
    ·rename_i d ed
     obtain ⟨b, ws, rfl, hb, rb⟩ := r2.tupleAt (Nat.le_refl _)
     rw [rb.jd e] at hb
     cases r1 with
     | @dT a hs' kvs f ha he nd r nn =>
       cases rx
       obtain ⟨j, z, e1, e2, e3⟩ := jJ he ed
       refine Xj hx I ry (by rw [← e3]; exact DGet.t ha hb) (q z fun lv f rp => ?_) hs
       cases rp with
       | dT ha' he' nd' r' nn' =>
         rw [ha] at ha'; cases ha'
         obtain ⟨z', g2, e4, rz, hg⟩ := r'.get e1
         rw [e2] at e4; cases e4
         exact ⟨g2, rz, fun b hb => List.mem_cons_of_mem _ (hg b hb)⟩
       | dTF l' ha' he' nd' r' => rw [ha] at ha'; cases ha'
     | @dTF a o hs' kvs f l ha he nd r =>
       cases rx
       obtain ⟨j, z, e1, e2, e3⟩ := jJ he ed
       refine Xj hx I ry (by rw [← e3]; exact .inr ⟨_, _, _, .inr ⟨o, ha⟩, rfl, hb, rfl⟩) (q z fun lv f rp => ?_) hs
       cases rp with
       | dT ha' he' nd' r' nn' => rw [ha] at ha'; cases ha'
       | dTF l' ha' he' nd' r' =>
         rw [ha] at ha'; cases ha'
         obtain ⟨z', g2, e4, rz, hg⟩ := r'.get e1
         rw [e2] at e4; cases e4
         exact ⟨g2, rz, hg⟩
    ·exact q.elim
   ·exact q.elim
  ·exact q.elim
 ·rename_i kvs
  split at q
  ·rename_i ky e
   split at q
   ·rename_i d ed
    obtain rfl := r2.dKey e
    cases r1 with
    | @dK a hs' kvs f ha he nd r nn =>
      cases rx
      obtain ⟨j, z, e1, e2, e3⟩ := jJ he ed
      refine Xj hx I ry (by rw [← e3]; exact DGet.k ha) (q z fun lv f rp => ?_) hs
      cases rp with
      | dK ha' he' nd' r' nn' =>
        rw [ha] at ha'; cases ha'
        obtain ⟨z', g2, e4, rz, hg⟩ := r'.get e1
        rw [e2] at e4; cases e4
        exact ⟨g2, rz, fun b hb => List.mem_cons_of_mem _ (hg b hb)⟩
   ·exact q.elim
  ·exact q.elim
 ·rename_i kvs
  split at q
  ·rename_i ds
   split at q
   ·rename_i ks e
    split at q
    ·rename_i d ed
     obtain ⟨b, ws, rfl, hb, rb⟩ := r2.tupleAt (Nat.le_refl _)
     rw [rb.jd e] at hb
     cases r1 with
     | @dF a o hs' kvs ha he nd r =>
       cases rx
       obtain ⟨j, z, e1, e2, e3⟩ := jJ he ed
       refine Xj hx I ry (by rw [← e3]; exact .inr ⟨_, _, _, .inr ⟨o, ha⟩, rfl, hb, rfl⟩) (q z fun lv f rp => ?_) hs
       cases rp with
       | dF ha' he' nd' r' =>
         rw [ha] at ha'; cases ha'
         obtain ⟨z', g2, e4, rz, hg⟩ := r'.get e1
         rw [e2] at e4; cases e4
         exact ⟨g2, rz, hg⟩
    ·exact q.elim
   ·exact q.elim
  ·exact q.elim
 ·exact q.elim
end
section
variable {K : PySem.W.Frag} {σ : L2.St} {H : Hp} {env : En} {f : FA}
theorem qef {d : D} {z : V} {g : List Addr} {lv : Nat} {c : Bool} {k : R → Prop} (r : Rep K H (clv c) d z g) (n : ∀ b ∈ g, Ro env f b) (q : k (mkRo c d)) : ∃ r' g2, ResOk K σ H env f r' z g2 ∧ (∀ b ∈ g2, b ∈ ([] : List Addr)) ∧ k r' := by
 cases d with
 | int i => exact ⟨_, [], .tmp r.int0 qF, qF, q⟩
 | bl i => exact ⟨_, [], .tmp r.bl0 qF, qF, q⟩
 | str i => exact ⟨_, [], .tmp r.str0 qF, qF, q⟩
 | non => exact ⟨_, [], .tmp r.non0 qF, qF, q⟩
 | _ => exact ⟨_, [], .ro r n, qF, q⟩
theorem qfq {L : Nat} {r : R} {x : V} {g : List Addr} {k : D → Prop} (A : Abs K σ H env f) (h : ResOk K σ H env f r x g) (q : rd L r env k) :
 ∃ d1 g', Rep K H L d1 x g' ∧ k d1 ∧ ∀ (d : D) (z : V) (k' : R → Prop), Part K H d1 x d z → elem r d k' → ∃ r' g2, ResOk K σ H env f r' z g2 ∧ (∀ b ∈ g2, b ∈ g) ∧ k' r' := by
 cases h with
 | @tmp d1 _ _ r n =>
   refine ⟨d1, g, r.up (Nat.zero_le _), q, fun d z k' p e => ?_⟩
   obtain ⟨g2, rz, hg⟩ := p 0 g r
   exact ⟨_, g2, .tmp rz fun b hb => n b (hg b hb), hg, e⟩
 | @ro c d1 _ g0 r n =>
   unfold rd R.data at q
   cases e : roOk c L with
   | false => simp only [e] at q
   | true =>
     simp only [e] at q
     refine ⟨d1, g0, r.up (qbU e), q, fun d z k' p e => ?_⟩
     obtain ⟨g2, rz, hg⟩ := p _ _ r
     exact qef (lv := 0) rz (fun b hb => n b (hg b hb)) e
 | @sl i _ d1 m h1 h2 hm =>
   obtain ⟨v', h3, rp⟩ := A.rep _ _ _ h2
   rw [h1] at h3; cases h3
   unfold rd R.data at q
   simp only [h2] at q
   cases e : m.okL L with
   | false => simp only [e] at q
   | true =>
     simp only [e] at q
     refine ⟨d1, _, rp.up (Md.okL_le e), q, fun d z k' p e => ?_⟩
     obtain ⟨g2, rz, hg⟩ := p _ _ rp
     obtain ⟨rfl, rz0⟩ := rz.imm (by rw [hm]; exact Nat.zero_le _) e.1
     exact ⟨_, [], .tmp rz0 qF, qF, e.2⟩
end
def dIdx (ta tb : XE) : XE := fun env Q => ta env fun r1 e1 => tb e1 fun r2 e2 => rd 2 r1 e2 fun d1 => rd 1 r2 e2 fun d2 => ixd d1 d2 fun d => elem r1 d fun r => Q r e2
section
variable {X : Cx} {a b c : Expr} {ta tb : XE} {pos : Pos}
theorem wj (hx : Ok X) (ha : DE X a ta) (hb : DE X b tb) (hs : PlainIx b := by intro _ _; rfl) : DE X (.Subscript a b pos) (dIdx ta tb) := by
 refine ⟨PE.imp (pe_ix (qfV hx) ha.run hb.run hs) fun σ H Q q => ?_, fun env Q Q' h q => ha.mono _ _ _ (fun r1 e1 q => hb.mono _ _ _ (fun r2 e2 q => qQ (fun d1 q => qQ (fun d2 q => qan (fun d q => qcR (fun r q => h _ _ q) q) q) q) q) q) q⟩
 obtain ⟨env, f, A, q⟩ := q
 have h := qaH (C := fun r1 r2 e2 => rd 2 r1 e2 fun d1 => rd 1 r2 e2 fun d2 => ixd d1 d2 fun d => _) ha.mono hb.mono A q
 obtain ⟨env1, f1, A1, q1⟩ := h
 refine ⟨env1, f1, A1, ha.mono _ _ _ (fun r1 e1 z => ?_) q1⟩
 intro x H1 f1 g1 a b c d
 obtain ⟨env2, f2, A2, q2⟩ := z x H1 f1 g1 a b c d
 refine ⟨env2, f2, A2, hb.mono _ _ _ (fun r2 e2 z => ?_) q2⟩
 intro y H2 f2 g2 a b c d
 obtain ⟨r1, r2, e2, f2, g1, g2, A2, R1, R2, n, S, Kk, q3⟩ := z y H2 f2 g2 a b c d
 obtain ⟨d1, g1', rp1, q3, pr⟩ := qfq A2 R1 q3
 obtain ⟨d2, g2', rp2, q3⟩ := yx A2 R2 q3
 refine ⟨d1, d2, g1', g2', rp1, rp2, qan (fun dd q4 => ?_) q3⟩
 intro z p
 obtain ⟨r', g3, R3, hg, q5⟩ := pr _ _ _ p q4
 exact q5 z H2 f2 g3 A2 R3 (S.drop fun b hb => List.mem_append_left _ (hg b hb)) Kk
end
abbrev OPn := List D → (D → Prop) → Prop
def rOpn (K : PySem.W.Frag) (L : Nat) (op : OPn) : List V → Hp → VK → Prop := fun vs H Q => ∃ ds g, Reps K H L ds vs g ∧ op ds fun d => ∀ z H' g, Rep K H' 0 d z g → Ext H H' g → Q z H'
def qbs (op : OPn) : Prop := ∀ ds k k', (∀ d, k d → k' d) → op ds k → op ds k'
structure CallD (X : Cx) (fn : Value) (L : Nat) (op : OPn) : Prop where
 run : CallR X fn (rOpn X.K L op)
 mono : qbs op
 pos : 0 < L
def dCall (L : Nat) (op : OPn) (u : XA) : XE := fun env Q => u env fun rs e => jP L rs e fun ds => op ds fun d => Q (.tmp d) e
section
variable {X : Cx} {x : Str} {p pos : Pos} {e : Expr} {es : List Expr} {u : XA} {id T : String} {L : Nat} {op : OPn}
theorem YD (mo : qbs op) (mu : Yo u) : xr (dCall L op u) := fun env Q Q' h q => mu _ _ _ (fun rs e q => uD (fun ds q => mo _ _ _ (fun d q => h _ _ q) q) q) q
theorem YF {K : PySem.W.Frag} (hL : 0 < L) (mo : qbs op) (mu : Yo u) {σ : L2.St} {H : Hp} {Q : VK} (q : jk K (dCall L op u) σ H Q) : tCB (rOpn K L op) (qa9 K u) σ H Q := by
 obtain ⟨env, f, A, q⟩ := q
 refine ⟨env, f, A, mu _ _ _ (fun rs e q => ?_) q⟩
 intro vs H1 f1 gs A1 R1 S1 K1
 obtain ⟨ds, g, rp, q⟩ := V5 hL A1 R1 q
 refine ⟨ds, g, rp, mo _ _ _ (fun d q => ?_) q⟩
 intro z H' g' rz x
 obtain ⟨A3, R3, S3⟩ := j8 A1 S1 x rz
 exact q z H' f1 g' A3 R3 S3 K1
theorem wY (hc : CallD X (.builtin id) L op) (hg : Gl X x) (hm : X.mg x = none) (hv : bootBuiltins x = some (.builtin id)) (ha : DA X (e :: es) u) (hn : x ≠ "__name__" := by decide) (hdb : (x == ("__debug__" : Str)) = false := by decide)
 (he : starEach (e :: es) X.env = (false, eval e X.env) :: starEach es X.env := by rfl) (hpl : (backTo pos (starEach es X.env)).any (·.1) = false := by rfl) : DE X (.Call (.Name x p) (e :: es) [] pos) (dCall L op u) :=
 ⟨PE.imp (pe_callB hc.run hg hm hv ha.run hn hdb he hpl) fun σ H Q q => YF hc.pos hc.mono ha.mono q, YD hc.mono ha.mono⟩
theorem wW (hc : CallD X (.type T) L op) (hg : Gl X x) (hm : X.mg x = none) (hv : bootBuiltins x = some (.type T)) (ha : DA X (e :: es) u) (hn : x ≠ "__name__" := by decide) (hdb : (x == ("__debug__" : Str)) = false := by decide)
 (he : starEach (e :: es) X.env = (false, eval e X.env) :: starEach es X.env := by rfl) (hpl : (backTo pos (starEach es X.env)).any (·.1) = false := by rfl) : DE X (.Call (.Name x p) (e :: es) [] pos) (dCall L op u) :=
 ⟨PE.imp (pe_callTy hc.run hg hm hv ha.run hn hdb he hpl) fun σ H Q q => YF hc.pos hc.mono ha.mono q, YD hc.mono ha.mono⟩
theorem CallD.mk' {fn : Value} (hL : 0 < L) (run : ∀ (pins : List (Addr × Obj)) (s : Shared) (σ : L2.St) (H : Hp) (xs : List V) (us : List Value) (Q : VK) (ds : List D) (g : List Addr), Inv X pins σ H s → Vals xs us → Reps X.K H L ds xs g →
 (op ds fun d => ∀ z H' g, Rep X.K H' 0 d z g → Ext H H' g → Q z H') → wpAny (model X.prog X.w) X.A (call fn us) (EP X pins σ Q) X.xe s) (mono : qbs op) : CallD X fn L op :=
 ⟨fun pins s σ H xs us Q I rs ⟨ds, g, r, q⟩ => run pins s σ H xs us Q ds g I rs r q, mono, hL⟩
end
def op1 (h : D → (D → Prop) → Prop) : OPn := fun ds k => match ds with
 | [d] => h d k
 | _ => False
def op2 (h : D → D → (D → Prop) → Prop) : OPn := fun ds k => match ds with
 | [d, e] => h d e k
 | _ => False
theorem qhw {h : D → (D → Prop) → Prop} (m : ∀ d k k', (∀ x, k x → k' x) → h d k → h d k') : qbs (op1 h) := fun ds k k' w q => by
 unfold op1 at q ⊢
 split at q
 ·exact m _ _ _ w q
 ·exact q.elim
theorem qhv {h : D → D → (D → Prop) → Prop} (m : ∀ d e k k', (∀ x, k x → k' x) → h d e k → h d e k') : qbs (op2 h) := fun ds k k' w q => by
 unfold op2 at q ⊢
 split at q
 ·exact m _ _ _ _ w q
 ·exact q.elim
theorem Wh {X : Cx} {fn : Value} {L : Nat} {h : D → (D → Prop) → Prop} (hL : 0 < L) (run : ∀ (pins : List (Addr × Obj)) (s : Shared) (σ : L2.St) (H : Hp) (x : V) (us : List Value) (Q : VK) (d : D) (g : List Addr), Inv X pins σ H s → Vals [x] us → Rep X.K H L d x g →
 (h d fun d => ∀ z H' g, Rep X.K H' 0 d z g → Ext H H' g → Q z H') → wpAny (model X.prog X.w) X.A (call fn us) (EP X pins σ Q) X.xe s) (m : ∀ d k k', (∀ x, k x → k' x) → h d k → h d k') : CallD X fn L (op1 h) :=
 .mk' hL (fun pins s σ H xs us Q ds g I rs r q => by
  unfold op1 at q
  split at q
  ·cases r with
   | cons r1 t _ => cases t; exact run pins s σ H _ us Q _ _ I rs r1 q
  ·exact q.elim) (qhw m)
theorem call2 {X : Cx} {fn : Value} {L : Nat} {h : D → D → (D → Prop) → Prop} (hL : 0 < L) (run : ∀ (pins : List (Addr × Obj)) (s : Shared) (σ : L2.St) (H : Hp) (x y : V) (us : List Value) (Q : VK) (d e : D) (g g2 : List Addr), Inv X pins σ H s → Vals [x, y] us → Rep X.K H L d x g → Rep X.K H L e y g2 →
 (h d e fun d => ∀ z H' g, Rep X.K H' 0 d z g → Ext H H' g → Q z H') → wpAny (model X.prog X.w) X.A (call fn us) (EP X pins σ Q) X.xe s) (m : ∀ d e k k', (∀ x, k x → k' x) → h d e k → h d e k') : CallD X fn L (op2 h) :=
 .mk' hL (fun pins s σ H xs us Q ds g I rs r q => by
  unfold op2 at q
  split at q
  ·cases r with
   | cons r1 t _ => cases t with
     | cons r2 t _ => cases t; exact run pins s σ H _ _ us Q _ _ _ _ I rs r1 r2 q
  ·exact q.elim) (qhv m)
def bLen (d : D) (k : D → Prop) : Prop := match d with
 | .lst xs => k (.int xs.length)
 | .lF xs => k (.int xs.length)
 | .tup xs => k (.int xs.length)
 | .str s => s.length ≤ sizeLine ∧ k (.int s.length)
 | .dK kvs => k (.int kvs.length)
 | .dT kvs => k (.int kvs.length)
 | _ => False
def bAbs (d : D) (k : D → Prop) : Prop := match d with
 | .int i => k (.int (if i < 0 then -i else i))
 | _ => False
def bInt (d : D) (k : D → Prop) : Prop := match d with
 | .int i => k (.int i)
 | .bl b => k (.int (if b then 1 else 0))
 | _ => False
def VB (a b : D) (k : D → Prop) : Prop := match a, b with
 | .int i, .int j => k (.int (if j < i then j else i))
 | _, _ => False
def qjF (a b : D) (k : D → Prop) : Prop := match a, b with
 | .int i, .int j => k (.int (if j > i then j else i))
 | _, _ => False
def uG (d : D) (k : D → Prop) : Prop := match d with
 | .lst xs => immL xs = true ∧ k (.tup xs)
 | .lF xs => immL xs = true ∧ k (.tup xs)
 | .tup xs => immL xs = true ∧ k (.tup xs)
 | _ => False
def VD (d : D) (k : D → Prop) : Prop := match d with
 | .lst xs => immL xs = true ∧ k (.lst xs)
 | .lF xs => immL xs = true ∧ k (.lst xs)
 | .tup xs => immL xs = true ∧ k (.lst xs)
 | _ => False
def bools : List D → Option (List Bool)
 | [] => some []
 | .bl b :: ds => (bools ds).map (b :: ·)
 | _ :: _ => none
def bAll (d : D) (k : D → Prop) : Prop := match d with
 | .lst xs => match bools xs with
   | some bs => k (.bl (bs.all id))
   | none => False
 | _ => False
def bAny (d : D) (k : D → Prop) : Prop := match d with
 | .lst xs => match bools xs with
   | some bs => k (.bl (bs.any id))
   | none => False
 | _ => False
def bSum (d : D) (k : D → Prop) : Prop := match d with
 | .lst xs => match intL xs with
   | some ns => k (.int ns.sum)
   | none => False
 | _ => False
theorem Reps.bools {K : PySem.W.Frag} {H : Hp} {lv : Nat} : ∀ {ds : List D} {vs : List V} {f : List Addr} {ns : List Bool}, Reps K H lv ds vs f → BX.bools ds = some ns → vs = ns.map V.bl
 | _, _, _, _, .nil, e => by
   rw [BX.bools] at e; cases e; rfl
 | _, _, _, ns, .cons (d := d) (ds := ds) r t _, e => by
   cases r with
   | bl i =>
     rw [BX.bools] at e
     obtain ⟨ms, h1, h2⟩ := Option.map_eq_some_iff.mp e
     subst h2
     rw [Reps.bools t h1]
     rfl
   | _ => rw [BX.bools] at e <;> first | (cases e) | (intro i z; cases z)
section
variable {X : Cx} (hx : Ok X)
theorem qeZ : CallD X (.builtin "abs") 2 (op1 bAbs) := Wh (by decide) (fun pins s σ H x us Q d g I rs r q => by
 unfold bAbs at q
 split at q
 ·obtain ⟨rfl, _⟩ := r.intV
  exact call_abs pins s σ H _ us Q I rs ⟨_, rfl, q _ _ [] (.int _) .refl⟩
 ·exact q.elim) (fun d k k' h q => by
 unfold bAbs at q ⊢
 split at q
 ·exact h _ q
 ·exact q.elim)
theorem JN : CallD X (.type "int") 2 (op1 bInt) := Wh (by decide) (fun pins s σ H x us Q d g I rs r q => by
 unfold bInt at q
 split at q
 ·obtain ⟨rfl, _⟩ := r.intV
  exact call_int1 pins s σ H _ us Q I rs (.inl ⟨_, rfl, q _ _ [] (.int _) .refl⟩)
 ·obtain ⟨rfl, _⟩ := r.blV
  exact call_int1 pins s σ H _ us Q I rs (.inr ⟨_, rfl, q _ _ [] (.int _) .refl⟩)
 ·exact q.elim) (fun d k k' h q => by
 unfold bInt at q ⊢
 split at q
 ·exact h _ q
 ·exact h _ q
 ·exact q.elim)
include hx in
theorem qc6 : CallD X (.builtin "min") 2 (op2 VB) := call2 (by decide) (fun pins s σ H x y us Q d e g g2 I rs r r2 q => by
 unfold VB at q
 split at q
 ·obtain ⟨rfl, _⟩ := r.intV
  obtain ⟨rfl, _⟩ := r2.intV
  exact call_min2 hx.calm pins s σ H _ us Q I rs ⟨_, _, rfl, q _ _ [] (.int _) .refl⟩
 ·exact q.elim) (fun d e k k' h q => by
 unfold VB at q ⊢
 split at q
 ·exact h _ q
 ·exact q.elim)
theorem qg1 {K : PySem.W.Frag} {H : Hp} {lv : Nat} {xs : List D} {v : V} {g : List Addr} (r : Rep K H lv (.lst xs) v g ∨ Rep K H lv (.tup xs) v g) : ∃ a vs g', v = .ref a ∧ (SqL K H a vs ∨ SqT K H a vs) ∧ Reps K H lv xs vs g' := by
 rcases r with r | r
 ·obtain ⟨a, vs, g', rfl, h, rr, _, _⟩ := r.listSq
  exact ⟨a, vs, g', rfl, .inl h, rr⟩
 ·obtain ⟨a, vs, rfl, h, rr⟩ := r.tupleSq
  exact ⟨a, vs, _, rfl, .inr h, rr⟩
theorem qgm : CallD X (.type "list") 1 (op1 VD) := Wh (by decide) (fun pins s σ H x us Q d g I rs r q => by
 have key : ∀ xs, (Rep X.K H 1 (.lst xs) x g ∨ Rep X.K H 1 (.tup xs) x g) → immL xs = true ∧ (∀ z H' g, Rep X.K H' 0 (.lst xs) z g → Ext H H' g → Q z H') → wpAny (model X.prog X.w) X.A (call (.type "list") us) (EP X pins σ Q) X.xe s := fun xs r q => by
  obtain ⟨a, vs, g', rfl, hs, rr⟩ := qg1 r
  obtain ⟨rfl, r0⟩ := rr.imm (Nat.le_refl _) q.1
  exact call_list_of pins s σ H _ us Q I rs ⟨_, _, rfl, hs, fun l hl => q.2 _ _ _ (Qa hl r0) (.upd hl)⟩
 unfold VD at q
 split at q
 ·exact key _ (.inl r) q
 ·obtain ⟨a, vs, rfl, hs, rr, _⟩ := r.lFSq
  obtain ⟨rfl, r0⟩ := rr.imm (Nat.le_refl _) q.1
  exact call_list_of pins s σ H _ us Q I rs ⟨_, _, rfl, .inl hs, fun l hl => q.2 _ _ _ (Qa hl r0) (.upd hl)⟩
 ·exact key _ (.inr r) q
 ·exact q.elim) (fun d k k' h q => by
 unfold VD at q ⊢
 split at q
 ·exact ⟨q.1, h _ q.2⟩
 ·exact ⟨q.1, h _ q.2⟩
 ·exact ⟨q.1, h _ q.2⟩
 ·exact q.elim)
theorem uU : CallD X (.type "tuple") 1 (op1 uG) := Wh (by decide) (fun pins s σ H x us Q d g I rs r q => by
 unfold uG at q
 split at q
 ·obtain ⟨a, vs, g', rfl, hs, rr, _, _⟩ := r.listSq
  obtain ⟨rfl, r0⟩ := rr.imm (Nat.le_refl _) q.1
  exact call_tuple_of pins s σ H _ us Q I rs ⟨_, _, rfl, .inl ⟨hs, fun l hl => q.2 _ _ _ (Zd hl r0) (.updT hl)⟩⟩
 ·obtain ⟨a, vs, rfl, hs, rr, _⟩ := r.lFSq
  obtain ⟨rfl, r0⟩ := rr.imm (Nat.le_refl _) q.1
  exact call_tuple_of pins s σ H _ us Q I rs ⟨_, _, rfl, .inl ⟨hs, fun l hl => q.2 _ _ _ (Zd hl r0) (.updT hl)⟩⟩
 ·obtain ⟨rfl, r0⟩ := r.imm (Nat.le_refl _) (by rw [D.imm]; exact q.1)
  obtain ⟨a, vs, rfl, hs, rr⟩ := r.tupleSq
  exact call_tuple_of pins s σ H _ us Q I rs ⟨_, _, rfl, .inr ⟨hs, q.2 _ _ _ r0 .refl⟩⟩
 ·exact q.elim) (fun d k k' h q => by
 unfold uG at q ⊢
 split at q
 ·exact ⟨q.1, h _ q.2⟩
 ·exact ⟨q.1, h _ q.2⟩
 ·exact ⟨q.1, h _ q.2⟩
 ·exact q.elim)
include hx in
theorem qhX : CallD X (.builtin "all") 2 (op1 bAll) := Wh (by decide) (fun pins s σ H x us Q d g I rs r q => by
 unfold bAll at q
 split at q
 ·split at q
  ·rename_i e
   obtain ⟨a, vs, g', rfl, hs, rr, _, _⟩ := r.listSq
   rw [rr.bools e] at hs
   exact cr_all hx.calm pins s σ H _ us Q I rs ⟨_, _, rfl, hs, q _ _ [] (.bl _) .refl⟩
  ·exact q.elim
 ·exact q.elim) (fun d k k' h q => by
 unfold bAll at q ⊢
 split at q
 ·split at q
  ·simp only [*] <;> exact h _ q
  ·exact q.elim
 ·exact q.elim)
include hx in
theorem qeY : CallD X (.builtin "sum") 2 (op1 bSum) := Wh (by decide) (fun pins s σ H x us Q d g I rs r q => by
 unfold bSum at q
 split at q
 ·split at q
  ·rename_i e
   obtain ⟨a, vs, g', rfl, hs, rr, _, _⟩ := r.listSq
   rw [rr.intL e] at hs
   exact cr_sum hx.calm pins s σ H _ us Q I rs ⟨_, _, rfl, hs, q _ _ [] (.int _) .refl⟩
  ·exact q.elim
 ·exact q.elim) (fun d k k' h q => by
 unfold bSum at q ⊢
 split at q
 ·split at q
  ·simp only [*] <;> exact h _ q
  ·exact q.elim
 ·exact q.elim)
end
end BX
namespace BX
open PySem PySem.Spec PyProof.Rows L2
section
variable {K : PySem.W.Frag} {σ : L2.St} {H H1 H2 H' : Hp} {env e1 e2 : En} {f f1 f2 : FA} {G G' g g' gs fp' : List Addr} {i : Nat} {d d' : D} {m : Md} {v x : V}
theorem Vy {ta : XE} {u : XA} {C : R → List R → En → Prop} {B : R → En → Prop} (ma : xr ta) (mu : Yo u) (A : Abs K σ H env f) (q : ta env fun r1 e1 => B r1 e1 ∧ u e1 fun rs e2 => C r1 rs e2) :
 jk K ta σ H fun x H1 => (∃ r1 e1 f1 g1, Abs K σ H1 e1 f1 ∧ ResOk K σ H1 e1 f1 r1 x g1 ∧ B r1 e1) ∧ qa9 K u σ H1 fun vs H2 => ∃ r1 rs e2 f2 g1 gs, Abs K σ H2 e2 f2 ∧ ResOk K σ H2 e2 f2 r1 x g1 ∧ ResOks K σ H2 e2 f2 rs vs gs ∧ (∀ b ∈ g1, b ∉ gs) ∧
  Stp H env f [] H2 e2 f2 (g1 ++ gs) ∧ Kp env f e2 f2 ∧ C r1 rs e2 := by
 refine ⟨env, f, A, ma _ _ _ (fun r1 e1 q1 => ?_) q⟩
 intro x H1 f1 g1 A1 R1 S1 K1
 refine ⟨⟨r1, e1, f1, g1, A1, R1, q1.1⟩, e1, f1, A1, mu _ _ _ (fun rs e2 q2 => ?_) q1.2⟩
 intro vs H2 f2 gs A2 R2 S2 K2
 obtain ⟨R1', n⟩ := R1.wait A1 S2 K2
 exact ⟨r1, rs, e2, f2, g1, gs, A2, R1', R2, n, S1.trans (S2.frame g1), K1.trans K2, q2⟩
theorem Xb {ys : List D} {ws vs : List V} {a : Addr} {fp : List Addr} (A : Abs K σ H env f) (e : env[i]? = some (some (d, m))) (hm : m.rd = false) (hl : m.lv = 0) (hv : σ[i]? = some (some (.ref a)))
 (ha : H a = some (.lst vs)) (hf : f i = a :: fp) (nfp : a ∉ fp) (r : Reps K H 0 ys ws fp') (sub : ∀ b ∈ fp', b ∈ fp ∨ b ∈ G) (hG : ∀ b ∈ G, ¬ L0 env f b ∧ ¬ Ro env f b) (hG' : ∀ b ∈ G', (b ∈ fp ∨ b ∈ G) ∧ b ∉ fp') :
 Abs K σ (upd H a (.lst ws)) (env.set i (some (.lst ys, m))) (fset f i (a :: fp')) ∧ Stp H env f G (upd H a (.lst ws)) (env.set i (some (.lst ys, m))) (fset f i (a :: fp')) G' ∧ Kp env f (env.set i (some (.lst ys, m))) (fset f i (a :: fp')) ∧
  (∀ b ∈ G', ¬ L0 (env.set i (some (.lst ys, m))) (fset f i (a :: fp')) b ∧ ¬ Ro (env.set i (some (.lst ys, m))) (fset f i (a :: fp')) b) := by
 have aG : a ∉ G := fun z => (hG a z).1 ⟨i, d, m, e, hl, by rw [hf]; exact List.mem_cons_self ..⟩
 have afp' : a ∉ fp' := fun z => (sub a z).elim nfp aG
 refine A.mut e hm hv (fun b o hb n => ?_) ?_ (fun b hb => ?_) hG fun b hb => ⟨?_, fun z => ?_⟩
 ·have : b ≠ a := fun z => n (by rw [hf, z]; exact List.mem_cons_self ..)
  rw [upd_ne this]; exact hb
 ·rw [hl]
  refine .lst upd_same (r.keep fun b o hb q => ?_) fun _ => afp'
  have : b ≠ a := fun z => by
   subst z
   rcases q with q | q
   ·exact afp' q
   ·rw [ha] at hb; cases hb; cases q
  rw [upd_ne this]; exact hb
 ·rcases List.mem_cons.mp hb with rfl | hb
  ·exact .inl (by rw [hf]; exact List.mem_cons_self ..)
  ·rcases sub b hb with z | z
   ·exact .inl (by rw [hf]; exact List.mem_cons_of_mem _ z)
   ·exact .inr (.inl z)
 ·rcases (hG' b hb).1 with z | z
  ·exact .inl (by rw [hf]; exact List.mem_cons_of_mem _ z)
  ·exact .inr (.inl z)
 ·rcases List.mem_cons.mp z with rfl | z
  ·exact (hG' b hb).1.elim nfp aG
  ·exact (hG' b hb).2 z
theorem qeX {kvs : List (List Key × D)} {hs : List (List Key × V)} {ho : HO} {a : Addr} {fp : List Addr} (A : Abs K σ H env f) (e : env[i]? = some (some (d, m))) (hm : m.rd = false) (hl : m.lv = 0) (hv : σ[i]? = some (some (.ref a)))
 (ha : H a = some ho) (mo : Mu ho = true) (hf : f i = a :: fp) (nfp : a ∉ fp) (ek : hs.map (·.1) = kvs.map (·.1)) (nd : (kvs.map (·.1)).Nodup) (r : Reps K H 0 (kvs.map (·.2)) (hs.map (·.2)) fp') (sub : ∀ b ∈ fp', b ∈ fp ∨ b ∈ G) (hG : ∀ b ∈ G, ¬ L0 env f b ∧ ¬ Ro env f b)
 (hG' : ∀ b ∈ G', (b ∈ fp ∨ b ∈ G) ∧ b ∉ fp') :
 Abs K σ (upd H a (.dT hs)) (env.set i (some (.dT kvs, m))) (fset f i (a :: fp')) ∧ Stp H env f G (upd H a (.dT hs)) (env.set i (some (.dT kvs, m))) (fset f i (a :: fp')) G' ∧ Kp env f (env.set i (some (.dT kvs, m))) (fset f i (a :: fp')) ∧
  (∀ b ∈ G', ¬ L0 (env.set i (some (.dT kvs, m))) (fset f i (a :: fp')) b ∧ ¬ Ro (env.set i (some (.dT kvs, m))) (fset f i (a :: fp')) b) := by
 have aG : a ∉ G := fun z => (hG a z).1 ⟨i, d, m, e, hl, by rw [hf]; exact List.mem_cons_self ..⟩
 have afp' : a ∉ fp' := fun z => (sub a z).elim nfp aG
 refine A.mut e hm hv (fun b o hb n => ?_) ?_ (fun b hb => ?_) hG fun b hb => ⟨?_, fun z => ?_⟩
 ·have : b ≠ a := fun z => n (by rw [hf, z]; exact List.mem_cons_self ..)
  rw [upd_ne this]; exact hb
 ·rw [hl]
  refine .dT upd_same ek nd (r.keep fun b o hb q => ?_) fun _ => afp'
  have : b ≠ a := fun z => by
   subst z
   rcases q with q | q
   ·exact afp' q
   ·rw [ha] at hb; cases hb; rw [mo] at q; cases q
  rw [upd_ne this]; exact hb
 ·rcases List.mem_cons.mp hb with rfl | hb
  ·exact .inl (by rw [hf]; exact List.mem_cons_self ..)
  ·rcases sub b hb with z | z
   ·exact .inl (by rw [hf]; exact List.mem_cons_of_mem _ z)
   ·exact .inr (.inl z)
 ·rcases (hG' b hb).1 with z | z
  ·exact .inl (by rw [hf]; exact List.mem_cons_of_mem _ z)
  ·exact .inr (.inl z)
 ·rcases List.mem_cons.mp z with rfl | z
  ·exact (hG' b hb).1.elim nfp aG
  ·exact (hG' b hb).2 z
end
def D.isLst : D → Bool
 | .lst _ => true
 | _ => false
def D.isDic : D → Bool
 | .dT _ => true
 | .dK _ => true
 | _ => false
def chgL (r : R) (env : En) (k : Nat → List D → Md → Prop) : Prop := chg r env fun i d m => match d with
 | .lst xs => k i xs m
 | _ => False
theorem Z5 {r : R} {env : En} {k k' : Nat → List D → Md → Prop} (h : ∀ i d m, k i d m → k' i d m) (q : chgL r env k) : chgL r env k' := W8 (fun i d m q => by
 split at q
 ·exact h _ _ _ q
 ·exact q.elim) q
theorem Vx {K : PySem.W.Frag} {σ : L2.St} {H : Hp} {env : En} {f : FA} {r : R} {v : V} {g : List Addr} {k : Nat → List D → Md → Prop} (A : Abs K σ H env f) (h : ResOk K σ H env f r v g) (q : chgL r env k) :
 ∃ i xs m a vs fp, v = .ref a ∧ env[i]? = some (some (.lst xs, m)) ∧ m.rd = false ∧ m.lv = 0 ∧ σ[i]? = some (some (.ref a)) ∧ H a = some (.lst vs) ∧ Reps K H 0 xs vs fp ∧ f i = a :: fp ∧ a ∉ fp ∧ g = [] ∧ k i xs m := by
 obtain ⟨i, d, m, e, hm, hl, hv, rp, rfl, q⟩ := qaB A h q
 split at q
 ·obtain ⟨a, vs, fp, rfl, ha, rr, hf, n⟩ := rp.listAt
  exact ⟨i, _, m, a, vs, fp, rfl, e, hm, hl, hv, ha, rr, hf, n, rfl, q⟩
 ·exact q.elim
def chgT (r : R) (env : En) (k : Nat → List (List Key × D) → Md → Prop) : Prop := chg r env fun i d m => match d with
 | .dT xs => k i xs m
 | _ => False
theorem JL {r : R} {env : En} {k k' : Nat → List (List Key × D) → Md → Prop} (h : ∀ i d m, k i d m → k' i d m) (q : chgT r env k) : chgT r env k' := W8 (fun i d m q => by
 split at q
 ·exact h _ _ _ q
 ·exact q.elim) q
theorem qgi {K : PySem.W.Frag} {σ : L2.St} {H : Hp} {env : En} {f : FA} {r : R} {v : V} {g : List Addr} {k : Nat → List (List Key × D) → Md → Prop} (A : Abs K σ H env f) (h : ResOk K σ H env f r v g) (q : chgT r env k) :
 ∃ i xs m a hs fp, v = .ref a ∧ env[i]? = some (some (.dT xs, m)) ∧ m.rd = false ∧ m.lv = 0 ∧ σ[i]? = some (some (.ref a)) ∧ H a = some (.dT hs) ∧ hs.map (·.1) = xs.map (·.1) ∧ (xs.map (·.1)).Nodup ∧ Reps K H 0 (xs.map (·.2)) (hs.map (·.2)) fp ∧ f i = a :: fp ∧ a ∉ fp ∧ g = [] ∧ k i xs m := by
 obtain ⟨i, d, m, e, hm, hl, hv, rp, rfl, q⟩ := qaB A h q
 split at q
 ·obtain ⟨a, hs, fp, rfl, ha, ek, nd, rr, hf, n⟩ := rp.dTAt
  exact ⟨i, _, m, a, hs, fp, rfl, e, hm, hl, hv, ha, ek, nd, rr, hf, n rfl, rfl, q⟩
 ·exact q.elim
def one (rs : List R) (k : R → Prop) : Prop := match rs with
 | [r] => k r
 | _ => False
abbrev B1 := R → R → En → (R → En → Prop) → Prop
def dM1 (isT : D → Bool) (B : B1) (ta te : XE) : XE := fun env Q => ta env fun r1 e1 => (rd 2 r1 e1 fun d => isT d = true) ∧ te e1 fun r2 e2 => B r1 r2 e2 Q
structure M1Ok (X : Cx) (T : String) (isT : D → Bool) (rr : V → List V → Hp → VK → Prop) (B : B1) : Prop where
 ty : ∀ (H : Hp) (d : D) (x : V) (g : List Addr), Rep X.K H 2 d x g → isT d = true → tyV X.K T x H
 run : ∀ (σ : L2.St) (H : Hp) (e : En) (f : FA) (r1 r2 : R) (x y : V) (g1 g2 : List Addr) (QQ : R → En → Prop) (Q : VK), Abs X.K σ H e f → ResOk X.K σ H e f r1 x g1 → ResOk X.K σ H e f r2 y g2 → (∀ b ∈ g1, b ∉ g2) → B r1 r2 e QQ →
  (∀ v H' e' f' r' g', Abs X.K σ H' e' f' → ResOk X.K σ H' e' f' r' v g' → Stp H e f (g1 ++ g2) H' e' f' g' → Kp e f e' f' → QQ r' e' → Q v H') → rr x [y] H Q
 mono : ∀ r1 r2 e Q Q', (∀ r e, Q r e → Q' r e) → B r1 r2 e Q → B r1 r2 e Q'
section
variable {X : Cx} {o e : Expr} {ta te : XE} {cpos apos : Pos} {T id : String} {name : Str} {isT : D → Bool} {rr : V → List V → Hp → VK → Prop} {B : B1}
theorem qhQ (ok : M1Ok X T isT rr B) (pa : PlainAttrs T) (slot : Slot T name id) (hty : typeOf (.builtin id) = pure (.type "method_descriptor")) (hm : MtR X id rr) (ho : DE X o ta) (he : DE X e te) (hbase : attributeBase o name X.env (eval o X.env) = eval o X.env := by rfl)
 (hfew : ((backTo cpos (starEach [e] X.env)).all (fun x => !x.1) && (backToKw cpos (keywordEach [] X.env)).all (fun x => x.1.isSome)
  && decide (([e] : List Expr).length + ([] : List Keyword).length + (if ([] : List Keyword).isEmpty then 0 else 1) < 30)) = true := by rfl)
 (hline : (apos.endLine == cpos.line) = true := by rfl) (hs : starEach [e] X.env = (false, eval e X.env) :: starEach [] X.env := by rfl) (hplain : (backTo cpos (starEach [] X.env)).any (·.1) = false := by rfl) :
 DE X (.Call (.Attribute o name apos) [e] [] cpos) (dM1 isT B ta te) := by
 have ha := qd he qu hs
 refine ⟨PE.imp (pe_bm pa slot hty hm ho.run ha.run hbase hfew hline hs hplain) fun σ H Q q => ?_, fun env Q Q' h q => ?_⟩
 ·obtain ⟨env, f, A, q⟩ := q
  have h := Vy (B := fun r1 e1 => rd 2 r1 e1 fun d => isT d = true) (C := fun r1 rs e2 => one rs fun r2 => B r1 r2 e2 (qdp X.K σ H env f Q)) ho.mono ha.mono A q
  obtain ⟨env1, f1, A1, q1⟩ := h
  refine ⟨env1, f1, A1, ho.mono _ _ _ (fun r1 e1 z => ?_) q1⟩
  intro x H1 f1 g1 a b c d
  obtain ⟨⟨r0, e0, f0, g0, A0, R0, B0⟩, env2, f2, A2, q2⟩ := z x H1 f1 g1 a b c d
  obtain ⟨d0, g00, rp0, B0⟩ := yx A0 R0 B0
  refine ⟨ok.ty _ _ _ _ rp0 B0, env2, f2, A2, ha.mono _ _ _ (fun rs e2 z => ?_) q2⟩
  intro vs H2 f2 g2 a b c d
  obtain ⟨r1, rs, e2, f2, g1, gs, A2, R1, R2, n, S, Kk, q3⟩ := z vs H2 f2 g2 a b c d
  cases R2 with
  | nil => exact q3.elim
  | @cons r2 y g _ _ gs R2 Rt nd =>
    cases Rt with
    | cons _ _ _ => exact q3.elim
    | nil =>
      rw [List.append_nil] at S n
      exact ok.run σ H2 e2 f2 r1 r2 x y g1 g _ Q A2 R1 R2 n q3 fun v H' e' f' r' g' A' R' S' K' q => q v H' f' g' A' R' (S.trans S') (Kk.trans K')
 ·exact ho.mono _ _ _ (fun r1 e1 q => ⟨q.1, he.mono _ _ _ (fun r2 e2 q => ok.mono _ _ _ _ _ h q) q.2⟩) q
end
theorem qbN {K : PySem.W.Frag} (H : Hp) (d : D) (x : V) (g : List Addr) (rp : Rep K H 2 d x g) (e : d.isLst = true) : tyV K "list" x H := by
 cases rp with
 | lst h1 r n => exact .inl ⟨rfl, _, .inl (.inl h1)⟩
 | lstF l h1 r => exact .inl ⟨rfl, _, h1.sq⟩
 | _ => cases e
theorem qeB {K : PySem.W.Frag} (H : Hp) (d : D) (x : V) (g : List Addr) (rp : Rep K H 1 d x g) (e : d.isDic = true) : tyV K "dict" x H := by
 cases rp with
 | dT h1 _ _ r n => exact .inr (.inr (.inl ⟨rfl, .inr ⟨_, h1⟩⟩))
 | dTF l _ _ _ _ => exact absurd l (by omega)
 | dK h1 _ _ r n => exact .inr (.inr (.inl ⟨rfl, .inl ⟨_, h1⟩⟩))
 | _ => cases e
def bAppend : B1 := fun r1 r2 e Q => stor r2 e fun d => chgL r1 e fun i xs m => xs.length < sizeLine ∧ Q (.tmp .non) (e.set i (some (.lst (xs ++ [d]), m)))
def YT (r : R) (env : En) (k : List D → Prop) : Prop := match r with
 | .tmp (.lst ys) => k ys
 | r => rd 1 r env fun d => match d with
   | .lst ys => immL ys = true ∧ k ys
   | _ => False
def vI : B1 := fun r1 r2 e Q => YT r2 e fun ys => chgL r1 e fun i xs m => xs.length + ys.length ≤ sizeLine ∧ Q (.tmp .non) (e.set i (some (.lst (xs ++ ys), m)))
theorem qa3 {r : R} {env : En} {k k' : List D → Prop} (h : ∀ d, k d → k' d) (q : YT r env k) : YT r env k' := by
 unfold YT at q ⊢
 split at q
 ·exact h _ q
 ·refine qQ (fun d q => ?_) q
  split at q
  ·exact ⟨q.1, h _ q.2⟩
  ·exact q.elim
theorem qdD {K : PySem.W.Frag} {σ : L2.St} {H : Hp} {env : En} {f : FA} {r : R} {v : V} {g : List Addr} {k : List D → Prop} (A : Abs K σ H env f) (h : ResOk K σ H env f r v g) (q : YT r env k) :
 ∃ ys b ws gy, v = .ref b ∧ H b = some (.lst ws) ∧ Reps K H 0 ys ws gy ∧ k ys ∧ (∀ b ∈ gy, b ∈ g ∧ ¬ L0 env f b ∧ ¬ Ro env f b) := by
 unfold YT at q
 split at q
 ·cases h with
  | tmp rp n =>
    obtain ⟨b, ws, gy, rfl, hb, rr, rfl, _⟩ := rp.listAt
    exact ⟨_, b, ws, gy, rfl, hb, rr, q, fun b hb => ⟨List.mem_cons_of_mem _ hb, n b (List.mem_cons_of_mem _ hb)⟩⟩
 ·obtain ⟨d, g', rp, q⟩ := yx A h q
  split at q
  ·obtain ⟨b, ws, gy, rfl, hb, rr, _⟩ := rp.listAt1 (Nat.le_refl _)
   obtain ⟨rfl, r0⟩ := rr.imm (Nat.le_refl _) q.1
   exact ⟨_, b, ws, [], rfl, hb, r0, q.2, fun b hb => by simp at hb⟩
  ·exact q.elim
section
variable {X : Cx}
theorem m_append : M1Ok X "list" D.isLst rAppend bAppend where
 ty := qbN
 mono := fun r1 r2 e Q Q' h q => jM (fun d q => Z5 (fun i xs m q => ⟨q.1, h _ _ q.2⟩) q) q
 run := fun σ H e f r1 r2 x y g1 g2 QQ Q A R1 R2 n q k => by
  obtain ⟨d, rd1, q, nn⟩ := Qg A R2 q
  obtain ⟨i, xs, m, a, ws, fp, rfl, e, hm, hl, hv, hH, rr, hf, nfp, rfl, hz, q⟩ := Vx A R1 q
  have dj : ∀ b ∈ fp, b ∉ g2 := fun b hb z => (nn b z).1 ⟨i, _, m, e, hl, by rw [hf]; exact List.mem_cons_of_mem _ hb⟩
  obtain ⟨A3, S3, K3, _⟩ := Xb (G := [] ++ g2) (G' := []) A e hm hl hv hH hf nfp (rr.append (.one rd1) (fun _ b hb z => dj b hb z)) (fun b hb => (List.mem_append.mp hb).imp_right fun z => by simpa using z) (fun b hb => nn b (by simpa using hb)) qF
  exact ⟨a, ws, y, rfl, rfl, hH, by rw [← rr.len]; exact hz, k _ _ _ _ _ [] A3 (.tmp .non qF) S3 K3 q⟩
theorem m_extend : M1Ok X "list" D.isLst rExtend vI where
 ty := qbN
 mono := fun r1 r2 e Q Q' h q => qa3 (fun d q => Z5 (fun i xs m q => ⟨q.1, h _ _ q.2⟩) q) q
 run := fun σ H e f r1 r2 x y g1 g2 QQ Q A R1 R2 n q k => by
  obtain ⟨ys, b, zs, gy, rfl, hb, rb, q, nn⟩ := qdD A R2 q
  obtain ⟨i, xs, m, a, ws, fp, rfl, e, hm, hl, hv, hH, rr, hf, nfp, rfl, hz, q⟩ := Vx A R1 q
  have dj : ∀ b ∈ fp, b ∉ gy := fun b hb z => (nn b z).2.1 ⟨i, _, m, e, hl, by rw [hf]; exact List.mem_cons_of_mem _ hb⟩
  obtain ⟨A3, S3, K3, _⟩ := Xb (G := gy) (G' := []) A e hm hl hv hH hf nfp (rr.append rb (fun _ b hb z => dj b hb z)) (fun b hb => List.mem_append.mp hb) (fun b hb => (nn b hb).2) qF
  exact ⟨a, b, ws, zs, rfl, rfl, hH, hb, by rw [← rr.len, ← rb.len]; exact hz, k _ _ _ _ _ [] A3 (.tmp .non qF) (S3.more fun b hb => by simpa using (nn b hb).1) K3 q⟩
variable {o e : Expr} {ta te : XE} {cpos apos : Pos}
theorem QV (ho : DE X o ta) (he : DE X e te) (hbase : attributeBase o "append" X.env (eval o X.env) = eval o X.env := by rfl)
 (hfew : ((backTo cpos (starEach [e] X.env)).all (fun x => !x.1) && (backToKw cpos (keywordEach [] X.env)).all (fun x => x.1.isSome)
  && decide (([e] : List Expr).length + ([] : List Keyword).length + (if ([] : List Keyword).isEmpty then 0 else 1) < 30)) = true := by rfl)
 (hline : (apos.endLine == cpos.line) = true := by rfl) (hs : starEach [e] X.env = (false, eval e X.env) :: starEach [] X.env := by rfl) (hplain : (backTo cpos (starEach [] X.env)).any (·.1) = false := by rfl) :
 DE X (.Call (.Attribute o "append" apos) [e] [] cpos) (dM1 D.isLst bAppend ta te) :=
 qhQ m_append PySem.F.plainAttrs_list PySem.F.slot_list_append PySem.F.type_list_append mt_append ho he hbase hfew hline hs hplain
theorem Z0 (ho : DE X o ta) (he : DE X e te) (hbase : attributeBase o "extend" X.env (eval o X.env) = eval o X.env := by rfl)
 (hfew : ((backTo cpos (starEach [e] X.env)).all (fun x => !x.1) && (backToKw cpos (keywordEach [] X.env)).all (fun x => x.1.isSome)
  && decide (([e] : List Expr).length + ([] : List Keyword).length + (if ([] : List Keyword).isEmpty then 0 else 1) < 30)) = true := by rfl)
 (hline : (apos.endLine == cpos.line) = true := by rfl) (hs : starEach [e] X.env = (false, eval e X.env) :: starEach [] X.env := by rfl) (hplain : (backTo cpos (starEach [] X.env)).any (·.1) = false := by rfl) :
 DE X (.Call (.Attribute o "extend" apos) [e] [] cpos) (dM1 D.isLst vI ta te) :=
 qhQ m_extend PySem.F.plainAttrs_list PySem.F.slot_list_extend PySem.F.type_list_extend mt_extend ho he hbase hfew hline hs hplain
end
structure FS where
 ms : List Md
 wp : List D → (D → List D → Prop) → Prop
def Wj (S : FS) : Prop := ∀ ds Q Q', (∀ d es, Q d es → Q' d es) → S.wp ds Q → S.wp ds Q'
def penv (ms : List Md) (ds : List D) : En := List.zipWith (fun d m => some (d, m)) ds ms
def spOf (K : PySem.W.Frag) (S : FS) : Sp := fun vs H Q _ => vs.length = S.ms.length ∧ ∃ ds f, ds.length = S.ms.length ∧ Abs K (vs.map some) H (penv S.ms ds) f ∧
 S.wp ds fun d ds' => ∀ v H' f' g, ds'.length = S.ms.length → Abs K (vs.map some) H' (penv S.ms ds') f' → Rep K H' 0 d v g → (∀ b ∈ g, ¬ L0 (penv S.ms ds') f' b ∧ ¬ Ro (penv S.ms ds') f' b) →
  Stp H (penv S.ms ds) f [] H' (penv S.ms ds') f' g → Kp (penv S.ms ds) f (penv S.ms ds') f' → Q v H'
def Yc (m : Md) (r : R) (env : En) : Bool := match m with
 | .own => false
 | .lk => false
 | .io => match r with
   | .tmp _ => true
   | .sl i => match env[i]? with
     | some (some (_, .own)) => true
     | some (some (_, .io)) => true
     | _ => false
   | .ro _ _ => false
 | .ro => match r with
   | .tmp _ => true
   | .sl _ => true
   | .ro c _ => !c
 | .cst => true
def yR : List Md → List R → En → Bool
 | [], [], _ => true
 | m :: ms, r :: rs, env => Yc m r env && yR ms rs env
 | _, _, _ => false
def isSl (i : Nat) : R → Bool
 | .sl j => j == i
 | _ => false
def apart (ms : List Md) (rs : List R) : Bool := (List.range rs.length).all fun p => (List.range rs.length).all fun q => p == q || match ms[p]?, rs[p]?, rs[q]? with
 | some m, some (.sl i), some (.sl j) => m.rd || i != j
 | _, _, _ => true
def wQ : List Md → List R → Nat → Option Nat
 | m :: ms, r :: rs, i => match !m.rd && isSl i r with
   | true => some 0
   | false => (wQ ms rs i).map (· + 1)
 | _, _, _ => none
def JV (ms : List Md) (rs : List R) (ds : List D) (i : Nat) (x : Option (D × Md)) : Option (D × Md) := match wQ ms rs i with
 | some p => match ds[p]?, x with
   | some d, some (_, m) => some (d, m)
   | _, x => x
 | none => x
def putB (ms : List Md) (rs : List R) (ds : List D) : Nat → En → En
 | _, [] => []
 | i, x :: xs => JV ms rs ds i x :: putB ms rs ds (i + 1) xs
def dFn (S : FS) (u : XA) : XE := fun env Q => u env fun rs e => yR S.ms rs e = true ∧ apart S.ms rs = true ∧ jP 2 rs e fun ds => S.wp ds fun d ds' => Q (.tmp d) (putB S.ms rs ds' 0 e)
theorem W3 {ms : List Md} {rs : List R} {ds : List D} : ∀ (k : Nat) (env : En) (i : Nat), (putB ms rs ds k env)[i]? = (env[i]?).map (JV ms rs ds (k + i))
 | k, [], i => by rw [putB]; rfl
 | k, x :: xs, 0 => by rw [putB]; rfl
 | k, x :: xs, i + 1 => by
   rw [putB, List.getElem?_cons_succ, List.getElem?_cons_succ, W3 (k + 1) xs i]
   rw [show k + 1 + i = k + (i + 1) by omega]
theorem V8 {ms : List Md} {rs : List R} {ds : List D} : ∀ (k : Nat) (env : En), (putB ms rs ds k env).length = env.length
 | k, [] => by rw [putB]
 | k, x :: xs => by rw [putB, List.length_cons, List.length_cons, V8 (k + 1) xs]
theorem ji : ∀ {ms : List Md} {rs : List R} {i p : Nat}, wQ ms rs i = some p → ∃ m, ms[p]? = some m ∧ m.rd = false ∧ rs[p]? = some (.sl i)
 | [], _, _, _, h => by rw [wQ] at h <;> first | (cases h) | (intros; contradiction)
 | _ :: _, [], _, _, h => by rw [wQ] at h <;> first | (cases h) | (intros; contradiction)
 | m :: ms, r :: rs, i, p, h => by
   rw [wQ] at h
   split at h
   ·rename_i e
    cases h
    rw [Bool.and_eq_true] at e
    refine ⟨m, rfl, by cases hm : m.rd <;> simp [hm] at e ⊢, ?_⟩
    cases r with
    | sl j => have := eq_of_beq (show (j == i) = true from e.2); subst this; rfl
    | _ => cases e.2
   ·cases h' : wQ ms rs i with
    | none => rw [h'] at h; cases h
    | some q =>
      rw [h'] at h; cases h
      obtain ⟨m', a, b, c⟩ := ji h'
      exact ⟨m', by simpa using a, b, by simpa using c⟩
theorem Wl : ∀ {ms : List Md} {rs : List R} {i p : Nat} {m : Md}, wQ ms rs i = none → ms[p]? = some m → m.rd = false → rs[p]? = some (.sl i) → False
 | [], _, _, _, _, _, h, _, _ => by simp at h
 | _ :: _, [], _, _, _, _, _, _, h => by simp at h
 | m :: ms, r :: rs, i, 0, m', h, h1, h2, h3 => by
   cases h1; cases h3
   rw [wQ] at h
   simp [h2, isSl] at h
 | m :: ms, r :: rs, i, p + 1, m', h, h1, h2, h3 => by
   rw [wQ] at h
   split at h
   ·cases h
   ·exact Wl (p := p) (by cases h' : wQ ms rs i with
     | none => rfl
     | some q => rw [h'] at h; cases h) (by simpa using h1) h2 (by simpa using h3)
theorem qdm {ms : List Md} {rs : List R} (h : apart ms rs = true) {p q i : Nat} {m : Md} (hpq : p ≠ q) (h1 : ms[p]? = some m) (h2 : m.rd = false) (h3 : rs[p]? = some (.sl i)) (h4 : rs[q]? = some (.sl i)) : False := by
 unfold apart at h
 rw [List.all_eq_true] at h
 have a := h p (List.mem_range.mpr (List.getElem?_eq_some_iff.mp h3).1)
 rw [List.all_eq_true] at a
 have b := a q (List.mem_range.mpr (List.getElem?_eq_some_iff.mp h4).1)
 simp [h1, h2, h3, h4, hpq] at b
theorem yo {ms : List Md} {ds : List D} {p : Nat} {d : D} {m : Md} : (penv ms ds)[p]? = some (some (d, m)) ↔ ds[p]? = some d ∧ ms[p]? = some m := by
 unfold penv
 rw [List.getElem?_zipWith]
 cases h1 : ds[p]? <;> cases h2 : ms[p]? <;> simp
theorem YZ {ms : List Md} {ds : List D} (h : ds.length = ms.length) : (penv ms ds).length = ms.length := by
 unfold penv
 rw [List.length_zipWith, h, Nat.min_self]
section
variable {K : PySem.W.Frag} {σ : L2.St} {H : Hp} {env : En} {f : FA}
theorem ResOks.get : ∀ {rs : List R} {vs : List V} {gs : List Addr}, ResOks K σ H env f rs vs gs → ∃ ga : Nat → List Addr, (∀ (p : Nat) (r : R), rs[p]? = some r → ∃ v, vs[p]? = some v ∧ ResOk K σ H env f r v (ga p) ∧ ∀ b ∈ ga p, b ∈ gs) ∧
 ∀ p q, p < rs.length → q < rs.length → p ≠ q → ∀ b ∈ ga p, b ∉ ga q
 | _, _, _, .nil => ⟨fun _ => [], fun p r h => by simp at h, fun p q h => by simp at h⟩
 | _, _, _, .cons (r := r) (v := v) (g := g) (rs := rs) (vs := vs) (gs := gs) h t n => by
   obtain ⟨ga, h1, h2⟩ := ResOks.get t
   refine ⟨fun p => match p with
    | 0 => g
    | p + 1 => ga p, fun p r' e => ?_, fun p q hp hq hpq b hb hb' => ?_⟩
   ·cases p with
    | zero => cases e; exact ⟨v, rfl, h, fun b hb => List.mem_append_left _ hb⟩
    | succ p =>
      obtain ⟨v', e1, e2, e3⟩ := h1 p r' (by simpa using e)
      exact ⟨v', by simpa using e1, e2, fun b hb => List.mem_append_right _ (e3 b hb)⟩
   ·have inn : ∀ p, p < rs.length → ∀ b ∈ ga p, b ∈ gs := fun p hp b hb => by
     obtain ⟨v', _, _, e3⟩ := h1 p _ (List.getElem?_eq_getElem hp)
     exact e3 b hb
    cases p with
    | zero => cases q with
      | zero => exact hpq rfl
      | succ q => exact n b hb (inn q (by simpa using hq) b hb')
    | succ p => cases q with
      | zero => exact n b hb' (inn p (by simpa using hp) b hb)
      | succ q => exact h2 p q (by simpa using hp) (by simpa using hq) (by omega) b hb hb'
theorem Yr {L : Nat} : ∀ {rs : List R} {k : List D → Prop}, jP L rs env k → ∃ ds : List D, rs.map (R.data L env) = ds.map some ∧ k ds
 | [], _, q => ⟨[], rfl, q⟩
 | r :: rs, k, q => by
   have q' : rd L r env fun d => jP L rs env fun ds => k (d :: ds) := q
   unfold rd at q'
   cases e : r.data L env with
   | none => rw [e] at q'; exact q'.elim
   | some d =>
     rw [e] at q'
     obtain ⟨ds, h1, h2⟩ := Yr q'
     exact ⟨d :: ds, by rw [List.map_cons, List.map_cons, e, h1], h2⟩
theorem Yu : ∀ {ms : List Md} {rs : List R}, yR ms rs env = true → ms.length = rs.length ∧ ∀ (p : Nat) (m : Md) (r : R), ms[p]? = some m → rs[p]? = some r → Yc m r env = true
 | [], [], _ => ⟨rfl, fun p m r h => by simp at h⟩
 | [], _ :: _, h => by rw [yR] at h <;> first | (cases h) | (intros; contradiction)
 | _ :: _, [], h => by rw [yR] at h <;> first | (cases h) | (intros; contradiction)
 | m :: ms, r :: rs, h => by
   rw [yR, Bool.and_eq_true] at h
   obtain ⟨e1, e2⟩ := Yu h.2
   refine ⟨by rw [List.length_cons, List.length_cons, e1], fun p m' r' h1 h2 => ?_⟩
   cases p with
   | zero => cases h1; cases h2; exact h.1
   | succ p => exact e2 p m' r' (by simpa using h1) (by simpa using h2)
theorem Vm {rs : List R} {vs : List V} {gs : List Addr} {S : FS} (A : Abs K σ H env f) (Rs : ResOks K σ H env f rs vs gs) (ok : yR S.ms rs env = true) (ap : apart S.ms rs = true) {k : List D → Prop} (q : jP 2 rs env k) :
 ∃ ds fa, ds.length = S.ms.length ∧ vs.length = S.ms.length ∧ Abs K (vs.map some) H (penv S.ms ds) fa ∧ k ds ∧
  ∀ v d H' f' g ds', ds'.length = S.ms.length → Abs K (vs.map some) H' (penv S.ms ds') f' → Rep K H' 0 d v g → (∀ b ∈ g, ¬ L0 (penv S.ms ds') f' b ∧ ¬ Ro (penv S.ms ds') f' b) → Stp H (penv S.ms ds) fa [] H' (penv S.ms ds') f' g → Kp (penv S.ms ds) fa (penv S.ms ds') f' →
   ∃ f2, Abs K σ H' (putB S.ms rs ds' 0 env) f2 ∧ ResOk K σ H' (putB S.ms rs ds' 0 env) f2 (.tmp d) v g ∧ Stp H env f gs H' (putB S.ms rs ds' 0 env) f2 g ∧ Kp env f (putB S.ms rs ds' 0 env) f2 := by
 obtain ⟨ds, hds, q⟩ := Yr q
 obtain ⟨hlen, hok⟩ := Yu ok
 obtain ⟨ga, hga, hgd⟩ := Rs.get
 have ld : ds.length = rs.length := by have := congrArg List.length hds; simpa using this.symm
 have lv := Rs.len
 have dat : ∀ (p : Nat) (r : R), rs[p]? = some r → ∃ d, ds[p]? = some d ∧ r.data 2 env = some d := fun p r h => by
  have e := congrArg (fun l => l[p]?) hds
  simp only [List.getElem?_map, h, Option.map_some] at e
  cases e2 : ds[p]? with
  | none => rw [e2] at e; cases e
  | some d => rw [e2] at e; exact ⟨d, rfl, Option.some.inj e⟩
 have ex : ∀ p : Nat, ∃ fp : List Addr, ∀ (m : Md) (r : R), S.ms[p]? = some m → rs[p]? = some r → ∃ v d, vs[p]? = some v ∧ ds[p]? = some d ∧ Rep K H m.lv d v fp ∧
  ((∃ d', r = .tmp d' ∧ fp = ga p) ∨ (m.rd = true ∧ ∀ b ∈ fp, Ro env f b) ∨ ∃ i m', r = .sl i ∧ fp = f i ∧ env[i]? = some (some (d, m')) ∧ (m.rd = false → m'.rd = false) ∧ m'.lv = 0 ∧ σ[i]? = some (some v)) := fun p => by
  cases hm : S.ms[p]? with
  | none => exact ⟨[], fun m r h => by cases h⟩
  | some m =>
    cases hr : rs[p]? with
    | none => exact ⟨[], fun m r _ h => by cases h⟩
    | some r =>
      obtain ⟨v, hv, R1, _⟩ := hga p r hr
      obtain ⟨d, hd, dd⟩ := dat p r hr
      have o := hok p m r hm hr
      generalize hgp : ga p = gp at R1
      cases R1 with
      | @tmp d' _ _ rp n =>
        cases dd
        refine ⟨gp, fun m1 r1 e1 e2 => ?_⟩
        cases e1; cases e2
        exact ⟨v, _, hv, hd, rp.up (Nat.zero_le _), .inl ⟨_, rfl, rfl⟩⟩
      | @ro c d' _ g0 rp n =>
        refine ⟨g0, fun m1 r1 e1 e2 => ?_⟩
        cases e1; cases e2
        have dd' : d' = d := by
         unfold R.data at dd
         cases e : roOk c 2 with
         | false => simp only [e] at dd; cases dd
         | true => simp only [e] at dd; exact Option.some.inj dd
        subst dd'
        refine ⟨v, d', hv, hd, rp.up ?_, .inr (.inl ⟨?_, n⟩)⟩
        ·cases m <;> cases c <;> first | exact Nat.le_refl _ | exact Nat.le_succ _ | (cases o)
        ·cases m <;> first | rfl | (cases o)
      | @sl i _ d' m' h1 h2 l0 =>
        refine ⟨f i, fun m1 r1 e1 e2 => ?_⟩
        cases e1; cases e2
        obtain ⟨w, h4, rp⟩ := A.rep i d' m' h2
        rw [h1] at h4; cases h4
        have dd' : d' = d := by
         unfold R.data at dd
         simp only [h2] at dd
         cases e : m'.okL 2 with
         | false => simp only [e] at dd; cases dd
         | true => simp only [e] at dd; exact Option.some.inj dd
        subst dd'
        refine ⟨v, d', hv, hd, rp.up (by rw [l0]; exact Nat.zero_le _), .inr (.inr ⟨i, m', rfl, rfl, h2, fun hr0 => ?_, l0, h1⟩)⟩
        cases m with
        | own => cases o
        | lk => cases o
        | io =>
          simp only [Yc, h2] at o
          cases m' <;> first | rfl | (cases o; done)
        | ro => cases hr0
        | cst => cases hr0
 obtain ⟨fa, hfa⟩ := Classical.axiomOfChoice ex
 have lm : S.ms.length = rs.length := hlen
 have rsAt : ∀ {p : Nat} {m : Md}, S.ms[p]? = some m → ∃ r, rs[p]? = some r := fun {p m} h => ⟨_, List.getElem?_eq_getElem (by have := (List.getElem?_eq_some_iff.mp h).1; omega)⟩
 have cw : ∀ {p : Nat} {m : Md}, S.ms[p]? = some m → m.rd = false → (∃ d', rs[p]? = some (.tmp d') ∧ fa p = ga p) ∨ ∃ i d m', rs[p]? = some (.sl i) ∧ fa p = f i ∧ env[i]? = some (some (d, m')) ∧ m'.rd = false := fun {p m} hm hr => by
  obtain ⟨r, hr'⟩ := rsAt hm
  obtain ⟨v, d, h1, h2, h3, h4⟩ := hfa p m r hm hr'
  rcases h4 with ⟨d', rfl, e⟩ | ⟨e, _⟩ | ⟨i, m', rfl, e, e2, e3, _⟩
  ·exact .inl ⟨d', hr', e⟩
  ·rw [hr] at e; cases e
  ·exact .inr ⟨i, d, m', hr', e, e2, e3 hr⟩
 have gaFree : ∀ {p : Nat} {d' : D}, rs[p]? = some (.tmp d') → ∀ b ∈ ga p, (¬ L0 env f b ∧ ¬ Ro env f b) ∧ b ∈ gs := fun {p d'} h b hb => by
  obtain ⟨v, _, R1, hs⟩ := hga p _ h
  cases R1 with
  | tmp rp n => exact ⟨n b hb, hs b hb⟩
 have A0 : Abs K (vs.map some) H (penv S.ms ds) fa := by
  refine ⟨fun p d m h => ?_, fun p q d m d' m' hpq h1 h2 hr b hb hb' => ?_, by rw [YZ (by omega), List.length_map]; omega⟩
  ·obtain ⟨hd, hm⟩ := yo.mp h
   obtain ⟨r, hr⟩ := rsAt hm
   obtain ⟨v, d', h1, h2, h3, _⟩ := hfa p m r hm hr
   rw [hd] at h2; cases h2
   exact ⟨v, by rw [List.getElem?_map, h1]; rfl, h3⟩
  ·obtain ⟨hd1, hm1⟩ := yo.mp h1
   obtain ⟨hd2, hm2⟩ := yo.mp h2
   replace hr : m.rd = false := by
    obtain ⟨r0, hr0⟩ := rsAt hm1
    have o := hok p m r0 hm1 hr0
    cases m <;> first | rfl | (cases hr; done) | (cases o; done)
   obtain ⟨r2, hr2⟩ := rsAt hm2
   obtain ⟨v2, d2, _, _, _, h5⟩ := hfa q m' r2 hm2 hr2
   rcases cw hm1 hr with ⟨d0, e1, e2⟩ | ⟨i, d0, m0, e1, e2, e3, e4⟩
   ·rw [e2] at hb
    obtain ⟨⟨nw, nr⟩, _⟩ := gaFree e1 b hb
    rcases h5 with ⟨d3, rfl, e5⟩ | ⟨_, e5⟩ | ⟨j, m3, rfl, e5, e6, e7, e8, _⟩
    ·rw [e5] at hb'
     exact hgd p q (List.getElem?_eq_some_iff.mp e1).1 (List.getElem?_eq_some_iff.mp hr2).1 hpq b hb hb'
    ·exact nr (e5 b hb')
    ·rw [e5] at hb'
     exact nw ⟨j, _, _, e6, e8, hb'⟩
   ·rw [e2] at hb
    rcases h5 with ⟨d3, rfl, e5⟩ | ⟨_, e5⟩ | ⟨j, m3, rfl, e5, e6, e7, e8, _⟩
    ·rw [e5] at hb'
     exact (gaFree hr2 b hb').1.1 ⟨i, _, _, e3, Md.lv_of e4, hb⟩
    ·exact A.apart ⟨i, _, _, e3, Md.lv_of e4, hb⟩ (e5 b hb')
    ·rw [e5] at hb'
     by_cases hij : i = j
     ·subst hij
      exact qdm ap hpq hm1 hr e1 hr2
     ·exact A.dis i j _ _ _ _ hij e3 e6 (Md.lv_of e4) b hb hb'
 refine ⟨ds, fa, by omega, by omega, A0, q, fun v d H' f' g ds' l' A1 rv ng S1 K1 => ?_⟩
 have cwW : ∀ b, W (penv S.ms ds) fa b → (W env f b ∨ b ∈ gs) ∧ ∀ i d1 m1, env[i]? = some (some (d1, m1)) → wQ S.ms rs i = none → b ∉ f i := fun b ⟨p, d1, m1, h1, h2, h3⟩ => by
  obtain ⟨hd1, hm1⟩ := yo.mp h1
  rcases cw hm1 h2 with ⟨d0, e1, e2⟩ | ⟨i, d0, m0, e1, e2, e3, e4⟩
  ·rw [e2] at h3
   obtain ⟨⟨nw, nr⟩, hs⟩ := gaFree e1 b h3
   refine ⟨.inr hs, fun j d2 m2 h4 _ z => ?_⟩
   by_cases hm2 : m2.lv = 0
   ·exact nw ⟨j, d2, m2, h4, hm2, z⟩
   ·exact nr ⟨j, d2, m2, h4, hm2, z⟩
  ·rw [e2] at h3
   refine ⟨.inl ⟨i, d0, m0, e3, e4, h3⟩, fun j d2 m2 h4 h5 z => ?_⟩
   by_cases hij : i = j
   ·subst hij
    exact Wl h5 hm1 h2 e1
   ·exact A.dis i j _ _ _ _ hij e3 h4 (Md.lv_of e4) b h3 z
 have far : ∀ b, (W (penv S.ms ds') f' b ∨ b ∈ g) → (W env f b ∨ b ∈ gs ∨ H b = none) ∧ ∀ i d1 m1, env[i]? = some (some (d1, m1)) → wQ S.ms rs i = none → b ∉ f i := fun b h => by
  rcases S1.own b h with z | z | z
  ·obtain ⟨z1, z2⟩ := cwW b z
   exact ⟨z1.imp_right .inl, z2⟩
  ·simp at z
  ·refine ⟨.inr (.inr z), fun i d1 m1 h1 _ hb => ?_⟩
   obtain ⟨w, _, rp⟩ := A.rep i d1 m1 h1
   obtain ⟨o, ho, _⟩ := rp.dom b hb
   rw [z] at ho; cases ho
 have slot : ∀ {i : Nat} {d1 : D} {m1 : Md}, (putB S.ms rs ds' 0 env)[i]? = some (some (d1, m1)) →
  (wQ S.ms rs i = none ∧ env[i]? = some (some (d1, m1))) ∨ ∃ p m d0 v, wQ S.ms rs i = some p ∧ S.ms[p]? = some m ∧ m.rd = false ∧ ds'[p]? = some d1 ∧ env[i]? = some (some (d0, m1)) ∧ m1.rd = false ∧ m1.lv = 0 ∧ vs[p]? = some v ∧ σ[i]? = some (some v) := fun {i d1 m1} h => by
  rw [W3, Nat.zero_add] at h
  cases hp : wQ S.ms rs i with
  | none =>
    left
    refine ⟨rfl, ?_⟩
    cases he : env[i]? with
    | none => rw [he] at h; cases h
    | some x =>
      rw [he] at h
      simp only [Option.map_some, JV, hp] at h
      exact h
  | some p =>
    right
    obtain ⟨m, hm, hr, hs⟩ := ji hp
    obtain ⟨v, d0, h1, h2, h3, h4⟩ := hfa p m _ hm hs
    rcases h4 with ⟨d', e, _⟩ | ⟨e, _⟩ | ⟨j, m', e, e1, e2, e3, e4, e5⟩
    ·cases e
    ·rw [hr] at e; cases e
    ·cases e
     have hp' : p < ds'.length := by have := (List.getElem?_eq_some_iff.mp hm).1; omega
     rw [e2, Option.map_some] at h
     simp only [JV, hp, List.getElem?_eq_getElem hp'] at h
     cases h
     exact ⟨p, m, d0, v, rfl, hm, hr, List.getElem?_eq_getElem hp', e2, e3 hr, e4, h1, e5⟩
 have f2n : ∀ {i : Nat}, wQ S.ms rs i = none → (match wQ S.ms rs i with | some p => f' p | none => f i) = f i := fun {i} h => by rw [h]
 have f2s : ∀ {i p : Nat}, wQ S.ms rs i = some p → (match wQ S.ms rs i with | some p => f' p | none => f i) = f' p := fun {i p} h => by rw [h]
 refine ⟨fun i => match wQ S.ms rs i with | some p => f' p | none => f i, ⟨fun i d1 m1 h => ?_, fun i j d1 m1 d2 m2 hij h1 h2 hr b hb hb' => ?_, by rw [V8]; exact A.len⟩, .tmp rv fun b hb => ⟨?_, ?_⟩, ⟨fun b o h qq => ?_, fun b qq => ?_⟩, ⟨?_, fun j d1 m1 h hr => ?_⟩⟩
 ·rcases slot h with ⟨hn, he⟩ | ⟨p, m, d0, v, hp, hm, hr, hd, he, e3, e4, hv, hs⟩
  ·obtain ⟨w, h1, rp⟩ := A.rep i d1 m1 he
   refine ⟨w, h1, ?_⟩
   simp only [f2n hn]
   refine rp.keep fun b o hb qq => S1.same b o hb ?_
   rcases qq with qq | qq
   ·exact .inr ⟨fun z => (cwW b z).2 i d1 m1 he hn qq, by simp⟩
   ·exact .inl qq
  ·obtain ⟨w, h1, rp⟩ := A1.rep p d1 m (yo.mpr ⟨hd, hm⟩)
   rw [List.getElem?_map, hv] at h1
   cases h1
   refine ⟨v, hs, ?_⟩
   simp only [f2s hp]
   have : m.lv = 0 := by cases m <;> first | rfl | (cases hr)
   rw [e4, ← this]
   exact rp
 ·rcases slot h1 with ⟨hn, he⟩ | ⟨p, m, d0, v, hp, hm, hr1, hd, he, e3, e4, hv, hs⟩
  ·simp only [f2n hn] at hb
   rcases slot h2 with ⟨hn2, he2⟩ | ⟨p2, m', d02, v2, hp2, hm2, hr2, hd2, he2, e32, e42, hv2, hs2⟩
   ·simp only [f2n hn2] at hb'
    exact A.dis i j _ _ _ _ hij he he2 hr b hb hb'
   ·simp only [f2s hp2] at hb'
    exact (far b (.inl ⟨p2, d2, m', yo.mpr ⟨hd2, hm2⟩, hr2, hb'⟩)).2 i _ _ he hn hb
  ·simp only [f2s hp] at hb
   rcases slot h2 with ⟨hn2, he2⟩ | ⟨p2, m', d02, v2, hp2, hm2, hr2, hd2, he2, e32, e42, hv2, hs2⟩
   ·simp only [f2n hn2] at hb'
    exact (far b (.inl ⟨p, d1, m, yo.mpr ⟨hd, hm⟩, hr1, hb⟩)).2 j _ _ he2 hn2 hb'
   ·simp only [f2s hp2] at hb'
    have hpp : p ≠ p2 := fun z => by
     subst z
     obtain ⟨_, _, _, z1⟩ := ji hp
     obtain ⟨_, _, _, z2⟩ := ji hp2
     rw [z1] at z2; cases z2
     exact hij rfl
    exact A1.dis p p2 _ _ _ _ hpp (yo.mpr ⟨hd, hm⟩) (yo.mpr ⟨hd2, hm2⟩) (Md.lv_of hr1) b hb hb'
 ·rintro ⟨i, d1, m1, h, hr, z⟩
  rcases slot h with ⟨hn, he⟩ | ⟨p, m, d0, v, hp, hm, hr1, hd, he, e3, e4, hv, hs⟩
  ·simp only [f2n hn] at z
   exact (far b (.inr hb)).2 i _ _ he hn z
  ·simp only [f2s hp] at z
   exact (ng b hb).1 ⟨p, d1, m, yo.mpr ⟨hd, hm⟩, Md.lv_of hr1, z⟩
 ·rintro ⟨i, d1, m1, h, hr, z⟩
  rcases slot h with ⟨hn, he⟩ | ⟨p, m, d0, v, hp, hm, hr1, hd, he, e3, e4, hv, hs⟩
  ·simp only [f2n hn] at z
   exact (far b (.inr hb)).2 i _ _ he hn z
  ·exact absurd e4 hr
 ·refine S1.same b o h ?_
  rcases qq with qq | qq
  ·exact .inl qq
  ·exact .inr ⟨fun z => (cwW b z).1.elim qq.1 qq.2, by simp⟩
 ·rcases qq with ⟨i, d1, m1, h, hr, hb⟩ | qq
  ·rcases slot h with ⟨hn, he⟩ | ⟨p, m, d0, v, hp, hm, hr1, hd, he, e3, e4, hv, hs⟩
   ·simp only [f2n hn] at hb
    exact .inl ⟨i, d1, m1, he, hr, hb⟩
   ·simp only [f2s hp] at hb
    exact (far b (.inl ⟨p, d1, m, yo.mpr ⟨hd, hm⟩, hr1, hb⟩)).1
  ·exact (far b (.inr qq)).1
 ·apply List.ext_getElem?
  intro i
  rw [List.getElem?_map, List.getElem?_map, W3, Nat.zero_add, Option.map_map]
  cases he : env[i]? with
  | none => rfl
  | some x =>
    simp only [Option.map_some, Function.comp, Option.some.injEq]
    unfold JV
    cases hp : wQ S.ms rs i with
    | none => rfl
    | some p =>
      cases hd : ds'[p]? <;> cases x <;> simp [hd]
 ·have hn : wQ S.ms rs j = none := by
   cases hp : wQ S.ms rs j with
   | none => rfl
   | some p =>
     obtain ⟨m, hm, hr1, hs⟩ := ji hp
     rcases cw hm hr1 with ⟨d', e, _⟩ | ⟨i, d0, m0, e1, e2, e3, e4⟩
     ·rw [hs] at e; cases e
     ·rw [hs] at e1; cases e1
      rw [h] at e3; cases e3
      rw [hr] at e4; cases e4
  refine ⟨?_, f2n hn⟩
  rw [W3, Nat.zero_add, h]
  simp only [Option.map_some, JV, hn]
end
section
variable {X : Cx} {k : Nat} {fd : FuncData} {ps : List Str} {ds : List Value} {x : Str} {p pos : Pos} {e : Expr} {es : List Expr} {u : XA} {S : FS}
structure Fn (P : Program) (w : World) (K : PySem.W.Frag) (mg : Str → Option Value) (base : Heap) (x : Str) (k : Nat) (ps : List Str) (S : FS) : Prop where
 ex : ∃ f fd, FnOk P w K mg base CX0 k f fd ps (spOf K S) ∧ mg x = some (.ref f) ∧ PySem.W.keepIn K (.ref f) = true ∧ Binds K fd ps []
 mono : Wj S
theorem wG (F : Fn X.prog X.w X.K X.mg X.base x k ps S) (hr : Room k X.A) (hg : Gl X x) (ha : DA X (e :: es) u) (hdb : (x == ("__debug__" : Str)) = false := by decide)
 (he : starEach (e :: es) X.env = (false, eval e X.env) :: starEach es X.env := by rfl) (hpl : (backTo pos (starEach es X.env)).any (·.1) = false := by rfl) : DE X (.Call (.Name x p) (e :: es) [] pos) (dFn S u) := by
 obtain ⟨f, fd, hF, hm, hk, hb⟩ := F.ex
 refine ⟨PE.imp (pe_call hF hr hg hm hk hb .nil pass0 ha.run hdb he hpl) fun σ H Q q => ?_, fun env Q Q' h q => ha.mono _ _ _ (fun rs e q => ⟨q.1, q.2.1, uD (fun ds q => F.mono _ _ _ (fun d es q => h _ _ q) q) q.2.2⟩) q⟩
 obtain ⟨env, f, A, q⟩ := q
 refine ⟨env, f, A, ha.mono _ _ _ (fun rs e q => ?_) q⟩
 intro vs H1 f1 gs A1 R1 S1 K1
 obtain ⟨o1, o2, q⟩ := q
 obtain ⟨ds, fa, l1, l2, Aa, q, back⟩ := Vm A1 R1 o1 o2 q
 rw [List.append_nil]
 refine ⟨l2, ds, fa, l1, Aa, F.mono _ _ _ (fun d ds' q => ?_) q⟩
 intro v H' f' g l' A' rv ng S' K'
 obtain ⟨f2, A2, R2, S2, K2⟩ := back v d H' f' g ds' l' A' rv ng S' K'
 exact q v H' f2 g A2 R2 (S1.trans S2) (K1.trans K2)
end
end BX
namespace BX
open PySem PySem.Spec PyProof.Rows L2
abbrev XS := En → (En → Prop) → (D → En → Prop) → Prop
abbrev XG := R → En → (En → Prop) → Prop
abbrev XGs := Option Bool → List D → En → (En → Prop) → Prop
structure Kq (σ : L2.St) (env : En) (f : FA) (σ' : L2.St) (env' : En) (f' : FA) : Prop where
 io : ∀ (i : Nat) (d : D), env[i]? = some (some (d, Md.io)) → σ'[i]? = σ[i]? ∧ ∃ d', env'[i]? = some (some (d', Md.io))
 lk : ∀ (i : Nat) (d : D), env[i]? = some (some (d, Md.lk)) → σ'[i]? = σ[i]? ∧ env'[i]? = some (some (d, Md.lk)) ∧ f' i = f i
 lkr : ∀ (i : Nat) (d : D), env'[i]? = some (some (d, Md.lk)) → env[i]? = some (some (d, Md.lk))
theorem Kq.refl {σ : L2.St} {env : En} {f : FA} : Kq σ env f σ env f := ⟨fun i d h => ⟨rfl, d, h⟩, fun i d h => ⟨rfl, h, rfl⟩, fun i d h => h⟩
theorem Kq.trans {σ σ1 σ2 : L2.St} {env e1 e2 : En} {f f1 f2 : FA} (a : Kq σ env f σ1 e1 f1) (b : Kq σ1 e1 f1 σ2 e2 f2) : Kq σ env f σ2 e2 f2 :=
 ⟨fun i d h => let ⟨x, d1, h1⟩ := a.io i d h; let ⟨y, d2, h2⟩ := b.io i d1 h1; ⟨y.trans x, d2, h2⟩, fun i d h => let ⟨x, h1, z1⟩ := a.lk i d h; let ⟨y, h2, z2⟩ := b.lk i d h1; ⟨y.trans x, h2, z2.trans z1⟩, fun i d h => a.lkr i d (b.lkr i d h)⟩
theorem Kp.kq {σ : L2.St} {env e1 : En} {f f1 : FA} (a : Kp env f e1 f1) : Kq σ env f σ e1 f1 :=
 ⟨fun i d h => ⟨rfl, a.slot h⟩, fun i d h => ⟨rfl, a.ros i d .lk h rfl⟩, fun i d h => by
  obtain ⟨d', h'⟩ := a.slot' h
  have := (a.ros i d' .lk h' rfl).1
  rw [h] at this; cases this
  exact h'⟩
def qbq (K : PySem.W.Frag) (σ : L2.St) (H : Hp) (env : En) (f : FA) (P : L2.St → Hp → Prop) : En → Prop := fun env' => ∀ σ' H' f', Abs K σ' H' env' f' → Stp H env f [] H' env' f' [] → Kq σ env f σ' env' f' → P σ' H'
def JZ (K : PySem.W.Frag) (σ : L2.St) (H : Hp) (env : En) (f : FA) (P : VK) : D → En → Prop := fun d env' => ∀ v σ' H' f' g, Abs K σ' H' env' f' → Rep K H' 0 d v g → (∀ b ∈ g, ∀ i d m, env'[i]? = some (some (d, m)) → (m = .io ∨ m = .lk) → b ∉ f' i) → Stp H env f [] H' env' f' g → Kq σ env f σ' env' f' → P v H'
def qcz (K : PySem.W.Frag) (t : XS) : TS := fun D σ H => ∃ env f, Abs K σ H env f ∧ t env (qbq K σ H env f D.nx) (JZ K σ H env f D.rt)
def qbr (t : XS) : Prop := ∀ env nx nx' rt rt', (∀ e, nx e → nx' e) → (∀ d e, rt d e → rt' d e) → t env nx rt → t env nx' rt'
structure DS (X : Cx) (st : Stmt) (t : XS) : Prop where
 run : PS X st (qcz X.K t)
 mono : qbr t
structure DSs (X : Cx) (st : List Stmt) (t : XS) : Prop where
 run : PSs X st (qcz X.K t)
 mono : qbr t
theorem PS.imp {X : Cx} {e : Stmt} {t u : TS} (h : PS X e t) (k : ∀ D σ H, u D σ H → t D σ H) : PS X e u := ⟨fun pins s σ H D I q => h.run pins s σ H D I (k _ _ _ q)⟩
theorem PSs.imp {X : Cx} {e : List Stmt} {t u : TS} (h : PSs X e t) (k : ∀ D σ H, u D σ H → t D σ H) : PSs X e u := ⟨fun pins s σ H D I q => h.run pins s σ H D I (k _ _ _ q)⟩
def sNil : XS := fun env nx _ => nx env
def sSeq (t u : XS) : XS := fun env nx rt => t env (fun e => u e nx rt) rt
def Qx (t : XE) : XS := fun env nx _ => t env fun _ e => nx e
def retR (r : R) (env : En) (k : D → Prop) : Prop := match r with
 | .tmp d => k d
 | .ro c d => c = false ∧ d.imm = true ∧ k d
 | .sl i => match env[i]? with
   | some (some (d, m)) => (match m with
     | .own => True
     | _ => d.imm = true) ∧ k d
   | _ => False
def sRet (t : XE) : XS := fun env _ rt => t env fun r e => retR r e fun d => rt d e
def qbT : XS := fun env _ rt => rt .non env
def sIf (c : XT) (t u : XS) : XS := fun env nx rt => c env fun b e => (b = true → t e nx rt) ∧ (b = false → u e nx rt)
def qg3 : XS := fun _ _ _ => False
theorem qbW {r : R} {env : En} {k k' : D → Prop} (h : ∀ d, k d → k' d) (q : retR r env k) : retR r env k' := by
 cases r with
 | tmp d => exact h _ q
 | ro c d => exact ⟨q.1, q.2.1, h _ q.2.2⟩
 | sl i =>
   unfold retR at q ⊢
   dsimp only at q ⊢
   cases e : env[i]? with
   | none => rw [e] at q; exact q.elim
   | some x => cases x with
     | none => rw [e] at q; exact q.elim
     | some p => rw [e] at q; exact ⟨q.1, h _ q.2⟩
section
variable {K : PySem.W.Frag} {σ σ' : L2.St} {H H1 H' : Hp} {env e1 e2 : En} {f f1 f2 : FA} {G g : List Addr}
theorem qbq.after {P : L2.St → Hp → Prop} {σ1 : L2.St} (S : Stp H env f [] H1 e1 f1 []) (k : Kq σ env f σ1 e1 f1) {e : En} (q : qbq K σ H env f P e) : qbq K σ1 H1 e1 f1 P e := fun σ' H' f' A' S' K' => q σ' H' f' A' (S.trans S') (k.trans K')
theorem JZ.after {P : VK} {σ1 : L2.St} (S : Stp H env f [] H1 e1 f1 []) (k : Kq σ env f σ1 e1 f1) {d : D} {e : En} (q : JZ K σ H env f P d e) : JZ K σ1 H1 e1 f1 P d e := fun v σ' H' f' g A' R' n S' K' => q v σ' H' f' g A' R' n (S.trans S') (k.trans K')
theorem Zg {t : XS} {D : Ends} {σ1 : L2.St} (m : qbr t) (S : Stp H env f [] H1 e1 f1 []) (k : Kq σ env f σ1 e1 f1) (A1 : Abs K σ1 H1 e1 f1) (q : t e1 (qbq K σ H env f D.nx) (JZ K σ H env f D.rt)) : qcz K t D σ1 H1 :=
 ⟨e1, f1, A1, m _ _ _ _ _ (fun e q => q.after S k) (fun d e q => q.after S k) q⟩
theorem qfn {r : R} {v : V} {k : D → Prop} (A : Abs K σ H env f) (h : ResOk K σ H env f r v g) (q : retR r env k) : ∃ d g', Rep K H 0 d v g' ∧ k d ∧ (∀ b ∈ g', b ∈ g ∨ W env f b) ∧ ∀ b ∈ g', ∀ i d m, env[i]? = some (some (d, m)) → (m = .io ∨ m = .lk) → b ∉ f i := by
 unfold retR at q
 split at q
 ·cases h with
  | tmp r n => exact ⟨_, g, r, q, fun b hb => .inl hb, fun b hb i d m e em z => (n b hb).1 ⟨i, d, m, e, by rcases em with em | em <;> subst em <;> rfl, z⟩⟩
 ·obtain ⟨rfl, im, q⟩ := q
  cases h with
  | ro r n =>
    obtain ⟨_, r0⟩ := r.imm (Nat.le_refl _) im
    exact ⟨_, [], r0, q, fun b hb => by simp at hb, fun b hb => by simp at hb⟩
 ·cases h with
  | sl h1 h2 h3 =>
    obtain ⟨w, h4, rp⟩ := A.rep _ _ _ h2
    rw [h1] at h4; cases h4
    rw [h3] at rp
    simp only [h2] at q
    obtain ⟨q1, q⟩ := q
    split at q1
    ·refine ⟨_, _, rp, q, fun b hb => .inr ⟨_, _, _, h2, rfl, hb⟩, fun b hb i d m e em z => ?_⟩
     refine A.dis _ _ _ _ _ _ (fun y => ?_) h2 e rfl b hb z
     subst y
     rw [h2] at e; cases e
     rcases em with em | em <;> cases em
    ·obtain ⟨_, r0⟩ := rp.imm (Nat.zero_le _) q1
     exact ⟨_, [], r0, q, fun b hb => by simp at hb, fun b hb => by simp at hb⟩
end
section
variable {X : Cx} {st : Stmt} {rest : List Stmt} {t u : XS} {e : Expr} {te : XE} {pos : Pos}
theorem xG : DSs X [] sNil := ⟨PSs.imp pss_nil fun D σ H ⟨env, f, A, q⟩ => q σ H f A .refl .refl, fun env nx nx' rt rt' h _ q => h _ q⟩
theorem qH (h1 : DS X st t) (h2 : DSs X rest u) : DSs X (st :: rest) (sSeq t u) := by
 refine ⟨PSs.imp (pss_cons h1.run h2.run) fun D σ H q => ?_, fun env nx nx' rt rt' h h' q => h1.mono _ _ _ _ _ (fun e q => h2.mono _ _ _ _ _ h h' q) h' q⟩
 obtain ⟨env, f, A, q⟩ := q
 refine ⟨env, f, A, h1.mono _ _ _ _ _ (fun e q => ?_) (fun d e q => q) q⟩
 intro σ1 H1 f1 A1 S1 K1
 exact Zg h2.mono S1 K1 A1 q
theorem qT (h1 : DS X st t) : DSs X [st] t := ⟨PSs.imp (pss_one h1.run) fun D σ H q => q, h1.mono⟩
theorem jU (he : DE X e te) (hs : swapsWith e none pos.line X.env = pure false := by rfl) : DS X (.Expr e pos) (Qx te) := by
 refine ⟨PS.imp (ps_expr he.run hs) fun D σ H q => ?_, fun env nx nx' rt rt' h _ q => he.mono _ _ _ (fun r e q => h _ q) q⟩
 obtain ⟨env, f, A, q⟩ := q
 refine ⟨env, f, A, he.mono _ _ _ (fun r e1 q => ?_) q⟩
 intro v H1 f1 g A1 R1 S1 K1
 exact q σ H1 f1 A1 (S1.drop (fun _ z => by simp at z)) K1.kq
theorem zJ (he : DE X e te) : DS X (.Return (some e) pos) (sRet te) := by
 refine ⟨PS.imp (ps_ret he.run) fun D σ H q => ?_, fun env nx nx' rt rt' h h' q => he.mono _ _ _ (fun r e q => qbW (fun d q => h' _ _ q) q) q⟩
 obtain ⟨env, f, A, q⟩ := q
 refine ⟨env, f, A, he.mono _ _ _ (fun r e1 q => ?_) q⟩
 intro v H1 f1 g A1 R1 S1 K1
 obtain ⟨d, g', rp, q, h1, h2⟩ := qfn A1 R1 q
 refine q v σ H1 f1 g' A1 rp h2 ⟨S1.same, fun b qq => ?_⟩ K1.kq
 rcases qq with qq | qq
 ·exact S1.own b (.inl qq)
 ·rcases h1 b qq with z | z
  ·exact S1.own b (.inr z)
  ·exact S1.own b (.inl z)
theorem qcW : DS X (.Return none pos) qbT := ⟨PS.imp ps_retN fun D σ H ⟨env, f, A, q⟩ => q _ σ H f [] A .non (fun b hb => by simp at hb) .refl .refl, fun env nx nx' rt rt' h h' q => h' _ _ q⟩
theorem jV {c : Expr} {a b : List Stmt} {tc : XT} (hc : DT X c tc) (ha : DSs X a t) (hb : DSs X b u) : DS X (.If c a b pos) (sIf tc t u) := by
 refine ⟨PS.imp (ps_if hc.run ha.run hb.run) fun D σ H q => ?_, fun env nx nx' rt rt' h h' q => hc.mono _ _ _ (fun b e q => ⟨fun z => ha.mono _ _ _ _ _ h h' (q.1 z), fun z => hb.mono _ _ _ _ _ h h' (q.2 z)⟩) q⟩
 obtain ⟨env, f, A, q⟩ := q
 refine ⟨env, f, A, hc.mono _ _ _ (fun b e1 q => ?_) q⟩
 intro H1 f1 A1 S1 K1
 cases b with
 | true => rw [if_pos rfl]; exact Zg ha.mono S1 K1.kq A1 (q.1 rfl)
 | false => rw [if_neg Bool.false_ne_true]; exact Zg hb.mono S1 K1.kq A1 (q.2 rfl)
end
inductive SrcOk (K : PySem.W.Frag) (σ : L2.St) (H : Hp) (env : En) (f : FA) : R → V → List Addr → Prop
 | tmp {d : D} {v : V} {g : List Addr} : Rep K H 0 d v g → (∀ b ∈ g, ¬ L0 env f b ∧ ¬ Ro env f b) → SrcOk K σ H env f (.tmp d) v g
 | ro {c : Bool} {d : D} {v : V} {g : List Addr} : Rep K H (clv c) d v g → (∀ b ∈ g, ¬ L0 env f b) → SrcOk K σ H env f (.ro c d) v []
 | sl {i : Nat} {v : V} {d : D} {m : Md} : σ[i]? = some (some v) → env[i]? = some (some (d, m)) → m.lv = 0 → SrcOk K σ H env f (.sl i) v []
theorem ResOk.src {K : PySem.W.Frag} {σ : L2.St} {H : Hp} {env : En} {f : FA} {r : R} {v : V} {g : List Addr} (A : Abs K σ H env f) (h : ResOk K σ H env f r v g) : SrcOk K σ H env f r v g := by
 cases h with
 | tmp r n => exact .tmp r n
 | ro r n => exact .ro r fun b hb z => A.apart z (n b hb)
 | sl a b c => exact .sl a b c
def setOk (env : En) (i : Nat) : Bool := match env[i]? with
 | some (some (_, .io)) => false
 | some (some (_, .lk)) => false
 | some _ => true
 | none => false
def roMd : Bool → Md
 | false => .ro
 | true => .cst
def gN (i : Nat) : XG := fun r env k => setOk env i = true ∧ match r with
 | .tmp d => k (env.set i (some (d, .own)))
 | .ro c d => k (env.set i (some (d, roMd c)))
 | .sl j => match env[j]? with
   | some (some (d, _)) => d.imm = true ∧ k (env.set i (some (d, .own)))
   | _ => False
def VG (t : XG) : Prop := ∀ r env k k', (∀ e, k e → k' e) → t r env k → t r env k'
def qib (t : XGs) : Prop := ∀ kd ds env k k', (∀ e, k e → k' e) → t kd ds env k → t kd ds env k'
def R.isRo : R → Bool
 | .ro _ _ => true
 | _ => false
def Same (ts : List Nat) (σ : L2.St) (env : En) (f : FA) (σ' : L2.St) (env' : En) (f' : FA) : Prop := σ'.length = σ.length ∧ env'.length = env.length ∧ ∀ j, j ∉ ts → σ'[j]? = σ[j]? ∧ env'[j]? = env[j]? ∧ f' j = f j
def qgr (K : PySem.W.Frag) (σ : L2.St) (H : Hp) (env : En) (f : FA) (g : List Addr) (rk : Bool) (ts : List Nat) (P : L2.St → Hp → Prop) : En → Prop := fun env' => ∀ σ' f', Abs K σ' H env' f' → Stp H env f g H env' f' [] → Kq σ env f σ' env' f' →
 (∀ b, L0 env' f' b → L0 env f b ∨ b ∈ g) → (rk = false → ∀ b, Ro env' f' b → Ro env f b) → Same ts σ env f σ' env' f' → P σ' H
def qfS (K : PySem.W.Frag) (ts : List Nat) (t : XG) : TG := fun v σ H Q => ∃ env f r g, Abs K σ H env f ∧ SrcOk K σ H env f r v g ∧ t r env (qgr K σ H env f g r.isRo ts Q)
inductive KOk (K : PySem.W.Frag) (H : Hp) (env : En) (f : FA) : Option Bool → List D → List V → List Addr → Prop
 | tmp {ds : List D} {vs : List V} {g : List Addr} : Reps K H 0 ds vs g → (∀ b ∈ g, ¬ L0 env f b ∧ ¬ Ro env f b) → KOk K H env f none ds vs g
 | ro {c : Bool} {ds : List D} {vs : List V} {g : List Addr} : Reps K H (clv c) ds vs g → (∀ b ∈ g, ¬ L0 env f b) → KOk K H env f (some c) ds vs []
def mkI (kd : Option Bool) (d : D) : R := match kd with
 | none => .tmp d
 | some c => mkRo c d
def qeR (K : PySem.W.Frag) (ts : List Nat) (t : XGs) : TGs := fun vs σ H Q => ∃ env f kd ds g, Abs K σ H env f ∧ KOk K H env f kd ds vs g ∧ t kd ds env (qgr K σ H env f g kd.isSome ts Q)
structure DG (X : Cx) (e : Expr) (ts : List Nat) (t : XG) : Prop where
 run : PG X e (qfS X.K ts t)
 mono : VG t
structure DGs (X : Cx) (e : List Expr) (ts : List Nat) (t : XGs) : Prop where
 run : PGs X e (qeR X.K ts t)
 mono : qib t
theorem PG.imp {X : Cx} {e : Expr} {t u : TG} (h : PG X e t) (k : ∀ v σ H Q, u v σ H Q → t v σ H Q) : PG X e u := ⟨fun pins s σ H v w Q I r q => h.run pins s σ H v w Q I r (k _ _ _ _ q)⟩
theorem PGs.imp {X : Cx} {e : List Expr} {t u : TGs} (h : PGs X e t) (k : ∀ v σ H Q, u v σ H Q → t v σ H Q) : PGs X e u := ⟨fun pins s σ H v w Q I r q => h.run pins s σ H v w Q I r (k _ _ _ _ q)⟩
def vR : XGs := fun _ ds env k => match ds with
 | [] => k env
 | _ => False
def yg (g : XG) (gs : XGs) : XGs := fun kd ds env k => match ds with
 | d :: ds => g (mkI kd d) env fun e => gs kd ds e k
 | [] => False
def kdOf (r : R) (xs : List D) (k : Option Bool → Prop) : Prop := match r with
 | .tmp _ => k none
 | .ro c _ => k (some c)
 | .sl _ => immL xs = true ∧ k none
def gT (n : Nat) (gs : XGs) : XG := fun r env k => rd 2 r env fun d => match d with
 | .tup xs => xs.length = n ∧ kdOf r xs fun kd => gs kd xs env k
 | _ => False
section
variable {K : PySem.W.Frag} {σ : L2.St} {H : Hp} {env : En} {f : FA} {g : List Addr} {i : Nat} {r : R} {v : V} {d : D}
theorem qdE (h : setOk env i = true) : i < env.length := by
 unfold setOk at h
 cases e : env[i]? with
 | none => rw [e] at h; cases h
 | some x => exact (List.getElem?_eq_some_iff.mp e).1
theorem V1 (h : setOk env i = true) {m : Md} (e : env[i]? = some (some (d, m))) : m ≠ .io ∧ m ≠ .lk := by
 unfold setOk at h
 rw [e] at h
 cases m <;> first | (cases h; done) | exact ⟨(fun z => nomatch z), (fun z => nomatch z)⟩
theorem Abs.put (A : Abs K σ H env f) (so : setOk env i = true) {m : Md} (rp : Rep K H m.lv d v g) (hm : m ≠ .io ∧ m ≠ .lk) (h0 : m.lv = 0 → ∀ b ∈ g, ¬ L0 env f b ∧ ¬ Ro env f b) (h1 : ∀ b ∈ g, ¬ L0 env f b) {G : List Addr} (hG : m.lv = 0 → ∀ b ∈ g, b ∈ G) :
 Abs K (σ.set i (some v)) H (env.set i (some (d, m))) (fset f i g) ∧ Stp H env f G H (env.set i (some (d, m))) (fset f i g) [] ∧ Kq σ env f (σ.set i (some v)) (env.set i (some (d, m))) (fset f i g) ∧
  (∀ b, L0 (env.set i (some (d, m))) (fset f i g) b → L0 env f b ∨ b ∈ G) ∧ (m.lv = 0 → ∀ b, Ro (env.set i (some (d, m))) (fset f i g) b → Ro env f b) ∧ Same [i] σ env f (σ.set i (some v)) (env.set i (some (d, m))) (fset f i g) := by
 have hi := qdE so
 have hσ : i < σ.length := by rw [← A.len]; exact hi
 have ati : ∀ {d1 : D} {m1 : Md}, (env.set i (some (d, m)))[i]? = some (some (d1, m1)) → d1 = d ∧ m1 = m := fun {d1 m1} h => by
  rw [jm hi] at h; cases h; exact ⟨rfl, rfl⟩
 have get : ∀ {j : Nat} {d1 : D} {m1 : Md}, j ≠ i → (env.set i (some (d, m)))[j]? = some (some (d1, m1)) → env[j]? = some (some (d1, m1)) := fun {j d1 m1} hj h => by rwa [yS hj] at h
 refine ⟨⟨fun j d1 m1 h => ?_, fun j k d1 m1 d2 m2 hjk e1 e2 hl b hb z => ?_, by rw [List.length_set, List.length_set]; exact A.len⟩, ⟨fun b o h _ => h, fun b q => ?_⟩, ⟨fun j d1 h => ?_, fun j d1 h => ?_, fun j d1 h => ?_⟩, fun b q => ?_, fun hl b q => ?_, by rw [List.length_set], by rw [List.length_set], fun j hj => ?_⟩
 ·by_cases hj : j = i
  ·subst hj
   obtain ⟨rfl, rfl⟩ := ati h
   exact ⟨v, List.getElem?_set_self hσ, by rw [yE]; exact rp⟩
  ·obtain ⟨w, h2, h3⟩ := A.rep j d1 m1 (get hj h)
   exact ⟨w, by rw [List.getElem?_set_ne (Ne.symm hj)]; exact h2, by rw [wV hj]; exact h3⟩
 ·by_cases hj : j = i
  ·subst hj
   obtain ⟨rfl, rfl⟩ := ati e1
   rw [yE] at hb
   rw [wV (Ne.symm hjk)] at z
   have e3 := get (Ne.symm hjk) e2
   by_cases hl2 : m2.lv = 0
   ·exact (h0 hl b hb).1 ⟨k, d2, m2, e3, hl2, z⟩
   ·exact (h0 hl b hb).2 ⟨k, d2, m2, e3, hl2, z⟩
  ·rw [wV hj] at hb
   have e3 := get hj e1
   by_cases hk : k = i
   ·subst hk
    rw [yE] at z
    exact h1 b z ⟨j, d1, m1, e3, hl, hb⟩
   ·rw [wV hk] at z
    exact A.dis j k d1 m1 d2 m2 hjk e3 (get hk e2) hl b hb z
 ·rcases q with ⟨j, d1, m1, h, hr, hb⟩ | q
  ·by_cases hj : j = i
   ·subst hj
    obtain ⟨rfl, rfl⟩ := ati h
    rw [yE] at hb
    exact .inr (.inl (hG (Md.lv_of hr) b hb))
   ·rw [wV hj] at hb
    exact .inl ⟨j, d1, m1, get hj h, hr, hb⟩
  ·simp at q
 ·have hj : j ≠ i := fun z => by subst z; exact (V1 so h).1 rfl
  exact ⟨List.getElem?_set_ne (Ne.symm hj), d1, by rw [yS hj]; exact h⟩
 ·have hj : j ≠ i := fun z => by subst z; exact (V1 so h).2 rfl
  exact ⟨List.getElem?_set_ne (Ne.symm hj), by rw [yS hj]; exact h, wV hj⟩
 ·by_cases hj : j = i
  ·subst hj
   obtain ⟨_, z⟩ := ati h
   exact absurd z.symm hm.2
  ·exact get hj h
 ·obtain ⟨j, d1, m1, h, hr, hb⟩ := q
  by_cases hj : j = i
  ·subst hj
   obtain ⟨rfl, rfl⟩ := ati h
   rw [yE] at hb
   exact .inr (hG hr b hb)
  ·rw [wV hj] at hb
   exact .inl ⟨j, d1, m1, get hj h, hr, hb⟩
 ·obtain ⟨j, d1, m1, h, hr, hb⟩ := q
  by_cases hj : j = i
  ·subst hj
   obtain ⟨rfl, rfl⟩ := ati h
   exact absurd hl hr
  ·rw [wV hj] at hb
   exact ⟨j, d1, m1, get hj h, hr, hb⟩
 ·have hj' : j ≠ i := fun z => hj (by rw [z]; exact List.mem_cons_self ..)
  exact ⟨List.getElem?_set_ne (Ne.symm hj'), yS hj', wV hj'⟩
theorem qhH {k : En → Prop} (A : Abs K σ H env f) (h : SrcOk K σ H env f r v g) (q : gN i r env k) : ∃ env' f', k env' ∧ Abs K (σ.set i (some v)) H env' f' ∧ Stp H env f g H env' f' [] ∧ Kq σ env f (σ.set i (some v)) env' f' ∧
 (∀ b, L0 env' f' b → L0 env f b ∨ b ∈ g) ∧ (r.isRo = false → ∀ b, Ro env' f' b → Ro env f b) ∧ Same [i] σ env f (σ.set i (some v)) env' f' := by
 obtain ⟨so, q⟩ := q
 cases h with
 | tmp rp n =>
   obtain ⟨a, b, c, d, e, z⟩ := A.put (m := .own) (G := g) so rp ⟨(fun z => nomatch z), (fun z => nomatch z)⟩ (fun _ => n) (fun b hb => (n b hb).1) fun _ b hb => hb
   exact ⟨_, _, q, a, b, c, d, fun _ => e rfl, z⟩
 | @ro c _ _ _ rp n =>
   obtain ⟨a, b, c, d, e, z⟩ := A.put (m := roMd c) (G := []) so (by cases c <;> exact rp) (by cases c <;> exact ⟨(fun z => nomatch z), (fun z => nomatch z)⟩) (fun z => by cases c <;> cases z) n (fun z => by cases c <;> cases z)
   exact ⟨_, _, q, a, b, c, d, (fun z => nomatch z), z⟩
 | sl h1 h2 h3 =>
   simp only [h2] at q
   obtain ⟨w, h4, rp⟩ := A.rep _ _ _ h2
   rw [h1] at h4; cases h4
   obtain ⟨_, r0⟩ := rp.imm (by rw [h3]; exact Nat.zero_le _) q.1
   obtain ⟨a, b, c, d, e, z⟩ := A.put (m := .own) (G := []) so r0 ⟨(fun z => nomatch z), (fun z => nomatch z)⟩ (fun _ b hb => by simp at hb) (fun b hb => by simp at hb) fun _ b hb => hb
   exact ⟨_, _, q.2, a, b, c, d, fun _ => e rfl, z⟩
end
section
variable {X : Cx} {pos : Pos}
theorem qK {i : Nat} {x : Str} (hN : X.N.Nodup) (hi : X.N[i]? = some x := by rfl) (hx : Loc X.env.scope x := by first | exact .inl rfl | exact .inr rfl) (hf : X.fn x = true ∨ X.env.scope.names.lookup x = some .local := by first | exact .inl rfl | exact .inr rfl | assumption) : DG X (.Name x pos) [i] (gN i) := by
 refine ⟨PG.imp (pg_name hN hi hx hf) fun v σ H Q q => ?_, fun r env k k' h q => ?_⟩
 ·obtain ⟨env, f, r, g, A, R1, q⟩ := q
  obtain ⟨env', f', q, A', S', K', L', O', M'⟩ := qhH A R1 q
  exact q _ f' A' S' K' L' O' M'
 ·obtain ⟨so, q⟩ := q
  refine ⟨so, ?_⟩
  cases r with
  | tmp d => exact h _ q
  | ro c d => exact h _ q
  | sl j =>
    dsimp only at q ⊢
    cases e : env[j]? with
    | none => rw [e] at q; exact q.elim
    | some x => cases x with
      | none => rw [e] at q; exact q.elim
      | some p => rw [e] at q; exact ⟨q.1, h _ q.2⟩
end
end BX
namespace BX
open PySem PySem.Spec PyProof.Rows L2
section
variable {K : PySem.W.Frag} {σ σ' : L2.St} {H : Hp} {env e1 : En} {f f1 : FA} {g g1 g2 : List Addr}
theorem qfj {kd : Option Bool} {d : D} {v : V} {ds : List D} {vs : List V} (h : KOk K H env f kd (d :: ds) (v :: vs) g) : ∃ g1 g2, SrcOk K σ H env f (mkI kd d) v g1 ∧ KOk K H env f kd ds vs g2 ∧ (∀ b ∈ g1, b ∈ g) ∧ (∀ b ∈ g2, b ∈ g ∧ b ∉ g1) ∧ (kd.isSome = false → (mkI kd d).isRo = false) := by
 cases h with
 | tmp r n => cases r with
   | cons r t nd => exact ⟨_, _, .tmp r fun b hb => n b (List.mem_append_left _ hb), .tmp t fun b hb => n b (List.mem_append_right _ hb), fun b hb => List.mem_append_left _ hb, fun b hb => ⟨List.mem_append_right _ hb, fun z => nd rfl b z hb⟩, fun _ => rfl⟩
 | @ro c _ _ g0 r n => cases r with
   | @cons _ _ gf _ _ gg r t nd =>
     have n1 : ∀ b ∈ gf, ¬ L0 env f b := fun b hb => n b (List.mem_append_left _ hb)
     have k2 : KOk K H env f (some c) ds vs [] := KOk.ro t fun b hb => n b (List.mem_append_right _ hb)
     have s : SrcOk K σ H env f (mkRo c d) v [] := by
      cases d with
      | int i => exact .tmp r.int0 qF
      | bl i => exact .tmp r.bl0 qF
      | str i => exact .tmp r.str0 qF
      | non => exact .tmp r.non0 qF
      | _ => exact .ro r n1
     exact ⟨[], [], s, k2, fun b hb => hb, fun b hb => by simp at hb, (fun z => nomatch z)⟩
theorem KOk.wait {kd : Option Bool} {ds : List D} {vs : List V} {G : List Addr} (h : KOk K H env f kd ds vs g2) (A1 : Abs K σ' H e1 f1) (L : ∀ b, L0 e1 f1 b → L0 env f b ∨ b ∈ G) (nG : ∀ b ∈ g2, b ∉ G) (hG : kd.isSome = true → ∀ b ∈ G, False) (O : kd.isSome = false → ∀ b, Ro e1 f1 b → Ro env f b) : KOk K H e1 f1 kd ds vs g2 := by
 cases h with
 | tmp r n => exact .tmp r fun b hb => ⟨fun z => (L b z).elim (n b hb).1 (nG b hb), fun z => (n b hb).2 (O rfl b z)⟩
 | ro r n => exact .ro r fun b hb z => (L b z).elim (n b hb) (hG rfl b)
theorem KOk.ro_nil {kd : Option Bool} {ds : List D} {vs : List V} (h : KOk K H env f kd ds vs g) (e : kd.isSome = true) : g = [] := by
 cases h with
 | tmp r n => cases e
 | ro r n => rfl
end
section
variable {X : Cx} {pos : Pos}
theorem jw : DGs X [] [] vR := by
 refine ⟨PGs.imp pgs_nil fun vs σ H Q q => ?_, fun kd ds env k k' h q => ?_⟩
 ·obtain ⟨env, f, kd, ds, g, A, k, q⟩ := q
  cases ds with
  | cons _ _ => exact q.elim
  | nil =>
    cases k with
    | tmp r n => cases r; exact ⟨rfl, q σ f A .refl .refl (fun b z => .inl z) (fun _ b z => z) ⟨rfl, rfl, fun _ _ => ⟨rfl, rfl, rfl⟩⟩⟩
    | ro r n => cases r; exact ⟨rfl, q σ f A .refl .refl (fun b z => .inl z) (fun _ b z => z) ⟨rfl, rfl, fun _ _ => ⟨rfl, rfl, rfl⟩⟩⟩
 ·cases ds with
  | cons _ _ => exact q.elim
  | nil => exact h _ q
theorem wC {e : Expr} {es : List Expr} {t : XG} {u : XGs} {ts us : List Nat} (h1 : DG X e ts t) (h2 : DGs X es us u) (hs : (assignEach (e :: es) X.env).map (·.2) = assign e X.env :: (assignEach es X.env).map (·.2) := by rfl) : DGs X (e :: es) (ts ++ us) (yg t u) := by
 refine ⟨PGs.imp (pgs_cons h1.run h2.run hs) fun vs σ H Q q => ?_, fun kd ds env k k' h q => ?_⟩
 ·obtain ⟨env, f, kd, ds, g, A, k, q⟩ := q
  cases ds with
  | nil => exact q.elim
  | cons d ds =>
    have hv : ∃ v vr, vs = v :: vr := by
     cases k with
     | tmp r n => cases r; exact ⟨_, _, rfl⟩
     | ro r n => cases r; exact ⟨_, _, rfl⟩
    obtain ⟨v, vr, rfl⟩ := hv
    obtain ⟨g1, g2, s1, k2, i1, i2, hr⟩ := qfj (σ := σ) k
    refine ⟨v, vr, rfl, env, f, _, g1, A, s1, h1.mono _ _ _ _ (fun e1 q => ?_) q⟩
    intro σ1 f1 A1 S1 K1 L1 O1 M1
    refine ⟨e1, f1, kd, ds, g2, A1, k2.wait A1 L1 (fun b hb z => (i2 b hb).2 z) (fun e b hb => by
     have := i1 b hb
     rw [k.ro_nil e] at this
     simp at this) (fun e => O1 (hr e)), h2.mono _ _ _ _ _ (fun e2 q => ?_) q⟩
    intro σ2 f2 A2 S2 K2 L2' O2 M2
    refine q σ2 f2 A2 ?_ (K1.trans K2) (fun b z => ?_) (fun e b z => O1 (hr e) b (O2 e b z)) ⟨M2.1.trans M1.1, M2.2.1.trans M1.2.1, fun j hj => ?_⟩
    ·refine ⟨fun b o h _ => h, fun b z => ?_⟩
     rcases S2.own b z with z | z | z
     ·rcases S1.own b (.inl z) with z | z | z
      ·exact .inl z
      ·exact .inr (.inl (i1 b z))
      ·exact .inr (.inr z)
     ·exact .inr (.inl (i2 b z).1)
     ·exact .inr (.inr z)
    ·rcases L2' b z with z | z
     ·exact (L1 b z).imp_right (i1 b)
     ·exact .inr (i2 b z).1
    ·obtain ⟨a1, a2, a3⟩ := M1.2.2 j fun z => hj (List.mem_append_left _ z)
     obtain ⟨b1, b2, b3⟩ := M2.2.2 j fun z => hj (List.mem_append_right _ z)
     exact ⟨b1.trans a1, b2.trans a2, b3.trans a3⟩
 ·cases ds with
  | nil => exact q.elim
  | cons d ds => exact h1.mono _ _ _ _ (fun e q => h2.mono _ _ _ _ _ h q) q
theorem u6 {es : List Expr} {k : Nat} {t : XGs} {n : Nat} {ts : List Nat} (hx : Ok X) (h : DGs X es ts t) (hn : (assignEach es X.env).length = n := by rfl) (hst : (assignEach es X.env).findIdx? (·.1) = none := by rfl) : DG X (.Tuple es k pos) ts (gT n t) := by
 refine ⟨PG.imp (pg_tup hx.calm h.run hn hst) fun v σ H Q q => ?_, fun r env k k' w q => ?_⟩
 ·obtain ⟨env, f, r, g, A, s, q⟩ := q
  have go : ∀ {lv : Nat} {xs : List D} {gg : List Addr}, Rep X.K H lv (.tup xs) v gg → xs.length = n → (∀ vs, Reps X.K H lv xs vs gg → ∃ kd g', KOk X.K H env f kd xs vs g' ∧ (∀ b ∈ g', b ∈ g) ∧ (r.isRo = false → kd.isSome = false) ∧ t kd xs env (qgr X.K σ H env f g r.isRo ts Q)) →
   ∃ a xs, v = .ref a ∧ SqT X.K H a xs ∧ xs.length = n ∧ qeR X.K ts t xs σ H Q := fun {lv xs gg} rp hl k => by
   obtain ⟨a, vs, rfl, ha, rr⟩ := rp.tupleSq
   obtain ⟨kd, g', kk, hg', hro, q⟩ := k vs rr
   refine ⟨a, vs, rfl, ha, by rw [← rr.len]; exact hl, env, f, kd, xs, g', A, kk, h.mono _ _ _ _ _ (fun e1 q => ?_) q⟩
   intro σ1 f1 A1 S1 K1 L1 O1 M1
   exact q σ1 f1 A1 (S1.more hg') K1 (fun b z => (L1 b z).imp_right (hg' b)) (fun e => O1 (hro e)) M1
  unfold gT rd at q
  cases s with
  | @tmp d _ _ rp nn =>
    simp only [R.data] at q
    cases d with
    | tup xs => exact go rp q.1 fun vs rr => ⟨none, g, .tmp rr nn, fun b hb => hb, fun _ => rfl, q.2⟩
    | _ => exact q.elim
  | @ro c d _ g0 rp nn =>
    unfold R.data at q
    cases e : roOk c 2 with
    | false => simp only [e] at q
    | true =>
      simp only [e] at q
      cases d with
      | tup xs => exact go rp q.1 fun vs rr => ⟨some c, [], .ro rr nn, fun b hb => hb, (fun z => nomatch z), q.2⟩
      | _ => exact q.elim
  | @sl i _ d m h1 h2 h3 =>
    obtain ⟨w, h4, rp⟩ := A.rep _ _ _ h2
    rw [h1] at h4; cases h4
    unfold R.data at q
    simp only [h2] at q
    cases e : m.okL 2 with
    | false => simp only [e] at q
    | true =>
      simp only [e] at q
      cases d with
      | tup xs =>
        refine go rp q.1 fun vs rr => ?_
        obtain ⟨_, r0⟩ := rr.imm (by rw [h3]; exact Nat.zero_le _) q.2.1
        exact ⟨none, [], .tmp r0 qF, fun b hb => hb, fun _ => rfl, q.2.2⟩
      | _ => exact q.elim
 ·refine qQ (fun d q => ?_) q
  cases d with
  | tup xs =>
    refine ⟨q.1, ?_⟩
    cases r with
    | tmp _ => exact h.mono _ _ _ _ _ w q.2
    | ro c _ => exact h.mono _ _ _ _ _ w q.2
    | sl _ => exact ⟨q.2.1, h.mono _ _ _ _ _ w q.2.2⟩
  | _ => exact q.elim
def sAsg (t : XE) (g : XG) : XS := fun env nx _ => t env fun r e => g r e nx
theorem qaJ {K : PySem.W.Frag} {te : XE} {g : XG} {ts : List Nat} (m1 : xr te) (m2 : VG g) {D : Ends} {σ : L2.St} {H : Hp} (q : qcz K (sAsg te g) D σ H) : tAsg (jk K te) (qfS K ts g) D σ H := by
 obtain ⟨env, f, A, q⟩ := q
 refine ⟨env, f, A, m1 _ _ _ (fun r e1 q => ?_) q⟩
 intro v H1 f1 g1 A1 R1 S1 K1
 refine ⟨e1, f1, r, g1, A1, R1.src A1, m2 _ _ _ _ (fun e2 q => ?_) q⟩
 intro σ2 f2 A2 S2 K2 _ _ _
 exact q σ2 H1 f2 A2 (S1.trans S2) (K1.kq.trans K2)
theorem X5 {te : XE} {g : XG} (m1 : xr te) (m2 : VG g) : qbr (sAsg te g) := fun env nx nx' rt rt' h _ q => m1 _ _ _ (fun r e q => m2 _ _ _ _ h q) q
theorem Wx {tg e : Expr} {te : XE} {g : XG} {ts : List Nat} (he : DE X e te) (hg : DG X tg ts g) (hs : swapsWithSole [tg] e pos.line X.env = pure false := by rfl) (hw : swappedStores [tg] e X.env = pure none := by rfl)
 (h1 : (assignEach [tg] X.env).map (·.2) = [assign tg X.env] := by rfl) : DS X (.Assign [tg] e pos) (sAsg te g) :=
 ⟨PS.imp (ps_asg he.run hg.run hs hw h1) fun D σ H q => qaJ he.mono hg.mono q, X5 he.mono hg.mono⟩
theorem wg {i : Nat} {x : Str} {e : Expr} {te : XE} {pos' : Pos} (hN : X.N.Nodup) (he : DE X e te) (hi : X.N[i]? = some x := by rfl) (hx : Loc X.env.scope x := by first | exact .inl rfl | exact .inr rfl) (hs : swapsWith e (some (.Name x pos')) pos.line X.env = pure false := by rfl)
 (hf : X.fn x = true ∨ X.env.scope.names.lookup x = some .local := by first | exact .inl rfl | exact .inr rfl | assumption) : DS X (.Assign [.Name x pos'] e pos) (sAsg te (gN i)) := by
 have dg : DG X (.Name x pos') [i] (gN i) := qK hN hi hx hf
 refine ⟨PS.imp (ps_set hN hi hx he.run hs hf) fun D σ H q => ?_, X5 he.mono dg.mono⟩
 have h := qaJ (ts := [i]) he.mono dg.mono q
 obtain ⟨env, f, A, h⟩ := h
 refine ⟨env, f, A, he.mono _ _ _ (fun r e1 q => ?_) h⟩
 intro v H1 f1 g1 A1 R1 S1 K1
 obtain ⟨env2, f2, r2, g2, A2, R2, q2⟩ := q v H1 f1 g1 A1 R1 S1 K1
 obtain ⟨env', f', q, A', S', K', L', O', M'⟩ := qhH A2 R2 q2
 exact q _ f' A' S' K' L' O' M'
end
end BX
namespace BX
open PySem PySem.Spec PyProof.Rows L2
abbrev Lok := Option (Nat × Md)
abbrev XI := En → (List D → Option Bool → Lok → En → Prop) → Prop
def qgt (t : XI) : Prop := ∀ env k k', (∀ ds kd lk e, k ds kd lk e → k' ds kd lk e) → t env k → t env k'
def Near (H0 : Hp) (P : List Addr) (H : Hp) : Prop := ∀ b o, H0 b = some o → (b ∈ P ∨ Mu o = false) → H b = some o
def Item (K : PySem.W.Frag) (H : Hp) (P : List Addr) (kd : Option Bool) (d : D) (x : V) : Prop := match kd with
 | none => Rep K H 0 d x []
 | some c => ∃ g, Rep K H (clv c) d x g ∧ ∀ b ∈ g, b ∈ P
structure Wk (K : PySem.W.Frag) (J : It) (ds : List D) (kd : Option Bool) (H0 : Hp) (P : List Addr) : Prop where
 go : ∀ i H, Near H0 P H → i < ds.length → J.go i H
 stop : ∀ i H, Near H0 P H → ds.length ≤ i → J.stop i H
 yld : ∀ (i : Nat) (H : Hp) (x : V) (H' : Hp) (d : D), Near H0 P H → ds[i]? = some d → J.yld i H x H' → (∀ b o, H b = some o → H' b = some o) ∧ Item K H' P kd d x
inductive Lk (env : En) : Lok → En → Prop
 | none : Lk env none env
 | some {i : Nat} {d : D} {m : Md} : env[i]? = some (some (d, m)) → m.lv = 0 → Lk env (some (i, m)) (env.set i (some (d, .lk)))
def qh9 (K : PySem.W.Frag) (σ : L2.St) (H : Hp) (env : En) (f : FA) (R : It → Hp → Prop) : List D → Option Bool → Lok → En → Prop := fun ds kd lk e1 =>
 ∀ J H1 f1 P env', Abs K σ H1 env' f1 → Stp H env f [] H1 env' f1 [] → Kp env f env' f1 → Lk env' lk e1 → Wk K J ds kd H1 P → (∀ b ∈ P, (∃ o, H1 b = some o) ∧ ¬ W e1 f1 b) → (kd.isSome = true → ∀ b ∈ P, ¬ L0 e1 f1 b) → R J H1
def qhC (K : PySem.W.Frag) (t : XI) : TI := fun σ H R => ∃ env f, Abs K σ H env f ∧ t env (qh9 K σ H env f R)
structure DI (X : Cx) (tg it : Expr) (t : XI) : Prop where
 run : PI X tg it (qhC X.K t)
 mono : qgt t
theorem PI.imp {X : Cx} {tg it : Expr} {t u : TI} (h : PI X tg it t) (k : ∀ σ H R, u σ H R → t σ H R) : PI X tg it u := ⟨fun pins s σ H R I q => h.run pins s σ H R I (k _ _ _ q)⟩
def thaw (lk : Lok) (env : En) (k : En → Prop) : Prop := match lk with
 | none => k env
 | some (i, m) => match env[i]? with
   | some (some (d, .lk)) => k (env.set i (some (d, m)))
   | _ => False
theorem Ze {lk : Lok} {env : En} {k k' : En → Prop} (h : ∀ e, k e → k' e) (q : thaw lk env k) : thaw lk env k' := by
 unfold thaw at q ⊢
 split at q
 ·exact h _ q
 ·split at q
  ·simp only [*] <;> exact h _ q
  ·exact q.elim
def forL (g : XG) (tb : XS) (kd : Option Bool) : List D → XS
 | [], env, nx, _ => nx env
 | d :: ds, env, nx, rt => g (mkI kd d) env fun e1 => tb e1 (fun e2 => forL g tb kd ds e2 nx rt) rt
def sFor (it : XI) (g : XG) (tb : XS) : XS := fun env nx rt => it env fun ds kd lk e1 => forL g tb kd ds e1 (fun e2 => thaw lk e2 nx) (fun d e2 => thaw lk e2 fun e3 => rt d e3)
theorem Jv {g : XG} {tb : XS} {kd : Option Bool} (mg : VG g) (mb : qbr tb) : ∀ ds : List D, qbr (forL g tb kd ds)
 | [], env, nx, nx', rt, rt', h, h', q => h _ q
 | d :: ds, env, nx, nx', rt, rt', h, h', q => mg _ _ _ _ (fun e1 q => mb _ _ _ _ _ (fun e2 q => Jv mg mb ds _ _ _ _ _ h h' q) h' q) q
section
variable {K : PySem.W.Frag} {σ σ' : L2.St} {H H1 H' : Hp} {env env' e1 e2 : En} {f f1 f2 : FA} {lk : Lok}
theorem Q9 {i : Nat} {d : D} {m m' : Md} (A : Abs K σ H env f) (e : env[i]? = some (some (d, m))) (h : m.lv = 0) (h' : m'.lv = 0) : Abs K σ H (env.set i (some (d, m'))) f := by
 have hi : i < env.length := (List.getElem?_eq_some_iff.mp e).1
 have get : ∀ {j : Nat} {d1 : D} {m1 : Md}, (env.set i (some (d, m')))[j]? = some (some (d1, m1)) → ∃ m2, env[j]? = some (some (d1, m2)) ∧ m2.lv = m1.lv := fun {j d1 m1} q => by
  by_cases hj : j = i
  ·subst hj
   rw [jm hi] at q; cases q
   exact ⟨m, e, h.trans h'.symm⟩
  ·rw [yS hj] at q
   exact ⟨m1, q, rfl⟩
 refine ⟨fun j d1 m1 q => ?_, fun j k d1 m1 d2 m2 hjk q1 q2 hl => ?_, by rw [List.length_set]; exact A.len⟩
 ·obtain ⟨m2, q', hm⟩ := get q
  rw [← hm]
  exact A.rep j d1 m2 q'
 ·obtain ⟨m3, q3, hm3⟩ := get q1
  obtain ⟨m4, q4, hm4⟩ := get q2
  exact A.dis j k d1 m3 d2 m4 hjk q3 q4 (hm3.trans hl)
theorem Lk.abs (h : Lk env lk e1) (A : Abs K σ H env f) : Abs K σ H e1 f := by
 cases h with
 | none => exact A
 | some e l => exact Q9 A e l rfl
theorem Lk.w (h : Lk env lk e1) {b : Addr} (w : W e1 f b) : W env f b := by
 cases h with
 | none => exact w
 | @some i d m e l =>
   obtain ⟨j, d1, m1, q, hr, hb⟩ := w
   have hi : i < env.length := (List.getElem?_eq_some_iff.mp e).1
   by_cases hj : j = i
   ·subst hj
    rw [jm hi] at q; cases q; cases hr
   ·rw [yS hj] at q
    exact ⟨j, d1, m1, q, hr, hb⟩
theorem Uo {k : En → Prop} (L : Lk env lk e1) (A : Abs K σ' H' e2 f2) (S : Stp H1 e1 f1 [] H' e2 f2 G) (Kk : Kq σ e1 f1 σ' e2 f2) (q : thaw lk e2 k) :
 ∃ e3, k e3 ∧ Abs K σ' H' e3 f2 ∧ Stp H1 env f1 [] H' e3 f2 G ∧ Kq σ env f1 σ' e3 f2 ∧ ∀ (i : Nat) (d : D) (m : Md), e3[i]? = some (some (d, m)) → (m = .io ∨ m = .lk) → ∃ m', e2[i]? = some (some (d, m')) ∧ (m' = .io ∨ m' = .lk) := by
 cases L with
 | none => exact ⟨e2, q, A, S, Kk, fun i d m e h => ⟨m, e, h⟩⟩
 | @some i d m e l =>
   have hi : i < env.length := (List.getElem?_eq_some_iff.mp e).1
   have he1 : (env.set i (some (d, Md.lk)))[i]? = some (some (d, Md.lk)) := jm hi
   obtain ⟨hσ, he2, hf⟩ := Kk.lk i d he1
   have hi2 : i < e2.length := (List.getElem?_eq_some_iff.mp he2).1
   simp only [thaw, he2] at q
   refine ⟨_, q, Q9 A he2 rfl l, ⟨fun b o h z => ?_, fun b z => ?_⟩, ⟨fun j d1 h => ?_, fun j d1 h => ?_, fun j d1 h => ?_⟩, fun j d1 m1 h hm => ?_⟩
   ·refine S.same b o h (z.imp_right fun z => ⟨fun w => z.1 ((Lk.some e l : Lk env (some (i, m)) _).w w), z.2⟩)
   ·have inj : (W e2 f2 b ∨ b ∈ G) → (W env f1 b ∨ b ∈ ([] : List Addr) ∨ H1 b = none) := fun z => (S.own b z).imp_left fun w => (Lk.some e l : Lk env (some (i, m)) _).w w
    rcases z with ⟨j, d1, m1, q1, hr, hb⟩ | z
    ·by_cases hj : j = i
     ·subst hj
      rw [jm hi2] at q1; cases q1
      rw [hf] at hb
      exact .inl ⟨j, d, m, e, hr, hb⟩
     ·rw [yS hj] at q1
      exact inj (.inl ⟨j, d1, m1, q1, hr, hb⟩)
    ·exact inj (.inr z)
   ·by_cases hj : j = i
    ·subst hj
     rw [e] at h; cases h
     exact ⟨hσ, d, jm hi2⟩
    ·obtain ⟨a, d', b⟩ := Kk.io j d1 (by rw [yS hj]; exact h)
     exact ⟨a, d', by rw [yS hj]; exact b⟩
   ·by_cases hj : j = i
    ·subst hj
     rw [e] at h; cases h
     exact ⟨hσ, jm hi2, hf⟩
    ·obtain ⟨a, b, c⟩ := Kk.lk j d1 (by rw [yS hj]; exact h)
     exact ⟨a, by rw [yS hj]; exact b, c⟩
   ·by_cases hj : j = i
    ·subst hj
     rw [jm hi2] at h; cases h
     exact e
    ·rw [yS hj] at h
     have := Kk.lkr j d1 h
     rwa [yS hj] at this
   ·by_cases hj : j = i
    ·subst hj
     rw [jm hi2] at h; cases h
     exact ⟨.lk, he2, .inr rfl⟩
    ·rw [yS hj] at h
     exact ⟨m1, h, hm⟩
theorem qao {P : List Addr} {kd : Option Bool} {d : D} {x : V} (h : Item K H P kd d x) (n : kd.isSome = true → ∀ b ∈ P, ¬ L0 env f b) : SrcOk K σ H env f (mkI kd d) x [] := by
 cases kd with
 | none => exact .tmp h qF
 | some c =>
   obtain ⟨g, r, hg⟩ := h
   have n1 : ∀ b ∈ g, ¬ L0 env f b := fun b hb => n rfl b (hg b hb)
   show SrcOk K σ H env f (mkRo c d) x []
   cases d with
   | int i => exact .tmp r.int0 qF
   | bl i => exact .tmp r.bl0 qF
   | str i => exact .tmp r.str0 qF
   | non => exact .tmp r.non0 qF
   | _ => exact .ro r n1
end
section
variable {X : Cx} {tg it : Expr} {body : List Stmt} {ti : XI} {g : XG} {tb : XS} {pos : Pos} {ts : List Nat}
theorem u5 (hx : Ok X) (hi : DI X tg it ti) (hg : DG X tg ts g) (hb : DSs X body tb) (hp : PassesOwn (model X.prog X.w) X.A X.env X.xe := by exact PassesOwn.never) (hs : ∀ x, foldedSetIterable it X.env x = pure x := by intro _; rfl) : DS X (.For tg it body [] pos) (sFor ti g tb) := by
 refine ⟨PS.imp (ps_for hp hx.calm hi.run hg.run hb.run hs) fun Dn σ H q => ?_, fun env nx nx' rt rt' h h' q => hi.mono _ _ _ (fun ds kd lk e q => Jv hg.mono hb.mono ds _ _ _ _ _ (fun e q => Ze (fun e q => h _ q) q) (fun d e q => Ze (fun e q => h' _ _ q) q) q) q⟩
 obtain ⟨env, f, A, q⟩ := q
 refine ⟨env, f, A, hi.mono _ _ _ (fun ds kd lk e1 q => ?_) q⟩
 intro J H1 f1 P env' A1 S1 K1 L Wa hP hPL
 have A1' := L.abs A1
 refine ⟨fun i m σ' H' => m = ds.length - i ∧ i ≤ ds.length ∧ ∃ e f', Abs X.K σ' H' e f' ∧ Stp H1 e1 f1 [] H' e f' [] ∧ Kq σ e1 f1 σ' e f' ∧
  forL g tb kd (ds.drop i) e (fun e2 => thaw lk e2 (qbq X.K σ H env f Dn.nx)) (fun d e2 => thaw lk e2 fun e3 => JZ X.K σ H env f Dn.rt d e3), ⟨ds.length, by simp, Nat.zero_le _, e1, f1, A1', .refl, .refl, q⟩, fun i m σ' H' w => ?_⟩
 obtain ⟨rfl, hi', e, f', A', S', K', q⟩ := w
 have near : Near H1 P H' := fun b o h z => S'.same b o h (by
  rcases z with z | z
  ·exact .inr ⟨(hP b z).2, by simp⟩
  ·exact .inl z)
 by_cases hlt : i < ds.length
 ·refine .inr ⟨Wa.go i H' near hlt, fun σ2 H2 => _, fun σ2 H2 n2 => ⟨ds.length - (i + 1), by omega, n2⟩, fun x H2 hy => ?_⟩
  obtain ⟨sm, itm⟩ := Wa.yld i H' x H2 ds[i] near (List.getElem?_eq_getElem hlt) hy
  rw [List.drop_eq_getElem_cons hlt] at q
  have nl : kd.isSome = true → ∀ b ∈ P, ¬ L0 e f' b := fun hk b hb z => by
   obtain ⟨j, d1, m1, h1, h2, h3⟩ := z
   cases hr : m1.rd with
   | false =>
     rcases S'.own b (.inl ⟨j, d1, m1, h1, hr, h3⟩) with z | z | z
     ·exact (hP b hb).2 z
     ·simp at z
     ·obtain ⟨o, ho⟩ := (hP b hb).1
      rw [z] at ho; cases ho
   | true =>
     have hm : m1 = .lk := by cases m1 <;> first | rfl | (cases hr; done) | (cases h2; done)
     subst hm
     have h4 := K'.lkr j d1 h1
     obtain ⟨_, _, h5⟩ := K'.lk j d1 h4
     rw [h5] at h3
     exact hPL hk b hb ⟨j, d1, .lk, h4, rfl, h3⟩
  refine ⟨e, f', mkI kd ds[i], [], A'.ext sm, qao itm nl, hg.mono _ _ _ _ (fun e2 q2 => ?_) q⟩
  intro σ2 f2 A2 S2 K2 _ _ _
  have S3 : Stp H1 e1 f1 [] H2 e2 f2 [] := (S'.ext sm).trans S2
  have K3 := K'.trans K2
  refine ⟨e2, f2, A2, hb.mono _ _ _ _ _ (fun e3 q3 => ?_) (fun d e3 q3 => ?_) q2⟩
  ·intro σ3 H3 f3 A3 S4 K4
   exact ⟨rfl, hlt, e3, f3, A3, S3.trans S4, K3.trans K4, q3⟩
  ·intro v σ3 H3 f3 gg A3 rv nv S4 K4
   obtain ⟨e4, q4, A4, S5, K5, back⟩ := Uo L A3 (S3.trans S4) (K3.trans K4) q3
   exact q4 v σ3 H3 f3 gg A4 rv (fun b hb i d m h hm => by
    obtain ⟨m', h', hm'⟩ := back i d m h hm
    exact nv b hb i d m' h' hm') (S1.trans S5) (K1.kq.trans K5)
 ·have hie : i = ds.length := by omega
  subst hie
  rw [List.drop_length] at q
  obtain ⟨e3, q3, A3, S3, K3, _⟩ := Uo L A' S' K' q
  exact .inl ⟨Wa.stop _ _ near (Nat.le_refl _), q3 σ' H' f' A3 (S1.trans S3) (K1.kq.trans K3)⟩
def Zt (c : XT) (tb : XS) : XS := fun env nx rt => ∃ P : Nat → En → Prop, (∃ m, P m env) ∧ ∀ m e, P m e → c e fun b e1 => (b = true → tb e1 (fun e2 => ∃ m', m' < m ∧ P m' e2) rt) ∧ (b = false → nx e1)
theorem QT {c : Expr} {tc : XT} (hc : DT X c tc) (hb : DSs X body tb) (hp : PassesOwn (model X.prog X.w) X.A X.env X.xe := by exact PassesOwn.never) : DS X (.While c body [] pos) (Zt tc tb) := by
 refine ⟨PS.imp (ps_while hp hc.run hb.run) fun Dn σ H q => ?_, fun env nx nx' rt rt' h h' q => ?_⟩
 ·obtain ⟨env, f, A, P, ⟨m0, p0⟩, turn⟩ := q
  refine ⟨fun m σ' H' => ∃ e f', Abs X.K σ' H' e f' ∧ Stp H env f [] H' e f' [] ∧ Kq σ env f σ' e f' ∧ P m e, ⟨m0, env, f, A, .refl, .refl, p0⟩, fun m σ' H' w => ?_⟩
  obtain ⟨e, f', A', S', K', p⟩ := w
  refine ⟨e, f', A', hc.mono _ _ _ (fun b e1 q => ?_) (turn m e p)⟩
  intro H1 f1 A1 S1 K1
  cases b with
  | true =>
    rw [if_pos rfl]
    refine ⟨fun σ2 H2 => ∃ m', m' < m ∧ ∃ e f', Abs X.K σ2 H2 e f' ∧ Stp H env f [] H2 e f' [] ∧ Kq σ env f σ2 e f' ∧ P m' e, fun σ2 H2 n => n, e1, f1, A1, hb.mono _ _ _ _ _ (fun e2 q2 => ?_) (fun d e2 q2 => ?_) (q.1 rfl)⟩
    ·intro σ2 H2 f2 A2 S2 K2
     obtain ⟨m', hm, p'⟩ := q2
     exact ⟨m', hm, e2, f2, A2, (S'.trans S1).trans S2, (K'.trans K1.kq).trans K2, p'⟩
    ·exact q2.after (S'.trans S1) (K'.trans K1.kq)
  | false =>
    rw [if_neg Bool.false_ne_true]
    exact q.2 rfl σ' H1 f1 A1 (S'.trans S1) (K'.trans K1.kq)
 ·obtain ⟨P, h0, turn⟩ := q
  exact ⟨P, h0, fun m e p => hc.mono _ _ _ (fun b e1 q => ⟨fun z => hb.mono _ _ _ _ _ (fun e q => q) h' (q.1 z), fun z => h _ (q.2 z)⟩) (turn m e p)⟩
end
def yW (r : R) (env : En) (k : Option Bool → Lok → En → Prop) (im : Bool) : Prop := match r with
 | .tmp _ => im = true ∧ k none none env
 | .ro c _ => k (some c) none env
 | .sl i => match env[i]? with
   | some (some (d, m)) => im = true ∧ k none (some (i, m)) (env.set i (some (d, .lk)))
   | _ => False
def iSeq (t : XE) : XI := fun env k => t env fun r e => rd 2 r e fun d => match d with
 | .lst xs => yW r e (fun kd lk e1 => k xs kd lk e1) (immL xs)
 | .lF xs => yW r e (fun kd lk e1 => k xs kd lk e1) (immL xs)
 | .tup xs => yW r e (fun kd lk e1 => k xs kd lk e1) (immL xs)
 | _ => False
def ju (t : XE) : XI := fun env k => t env fun r e => rd 2 r e fun d => match d with
 | .int j => -(2 ^ 62) ≤ j ∧ j < 2 ^ 62 ∧ k ((List.range j.toNat).map fun n => .int (n : Nat)) none none e
 | _ => False
def We (t u : XE) : XI := fun env k => t env fun r e => u e fun r2 e2 => rd 2 r e2 fun d => rd 2 r2 e2 fun d2 => match d, d2 with
 | .int i, .int j => (-(2 ^ 62) ≤ i ∧ i < 2 ^ 62 ∧ -(2 ^ 62) ≤ j ∧ j < 2 ^ 62) ∧ k ((List.range (j - i).toNat).map fun n => .int (i + (n : Nat))) none none e2
 | _, _ => False
theorem Ql {r : R} {env : En} {k k' : Option Bool → Lok → En → Prop} {im : Bool} (h : ∀ kd lk e, k kd lk e → k' kd lk e) (q : yW r env k im) : yW r env k' im := by
 cases r with
 | tmp d => exact ⟨q.1, h _ _ _ q.2⟩
 | ro c d => exact h _ _ _ q
 | sl i =>
   unfold yW at q ⊢
   dsimp only at q ⊢
   cases e : env[i]? with
   | none => rw [e] at q; exact q.elim
   | some x => cases x with
     | none => rw [e] at q; exact q.elim
     | some p => rw [e] at q; exact ⟨q.1, h _ _ _ q.2⟩
section
variable {K : PySem.W.Frag} {H0 : Hp} {P : List Addr} {n : Nat}
theorem VJ {lo : Int} : Wk K (Itr lo n) ((List.range n).map fun k => .int (lo + (k : Nat))) none H0 [] where
 go := fun i H _ h => by show i < n; simpa using h
 stop := fun i H _ h => by show n ≤ i; simpa using h
 yld := fun i H x H' d _ h hy => by
  obtain ⟨rfl, rfl⟩ := hy
  refine ⟨fun b o h => h, ?_⟩
  rw [List.getElem?_map] at h
  cases e : (List.range n)[i]? with
  | none => rw [e] at h; cases h
  | some j =>
    rw [e] at h
    have hj : j = i := by
     obtain ⟨h1, h2⟩ := List.getElem?_eq_some_iff.mp e
     simpa using h2.symm
    subst hj
    cases h
    exact .int _
end
section
variable {X : Cx} {tg e e2 : Expr} {t u : XE} {p pos : Pos}
theorem xX (ha : DE X e t) (hm : X.mg "range" = none) (hg : Gl X "range" := by rfl) (hs : starEach [e] X.env = [(false, eval e X.env)] := by rfl) (hs' : starEach [e] X.env = (false, eval e X.env) :: starEach [] X.env := by rfl) : DI X tg (.Call (.Name "range" p) [e] [] pos) (ju t) := by
 refine ⟨PI.imp (pi_range1 hg hm (qd ha qu hs').run hs) fun σ H R q => ?_, fun env k k' h q => ha.mono _ _ _ (fun r e q => qQ (fun d q => ?_) q) q⟩
 ·obtain ⟨env, f, A, q⟩ := q
  refine ⟨env, f, A, ha.mono _ _ _ (fun r1 e1 q => ?_) q⟩
  intro vs H1 f1 gs A1 R1 S1 K1
  cases R1 with
  | cons R1 Rt _ =>
    cases Rt
    obtain ⟨d, g', rp, q⟩ := yx A1 R1 q
    cases d with
    | int j =>
      obtain ⟨rfl, _⟩ := rp.intV
      refine ⟨j, rfl, q.1, q.2.1, q.2.2 _ H1 f1 [] e1 A1 (S1.drop fun _ z => by simp at z) K1 .none ?_ (fun b hb => by simp at hb) (fun _ b hb => by simp at hb)⟩
      have := VJ (K := X.K) (H0 := H1) (n := j.toNat) (lo := 0)
      simpa using this
    | _ => exact q.elim
 ·cases d with
  | int j => exact ⟨q.1, q.2.1, h _ _ _ _ q.2.2⟩
  | _ => exact q.elim
theorem ZX (ha : DE X e t) (hb : DE X e2 u) (hm : X.mg "range" = none) (hg : Gl X "range" := by rfl) (hs : starEach [e, e2] X.env = [(false, eval e X.env), (false, eval e2 X.env)] := by rfl) (hs2 : starEach [e2] X.env = [(false, eval e2 X.env)] := by rfl)
 (hs' : starEach [e, e2] X.env = (false, eval e X.env) :: starEach [e2] X.env := by rfl) (hs2' : starEach [e2] X.env = (false, eval e2 X.env) :: starEach [] X.env := by rfl) : DI X tg (.Call (.Name "range" p) [e, e2] [] pos) (We t u) := by
 refine ⟨PI.imp (pi_range2 hg hm (qd ha (qd hb qu hs2') hs').run hs hs2) fun σ H R q => ?_, fun env k k' h q => ha.mono _ _ _ (fun r e q => hb.mono _ _ _ (fun r2 e2 q => qQ (fun d q => qQ (fun d2 q => ?_) q) q) q) q⟩
 ·obtain ⟨env, f, A, q⟩ := q
  refine ⟨env, f, A, ha.mono _ _ _ (fun r1 e1 q => hb.mono _ _ _ (fun r2 e2 q => ?_) q) q⟩
  intro vs H1 f1 gs A1 R1 S1 K1
  cases R1 with
  | cons R1 Rt _ =>
    cases Rt with
    | cons R2 Rt _ =>
      cases Rt
      obtain ⟨d, g', rp, q⟩ := yx A1 R1 q
      obtain ⟨d2, g2', rp2, q⟩ := yx A1 R2 q
      split at q
      ·obtain ⟨rfl, _⟩ := rp.intV
       obtain ⟨rfl, _⟩ := rp2.intV
       exact ⟨_, _, rfl, q.1, q.2 _ H1 f1 [] e2 A1 (S1.drop fun _ z => by simp at z) K1 .none VJ (fun b hb => by simp at hb) (fun _ b hb => by simp at hb)⟩
      ·exact q.elim
 ·split at q
  ·exact ⟨q.1, h _ _ _ _ q.2⟩
  ·exact q.elim
end
section
variable {X : Cx} {tg e : Expr} {t : XE}
def qjq (K : PySem.W.Frag) (tl : TE) : TI := fun σ H R => tl σ H fun x H1 => ∃ a xs, x = .ref a ∧ ((SqL K H1 a xs ∧ R (Itl K a) H1) ∨ (SqT K H1 a xs ∧ R (Itt K a) H1))
theorem qfu {l : Expr} {tl : TE} (hl : PE X l tl) : PI X tg l (qjq X.K tl) := by
 constructor
 intro pins s σ H R I h
 refine thn (hl.run pins s σ H _ I h) ?_
 rintro v s1 ⟨x, H1, I1, r1, a, xs, rfl, q⟩
 obtain rfl : v = Value.ref a := r1
 have fresh : ∀ b ∈ [s1.heap.objs.size], FpOk X pins H1 b := fun b hb => by
  rw [List.mem_singleton.mp hb]
  exact I1.fpOk (Nat.le_refl _) (I1.hok.fresh (Nat.le_refl _))
 have push : ∀ ob : Obj, Inv X pins σ H1 { s1 with heap := s1.heap.push ob } := fun ob => I1.kept (t' := s1.toks) fun b o z => Heap.get?_push_of_some _ z
 rcases q with ⟨hq, q⟩ | ⟨hq, q⟩
 ·obtain ⟨its, _, pl, _⟩ := I1.list hq
  exact wpAny_pyIter_list pl.isList ⟨_, [s1.heap.objs.size], _, _, H1, rfl, push _, turn_list a _, ⟨_, Heap.get?_push_size _ rfl, rfl, rfl⟩, fresh, q⟩
 ·obtain ⟨its, _, pl, _⟩ := I1.tuple hq
  exact wpAny_pyIter_tuple (show s1.heap.IsTuple a its.toArray from pl) ⟨_, [s1.heap.objs.size], _, _, H1, rfl, push _, turn_tuple a _, ⟨_, Heap.get?_push_size _ rfl, rfl, rfl⟩, fresh, q⟩
section
variable {K : PySem.W.Frag} {σ : L2.St} {H H1 : Hp} {env e1 e2 : En} {f f1 : FA} {g : List Addr} {r : R} {x : V} {ds : List D}
theorem Vd {RR : It → Hp → Prop} {J : It} {d : D} (A : Abs K σ H1 e1 f1) (S : Stp H env f [] H1 e1 f1 g) (Kk : Kp env f e1 f1) (h : ResOk K σ H1 e1 f1 r x g) (im : Bool) (q : yW r e1 (fun kd lk e2 => qh9 K σ H env f RR ds kd lk e2) im)
 (wk : ∀ (lv : Nat) (gg : List Addr), Rep K H1 lv d x gg → (im = true → lv ≤ 1 → Wk K J ds none H1 gg) ∧ ∀ c, lv = clv c → Wk K J ds (some c) H1 gg)
 (dd : r.data 2 e1 = some d) : RR J H1 := by
 have S0 : Stp H env f [] H1 e1 f1 [] := S.drop fun _ z => by simp at z
 cases h with
 | @tmp d' _ _ rp n =>
   cases dd
   obtain ⟨hi, q⟩ := q
   exact q J H1 f1 g e1 A S0 Kk .none ((wk 0 g rp).1 hi (Nat.zero_le _)) (fun b hb => ⟨(rp.dom b hb).imp fun o z => z.1, fun w => (n b hb).1 w.l0⟩) (fun z => nomatch z)
 | @ro c d' _ g0 rp n =>
   have dd' : d' = d := by
    unfold BX.R.data at dd
    cases e : roOk c 2 with
    | false => simp only [e] at dd; cases dd
    | true => simp only [e] at dd; exact Option.some.inj dd
   subst dd'
   exact q J H1 f1 g0 e1 A S0 Kk .none ((wk _ g0 rp).2 c rfl) (fun b hb => ⟨(rp.dom b hb).imp fun o z => z.1, fun w => A.apart w.l0 (n b hb)⟩) (fun _ b hb z => A.apart z (n b hb))
 | @sl i _ d' m h1 h2 h3 =>
   obtain ⟨w, h4, rp⟩ := A.rep _ _ _ h2
   rw [h1] at h4; cases h4
   have dd' : d' = d := by
    unfold BX.R.data at dd
    simp only [h2] at dd
    cases e : m.okL 2 with
    | false => simp only [e] at dd; cases dd
    | true => simp only [e] at dd; exact Option.some.inj dd
   subst dd'
   unfold yW at q
   simp only [h2] at q
   obtain ⟨hi, q⟩ := q
   have L : Lk e1 (some (i, m)) (e1.set i (some (d', .lk))) := .some h2 h3
   refine q J H1 f1 (f1 i) e1 A S0 Kk L ((wk _ (f1 i) rp).1 hi (by rw [h3]; exact Nat.zero_le _)) (fun b hb => ⟨(rp.dom b hb).imp fun o z => z.1, fun w => ?_⟩) (fun z => nomatch z)
   obtain ⟨j, d1, m1, e3, hr, hb'⟩ := w
   have hi1 : i < e1.length := (List.getElem?_eq_some_iff.mp h2).1
   by_cases hj : j = i
   ·subst hj
    rw [jm hi1] at e3; cases e3; cases hr
   ·rw [yS hj] at e3
    exact A.dis i j _ _ _ _ (Ne.symm hj) h2 e3 h3 b hb hb'
theorem vP {P : List Addr} {lv : Nat} {d : D} {gg : List Addr} (r : Rep K H1 lv d x gg) (n : Near H1 P H) (h : ∀ b ∈ gg, b ∈ P) : Rep K H lv d x gg := r.keep fun b o e z => n b o e (z.imp_left (h b))
theorem Xk {P gg : List Addr} {lv : Nat} {d : D} (r : Rep K H lv d x gg) (h : ∀ b ∈ gg, b ∈ P) : (lv ≤ 1 → d.imm = true → Item K H P none d x) ∧ ∀ c, lv = clv c → Item K H P (some c) d x :=
 ⟨fun l im => (r.imm l im).2, fun c e => ⟨gg, by rw [← e]; exact r, h⟩⟩
theorem qbL {lv : Nat} {a : Addr} {vs : List V} {gg P : List Addr} (hq : ∀ H, Near H1 P H → SqL K H a vs) (rr : Reps K H1 lv ds vs gg) (hg : ∀ b ∈ gg, b ∈ P) :
 (immL ds = true → lv ≤ 1 → Wk K (Itl K a) ds none H1 P) ∧ ∀ c, lv = clv c → Wk K (Itl K a) ds (some c) H1 P := by
 have it : ∀ (i : Nat) (H : Hp) (x : V) (H' : Hp) (d : D), Near H1 P H → ds[i]? = some d → (Itl K a).yld i H x H' → H' = H ∧ ∃ g, Rep K H lv d x g ∧ ∀ b ∈ g, b ∈ P := fun i H x H' d n e y => by
  obtain ⟨rfl, y⟩ := y
  obtain ⟨v, g, e1, r, hs⟩ := rr.get e
  have := y vs (hq _ n)
  rw [e1] at this; cases this
  exact ⟨rfl, g, vP r n fun b hb => hg b (hs b hb), fun b hb => hg b (hs b hb)⟩
 have go : ∀ (i : Nat) (H : Hp), Near H1 P H → i < ds.length → (Itl K a).go i H := fun i H n h => ⟨vs, vs[i]'(by rw [← rr.len]; exact h), hq H n, List.getElem?_eq_getElem _⟩
 have st : ∀ (i : Nat) (H : Hp), Near H1 P H → ds.length ≤ i → (Itl K a).stop i H := fun i H n h => ⟨vs, hq H n, by rw [← rr.len]; exact h⟩
 refine ⟨fun im l => ⟨go, st, fun i H x H' d n e y => ?_⟩, fun c hc => ⟨go, st, fun i H x H' d n e y => ?_⟩⟩
 ·obtain ⟨rfl, g, r, hs⟩ := it i H x H' d n e y
  exact ⟨fun b o h => h, (Xk r hs).1 l (W7 im d (List.mem_of_getElem? e))⟩
 ·obtain ⟨rfl, g, r, hs⟩ := it i H x H' d n e y
  exact ⟨fun b o h => h, (Xk r hs).2 c hc⟩
theorem qfd {lv : Nat} {a : Addr} {vs : List V} {gg P : List Addr} (hq : ∀ H, Near H1 P H → SqT K H a vs) (rr : Reps K H1 lv ds vs gg) (hg : ∀ b ∈ gg, b ∈ P) :
 (immL ds = true → lv ≤ 1 → Wk K (Itt K a) ds none H1 P) ∧ ∀ c, lv = clv c → Wk K (Itt K a) ds (some c) H1 P := by
 have it : ∀ (i : Nat) (H : Hp) (x : V) (H' : Hp) (d : D), Near H1 P H → ds[i]? = some d → (Itt K a).yld i H x H' → H' = H ∧ ∃ g, Rep K H lv d x g ∧ ∀ b ∈ g, b ∈ P := fun i H x H' d n e y => by
  obtain ⟨rfl, y⟩ := y
  obtain ⟨v, g, e1, r, hs⟩ := rr.get e
  have := y vs (hq _ n)
  rw [e1] at this; cases this
  exact ⟨rfl, g, vP r n fun b hb => hg b (hs b hb), fun b hb => hg b (hs b hb)⟩
 have go : ∀ (i : Nat) (H : Hp), Near H1 P H → i < ds.length → (Itt K a).go i H := fun i H n h => ⟨vs, vs[i]'(by rw [← rr.len]; exact h), hq H n, List.getElem?_eq_getElem _⟩
 have st : ∀ (i : Nat) (H : Hp), Near H1 P H → ds.length ≤ i → (Itt K a).stop i H := fun i H n h => ⟨vs, hq H n, by rw [← rr.len]; exact h⟩
 refine ⟨fun im l => ⟨go, st, fun i H x H' d n e y => ?_⟩, fun c hc => ⟨go, st, fun i H x H' d n e y => ?_⟩⟩
 ·obtain ⟨rfl, g, r, hs⟩ := it i H x H' d n e y
  exact ⟨fun b o h => h, (Xk r hs).1 l (W7 im d (List.mem_of_getElem? e))⟩
 ·obtain ⟨rfl, g, r, hs⟩ := it i H x H' d n e y
  exact ⟨fun b o h => h, (Xk r hs).2 c hc⟩
theorem QG {lv : Nat} {gg : List Addr} (r : Rep K H1 lv (.lst ds) x gg) : ∃ a vs g, x = .ref a ∧ SqL K H1 a vs ∧ (∀ H, Near H1 gg H → SqL K H a vs) ∧ Reps K H1 lv ds vs g ∧ ∀ b ∈ g, b ∈ gg := by
 obtain ⟨a, vs, g, rfl, h, rr, hs, z⟩ := r.listSq
 refine ⟨a, vs, g, rfl, h, fun H n => ?_, rr, hs⟩
 rcases z with ⟨z, zm⟩ | z
 ·exact .of (n a _ z (.inl zm))
 ·exact (z.keep fun o e m => n a o e (.inr m)).sq
theorem qco {lv : Nat} {gg : List Addr} (r : Rep K H1 lv (.lF ds) x gg) : ∃ a vs, x = .ref a ∧ SqL K H1 a vs ∧ (∀ H, Near H1 gg H → SqL K H a vs) ∧ Reps K H1 lv ds vs gg := by
 obtain ⟨a, vs, rfl, h, rr, z⟩ := r.lFSq
 exact ⟨a, vs, rfl, h, fun H n => (z.keep fun o e m => n a o e (.inr m)).sq, rr⟩
theorem W4 {lv : Nat} {gg : List Addr} (r : Rep K H1 lv (.tup ds) x gg) : ∃ a vs, x = .ref a ∧ SqT K H1 a vs ∧ (∀ H, Near H1 gg H → SqT K H a vs) ∧ Reps K H1 lv ds vs gg := by
 cases r with
 | tup h r => exact ⟨_, _, rfl, .of h, fun H n => .of (n _ _ h (.inr rfl)), r⟩
 | tupK l h r => exact ⟨_, _, rfl, h.sq, fun H n => h.sq, r⟩
theorem Ux {L : Nat} {k : D → Prop} (q : rd L r env k) : ∃ d, r.data L env = some d ∧ k d := by
 unfold rd at q
 cases e : r.data L env with
 | none => rw [e] at q; exact q.elim
 | some d => rw [e] at q; exact ⟨d, rfl, q⟩
end
theorem yX (ha : DE X e t) : DI X tg e (iSeq t) := by
 refine ⟨PI.imp (qfu ha.run) fun σ H R q => ?_, fun env k k' h q => ha.mono _ _ _ (fun r e q => qQ (fun d q => ?_) q) q⟩
 ·obtain ⟨env, f, A, q⟩ := q
  refine ⟨env, f, A, ha.mono _ _ _ (fun r1 e1 q => ?_) q⟩
  intro x H1 f1 g A1 R1 S1 K1
  obtain ⟨d, dd, q⟩ := Ux q
  have rp0 : ∃ gg, Rep X.K H1 2 d x gg := by
   obtain ⟨d', gg, rp, hd⟩ := yx (L := 2) (k := fun d' => d' = d) A1 R1 (by unfold rd; rw [dd])
   subst hd
   exact ⟨gg, rp⟩
  obtain ⟨gg0, rp0⟩ := rp0
  cases d with
  | lst ds =>
    obtain ⟨a, vs, g1, rfl, hq, hn, rr, hs⟩ := QG rp0
    refine ⟨a, vs, rfl, .inl ⟨hq, Vd A1 S1 K1 R1 (immL ds) q (fun lv gg z => ?_) dd⟩⟩
    obtain ⟨a', vs', g2, e1, hq', hn', rr', hs'⟩ := QG z
    cases e1
    exact qbL hn' rr' hs'
  | lF ds =>
    obtain ⟨a, vs, rfl, hq, hn, rr⟩ := qco rp0
    refine ⟨a, vs, rfl, .inl ⟨hq, Vd A1 S1 K1 R1 (immL ds) q (fun lv gg z => ?_) dd⟩⟩
    obtain ⟨a', vs', e1, hq', hn', rr'⟩ := qco z
    cases e1
    exact qbL hn' rr' fun b hb => hb
  | tup ds =>
    obtain ⟨a, vs, rfl, hq, hn, rr⟩ := W4 rp0
    refine ⟨a, vs, rfl, .inr ⟨hq, Vd A1 S1 K1 R1 (immL ds) q (fun lv gg z => ?_) dd⟩⟩
    obtain ⟨a', vs', e1, hq', hn', rr'⟩ := W4 z
    cases e1
    exact qfd hn' rr' fun b hb => hb
  | _ => exact q.elim
 ·cases d with
  | lst ds => exact Ql (fun kd lk e q => h _ _ _ _ q) q
  | lF ds => exact Ql (fun kd lk e q => h _ _ _ _ q) q
  | tup ds => exact Ql (fun kd lk e q => h _ _ _ _ q) q
  | _ => exact q.elim
end
end BX
namespace BX
open PySem PySem.Spec PyProof.Rows L2
def wD : List Nat → En → En
 | [], env => env
 | v :: vs, env => (wD vs env).set v none
def uC : List Nat → En → En → En
 | [], _, env => env
 | v :: vs, e1, env => (uC vs e1 env).set v (e1.getD v none)
def lcL (g : XG) (tt : XT) (te : XE) (kd : Option Bool) (vs : List Nat) : List D → En → List D → (List D → En → Prop) → Prop
 | [], env, acc, k => k acc env
 | d :: ds, env, acc, k => g (mkI kd d) env fun e1 => tt e1 fun b e2 => (b = true → te e2 fun r e3 => stor r e3 fun dd => acc.length < sizeLine ∧ lcL g tt te kd vs ds (wD vs e3) (acc ++ [dd]) k) ∧ (b = false → lcL g tt te kd vs ds (wD vs e2) acc k)
def dLc (it : XI) (g : XG) (tt : XT) (te : XE) (vs : List Nat) : XE := fun env Q => it env fun ds kd lk e1 => (vs.all fun v => setOk e1 v) = true ∧ lcL g tt te kd vs ds (wD vs e1) [] fun acc e2 => thaw lk (uC vs e1 e2) fun e3 => Q (.tmp (.lst acc)) e3
def xYes : XT := fun env Q => Q true env
theorem Xg {g : XG} {tt : XT} {te : XE} {kd : Option Bool} {vs : List Nat} (mg : VG g) (mt : VF tt) (me : xr te) : ∀ (ds : List D) (env : En) (acc : List D) (k k' : List D → En → Prop), (∀ a e, k a e → k' a e) → lcL g tt te kd vs ds env acc k → lcL g tt te kd vs ds env acc k'
 | [], env, acc, k, k', h, q => h _ _ q
 | d :: ds, env, acc, k, k', h, q => mg _ _ _ _ (fun e1 q => mt _ _ _ (fun b e2 q => ⟨fun z => me _ _ _ (fun r e3 q => jM (fun dd q => ⟨q.1, Xg mg mt me ds _ _ _ _ h q.2⟩) q) (q.1 z), fun z => Xg mg mt me ds _ _ _ _ h (q.2 z)⟩) q) q
section
theorem uh (env : En) : ∀ vs : List Nat, (wD vs env).length = env.length
 | [] => rfl
 | v :: vs => by rw [wD, List.length_set, uh env vs]
theorem WP {env : En} {j : Nat} : ∀ {vs : List Nat}, j ∈ vs → j < env.length → (wD vs env)[j]? = some none
 | v :: vs, h, hj => by
   rw [wD]
   by_cases e : j = v
   ·subst e
    rw [List.getElem?_set_self (by rw [uh]; exact hj)]
   ·rw [List.getElem?_set_ne (Ne.symm e)]
    exact WP ((List.mem_cons.mp h).resolve_left e) hj
theorem ug {env : En} {j : Nat} : ∀ {vs : List Nat}, j ∉ vs → (wD vs env)[j]? = env[j]?
 | [], _ => rfl
 | v :: vs, h => by
   rw [wD, List.getElem?_set_ne (fun e => h (by rw [e]; exact List.mem_cons_self ..))]
   exact ug fun z => h (List.mem_cons_of_mem _ z)
theorem yd {env : En} {j : Nat} {vs : List Nat} {x : D × Md} (h : (wD vs env)[j]? = some (some x)) : j ∉ vs ∧ env[j]? = some (some x) := by
 by_cases hj : j ∈ vs
 ·have hl : j < env.length := by rw [← uh env vs]; exact (List.getElem?_eq_some_iff.mp h).1
  rw [WP hj hl] at h; cases h
 ·exact ⟨hj, by rw [← ug hj]; exact h⟩
theorem Ud {σ : L2.St} {j : Nat} : ∀ {vs : List Nat}, j ∈ vs → j < σ.length → (wipe σ vs)[j]? = some none
 | v :: vs, h, hj => by
   rw [wipe]
   by_cases e : j = v
   ·subst e
    rw [List.getElem?_set_self (by rw [wipe_length]; exact hj)]
   ·rw [List.getElem?_set_ne (Ne.symm e)]
    exact Ud ((List.mem_cons.mp h).resolve_left e) hj
theorem XC {σ σ2 : L2.St} {vs : List Nat} (hl : σ2.length = σ.length) (h : ∀ j, j ∉ vs → σ2[j]? = σ[j]?) : wipe σ2 vs = wipe σ vs := by
 apply List.ext_getElem?
 intro j
 by_cases hj : j ∈ vs
 ·by_cases hlt : j < σ.length
  ·rw [Ud hj hlt, Ud hj (by omega)]
  ·rw [List.getElem?_eq_none (by rw [wipe_length]; omega), List.getElem?_eq_none (by rw [wipe_length]; omega)]
 ·rw [wipe_out hj, wipe_out hj, h j hj]
theorem vA (e1 env : En) : ∀ vs : List Nat, (uC vs e1 env).length = env.length
 | [] => rfl
 | v :: vs => by rw [uC, List.length_set, vA e1 env vs]
theorem WT {e1 env : En} {j : Nat} (hl : env.length = e1.length) : ∀ {vs : List Nat}, j ∈ vs → j < e1.length → (uC vs e1 env)[j]? = e1[j]?
 | v :: vs, h, hj => by
   rw [uC]
   by_cases e : j = v
   ·subst e
    rw [List.getElem?_set_self (by rw [vA]; omega), List.getD_eq_getElem?_getD, List.getElem?_eq_getElem hj]
    rfl
   ·rw [List.getElem?_set_ne (Ne.symm e)]
    exact WT hl ((List.mem_cons.mp h).resolve_left e) hj
theorem Qy {e1 env : En} {j : Nat} : ∀ {vs : List Nat}, j ∉ vs → (uC vs e1 env)[j]? = env[j]?
 | [], _ => rfl
 | v :: vs, h => by
   rw [uC, List.getElem?_set_ne (fun e => h (by rw [e]; exact List.mem_cons_self ..))]
   exact Qy fun z => h (List.mem_cons_of_mem _ z)
end
section
variable {K : PySem.W.Frag} {σ σ' : L2.St} {H H1 H' : Hp} {env env' e1 e2 : En} {f f1 f2 : FA} {vs : List Nat} {G : List Addr}
theorem VL (A : Abs K σ H env f) : Abs K (wipe σ vs) H (wD vs env) f := by
 refine ⟨fun i d m h => ?_, fun i j d m d' m' hij h1 h2 hl => A.dis i j d m d' m' hij (yd h1).2 (yd h2).2 hl, by rw [uh, wipe_length]; exact A.len⟩
 obtain ⟨hi, h'⟩ := yd h
 obtain ⟨v, h1, r⟩ := A.rep i d m h'
 exact ⟨v, by rw [wipe_out hi]; exact h1, r⟩
theorem Xz {b : Addr} (h : W (wD vs env) f b) : W env f b := let ⟨i, d, m, e, r, hb⟩ := h; ⟨i, d, m, (yd e).2, r, hb⟩
theorem Uc {b : Addr} (h : L0 (wD vs env) f b) : L0 env f b := let ⟨i, d, m, e, r, hb⟩ := h; ⟨i, d, m, (yd e).2, r, hb⟩
theorem qbM {b : Addr} (h : Ro (wD vs env) f b) : Ro env f b := let ⟨i, d, m, e, r, hb⟩ := h; ⟨i, d, m, (yd e).2, r, hb⟩
theorem qfo {gs : List Addr} (A : Abs K σ H1 e1 f1) (ok : (vs.all fun v => setOk e1 v) = true) (A' : Abs K (wipe σ vs) H' e2 f2) (S : Stp H1 (wD vs e1) f1 [] H' e2 f2 gs) (Kk : Kp (wD vs e1) f1 e2 f2) (n : ∀ b ∈ gs, ¬ L0 e2 f2 b ∧ ¬ Ro e2 f2 b) :
 ∃ f3, Abs K σ H' (uC vs e1 e2) f3 ∧ Stp H1 e1 f1 [] H' (uC vs e1 e2) f3 gs ∧ Kp e1 f1 (uC vs e1 e2) f3 ∧ ∀ b ∈ gs, ¬ L0 (uC vs e1 e2) f3 b ∧ ¬ Ro (uC vs e1 e2) f3 b := by
 have hlen : e2.length = e1.length := by
  have := A'.len
  rw [wipe_length] at this
  have h2 := A.len
  omega
 have okm : ∀ v ∈ vs, setOk e1 v = true := List.all_eq_true.mp ok
 have inn : ∀ {j : Nat} {x : D × Md}, j ∈ vs → (uC vs e1 e2)[j]? = some (some x) → e1[j]? = some (some x) := fun {j x} hj h => by
  have := (List.getElem?_eq_some_iff.mp h).1
  rw [vA] at this
  rwa [WT hlen hj (by omega)] at h
 have out : ∀ {j : Nat} {x : D × Md}, j ∉ vs → (uC vs e1 e2)[j]? = some (some x) → e2[j]? = some (some x) := fun {j x} hj h => by rwa [Qy hj] at h
 have frI : ∀ {j : Nat}, j ∈ vs → (if j ∈ vs then f1 j else f2 j) = f1 j := fun {j} h => if_pos h
 have frO : ∀ {j : Nat}, j ∉ vs → (if j ∈ vs then f1 j else f2 j) = f2 j := fun {j} h => if_neg h
 have hid : ∀ {j : Nat} {d : D} {m : Md}, j ∈ vs → e1[j]? = some (some (d, m)) → ∀ b ∈ f1 j, (∃ o, H1 b = some o ∧ Mu o = true) ∧ ((m.lv = 0) → ¬ L0 (wD vs e1) f1 b ∧ ¬ Ro (wD vs e1) f1 b) ∧ ¬ W (wD vs e1) f1 b := fun {j d m} hj h b hb => by
  obtain ⟨v, _, r⟩ := A.rep j d m h
  refine ⟨r.dom b hb, fun hl => ⟨?_, ?_⟩, ?_⟩
  ·rintro ⟨k, d2, m2, h2, h3, h4⟩
   obtain ⟨nk, h2'⟩ := yd h2
   exact A.dis j k _ _ _ _ (fun z => nk (z ▸ hj)) h h2' hl b hb h4
  ·rintro ⟨k, d2, m2, h2, h3, h4⟩
   obtain ⟨nk, h2'⟩ := yd h2
   exact A.dis j k _ _ _ _ (fun z => nk (z ▸ hj)) h h2' hl b hb h4
  ·rintro ⟨k, d2, m2, h2, h3, h4⟩
   obtain ⟨nk, h2'⟩ := yd h2
   exact A.dis k j _ _ _ _ (fun z => nk (z ▸ hj)) h2' h (Md.lv_of h3) b h4 hb
 have hid2 : ∀ {j : Nat} {d : D} {m : Md}, j ∈ vs → e1[j]? = some (some (d, m)) → ∀ b ∈ f1 j, ¬ (W e2 f2 b ∨ b ∈ gs) := fun {j d m} hj h b hb z => by
  obtain ⟨⟨o, ho, _⟩, _, h3⟩ := hid hj h b hb
  rcases S.own b z with z | z | z
  ·exact h3 z
  ·simp at z
  ·rw [ho] at z; cases z
 have l0out : ∀ b, L0 e2 f2 b → W e2 f2 b ∨ L0 (wD vs e1) f1 b := fun b h => Kk.l0 h
 refine ⟨fun j => if j ∈ vs then f1 j else f2 j, ⟨fun j d m h => ?_, fun j k d m d' m' hjk h1 h2 hl b hb z => ?_, by rw [vA, hlen]; exact A.len⟩, ⟨fun b o h z => ?_, fun b z => ?_⟩, ⟨?_, fun j d m h hr => ?_⟩, fun b hb => ⟨?_, ?_⟩⟩
 ·by_cases hj : j ∈ vs
  ·have h' := inn hj h
   obtain ⟨v, h3, r⟩ := A.rep j d m h'
   refine ⟨v, h3, ?_⟩
   simp only [frI hj]
   refine r.keep fun b o hb q => S.same b o hb ?_
   rcases q with q | q
   ·exact .inr ⟨(hid hj h' b q).2.2, by simp⟩
   ·exact .inl q
  ·obtain ⟨v, h3, r⟩ := A'.rep j d m (out hj h)
   refine ⟨v, by rw [wipe_out hj] at h3; exact h3, ?_⟩
   simp only [frO hj]
   exact r
 ·by_cases hj : j ∈ vs
  ·have h1' := inn hj h1
   simp only [frI hj] at hb
   by_cases hk : k ∈ vs
   ·simp only [frI hk] at z
    exact A.dis j k _ _ _ _ hjk h1' (inn hk h2) hl b hb z
   ·simp only [frO hk] at z
    have h2' := out hk h2
    obtain ⟨_, hh, _⟩ := hid hj h1' b hb
    by_cases hl2 : m'.lv = 0
    ·rcases l0out b ⟨k, d', m', h2', hl2, z⟩ with y | y
     ·exact hid2 hj h1' b hb (.inl y)
     ·exact (hh hl).1 y
    ·exact (hh hl).2 (Kk.ro' ⟨k, d', m', h2', hl2, z⟩)
  ·have h1' := out hj h1
   simp only [frO hj] at hb
   by_cases hk : k ∈ vs
   ·simp only [frI hk] at z
    have h2' := inn hk h2
    rcases l0out b ⟨j, d, m, h1', hl, hb⟩ with y | y
    ·exact hid2 hk h2' b z (.inl y)
    ·obtain ⟨i2, d2, m2, h5, h6, h7⟩ := y
     obtain ⟨nk, h5'⟩ := yd h5
     exact A.dis i2 k _ _ _ _ (fun w => nk (w ▸ hk)) h5' h2' h6 b h7 z
   ·simp only [frO hk] at z
    exact A'.dis j k _ _ _ _ hjk h1' (out hk h2) hl b hb z
 ·exact S.same b o h (z.imp_right fun z => ⟨fun w => z.1 (Xz w), by simp⟩)
 ·have inj : (W e2 f2 b ∨ b ∈ gs) → (W e1 f1 b ∨ b ∈ ([] : List Addr) ∨ H1 b = none) := fun z => (S.own b z).imp_left Xz
  rcases z with ⟨j, d, m, h, hr, hb⟩ | z
  ·by_cases hj : j ∈ vs
   ·simp only [frI hj] at hb
    exact .inl ⟨j, d, m, inn hj h, hr, hb⟩
   ·simp only [frO hj] at hb
    exact inj (.inl ⟨j, d, m, out hj h, hr, hb⟩)
  ·exact inj (.inr z)
 ·apply List.ext_getElem?
  intro j
  rw [List.getElem?_map, List.getElem?_map]
  by_cases hj : j ∈ vs
  ·by_cases hlt : j < e1.length
   ·rw [WT hlen hj hlt]
   ·rw [List.getElem?_eq_none (by rw [vA]; omega), List.getElem?_eq_none (by omega)]
  ·rw [Qy hj]
   have := congrArg (fun l => l[j]?) Kk.modes
   simp only [List.getElem?_map] at this
   rw [this, ug hj]
 ·by_cases hj : j ∈ vs
  ·refine ⟨?_, frI hj⟩
   rw [WT hlen hj (List.getElem?_eq_some_iff.mp h).1]
   exact h
  ·obtain ⟨h1, h2⟩ := Kk.ros j d m (by rw [ug hj]; exact h) hr
   exact ⟨by rw [Qy hj]; exact h1, (frO hj).trans h2⟩
 ·rintro ⟨j, d, m, h, hr, z⟩
  by_cases hj : j ∈ vs
  ·simp only [frI hj] at z
   exact hid2 hj (inn hj h) b z (.inr hb)
  ·simp only [frO hj] at z
   exact (n b hb).1 ⟨j, d, m, out hj h, hr, z⟩
 ·rintro ⟨j, d, m, h, hr, z⟩
  by_cases hj : j ∈ vs
  ·simp only [frI hj] at z
   exact hid2 hj (inn hj h) b z (.inr hb)
  ·simp only [frO hj] at z
   exact (n b hb).2 ⟨j, d, m, out hj h, hr, z⟩
end
section
variable {K : PySem.W.Frag} {σ σ' : L2.St} {H H1 H' : Hp} {env env' e1 e2 : En} {f f1 f2 : FA} {vs : List Nat} {G : List Addr} {lk : Lok}
theorem qdA {k : En → Prop} (L : Lk env lk e1) (A : Abs K σ H' e2 f2) (S : Stp H1 e1 f1 [] H' e2 f2 G) (Kk : Kp e1 f1 e2 f2) (n : ∀ b ∈ G, ¬ L0 e2 f2 b ∧ ¬ Ro e2 f2 b) (q : thaw lk e2 k) :
 ∃ e3, k e3 ∧ Abs K σ H' e3 f2 ∧ Stp H1 env f1 [] H' e3 f2 G ∧ Kp env f1 e3 f2 ∧ ∀ b ∈ G, ¬ L0 e3 f2 b ∧ ¬ Ro e3 f2 b := by
 obtain ⟨e3, q3, A3, S3, _, _⟩ := Uo (σ := σ) L A S Kk.kq q
 cases L with
 | none => exact ⟨e2, q, A, S, Kk, n⟩
 | @some i d m e l =>
   have hi : i < env.length := (List.getElem?_eq_some_iff.mp e).1
   have he1 : (env.set i (some (d, Md.lk)))[i]? = some (some (d, Md.lk)) := jm hi
   obtain ⟨he2, hf⟩ := Kk.ros i d .lk he1 rfl
   have hi2 : i < e2.length := (List.getElem?_eq_some_iff.mp he2).1
   have q' := q
   simp only [thaw, he2] at q'
   have A4 : Abs K σ H' (e2.set i (some (d, m))) f2 := Q9 A he2 rfl l
   have S4 : Stp H1 env f1 [] H' (e2.set i (some (d, m))) f2 G := by
    have LL : Lk env (some (i, m)) (env.set i (some (d, .lk))) := .some e l
    refine ⟨fun b o h z => S.same b o h (z.imp_right fun z => ⟨fun w => z.1 (LL.w w), z.2⟩), fun b z => ?_⟩
    have inj : (W e2 f2 b ∨ b ∈ G) → (W env f1 b ∨ b ∈ ([] : List Addr) ∨ H1 b = none) := fun z => (S.own b z).imp_left fun w => LL.w w
    rcases z with ⟨j, d1, m1, q1, hr, hb⟩ | z
    ·by_cases hj : j = i
     ·subst hj
      rw [jm hi2] at q1; cases q1
      rw [hf] at hb
      exact .inl ⟨j, d, m, e, hr, hb⟩
     ·rw [yS hj] at q1
      exact inj (.inl ⟨j, d1, m1, q1, hr, hb⟩)
    ·exact inj (.inr z)
   have back : ∀ {j : Nat} {d1 : D} {m1 : Md}, (e2.set i (some (d, m)))[j]? = some (some (d1, m1)) → ∃ m2, e2[j]? = some (some (d1, m2)) ∧ m2.lv = m1.lv := fun {j d1 m1} q => by
    by_cases hj : j = i
    ·subst hj
     rw [jm hi2] at q; cases q
     exact ⟨.lk, he2, l.symm⟩
    ·rw [yS hj] at q
     exact ⟨m1, q, rfl⟩
   refine ⟨_, q', A4, S4, ⟨?_, fun j d1 m1 h hr => ?_⟩, fun b hb => ⟨?_, ?_⟩⟩
   ·apply List.ext_getElem?
    intro j
    rw [List.getElem?_map, List.getElem?_map]
    by_cases hj : j = i
    ·subst hj
     rw [jm hi2, e]
     try rfl
    ·rw [yS hj]
     have := congrArg (fun l => l[j]?) Kk.modes
     simp only [List.getElem?_map] at this
     rw [this, yS hj]
   ·by_cases hj : j = i
    ·subst hj
     rw [e] at h; cases h
     exact ⟨jm hi2, hf⟩
    ·obtain ⟨a, b⟩ := Kk.ros j d1 m1 (by rw [yS hj]; exact h) hr
     exact ⟨by rw [yS hj]; exact a, b⟩
   ·rintro ⟨j, d1, m1, h, hr, z⟩
    obtain ⟨m2, h2, h3⟩ := back h
    exact (n b hb).1 ⟨j, d1, m2, h2, h3.trans hr, z⟩
   ·rintro ⟨j, d1, m1, h, hr, z⟩
    obtain ⟨m2, h2, h3⟩ := back h
    exact (n b hb).2 ⟨j, d1, m2, h2, by rw [h3]; exact hr, z⟩
theorem Abs.upd_free {Da : Addr} {o : HO} {vs0 : List V} (A : Abs K σ H env f) (hD : H Da = some (.lst vs0)) (n : ¬ L0 env f Da ∧ ¬ Ro env f Da) : Abs K σ (L2.upd H Da o) env f := by
 refine ⟨fun i d m h => ?_, A.dis, A.len⟩
 obtain ⟨v, h1, r⟩ := A.rep i d m h
 refine ⟨v, h1, r.keep fun b ob hb q => ?_⟩
 have : b ≠ Da := fun z => by
  subst z
  rcases q with q | q
  ·by_cases hl : m.lv = 0
   ·exact n.1 ⟨i, d, m, h, hl, q⟩
   ·exact n.2 ⟨i, d, m, h, hl, q⟩
  ·rw [hD] at hb; cases hb; cases q
 rw [upd_ne this]
 exact hb
theorem qfT {ti : XI} {g : XG} {tt : XT} {te : XE} {ts : List Nat} (hi : qgt ti) (mg : VG g) (mt : VF tt) (me : xr te) (hts : ∀ t ∈ ts, t ∈ vs) {Q : VK} (q : jk K (dLc ti g tt te vs) σ H Q) :
 tLc (qhC K ti) (qfS K ts g) (liftT K tt) (jk K te) vs σ H Q := by
 obtain ⟨env, f, A, q⟩ := q
 refine ⟨env, f, A, hi _ _ _ (fun ds kd lk e1 q => ?_) q⟩
 intro J H1 f1 P env' A1 S1 K1 L Wa hP hPL Da hDa
 have A1' := L.abs A1
 obtain ⟨ok, q⟩ := q
 refine ⟨fun i m H' => m = ds.length - i ∧ i ≤ ds.length ∧ ∃ e f' acc va ga, Abs K (wipe σ vs) H' e f' ∧ Stp H1 (wD vs e1) f1 [] H' e f' (Da :: ga) ∧ Kp (wD vs e1) f1 e f' ∧ H' Da = some (.lst va) ∧ Reps K H' 0 acc va ga ∧ Da ∉ ga ∧
  (∀ b ∈ Da :: ga, ¬ L0 e f' b ∧ ¬ Ro e f' b) ∧ lcL g tt te kd vs (ds.drop i) e acc (fun acc e2 => thaw lk (uC vs e1 e2) fun e3 => qdp K σ H env f Q (.tmp (.lst acc)) e3),
  ⟨ds.length, by simp, Nat.zero_le _, wD vs e1, f1, [], [], [], (VL A1').ext (Ext.upd hDa).same, (Stp.refl.new (Ext.upd hDa) : Stp H1 (wD vs e1) f1 [] _ _ _ ([Da] ++ [])), .refl, upd_same, .nil, by simp, fun b hb => ?_, q⟩, fun i m H' w => ?_⟩
 ·have hb' : b = Da := by simpa using hb
  subst hb'
  refine ⟨fun z => ?_, fun z => ?_⟩
  ·obtain ⟨o, ho, _⟩ := A1'.ldom (Uc z)
   rw [hDa] at ho; cases ho
  ·obtain ⟨o, ho, _⟩ := A1'.rdom (qbM z)
   rw [hDa] at ho; cases ho
 obtain ⟨rfl, hi', e, f', acc, va, ga, A', S', K', hD, rg, nD, fr, q⟩ := w
 have near : Near H1 P H' := fun b o h z => S'.same b o h (by
  rcases z with z | z
  ·exact .inr ⟨fun w => (hP b z).2 (Xz w), by simp⟩
  ·exact .inl z)
 have gdom : ∀ b ∈ Da :: ga, ∃ o, H' b = some o := fun b hb => by
  rcases List.mem_cons.mp hb with rfl | hb
  ·exact ⟨_, hD⟩
  ·obtain ⟨o, ho, _⟩ := rg.dom b hb
   exact ⟨o, ho⟩
 by_cases hlt : i < ds.length
 ·refine .inr ⟨Wa.go i H' near hlt, fun H2 => _, fun H2 n2 => ⟨ds.length - (i + 1), by omega, n2⟩, fun x H2 hy => ?_⟩
  obtain ⟨sm, itm⟩ := Wa.yld i H' x H2 ds[i] near (List.getElem?_eq_getElem hlt) hy
  rw [List.drop_eq_getElem_cons hlt] at q
  have nl : kd.isSome = true → ∀ b ∈ P, ¬ L0 e f' b := fun hk b hb z => by
   rcases K'.l0 z with z | z
   ·rcases S'.own b (.inl z) with z | z | z
    ·exact (hP b hb).2 (Xz z)
    ·simp at z
    ·obtain ⟨o, ho⟩ := (hP b hb).1
     rw [z] at ho; cases ho
   ·exact hPL hk b hb (Uc z)
  have A2' := A'.ext sm
  refine ⟨e, f', mkI kd ds[i], [], A2', qao itm nl, mg _ _ _ _ (fun e2 q2 => ?_) q⟩
  intro σ2 f2 A2 S2 K2 _ _ M2
  have hw : wipe σ2 vs = wipe σ vs := (XC M2.1 fun j hj => (M2.2.2 j fun z => hj (hts j z)).1).trans (XC (wipe_length σ vs) fun j hj => wipe_out hj)
  have T2 : Stp H' e f' [] H2 e2 f2 [] := (Stp.refl.ext sm).trans S2
  have fin : ∀ {Hx : Hp} {ex : En} {fx : FA} {gx : List Addr}, Abs K σ2 Hx ex fx → Stp H' e f' [] Hx ex fx gx → Kp e2 f2 ex fx → Hx Da = some (.lst va) ∧ Reps K Hx 0 acc va ga ∧ (∀ b ∈ Da :: ga, b ∉ gx) ∧ (∀ b ∈ Da :: ga, ¬ L0 (wD vs ex) fx b ∧ ¬ Ro (wD vs ex) fx b) ∧
   Kp (wD vs e1) f1 (wD vs ex) fx ∧ Stp H1 (wD vs e1) f1 [] Hx (wD vs ex) fx ((Da :: ga) ++ gx) ∧ Abs K (wipe σ vs) Hx (wD vs ex) fx := fun {Hx ex fx gx} Ax T Kx => by
   have far : ∀ b ∈ Da :: ga, ¬ (W ex fx b ∨ b ∈ gx) := fun b hb z => by
    rcases T.own b z with z | z | z
    ·exact (fr b hb).1 z.l0
    ·simp at z
    ·obtain ⟨o, ho⟩ := gdom b hb
     rw [z] at ho; cases ho
   have at2 : ∀ {j : Nat} {d : D} {m : Md}, j ∉ vs → ex[j]? = some (some (d, m)) → m.rd = true → e[j]? = some (some (d, m)) ∧ fx j = f' j := fun {j d m} hj h hr => by
    obtain ⟨d', h2⟩ := Kx.slot' h
    obtain ⟨h3, h4⟩ := Kx.ros j d' m h2 hr
    rw [h] at h3; cases h3
    obtain ⟨_, h5, h6⟩ := M2.2.2 j fun z => hj (hts j z)
    exact ⟨by rw [← h5]; exact h2, h4.trans h6⟩
   refine ⟨T.same Da _ hD (.inr ⟨fun z => (fr Da (List.mem_cons_self ..)).1 z.l0, by simp⟩), rg.keep fun b o hb z => T.same b o hb ?_, fun b hb z => far b hb (.inr z), fun b hb => ⟨?_, ?_⟩, ⟨?_, fun j d m h hr => ?_⟩, ⟨fun b o h z => ?_, fun b z => ?_⟩, by rw [← hw]; exact VL Ax⟩
   ·rcases z with z | z
    ·exact .inr ⟨fun w => (fr b (List.mem_cons_of_mem _ z)).1 w.l0, by simp⟩
    ·exact .inl z
   ·rintro ⟨j, d, m, h, hr, z⟩
    obtain ⟨hj, h'⟩ := yd h
    cases hm : m.rd with
    | false => exact far b hb (.inl ⟨j, d, m, h', hm, z⟩)
    | true =>
      obtain ⟨h2, h3⟩ := at2 hj h' hm
      rw [h3] at z
      exact (fr b hb).1 ⟨j, d, m, h2, hr, z⟩
   ·rintro ⟨j, d, m, h, hr, z⟩
    obtain ⟨hj, h'⟩ := yd h
    obtain ⟨h2, h3⟩ := at2 hj h' (Md.rd_of hr)
    rw [h3] at z
    exact (fr b hb).2 ⟨j, d, m, h2, hr, z⟩
   ·apply List.ext_getElem?
    intro j
    rw [List.getElem?_map, List.getElem?_map]
    have lx : ex.length = e1.length := by
     have a1 := Ax.len
     have a2 := A1'.len
     have a3 := M2.1
     rw [wipe_length] at a3
     omega
    by_cases hj : j ∈ vs
    ·by_cases hjl : j < e1.length
     ·rw [WP hj hjl, WP hj (by omega)]
     ·rw [List.getElem?_eq_none (by rw [uh]; omega), List.getElem?_eq_none (by rw [uh]; omega)]
    ·rw [ug hj]
     have m1 := congrArg (fun l => l[j]?) Kx.modes
     have m2 := congrArg (fun l => l[j]?) K'.modes
     simp only [List.getElem?_map] at m1 m2
     rw [m1, (M2.2.2 j fun z => hj (hts j z)).2.1, m2]
   ·obtain ⟨hj, h'⟩ := yd h
    obtain ⟨h1, h2⟩ := K'.ros j d m h hr
    obtain ⟨_, h5, h6⟩ := M2.2.2 j fun z => hj (hts j z)
    obtain ⟨h3, h4⟩ := Kx.ros j d m (by rw [h5]; exact h1) hr
    exact ⟨by rw [ug hj]; exact h3, h4.trans (h6.trans h2)⟩
   ·exact T.same b o (S'.same b o h z) (by
     rcases z with z | z
     ·exact .inl z
     ·refine .inr ⟨fun w => ?_, by simp⟩
      rcases S'.own b (.inl w) with y | y | y
      ·exact z.1 y
      ·simp at y
      ·rw [h] at y; cases y)
   ·have base : (W e f' b ∨ b ∈ ([] : List Addr) ∨ H' b = none) → (W (wD vs e1) f1 b ∨ b ∈ ([] : List Addr) ∨ H1 b = none) := fun y => by
     rcases y with y | y | y
     ·exact S'.own b (.inl y)
     ·simp at y
     ·by_cases hwb : W (wD vs e1) f1 b
      ·exact .inl hwb
      ·refine .inr (.inr ?_)
       cases ho : H1 b with
       | none => rfl
       | some o =>
         have := S'.same b o ho (.inr ⟨hwb, by simp⟩)
         rw [y] at this; cases this
    rcases z with z | z
    ·exact base (T.own b (.inl (Xz z)))
    ·rcases List.mem_append.mp z with z | z
     ·exact S'.own b (.inr z)
     ·exact base (T.own b (.inr z))
  refine ⟨hw, e2, f2, A2, mt _ _ _ (fun b e3 q3 => ?_) q2⟩
  intro H3 f3 A3 S3 K3
  cases b with
  | true =>
    rw [if_pos rfl]
    refine ⟨e3, f3, A3, me _ _ _ (fun r e4 q4 => ?_) (q3.1 rfl)⟩
    intro y H4 f4 g4 A4 R4 S4 K4
    obtain ⟨dd, rd1, ⟨hz, q4⟩, n4⟩ := Qg A4 R4 q4
    obtain ⟨c1, c2, c3, c4, c5, c6, c7⟩ := fin A4 ((T2.trans S3).trans S4) (K3.trans K4)
    refine ⟨va, c1, by rw [← c2.len]; exact hz, rfl, hlt, wD vs e4, f4, acc ++ [dd], va ++ [y], ga ++ g4, c7.upd_free c1 (c4 Da (List.mem_cons_self ..)), ?_, c5, upd_same, ?_, ?_, fun b hb => ?_, q4⟩
    ·refine ⟨fun b o h z => ?_, fun b z => c6.own b (z.imp_right fun y => by simpa using y)⟩
     have : b ≠ Da := fun w => by subst w; rw [hDa] at h; cases h
     rw [upd_ne this]
     exact c6.same b o h z
    ·have both : Reps K H4 0 (acc ++ [dd]) (va ++ [y]) (ga ++ g4) := c2.append (.one rd1) fun _ b hb z => c3 b (List.mem_cons_of_mem _ hb) z
     refine both.keep fun b o hb z => ?_
     have : b ≠ Da := fun w => by
      subst w
      rcases z with z | z
      ·rcases List.mem_append.mp z with z | z
       ·exact nD z
       ·exact c3 b (List.mem_cons_self ..) z
      ·rw [c1] at hb; cases hb; cases z
     rw [upd_ne this]
     exact hb
    ·exact fun z => (List.mem_append.mp z).elim nD (c3 Da (List.mem_cons_self ..))
    ·rcases List.mem_cons.mp hb with rfl | hb
     ·exact c4 b (List.mem_cons_self ..)
     ·rcases List.mem_append.mp hb with hb | hb
      ·exact c4 b (List.mem_cons_of_mem _ hb)
      ·exact ⟨fun z => (n4 b hb).1 (Uc z), fun z => (n4 b hb).2 (qbM z)⟩
  | false =>
    rw [if_neg Bool.false_ne_true]
    obtain ⟨c1, c2, c3, c4, c5, c6, c7⟩ := fin A3 (T2.trans S3) K3
    exact ⟨rfl, hlt, wD vs e3, f3, acc, va, ga, c7, c6.drop fun b hb => List.mem_append_left _ hb, c5, c1, c2, nD, c4, q3.2 rfl⟩
 ·have hie : i = ds.length := by omega
  subst hie
  rw [List.drop_length] at q
  obtain ⟨f3, A3, S3, K3, n3⟩ := qfo A1' ok A' S' K' fr
  obtain ⟨e4, q4, A4, S4, K4, n4⟩ := qdA L A3 S3 K3 n3 q
  exact .inl ⟨Wa.stop _ _ near (Nat.le_refl _), q4 (.ref Da) H' f3 (Da :: ga) A4 (.tmp (.lst hD rg fun _ => nD) n4) (S1.trans S4) (K1.trans K4)⟩
end
structure DTs (X : Cx) (ifs : List Expr) (t : XT) : Prop where
 run : PTs X ifs (liftT X.K t)
 mono : VF t
theorem PTs.imp {X : Cx} {ifs : List Expr} {t u : TT} (h : PTs X ifs t) (k : ∀ σ H Q, u σ H Q → t σ H Q) : PTs X ifs u := ⟨fun pins s σ H Q I q => h.run pins s σ H Q I (k _ _ _ q)⟩
section
variable {X : Cx}
theorem xH : DTs X [] xYes := ⟨PTs.imp pts_nil fun σ H Q ⟨env, f, A, q⟩ => q H f A .refl .refl, fun env Q Q' h q => h _ _ q⟩
theorem j9 {c : Expr} {t : XT} (h : DT X c t) : DTs X [c] t := ⟨pts_one h.run, h.mono⟩
theorem qek {ti : XI} {g : XG} {tt : XT} {te : XE} {vs : List Nat} (hi : qgt ti) (mg : VG g) (mt : VF tt) (me : xr te) : xr (dLc ti g tt te vs) := fun env Q Q' h q =>
 hi _ _ _ (fun ds kd lk e1 q => ⟨q.1, Xg mg mt me ds _ _ _ _ (fun a e q => Ze (fun e q => h _ _ q) q) q.2⟩) q
variable {elt tg iter : Expr} {ifs : List Expr} {scope : Scope} {own : List (Str × Nat)} {pos : Pos} {ti : XI} {g : XG} {tt : XT} {te : XE} {ts : List Nat}
theorem jn (hx : Ok X) (hN : X.N.Nodup) (hi : DI X tg iter ti) (ok : BlkOk X.N X.env.scope scope own)
 (hg : ∀ (s : Shared) (H : Hp) (C : Addr) (cl : List (Str × Addr)) (fp : List Addr), DG (X.blk s H scope (compEnvC scope cl C X.env) fp) tg ts g) (ht : ∀ (s : Shared) (H : Hp) (C : Addr) (cl : List (Str × Addr)) (fp : List Addr), DTs (X.blk s H scope (compEnvC scope cl C X.env) fp) ifs tt)
 (he : ∀ (s : Shared) (H : Hp) (C : Addr) (cl : List (Str × Addr)) (fp : List Addr), DE (X.blk s H scope (compEnvC scope cl C X.env) fp) elt te) (hts : ∀ t ∈ ts, t ∈ own.map (·.2)) (hs : ∀ x, foldedSetIterable iter X.env x = pure x := by intro _; rfl) :
 DE X (.ListComp elt [⟨tg, iter, ifs, 0⟩] scope pos) (dLc ti g tt te (own.map (·.2))) :=
 have mg := (hg X.s_0 X.H_0 0 [] []).mono
 have mt := (ht X.s_0 X.H_0 0 [] []).mono
 have me := (he X.s_0 X.H_0 0 [] []).mono
 ⟨PE.imp (pe_lc hx.calm hN hi.run ok (fun s H C cl fp => (hg s H C cl fp).run) (fun s H C cl fp => (ht s H C cl fp).run) (fun s H C cl fp => (he s H C cl fp).run) hs) fun σ H Q q => qfT hi.mono mg mt me hts q, qek hi.mono mg mt me⟩
end
section
variable {P : Program} {w : World} {K : PySem.W.Frag} {mg : Str → Option Value} {base : Heap}
def fill (n : Nat) : En := List.replicate n none
def Yn : List Md → List D → En → Option (List D)
 | [], [], _ => some []
 | .io :: ms, _ :: ds, x :: e => match x with
   | some (d, .io) => (Yn ms ds e).map (d :: ·)
   | _ => none
 | _ :: ms, d :: ds, _ :: e => (Yn ms ds e).map (d :: ·)
 | _, _, _ => none
def Back (ms : List Md) (ds ds' : List D) (e : En) : Prop := ds'.length = ms.length ∧ ∀ p : Nat, (ms[p]? = some Md.io → ∃ d : D, ds'[p]? = some d ∧ e[p]? = some (some (d, Md.io))) ∧ (ms[p]? ≠ some Md.io → ds'[p]? = ds[p]?)
theorem JT {m : Md} {ms : List Md} {d0 d1 : D} {ds ds' : List D} {x : Option (D × Md)} {e : En} (h : Back ms ds ds' e) (h1 : m = .io → x = some (d1, .io)) (h2 : m ≠ .io → d1 = d0) : Back (m :: ms) (d0 :: ds) (d1 :: ds') (x :: e) := by
 refine ⟨by rw [List.length_cons, List.length_cons, h.1], fun p => ?_⟩
 cases p with
 | zero => exact ⟨fun z => ⟨d1, rfl, by rw [List.getElem?_cons_zero, h1 (Option.some.inj z)]⟩, fun z => by rw [List.getElem?_cons_zero, List.getElem?_cons_zero, h2 fun y => z (by rw [List.getElem?_cons_zero, y])]⟩
 | succ p => simpa using h.2 p
theorem Xx : ∀ {ms : List Md} {ds : List D} {e : En} {ds' : List D}, ds.length = ms.length → Yn ms ds e = some ds' → Back ms ds ds' e
 | [], [], e, ds', _, h => by
   rw [Yn] at h; cases h
   exact ⟨rfl, fun p => ⟨fun z => by simp at z, fun _ => rfl⟩⟩
 | [], _ :: _, _, _, l, _ => by simp at l
 | _ :: _, [], _, _, l, _ => by simp at l
 | m :: ms, d :: ds, [], ds', _, h => by cases m <;> (rw [Yn] at h <;> first | (cases h; done) | (intros; contradiction))
 | m :: ms, d :: ds, x :: e, ds', l, h => by
   have l' : ds.length = ms.length := by simpa using l
   cases m with
   | io =>
     simp only [Yn] at h
     split at h
     ·cases h2 : Yn ms ds e with
      | none => rw [h2] at h; cases h
      | some r => rw [h2] at h; cases h; exact JT (Xx l' h2) (fun _ => rfl) fun z => absurd rfl z
     ·cases h
   | _ =>
     simp only [Yn] at h
     cases h2 : Yn ms ds e with
     | none => rw [h2] at h; cases h
     | some r => rw [h2] at h; cases h; exact JT (Xx l' h2) (fun z => nomatch z) fun _ => rfl
def outD (S : FS) (ds : List D) (Q : D → List D → Prop) (d : D) (e : En) : Prop := match Yn S.ms ds e with
 | some ds' => Q d ds'
 | none => False
def BodyOk (S : FS) (n : Nat) (t : XS) : Prop := ∀ ds Q, ds.length = S.ms.length → S.wp ds Q → t (penv S.ms ds ++ fill (n - S.ms.length)) (outD S ds Q .non) (outD S ds Q)
theorem Room.ok {X : Cx} {k : Nat} (hr : Room k X.A) (hc : X.calm = true := by rfl) : Ok X := ⟨hc, by have := hr.un; omega⟩
theorem qde {qual : Str} {st : Stmt} {f : Addr} {N ps : List Str} {S : FS} {t : XS} {cdv : Value} {A : Around} {outer : List PySem.Env} {s : Shared} {H : Hp} {E E' : XK} {vs : List V} {Q : VK} (Sc : FnScope N ps (defScope st)) (hms : S.ms.length = ps.length) (okm : ∀ m ∈ S.ms, m ≠ .own ∧ m ≠ .lk)
 (Dr : DSs (cxOf CX0 P w K mg base N qual (defScope st) f cdv A outer s H E).nox (defBody st) t) (body : BodyOk S N.length t) (h : spOf K S vs H Q E') : qcz K t { nx := fun _ H' => Q .non H', rt := Q } (L2.start N vs) H := by
 obtain ⟨hl, ds, fa, hd, Ab, hw⟩ := h
 have hNl : S.ms.length ≤ N.length := by
  have := congrArg List.length Sc.pre
  rw [List.length_take] at this
  omega
 have pl := YZ hd
 have A0 : Abs K (L2.start N vs) H (penv S.ms ds ++ fill (N.length - S.ms.length)) fa := by
  have inn : ∀ {i : Nat} {y : D × Md}, (penv S.ms ds ++ fill (N.length - S.ms.length))[i]? = some (some y) → (penv S.ms ds)[i]? = some (some y) := fun {i y} h => by
   by_cases hi : i < (penv S.ms ds).length
   ·rwa [List.getElem?_append_left hi] at h
   ·rw [List.getElem?_append_right (by omega)] at h
    unfold fill at h
    rw [List.getElem?_replicate] at h
    split at h <;> cases h
  refine ⟨fun i d m h => ?_, fun i j d m d' m' hij h1 h2 => Ab.dis i j d m d' m' hij (inn h1) (inn h2), by unfold L2.start fill; simp [pl, hl]⟩
  obtain ⟨v, h1, r⟩ := Ab.rep i d m (inn h)
  refine ⟨v, ?_, r⟩
  unfold L2.start
  rw [List.getElem?_append_left (List.getElem?_eq_some_iff.mp h1).1]
  exact h1
 have fin0 : ∀ (d : D) (e : En) (ds' : List D), Back S.ms ds ds' e → (∀ v H' f' g, ds'.length = S.ms.length → Abs K (vs.map some) H' (penv S.ms ds') f' → Rep K H' 0 d v g → (∀ b ∈ g, ¬ L0 (penv S.ms ds') f' b ∧ ¬ Ro (penv S.ms ds') f' b) → Stp H (penv S.ms ds) fa [] H' (penv S.ms ds') f' g → Kp (penv S.ms ds) fa (penv S.ms ds') f' → Q v H') →
  JZ K (L2.start N vs) H (penv S.ms ds ++ fill (N.length - S.ms.length)) fa Q d e := fun d e ds' ⟨hl', hp⟩ q => by
  intro v σ' H' f' g A' rv nv S' K'
  have app : ∀ {i : Nat} {y : D × Md}, (penv S.ms ds)[i]? = some (some y) → (penv S.ms ds ++ fill (N.length - S.ms.length))[i]? = some (some y) := fun {i y} h => by
   rw [List.getElem?_append_left (List.getElem?_eq_some_iff.mp h).1]; exact h
  have appW : ∀ b, W (penv S.ms ds ++ fill (N.length - S.ms.length)) fa b → W (penv S.ms ds) fa b := fun b ⟨i, d1, m1, h1, h2, h3⟩ => by
   by_cases hi : i < (penv S.ms ds).length
   ·rw [List.getElem?_append_left hi] at h1
    exact ⟨i, d1, m1, h1, h2, h3⟩
   ·rw [List.getElem?_append_right (by omega)] at h1
    unfold fill at h1
    rw [List.getElem?_replicate] at h1
    split at h1 <;> cases h1
  have W0 : ∀ b, (W e f' b ∨ b ∈ g) → (W (penv S.ms ds) fa b ∨ H b = none) := fun b z => by
   rcases S'.own b z with z | z | z
   ·exact .inl (appW b z)
   ·simp at z
   ·exact .inr z
  have same : ∀ b o, H b = some o → (Mu o = false ∨ ¬ W (penv S.ms ds) fa b) → H' b = some o := fun b o h z => S'.same b o h (z.imp_right fun z => ⟨fun w => z (appW b w), by simp⟩)
  have par : ∀ {p : Nat} {d1 : D} {m1 : Md}, (penv S.ms ds')[p]? = some (some (d1, m1)) → (m1 = .io ∧ S.ms[p]? = some .io ∧ e[p]? = some (some (d1, .io)) ∧ ∃ v, vs[p]? = some v ∧ σ'[p]? = some (some v)) ∨ (m1 ≠ .io ∧ m1.lv ≠ 0 ∧ (penv S.ms ds)[p]? = some (some (d1, m1))) := fun {p d1 m1} h => by
   obtain ⟨h1, h2⟩ := yo.mp h
   by_cases hm : m1 = .io
   ·subst hm
    left
    obtain ⟨d2, e1, e2⟩ := (hp p).1 h2
    rw [h1] at e1; cases e1
    have hpl : p < ds.length := by have := (List.getElem?_eq_some_iff.mp h2).1; omega
    have h0 : (penv S.ms ds)[p]? = some (some (ds[p], Md.io)) := yo.mpr ⟨List.getElem?_eq_getElem hpl, h2⟩
    obtain ⟨hσ, _⟩ := K'.io p _ (app h0)
    obtain ⟨v, hv, _⟩ := Ab.rep p _ _ h0
    refine ⟨rfl, h2, e2, v, ?_, ?_⟩
    ·rw [List.getElem?_map] at hv
     cases hvp : vs[p]? with
     | none => rw [hvp] at hv; cases hv
     | some v' => rw [hvp] at hv; cases hv; rfl
    ·rw [hσ]
     unfold L2.start
     rw [List.getElem?_append_left (List.getElem?_eq_some_iff.mp hv).1]
     exact hv
   ·right
    have hne : S.ms[p]? ≠ some .io := fun z => by rw [h2] at z; cases z; exact hm rfl
    rw [(hp p).2 hne] at h1
    obtain ⟨n1, n2⟩ := okm m1 (List.mem_of_getElem? h2)
    refine ⟨hm, ?_, yo.mpr ⟨h1, h2⟩⟩
    cases m1 <;> first | exact absurd rfl n1 | exact absurd rfl n2 | exact absurd rfl hm | (intro z; cases z)
  have ff : ∀ p, (if S.ms[p]? = some Md.io then f' p else fa p) = (if S.ms[p]? = some Md.io then f' p else fa p) := fun _ => rfl
  have ro0 : ∀ {p : Nat} {d1 : D} {m1 : Md}, (penv S.ms ds)[p]? = some (some (d1, m1)) → ∀ b ∈ fa p, ∃ o, H b = some o ∧ Mu o = true := fun {p d1 m1} h b hb => by
   obtain ⟨v, _, r⟩ := Ab.rep p d1 m1 h
   exact r.dom b hb
  have roW : ∀ {p : Nat} {d1 : D} {m1 : Md}, m1.lv ≠ 0 → (penv S.ms ds)[p]? = some (some (d1, m1)) → ∀ b ∈ fa p, ¬ W (penv S.ms ds) fa b := fun {p d1 m1} hm h b hb ⟨j, d2, m2, h1, h2, h3⟩ => by
   refine Ab.dis j p d2 m2 d1 m1 (fun z => ?_) h1 h (Md.lv_of h2) b h3 hb
   subst z
   rw [h1] at h; cases h
   exact hm (Md.lv_of h2)
  have ioI : ∀ {p : Nat}, S.ms[p]? = some Md.io → (if S.ms[p]? = some Md.io then f' p else fa p) = f' p := fun {p} h => if_pos h
  have ioN : ∀ {p : Nat}, S.ms[p]? ≠ some Md.io → (if S.ms[p]? = some Md.io then f' p else fa p) = fa p := fun {p} h => if_neg h
  have nio : ∀ {p : Nat} {d1 : D} {m1 : Md}, m1 ≠ .io → (penv S.ms ds)[p]? = some (some (d1, m1)) → S.ms[p]? ≠ some Md.io := fun {p d1 m1} hm h z => by
   have := (yo.mp h).2
   rw [z] at this; cases this
   exact hm rfl
  have free : ∀ {p : Nat} {d1 : D} {m1 : Md}, m1.lv ≠ 0 → (penv S.ms ds)[p]? = some (some (d1, m1)) → ∀ b, (W e f' b ∨ b ∈ g) → b ∉ fa p := fun {p d1 m1} hm h b z hb => by
   rcases W0 b z with y | y
   ·exact roW hm h b hb y
   ·obtain ⟨o, ho, _⟩ := ro0 h b hb
    rw [y] at ho; cases ho
  refine q v H' (fun p => if S.ms[p]? = some Md.io then f' p else fa p) g hl' ⟨fun p d1 m1 h => ?_, fun p j d1 m1 d2 m2 hpj h1 h2 hl0 b hb z => ?_, by rw [YZ hl', List.length_map]; omega⟩ rv (fun b hb => ⟨?_, ?_⟩) ⟨fun b o h z => same b o h (z.imp_right And.left), fun b z => ?_⟩ ⟨?_, fun j d1 m1 h hr => ?_⟩
  ·rcases par h with ⟨rfl, hm, he, v', hv, hσ⟩ | ⟨hm, hlv, h0⟩
   ·obtain ⟨v2, h3, r⟩ := A'.rep p d1 .io he
    rw [hσ] at h3; cases h3
    refine ⟨v', by rw [List.getElem?_map, hv]; rfl, ?_⟩
    simp only [ioI hm]
    exact r
   ·obtain ⟨v2, h3, r⟩ := Ab.rep p d1 m1 h0
    refine ⟨v2, h3, ?_⟩
    simp only [ioN (nio hm h0)]
    exact r.keep fun b o hb z => same b o hb (z.symm.imp_right fun z => roW hlv h0 b z)
  ·rcases par h1 with ⟨rfl, hm, he, _⟩ | ⟨hm, hlv, h0⟩
   ·simp only [ioI hm] at hb
    rcases par h2 with ⟨rfl, hm2, he2, _⟩ | ⟨hm2, hlv2, h02⟩
    ·simp only [ioI hm2] at z
     exact A'.dis p j _ _ _ _ hpj he he2 rfl b hb z
    ·simp only [ioN (nio hm2 h02)] at z
     exact free hlv2 h02 b (.inl ⟨p, d1, .io, he, rfl, hb⟩) z
   ·exact absurd hl0 hlv
  ·rintro ⟨p, d1, m1, h, hl0, z⟩
   rcases par h with ⟨rfl, hm, he, _⟩ | ⟨hm, hlv, h0⟩
   ·simp only [ioI hm] at z
    exact nv b hb p d1 .io he (.inl rfl) z
   ·exact absurd hl0 hlv
  ·rintro ⟨p, d1, m1, h, hl0, z⟩
   rcases par h with ⟨rfl, hm, he, _⟩ | ⟨hm, hlv, h0⟩
   ·exact hl0 rfl
   ·simp only [ioN (nio hm h0)] at z
    exact free hlv h0 b (.inr hb) z
  ·rcases z with ⟨p, d1, m1, h, hr, hb⟩ | z
   ·rcases par h with ⟨rfl, hm, he, _⟩ | ⟨hm, hlv, h0⟩
    ·simp only [ioI hm] at hb
     exact (W0 b (.inl ⟨p, d1, .io, he, rfl, hb⟩)).imp_right .inr
    ·exact absurd (Md.lv_of hr) hlv
   ·exact (W0 b (.inr z)).imp_right .inr
  ·apply List.ext_getElem?
   intro p
   rw [List.getElem?_map, List.getElem?_map]
   unfold penv
   rw [List.getElem?_zipWith, List.getElem?_zipWith]
   cases hm : S.ms[p]? with
   | none => cases ds[p]? <;> cases ds'[p]? <;> rfl
   | some m =>
     have hp1 : p < ds.length := by have := (List.getElem?_eq_some_iff.mp hm).1; omega
     have hp2 : p < ds'.length := by have := (List.getElem?_eq_some_iff.mp hm).1; omega
     rw [List.getElem?_eq_getElem hp1, List.getElem?_eq_getElem hp2]
     rfl
  ·obtain ⟨h1, h2⟩ := yo.mp h
   have hne : S.ms[j]? ≠ some .io := fun z => by rw [h2] at z; cases z; cases hr
   exact ⟨yo.mpr ⟨by rw [(hp j).2 hne]; exact h1, h2⟩, ioN hne⟩
 have fin : ∀ (d : D) (e : En), outD S ds (fun d ds' => ∀ v H' f' g, ds'.length = S.ms.length → Abs K (vs.map some) H' (penv S.ms ds') f' → Rep K H' 0 d v g → (∀ b ∈ g, ¬ L0 (penv S.ms ds') f' b ∧ ¬ Ro (penv S.ms ds') f' b) → Stp H (penv S.ms ds) fa [] H' (penv S.ms ds') f' g → Kp (penv S.ms ds) fa (penv S.ms ds') f' → Q v H') d e →
  JZ K (L2.start N vs) H (penv S.ms ds ++ fill (N.length - S.ms.length)) fa Q d e := fun d e qq => by
  unfold outD at qq
  split at qq
  ·rename_i ds' hbk
   exact fin0 d e ds' (Xx hd hbk) qq
  ·exact qq.elim
 refine ⟨_, fa, A0, Dr.mono _ _ _ _ _ (fun e q => ?_) (fun d e q => fin d e q) (body ds _ hd hw)⟩
 intro σ' H' f' A' S' K'
 exact fin .non e q .non σ' H' f' [] A' .non (fun b hb => by simp at hb) S' K'
theorem yh {x qual : Str} {st : Stmt} {f : Addr} {fd : FuncData} {N ps : List Str} {k : Nat} {S : FS} {t : XS} (F : Fun K x qual st f fd) (Sc : FnScope N ps (defScope st)) (hms : S.ms.length = ps.length) (okm : ∀ m ∈ S.ms, m ≠ .own ∧ m ≠ .lk)
 (der : ∀ (cdv : Value) (A : Around) (outer : List PySem.Env) (s : Shared) (H : Hp) (E : XK), Room k (A.deeper (envOfC qual (defScope st) s.heap.objs.size f cdv)) → DSs (cxOf CX0 P w K mg base N qual (defScope st) f cdv A outer s H E).nox (defBody st) t) (body : BodyOk S N.length t) :
 FnOk P w K mg base CX0 (k + 1) f fd ps (spOf K S) := by
 refine F.ok Sc (fun vs H Q E h => by rw [h.1, hms]) (fun cdv A outer s H vs Q E hr h => ?_)
 have Dr := der cdv A outer s H E hr
 exact ⟨_, Dr.run, qde Sc hms okm Dr body h⟩
end
end BX
namespace BX
open PySem PySem.Spec PyProof.Rows L2
theorem Wd : ∀ x y : List Int, HT.lexLt x y = true → HT.lexLt y x = false
 | [], [], h => rfl
 | [], _ :: _, h => rfl
 | _ :: _, [], h => by cases h
 | a :: x, b :: y, h => by
   rw [HT.lexLt_cons] at h ⊢
   by_cases e : a = b
   ·subst e
    rw [if_pos rfl] at h ⊢
    exact Wd x y h
   ·rw [if_neg e] at h
    rw [if_neg (Ne.symm e)]
    have := of_decide_eq_true h
    exact decide_eq_false (by omega)
theorem Xd : ∀ x y z : List Int, HT.lexLt y x = false → HT.lexLt z y = false → HT.lexLt z x = false
 | [], _, [], _, _ => rfl
 | [], _, _ :: _, _, _ => rfl
 | _ :: _, [], _, h, _ => by cases h
 | _ :: _, _ :: _, [], _, h => by cases h
 | a :: x, b :: y, c :: z, h1, h2 => by
   rw [HT.lexLt_cons] at h1 h2 ⊢
   by_cases e1 : b = a
   ·subst e1
    rw [if_pos rfl] at h1
    by_cases e2 : c = b
    ·subst e2
     rw [if_pos rfl] at h2 ⊢
     exact Xd x y z h1 h2
    ·rw [if_neg e2] at h2 ⊢
     exact h2
   ·rw [if_neg e1] at h1
    have h1' := of_decide_eq_false h1
    by_cases e2 : c = b
    ·subst e2
     rw [if_neg e1]
     exact h1
    ·rw [if_neg e2] at h2
     have h2' := of_decide_eq_false h2
     rw [if_neg (by omega)]
     exact decide_eq_false (by omega)
theorem Jk : ∀ x y : List Int, HT.lexLt x y = false → HT.lexLt y x = false → x = y
 | [], [], _, _ => rfl
 | [], _ :: _, h, _ => by cases h
 | _ :: _, [], _, h => by cases h
 | a :: x, b :: y, h1, h2 => by
   rw [HT.lexLt_cons] at h1 h2
   by_cases e : a = b
   ·subst e
    rw [if_pos rfl] at h1 h2
    rw [Jk x y h1 h2]
   ·rw [if_neg e] at h1
    rw [if_neg (Ne.symm e)] at h2
    have h1' := of_decide_eq_false h1
    have h2' := of_decide_eq_false h2
    omega
def sortI (l : List (List Int)) : List (List Int) := l.mergeSort fun a b => !HT.lexLt b a
theorem sortI_perm (l : List (List Int)) : (sortI l).Perm l := List.mergeSort_perm _ _
theorem qbR (l : List (List Int)) : (sortI l).Pairwise fun a b => HT.lexLt b a = false := by
 have h := List.pairwise_mergeSort (le := fun a b : List Int => !HT.lexLt b a) (fun a b c h1 h2 => by
  simp only [Bool.not_eq_true'] at h1 h2 ⊢
  exact Xd a b c h1 h2) (fun a b => by
  cases e : HT.lexLt b a with
  | false => rfl
  | true => simp [Wd b a e]) l
 exact h.imp fun {a b} h => by simpa using h
theorem qa4 {l m : List (List Int)} (h : m.Pairwise fun a b => HT.lexLt b a = false) (p : m.Perm l) : m = sortI l :=
 List.Perm.eq_of_pairwise (le := fun a b => HT.lexLt b a = false) (fun a b _ _ h1 h2 => (Jk a b h2 h1)) h (qbR l) (p.trans (sortI_perm l).symm)
section
variable {prog : Program} {w : World} {A : Around} {E : Value → Shared → Prop} {s : Shared}
theorem lexW {b : Bool} {Q : Bool → Shared → Prop} : ∀ {xs ys : List Value} {ns ms : List Int} (i : Nat), IntsAre xs ns → IntsAre ys ms → Q (HT.lexLt ns ms) s → PySem.W.KatLex prog w A b (decide (ns.length < ms.length)) Q (xs.zip ys) i s
 | _, _, _, _, i, .nil, .nil, h => PySem.W.kat_nil h
 | _, _, _, _, i, .nil, .cons q u hy, h => PySem.W.kat_nil (by simpa [HT.lexLt_nil_cons] using h)
 | _, _, _, _, i, .cons p t hx, .nil, h => PySem.W.kat_nil (by simpa [HT.lexLt_cons_nil] using h)
 | _, _, _, _, i, .cons (vs := xs) (ns := ns) p t hx, .cons (vs := ys) (ns := ms) q u hy, h => by
   rw [HT.lexLt_cons] at h
   rw [show (decide ((p :: ns).length < (q :: ms).length)) = decide (ns.length < ms.length) by simp]
   show PySem.W.KatLex prog w A b _ Q ((Value.int p t, Value.int q u) :: xs.zip ys) i s
   refine PySem.W.kat_cons (wpAny_eqBool_int ?_)
   by_cases e : p = q
   ·subst e
    rw [beq_self_eq_true]
    rw [if_pos rfl] at h
    exact PySem.W.kat_yes (lexW (i + 1) hx hy h)
   ·rw [show (p == q) = false from beq_eq_false_iff_ne.mpr e]
    rw [if_neg e] at h
    exact PySem.W.kat_no (TS.oneLt_ints _ h)
theorem qcN {h : Heap} : ∀ vs : List Value, (∀ v ∈ vs, ∃ ns, TS.TupInts h v ns ∧ ns ≠ []) → ∃ fs, PySem.W.KatTups h vs fs ∧ fs.length = vs.length ∧ ∀ f, f ∈ fs → ∃ n t, f = Value.int n t
 | [], _ => ⟨[], PySem.W.KatTups.nil, rfl, fun f hf => by simp at hf⟩
 | v :: vs, x => by
   obtain ⟨fs, k, hl, hi⟩ := qcN vs fun u hu => x u (List.mem_cons_of_mem _ hu)
   obtain ⟨ns, ⟨a, xs, rfl, ⟨o, ho, hc, n, hdt⟩, i⟩, hn⟩ := x v (List.mem_cons_self ..)
   obtain ⟨xs⟩ := xs
   replace i : IntsAre xs ns := i
   cases i with
   | nil => exact absurd rfl hn
   | cons m t i =>
     refine ⟨.int m t :: fs, PySem.W.KatTups.cons ho hc hdt rfl k, by simp [hl], fun f hf => ?_⟩
     rcases List.mem_cons.mp hf with rfl | hf
     ·exact ⟨m, t, rfl⟩
     ·exact hi f hf
theorem swoW (k : Value → List Int) : SrtO.Swo fun v u => HT.lexLt (k v) (k u) := ⟨fun x y h => Wd _ _ h, fun x y z h1 h2 => Xd _ _ _ h1 h2⟩
theorem qbQ {a : Addr} {vs : List Value} (h0 : 0 < vs.length) (hp : ∀ v ∈ vs, ∃ ns, TS.TupInts s.heap v ns ∧ ns ≠ []) (ha : ∀ o, s.heap.get? a = some o → o.cls ≠ .type "tuple") :
 SrtO.SortableO prog w A s a vs fun v u => HT.lexLt (TS.intsOf s.heap v) (TS.intsOf s.heap u) := by
 intro h' keep
 have kp : ∀ b o, s.heap.get? b = some o → o.cls = .type "tuple" → h'.get? b = some o := fun b o e c => keep b o (fun z => by subst z; exact ha o e c) e
 have hp' : ∀ v ∈ vs, ∃ ns, TS.TupInts h' v ns ∧ ns ≠ [] := fun v hm => let ⟨ns, t, r⟩ := hp v hm; ⟨ns, t.keeps kp, r⟩
 obtain ⟨fs, h1, h2, h3⟩ := qcN vs hp'
 refine ⟨tuples' true, fun Q E hq => ?_, fun p q hm hm' => ?_⟩
 ·refine PySem.W.kat_kind (T := .type "int") h1 (by omega) (fun f hm => ?_) (by rfl) ?_
  ·obtain ⟨x, t, rfl⟩ := h3 f hm
   exact PySem.W.Looks.now
  ·have e : (Value.type "int" != Value.type "tuple") = true := by decide +kernel
   rw [e]
   exact hq
 ·obtain ⟨ns, t1, _⟩ := hp _ hm
  obtain ⟨ms, t2, _⟩ := hp _ hm'
  show wpAny (model prog w) A (keyLt' (tuples' true) p.1 q.1) (fun r s' => s' = _ ∧ r = HT.lexLt (TS.intsOf s.heap p.1) (TS.intsOf s.heap q.1)) (fun _ _ => False) _
  rw [t1.ints, t2.ints]
  obtain ⟨a1, xs, e1, ⟨o1, g1, c1, n1, d1⟩, i1⟩ := t1.keeps kp
  obtain ⟨a2, ys, e2, ⟨o2, g2, c2, n2, d2⟩, i2⟩ := t2.keeps kp
  rw [e1, e2]
  refine PySem.W.kat_lt g1 d1 g2 d2 ?_
  have l1 : xs.size = ns.length := by rw [← i1.length, Array.length_toList]
  have l2 : ys.size = ms.length := by rw [← i2.length, Array.length_toList]
  rw [l1, l2]
  exact lexW 0 i1 i2 ⟨rfl, rfl⟩
theorem Zj {l : Addr} {vs : List Value} {Q : Value → Shared → Prop} (hz : vs.length ≤ sizeLine)
 (hc : ∀ (A : Around) (E : Value → Shared → Prop) (Q : List Value → Shared → Prop), A.handled = none → (∀ (h' : Heap) (tk : Nat), (∀ b o, s.heap.get? b = some o → h'.get? b = some o) → Q vs { s with heap := h', toks := tk }) → wpAny (model prog w) A (collect (.ref l)) Q E s)
 (hh : A.handled = none) (hp : ∀ v ∈ vs, ∃ ns, TS.TupInts s.heap v ns ∧ ns ≠ [])
 (h : ∀ (out : List Value) (h1 h2 : Heap) (tk n : Nat), out.Perm vs → (out.map (TS.intsOf s.heap)) = sortI (vs.map (TS.intsOf s.heap)) → (∀ b o, s.heap.get? b = some o → h1.get? b = some o) → (∀ b o, h1.get? b = some o → h2.get? b = some o) → h2.get? h1.objs.size = some (seqObj "list" out.toArray n) → Q (.ref h1.objs.size) { s with heap := h2, toks := tk }) :
 wpAny (model prog w) A (call (.builtin "sorted") [.ref l]) Q E s := by
 refine Calls.call_function_entry kind_sorted plain_sorted entry_sorted (args_sorted1 _) ?_
 unfold Builtin.«sorted»
 refine wpAny_bind (m := checkCount "sorted" 1 1 _) (wpAny_pure ?_)
 refine wpAny_bind (hc A.in1 _ _ hh fun h' tk kp => ?_)
 refine wpAny_bind (wpAny_newList ?_ hz)
 have hoL : (h'.push (seqObj "list" vs.toArray 0)).get? h'.objs.size = some (seqObj "list" vs.toArray 0) := Heap.get?_push_size _ rfl
 show wpAny _ _ _ _ _ { s with heap := h'.push (seqObj "list" vs.toArray 0), toks := tk }
 have kp2 : ∀ b o, s.heap.get? b = some o → (h'.push (seqObj "list" vs.toArray 0)).get? b = some o := fun b o e => Heap.get?_push_of_some _ (kp b o e)
 have hp2 : ∀ v ∈ vs, ∃ ns, TS.TupInts (h'.push (seqObj "list" vs.toArray 0)) v ns ∧ ns ≠ [] := fun v hm => let ⟨ns, t, r⟩ := hp v hm; ⟨ns, t.keeps fun b o e _ => kp2 b o e, r⟩
 have same : ∀ v ∈ vs, TS.intsOf (h'.push (seqObj "list" vs.toArray 0)) v = TS.intsOf s.heap v := fun v hm => by
  obtain ⟨ns, t, _⟩ := hp v hm
  rw [t.ints, (t.keeps fun b o e _ => kp2 b o e).ints]
 refine wpAny_bind (wpAny_holding (wpAny_call_entry slot_list_sort ⟨_, hoL, rfl⟩ entry_list_sort (SrtO.list_sort_ord (s := { s with heap := h'.push (seqObj "list" vs.toArray 0), toks := tk }) (swoW (TS.intsOf (h'.push (seqObj "list" vs.toArray 0)))) hoL hz (fun h2 => ?_) fun out hs hb => ⟨_, rfl, ?_⟩) (args_list_sort _)))
 ·refine qbQ (s := { s with heap := h'.push (seqObj "list" vs.toArray 0), toks := tk }) (by omega) hp2 fun o e => ?_
  have e' : some o = some (seqObj "list" vs.toArray 0) := e.symm.trans hoL
  cases e'
  intro c
  exact absurd (Value.type.inj c) (by decide)
 ·obtain ⟨n, hn⟩ := PyProof.Rows.sortedHeap_at (vs := vs) (out := out.toArray) hoL
  have pm : out.Perm vs := hb.perm
  have hm : out.map (TS.intsOf (h'.push (seqObj "list" vs.toArray 0))) = out.map (TS.intsOf s.heap) := List.map_congr_left fun v hv => same v (pm.mem_iff.mp hv)
  refine wpAny_pure ⟨_, rfl, h out h' _ tk n pm ?_ kp (fun b o e => ?_) hn⟩
  ·refine qa4 ?_ (pm.map _)
   rw [← hm, List.pairwise_map]
   exact hs
  ·have hbb : b < h'.objs.size := Heap.lt_size e
   rw [PyProof.Rows.sortedHeap_old (Nat.ne_of_lt hbb) (by rw [size_push']; exact Nat.lt_succ_of_lt hbb)]
   exact Heap.get?_push_of_some _ e
end
def Yi : List D → Option (List (List Int))
 | [] => some []
 | .tup xs :: ds => match intL xs, Yi ds with
   | some (n :: ns), some r => some ((n :: ns) :: r)
   | _, _ => none
 | _ :: _ => none
def keyI : List Key → Option (List Int)
 | [] => some []
 | .inl i :: ks => (keyI ks).map (i :: ·)
 | .inr _ :: _ => none
def qcF : List (List Key × D) → Option (List (List Int))
 | [] => some []
 | p :: r => match keyI p.1, qcF r with
   | some (n :: ns), some l => some ((n :: ns) :: l)
   | _, _ => none
def tupI (ns : List Int) : D := .tup (ns.map .int)
def jx (d : D) (k : D → Prop) : Prop := match d with
 | .lst xs => match Yi xs with
   | some l => k (.lst ((sortI l).map tupI))
   | none => False
 | .tup xs => match Yi xs with
   | some l => k (.lst ((sortI l).map tupI))
   | none => False
 | .dT kvs => match qcF kvs with
   | some l => k (.lst ((sortI l).map tupI))
   | none => False
 | _ => False
section
variable {X : Cx} {pins : List (Addr × Obj)} {σ : L2.St} {H : Hp} {s : Shared}
theorem X6 {K : PySem.W.Frag} {H : Hp} : ∀ ns : List Int, Reps K H 0 (ns.map D.int) (ns.map V.int) []
 | [] => .nil
 | n :: ns => .cons (f := []) (g := []) (.int n) (X6 ns) (fun _ _ hb => by simp at hb)
def At (H : Hp) (x : V) (ns : List Int) : Prop := ∃ b, x = .ref b ∧ H b = some (.tup (ns.map V.int)) ∧ ns ≠ []
theorem Xl {lv : Nat} : ∀ {ds : List D} {xs : List V} {f : List Addr} {l : List (List Int)}, lv ≤ 1 → Reps X.K H lv ds xs f → Yi ds = some l → Paired (At H) xs l
 | _, _, _, _, _, .nil, e => by cases e; exact .nil
 | _, _, _, l, hl, .cons (d := d) (ds := ds) r t _, e => by
   cases d with
   | tup ys =>
     rw [Yi] at e
     split at e
     ·rename_i n ns r' e1 e2
      cases e
      obtain ⟨a, vs, rfl, ha, rr⟩ := r.tupleAt hl
      rw [rr.intL e1] at ha
      exact .cons ⟨a, rfl, ha, by simp⟩ (Xl hl t e2)
     ·cases e
   | _ => simp [Yi] at e
theorem qam : ∀ {ks : List Key} {ns : List Int}, keyI ks = some ns → ks.map kV = ns.map V.int
 | [], _, e => by cases e; rfl
 | .inl i :: ks, ns, e => by
   rw [keyI] at e
   cases h : keyI ks with
   | none => rw [h] at e; cases e
   | some r => rw [h] at e; cases e; rw [List.map_cons, List.map_cons, qam h]; rfl
 | .inr _ :: _, _, e => by cases e
theorem qdj : ∀ {xs : List V} {vs : List Value} {l : List (List Int)}, Inv X pins σ H s → Vals xs vs → Paired (At H) xs l → vs.map (TS.intsOf s.heap) = l ∧ xs = vs.map bkV ∧ ∀ v ∈ vs, (∃ a, v = Value.ref a) ∧ At H (bkV v) (TS.intsOf s.heap v) ∧ ∃ ns, TS.TupInts s.heap v ns ∧ ns ≠ []
 | _, _, _, I, .nil, .nil => ⟨rfl, rfl, fun v hv => by simp at hv⟩
 | _, _, _, I, .cons r t, .cons h p => by
   obtain ⟨h1, h2, h3⟩ := qdj I t p
   obtain ⟨b, rfl, hb, hn⟩ := h
   cases r
   have ti := tupI_raw I (.of hb : SqT X.K H b _)
   refine ⟨by rw [List.map_cons, h1, ti.ints], by rw [List.map_cons, ← h2]; rfl, fun v hv => ?_⟩
   rcases List.mem_cons.mp hv with rfl | hv
   ·exact ⟨⟨_, rfl⟩, ⟨b, rfl, by rw [ti.ints]; exact hb, by rw [ti.ints]; exact hn⟩, _, ti, hn⟩
   ·exact h3 v hv
theorem qaa {K : PySem.W.Frag} {h : Heap} : ∀ {out : List Value}, (∀ v ∈ out, At H (bkV v) (TS.intsOf h v)) → Reps K H 0 (out.map fun v => tupI (TS.intsOf h v)) (out.map bkV) []
 | [], _ => .nil
 | v :: out, hh => by
   obtain ⟨b, e, hb, _⟩ := hh v (List.mem_cons_self ..)
   refine .cons (f := []) (g := []) ?_ (qaa fun u hu => hh u (List.mem_cons_of_mem _ hu)) (fun _ _ hb => by simp at hb)
   rw [e]
   exact .tup hb (X6 _)
theorem sorted_run {a : Addr} {xs : List V} {vs : List Value} {l : List (List Int)} {Q : VK} (hx : Ok X) (I : Inv X pins σ H s) (rv : Vals xs vs) (p : Paired (At H) xs l) (hz : vs.length ≤ sizeLine)
 (hc : ∀ (A : Around) (E : Value → Shared → Prop) (Q : List Value → Shared → Prop), A.handled = none → (∀ (h' : Heap) (tk : Nat), (∀ b o, s.heap.get? b = some o → h'.get? b = some o) → Q vs { s with heap := h', toks := tk }) → wpAny (model X.prog X.w) A (collect (.ref a)) Q E s)
 (q : ∀ z H' g, Rep X.K H' 0 (.lst ((sortI l).map tupI)) z g → Ext H H' g → Q z H') : wpAny (model X.prog X.w) X.A (call (.builtin "sorted") [.ref a]) (EP X pins σ Q) X.xe s := by
 obtain ⟨e1, e2, e3⟩ := qdj I rv p
 refine Zj hz hc (I.ok.hd hx.calm) (fun v hv => (e3 v hv).2.2) fun out h1 h2 tk n pm hs k1 k2 hn => ?_
 have I1 : Inv X pins σ H { s with heap := h1, toks := tk } := I.kept k1
 have hf : H h1.objs.size = none := I1.hok.fresh (Nat.le_refl _)
 refine ⟨.ref h1.objs.size, upd H h1.objs.size (.lst (out.map bkV)), I1.laid (t' := tk) k2 (Nat.le_refl _) ?_, rfl, q _ _ _ (Qa hf ?_) (Ext.upd hf)⟩
 ·exact ⟨by rw [List.length_map, pm.length_eq]; exact hz, out, n, bkV_vals fun u hu => (e3 u (pm.mem_iff.mp hu)).1, hn⟩
 ·rw [← e1, ← hs, List.map_map]
  exact qaa fun v hv => (e3 v (pm.mem_iff.mp hv)).2.1
theorem qd7 {kvs : List (List Key × D)} : ∀ {hs : List (List Key × V)} {bs : List Addr} {l : List (List Int)}, IsKeys H hs bs → hs.map (·.1) = kvs.map (·.1) → qcF kvs = some l → Paired (At H) (bs.map V.ref) l := by
 induction kvs with
 | nil =>
   intro hs bs l ik e1 e2
   cases hs with
   | nil => cases ik; cases e2; exact .nil
   | cons _ _ => simp at e1
 | cons kv kvs ih =>
   intro hs bs l ik e1 e2
   cases hs with
   | nil => simp at e1
   | cons h hs =>
     cases ik with
     | cons hb ik =>
       rw [List.map_cons, List.map_cons, List.cons.injEq] at e1
       rw [qcF] at e2
       split at e2
       ·rename_i n ns r q1 q2
        cases e2
        rw [e1.1, qam q1] at hb
        exact .cons ⟨_, rfl, hb, by simp⟩ (ih ik e1.2 q2)
       ·cases e2
theorem Va : ∀ (d : D) (k k' : D → Prop), (∀ x, k x → k' x) → jx d k → jx d k' := fun d k k' h q => by
 unfold jx at q ⊢
 split at q
 ·split at q
  ·simp only [*] <;> exact h _ q
  ·exact q.elim
 ·split at q
  ·simp only [*] <;> exact h _ q
  ·exact q.elim
 ·split at q
  ·simp only [*] <;> exact h _ q
  ·exact q.elim
 ·exact q.elim
theorem JM (hx : Ok X) : CallD X (.builtin "sorted") 1 (op1 jx) := Wh (by decide) (fun pins s σ H x us Q d g I rs r q => by
 obtain ⟨u, rfl, rx⟩ := vals1 rs
 unfold jx at q
 split at q
 ·split at q
  ·rename_i xs l e
   obtain ⟨a, vs, g', rfl, ha, ra, _⟩ := r.listAt1 (Nat.le_refl _)
   cases rx
   obtain ⟨its, rv, pl, hz⟩ := I.list (.inl (.inl ha) : SqL X.K H a vs)
   obtain ⟨o, ho, hc, n, hd⟩ := pl.isList
   refine sorted_run hx I rv (Xl (X := X) (Nat.le_refl _) ra e) (by rw [← rv.length]; exact hz) (fun A E Q hh k => ?_) q
   exact wpAny_collect_seq a (.inl rfl) ho hc hd (fun h' kk => by simpa using k h' s.toks kk) (by rw [List.size_toArray, ← rv.length]; exact hz)
  ·exact q.elim
 ·split at q
  ·rename_i xs l e
   obtain ⟨a, vs, rfl, ha, ra⟩ := r.tupleAt (Nat.le_refl _)
   cases rx
   obtain ⟨its, rv, pl, hz⟩ := I.tuple (.of ha : SqT X.K H a vs)
   obtain ⟨o, ho, hc, n, hd⟩ := pl
   refine sorted_run hx I rv (Xl (X := X) (Nat.le_refl _) ra e) (by rw [← rv.length]; exact hz) (fun A E Q hh k => ?_) q
   exact wpAny_collect_seq a (.inr rfl) ho hc hd (fun h' kk => by simpa using k h' s.toks kk) (by rw [List.size_toArray, ← rv.length]; exact hz)
  ·exact q.elim
 ·split at q
  ·rename_i kvs l e
   cases r with
   | dTF l _ _ _ _ => exact absurd l (by omega)
   | @dT a hs kvs f ha he nd r nn =>
     cases rx
     obtain ⟨z, hss, ks, pr, o, es, ep, ho, hxx, hdt, hee, hn⟩ := (show ObjOk X.prog X.w H s.heap a (.dT hs) from I.hok a _ ha)
     have l1 : es.size = ks.length := size_of_entries hee
     have l2 : hs.length = ks.length := Paired.length pr
     refine sorted_run (xs := (ks.map fun x => x.2.1).map V.ref) (vs := (ks.map fun x => x.2.1).map Value.ref) hx I (vals_refs _) (qd7 (isKeys_of pr) he e) (by rw [List.length_map, List.length_map]; omega) (fun A E Q hh k => ?_) q
     refine PySem.W.kdu_collect (A := A) (kdl_raw hss hxx hdt) hh ho (by omega) fun h' tk acc kp it => ?_
     have ea : acc.toList = (ks.map fun x => x.2.1).map Value.ref := by
      rw [List.map_map]
      apply List.ext_getElem?
      intro j
      have hl : acc.toList.length = ks.length := by rw [Array.length_toList, it.1]; exact l1
      cases hj : acc.toList[j]? with
      | none =>
        have h1 := List.getElem?_eq_none_iff.mp hj
        rw [List.getElem?_eq_none (by rw [List.length_map]; omega)]
      | some v =>
        obtain ⟨en, hen, hv⟩ := it.2 j v (by rw [← Array.getElem?_toList]; exact hj)
        have qe := entry_at hee j
        rw [hen] at qe
        rw [List.getElem?_map]
        cases hb : ks[j]? with
        | none => rw [hb] at qe; cases qe
        | some b =>
          rw [hb] at qe
          have e2 : en = entryOfKey (tupleKind (mixKind X.prog X.w)) b := Option.some.inj qe
          rw [hv, e2]
          rfl
     rw [ea]
     exact k h' tk kp
  ·exact q.elim
 ·exact q.elim) Va
end
end BX
namespace BX
open PySem PySem.Spec PyProof.Rows L2
def D.ty : D → String
 | .non => "NoneType"
 | .bl _ => "bool"
 | .int _ => "int"
 | .str _ => "str"
 | .tup _ => "tuple"
 | .lst _ => "list"
 | .dT _ => "dict"
 | .dK _ => "dict"
 | .dF _ => "dict"
 | .lF _ => "list"
 | .ob _ _ => "list"
 | .ex _ _ => "list"
 | .dN _ => "list"
def isiB (T : String) (d : D) : Bool := d.ty == T || (d.ty == "bool" && T == "int")
def TyOk (T : String) : Prop := ∀ t ∈ ["NoneType", "bool", "int", "str", "tuple", "list", "dict"], kitB t T = some (t == T || (t == "bool" && T == "int"))
theorem D.ty_mem (d : D) : d.ty ∈ ["NoneType", "bool", "int", "str", "tuple", "list", "dict"] := by cases d <;> simp [D.ty]
theorem qgW : TyOk "int" := by unfold TyOk; decide +kernel
theorem Um : TyOk "bool" := by unfold TyOk; decide +kernel
theorem qeC : TyOk "str" := by unfold TyOk; decide +kernel
theorem YS : TyOk "tuple" := by unfold TyOk; decide +kernel
theorem Ul : TyOk "list" := by unfold TyOk; decide +kernel
def TyY (K : PySem.W.Frag) (H : Hp) (x : V) (t : Value) : Prop := TyX K H x t ∨ ∃ (a : Addr) (o : Obj) (kvs : List (List Key × V)), x = .ref a ∧ t = .type "dict" ∧ H a = some (.frz o (.dT kvs))
section
variable {X : Cx}
theorem TyY.kit {pins : List (Addr × Obj)} {σ : L2.St} {H : Hp} {s : Shared} {x : V} {u t : Value} (ty : TyY X.K H x t) (I : Inv X pins σ H s) (rx : RelV x u) : ∃ P : Heap → Prop, PySem.W.KitX X.K u t P ∧ P s.heap ∧ u ≠ .builtin "__main__.__loader__#opaque" := by
 rcases ty with ty | ⟨a, o, kvs, rfl, rfl, ha⟩
 ·exact kit_of I rx ty
 ·obtain rfl : u = .ref a := rx
  obtain ⟨_, _, _, _, o, _, _, g, z, _⟩ := dt_rd I.hok (.inr ⟨o, ha⟩)
  exact ⟨_, PySem.W.kitx_dict, ⟨o, g, z.1⟩, fun z => nomatch z⟩
def rIsY (K : PySem.W.Frag) : List V → Hp → VK → Prop := fun xs H Q => ∃ (x c : V) (t u : Value) (b : Bool), ClsV c u ∧ PySem.W.kitOne K t u = some b ∧ xs = [x, c] ∧ TyY K H x t ∧ Q (.bl b) H
def qi8 (K : PySem.W.Frag) : List V → Hp → VK → Prop := fun xs H Q => ∃ (x : V) (tp : Addr) (cs : List V) (t : Value) (us : List Value) (b : Bool), Paired ClsV cs us ∧ PySem.W.kitAny K t us = some b ∧ H tp = some (.tup cs) ∧ xs = [x, .ref tp] ∧ TyY K H x t ∧ Q (.bl b) H
theorem qet : CallR X (.builtin "isinstance") (rIsY X.K) := fun pins s σ H xs us Q I r ⟨x, c, t, u, b, k, e, l, ty, q⟩ => by
 subst l
 obtain ⟨u1, u2, rfl, r1, r2⟩ := vals2 r
 obtain ⟨P, Z, p, ne⟩ := ty.kit I r1
 rw [k.eq r2]
 exact PySem.W.kia_one Z I.kIn p e ne fun tk => ⟨.bl b, H, I.tok tk, rfl, q⟩
theorem qc8 : CallR X (.builtin "isinstance") (qi8 X.K) := fun pins s σ H xs us Q I r ⟨x, tp, cs, t, ws, b, k, e, hT, l, ty, q⟩ => by
 subst l
 obtain ⟨u1, u2, rfl, r1, r2⟩ := vals2 r
 obtain rfl : u2 = Value.ref tp := r2
 obtain ⟨P, Z, p, ne⟩ := ty.kit I r1
 obtain ⟨_, its, rv, ⟨oc, od, dt, sl⟩, h1, h2, n, h3⟩ := (show ObjOk X.prog X.w H s.heap tp (.tup cs) from I.hok tp _ hT)
 obtain rfl := ClsV.all k rv
 simp only at h2 h3
 subst h2 h3
 exact PySem.W.kia_tup Z I.kIn p h1 e ne fun tk => ⟨.bl b, H, I.tok tk, rfl, q⟩
end
section
variable {K : PySem.W.Frag} {H : Hp} {lv : Nat}
def nob : D → Prop
 | .ob _ _ => False
 | .ex _ _ => False
 | .dN _ => False
 | _ => True
theorem Rep.tyX {d : D} {x : V} {g : List Addr} (r : Rep K H lv d x g) (hn : nob d) : TyY K H x (.type d.ty) := by
 cases r with
 | non => exact .inl <| .base .non
 | bl b => exact .inl <| .base (.bl b)
 | int b => exact .inl <| .base (.int b)
 | str b => exact .inl <| .base (.str b)
 | tup h r => exact .inl <| .base (.tup h)
 | tupK l h r => obtain ⟨o, its, n, e, c, _⟩ := h; exact .inl <| .kTuple e c
 | lst h r n => exact .inl <| .base (.lst h)
 | lstF l h r =>
   rcases h with ⟨o, h⟩ | ⟨o, its, n, e, c, _⟩
   ·exact .inl <| .base (.frz h)
   ·exact .inl <| .kList e c
 | dT h e nd r n => exact .inl <| .base (.dT h)
 | dTF l h e nd r => exact .inr ⟨_, _, _, rfl, rfl, h⟩
 | dF h e nd r => exact .inr ⟨_, _, _, rfl, rfl, h⟩
 | lF h r => exact .inl <| .base (.frz h)
 | ob h c e r n => exact hn.elim
 | ex h c e z => exact hn.elim
 | dN h e nd kk r n => exact hn.elim
 | dK h e nd r n => exact .inl <| .base (.dK h)
end
def xIsi (T : String) (t : XE) : XE := fun env Q => t env fun r e => rd 2 r e fun d => nob d ∧ Q (.tmp (.bl (isiB T d))) e
def qfa (T U : String) (t : XE) : XE := fun env Q => t env fun r e => rd 2 r e fun d => nob d ∧ Q (.tmp (.bl (isiB T d || isiB U d))) e
section
variable {X : Cx} {e : Expr} {t : XE} {p p2 p3 p4 pos : Pos} {T U : Str}
theorem v5 {T0 : String} (hk : TyOk T0) (he : DE X e t) (hm : X.mg "isinstance" = none) (hmT : X.mg T = none) (hT : bootBuiltins T = some (.type T0)) (hg : Gl X "isinstance" := by rfl) (hgT : Gl X T := by rfl)
 (hn : T ≠ "__name__" := by decide) (hd : (T == ("__debug__" : Str)) = false := by decide)
 (h1 : starEach [e, .Name T p2] X.env = (false, eval e X.env) :: starEach [.Name T p2] X.env := by rfl) (h2 : starEach [Expr.Name T p2] X.env = (false, eval (.Name T p2) X.env) :: starEach [] X.env := by rfl)
 (hpl : (backTo pos (starEach [Expr.Name T p2] X.env)).any (·.1) = false := by rfl) : DE X (.Call (.Name "isinstance" p) [e, .Name T p2] [] pos) (xIsi T0 t) := by
 refine ⟨PE.imp (pe_callB qet hg hm (by rfl) (pa_cons he.run (pa_cons (pe_bltn (v := .ty T0) hgT hmT hT rfl hn hd) pa_nil h2) h1) (by decide) (by decide) h1 hpl) fun σ H Q q => ?_, fun env Q Q' h q => he.mono _ _ _ (fun r e q => qQ (fun d q => ⟨q.1, h _ _ q.2⟩) q) q⟩
 obtain ⟨env, f, A, q⟩ := q
 refine ⟨env, f, A, he.mono _ _ _ (fun r e1 q => ?_) q⟩
 intro x H1 f1 g1 A1 R1 S1 K1
 obtain ⟨d, g', rp, q⟩ := yx A1 R1 q
 exact ⟨x, .ty T0, .type d.ty, .type T0, isiB T0 d, .ty T0, kit_ty (hk _ d.ty_mem), rfl, rp.tyX q.1, q.2 _ H1 f1 [] A1 (.tmp (.bl _) qF) (S1.drop fun _ z => by simp at z) K1⟩
theorem qgf {T0 U0 : String} {x1 : Nat} (hk : TyOk T0) (hk2 : TyOk U0) (he : DE X e t) (hm : X.mg "isinstance" = none) (hmT : X.mg T = none) (hmU : X.mg U = none) (hT : bootBuiltins T = some (.type T0)) (hU : bootBuiltins U = some (.type U0)) (hg : Gl X "isinstance" := by rfl) (hgT : Gl X T := by rfl) (hgU : Gl X U := by rfl)
 (hn : T ≠ "__name__" := by decide) (hd : (T == ("__debug__" : Str)) = false := by decide) (hn2 : U ≠ "__name__" := by decide) (hd2 : (U == ("__debug__" : Str)) = false := by decide)
 (h1 : starEach [e, .Tuple [.Name T p2, .Name U p3] x1 p4] X.env = (false, eval e X.env) :: starEach [.Tuple [.Name T p2, .Name U p3] x1 p4] X.env := by rfl)
 (h2 : starEach [Expr.Tuple [.Name T p2, .Name U p3] x1 p4] X.env = (false, eval (.Tuple [.Name T p2, .Name U p3] x1 p4) X.env) :: starEach [] X.env := by rfl)
 (h3 : starEach [Expr.Name T p2, .Name U p3] X.env = (false, eval (.Name T p2) X.env) :: starEach [.Name U p3] X.env := by rfl) (h4 : starEach [Expr.Name U p3] X.env = (false, eval (.Name U p3) X.env) :: starEach [] X.env := by rfl)
 (hpl : (backTo pos (starEach [Expr.Tuple [.Name T p2, .Name U p3] x1 p4] X.env)).any (·.1) = false := by rfl) : DE X (.Call (.Name "isinstance" p) [e, .Tuple [.Name T p2, .Name U p3] x1 p4] [] pos) (qfa T0 U0 t) := by
 refine ⟨PE.imp (pe_callB qc8 hg hm (by rfl) (pa_cons he.run (pa_cons (pe_tup (pa_cons (pe_bltn (v := .ty T0) hgT hmT hT rfl hn hd) (pa_cons (pe_bltn (v := .ty U0) hgU hmU hU rfl hn2 hd2) pa_nil h4) h3)) pa_nil h2) h1) (by decide) (by decide) h1 hpl) fun σ H Q q => ?_, fun env Q Q' h q => he.mono _ _ _ (fun r e q => qQ (fun d q => ⟨q.1, h _ _ q.2⟩) q) q⟩
 obtain ⟨env, f, A, q⟩ := q
 refine ⟨env, f, A, he.mono _ _ _ (fun r e1 q => ?_) q⟩
 intro x H1 f1 g1 A1 R1 S1 K1
 obtain ⟨d, g', rp, q⟩ := yx A1 R1 q
 refine ⟨by show 2 ≤ sizeLine; decide, fun tp hf => ?_⟩
 have ex : Ext H1 (upd H1 tp (.tup [.ty T0, .ty U0])) [] := .updT hf
 obtain ⟨A3, R3, S3⟩ := j8 A1 S1 ex (.bl (isiB T0 d || isiB U0 d))
 refine ⟨x, tp, [.ty T0, .ty U0], .type d.ty, [.type T0, .type U0], isiB T0 d || isiB U0 d, .cons (.ty T0) (.cons (.ty U0) .nil), ?_, upd_same, rfl, (rp.keep fun b o e _ => ex.same b o e).tyX q.1, q.2 _ _ f1 [] A3 R3 S3 K1⟩
 refine kitAny_cons (kit_ty (hk _ d.ty_mem)) (fun h => kitAny_cons (kit_ty (hk2 _ d.ty_mem)) (fun h2 => ?_) fun h2 => ?_) fun h => ?_
 ·rw [kitAny_nil]; unfold isiB; rw [h, h2]; rfl
 ·unfold isiB; rw [h2]; simp
 ·unfold isiB; rw [h]; rfl
theorem vH : CallD X (.builtin "len") 2 (op1 bLen) := Wh (by decide) (fun pins s σ H x us Q d g I rs r q => by
 unfold bLen at q
 split at q
 ·obtain ⟨a, vs, g', rfl, hs, rr, _, _⟩ := r.listSq
  exact call_len pins s σ H _ us Q I rs ⟨_, _, rfl, .inl ⟨vs, hs, rfl⟩, by rw [← rr.len]; exact q _ _ _ (.int _) .refl⟩
 ·obtain ⟨a, vs, rfl, hs, rr, _⟩ := r.lFSq
  exact call_len pins s σ H _ us Q I rs ⟨_, _, rfl, .inl ⟨vs, hs, rfl⟩, by rw [← rr.len]; exact q _ _ _ (.int _) .refl⟩
 ·obtain ⟨a, vs, rfl, hs, rr⟩ := r.tupleSq
  exact call_len pins s σ H _ us Q I rs ⟨_, _, rfl, .inr ⟨vs, hs, rfl⟩, by rw [← rr.len]; exact q _ _ _ (.int _) .refl⟩
 ·obtain ⟨rfl, _⟩ := r.strV
  exact call_len pins s σ H _ us Q I rs ⟨.str _, _, rfl, ⟨q.1, rfl⟩, q.2 _ _ _ (.int _) .refl⟩
 ·cases r with
  | @dK a hs kvs f ha he nd rr nn =>
    have hl := congrArg List.length he
    rw [List.length_map, List.length_map] at hl
    exact call_lenD pins s σ H _ us Q I rs ⟨_, _, rfl, ha, by rw [hl]; exact q _ _ _ (.int _) .refl⟩
 ·cases r with
  | @dT a hs kvs f ha he nd rr nn =>
    have hl := congrArg List.length he
    rw [List.length_map, List.length_map] at hl
    exact call_len_dT pins s σ H _ us Q I rs ⟨_, _, rfl, ha, by rw [hl]; exact q _ _ _ (.int _) .refl⟩
  | @dTF a o hs kvs f l ha he nd rr =>
    have hl := congrArg List.length he
    rw [List.length_map, List.length_map] at hl
    obtain ⟨u, rfl, rx⟩ := vals1 rs
    obtain rfl : u = .ref a := rx
    obtain ⟨z, hd, ys, rel, dd⟩ := dt_rd I.hok (.inr ⟨o, ha⟩)
    have hl2 : hs.length = ys.length := Paired.length rel
    refine call_len_dictH hd dd (by rw [← hl2]; rw [sizeLine_eq] at z; omega) ?_
    rw [← hl2, hl]
    exact ⟨.int _, H, I.tok _, ⟨_, rfl⟩, q _ _ _ (.int _) .refl⟩
 ·exact q.elim) (fun d k k' h q => by
 unfold bLen at q ⊢
 split at q
 ·exact h _ q
 ·exact h _ q
 ·exact h _ q
 ·exact ⟨q.1, h _ q.2⟩
 ·exact h _ q
 ·exact h _ q
 ·exact q.elim)
end
def blD (d : D) (k : Bool → Prop) : Prop := match d with
 | .bl b => k b
 | _ => False
def dChn (L : Nat) (op : OP) (L' : Nat) (op' : OP) (ta tb tc : XE) : XE := fun env Q => ta env fun r1 e1 => tb e1 fun r2 e2 => rd L r1 e2 fun d1 => rd L r2 e2 fun d2 => op d1 d2 fun d => blD d fun b =>
 (b = true → tc e2 fun r3 e3 => rd L' r2 e3 fun d2 => rd L' r3 e3 fun d3 => op' d2 d3 fun d => Q (.tmp d) e3) ∧ (b = false → Q (.tmp (.bl false)) e2)
section
variable {K : PySem.W.Frag} {σ : L2.St} {H H1 H' : Hp} {env e1 : En} {f f1 : FA} {g g1 : List Addr} {r : R} {v : V}
theorem ResOk.ext (h : ResOk K σ H env f r v g) (A : Abs K σ H env f) (x : ∀ b o, H b = some o → H' b = some o) : ResOk K σ H' env f r v g := by
 cases h with
 | tmp r n => exact .tmp (r.keep fun b o e _ => x b o e) n
 | ro r n => exact .ro (r.keep fun b o e _ => x b o e) n
 | sl e1 e2 hm => exact .sl e1 e2 hm
theorem qe1 {d : D} {k : Bool → Prop} (q : blD d k) : ∃ b, d = .bl b ∧ k b := by
 cases d with
 | bl b => exact ⟨b, rfl, q⟩
 | _ => exact q.elim
theorem qeq {L L' : Nat} {op op' : OP} {ta tb tc : XE} (ho : Qq op) (ho' : Qq op') (ma : xr ta) (mb : xr tb) (mc : xr tc) : xr (dChn L op L' op' ta tb tc) := fun env Q Q' h q =>
 ma _ _ _ (fun r1 e1 q => mb _ _ _ (fun r2 e2 q => qQ (fun d1 q => qQ (fun d2 q => ho _ _ _ _ (fun d q => by
  obtain ⟨b, rfl, q⟩ := qe1 q
  exact ⟨fun z => mc _ _ _ (fun r3 e3 q => qQ (fun d2 q => qQ (fun d3 q => ho' _ _ _ _ (fun d q => h _ _ q) q) q) q) (q.1 z), fun z => h _ _ (q.2 z)⟩) q) q) q) q) q
theorem qer {L L' : Nat} {op op' : OP} {ta tb tc : XE} (ho : Qq op) (ho' : Qq op') (ma : xr ta) (mb : xr tb) (mc : xr tc) {Q : VK} (q : jk K (dChn L op L' op' ta tb tc) σ H Q) :
 tChain (rOp K L op) (rOp K L' op') (jk K ta) (jk K tb) (jk K tc) σ H Q := by
 obtain ⟨env, f, A, q⟩ := q
 refine ⟨env, f, A, ma _ _ _ (fun r1 e1 q => ?_) q⟩
 intro x H1 f1 g1 A1 R1 S1 K1
 refine ⟨e1, f1, A1, mb _ _ _ (fun r2 e2 q => ?_) q⟩
 intro y H2 f2 g2 A2 R2 S2 K2
 obtain ⟨R1', n⟩ := R1.wait A1 S2 K2
 obtain ⟨d1, g1', rp1, q⟩ := yx A2 R1' q
 obtain ⟨d2, g2', rp2, q⟩ := yx A2 R2 q
 refine ⟨d1, d2, g1', g2', rp1, rp2, ho _ _ _ _ (fun d q => ?_) q⟩
 intro z H3 g3 rp3 x3
 obtain ⟨b, rfl, q⟩ := qe1 q
 obtain ⟨rfl, _⟩ := rp3.blV
 have A3 := A2.ext x3.same
 have S3 : Stp H env f [] H3 e2 f2 (g1 ++ g2) := (S1.trans (S2.frame g1)).ext x3.same
 have K3 := K1.trans K2
 refine ⟨b, rfl, ?_⟩
 cases b with
 | false =>
   rw [if_neg Bool.false_ne_true]
   exact q.2 rfl _ H3 f2 [] A3 (.tmp (.bl _) qF) (S3.drop fun _ z => by simp at z) K3
 | true =>
   rw [if_pos rfl]
   have R2' := R2.ext A2 x3.same
   refine ⟨e2, f2, A3, mc _ _ _ (fun r3 e3 q => ?_) (q.1 rfl)⟩
   intro w H4 f4 g4 A4 R4 S4 K4
   obtain ⟨R2'', n2⟩ := R2'.wait A3 S4 K4
   obtain ⟨d2', g2'', rp2', q⟩ := yx A4 R2'' q
   obtain ⟨d4, g4', rp4, q⟩ := yx A4 R4 q
   refine ⟨d2', d4, g2'', g4', rp2', rp4, ho' _ _ _ _ (fun dd q => ?_) q⟩
   intro z H5 g5 rp5 x5
   have S5 : Stp H env f [] H4 e3 f4 [] := (S3.drop (G2 := []) fun _ z => by simp at z).trans (S4.drop fun _ z => by simp at z)
   obtain ⟨A5, R5, S5⟩ := j8 A4 S5 x5 rp5
   exact q z H5 f4 g5 A5 R5 S5 (K3.trans K4)
end
section
variable {X : Cx} {a b c : Expr} {ta tb tc : XE} {pos : Pos} {L L' : Nat} {op op' : OP} {o o' : CmpOp}
theorem qay (ho : OpD X (compareOp o) L op) (ho' : OpD X (compareOp o') L' op') (ha : DE X a ta) (hb : DE X b tb) (hc : DE X c tc) (hm : lastMarks [o, o'] [b, c] = false := by with_unfolding_all rfl) : DE X (.Compare a [o, o'] [b, c] pos) (dChn L op L' op' ta tb tc) :=
 ⟨PE.imp (pe_chain ho.run ho'.run ha.run hb.run hc.run hm) fun σ H Q q => qer ho.mono ho'.mono ha.mono hb.mono hc.mono q, qeq ho.mono ho'.mono ha.mono hb.mono hc.mono⟩
def BlOp (op : OP) : Prop := ∀ d1 d2 k, op d1 d2 k → op d1 d2 fun d => (∃ b, d = .bl b) ∧ k d
theorem Vz : BlOp opGt := fun d1 d2 k q => by cases d1 <;> cases d2 <;> first | exact q.elim | exact ⟨⟨_, rfl⟩, q⟩
theorem qjE : BlOp opGe := fun d1 d2 k q => by cases d1 <;> cases d2 <;> first | exact q.elim | exact ⟨⟨_, rfl⟩, q⟩
theorem qjC : BlOp opLe := fun d1 d2 k q => by cases d1 <;> cases d2 <;> first | exact q.elim | exact ⟨⟨_, rfl⟩, q⟩
theorem QZ : BlOp opEq := fun d1 d2 k q => ⟨q.1, q.2.1, ⟨_, rfl⟩, q.2.2⟩
theorem qeu : BlOp opNe := fun d1 d2 k q => ⟨q.1, q.2.1, ⟨_, rfl⟩, q.2.2⟩
theorem qbm : BlOp opLt := fun d1 d2 k q => by
 unfold opLt at q ⊢
 split at q
 ·exact ⟨⟨_, rfl⟩, q⟩
 ·split at q
  ·simp only [*]; exact ⟨⟨_, rfl⟩, trivial⟩
  ·exact q.elim
 ·exact q.elim
theorem qjD : BlOp opIs := fun d1 d2 k q => by
 unfold opIs at q ⊢
 split at q
 ·exact ⟨⟨_, rfl⟩, q⟩
 ·exact ⟨⟨_, rfl⟩, q⟩
 ·exact q.elim
theorem qev : BlOp xj := fun d1 d2 k q => by
 unfold xj at q ⊢
 split at q
 ·exact ⟨⟨_, rfl⟩, q⟩
 ·exact ⟨⟨_, rfl⟩, q⟩
 ·exact q.elim
theorem JS {n : Bool} : BlOp (Qz n) := fun d1 d2 k q => by
 unfold Qz at q ⊢
 split at q
 ·split at q
  ·split at q
   ·simp only [*]; exact ⟨⟨_, rfl⟩, trivial⟩
   ·exact q.elim
  ·exact q.elim
 ·split at q
  ·simp only [*]; exact ⟨⟨_, rfl⟩, trivial⟩
  ·exact q.elim
 ·exact ⟨q.1, q.2.1, ⟨_, rfl⟩, q.2.2⟩
 ·exact ⟨q.1, q.2.1, ⟨_, rfl⟩, q.2.2⟩
 ·exact ⟨q.1, q.2.1, ⟨_, rfl⟩, q.2.2⟩
 ·split at q
  ·exact ⟨⟨_, rfl⟩, q⟩
  ·exact q.elim
 ·exact q.elim
end
end BX
namespace BX
open PySem PySem.Spec PyProof.Rows L2
section
variable {κ : Type} [DecidableEq κ] {K : PySem.W.Frag} {H : Hp}
def putD (k : κ) (d : D) : List (κ × D) → List (κ × D)
 | [] => [(k, d)]
 | p :: r => if p.1 = k then (p.1, d) :: r else p :: putD k d r
def putV (k : κ) (d : V) : List (κ × V) → List (κ × V)
 | [] => [(k, d)]
 | p :: r => if p.1 = k then (p.1, d) :: r else p :: putV k d r
theorem qb3 (k : κ) (v : V) : ∀ hs : List (κ × V), (∀ p ∈ hs, p.1 ≠ k) → putV k v hs = hs ++ [(k, v)]
 | [], _ => rfl
 | p :: r, h => by
   rw [putV, if_neg (h p (List.mem_cons_self ..)), qb3 k v r fun q hq => h q (List.mem_cons_of_mem _ hq)]
   rfl
theorem V6 (k : κ) (v : V) : ∀ hs : List (κ × V), (hs.map (·.1)).Nodup → (∃ p ∈ hs, p.1 = k) → putV k v hs = hs.map fun kv => if kv.1 = k then (kv.1, v) else kv
 | [], _, h => by obtain ⟨p, h, _⟩ := h; simp at h
 | p :: r, nd, h => by
   rw [List.map_cons, List.nodup_cons] at nd
   rw [putV, List.map_cons]
   by_cases e : p.1 = k
   ·rw [if_pos e, if_pos e]
    congr 1
    have : ∀ q ∈ r, (if q.1 = k then (q.1, v) else q) = q := fun q hq => if_neg fun z => nd.1 (List.mem_map.mpr ⟨q, hq, z.trans e.symm⟩)
    rw [List.map_congr_left this, List.map_id']
   ·rw [if_neg e, if_neg e]
    congr 1
    obtain ⟨q, hq, hk⟩ := h
    rcases List.mem_cons.mp hq with rfl | hq
    ·exact absurd hk e
    ·exact V6 k v r nd.2 ⟨q, hq, hk⟩
theorem qb6 {k : κ} {v : V} {hs : List (κ × V)} (nd : (hs.map (·.1)).Nodup) : putK hs k v = putV k v hs := by
 unfold putK
 split
 ·rename_i h
  rw [List.any_eq_true] at h
  obtain ⟨p, hp, e⟩ := h
  exact (V6 k v hs nd ⟨p, hp, of_decide_eq_true e⟩).symm
 ·rename_i h
  refine (qb3 k v hs fun p hp e => h ?_).symm
  rw [List.any_eq_true]
  exact ⟨p, hp, decide_eq_true e⟩
theorem WY (k : κ) (v : V) (d : D) : ∀ {hs : List (κ × V)} {kvs : List (κ × D)}, hs.map (·.1) = kvs.map (·.1) → (putV k v hs).map (·.1) = (putD k d kvs).map (·.1)
 | [], [], _ => rfl
 | [], _ :: _, e => by simp at e
 | _ :: _, [], e => by simp at e
 | p :: hs, q :: kvs, e => by
   rw [List.map_cons, List.map_cons, List.cons.injEq] at e
   rw [putV, putD]
   by_cases h : p.1 = k
   ·rw [if_pos h, if_pos (e.1 ▸ h), List.map_cons, List.map_cons, e.1, e.2]
   ·rw [if_neg h, if_neg (e.1 ▸ h), List.map_cons, List.map_cons, e.1, WY k v d e.2]
theorem V7 {k : κ} {d : D} : ∀ {kvs : List (κ × D)} {x : κ}, x ∈ (putD k d kvs).map (·.1) → x = k ∨ x ∈ kvs.map (·.1)
 | [], x, h => .inl (by simpa [putD] using h)
 | p :: r, x, h => by
   rw [putD] at h
   split at h
   ·exact .inr (by simpa using h)
   ·rw [List.map_cons] at h ⊢
    rcases List.mem_cons.mp h with rfl | h
    ·exact .inr (List.mem_cons_self ..)
    ·exact (V7 h).imp_right fun z => List.mem_cons_of_mem _ z
theorem vN {k : κ} {d : D} : ∀ {kvs : List (κ × D)}, (kvs.map (·.1)).Nodup → ((putD k d kvs).map (·.1)).Nodup
 | [], _ => by simp [putD]
 | p :: r, nd => by
   rw [putD]
   split
   ·exact nd
   ·rename_i h
    rw [List.map_cons, List.nodup_cons] at nd ⊢
    exact ⟨fun z => (V7 z).elim h nd.1, vN nd.2⟩
theorem WW {k : κ} {d : D} {v : V} {g : List Addr} (r : Rep K H 0 d v g) : ∀ {kvs : List (κ × D)} {hs : List (κ × V)} {fp : List Addr}, hs.map (·.1) = kvs.map (·.1) → Reps K H 0 (kvs.map (·.2)) (hs.map (·.2)) fp → (∀ b ∈ fp, b ∉ g) →
 ∃ fp', Reps K H 0 ((putD k d kvs).map (·.2)) ((putV k v hs).map (·.2)) fp' ∧ ∀ b ∈ fp', b ∈ fp ∨ b ∈ g
 | [], [], _, _, .nil, _ => ⟨g, Reps.one r, fun b hb => .inr hb⟩
 | [], _ :: _, _, e, _, _ => by simp at e
 | _ :: _, [], _, e, _, _ => by simp at e
 | q :: kvs, p :: hs, fp, e, rr, dj => by
   rw [List.map_cons, List.map_cons, List.cons.injEq] at e
   rw [List.map_cons, List.map_cons] at rr
   cases rr with
   | @cons _ _ f1 _ _ f2 r1 rt n =>
     rw [putV, putD]
     by_cases h : p.1 = k
     ·rw [if_pos h, if_pos (e.1 ▸ h), List.map_cons, List.map_cons]
      exact ⟨g ++ f2, .cons r rt fun _ b hb z => dj b (List.mem_append_right _ z) hb, fun b hb => (List.mem_append.mp hb).elim .inr fun z => .inl (List.mem_append_right _ z)⟩
     ·rw [if_neg h, if_neg (e.1 ▸ h), List.map_cons, List.map_cons]
      obtain ⟨fp', r', s'⟩ := WW r e.2 rt fun b hb => dj b (List.mem_append_right _ hb)
      refine ⟨f1 ++ fp', .cons r1 r' fun _ b hb z => (s' b z).elim (n rfl b hb) (dj b (List.mem_append_left _ hb)), fun b hb => (List.mem_append.mp hb).elim (fun z => .inl (List.mem_append_left _ z)) fun z => (s' b z).imp_left fun y => List.mem_append_right _ y⟩
theorem VR {d : D} {v : V} {g : List Addr} (r : Rep K H 0 d v g) : ∀ {ds : List D} {vs : List V} {fp : List Addr} (j : Nat), Reps K H 0 ds vs fp → (∀ b ∈ fp, b ∉ g) → ∃ fp', Reps K H 0 (ds.set j d) (vs.set j v) fp' ∧ ∀ b ∈ fp', b ∈ fp ∨ b ∈ g
 | _, _, _, _, .nil, _ => ⟨[], .nil, fun b hb => by simp at hb⟩
 | _, _, _, 0, .cons (g := f2) r1 rt n, dj => ⟨g ++ f2, .cons r rt fun _ b hb z => dj b (List.mem_append_right _ z) hb, fun b hb => (List.mem_append.mp hb).elim .inr fun z => .inl (List.mem_append_right _ z)⟩
 | _, _, _, j + 1, .cons (f := f1) (g := f2) r1 rt n, dj => by
   obtain ⟨fp', r', s'⟩ := VR r j rt fun b hb => dj b (List.mem_append_right _ hb)
   exact ⟨f1 ++ fp', .cons r1 r' fun e b hb z => (s' b z).elim (n e b hb) (dj b (List.mem_append_left _ hb)), fun b hb => (List.mem_append.mp hb).elim (fun z => .inl (List.mem_append_left _ z)) fun z => (s' b z).imp_left fun y => List.mem_append_right _ y⟩
end
def putR (ro : R) (di d : D) (e : En) (nx : En → Prop) : Prop := chg ro e fun i dd m => match dd with
 | .lst xs => match di with
   | .int j => match ixN xs.length j with
     | some n => nx (e.set i (some (.lst (xs.set n d), m)))
     | none => False
   | _ => False
 | .dT kvs => match di with
   | .tup ks => match jd ks with
     | some k => kvs.length < sizeLine ∧ nx (e.set i (some (.dT (putD k d kvs), m)))
     | none => False
   | _ => False
 | _ => False
def sPut (te to ti : XE) : XS := fun env nx _ => te env fun r e1 => to e1 fun ro e2 => ti e2 fun ri e3 => stor r e3 fun d => rd 1 ri e3 fun di => putR ro di d e3 nx
theorem qb4 {ro : R} {di d : D} {e : En} {k k' : En → Prop} (h : ∀ e, k e → k' e) (q : putR ro di d e k) : putR ro di d e k' := W8 (fun i dd m q => by
 split at q
 ·split at q
  ·split at q
   ·simp only [*] <;> exact h _ q
   ·exact q.elim
  ·exact q.elim
 ·split at q
  ·split at q
   ·have q2 := h _ q.2
    simp only [*]
    first | exact ⟨trivial, trivial⟩ | exact ⟨q.1, trivial⟩ | exact trivial
   ·exact q.elim
  ·exact q.elim
 ·exact q.elim) q
section
variable {X : Cx} {o i e : Expr} {te to ti : XE} {pos tpos : Pos}
def qi5 : TSet := fun o i v H Q => rSetL o i v H Q ∨ rSetD o i v H Q
theorem qfl (hx : Ok X) : PSet X qi5 := fun pins s σ H o i v ov iv u Q I ro ri rv h => h.elim (set_list pins s σ H o i v ov iv u Q I ro ri rv) (set_dict (by have := hx.un; omega) pins s σ H o i v ov iv u Q I ro ri rv)
theorem qeW (hx : Ok X) (he : DE X e te) (ho : DE X o to) (hi : DE X i ti) (hs : swapsWithSole [.Subscript o i tpos] e pos.line X.env = pure false := by rfl) (hw : swappedStores [.Subscript o i tpos] e X.env = pure none := by rfl)
 (h1 : (assignEach [.Subscript o i tpos] X.env).map (·.2) = [assign (.Subscript o i tpos) X.env] := by rfl)
 (ha : ∀ v, assign (.Subscript o i tpos) X.env v = (do
  let ov ← holding [v] (eval o X.env)
  let iv ← holding [v, ov] (eval i X.env)
  standAt tpos
  holding [v, ov, iv] (setItem ov iv v)
  release [v, ov, iv] []) := by intro _; rfl) : DS X (.Assign [.Subscript o i tpos] e pos) (sPut te to ti) := by
 refine ⟨PS.imp (ps_asg he.run (pg_sub ho.run hi.run (qfl hx) ha) hs hw h1) fun D σ H q => ?_, fun env nx nx' rt rt' h h' q => he.mono _ _ _ (fun r e q => ho.mono _ _ _ (fun r e q => hi.mono _ _ _ (fun r e q => jM (fun d q => qQ (fun d q => qb4 h q) q) q) q) q) q⟩
 obtain ⟨env, f, A, q⟩ := q
 refine ⟨env, f, A, he.mono _ _ _ (fun r e1 q => ?_) q⟩
 intro v H1 f1 g1 A1 R1 S1 K1
 refine ⟨e1, f1, A1, ho.mono _ _ _ (fun ro e2 q => ?_) q⟩
 intro vo H2 f2 g2 A2 R2 S2 K2
 refine ⟨e2, f2, A2, hi.mono _ _ _ (fun ri e3 q => ?_) q⟩
 intro vi H3 f3 g3 A3 R3 S3 K3
 obtain ⟨R1', n1⟩ := R1.wait A1 S2 K2
 obtain ⟨R1'', n1'⟩ := R1'.wait A2 S3 K3
 obtain ⟨R2', n2⟩ := R2.wait A2 S3 K3
 have S : Stp H env f [] H3 e3 f3 g1 := ((S1.trans ((S2.drop (G2 := []) fun _ z => by simp at z).frame g1)).drop (G2 := g1) (fun b hb => by simpa using hb)).trans ((S3.drop (G2 := []) fun _ z => by simp at z).frame g1) |>.drop fun b hb => by simpa using hb
 have Kk := (K1.trans K2).trans K3
 obtain ⟨d, rd1, q, nn⟩ := Qg A3 R1'' q
 obtain ⟨di, gi, rpi, q⟩ := yx A3 R3 q
 obtain ⟨n, dd, m, en, hm, hl, hv, rp, rfl, q⟩ := qaB A3 R2' q
 split at q
 ·obtain ⟨a, vs, fp, rfl, hH, rr, hf, nfp⟩ := rp.listAt
  split at q
  ·split at q
   ·rename_i m' hj
    obtain ⟨rfl, _⟩ := rpi.intV
    have dj : ∀ b ∈ fp, b ∉ g1 := fun b hb z => (nn b z).1 ⟨n, _, m, en, hl, by rw [hf]; exact List.mem_cons_of_mem _ hb⟩
    obtain ⟨fp', r', s'⟩ := VR rd1 m' rr dj
    obtain ⟨A4, S4, K4, _⟩ := Xb (G := g1) (G' := []) A3 en hm hl hv hH hf nfp r' s' nn qF
    refine .inl ⟨a, vs, _, m', rfl, rfl, hH, by rw [← rr.len]; exact hj, q σ _ _ A4 (S.trans S4) (Kk.trans K4).kq⟩
   ·exact q.elim
  ·exact q.elim
 ·obtain ⟨a, hs, fp, rfl, hH, ek, nd, rr, hf, nfp⟩ := rp.dTAt
  split at q
  ·split at q
   ·rename_i k hk
    obtain ⟨b, ws, rfl, hb, rb⟩ := rpi.tupleAt (Nat.le_refl _)
    rw [rb.jd hk] at hb
    have dj : ∀ b ∈ fp, b ∉ g1 := fun b hb z => (nn b z).1 ⟨n, _, m, en, hl, by rw [hf]; exact List.mem_cons_of_mem _ hb⟩
    obtain ⟨fp', r', s'⟩ := WW (k := k) rd1 ek rr dj
    have ndh : (hs.map (·.1)).Nodup := by rw [ek]; exact nd
    obtain ⟨A4, S4, K4, _⟩ := qeX (G := g1) (G' := []) A3 en hm hl hv hH rfl hf (nfp rfl) (WY k v d ek) (vN nd) r' s' nn qF
    have hlen := congrArg List.length ek
    rw [List.length_map, List.length_map] at hlen
    refine .inr ⟨a, _, rfl, .t hH hb (by rw [hlen]; exact q.1), ?_⟩
    rw [qb6 ndh]
    exact q.2 σ _ _ A4 (S.trans S4) (Kk.trans K4).kq
   ·exact q.elim
  ·exact q.elim
 ·exact q.elim
end
end BX
namespace BX
open PySem PySem.Spec PyProof.Rows L2 RZ
def zc : R → Option Bool
 | .tmp _ => some false
 | .ro c _ => some c
 | .sl _ => none
def zipL (xs ys : List D) : List D := List.zipWith (fun x y => .tup [x, y]) xs ys
def zipS (r1 r2 : R) (d1 d2 : D) (e : En) (k : List D → Option Bool → Lok → En → Prop) : Prop := match zc r1, zc r2 with
 | some c, some c' => match d1, d2 with
   | .lst xs, .lst ys => k (zipL xs ys) (some (c || c')) none e
   | .tup xs, .tup ys => k (zipL xs ys) (some (c || c')) none e
   | _, _ => False
 | _, _ => False
def qf0 (t u : XE) : XI := fun env k => t env fun r1 e1 => u e1 fun r2 e2 => rd 2 r1 e2 fun d1 => rd 2 r2 e2 fun d2 => zipS r1 r2 d1 d2 e2 k
section
variable {K : PySem.W.Frag} {σ : L2.St} {H H1 : Hp} {env e1 : En} {f f1 : FA} {g : List Addr} {r : R} {x : V} {d : D}
theorem qeV {c : Bool} (A : Abs K σ H1 e1 f1) (h : ResOk K σ H1 e1 f1 r x g) (hc : zc r = some c) (dd : r.data 2 e1 = some d) : ∃ gg, Rep K H1 (clv c) d x gg ∧ ∀ b ∈ gg, (∃ o, H1 b = some o) ∧ ¬ L0 e1 f1 b := by
 cases h with
 | @tmp d' _ _ rp n =>
   cases dd; cases hc
   exact ⟨g, rp.up (Nat.zero_le _), fun b hb => ⟨(rp.dom b hb).imp fun o z => z.1, (n b hb).1⟩⟩
 | @ro c' d' _ g0 rp n =>
   cases hc
   have dd' : d' = d := by
    unfold BX.R.data at dd
    cases e : roOk c 2 with
    | false => simp only [e] at dd; cases dd
    | true => simp only [e] at dd; exact Option.some.inj dd
   subst dd'
   exact ⟨g0, rp, fun b hb => ⟨(rp.dom b hb).imp fun o z => z.1, fun w => A.apart w (n b hb)⟩⟩
 | sl _ _ _ => cases hc
theorem W6 {P Q : List Addr} {H : Hp} (n : Near H1 P H) (h : ∀ b ∈ Q, b ∈ P) : Near H1 Q H := fun b o e z => n b o e (z.imp_left (h b))
theorem qaA (c c' : Bool) : clv c ≤ clv (c || c') ∧ clv c' ≤ clv (c || c') := by cases c <;> cases c' <;> decide
theorem VH {xs ys : List D} {i : Nat} {d : D} (h : (zipL xs ys)[i]? = some d) : ∃ a b, xs[i]? = some a ∧ ys[i]? = some b ∧ d = .tup [a, b] := by
 unfold zipL at h
 rw [List.getElem?_zipWith] at h
 cases e1 : xs[i]? with
 | none => rw [e1] at h; cases h
 | some a =>
   cases e2 : ys[i]? with
   | none => rw [e1, e2] at h; cases h
   | some b => rw [e1, e2] at h; cases h; exact ⟨a, b, rfl, rfl, rfl⟩
theorem X8 {P g1 g2 : List Addr} {H : Hp} {c : Bool} {d1 d2 : D} {x y : V} {T : Addr} (hT : H T = none) (r1 : Rep K H (clv c) d1 x g1) (r2 : Rep K H (clv c) d2 y g2) (h1 : ∀ b ∈ g1, b ∈ P) (h2 : ∀ b ∈ g2, b ∈ P) :
 (∀ b o, H b = some o → (upd H T (.tup [x, y])) b = some o) ∧ Item K (upd H T (.tup [x, y])) P (some c) (.tup [d1, d2]) (.ref T) := by
 have kp : ∀ b o, H b = some o → (upd H T (.tup [x, y])) b = some o := (Ext.upd (o := .tup [x, y]) hT).same
 have hlv : clv c ≠ 0 := by cases c <;> decide
 refine ⟨kp, g1 ++ (g2 ++ []), .tup upd_same (.cons (r1.keep fun b o e _ => kp b o e) (.cons (r2.keep fun b o e _ => kp b o e) .nil fun z => absurd z hlv) fun z => absurd z hlv), fun b hb => ?_⟩
 rcases List.mem_append.mp hb with hb | hb
 ·exact h1 b hb
 ·rcases List.mem_append.mp hb with hb | hb
  ·exact h2 b hb
  ·simp at hb
variable {xs ys : List D} {vs ws : List V} {a b : Addr} {c c' : Bool} {g1 g2 P : List Addr}
theorem qfc (ha : ∀ H, Near H1 P H → SqL K H a vs) (hb : ∀ H, Near H1 P H → SqL K H b ws) (r1 : Reps K H1 (clv c) xs vs g1) (r2 : Reps K H1 (clv c') ys ws g2) (s1 : ∀ b ∈ g1, b ∈ P) (s2 : ∀ b ∈ g2, b ∈ P) : Wk K (Itz K a b) (zipL xs ys) (some (c || c')) H1 P where
 go := fun i H n h => by
  rw [zipL, List.length_zipWith] at h
  have l1 := r1.len; have l2 := r2.len
  exact ⟨vs, ws, vs[i]'(by omega), ws[i]'(by omega), ha H n, hb H n, List.getElem?_eq_getElem _, List.getElem?_eq_getElem _⟩
 stop := fun i H n h => by
  rw [zipL, List.length_zipWith] at h
  have l1 := r1.len; have l2 := r2.len
  exact ⟨vs, ws, ha H n, hb H n, by omega⟩
 yld := fun i H x H' d n e y => by
  obtain ⟨T, x', y', rfl, hT, rfl, hx, hy⟩ := y
  obtain ⟨d1, d2, e1, e2, rfl⟩ := VH e
  obtain ⟨v1, h1, q1, rp1, t1⟩ := r1.get e1
  obtain ⟨v2, h2, q2, rp2, t2⟩ := r2.get e2
  have := hx vs (ha H n); rw [q1] at this; cases this
  have := hy ws (hb H n); rw [q2] at this; cases this
  exact X8 hT ((vP rp1 n fun b hb => s1 b (t1 b hb)).up (qaA c c').1) ((vP rp2 n fun b hb => s2 b (t2 b hb)).up (qaA c c').2) (fun b hb => s1 b (t1 b hb)) fun b hb => s2 b (t2 b hb)
theorem qfb (ha : ∀ H, Near H1 P H → SqT K H a vs) (hb : ∀ H, Near H1 P H → SqT K H b ws) (r1 : Reps K H1 (clv c) xs vs g1) (r2 : Reps K H1 (clv c') ys ws g2) (s1 : ∀ b ∈ g1, b ∈ P) (s2 : ∀ b ∈ g2, b ∈ P) : Wk K (ItzT K a b) (zipL xs ys) (some (c || c')) H1 P where
 go := fun i H n h => by
  rw [zipL, List.length_zipWith] at h
  have l1 := r1.len; have l2 := r2.len
  exact ⟨vs, ws, vs[i]'(by omega), ws[i]'(by omega), ha H n, hb H n, List.getElem?_eq_getElem _, List.getElem?_eq_getElem _⟩
 stop := fun i H n h => by
  rw [zipL, List.length_zipWith] at h
  have l1 := r1.len; have l2 := r2.len
  exact ⟨vs, ws, ha H n, hb H n, by omega⟩
 yld := fun i H x H' d n e y => by
  obtain ⟨T, x', y', rfl, hT, rfl, hx, hy⟩ := y
  obtain ⟨d1, d2, e1, e2, rfl⟩ := VH e
  obtain ⟨v1, h1, q1, rp1, t1⟩ := r1.get e1
  obtain ⟨v2, h2, q2, rp2, t2⟩ := r2.get e2
  have := hx vs (ha H n); rw [q1] at this; cases this
  have := hy ws (hb H n); rw [q2] at this; cases this
  exact X8 hT ((vP rp1 n fun b hb => s1 b (t1 b hb)).up (qaA c c').1) ((vP rp2 n fun b hb => s2 b (t2 b hb)).up (qaA c c').2) (fun b hb => s1 b (t1 b hb)) fun b hb => s2 b (t2 b hb)
end
theorem qbu {r1 r2 : R} {d1 d2 : D} {e : En} {k k' : List D → Option Bool → Lok → En → Prop} (h : ∀ ds kd lk e, k ds kd lk e → k' ds kd lk e) (q : zipS r1 r2 d1 d2 e k) : zipS r1 r2 d1 d2 e k' := by
 unfold zipS at q ⊢
 revert q
 cases zc r1 with
 | none => exact id
 | some c => cases zc r2 with
   | none => exact id
   | some c' => cases d1 <;> cases d2 <;> first | exact id | exact fun q => h _ _ _ _ q
section
variable {X : Cx} {e e2 : Expr} {t u : XE} {p pos tpos : Pos} {elts : List Expr} {kk : Nat}
theorem qhP (ha : DE X e t) (hb : DE X e2 u) (hm : X.mg "zip" = none) (hg : Gl X "zip" := by rfl) (hs' : starEach [e, e2] X.env = (false, eval e X.env) :: starEach [e2] X.env := by rfl) (hs2' : starEach [e2] X.env = (false, eval e2 X.env) :: starEach [] X.env := by rfl)
 (hpl : (backTo pos (starEach [e2] X.env)).any (·.1) = false := by rfl) : DI X (.Tuple elts kk tpos) (.Call (.Name "zip" p) [e, e2] [] pos) (qf0 t u) := by
 refine ⟨PI.imp (pi_zipA hg hm (qd ha (qd hb qu hs2') hs').run hs' hpl) fun σ H R q => ?_, fun env k k' h q => ha.mono _ _ _ (fun r e q => hb.mono _ _ _ (fun r2 e2 q => qQ (fun d q => qQ (fun d2 q => ?_) q) q) q) q⟩
 ·obtain ⟨env, f, A, q⟩ := q
  refine ⟨env, f, A, ha.mono _ _ _ (fun r1 e1 q => hb.mono _ _ _ (fun r2 e2 q => ?_) q) q⟩
  intro vs H1 f1 gs A1 R1 S1 K1
  cases R1 with
  | cons R1 Rt _ =>
    cases Rt with
    | cons R2 Rt _ =>
      cases Rt
      obtain ⟨d1, dd1, q⟩ := Ux q
      obtain ⟨d2, dd2, q⟩ := Ux q
      unfold zipS at q
      split at q
      ·rename_i c c' hc hc'
       obtain ⟨gg1, rp1, n1⟩ := qeV A1 R1 hc dd1
       obtain ⟨gg2, rp2, n2⟩ := qeV A1 R2 hc' dd2
       have S0 := S1.drop (G2 := []) fun _ z => by simp at z
       have nn : ∀ b ∈ gg1 ++ gg2, (∃ o, H1 b = some o) ∧ ¬ L0 e2 f1 b := fun b hb => (List.mem_append.mp hb).elim (n1 b) (n2 b)
       have w1 : ∀ b ∈ gg1, b ∈ gg1 ++ gg2 := fun b hb => List.mem_append_left _ hb
       have w2 : ∀ b ∈ gg2, b ∈ gg1 ++ gg2 := fun b hb => List.mem_append_right _ hb
       split at q
       ·obtain ⟨a1, vs1, k1, rfl, hq1, hn1, rr1, hs1⟩ := QG rp1
        obtain ⟨a2, vs2, k2, rfl, hq2, hn2, rr2, hs2⟩ := QG rp2
        exact ⟨a1, a2, vs1, vs2, rfl, .inl ⟨hq1, hq2, q _ H1 f1 _ e2 A1 S0 K1 .none (qfc (fun H n => hn1 H (W6 n w1)) (fun H n => hn2 H (W6 n w2)) rr1 rr2 (fun b hb => w1 b (hs1 b hb)) fun b hb => w2 b (hs2 b hb)) (fun b hb => ⟨(nn b hb).1, fun w => (nn b hb).2 w.l0⟩) (fun _ b hb => (nn b hb).2)⟩⟩
       ·obtain ⟨a1, vs1, rfl, hq1, hn1, rr1⟩ := W4 rp1
        obtain ⟨a2, vs2, rfl, hq2, hn2, rr2⟩ := W4 rp2
        exact ⟨a1, a2, vs1, vs2, rfl, .inr ⟨hq1, hq2, q _ H1 f1 _ e2 A1 S0 K1 .none (qfb (fun H n => hn1 H (W6 n w1)) (fun H n => hn2 H (W6 n w2)) rr1 rr2 w1 w2) (fun b hb => ⟨(nn b hb).1, fun w => (nn b hb).2 w.l0⟩) (fun _ b hb => (nn b hb).2)⟩⟩
       ·exact q.elim
      ·exact q.elim
 ·exact qbu h q
end
end BX
namespace BX
open PySem PySem.Spec PyProof.Rows L2
def sPar (i j : Nat) (u : XA) : XS := fun env nx _ => u env fun rs e => jZ rs e fun ds => match ds with
 | [d1, d2] => setOk e i = true ∧ setOk e j = true ∧ nx ((e.set i (some (d1, .own))).set j (some (d2, .own)))
 | _ => False
def intS (x : Option (Option (D × Md))) (k : Int → Prop) : Prop := match x with
 | some (some (.int z, _)) => k z
 | _ => False
def intD (d : D) (k : Int → Prop) : Prop := match d with
 | .int z => k z
 | _ => False
def sAug (g : Int → Int → Int) (i : Nat) (te : XE) : XS := fun env nx _ => intS env[i]? fun z => te env fun r e1 => rd 2 r e1 fun d => intD d fun w => setOk e1 i = true ∧ nx (e1.set i (some (.int (g z w), .own)))
def dNeg (t : XE) : XE := fun env Q => t env fun r e => rd 2 r e fun d => intD d fun z => Q (.tmp (.int (-z))) e
def qgg (t : XE) : XE := fun env Q => t env fun r e => rd 2 r e fun d => tru d fun b => Q (.tmp (.bl (!b))) e
theorem ZL {d : D} {k k' : Int → Prop} (h : ∀ z, k z → k' z) (q : intD d k) : intD d k' := by
 cases d <;> first | exact q.elim | exact h _ q
theorem Vj {d : D} {k : Int → Prop} (q : intD d k) : ∃ z, d = .int z ∧ k z := by
 cases d <;> first | exact q.elim | exact ⟨_, rfl, q⟩
section
variable {X : Cx} {e a b : Expr} {t te : XE} {u : XA} {x y : Str} {i j : Nat} {pos pos' px py pt pt2 : Pos} {kt k2 : Nat}
theorem qgd (ha : DE X a t) : DE X (.UnaryOp .Not a pos) (qgg t) := by
 refine ⟨PE.imp (pe_notT ha.run) fun σ H Q q => ?_, fun env Q Q' h q => ha.mono _ _ _ (fun r e q => qQ (fun d q => vK (fun z q => h _ _ q) q) q) q⟩
 obtain ⟨env, f, A, q⟩ := q
 refine ⟨env, f, A, ha.mono _ _ _ (fun r e1 q => ?_) q⟩
 intro v H1 f1 g1 A1 R1 S1 K1
 obtain ⟨d, g', rp, q⟩ := yx A1 R1 q
 obtain ⟨b, ht, q⟩ := rp.tru q
 exact ⟨b, ht, q _ H1 f1 [] A1 (.tmp (.bl _) qF) (S1.drop fun _ z => by simp at z) K1⟩
theorem qcY {op : Operator} {g : Int → Int → Int} (ho : PIp X op (ipI g)) (hN : X.N.Nodup) (he : DE X e te) (hi : X.N[i]? = some x := by rfl) (hx : Loc X.env.scope x := by first | exact .inl rfl | exact .inr rfl)
 (hf : X.fn x = true ∨ X.env.scope.names.lookup x = some .local := by first | exact .inl rfl | exact .inr rfl | assumption) : DS X (.AugAssign (.Name x pos') op e pos) (sAug g i te) := by
 refine ⟨PS.imp (ps_aug hN hi hx he.run ho hf) fun D σ H q => ?_, fun env nx nx' rt rt' h _ q => ?_⟩
 ·obtain ⟨env, f, A, q⟩ := q
  unfold sAug intS at q
  split at q
  ·rename_i z m e0
   obtain ⟨v, hv, rp⟩ := A.rep _ _ _ e0
   obtain ⟨rfl, _⟩ := rp.intV
   refine ⟨.int z, hv, env, f, A, he.mono _ _ _ (fun r e1 q => ?_) q⟩
   intro v1 H1 f1 g1 A1 R1 S1 K1
   obtain ⟨d, g', rp1, q⟩ := yx A1 R1 q
   obtain ⟨w, rfl, so, q⟩ := Vj q
   obtain ⟨rfl, _⟩ := rp1.intV
   refine ⟨z, w, rfl, rfl, ?_⟩
   obtain ⟨A', S', K', _⟩ := A1.put (m := .own) (G := []) so (.int (g z w)) ⟨(fun z => nomatch z), (fun z => nomatch z)⟩ (fun _ => qF) qF fun _ => qF
   exact q _ H1 _ A' ((S1.drop (G2 := []) fun _ z => by simp at z).trans S') (K1.kq.trans K')
  ·exact q.elim
 ·unfold sAug intS at q ⊢
  split at q
  ·exact he.mono _ _ _ (fun r e q => qQ (fun d q => ZL (fun z q => ⟨q.1, h _ q.2⟩) q) q) q
  ·exact q.elim
theorem ZV (hx : Ok X) (hN : X.N.Nodup) (hij : i ≠ j) (ha : DA X [a, b] u) (hi : X.N[i]? = some x := by rfl) (hj : X.N[j]? = some y := by rfl) (hxl : X.env.scope.names.lookup x = some .local := by rfl) (hyl : X.env.scope.names.lookup y = some .local := by rfl)
 (hw : swappedStores [.Tuple [.Name x px, .Name y py] kt pt] (.Tuple [a, b] k2 pt2) X.env = pure (some [x, y]) := by rfl)
 (hs : swapsWithSole [.Tuple [.Name x px, .Name y py] kt pt] (.Tuple [a, b] k2 pt2) pos.line X.env = pure false := by rfl) : DS X (.Assign [.Tuple [.Name x px, .Name y py] kt pt] (.Tuple [a, b] k2 pt2) pos) (sPar i j u) := by
 refine ⟨PS.imp (ps_par hx.calm hN hi hj hij hxl hyl ha.run hw hs) fun D σ H q => ?_, fun env nx nx' rt rt' h _ q => ha.mono _ _ _ (fun rs e q => vL (fun ds q => ?_) q) q⟩
 ·obtain ⟨env, f, A, q⟩ := q
  refine ⟨env, f, A, ha.mono _ _ _ (fun rs e1 q => ?_) q⟩
  intro vs H1 f1 gs A1 R1 S1 K1
  obtain ⟨ds, rp, q, nn⟩ := WR A1 R1 q
  match ds, q with
  | [d1, d2], q =>
    obtain ⟨so1, so2, q⟩ := q
    cases rp with
    | @cons _ v ga _ _ _ r1 rt n =>
      cases rt with
      | @cons _ w gb _ _ _ r2 rt n2 =>
        cases rt
        have nd : ∀ b ∈ ga, b ∉ gb := fun b hb z => n rfl b hb (List.mem_append_left _ z)
        obtain ⟨A2, S2, K2, L2', O2, _⟩ := A1.put (m := .own) (G := ga) so1 r1 ⟨(fun z => nomatch z), (fun z => nomatch z)⟩ (fun _ b hb => nn b (List.mem_append_left _ hb)) (fun b hb => (nn b (List.mem_append_left _ hb)).1) fun _ b hb => hb
        have so2' : setOk (e1.set i (some (d1, .own))) j = true := by
         unfold setOk at so2 ⊢
         rw [yS (Ne.symm hij)]
         exact so2
        have nb : ∀ b ∈ gb, ¬ L0 (e1.set i (some (d1, Md.own))) (fset f1 i ga) b ∧ ¬ Ro (e1.set i (some (d1, Md.own))) (fset f1 i ga) b := fun b hb => by
         have := nn b (List.mem_append_right _ (List.mem_append_left _ hb))
         exact ⟨fun z => (L2' b z).elim this.1 fun y => nd b y hb, fun z => this.2 (O2 rfl b z)⟩
        obtain ⟨A3, S3, K3, _⟩ := A2.put (m := .own) (G := gb) so2' r2 ⟨(fun z => nomatch z), (fun z => nomatch z)⟩ (fun _ => nb) (fun b hb => (nb b hb).1) fun _ b hb => hb
        refine ⟨v, w, rfl, q _ H1 _ A3 (S1.trans ⟨fun b o h _ => h, fun b z => ?_⟩) ((K1.kq.trans K2).trans K3)⟩
        rcases S3.own b z with z | z | z
        ·rcases S2.own b (.inl z) with z | z | z
         ·exact .inl z
         ·exact .inr (.inl (List.mem_append_left _ z))
         ·exact .inr (.inr z)
        ·exact .inr (.inl (List.mem_append_right _ (List.mem_append_left _ z)))
        ·exact .inr (.inr z)
  | [], q => exact q.elim
  | [_], q => exact q.elim
  | _ :: _ :: _ :: _, q => exact q.elim
 ·match ds, q with
  | [d1, d2], q => exact ⟨q.1, q.2.1, h _ q.2.2⟩
  | [], q => exact q.elim
  | [_], q => exact q.elim
  | _ :: _ :: _ :: _, q => exact q.elim
end
end BX
namespace BX
open PySem PySem.Spec PyProof.Rows L2
theorem Ok.blk {X : Cx} (h : Ok X) {s : Shared} {H : Hp} {scope : Scope} {cenv : Env} {fp : List Addr} : Ok (X.blk s H scope cenv fp) := ⟨h.calm, h.un⟩
section
variable {X : Cx} {pos : Pos}
theorem qhU : DE X (.Dict [] [] pos) (dC (.dT [])) := by
 refine ⟨PE.imp pe_dnewT fun σ H Q q => ?_, fun env Q Q' h q => h _ _ q⟩
 obtain ⟨env, f, A, q⟩ := q
 intro p hp
 have x : Ext H (L2.upd H p (.dT [])) [p] := .upd hp
 obtain ⟨A3, R3, S3⟩ := j8 A .refl x (z := .ref p) (d := .dT []) (by
  have := Rep.dT (K := X.K) (H := L2.upd H p (.dT [])) (lv := 0) (a := p) (hs := []) (kvs := []) (f := []) upd_same rfl List.nodup_nil .nil (fun _ z => by simp at z)
  exact this)
 exact q _ _ f [p] A3 R3 S3 .refl
end
end BX
namespace BX
open PySem PySem.Spec PyProof.Rows L2
structure Pr where
 at' : Addr
 kat : Addr
 key : List Key
 val : V
def PrOk (K : PySem.W.Frag) (H : Hp) (x : Pr) : Prop := SqT K H x.at' [.ref x.kat, x.val] ∧ H x.kat = some (.tup (x.key.map kV))
def putAll (kvs : List (List Key × V)) (l : List Pr) : List (List Key × V) := l.foldl (fun a x => putK a x.key x.val) kvs
theorem Yt (l : List Pr) : ∀ kvs, (putAll kvs l).length ≤ kvs.length + l.length := by
 induction l with
 | nil => intro kvs; exact Nat.le_refl _
 | cons x l ih =>
   intro kvs
   have h1 := ih (putK kvs x.key x.val)
   have h2 := length_putK kvs x.key x.val
   rw [List.length_cons]
   show (putAll (putK kvs x.key x.val) l).length ≤ _
   omega
section
variable {X : Cx} {pins : List (Addr × Obj)} {σ : L2.St} {H : Hp} {s : Shared}
inductive Trip (H : Hp) (h : Heap) : List Pr → List (List Key × Addr × Value) → Prop
 | nil : Trip H h [] []
 | cons {x : Pr} {u : Value} {l : List Pr} {ts : List (List Key × Addr × Value)} : RelV x.val u → IsTup h x.at' #[.ref x.kat, u] → H x.kat = some (.tup (x.key.map kV)) → Trip H h l ts → Trip H h (x :: l) ((x.key, x.kat, u) :: ts)
theorem Uj (I : Inv X pins σ H s) : ∀ {l : List Pr}, (∀ x ∈ l, PrOk X.K H x) → ∃ ts, Trip H s.heap l ts
 | [], _ => ⟨[], .nil⟩
 | x :: l, h => by
   obtain ⟨ts, ht⟩ := Uj I fun y hy => h y (List.mem_cons_of_mem _ hy)
   obtain ⟨h1, h2⟩ := h x (List.mem_cons_self ..)
   obtain ⟨its, rv, hT, _⟩ := I.tuple h1
   obtain ⟨u, y, ei, ru, ry⟩ := vals2 rv
   subst ei
   cases (show u = Value.ref x.kat from ru)
   exact ⟨_, .cons ry hT h2 ht⟩
theorem Trip.len {h : Heap} : ∀ {l : List Pr} {ts : List (List Key × Addr × Value)}, Trip H h l ts → ts.length = l.length
 | _, _, .nil => rfl
 | _, _, .cons _ _ _ t => by rw [List.length_cons, List.length_cons, t.len]
theorem Trip.get {h : Heap} : ∀ {l : List Pr} {ts : List (List Key × Addr × Value)} {j : Nat} {t : List Key × Addr × Value}, Trip H h l ts → ts[j]? = some t → ∃ x, l[j]? = some x ∧ t.2.1 = x.kat ∧ IsTup h x.at' #[.ref t.2.1, t.2.2]
 | _, _, 0, _, .cons r i e t, q => by cases q; exact ⟨_, rfl, rfl, i⟩
 | _, _, j + 1, _, .cons r i e t, q => by simpa using t.get (j := j) (by simpa using q)
theorem Trip.keys {h : Heap} {l : List Pr} {ts : List (List Key × Addr × Value)} (t : Trip H h l ts) : ∀ y ∈ ts, H y.2.1 = some (.tup (y.1.map kV)) := by
 induction t with
 | nil => intro y hy; simp at hy
 | cons r i e t ih =>
   intro y hy
   rcases List.mem_cons.mp hy with rfl | hy
   ·exact e
   ·exact ih y hy
theorem Trip.all {h : Heap} {l : List Pr} {ts : List (List Key × Addr × Value)} (t : Trip H h l ts) : ∀ {kvs : List (List Key × V)} {xs : List (List Key × Addr × Value)}, KT H kvs xs → KT H (putAll kvs l) (storedAllH xs ts) := by
 induction t with
 | nil => intro kvs xs r; exact r
 | cons rv i e t ih =>
   intro kvs xs r
   exact ih (r.put _ e rv)
theorem Ym (hx : Ok X) : CallR X (.type "dict") (fun xs H Q => ∃ (a : Addr) (l : List Pr), xs = [.ref a] ∧ SqL X.K H a (l.map fun x => V.ref x.at') ∧ (∀ x ∈ l, PrOk X.K H x) ∧ ∀ p, H p = none → Q (.ref p) (upd H p (.dT (putAll [] l)))) := by
 intro pins s σ H xs us Q I r q
 obtain ⟨a, l, rfl, hq, hp, q⟩ := q
 obtain ⟨u, rfl, rx⟩ := vals1 r
 cases rx
 obtain ⟨its, rv, pl, hz⟩ := I.list hq
 obtain ⟨ts, T⟩ := Uj I hp
 have ei : its = l.map fun x => Value.ref x.at' := by
  have : ∀ {l : List Pr} {us : List Value}, Vals (l.map fun x => V.ref x.at') us → us = l.map fun x => Value.ref x.at' := by
   intro l
   induction l with
   | nil => intro us r; cases r; rfl
   | cons x l ih => intro us r; cases r with
     | cons h t => cases h; rw [List.map_cons, ← ih t]
  exact this rv
 subst ei
 rw [List.length_map] at hz
 have hl := T.len
 have big := I.big
 have hm : (s.heap.objs.size == sysModules) = false := beq_eq_false_iff_ne.mpr (Nat.ne_of_gt big)
 obtain ⟨o, n, ho, hc, hd, hdat⟩ := pl
 have P := PairArg.list (prog := X.prog) (w := X.w) a (l.map fun x => Value.ref x.at').toArray (fun j => (l.map (·.at')).getD j 0) (ts.map fun t => (Value.ref t.2.1, t.2.2))
 refine call_dict_pairsH (knd := tupleKind (mixKind X.prog X.w)) (ps := ts) P (I.ok.hd hx.calm) ?_ ⟨⟨o, n, ho, hc, hd, hdat⟩, ?_, fun j k v e => ?_⟩ ⟨by simp, fun i key v e => ?_⟩ (fun h' hk y hy => ?_) (by rw [List.length_map, hl]; exact hz) fun h' tk hd' k => ?_
 ·exact tupleKind_room_in1 (A := X.A.in1) (by
   have := hx.un
   have e : X.A.in1.units ≤ X.A.units + 1 := by first | exact Nat.le_refl _ | (simp [Around.in1]) | omega
   omega)
 ·simp [hl]
 ·rw [List.getElem?_map] at e
  cases et : ts[j]? with
  | none => rw [et] at e; cases e
  | some t =>
    rw [et] at e
    cases e
    obtain ⟨x, hx1, hx2, hx3⟩ := T.get et
    have hj : ((l.map (·.at')).getD j 0) = x.at' := by simp [List.getD, hx1]
    refine ⟨by simp [hx1], .inl ?_⟩
    show s.heap.IsTuple ((l.map (·.at')).getD j 0) _
    rw [hj]
    exact hx3
 ·rw [PairRel, List.getElem?_map] at e
  cases et : ts[i]? with
  | none => rw [et] at e; cases e
  | some t => rw [et] at e; cases e; exact ⟨t.1, t.2.1, rfl, rfl⟩
 ·obtain ⟨o1, its, n1, g1, g2, g3, g4⟩ := key_of I.hok (T.keys y hy)
  have hne : y.2.1 ≠ s.heap.objs.size := Nat.ne_of_lt (Heap.lt_size g1)
  exact ⟨o1, its, n1, hk _ _ hne (by simp) g1, g2, g3, g4⟩
 ·obtain ⟨q0, es, ep, hq0, h2, h3, h4, _, h5⟩ := hd'
  have hf : H s.heap.objs.size = none := I.hok.fresh (Nat.le_refl _)
  have kt := (T.all (kvs := []) (xs := []) .nil)
  refine ⟨.ref s.heap.objs.size, upd H s.heap.objs.size (.dT (putAll [] l)), I.laid (t' := tk) (fun b o e => k b o (by simp) e) (Nat.le_refl _) ⟨?_, hm, _, kt.keeps fun c ys ec => ?_, q0, es, ep, hq0, h2, h3, h4, h5⟩, rfl, q _ hf⟩
  ·have := Yt l []
   simp only [List.length_nil] at this
   omega
  ·rw [upd_ne (ne_of_none ec hf)]
   exact ec
end
end BX
namespace BX
open PySem PySem.Spec PyProof.Rows L2
def pairD (d : D) : Option (List Key × D) := match d with
 | .tup [.tup ks, v] => match jd ks with
   | some k => match v.imm with
     | true => some (k, v)
     | false => none
   | none => none
 | _ => none
def Uy : List D → Option (List (List Key × D))
 | [] => some []
 | d :: r => match pairD d, Uy r with
   | some p, some l => some (p :: l)
   | _, _ => none
def X7 (kvs : List (List Key × D)) (l : List (List Key × D)) : List (List Key × D) := l.foldl (fun a x => putD x.1 x.2 a) kvs
def Z8 (d : D) (k : D → Prop) : Prop := match d with
 | .lst xs => match Uy xs with
   | some l => k (.dT (X7 [] l))
   | none => False
 | _ => False
section
variable {K : PySem.W.Frag} {H : Hp} {lv : Nat}
theorem qdM {d : D} {v : V} {f : List Addr} {p : List Key × D} (hl : lv ≤ 1) (r : Rep K H lv d v f) (e : pairD d = some p) : ∃ x : Pr, v = V.ref x.at' ∧ PrOk K H x ∧ x.key = p.1 ∧ Rep K H 0 p.2 x.val [] := by
 unfold pairD at e
 split at e
 ·rename_i ks w
  split at e
  ·rename_i k hk
   split at e
   ·rename_i him
    cases e
    obtain ⟨a, vs, rfl, ha, rr⟩ := r.tupleAt hl
    cases rr with
    | cons r1 t _ => cases t with
      | cons r2 t _ =>
        cases t
        obtain ⟨b, ws, rfl, hb, rb⟩ := r1.tupleAt hl
        rw [rb.jd hk] at hb
        obtain ⟨_, r0⟩ := r2.imm hl him
        exact ⟨⟨a, b, k, _⟩, rfl, ⟨.of ha, hb⟩, rfl, r0⟩
   ·cases e
  ·cases e
 ·cases e
theorem Y4 : ∀ {xs : List D} {vs : List V} {f : List Addr} {l : List (List Key × D)}, lv ≤ 1 → Reps K H lv xs vs f → Uy xs = some l → ∃ ps : List Pr, vs = ps.map (fun x => V.ref x.at') ∧ (∀ x ∈ ps, PrOk K H x) ∧ Paired (fun (x : Pr) (p : List Key × D) => x.key = p.1 ∧ Rep K H 0 p.2 x.val []) ps l
 | _, _, _, _, _, .nil, e => by cases e; exact ⟨[], rfl, fun x hx => by simp at hx, .nil⟩
 | _, _, _, l, hl, .cons r t _, e => by
   rw [Uy] at e
   split at e
   ·rename_i p l' h1 h2
    cases e
    obtain ⟨x, rfl, ho, hx⟩ := qdM hl r h1
    obtain ⟨ps, rfl, hp, hq⟩ := Y4 hl t h2
    exact ⟨x :: ps, rfl, fun y hy => (List.mem_cons.mp hy).elim (fun z => z ▸ ho) (hp y), .cons hx hq⟩
   ·cases e
theorem nil_of {α : Type} {l : List α} (h : ∀ b ∈ l, b ∈ ([] : List α)) : l = [] := by
 cases l with
 | nil => rfl
 | cons x l => exact absurd (h x (List.mem_cons_self ..)) (by simp)
theorem qdI {k : List Key} {d : D} {v : V} {hs : List (List Key × V)} {kvs : List (List Key × D)} (r : Rep K H 0 d v []) (ek : hs.map (·.1) = kvs.map (·.1)) (nd : (kvs.map (·.1)).Nodup) (rr : Reps K H 0 (kvs.map (·.2)) (hs.map (·.2)) []) :
 (putK hs k v).map (·.1) = (putD k d kvs).map (·.1) ∧ ((putD k d kvs).map (·.1)).Nodup ∧ Reps K H 0 ((putD k d kvs).map (·.2)) ((putK hs k v).map (·.2)) [] := by
 rw [qb6 (by rw [ek]; exact nd)]
 obtain ⟨fp', r', s'⟩ := WW (k := k) r ek rr (fun _ hb => by simp at hb)
 have e := nil_of (l := fp') fun b hb => (s' b hb).elim id id
 subst e
 exact ⟨WY k v d ek, vN nd, r'⟩
theorem Ys {ps : List Pr} {l : List (List Key × D)} (p : Paired (fun (x : Pr) (p : List Key × D) => x.key = p.1 ∧ Rep K H 0 p.2 x.val []) ps l) : ∀ {hs : List (List Key × V)} {kvs : List (List Key × D)}, hs.map (·.1) = kvs.map (·.1) → (kvs.map (·.1)).Nodup → Reps K H 0 (kvs.map (·.2)) (hs.map (·.2)) [] →
 (putAll hs ps).map (·.1) = (X7 kvs l).map (·.1) ∧ ((X7 kvs l).map (·.1)).Nodup ∧ Reps K H 0 ((X7 kvs l).map (·.2)) ((putAll hs ps).map (·.2)) [] := by
 induction p with
 | nil => intro hs kvs a b c; exact ⟨a, b, c⟩
 | @cons x q ps l h t ih =>
   intro hs kvs a b c
   obtain ⟨h1, h2, h3⟩ := qdI (k := q.1) h.2 a b c
   have := ih h1 h2 h3
   show (putAll (putK hs x.key x.val) ps).map (·.1) = (X7 (putD q.1 q.2 kvs) l).map (·.1) ∧ _
   rw [h.1]
   refine ⟨this.1, this.2.1, ?_⟩
   show Reps K H 0 ((X7 (putD q.1 q.2 kvs) l).map (·.2)) ((putAll (putK hs x.key x.val) ps).map (·.2)) []
   rw [h.1]
   exact this.2.2
end
section
variable {X : Cx}
theorem qg7 {H : Hp} {p : Addr} {hs : List (List Key × V)} {kvs : List (List Key × D)} (h : H p = none) (ek : hs.map (·.1) = kvs.map (·.1)) (nd : (kvs.map (·.1)).Nodup) (r : Reps X.K H 0 (kvs.map (·.2)) (hs.map (·.2)) []) : Rep X.K (upd H p (.dT hs)) 0 (.dT kvs) (.ref p) [p] :=
 .dT upd_same ek nd (r.keep fun b o e _ => by rw [upd_ne (ne_of_none e h)]; exact e) fun _ z => by simp at z
theorem Wg (hx : Ok X) : CallD X (.type "dict") 1 (op1 Z8) := Wh (by decide) (fun pins s σ H x us Q d g I rs r q => by
 unfold Z8 at q
 split at q
 ·split at q
  ·rename_i xs l e
   obtain ⟨a, vs, g', rfl, ha, rr, _⟩ := r.listAt1 (Nat.le_refl _)
   obtain ⟨ps, rfl, hp, hq⟩ := Y4 (Nat.le_refl _) rr e
   obtain ⟨h1, h2, h3⟩ := Ys hq (hs := []) (kvs := []) rfl List.nodup_nil .nil
   exact Ym hx pins s σ H _ us Q I rs ⟨a, ps, rfl, .inl (.inl ha), hp, fun p hf => q _ _ _ (qg7 hf h1 h2 h3) (.upd hf)⟩
  ·exact q.elim
 ·exact q.elim) (fun d k k' h q => by
 unfold Z8 at q ⊢
 split at q
 ·split at q
  ·rename_i l e
   first | (simp only [e]; exact h _ q) | (have q2 := h _ q; simp only [*])
  ·exact q.elim
 ·exact q.elim)
end
end BX
namespace BX
open PySem PySem.Spec PyProof.Rows L2
section
variable {K : PySem.W.Frag} {H : Hp}
theorem qfp : ∀ {xs : List D} {vs : List V}, vs.length = xs.length → (∀ (j : Nat) (d : D) (v : V), xs[j]? = some d → vs[j]? = some v → Rep K H 0 d v []) → Reps K H 0 xs vs []
 | [], [], _, _ => .nil
 | [], _ :: _, l, _ => by simp at l
 | _ :: _, [], l, _ => by simp at l
 | d :: xs, v :: vs, l, h => .cons (f := []) (g := []) (h 0 d v rfl rfl) (qfp (by simpa using l) fun j d v h1 h2 => h (j + 1) d v (by simpa using h1) (by simpa using h2)) (fun _ b hb => by simp at hb)
theorem Reps.nilAt {lv : Nat} : ∀ {xs : List D} {vs : List V} {f : List Addr}, Reps K H lv xs vs f → f = [] → ∀ (j : Nat) (d : D) (v : V), xs[j]? = some d → vs[j]? = some v → Rep K H lv d v []
 | _, _, _, .nil, _, j, d, v, h1, _ => by simp at h1
 | _, _, _, .cons (f := f) (g := g) r t _, e, j, d, v, h1, h2 => by
   obtain ⟨rfl, rfl⟩ := List.append_eq_nil_iff.mp e
   cases j with
   | zero => cases h1; cases h2; exact r
   | succ j => exact t.nilAt rfl j d v (by simpa using h1) (by simpa using h2)
end
abbrev Bn := R → List R → En → (R → En → Prop) → Prop
def dMn (isT : D → Bool) (B : Bn) (ta : XE) (u : XA) : XE := fun env Q => ta env fun r1 e1 => (rd 1 r1 e1 fun d => isT d = true) ∧ u e1 fun rs e2 => B r1 rs e2 Q
structure MnOk (X : Cx) (T : String) (isT : D → Bool) (rr : V → List V → Hp → VK → Prop) (B : Bn) : Prop where
 ty : ∀ (H : Hp) (d : D) (x : V) (g : List Addr), Rep X.K H 1 d x g → isT d = true → tyV X.K T x H
 run : ∀ (σ : L2.St) (H : Hp) (e : En) (f : FA) (r1 : R) (rs : List R) (x : V) (ys : List V) (g1 gs : List Addr) (QQ : R → En → Prop) (Q : VK), Abs X.K σ H e f → ResOk X.K σ H e f r1 x g1 → ResOks X.K σ H e f rs ys gs → (∀ b ∈ g1, b ∉ gs) → B r1 rs e QQ →
  (∀ v H' e' f' r' g', Abs X.K σ H' e' f' → ResOk X.K σ H' e' f' r' v g' → Stp H e f (g1 ++ gs) H' e' f' g' → Kp e f e' f' → QQ r' e' → Q v H') → rr x ys H Q
 mono : ∀ r1 rs e Q Q', (∀ r e, Q r e → Q' r e) → B r1 rs e Q → B r1 rs e Q'
section
variable {X : Cx} {o e : Expr} {es : List Expr} {ta : XE} {u : XA} {cpos apos : Pos} {T id : String} {name : Str} {isT : D → Bool} {rr : V → List V → Hp → VK → Prop} {B : Bn}
theorem qfK (ok : MnOk X T isT rr B) (mo : xr ta) (mu : Yo u) {σ : L2.St} {H : Hp} {Q : VK} (q : jk X.K (dMn isT B ta u) σ H Q) :
 jk X.K ta σ H fun x H1 => tyV X.K T x H1 ∧ qa9 X.K u σ H1 fun ys H2 => rr x ys H2 Q := by
 obtain ⟨env, f, A, q⟩ := q
 have h := Vy (B := fun r1 e1 => rd 1 r1 e1 fun d => isT d = true) (C := fun r1 rs e2 => B r1 rs e2 (qdp X.K σ H env f Q)) mo mu A q
 obtain ⟨env1, f1, A1, q1⟩ := h
 refine ⟨env1, f1, A1, mo _ _ _ (fun r1 e1 z => ?_) q1⟩
 intro x H1 f1 g1 a b c d
 obtain ⟨⟨r0, e0, f0, g0, A0, R0, B0⟩, env2, f2, A2, q2⟩ := z x H1 f1 g1 a b c d
 obtain ⟨d0, g00, rp0, B0⟩ := yx A0 R0 B0
 refine ⟨ok.ty _ _ _ _ rp0 B0, env2, f2, A2, mu _ _ _ (fun rs e2 z => ?_) q2⟩
 intro vs H2 f2 g2 a b c d
 obtain ⟨r1, rs, e2, f2, g1, gs, A2, R1, R2, n, S, Kk, q3⟩ := z vs H2 f2 g2 a b c d
 exact ok.run σ H2 e2 f2 r1 rs x vs g1 gs _ Q A2 R1 R2 n q3 fun v H' e' f' r' g' A' R' S' K' q => q v H' f' g' A' R' (S.trans S') (Kk.trans K')
theorem qfJ (ok : MnOk X T isT rr B) (mo : xr ta) (mu : Yo u) : xr (dMn isT B ta u) := fun env Q Q' h q => mo _ _ _ (fun r1 e1 q => ⟨q.1, mu _ _ _ (fun rs e2 q => ok.mono _ _ _ _ _ h q) q.2⟩) q
theorem qge (ok : MnOk X T isT rr B) (pa : PlainAttrs T) (slot : Slot T name id) (hty : typeOf (.builtin id) = pure (.type "method_descriptor")) (hm : MtR X id rr) (ho : DE X o ta) (ha : DA X (e :: es) u) (hbase : attributeBase o name X.env (eval o X.env) = eval o X.env := by rfl)
 (hfew : ((backTo cpos (starEach (e :: es) X.env)).all (fun x => !x.1) && (backToKw cpos (keywordEach [] X.env)).all (fun x => x.1.isSome)
  && decide ((e :: es).length + ([] : List Keyword).length + (if ([] : List Keyword).isEmpty then 0 else 1) < 30)) = true := by rfl)
 (hline : (apos.endLine == cpos.line) = true := by rfl) (hs : starEach (e :: es) X.env = (false, eval e X.env) :: starEach es X.env := by rfl) (hplain : (backTo cpos (starEach es X.env)).any (·.1) = false := by rfl) :
 DE X (.Call (.Attribute o name apos) (e :: es) [] cpos) (dMn isT B ta u) :=
 ⟨PE.imp (pe_bm pa slot hty hm ho.run ha.run hbase hfew hline hs hplain) fun σ H Q q => qfK ok ho.mono ha.mono q, qfJ ok ho.mono ha.mono⟩
end
end BX
namespace BX
open PySem PySem.Spec PyProof.Rows L2
def Jj (d1 d2 : D) (k : Option D → Prop) : Prop := match d1 with
 | .dT kvs => match d2 with
   | .tup ds => match jd ds with
     | some ks => k (Vc kvs ks)
     | none => False
   | _ => False
 | .dK kvs => match dKey d2 with
   | some ky => k (qfQ kvs ky)
   | none => False
 | _ => False
theorem Yw {d1 d2 : D} {k k' : Option D → Prop} (h : ∀ o, k o → k' o) (q : Jj d1 d2 k) : Jj d1 d2 k' := by
 unfold Jj at q ⊢
 split at q
 ·split at q
  ·split at q
   ·simp only [*] <;> exact h _ q
   ·exact q.elim
  ·exact q.elim
 ·split at q
  ·simp only [*] <;> exact h _ q
  ·exact q.elim
 ·exact q.elim
def immO (o : Option D) (k : Option D → Prop) : Prop := match o with
 | some d => d.imm = true ∧ k (some d)
 | none => k none
theorem Jr {o : Option D} {k k' : Option D → Prop} (h : ∀ o, k o → k' o) (q : immO o k) : immO o k' := by
 cases o with
 | none => exact h _ q
 | some d => exact ⟨q.1, h _ q.2⟩
def bGet : Bn := fun r1 rs e Q => match rs with
 | [r2] => rd 1 r1 e fun d1 => rd 1 r2 e fun d2 => Jj d1 d2 fun o => immO o fun o => Q (.tmp (o.getD .non)) e
 | [r2, r3] => rd 1 r1 e fun d1 => rd 1 r2 e fun d2 => rd 1 r3 e fun d3 => d3.imm = true ∧ Jj d1 d2 fun o => immO o fun o => Q (.tmp (o.getD d3)) e
 | _ => False
def rGet : V → List V → Hp → VK → Prop := fun x ys H Q => ∃ a, x = .ref a ∧ ((∃ y o, ys = [y] ∧ DGet H a y o ∧ Q (o.getD .non) H) ∨ ∃ y z o, ys = [y, z] ∧ DGet H a y o ∧ Q (o.getD z) H)
section
variable {X : Cx}
theorem qhu (hx : Ok X) : MtR X "dict.get" rGet := by
 intro pins s σ H x xs v us Q I rx rxs h
 have hu : X.A.units + 1 < cLine := by have := hx.un; omega
 obtain ⟨a, rfl, h⟩ := h
 cases rx
 rcases h with ⟨y, o, rfl, g, q⟩ | ⟨y, z, o, rfl, g, q⟩
 ·obtain ⟨u, rfl, r1⟩ := vals1 rxs
  exact d_get1 hu I g r1 fun w' s' I' r' => ⟨_, H, I', r', q⟩
 ·obtain ⟨u, u2, rfl, r1, r2⟩ := vals2 rxs
  exact d_get2 hu I g r1 r2 fun w' s' I' r' => ⟨_, H, I', r', q⟩
end
section
variable {K : PySem.W.Frag} {H : Hp}
theorem qak {d1 d2 : D} {x y : V} {g1 g2 : List Addr} {k : Option D → Prop} (r1 : Rep K H 1 d1 x g1) (r2 : Rep K H 1 d2 y g2) (q : Jj d1 d2 fun o => immO o k) :
 ∃ a o o', x = .ref a ∧ DGet H a y o' ∧ k o ∧ ((o = none ∧ o' = none) ∨ ∃ d v, o = some d ∧ o' = some v ∧ Rep K H 0 d v []) := by
 unfold Jj at q
 split at q
 ·rename_i kvs
  split at q
  ·split at q
   ·rename_i ks hk
    obtain ⟨a, hs, g, rfl, ha, ek, nd, rr, _⟩ := r1.dTAt
    obtain ⟨b, vs, rfl, hb, rb⟩ := r2.tupleAt (Nat.le_refl _)
    rw [rb.jd hk] at hb
    have G := DGet.t (k := ks) ha hb
    cases e : Vc kvs ks with
    | none =>
      rw [e] at q
      rw [W9 (k := ks) ek e] at G
      exact ⟨a, none, none, rfl, G, q, .inl ⟨rfl, rfl⟩⟩
    | some d =>
      rw [e] at q
      obtain ⟨j, z, e1, e2, e3⟩ := jJ ek e
      rw [e3] at G
      obtain ⟨v', g', h1, h2, h3⟩ := rr.get e1
      rw [e2] at h1; cases h1
      exact ⟨a, some d, some z, rfl, G, q.2, .inr ⟨d, z, rfl, rfl, (h2.imm (Nat.le_refl _) q.1).2⟩⟩
   ·exact q.elim
  ·exact q.elim
 ·rename_i kvs
  split at q
  ·rename_i ky hk
   obtain ⟨a, hs, g, rfl, ha, ek, nd, rr, _⟩ := r1.dKAt
   have e0 := r2.dKey hk
   subst e0
   have G := DGet.k (k := ky) ha
   cases e : qfQ kvs ky with
   | none =>
     rw [e] at q
     rw [W9 (k := ky) ek e] at G
     exact ⟨a, none, none, rfl, G, q, .inl ⟨rfl, rfl⟩⟩
   | some d =>
     rw [e] at q
     obtain ⟨j, z, e1, e2, e3⟩ := jJ ek e
     rw [e3] at G
     obtain ⟨v', g', h1, h2, h3⟩ := rr.get e1
     rw [e2] at h1; cases h1
     exact ⟨a, some d, some z, rfl, G, q.2, .inr ⟨d, z, rfl, rfl, (h2.imm (Nat.le_refl _) q.1).2⟩⟩
  ·exact q.elim
 ·exact q.elim
end
section
variable {X : Cx}
theorem WQ {H : Hp} {e : En} {f : FA} {G : List Addr} : Stp H e f G H e f [] := ⟨fun b o h _ => h, fun b q => q.elim .inl fun z => by simp at z⟩
theorem qji : MnOk X "dict" D.isDic rGet bGet where
 ty := qeB
 mono := fun r1 rs e Q Q' h q => by
  unfold bGet at q ⊢
  split at q
  ·exact qQ (fun d1 q => qQ (fun d2 q => Yw (fun o q => Jr (fun o q => h _ _ q) q) q) q) q
  ·exact qQ (fun d1 q => qQ (fun d2 q => qQ (fun d3 q => ⟨q.1, Yw (fun o q => Jr (fun o q => h _ _ q) q) q.2⟩) q) q) q
  ·exact q.elim
 run := fun σ H e f r1 rs x ys g1 gs QQ Q A R1 R2 n q k => by
  unfold bGet at q
  split at q
  ·cases R2 with
   | cons R2 Rt _ =>
     cases Rt
     obtain ⟨d1, g1', p1, q⟩ := yx A R1 q
     obtain ⟨d2, g2', p2, q⟩ := yx A R2 q
     obtain ⟨a, o, o', rfl, G, q, c⟩ := qak p1 p2 q
     refine ⟨a, rfl, .inl ⟨_, o', rfl, G, ?_⟩⟩
     rcases c with ⟨rfl, rfl⟩ | ⟨d, v, rfl, rfl, rp⟩
     ·exact k _ _ _ _ _ [] A (.tmp .non qF) WQ .refl q
     ·exact k _ _ _ _ _ [] A (.tmp rp qF) WQ .refl q
  ·cases R2 with
   | cons R2 Rt _ =>
     cases Rt with
     | cons R3 Rt _ =>
       cases Rt
       obtain ⟨d1, g1', p1, q⟩ := yx A R1 q
       obtain ⟨d2, g2', p2, q⟩ := yx A R2 q
       obtain ⟨d3, g3', p3, him, q⟩ := yx A R3 q
       obtain ⟨a, o, o', rfl, G, q, c⟩ := qak p1 p2 q
       refine ⟨a, rfl, .inr ⟨_, _, o', rfl, G, ?_⟩⟩
       rcases c with ⟨rfl, rfl⟩ | ⟨d, v, rfl, rfl, rp⟩
       ·exact k _ _ _ _ _ [] A (.tmp (p3.imm (Nat.le_refl _) him).2 qF) WQ .refl q
       ·exact k _ _ _ _ _ [] A (.tmp rp qF) WQ .refl q
  ·exact q.elim
variable {o e : Expr} {es : List Expr} {ta te tf : XE} {u : XA} {cpos apos : Pos}
theorem qhS (hx : Ok X) (ho : DE X o ta) (ha : DA X (e :: es) u) (hbase : attributeBase o "get" X.env (eval o X.env) = eval o X.env := by rfl)
 (hfew : ((backTo cpos (starEach (e :: es) X.env)).all (fun x => !x.1) && (backToKw cpos (keywordEach [] X.env)).all (fun x => x.1.isSome)
  && decide ((e :: es).length + ([] : List Keyword).length + (if ([] : List Keyword).isEmpty then 0 else 1) < 30)) = true := by rfl)
 (hline : (apos.endLine == cpos.line) = true := by rfl) (hs : starEach (e :: es) X.env = (false, eval e X.env) :: starEach es X.env := by rfl) (hplain : (backTo cpos (starEach es X.env)).any (·.1) = false := by rfl) :
 DE X (.Call (.Attribute o "get" apos) (e :: es) [] cpos) (dMn D.isDic bGet ta u) :=
 qge qji PySem.F.plainAttrs_dict PySem.F.slot_dict_get PySem.F.type_dict_get (qhu hx) ho ha hbase hfew hline hs hplain
end
end BX
namespace BX
open PySem PySem.Spec PyProof.Rows L2 RT
def qbp (d : D) (k : D → Prop) : Prop := match d with
 | .lst xs => match intL xs with
   | some ns => ∃ m, ns.max? = some m ∧ k (.int m)
   | none => False
 | _ => False
section
variable {X : Cx}
theorem qc7 (hx : Ok X) : CallD X (.builtin "max") 2 (op1 qbp) := Wh (by decide) (fun pins s σ H x us Q d g I rs r q => by
 unfold qbp at q
 split at q
 ·split at q
  ·rename_i xs ns e
   obtain ⟨m, hm, q⟩ := q
   obtain ⟨a, vs, g', rfl, ha, rr, _⟩ := r.listSq
   have e2 := rr.intL e
   subst e2
   have hm' := List.max?_eq_some_iff.mp hm
   refine cr_max hx.calm pins s σ H _ us Q I rs ⟨a, ns, rfl, ha, List.length_pos_of_mem hm'.1, fun m' h1 h2 => ?_⟩
   have : m' = m := by have := hm'.2 m' h1; have := h2 m hm'.1; omega
   subst this
   exact q _ H [] (.int _) ⟨fun b o h => h, fun b hb => by simp at hb⟩
  ·exact q.elim
 ·exact q.elim) (fun d k k' h q => by
 unfold qbp at q ⊢
 split at q
 ·split at q
  ·obtain ⟨m, hm, q⟩ := q
   simp only [*]
   exact ⟨m, rfl, h _ q⟩
  ·exact q.elim
 ·exact q.elim)
end
def cutD (xs : List D) (lo hi : Option Int) : List D := (xs.drop (HT.sIx xs.length 0 lo)).take (HT.sIx xs.length xs.length hi - HT.sIx xs.length 0 lo)
abbrev XO := En → (Option Int → En → Prop) → Prop
def qfF : XO := fun env Q => Q none env
def qfE (t : XE) : XO := fun env Q => t env fun r e => rd 2 r e fun d => intD d fun z => Q (some z) e
def qia (t : XO) : Prop := ∀ env Q Q', (∀ o e, Q o e → Q' o e) → t env Q → t env Q'
def Zk (d : D) (lo hi : Option Int) (k : D → Prop) : Prop := match d with
 | .lst xs => immL xs = true ∧ k (.lst (cutD xs lo hi))
 | .lF xs => immL xs = true ∧ k (.lst (cutD xs lo hi))
 | .tup xs => immL xs = true ∧ k (.tup (cutD xs lo hi))
 | _ => False
def qc4 (t : XE) (lo hi : XO) : XE := fun env Q => t env fun r e => lo e fun l e1 => hi e1 fun u e2 => rd 1 r e2 fun d => Zk d l u fun d' => Q (.tmp d') e2
end BX
namespace BX
open PySem PySem.Spec PyProof.Rows L2 RT L2.DX
def rUpd (K : PySem.W.Frag) : V → List V → Hp → VK → Prop := fun x ys H Q => ∃ (d a : Addr) (kvs : List (List Key × V)) (l : List Pr), x = .ref d ∧ ys = [.ref a] ∧ H d = some (.dT kvs) ∧ SqL K H a (l.map fun x => V.ref x.at') ∧ (∀ x ∈ l, PrOk K H x) ∧ kvs.length + l.length ≤ sizeLine ∧
 Q .non (upd H d (.dT (putAll kvs l)))
section
variable {X : Cx}
theorem qht (hx : Ok X) : MtR X "dict.update" (rUpd X.K) := by
 intro pins s σ H x xs v us Q I rx rxs h
 obtain ⟨d, a, kvs, l, rfl, rfl, hH, hq, hp, hsz, q⟩ := h
 cases rx
 obtain ⟨u, rfl, r1⟩ := vals1 rxs
 cases r1
 obtain ⟨its, rv, pl, hz⟩ := I.list hq
 obtain ⟨ts, T⟩ := Uj I hp
 have ei : its = l.map fun x => Value.ref x.at' := by
  have : ∀ {l : List Pr} {us : List Value}, Vals (l.map fun x => V.ref x.at') us → us = l.map fun x => Value.ref x.at' := by
   intro l
   induction l with
   | nil => intro us r; cases r; rfl
   | cons x l ih => intro us r; cases r with
     | cons h t => cases h; rw [List.map_cons, ← ih t]
  exact this rv
 subst ei
 have hl := T.len
 obtain ⟨z, hm, xs', rel, dd⟩ := dt_of I.hok hH
 have hxl : xs'.length = kvs.length := (Paired.length rel).symm
 obtain ⟨od, esd, epd, hod, hcd, _⟩ := id dd
 obtain ⟨o, n, ho, hc, hd, hdat⟩ := pl
 have ned : ∀ {b : Addr} {ob : Obj} {T : String}, s.heap.get? b = some ob → ob.cls = .type T → T ≠ "dict" → b ≠ d := fun {b ob T} h1 h2 h3 z => by
  subst z
  rw [hod] at h1
  cases h1
  have h4 := hcd.1
  rw [h2] at h4
  exact h3 (Value.type.inj h4)
 have keyne : ∀ {b : Addr} {ks : List Key}, H b = some (.tup (ks.map kV)) → b ≠ d := fun {b ks} h => by
  obtain ⟨o1, its1, n1, g1, g2, _⟩ := key_of I.hok h
  exact ned g1 g2 (by decide)
 have P := PairArg.list (prog := X.prog) (w := X.w) a (l.map fun x => Value.ref x.at').toArray (fun j => (l.map (·.at')).getD j 0) (ts.map fun t => (Value.ref t.2.1, t.2.2))
 refine call_update_pairsH (knd := tupleKind (mixKind X.prog X.w)) (acc := xs') (ps := ts) P (I.ok.hd hx.calm) ?_ ⟨⟨o, n, ho, hc, hd, hdat⟩, ?_, fun j k v e => ?_⟩ ?_ ⟨by simp, fun i key v e => ?_⟩ (fun h' hk y hy => ?_) dd (by rw [List.length_map, hl, hxl]; exact hsz) fun h' tk hd' k => ?_
 ·exact tupleKind_room_in1 (A := X.A) (by have := hx.un; omega)
 ·simp [hl]
 ·rw [List.getElem?_map] at e
  cases et : ts[j]? with
  | none => rw [et] at e; cases e
  | some t =>
    rw [et] at e
    cases e
    obtain ⟨x, hx1, hx2, hx3⟩ := T.get et
    have hj : ((l.map (·.at')).getD j 0) = x.at' := by simp [List.getD, hx1]
    refine ⟨by simp [hx1], .inl ?_⟩
    show s.heap.IsTuple ((l.map (·.at')).getD j 0) _
    rw [hj]
    exact hx3
 ·intro hmem
  rcases List.mem_cons.mp hmem with e | hmem
  ·exact ned ho hc (by decide) e.symm
  ·obtain ⟨j, hj, e⟩ := List.mem_map.mp hmem
   have hj' : j < ts.length := by simpa using hj
   obtain ⟨x, hx1, hx2, o1, g1, g2, _⟩ := T.get (List.getElem?_eq_getElem hj')
   have hjx : ((l.map (·.at')).getD j 0) = x.at' := by simp [List.getD, hx1]
   rw [hjx] at e
   exact ned g1 g2 (by decide) e
 ·rw [PairRel, List.getElem?_map] at e
  cases et : ts[i]? with
  | none => rw [et] at e; cases e
  | some t => rw [et] at e; cases e; exact ⟨t.1, t.2.1, rfl, rfl⟩
 ·have hy' : H y.2.1 = some (.tup (y.1.map kV)) := by
   rcases List.mem_append.mp hy with hy | hy
   ·have all : ∀ {l : List (List Key × V)} {m : List (List Key × Addr × Value)}, KT H l m → ∀ x ∈ m, H x.2.1 = some (.tup (x.1.map kV)) := by
     intro l m r
     induction r with
     | nil => intro x hx; cases hx
     | cons h t ih =>
       intro x hx
       rcases List.mem_cons.mp hx with rfl | hx
       ·have e := h.2.1
        rw [h.1] at e
        exact e
       ·exact ih x hx
    exact all rel y hy
   ·exact T.keys y hy
  obtain ⟨o1, its, n1, g1, g2, g3, g4⟩ := key_of I.hok hy'
  exact ⟨o1, its, n1, hk _ _ (keyne hy') (by simp) g1, g2, g3, g4⟩
 ·have kt := T.all rel
  obtain ⟨q0, es, ep, hq0, h2, h3, h4, _, h5⟩ := hd'
  refine ⟨.non, upd H d (.dT (putAll kvs l)), I.write (x := d) (e := d) (t' := tk) (by rw [hH]; exact True.intro) (.inl rfl) (fun b u hb e => k b u hb (by simp) e) ⟨q0, hq0⟩ ⟨?_, hm, _, kt.keeps fun c ys ec => ?_, q0, es, ep, hq0, h2, h3, h4, h5⟩, rfl, q⟩
  ·have := Yt l kvs
   omega
  ·rw [upd_ne (ne_of ec hH (fun z => nomatch z))]
   exact ec
def bUpd : Bn := fun r1 rs e Q => match rs with
 | [r2] => rd 1 r2 e fun d2 => match d2 with
   | .lst xs => match Uy xs with
     | some l => chgT r1 e fun i kvs m => immL (kvs.map (·.2)) = true ∧ kvs.length + l.length ≤ sizeLine ∧ Q (.tmp .non) (e.set i (some (.dT (X7 kvs l), m)))
     | none => False
   | _ => False
 | _ => False
theorem qd0 : MnOk X "dict" D.isDic (rUpd X.K) bUpd where
 ty := qeB
 mono := fun r1 rs e Q Q' h q => by
  unfold bUpd at q ⊢
  split at q
  ·refine qQ (fun d2 q => ?_) q
   split at q
   ·split at q
    ·first
      | (simp only [*]; exact JL (fun i d m q => ⟨q.1, q.2.1, h _ _ q.2.2⟩) q)
      | exact JL (fun i d m q => ⟨q.1, q.2.1, h _ _ q.2.2⟩) q
    ·exact q.elim
   ·exact q.elim
  ·exact q.elim
 run := fun σ H e f r1 rs x ys g1 gs QQ Q A R1 R2 n q k => by
  unfold bUpd at q
  split at q
  ·cases R2 with
   | cons R2 Rt _ =>
     cases Rt
     obtain ⟨d2, g2', p2, q⟩ := yx A R2 q
     split at q
     ·split at q
      ·rename_i xs l el
       obtain ⟨a, vs, g', rfl, ha, rr, _⟩ := p2.listAt1 (Nat.le_refl _)
       obtain ⟨ps, rfl, hp, hq⟩ := Y4 (Nat.le_refl _) rr el
       obtain ⟨i, kvs, m, b, hs, fp, rfl, e0, hm, hl, hv, hH, ek, nd, rk, hf, nfp, rfl, him, hz, q⟩ := qgi A R1 q
       obtain ⟨rfl, rk⟩ := rk.imm (Nat.zero_le _) him
       obtain ⟨h1, h2, h3⟩ := Ys hq ek nd rk
       have lh : hs.length = kvs.length := by have := congrArg List.length ek; simpa using this
       have lp : ps.length = l.length := by
        have : ∀ {ps : List Pr} {l : List (List Key × D)} {R : Pr → List Key × D → Prop}, Paired R ps l → ps.length = l.length := fun h => by
         induction h with
         | nil => rfl
         | cons _ _ ih => simp [ih]
        exact this hq
       obtain ⟨A3, S3, K3, _⟩ := qeX (G := []) (G' := []) A e0 hm hl hv hH rfl hf nfp h1 h2 h3 (fun b hb => by simp at hb) (fun b hb => by simp at hb) qF
       exact ⟨b, a, hs, ps, rfl, rfl, hH, .inl (.inl ha), hp, by rw [lh, lp]; exact hz, k _ _ _ _ _ [] A3 (.tmp .non qF) (S3.more fun b hb => by simp at hb) K3 q⟩
      ·exact q.elim
     ·exact q.elim
  ·exact q.elim
variable {o e : Expr} {es : List Expr} {ta te tf : XE} {u : XA} {cpos apos : Pos}
theorem qc0 (hx : Ok X) (ho : DE X o ta) (ha : DA X (e :: es) u) (hbase : attributeBase o "update" X.env (eval o X.env) = eval o X.env := by rfl)
 (hfew : ((backTo cpos (starEach (e :: es) X.env)).all (fun x => !x.1) && (backToKw cpos (keywordEach [] X.env)).all (fun x => x.1.isSome)
  && decide ((e :: es).length + ([] : List Keyword).length + (if ([] : List Keyword).isEmpty then 0 else 1) < 30)) = true := by rfl)
 (hline : (apos.endLine == cpos.line) = true := by rfl) (hs : starEach (e :: es) X.env = (false, eval e X.env) :: starEach es X.env := by rfl) (hplain : (backTo cpos (starEach es X.env)).any (·.1) = false := by rfl) :
 DE X (.Call (.Attribute o "update" apos) (e :: es) [] cpos) (dMn D.isDic bUpd ta u) :=
 qge qd0 PySem.F.plainAttrs_dict PySem.F.slot_dict_update PySem.F.type_dict_update (qht hx) ho ha hbase hfew hline hs hplain
end
end BX
namespace BX
open PySem PySem.Spec PyProof.Rows L2 RT L2.DX
end BX
namespace BX
open PySem PySem.Spec PyProof.Rows L2
theorem qhK {P : Program} {w : World} {K : PySem.W.Frag} {mg : Str → Option Value} {base : Heap} {x : Str} {k : Nat} {ps : List Str} {S S' : FS} (F : Fn P w K mg base x k ps S) (hm : S.ms = S'.ms) (hw : ∀ ds Q, S'.wp ds Q → S.wp ds Q) (mo : Wj S') : Fn P w K mg base x k ps S' := by
 obtain ⟨f, fd, a, b⟩ := F.ex
 refine ⟨⟨f, fd, a.imp fun vs H Q E h => ?_, b⟩, mo⟩
 obtain ⟨h1, ds, f, h2, h3, h4⟩ := h
 unfold spOf
 rw [hm]
 exact ⟨h1, ds, f, h2, h3, hw _ _ h4⟩
end BX
namespace BX
open PySem PySem.Spec PyProof.Rows L2 RT PySem.W
def qjj (K : PySem.W.Frag) (t : XO) : L2.TO := fun σ H Q => ∃ env f, Abs K σ H env f ∧ t env fun o env' => ∀ H' f', Abs K σ H' env' f' → Stp H env f [] H' env' f' [] → Kp env f env' f' → Q o H'
structure DO (X : Cx) (e : Option Expr) (t : XO) : Prop where
 run : PO X e (qjj X.K t)
 mono : qia t
theorem PO.imp {X : Cx} {e : Option Expr} {t u : L2.TO} (h : PO X e t) (k : ∀ σ H Q, u σ H Q → t σ H Q) : PO X e u := ⟨fun pins s σ H Q I q => h.run pins s σ H Q I (k _ _ _ q)⟩
section
variable {X : Cx} {e : Expr} {t : XE} {lo hi : Option Expr} {tl th : XO} {pos p2 : Pos}
theorem qga : DO X none qfF := ⟨PO.imp po_none fun σ H Q ⟨env, f, A, q⟩ => q H f A .refl .refl, fun env Q Q' h q => h _ _ q⟩
theorem qf9 (ha : DE X e t) : DO X (some e) (qfE t) := by
 refine ⟨PO.imp (po_some ha.run) fun σ H Q q => ?_, fun env Q Q' h q => ha.mono _ _ _ (fun r e q => qQ (fun d q => ZL (fun z q => h _ _ q) q) q) q⟩
 obtain ⟨env, f, A, q⟩ := q
 refine ⟨env, f, A, ha.mono _ _ _ (fun r e1 q => ?_) q⟩
 intro v H1 f1 g1 A1 R1 S1 K1
 obtain ⟨d, g', rp, q⟩ := yx A1 R1 q
 obtain ⟨z, rfl, q⟩ := Vj q
 obtain ⟨rfl, _⟩ := rp.intV
 exact ⟨z, rfl, q H1 f1 A1 (S1.drop fun _ z => by simp at z) K1⟩
theorem Us {d : D} {l u : Option Int} {k k' : D → Prop} (h : ∀ d, k d → k' d) (q : Zk d l u k) : Zk d l u k' := by
 unfold Zk at q ⊢
 split at q
 ·exact ⟨q.1, h _ q.2⟩
 ·exact ⟨q.1, h _ q.2⟩
 ·exact ⟨q.1, h _ q.2⟩
 ·exact q.elim
theorem qc5 {α : Type} {xs : List α} {i n j : Nat} {a : α} (h : ((xs.drop i).take n)[j]? = some a) : xs[i + j]? = some a := by
 rw [List.getElem?_take] at h
 split at h
 ·rwa [List.getElem?_drop] at h
 ·cases h
theorem Vw {K : PySem.W.Frag} {H : Hp} {xs : List D} {vs : List V} (r : Reps K H 0 xs vs []) (lo hi : Option Int) : Reps K H 0 (cutD xs lo hi) (cutV vs lo hi) [] := by
 have hl := r.len
 unfold cutD cutV
 rw [hl]
 refine qfp (by simp [hl]) fun j d v h1 h2 => r.nilAt rfl _ d v (qc5 h1) (qc5 h2)
theorem qeh (ha : DE X e t) (hl : DO X lo tl) (hu : DO X hi th) : DE X (.Subscript e (.Slice lo hi none p2) pos) (qc4 t tl th) := by
 refine ⟨PE.imp (pe_slice (SlR.or sl_list sl_tupA) ha.run hl.run hu.run) fun σ H Q q => ?_, fun env Q Q' h q => ha.mono _ _ _ (fun r e q => hl.mono _ _ _ (fun o e q => hu.mono _ _ _ (fun o e q => qQ (fun d q => Us (fun d q => h _ _ q) q) q) q) q) q⟩
 obtain ⟨env, f, A, q⟩ := q
 refine ⟨env, f, A, ha.mono _ _ _ (fun r1 e1 q => ?_) q⟩
 intro x H1 f1 g1 A1 R1 S1 K1
 refine ⟨e1, f1, A1, hl.mono _ _ _ (fun l e2 q => ?_) q⟩
 intro H2 f2 A2 S2 K2
 obtain ⟨R2, _⟩ := R1.wait A1 (S2.frame []) K2
 refine ⟨e2, f2, A2, hu.mono _ _ _ (fun u e3 q => ?_) q⟩
 intro H3 f3 A3 S3 K3
 obtain ⟨R3, _⟩ := R2.wait A2 (S3.frame []) K3
 obtain ⟨d, g', rp, q⟩ := yx A3 R3 q
 have S : Stp H env f [] H3 e3 f3 [] := (S1.drop fun _ z => by simp at z).trans (S2.trans S3)
 have Kk := K1.trans (K2.trans K3)
 unfold Zk at q
 split at q
 ·obtain ⟨him, q⟩ := q
  obtain ⟨a, vs, g, rfl, hH, rr, _⟩ := rp.listAt1 (Nat.le_refl _)
  obtain ⟨rfl, r0⟩ := rr.imm (Nat.le_refl _) him
  refine .inl ⟨a, vs, rfl, .inl (.inl hH), fun p hp => ?_⟩
  have rc := Vw r0 l u
  have x : Ext H3 (L2.upd H3 p (.lst (cutV vs l u))) [p] := .upd hp
  obtain ⟨A4, R4, S4⟩ := j8 (G := []) A3 S x (.lst upd_same (rc.keep fun b o e _ => x.same b o e) (fun _ z => by simp at z))
  exact q _ _ f3 [p] A4 R4 S4 Kk
 ·obtain ⟨him, q⟩ := q
  obtain ⟨a, vs, rfl, hH, rr, _⟩ := rp.lFSq
  obtain ⟨rfl, r0⟩ := rr.imm (Nat.le_refl _) him
  refine .inl ⟨a, vs, rfl, hH, fun p hp => ?_⟩
  have rc := Vw r0 l u
  have x : Ext H3 (L2.upd H3 p (.lst (cutV vs l u))) [p] := .upd hp
  obtain ⟨A4, R4, S4⟩ := j8 (G := []) A3 S x (.lst upd_same (rc.keep fun b o e _ => x.same b o e) (fun _ z => by simp at z))
  exact q _ _ f3 [p] A4 R4 S4 Kk
 ·obtain ⟨him, q⟩ := q
  obtain ⟨a, vs, rfl, hH, rr⟩ := rp.tupleAt (Nat.le_refl _)
  obtain ⟨rfl, r0⟩ := rr.imm (Nat.le_refl _) him
  refine .inr ⟨a, vs, rfl, .inl (.inl hH), fun hw => ?_, fun _ p hp => ?_⟩
  ·have hl := r0.len
   have e : ∀ xs : List D, xs.length = vs.length → cutD xs l u = xs := fun xs he => by
    unfold cutD
    rw [he, hw.1, hw.2, List.drop_zero, ← he, Nat.sub_zero, List.take_length]
   rw [e _ hl] at q
   exact q _ H3 f3 [] A3 (.tmp (.tup hH r0) qF) S Kk
  ·have rc := Vw r0 l u
   have x : Ext H3 (L2.upd H3 p (.tup (cutV vs l u))) [] := .updT hp
   obtain ⟨A4, R4, S4⟩ := j8 (G := []) A3 S x (Zd hp rc)
   exact q _ _ f3 [] A4 R4 S4 Kk
 ·exact q.elim
end
theorem Ji : ∀ (x : Int) (xs : List Int), maxOf x xs = xs.foldl max x
 | x, [] => rfl
 | x, y :: xs => by
   show maxOf (if DatumOrd.lt x y = true then y else x) xs = xs.foldl max (max x y)
   rw [Ji]
   congr 1
   show (if decide (x < y) = true then y else x) = max x y
   by_cases h : x < y <;> simp [h] <;> omega
theorem Jt {h : Heap} : ∀ {ns : List Int} {us : List Value}, Vals (ns.map V.int) us → HoldAll h us ns
 | [], _, .nil => ⟨[], .nil⟩
 | n :: ns, _, .cons r t => by
   obtain ⟨tk, rfl⟩ := r
   obtain ⟨as, ra⟩ := Jt (h := h) t
   exact ⟨[] ++ as, .cons (.int n tk) ra⟩
def qi7 (K : PySem.W.Frag) : List V → Hp → VK → Prop := fun vs H Q => ∃ (a : Addr) (x : Int) (ns : List Int), vs = [V.ref a] ∧ SqT K H a ((x :: ns).map V.int) ∧ Q (.int (ns.foldl max x)) H
section
variable {X : Cx}
theorem qgh (hx : Ok X) : CallR X (.builtin "max") (qi7 X.K) := by
 intro pins s σ H vs us Q I r h
 obtain ⟨a, x, ns, rfl, hs, q⟩ := h
 obtain ⟨its, rv, hl, _⟩ := I.tuple hs
 rw [Vals.ref1 r]
 refine max_tuple_datum (α := Int) (I.ok.hd hx.calm) hl (Jt rv) (by have := hx.un; show X.A.units + 1 + 0 < cLine; omega) fun i v h' tk hi hv hk => ?_
 obtain ⟨as, rr⟩ := hv
 rw [Ji] at rr
 cases rr with
 | int _ t => exact ⟨.int _, H, I.kept hk, ⟨t, rfl⟩, q⟩
def qdh (d : D) (k : D → Prop) : Prop := match d with
 | .lst xs => qbp (.lst xs) k
 | .tup xs => match intL xs with
   | some (n :: ns) => k (.int (ns.foldl max n))
   | _ => False
 | _ => False
theorem qgl (hx : Ok X) : CallD X (.builtin "max") 2 (op1 qdh) := Wh (by decide) (fun pins s σ H x us Q d g I rs r q => by
 unfold qdh at q
 split at q
 ·have c := qc7 hx
  exact c.run pins s σ H _ us Q I rs ⟨[_], g ++ [], .cons r .nil (fun _ _ _ z => by simp at z), q⟩
 ·split at q
  ·rename_i xs _ n ns e
   obtain ⟨a, vs, rfl, ha, rr⟩ := r.tupleSq
   have e2 := rr.intL e
   subst e2
   exact qgh hx pins s σ H _ us Q I rs ⟨a, n, ns, rfl, ha, q _ H [] (.int _) ⟨fun b o h => h, fun b hb => by simp at hb⟩⟩
  ·exact q.elim
 ·exact q.elim) (fun d k k' h q => by
 unfold qdh at q ⊢
 split at q
 ·rename_i xs
  have m := (qc7 hx).mono [.lst xs] k k' h
  exact m q
 ·split at q
  ·first
    | exact h _ q
    | (simp only [*]; exact h _ q)
  ·exact q.elim
 ·exact q.elim)
end
end BX
namespace BX
open PySem PySem.Spec PyProof.Rows L2 RT L2.DX
def kD : Key → D
 | .inl i => .int i
 | .inr s => .str s
def Vf (kvs : List (List Key × D)) : List D := kvs.map fun p => .tup (p.1.map kD)
section
variable {X : Cx}
def iKs (i : Nat) : XI := fun env k => match env[i]? with
 | some (some (.dF kvs, _)) => k (Vf kvs) none none env
 | _ => False
theorem Vg {K : PySem.W.Frag} {H : Hp} : ∀ ks : List Key, Reps K H 0 (ks.map kD) (ks.map kV) []
 | [] => .nil
 | .inl i :: ks => .cons (f := []) (g := []) (.int i) (Vg ks) fun _ _ z => by cases z
 | .inr s :: ks => .cons (f := []) (g := []) (.str s) (Vg ks) fun _ _ z => by cases z
theorem qdy {K : PySem.W.Frag} {H1 : Hp} {P : List Addr} {a : Addr} {o : Obj} {hs : List (List Key × V)} {kvs : List (List Key × D)} (ha : H1 a = some (.frz o (.dT hs))) (ek : hs.map (·.1) = kvs.map (·.1)) :
 Wk K (Itkt a o hs) (Vf kvs) none H1 P := by
 have hl : hs.length = kvs.length := by have := congrArg List.length ek; simpa using this
 have hn : ∀ H, Near H1 P H → H a = some (.frz o (.dT hs)) := fun H n => n a _ ha (.inr rfl)
 refine ⟨fun i H n h => ⟨hn H n, by rw [hl]; simpa [Vf] using h⟩, fun i H n h => ⟨hn H n, by rw [hl]; simpa [Vf] using h⟩, fun i H x H' d n e y => ?_⟩
 obtain ⟨rfl, k, v, q, e1, rfl, hq⟩ := y
 refine ⟨fun b o h => h, ?_⟩
 have e2 : (kvs.map (·.1))[i]? = some k := by rw [← ek, List.getElem?_map, e1]; rfl
 rw [List.getElem?_map] at e2
 unfold Vf at e
 rw [List.getElem?_map] at e
 cases h : kvs[i]? with
 | none => rw [h] at e; cases e
 | some p =>
   rw [h] at e e2
   cases e
   have e3 : p.1 = k := Option.some.inj e2
   subst e3
   exact .tup hq (Vg _)
theorem qgc (i : Nat) {tg : Expr} {x : Str} {pos : Pos} (hN : X.N[i]? = some x := by rfl) (hv : Vis X.env.scope x := by first | exact Or.inl rfl | exact Or.inr (Or.inl rfl) | exact Or.inr (Or.inr rfl)) (hd : (x == ("__debug__" : Str)) = false := by decide)
 (hcd : (x == ("__classdict__" : Str)) = false := by decide) : DI X tg (.Name x pos) (iKs i) := by
 refine ⟨PI.imp (pi_keys (pe_var hN hv hd hcd)) fun σ H R q => ?_, fun env k k' h q => ?_⟩
 ·obtain ⟨env, f, A, q⟩ := q
  unfold iKs at q
  split at q
  ·rename_i kvs m e
   obtain ⟨v, h1, rp⟩ := A.rep _ _ _ e
   refine ⟨v, h1, ?_⟩
   obtain ⟨g, hg⟩ : ∃ g, g = f i := ⟨_, rfl⟩
   rw [← hg] at rp
   cases rp with
   | @dF a o hs _ ha ek nd rr =>
     exact ⟨a, o, rfl, .inr ⟨hs, ha, q _ H f [] env A .refl .refl .none (qdy ha ek) (fun b hb => by simp at hb) (fun z => nomatch z)⟩⟩
  ·exact q.elim
 ·unfold iKs at q ⊢
  split at q
  ·rename_i kvs m e
   exact h _ _ _ _ q
  ·exact q.elim
end
end BX
namespace BX
open PySem PySem.Spec PyProof.Rows L2 RT L2.DX
end BX
namespace BX
open PySem PySem.Spec PyProof.Rows L2 RT L2.DX
end BX
namespace BX
open PySem PySem.Spec PyProof.Rows L2 RT L2.DX
end BX
namespace BX
open PySem PySem.Spec PyProof.Rows L2
mutual
def D.pd : D → PyData
 | .non => .none
 | .bl b => .bool b
 | .int i => .int i
 | .str x => .str x
 | .tup xs => .tuple (pdL xs)
 | .lst xs => .list (pdL xs)
 | .dT _ => .none
 | .dK _ => .none
 | .dF _ => .none
 | .lF xs => .list (pdL xs)
 | .ob _ _ => .none
 | .ex _ _ => .none
 | .dN _ => .none
def pdL : List D → List PyData
 | [] => []
 | d :: ds => d.pd :: pdL ds
end
mutual
def D.ndc : D → Bool
 | .non => true
 | .bl _ => true
 | .int _ => true
 | .str _ => true
 | .tup xs => ndcL xs
 | .lst xs => ndcL xs
 | .dT _ => false
 | .dK _ => false
 | .dF _ => false
 | .lF xs => ndcL xs
 | .ob _ _ => false
 | .ex _ _ => false
 | .dN _ => false
def ndcL : List D → Bool
 | [] => true
 | d :: ds => d.ndc && ndcL ds
end
section
variable {X : Cx} {pins : List (Addr × Obj)} {σ : L2.St} {H : Hp} {s : Shared} {lv : Nat}
mutual
theorem Rep.reads (I : Inv X pins σ H s) : ∀ {d : D} {v : V} {f : List Addr} {u : Value}, Rep X.K H lv d v f → d.ndc = true → RelV v u → ∃ as, Reads s.heap u d.pd as
 | _, _, _, u, .non, _, r => by obtain rfl : u = .none := r; rw [D.pd]; exact ⟨_, .none⟩
 | _, _, _, u, .bl b, _, r => by obtain rfl : u = .bool b := r; rw [D.pd]; exact ⟨_, .bool b⟩
 | _, _, _, u, .int i, _, r => by obtain ⟨t, rfl⟩ : ∃ t, u = .int i t := r; rw [D.pd]; exact ⟨_, .int i t⟩
 | _, _, _, u, .str x, _, r => by obtain ⟨t, rfl⟩ : ∃ t, u = .str x t := r; rw [D.pd]; exact ⟨_, .str x t⟩
 | _, _, _, u, @Rep.tup _ _ _ a vs ds f h t, n, r => by
   obtain rfl : u = .ref a := r
   obtain ⟨its, rv, ⟨o, ho, hc, m, hd⟩, _⟩ := I.tuple (SqT.of h)
   rw [D.ndc] at n
   obtain ⟨as, ra⟩ := Reps.reads I t n rv
   rw [D.pd]
   exact ⟨as, .tuple ho hc hd (by simpa using ra)⟩
 | _, _, _, u, @Rep.tupK _ _ _ a vs ds f l h t, n, r => by
   obtain rfl : u = .ref a := r
   obtain ⟨its, rv, ⟨o, ho, hc, m, hd⟩, _⟩ := I.tuple h.sq
   rw [D.ndc] at n
   obtain ⟨as, ra⟩ := Reps.reads I t n rv
   rw [D.pd]
   exact ⟨as, .tuple ho hc hd (by simpa using ra)⟩
 | _, _, _, u, @Rep.lst _ _ _ a vs ds f h t m, n, r => by
   obtain rfl : u = .ref a := r
   obtain ⟨its, rv, ⟨o, m, ho, hc, _, hd⟩, _⟩ := I.list (SqL.of h)
   rw [D.ndc] at n
   obtain ⟨as, ra⟩ := Reps.reads I t n rv
   rw [D.pd]
   exact ⟨_, .list ho hc hd (by simpa using ra)⟩
 | _, _, _, u, @Rep.lstF _ _ _ a vs ds f l h t, n, r => by
   obtain rfl : u = .ref a := r
   obtain ⟨its, rv, ⟨o, m, ho, hc, _, hd⟩, _⟩ := I.list h.sq
   rw [D.ndc] at n
   obtain ⟨as, ra⟩ := Reps.reads I t n rv
   rw [D.pd]
   exact ⟨_, .list ho hc hd (by simpa using ra)⟩
 | _, _, _, _, .dT _ _ _ _ _, n, _ => by rw [D.ndc] at n; cases n
 | _, _, _, _, .dTF _ _ _ _ _, n, _ => by rw [D.ndc] at n; cases n
 | _, _, _, _, .dF _ _ _ _, n, _ => by rw [D.ndc] at n; cases n
 | _, _, _, _, .ob _ _ _ _ _, n, _ => by rw [D.ndc] at n; cases n
 | _, _, _, _, .ex _ _ _ _, n, _ => by rw [D.ndc] at n; cases n
 | _, _, _, _, .dN _ _ _ _ _ _, n, _ => by rw [D.ndc] at n; cases n
 | _, _, _, u, @Rep.lF _ _ _ a _ vs ds f h t, n, r => by
   obtain rfl : u = .ref a := r
   obtain ⟨its, rv, ⟨o, m, ho, hc, _, hd⟩, _⟩ := I.list (.inl (.inr ⟨_, h⟩) : SqL X.K H a vs)
   rw [D.ndc] at n
   obtain ⟨as, ra⟩ := Reps.reads I t n rv
   rw [D.pd]
   exact ⟨_, .list ho hc hd (by simpa using ra)⟩
 | _, _, _, _, .dK _ _ _ _ _, n, _ => by rw [D.ndc] at n; cases n
theorem Reps.reads (I : Inv X pins σ H s) : ∀ {ds : List D} {vs : List V} {f : List Addr} {us : List Value}, Reps X.K H lv ds vs f → ndcL ds = true → Vals vs us → ∃ as, ReadsAll s.heap us (pdL ds) as
 | _, _, _, _, .nil, _, .nil => by rw [pdL]; exact ⟨_, .nil⟩
 | _, _, _, _, .cons a t _, n, .cons r q => by
   rw [ndcL, Bool.and_eq_true] at n
   obtain ⟨as, h1⟩ := Rep.reads I a n.1 r
   obtain ⟨bs, h2⟩ := Reps.reads I t n.2 q
   rw [pdL]
   exact ⟨_, .cons h1 h2⟩
end
end
def strD (d : D) : Str := d.pd.shown
def ShOk (d : D) : Prop := d.ndc = true ∧ d.pd.showable = true ∧ d.pd.depth ≤ 90 ∧ d.pd.shown.length ≤ sizeLine
end BX
namespace BX
open PySem PySem.Spec PyProof.Rows L2
structure FnG (P : Program) (w : World) (K : PySem.W.Frag) (mg : Str → Option Value) (base : Heap) (k : Nat) (f : Addr) (fd : FuncData) (ps : List Str) (sp : Sp) : Prop where
 ar : ∀ vs H Q E, sp vs H Q E → vs.length = ps.length
 go : ∀ {A : Around} {fr : List PySem.Env} {s : Shared} {H : Hp} {args : Args} {us : List Value} {vs : List V} {Q : VK} {E : XK},
  Room k A → A.guards = some [] → Env0 P w K mg base A fr s H → BindsTo s fd args (ps.zip us) → Vals vs us → sp vs H Q E →
   codeAny (model P w) A (.call (.ref f) args) (CR CX0 fr P w H s Q E) s
section
variable {P : Program} {w : World} {K : PySem.W.Frag} {mg : Str → Option Value} {base : Heap} {k : Nat} {f : Addr} {fd : FuncData} {ps : List Str} {sp : Sp}
theorem FnG.of (F : FnOk P w K mg base CX0 k f fd ps sp) : FnG P w K mg base k f fd ps sp := ⟨F.len, fun hr _ e b v h => F.run _ _ _ _ _ _ _ _ _ hr e b v h⟩
theorem FnG.up {j : Nat} (F : FnG P w K mg base j f fd ps sp) (l : j ≤ k) : FnG P w K mg base k f fd ps sp := ⟨F.ar, fun hr g e b v h => F.go (hr.mono l) g e b v h⟩
theorem FnG.body {x qual : Str} {st : Stmt} {N : List Str} (U : Fun K x qual st f fd) (Sc : FnScope N ps (defScope st)) (ar : ∀ vs H Q E, sp vs H Q E → vs.length = ps.length)
 (hb : ∀ (cd : Value) (A : Around) (fr : List PySem.Env) (s : Shared) (H : Hp) (vs : List V) (Q : VK) (E : XK), Room k (A.deeper (envOfC qual (defScope st) s.heap.objs.size f cd)) → A.guards = some [] → sp vs H Q E →
  ∃ t, PSs (cxOf CX0 P w K mg base N qual (defScope st) f cd A fr s H E).nox (defBody st) t ∧ t { nx := fun _ H' => Q .non H', rt := Q } (L2.start N vs) H) : FnG P w K mg base (k + 1) f fd ps sp := by
 obtain ⟨oc, od, kV, doc, pm, an, cd, ct, sl, rfl, lk, hc⟩ := U.ex
 refine ⟨ar, ?_⟩
 intro A fr s H args us vs Q E hr hg e0 bd rv hs
 have inK : K.In s.heap := e0.mod.kin.keeps fun b o z => (e0.bs b o z).1
 have noL : s.heap.NoLimit := e0.mod.nolimit.keeps fun b o z => (e0.bs b o z).1
 have hk : ∀ y ∈ ps.zip us, (defScope st).names.lookup y.1 = some .local ∨
  ((defScope st).names.lookup y.1 = some .cell ∧ ((cellsFrom (s.heap.objs.size + 1) (defScope st).names []).lookup y.1).isSome = true) := by
  rintro ⟨n, v⟩ hy
  have hn := (List.of_mem_zip hy).1
  cases Sc.par n hn with
  | inl q => exact .inl q
  | inr q => exact .inr ⟨q, PySem.W.cellsFrom_some _ _ _ (.inl q)⟩
 refine codeAny_call_function hr.depth (inK _ _ lk) rfl Sc.co Sc.gen rfl (PySem.W.codeRec_of inK hc) (bd _ _ _ _ ?_)
 refine wpAny_newFunctionEnv_cells Sc.kind hk fun env he s1 x => ?_
 subst he
 refine ⟨noL.keeps x.toInCall.keep, codeAny_func ?_⟩
 obtain ⟨t, ht, hq⟩ := hb cd A fr s H vs Q E (hr.deeper _) hg hs
 have I : Inv (cxOf CX0 P w K mg base N qual (defScope st) f cd A fr s H E) [] (L2.start N vs) H s1 := inv_start Sc hr.hd e0 (ar _ _ _ _ hs) rv x
 have done : ∀ {τ : L2.St} {H' : Hp} {s' : Shared} {v : V} {u : Value}, Inv (cxOf CX0 P w K mg base N qual (defScope st) f cd A fr s H E) [] τ H' s' → RelV v u → Q v H' → CE fr P w H s Q u s' := by
  intro τ H' s' v u J r q
  exact ⟨v, H', J.os, J.bare, J.base, J.hok, r, q⟩
 refine wpAny_mono (ht.nox.run [] s1 (L2.start N vs) H _ I hq) (fun fl s' z => ?_) (fun _ _ z => z)
 cases fl with
 | next => obtain ⟨τ, H', J, q⟩ := z; exact done (v := .non) (u := .none) J rfl q
 | ret u => obtain ⟨v, τ, H', J, r, q⟩ := z; exact done J r q
 | brk => obtain ⟨_, _, _, q⟩ := z; exact q.elim
 | cont => obtain ⟨_, _, _, q⟩ := z; exact q.elim
end
section
variable {X : Cx} {k : Nat} {ps : List Str} {x : Str} {p pos : Pos} {e : Expr} {es : List Expr} {u : XA} {S : FS}
structure Fg (P : Program) (w : World) (K : PySem.W.Frag) (mg : Str → Option Value) (base : Heap) (x : Str) (k : Nat) (ps : List Str) (S : FS) : Prop where
 ex : ∃ f fd, FnG P w K mg base k f fd ps (spOf K S) ∧ mg x = some (.ref f) ∧ PySem.W.keepIn K (.ref f) = true ∧ Binds K fd ps []
 mono : Wj S
theorem Fg.up {P : Program} {w : World} {K : PySem.W.Frag} {mg : Str → Option Value} {base : Heap} {j : Nat} (F : Fg P w K mg base x j ps S) (l : j ≤ k) : Fg P w K mg base x k ps S :=
 let ⟨f, fd, a, b⟩ := F.ex; ⟨⟨f, fd, a.up l, b⟩, F.mono⟩
end
end BX
namespace BX
open PySem PySem.Spec PyProof.Rows L2
end BX
namespace BT
open PySem PySem.Spec PyProof.Rows L2
def stp : Nat → Nat → Nat
 | 0, i => i
 | k + 1, i => stp k i * 5 + 1
theorem Ur : ∀ a b i, stp (a + b) i = stp a (stp b i)
 | 0, b, i => by rw [Nat.zero_add]; rfl
 | a + 1, b, i => by
   rw [show a + 1 + b = (a + b) + 1 by omega]
   show stp (a + b) i * 5 + 1 = stp a (stp b i) * 5 + 1
   rw [Ur a b i]
theorem qbO : ∀ K : Nat, ∃ c d : Nat, ∀ i, stp (2 ^ K) i = (1 + 4 * 2 ^ K * c) * i + 2 ^ K * (1 + 2 * d)
 | 0 => ⟨1, 0, fun i => by show i * 5 + 1 = _; simp; omega⟩
 | K + 1 => by
   obtain ⟨c, d, h⟩ := qbO K
   refine ⟨c + 2 * 2 ^ K * c * c, d + 2 ^ K * c + 2 * d * 2 ^ K * c, fun i => ?_⟩
   rw [show 2 ^ (K + 1) = 2 ^ K + 2 ^ K by rw [Nat.pow_succ]; omega, Ur, h, h]
   generalize 2 ^ K = M
   grind
theorem half {M x j : Nat} (hM : 0 < M) (h : x % M = j % M) (n : x % (M * 2) ≠ j % (M * 2)) : (x + M) % (M * 2) = j % (M * 2) := by
 rw [Nat.mod_mul, Nat.mod_mul] at n
 rw [Nat.mod_mul, Nat.mod_mul, Nat.add_mod_right, Nat.add_div_right _ hM, h]
 rw [h] at n
 have a := Nat.mod_lt (x / M) (show 0 < 2 by decide)
 have b := Nat.mod_lt (j / M) (show 0 < 2 by decide)
 have c : x / M % 2 ≠ j / M % 2 := fun z => n (by rw [z])
 have e : (x / M + 1) % 2 = j / M % 2 := by omega
 rw [e]
theorem qbP : ∀ (K i j : Nat), ∃ k, k < 2 ^ K ∧ stp k i % 2 ^ K = j % 2 ^ K
 | 0, i, j => ⟨0, by decide, by simp [Nat.mod_one]⟩
 | K + 1, i, j => by
   obtain ⟨k, hk, e⟩ := qbP K i j
   obtain ⟨c, d, h⟩ := qbO K
   by_cases q : stp k i % 2 ^ (K + 1) = j % 2 ^ (K + 1)
   ·exact ⟨k, by rw [Nat.pow_succ]; omega, q⟩
   ·refine ⟨2 ^ K + k, by rw [Nat.pow_succ]; omega, ?_⟩
    rw [Ur, h]
    have e2 : (1 + 4 * 2 ^ K * c) * stp k i + 2 ^ K * (1 + 2 * d) = (stp k i + 2 ^ K) + 2 ^ (K + 1) * (2 * c * stp k i + d) := by
     rw [Nat.pow_succ]; generalize 2 ^ K = M; grind
    rw [e2, Nat.add_mul_mod_self_left, Nat.pow_succ]
    rw [Nat.pow_succ] at q
    exact half (Nat.pow_pos (by decide)) e q
def MG (m : Nat) : Prop := m = 7 ∨ m = 31 ∨ m = 127 ∨ m = 511 ∨ m = 2047 ∨ m = 8191
theorem MG.pow {m : Nat} (h : MG m) : ∃ K, m + 1 = 2 ^ K := by
 rcases h with rfl | rfl | rfl | rfl | rfl | rfl
 ·exact ⟨3, rfl⟩
 ·exact ⟨5, rfl⟩
 ·exact ⟨7, rfl⟩
 ·exact ⟨9, rfl⟩
 ·exact ⟨11, rfl⟩
 ·exact ⟨13, rfl⟩
theorem MG.top {m : Nat} (h : MG m) : m ≤ 8191 := by rcases h with rfl | rfl | rfl | rfl | rfl | rfl <;> decide
theorem qcB {m i : Nat} (hi : i ≤ m) : ∀ k, lcgI m i k = stp k i % (m + 1)
 | 0 => (Nat.mod_eq_of_lt (Nat.lt_succ_of_le hi)).symm
 | k + 1 => by
   show (lcgI m i k * 5 + 1) % (m + 1) = (stp k i * 5 + 1) % (m + 1)
   rw [qcB hi k]
   simp [Nat.add_mod, Nat.mul_mod]
theorem MG.comes {m : Nat} (h : MG m) {i j : Nat} (hi : i ≤ m) (hj : j ≤ m) : ∃ k, k ≤ m ∧ lcgI m i k = j := by
 obtain ⟨K, e⟩ := h.pow
 obtain ⟨k, a, b⟩ := qbP K i j
 rw [← e] at a b
 refine ⟨k, by omega, ?_⟩
 rw [qcB hi, b, Nat.mod_eq_of_lt (by omega)]
theorem MG.run {m : Nat} (hm : MG m) (h : Int) {j : Nat} (hj : j ≤ m) : ∃ n, n ≤ m + 12 ∧ runI m (SetTable.bits h) n = j := by
 obtain ⟨k, a, e⟩ := hm.comes (runI_le m (SetTable.bits h) 12) hj
 refine ⟨12 + k, by omega, ?_⟩
 rw [runI_tail (bits_lt h)]
 exact e
structure Tb (t : SetTable) (hs : List Int) : Prop where
 ris : Ris t.place.toList
 dm : t.dummies = #[]
 sz : t.place.size = hs.length
 mg : MG t.mask
 back : ∀ (i : Nat) (h : Int) (j : Nat), hs[i]? = some h → t.place.toList[i]? = some j → ∃ k, way t.mask h k = j ∧ ∀ c, c < k → way t.mask h c ∈ t.place.toList
section
variable {t : SetTable} {hs : List Int}
def Hole (t : SetTable) (h : Int) (K : Nat) : Prop := way t.mask h K ∉ t.place.toList ∧ ∀ c, c < K → way t.mask h c ∈ t.place.toList
theorem Tb.put (T : Tb t hs) {h : Int} {K p j : Nat} (hK : Hole t h K) (ej : way t.mask h K = j) (ep : SetTable.below t.place j = p) :
 p ≤ hs.length ∧ Tb (t.put j).1 (hs.take p ++ h :: hs.drop p) ∧ (t.put j).1.fill = hs.length + 1 := by
 have hK1 := hK.1
 have hK2 := hK.2
 rw [ej] at hK1
 have cut := (below_cut T.ris j).1
 rw [ep] at cut
 have pl : p ≤ t.place.toList.length := by rw [Array.length_toList]; exact cut
 have ph : p ≤ hs.length := by rw [← T.sz]; exact cut
 have place : (t.put j).1.place.toList = t.place.toList.take p ++ j :: t.place.toList.drop p := by rw [put_place, ep]
 have many : (t.put j).1.place.size = hs.length + 1 := by
  rw [← Array.length_toList, place, len_ins _ pl, Array.length_toList, T.sz]
 have old : ∀ {x : Nat}, x ∈ t.place.toList → x ∈ (t.put j).1.place.toList := by
  intro x hx
  rw [place, mem_ins]
  exact .inr hx
 have new : t.place[SetTable.below t.place j]? ≠ some j := by
  intro e
  rw [← Array.getElem?_toList] at e
  exact hK1 (List.mem_of_getElem? e)
 refine ⟨ph, ⟨ris_insert T.ris new, put_dm T.dm j, by rw [len_ins _ ph]; exact many, T.mg, ?_⟩, ?_⟩
 ·intro i h' j' e1 e2
  show ∃ k, way t.mask h' k = j' ∧ _
  rw [tins_get hs ph] at e1
  rw [place, tins_get _ pl] at e2
  by_cases c : i = p
  ·subst c
   simp only [Nat.lt_irrefl, if_false, if_true, Option.some.injEq] at e1 e2
   subst e1 e2
   exact ⟨K, ej, fun c hc => old (hK2 c hc)⟩
  ·obtain ⟨i', f1, f2⟩ : ∃ i', hs[i']? = some h' ∧ t.place.toList[i']? = some j' := by
    by_cases d : i < p
    ·rw [if_pos d] at e1 e2
     exact ⟨i, e1, e2⟩
    ·rw [if_neg d, if_neg c] at e1 e2
     exact ⟨i - 1, e1, e2⟩
   obtain ⟨k, e, b⟩ := T.back i' h' j' f1 f2
   exact ⟨k, e, fun c hc => old (b c hc)⟩
 ·show (t.put j).1.place.size + (t.put j).1.dummies.size = _
  rw [many, put_dm T.dm j]
  rfl
end
end BT
namespace BT
open PySem PySem.Spec PyProof.Rows L2
structure Mild {P : Program} {w : World} {κ : Type} [DecidableEq κ] (HK : HeapKind P w κ) (byv : κ → Bool) : Prop where
 stay : ∀ {h h' : Heap} {k : κ} {a : Addr}, (∀ b o vs n, h.get? b = some o → o.data = .seq vs n → h'.get? b = some o) → HK.is h k a → HK.is h' k a
 rm : ∀ {A : Around}, A.units < cLine → HK.room A
 cls : ∀ {A : Around} {E : Value → Shared → Prop} {s : Shared} {k : κ} {b : Addr} {Q : Bool → Shared → Prop}, HK.is s.heap k b → Q false s → wpAny (model P w) A (ofAClassStatement 8 (.ref b)) Q E s
 val : ∀ {A : Around} {E : Value → Shared → Prop} {s : Shared} {k : κ} {b : Addr} {Q : Bool → Shared → Prop}, HK.is s.heap k b → Q (byv k) s → wpAny (model P w) A (hashByValue 8 (.ref b)) Q E s
section
variable {P : Program} {w : World} {κ : Type} [DecidableEq κ] {HK : HeapKind P w κ} {byv : κ → Bool}
def qi3 (HK : HeapKind P w κ) (L : List (Addr × κ)) : List (Int × Value) := L.map fun p => (HK.hash p.2, Value.ref p.1)
def hsh (HK : HeapKind P w κ) (L : List (Addr × κ)) : List Int := L.map fun p => HK.hash p.2
structure StG (HK : HeapKind P w κ) (h : Heap) (a : Addr) (L : List (Addr × κ)) (es : Array (Int × Value)) (ep : Nat) (t : SetTable) : Prop where
 ob : ∃ o, h.get? a = some o ∧ o.ExactSet ∧ o.data = .set es ep t
 row : es.toList = qi3 HK L
 tab : Tb t (hsh HK L)
 nd : (L.map (·.2)).Nodup
 mem : ∀ p ∈ L, HK.is h p.2 p.1
 led : w.params.followText "set-order" = true ∨ t.led = true
 room : L.length * 5 < t.mask * 3
 few : L.length < 4096
variable {A : Around} {E : Value → Shared → Prop} {s : Shared} {a : Addr} {L : List (Addr × κ)} {es : Array (Int × Value)} {ep : Nat} {t : SetTable}
end
end BT
namespace BT
open PySem PySem.Spec PyProof.Rows L2
end BT
namespace BT
open PySem PySem.Spec PyProof.Rows L2
section
variable {P : Program} {w : World} {κ : Type} [DecidableEq κ] {HK : HeapKind P w κ} {byv : κ → Bool}
variable {A : Around} {E : Value → Shared → Prop} {s : Shared}
abbrev qcQ (w : World) : SetTable := .fresh 0 0 (!w.params.followText "set-order")
abbrev qhL (w : World) : Obj := { cls := .type "set", dict := none, data := .set #[] 0 (qcQ w) }
theorem StG.empty {h : Heap} {a : Addr} (ho : h.get? a = some (qhL w)) : StG HK h a [] #[] 0 (qcQ w) := by
 have tb : Tb (qcQ w) (hsh HK ([] : List (Addr × κ))) := ⟨List.Pairwise.nil, rfl, rfl, .inl rfl, fun i h j e => nomatch (show ([] : List Int)[i]? = some h from e)⟩
 refine ⟨⟨_, ho, ⟨rfl, rfl, rfl⟩, rfl⟩, rfl, tb, List.nodup_nil, (fun p hp => nomatch hp), ?_, by show 0 * 5 < 7 * 3; decide, by show 0 < 4096; decide⟩
 show (w.params.followText "set-order" = true ∨ (!w.params.followText "set-order") = true)
 cases w.params.followText "set-order" with
 | true => exact .inl rfl
 | false => exact .inr rfl
theorem StG.keep (M : Mild HK byv) {h h' : Heap} {a : Addr} {L : List (Addr × κ)} {es : Array (Int × Value)} {ep : Nat} {t : SetTable} (R : StG HK h a L es ep t) (ha : ∀ o, h.get? a = some o → h'.get? a = some o) (hm : ∀ p ∈ L, HK.is h' p.2 p.1) : StG HK h' a L es ep t := by
 obtain ⟨o, ho, r⟩ := R.ob
 exact { R with ob := ⟨o, ha o ho, r⟩, mem := hm }
end
end BT
namespace BT
open PySem PySem.Spec PyProof.Rows L2
end BT
namespace BX
open PySem PySem.Spec PyProof.Rows L2 BT
def dd {α : Type} [DecidableEq α] : List α → List α
 | [] => []
 | x :: xs => if x ∈ dd xs then dd xs else x :: dd xs
end BX
namespace BX
open PySem PySem.Spec PyProof.Rows L2 BT
end BX
namespace BX
open PySem PySem.Spec PyProof.Rows L2
structure Sw (n k : Nat) (d : D) : Prop where
 nd : d.ndc = true
 sh : d.pd.showable = true
 dp : d.pd.depth ≤ k
 lv : d.pd.leavesShort 13 = true
 bk : d.pd.bulk ≤ n
 ok : ∀ c ∈ d.pd.shown.cps.toList, c < 1114112
theorem Sw.up {n k n' k' : Nat} {d : D} (h : Sw n k d) (a : n ≤ n') (b : k ≤ k') : Sw n' k' d := ⟨h.nd, h.sh, Nat.le_trans h.dp b, h.lv, Nat.le_trans h.bk a, h.ok⟩
theorem qb9 : ∀ ds : List D, (pdL ds).length = ds.length
 | [] => by rw [pdL]; rfl
 | d :: ds => by rw [pdL, List.length_cons, List.length_cons, qb9 ds]
theorem Sw.go {n k : Nat} {d : D} (h : Sw n k d) (hn : n ≤ 1000000) (hk : k ≤ 90) : ShOk d ∧ PyData.strOk (strD d) = true := by
 refine ⟨⟨h.nd, h.sh, Nat.le_trans h.dp hk, ?_⟩, ?_⟩
 ·have a := PyData.shown_le_bulk 13 (by decide) d.pd h.lv
  have b := h.bk
  rw [sizeLine_eq]
  omega
 ·unfold PyData.strOk strD
  rw [← Array.all_toList, List.all_eq_true]
  intro c hc
  exact decide_eq_true (h.ok c hc)
end BX
namespace BX
open PySem PySem.Spec PyProof.Rows L2 RT L2.DX
end BX
namespace BX
open PySem PySem.Spec PyProof.Rows L2 RT L2.DX
section
variable {K : PySem.W.Frag} {H H1 : Hp} {P : List Addr} {σ : L2.St} {env : En} {f : FA}
theorem Abs.off {a : Addr} {u o : HO} (A : Abs K σ H env f) (ha : H a = some u) (hu : Mu u = true) (n : ¬ L0 env f a ∧ ¬ Ro env f a) : Abs K σ (L2.upd H a o) env f := by
 refine ⟨fun i d m h => ?_, A.dis, A.len⟩
 obtain ⟨v, h1, r⟩ := A.rep i d m h
 refine ⟨v, h1, r.keep fun b ob hb q => ?_⟩
 have : b ≠ a := fun z => by
  subst z
  rcases q with q | q
  ·by_cases hl : m.lv = 0
   ·exact n.1 ⟨i, d, m, h, hl, q⟩
   ·exact n.2 ⟨i, d, m, h, hl, q⟩
  ·rw [ha] at hb; cases hb; rw [hu] at q; cases q
 rw [upd_ne this]
 exact hb
end
end BX
namespace BX
open PySem PySem.Spec PyProof.Rows L2
end BX
namespace BX
open PySem PySem.Spec PyProof.Rows L2 RT
end BX
namespace BX
open PySem PySem.Spec PyProof.Rows L2 RT PySem.W
def Vh : List (List Key × D) → Option (List (Int × Int))
 | [] => some []
 | ([.inl x, .inl y], _) :: r => (Vh r).map ((x, y) :: ·)
 | _ => none
def Yg (p q : Int × Int) : Bool := if p.1 = q.1 then decide (p.2 < q.2) else decide (p.1 < q.1)
def minP (x : Int × Int) (xs : List (Int × Int)) : Int × Int := xs.foldl (fun a y => if Yg y a = true then y else a) x
def qbn (d : D) (k : D → Prop) : Prop := match d with
 | .dT kvs => match Vh kvs with
   | some (p :: ps) => k (.tup [.int (minP p ps).1, .int (minP p ps).2])
   | _ => False
 | _ => False
def AtP (H : Hp) (b : Addr) (p : Int × Int) : Prop := H b = some (.tup [V.int p.1, V.int p.2])
theorem qd8 {H : Hp} {kvs : List (List Key × D)} : ∀ {hs : List (List Key × V)} {bs : List Addr} {l : List (Int × Int)}, IsKeys H hs bs → hs.map (·.1) = kvs.map (·.1) → Vh kvs = some l → Paired (AtP H) bs l := by
 induction kvs with
 | nil =>
   intro hs bs l ik e1 e2
   cases hs with
   | nil => cases ik; cases e2; exact .nil
   | cons _ _ => simp at e1
 | cons p r ih =>
   intro hs bs l ik e1 e2
   cases ik with
   | nil => simp at e1
   | @cons h0 b hs bs hb t =>
     rw [List.map_cons, List.map_cons] at e1
     injection e1 with e3 e4
     obtain ⟨pk, pd⟩ := p
     unfold Vh at e2
     split at e2
     ·rename_i e; cases e
     ·rename_i x y d r' e
      injection e with e5 e6
      subst e6
      injection e5 with e5 e7
      subst e5
      cases hk : Vh r with
      | none => rw [hk] at e2; cases e2
      | some l' =>
        rw [hk] at e2
        cases e2
        refine .cons ?_ (ih t e4 hk)
        dsimp only at e3
        rw [e3] at hb
        exact hb
     ·cases e2
theorem Y0 {H : Hp} {bs : List Addr} {l : List (Int × Int)} (p : Paired (AtP H) bs l) : ∀ {i : Nat} {b : Addr}, bs[i]? = some b → i < l.length ∧ AtP H b (l.getD i (0, 0)) := by
 induction p with
 | nil => intro i b e; simp at e
 | cons h t ih =>
   intro i b e
   cases i with
   | zero => cases e; exact ⟨Nat.succ_pos _, h⟩
   | succ i =>
     have := ih (i := i) (b := b) (by simpa using e)
     exact ⟨Nat.succ_lt_succ this.1, by simpa using this.2⟩
theorem qfP (p q : Int × Int) : DatumOrd.lt p q = Yg p q := rfl
section
variable {X : Cx} {pins : List (Addr × Obj)} {σ : L2.St} {H : Hp} {s : Shared}
theorem qdU (hx : Ok X) {a : Addr} {p : Int × Int} {ps : List (Int × Int)} {bs : List Addr} {es : Array DictEntry} {ep : Nat} {Q : VK} (I : Inv X pins σ H s) (hd : (a == sysModules) = false) (hm : s.heap.DictRaw a es ep)
 (hk : ∀ (i : Nat) (h : i < es.size), ∃ b, bs[i]? = some b ∧ es[i].key = .ref b) (hl : es.size = ps.length + 1) (pp : Paired (AtP H) bs (p :: ps))
 (q : ∀ b, H b = some (.tup [V.int (minP p ps).1, V.int (minP p ps).2]) → Q (.ref b) H) : wpAny (model X.prog X.w) X.A (call (.builtin "min") [.ref a]) (EP X pins σ Q) X.xe s := by
 have hlt : a < s.heap.objs.size := by obtain ⟨_, e, _⟩ := hm; exact Heap.lt_size e
 have rd : ∀ (h' : Heap) (b : Addr) (y : Int × Int), (∀ b o, s.heap.get? b = some o → h'.get? b = some o) → AtP H b y → ∃ as, Reads h' (.ref b) (Datum.toD y) as := fun h' b y kp e => by
  obtain ⟨as, r⟩ := Dp.reads I (Datum.toD y) (.ref b) _ (.tup (xs := [V.int y.1, V.int y.2]) (.inl (.inl e)) (.cons (.int _) (.cons (.int _) .nil))) rfl
  exact ⟨as, Reads.keeps kp r⟩
 refine call_min_walkH (wpAny_pyIter_dict_raw hd hm ?_)
 refine ⟨s.heap.objs.size, [s.heap.objs.size, a], [s.heap.objs.size], (fun a b => b = a), es.size, _, _, s.heap, (fun i j => Yg ((p :: ps).getD i (0, 0)) ((p :: ps).getD j (0, 0))), rfl, ((PySem.Walks.rawKeys (A := X.A.in1) (I.ok.hd hx.calm) _ a (Nat.ne_of_lt hlt) es ep).toS), ⟨⟨_, Heap.get?_push_size _ rfl, rfl, rfl⟩, hm.at fun o e => Heap.get?_push_of_some _ e⟩, fun b hb => ?_, by omega, fun b o e hb => absurd (Heap.lt_size e) ((List.mem_singleton.mp hb) ▸ Nat.lt_irrefl _), fun b o e => Heap.get?_push_of_some _ e, ?_, ?_⟩
 ·show b < (s.heap.push _).objs.size
  rw [Heap.size_push]
  rcases List.mem_cons.mp hb with rfl | hb
  ·exact Nat.lt_succ_self _
  ·rw [List.mem_singleton.mp hb]; exact Nat.lt_succ_of_lt hlt
 ·intro i j vi vj s' Q E kp ⟨hi, ei⟩ ⟨hj, ej⟩ hq
  obtain ⟨b, hb, eb⟩ := hk i hi
  obtain ⟨c, hc, ec⟩ := hk j hj
  rw [eb] at ei
  rw [ec] at ej
  subst ei
  subst ej
  obtain ⟨l1, t1⟩ := Y0 pp hb
  obtain ⟨l2, t2⟩ := Y0 pp hc
  obtain ⟨as, r1⟩ := rd s'.heap b _ kp t1
  obtain ⟨cs, r2⟩ := rd s'.heap c _ kp t2
  refine rcLt_alike _ _ X.A.in1 s' _ _ _ _ r1 r2 (DatumOrd.alike _ _) (DatumOrd.notNone _) ?_ X.prog X.w E Q ?_
  ·have h1 := Datum.depth_le ((p :: ps).getD i (0, 0))
   have h2 := Nat.min_le_left (Datum.toD ((p :: ps).getD i (0, 0))).depth (Datum.toD ((p :: ps).getD j (0, 0))).depth
   have h3 : Datum.depth (Int × Int) = 1 := rfl
   have := hx.un
   show X.A.units + 1 + _ < _
   omega
  ·rw [DatumOrd.lt_eq, qfP]
   exact hq
 ·intro v s' ⟨hi, ei⟩ m
  obtain ⟨h', tk, rfl, hk'⟩ := moved_old rfl rfl m
  obtain ⟨b, hb, eb⟩ := hk _ hi
  obtain ⟨l1, t1⟩ := Y0 pp hb
  have e1 : es.size - 1 = ps.length := by omega
  have e2 := (argBest_fold (fun a b => Yg a b) (0, 0) p ps ps.length (Nat.le_refl _)).2
  rw [List.take_length] at e2
  rw [e1] at t1
  rw [eb] at ei
  subst ei
  refine ⟨.ref b, H, I.kept hk', rfl, q b ?_⟩
  rw [e2] at t1
  exact t1
theorem qgj (hx : Ok X) : CallD X (.builtin "min") 1 (op1 qbn) := Wh (by decide) (fun pins s σ H x us Q d g I rs r q => by
 obtain ⟨u, rfl, rx⟩ := vals1 rs
 unfold qbn at q
 split at q
 ·split at q
  ·rename_i kvs p ps e
   cases r with
   | dTF l _ _ _ _ => exact absurd l (by omega)
   | @dT a hs kvs f ha he nd r nn =>
     cases rx
     obtain ⟨z, hss, ks, pr, o, es, ep, ho, hxx, hdt, hee, hn⟩ := (show ObjOk X.prog X.w H s.heap a (.dT hs) from I.hok a _ ha)
     have pp := qd8 (isKeys_of pr) he e
     have l1 : es.size = ks.length := size_of_entries hee
     have l3 := Paired.length pp
     rw [List.length_map, List.length_cons] at l3
     refine qdU hx I hss ⟨o, ho, hxx, hdt⟩ (fun i hi => ?_) (by omega) pp fun b hb => ?_
     ·have qe := entry_at hee i
      rw [Array.getElem?_eq_getElem hi] at qe
      cases hb : ks[i]? with
      | none => rw [hb] at qe; cases qe
      | some b =>
        rw [hb] at qe
        have e2 : es[i] = entryOfKey (tupleKind (mixKind X.prog X.w)) b := Option.some.inj qe
        exact ⟨b.2.1, by rw [List.getElem?_map, hb]; rfl, by rw [e2]; rfl⟩
     ·exact q _ H [] (.tup hb (.cons (f := []) (g := []) (.int _) (.cons (f := []) (g := []) (.int _) .nil fun _ _ z => by simp at z) fun _ _ z => by simp at z)) ⟨fun b o h => h, fun b hb => by simp at hb⟩
  ·exact q.elim
 ·exact q.elim) (fun d k k' h q => by
 unfold qbn at q ⊢
 split at q
 ·split at q
  ·first
    | exact h _ q
    | (simp only [*]; exact h _ q)
  ·exact q.elim
 ·exact q.elim)
end
end BX
namespace BX
open PySem PySem.Spec PyProof.Rows L2
def dTmp (t : XE) : XE := fun env Q => t env fun r e => rd 1 r e fun d => d.imm = true ∧ Q (.tmp d) e
section
variable {X : Cx} {e : Expr} {t : XE}
theorem ZZ (h : DE X e t) : DE X e (dTmp t) := by
 refine ⟨PE.imp h.run fun σ H Q q => ?_, fun env Q Q' k q => h.mono _ _ _ (fun r e q => qQ (fun d q => ⟨q.1, k _ _ q.2⟩) q) q⟩
 obtain ⟨env, f, A, q⟩ := q
 refine ⟨env, f, A, h.mono _ _ _ (fun r e1 q1 => ?_) q⟩
 intro v H' f' g A' R S Kk
 obtain ⟨d, g', rp, im, q2⟩ := yx A' R q1
 exact q2 v H' f' [] A' (.tmp (rp.imm (Nat.le_refl _) im).2 qF) (S.drop qF) Kk
end
end BX
namespace BX
open PySem PySem.Spec PyProof.Rows L2 RT PySem.W
def StF (K : PySem.W.Frag) (H : Hp) (v : Value) (d : D) : Prop := ∃ x : V, RelV x v ∧ Rep K H 0 d x []
theorem Vo {K : PySem.W.Frag} {H : Hp} {lv : Nat} (hl : lv ≤ 1) : ∀ {ds : List D} {xs : List V} {f : List Addr} {vs : List Value}, Reps K H lv ds xs f → immL ds = true → Vals xs vs → EachIs (StF K H) vs ds
 | _, _, _, _, .nil, _, .nil => .nil
 | d :: ds, _, _, _, .cons r t _, hi, .cons v vs => by
   rw [immL, Bool.and_eq_true] at hi
   exact .cons ⟨_, v, (r.imm hl hi.1).2⟩ (Vo hl t hi.2 vs)
theorem Jy {K : PySem.W.Frag} {H H' : Hp} (k : ∀ d x, Rep K H 0 d x [] → Rep K H' 0 d x []) : ∀ {ds : List D} {vs : List Value}, EachIs (StF K H) vs ds → ∃ xs : List V, Vals xs vs ∧ Reps K H' 0 ds xs []
 | _, _, .nil => ⟨[], .nil, .nil⟩
 | _, _, .cons ⟨x, r, p⟩ t => by
   obtain ⟨xs, rs, ps⟩ := Jy k t
   exact ⟨x :: xs, .cons r rs, .cons (f := []) (g := []) (k _ _ p) ps fun _ _ z => by simp at z⟩
section
variable {X : Cx}
theorem QS {α β : Type} {R R' : α → β → Prop} : ∀ {as : List α} {bs : List β}, EachIs R as bs → (∀ a b, b ∈ bs → R a b → R' a b) → EachIs R' as bs
 | _, _, .nil, _ => .nil
 | _, _, .cons h t, k => .cons (k _ _ (List.mem_cons_self ..) h) (QS t fun a b hb => k a b (List.mem_cons_of_mem _ hb))
theorem qat {α β : Type} {R : α → β → Prop} : ∀ {as : List α} {bs : List β}, EachIs R as bs → as.length = bs.length
 | _, _, .nil => rfl
 | _, _, .cons _ t => congrArg (· + 1) (qat t)
end
end BX
namespace BT
open PySem PySem.Spec PyProof.Rows L2
end BT
namespace BX
open PySem PySem.Spec PyProof.Rows L2 RT BT
end BX
namespace BX
open PySem PySem.Spec PyProof.Rows L2 RT
end BX
namespace BX
open PySem PySem.Spec PyProof.Rows L2 RT
def rdC (r : R) (k : D → Prop) : Prop := match r with
 | .ro _ d => k d
 | .tmp d => d.imm = true ∧ k d
 | .sl _ => False
end BX
namespace BX
open PySem PySem.Spec PyProof.Rows L2 RT
end BX
namespace BX
open PySem PySem.Spec PyProof.Rows L2
end BX
namespace BX
open PySem PySem.Spec PyProof.Rows L2
end BX
namespace BX
open PySem PySem.Spec PyProof.Rows L2
def dFz (t : XE) : XE := fun env Q => t env fun r e => match r with
 | .tmp (.lst xs) => immL xs = true ∧ Q (.tmp (.lF xs)) e
 | _ => False
section
variable {K : PySem.W.Frag} {σ : L2.St} {H H1 : Hp} {env e1 : En} {f f1 : FA}
theorem qhJ {xs : List D} {v : V} {g : List Addr} (A : Abs K σ H1 e1 f1) (R : ResOk K σ H1 e1 f1 (.tmp (.lst xs)) v g) (S : Stp H env f [] H1 e1 f1 g) (im : immL xs = true) :
 ∃ a vs, v = .ref a ∧ H1 a = some (.lst vs) ∧ ∀ od, Abs K σ (L2.upd H1 a (.frz od (.lst vs))) e1 f1 ∧ ResOk K σ (L2.upd H1 a (.frz od (.lst vs))) e1 f1 (.tmp (.lF xs)) v [] ∧ Stp H env f [] (L2.upd H1 a (.frz od (.lst vs))) e1 f1 [] := by
 cases R with
 | tmp rp n =>
   obtain ⟨a, vs, g', rfl, ha, rr, rfl, _⟩ := rp.listAt
   obtain ⟨rfl, r0⟩ := rr.imm (Nat.zero_le _) im
   have na := n a (List.mem_cons_self ..)
   have tk : ∀ (od : Obj) (b : Addr) (o : HO), b ≠ a → H1 b = some o → L2.upd H1 a (.frz od (.lst vs)) b = some o := fun od b o hb h => by rw [upd_ne hb]; exact h
   have mu : ∀ {b : Addr} {o : HO}, H1 b = some o → Mu o = false → b ≠ a := fun {b o} hb z y => by rw [y, ha] at hb; cases hb; cases z
   refine ⟨a, vs, rfl, ha, fun od => ⟨⟨fun i d m e => ?_, A.dis, A.len⟩, .tmp (.lF upd_same (r0.keep fun b o h z => ?_)) qF, ⟨fun b o h z => ?_, fun b z => ?_⟩⟩⟩
   ·obtain ⟨w, hw, r⟩ := A.rep i d m e
    refine ⟨w, hw, r.keep fun b o hb z => tk od b o ?_ hb⟩
    rcases z with z | z
    ·intro y
     subst y
     by_cases hl : m.lv = 0
     ·exact na.1 ⟨i, d, m, e, hl, z⟩
     ·exact na.2 ⟨i, d, m, e, hl, z⟩
    ·exact mu hb z
   ·rcases z with z | z
    ·simp at z
    ·exact tk od b o (mu h z) h
   ·have h1 := S.same b o h (z.imp_right fun y => ⟨y.1, by simp⟩)
    refine tk od b o (fun y => ?_) h1
    rcases z with z | z
    ·exact mu h1 z y
    ·rcases S.own b (.inr (by rw [y]; exact List.mem_cons_self ..)) with q | q | q
     ·exact z.1 q
     ·simp at q
     ·rw [h] at q; cases q
   ·rcases z with z | z
    ·exact S.own b (.inl z)
    ·simp at z
end
section
variable {X : Cx} {e : Expr} {t : XE}
theorem qbd (ha : DE X e t) : DE X e (dFz t) := by
 refine ⟨⟨fun pins s σ H Q I q => ?_⟩, fun env Q Q' h q => ha.mono _ _ _ (fun r e q => ?_) q⟩
 ·obtain ⟨env, f, A, q⟩ := q
  have go := ha.run.run pins s σ H (fun v H1 => ∃ a vs, v = .ref a ∧ H1 a = some (.lst vs) ∧ ∀ od, Q v (L2.upd H1 a (.frz od (.lst vs)))) I ⟨env, f, A, ha.mono _ _ _ (fun r e1 q => ?_) q⟩
  ·refine thn go fun u s1 ⟨x, H1, I1, rx, a, vs, ex, h1, q⟩ => ?_
   obtain ⟨od, I2⟩ := I1.lock h1 trivial
   exact ⟨x, _, I2, rx, q od⟩
  ·intro v H1 f1 g A1 R1 S1 K1
   cases r with
   | tmp d =>
     cases d with
     | lst xs =>
       obtain ⟨im, q⟩ := q
       obtain ⟨a, vs, rfl, ha, k⟩ := qhJ A1 R1 S1 im
       refine ⟨a, vs, rfl, ha, fun od => ?_⟩
       obtain ⟨A2, R2, S2⟩ := k od
       exact q _ _ f1 [] A2 R2 S2 K1
     | _ => exact q.elim
   | _ => exact q.elim
 ·cases r with
  | tmp d =>
    cases d with
    | lst xs => exact ⟨q.1, h _ _ q.2⟩
    | _ => exact q.elim
  | _ => exact q.elim
end
end BX
namespace BX
open PySem PySem.Spec PyProof.Rows L2
def strJ : D → Str
 | .non => "None"
 | .bl b => if b then "True" else "False"
 | .int i => toString i
 | .str a => a
 | d => strD d
def ShJ : D → Prop
 | .non => True
 | .bl _ => True
 | .int i => i.natAbs.log2 < 1920
 | .str _ => True
 | .tup xs => ShOk (.tup xs)
 | .lF xs => ShOk (.lF xs)
 | _ => False
end BX
namespace BX
open PySem PySem.Spec PyProof.Rows L2
structure Sj (n k : Nat) (d : D) : Prop where
 nd : d.ndc = true
 sh : d.pd.showable = true
 dp : d.pd.depth ≤ k
 lv : d.pd.leavesShort 40 = true
 bk : d.pd.bulk ≤ n
 ok : ∀ c ∈ d.pd.shown.cps.toList, c < 1114112
theorem Sj.up {n k n' k' : Nat} {d : D} (h : Sj n k d) (a : n ≤ n') (b : k ≤ k') : Sj n' k' d := ⟨h.nd, h.sh, Nat.le_trans h.dp b, h.lv, Nat.le_trans h.bk a, h.ok⟩
theorem Sj.go {n k : Nat} {d : D} (h : Sj n k d) (hn : n ≤ 300000) (hk : k ≤ 90) : ShOk d ∧ PyData.strOk (strD d) = true := by
 refine ⟨⟨h.nd, h.sh, Nat.le_trans h.dp hk, ?_⟩, ?_⟩
 ·have a := PyData.shown_le_bulk 40 (by decide) d.pd h.lv
  have b := h.bk
  rw [sizeLine_eq]
  omega
 ·unfold PyData.strOk strD
  rw [← Array.all_toList, List.all_eq_true]
  intro c hc
  exact decide_eq_true (h.ok c hc)
theorem Sj.sh_ok {n k : Nat} {d : D} (h : Sj n k d) (hi : d.imm = true) (hn : n ≤ 100000) (hk : k ≤ 90) (hlog : ∀ i, d = .int i → i.natAbs.log2 < 1920) : ShJ d := by
 cases d with
 | non => trivial
 | bl b => trivial
 | int i => exact hlog i rfl
 | str a => trivial
 | tup xs => exact (h.go (by omega) hk).1
 | lF xs => exact (h.go (by omega) hk).1
 | _ => rw [D.imm] at hi; cases hi
theorem Sj.str_ok {n k : Nat} {d : D} (h : Sj n k d) (hi : d.imm = true) (hn : n ≤ 100000) (hk : k ≤ 90) (hs : ∀ a, d = .str a → PyData.strOk a = true) : PyData.strOk (strJ d) = true := by
 cases d with
 | non => decide +kernel
 | bl b => cases b <;> decide +kernel
 | int i =>
   have e : strD (.int i) = strJ (.int i) := by
    show (D.pd (.int i)).shown = _
    rw [D.pd]; exact PyData.shown_int i
   rw [← e]
   exact (h.go (by omega) hk).2
 | str a => exact hs a rfl
 | tup xs => exact (h.go (by omega) hk).2
 | lF xs => exact (h.go (by omega) hk).2
 | _ => rw [D.imm] at hi; cases hi
end BX
namespace BX
open PySem PySem.Spec PyProof.Rows L2
def Z7 : Bn := fun r1 rs e Q => match rs with
 | [r2] => rd 2 r2 e fun d2 => intD d2 fun k => chgL r1 e fun i xs m => (immL xs = true ∧ 0 ≤ k ∧ k < 2 ^ 63) ∧ match xs[k.toNat]? with
   | some d => Q (.tmp d) (e.set i (some (.lst (xs.eraseIdx k.toNat), m)))
   | none => False
 | _ => False
theorem Xm {K : PySem.W.Frag} {H : Hp} : ∀ {xs : List D} {vs : List V} (k : Nat), Reps K H 0 xs vs [] → Reps K H 0 (xs.eraseIdx k) (vs.eraseIdx k) [] := fun {xs vs} k r => qfp (by
 have := r.len
 rw [List.length_eraseIdx, List.length_eraseIdx, this]) fun j d v h1 h2 => by
 rw [List.getElem?_eraseIdx] at h1 h2
 split at h1
 ·rename_i h; rw [if_pos h] at h2; exact r.nilAt rfl j d v h1 h2
 ·rename_i h; rw [if_neg h] at h2; exact r.nilAt rfl (j + 1) d v h1 h2
section
variable {X : Cx}
theorem qfO : MnOk X "list" D.isLst rPopAt Z7 where
 ty := fun H d x g rp e => qbN H d x g (rp.up (by omega)) e
 mono := fun r1 rs e Q Q' h q => by
  unfold Z7 at q ⊢
  split at q
  ·refine qQ (fun d q => ZL (fun z q => Z5 (fun i xs m q => ⟨q.1, ?_⟩) q) q) q
   have q2 := q.2
   split at q2 <;> simp only [*] <;> first | exact h _ _ q2 | exact q2.elim
  ·exact q.elim
 run := fun σ H e f r1 rs x ys g1 gs QQ Q A R1 R2 n q kk => by
  unfold Z7 at q
  split at q
  ·cases R2 with
   | cons R2 Rt _ =>
     cases Rt
     obtain ⟨d2, g2', p2, q⟩ := yx A R2 q
     obtain ⟨k, rfl, q⟩ := Vj q
     obtain ⟨rfl, _⟩ := p2.intV
     obtain ⟨i, xs, m, a, ws, fp, rfl, e, hm, hl, hv, hH, rr, hf, nfp, rfl, ⟨him, k0, k1⟩, q⟩ := Vx A R1 q
     obtain ⟨rfl, r0⟩ := rr.imm (Nat.zero_le _) him
     split at q
     ·rename_i d hd
      have hlen := rr.len
      have hk := (List.getElem?_eq_some_iff.mp hd).1
      have hy : ws[k.toNat]? = some (ws[k.toNat]'(by omega)) := List.getElem?_eq_getElem (by omega)
      have ry : Rep X.K H 0 d (ws[k.toNat]'(by omega)) [] := r0.nilAt rfl _ d _ hd hy
      obtain ⟨A3, S3, K3, _⟩ := Xb (G := []) (G' := []) A e hm hl hv hH hf nfp (Xm k.toNat r0) (fun b hb => by simp at hb) (fun b hb => by simp at hb) qF
      have ry' : Rep X.K (upd H a (.lst (ws.eraseIdx k.toNat))) 0 d (ws[k.toNat]'(by omega)) [] := ry.keep fun b o hb q => by
       rcases q with q | q
       ·simp at q
       ·have : b ≠ a := fun z => by subst z; rw [hH] at hb; cases hb; cases q
        rw [upd_ne this]; exact hb
      have hs : seqIndex? k ws.length = some k.toNat := PySem.StrLaws.seqIndex_nonneg k0 (by omega)
      exact ⟨a, ws, k, k.toNat, _, rfl, rfl, hH, by omega, k1, hs, hy, kk _ _ _ _ _ [] A3 (.tmp ry' qF) (S3.frame _ |>.drop (by simp)) K3 q⟩
     ·exact q.elim
  ·exact q.elim
variable {o e : Expr} {es : List Expr} {ta : XE} {u : XA} {cpos apos : Pos}
theorem qau (ho : DE X o ta) (ha : DA X (e :: es) u) (hbase : attributeBase o "pop" X.env (eval o X.env) = eval o X.env := by rfl)
 (hfew : ((backTo cpos (starEach (e :: es) X.env)).all (fun x => !x.1) && (backToKw cpos (keywordEach [] X.env)).all (fun x => x.1.isSome)
  && decide ((e :: es).length + ([] : List Keyword).length + (if ([] : List Keyword).isEmpty then 0 else 1) < 30)) = true := by rfl)
 (hline : (apos.endLine == cpos.line) = true := by rfl) (hs : starEach (e :: es) X.env = (false, eval e X.env) :: starEach es X.env := by rfl) (hplain : (backTo cpos (starEach es X.env)).any (·.1) = false := by rfl) :
 DE X (.Call (.Attribute o "pop" apos) (e :: es) [] cpos) (dMn D.isLst Z7 ta u) :=
 qge qfO PySem.F.plainAttrs_list PySem.F.slot_list_pop PySem.F.type_list_pop mt_popAt ho ha hbase hfew hline hs hplain
end
end BX
namespace BX
open PySem PySem.Spec PyProof.Rows L2
open Sem (wp)
end BX
namespace BX
open PySem PySem.Spec PyProof.Rows L2
def setF (x : Str) (d : D) : List (Str × D) → List (Str × D)
 | [] => [(x, d)]
 | (g, y) :: r => if g = x then (g, d) :: r else (g, y) :: setF x d r
theorem Wt {α : Type} {x : Str} {a : α} {l : List (Str × α)} : List.lookup x ((x, a) :: l) = some a := by
 rw [List.lookup_cons]; simp
theorem Qm {α : Type} {x y : Str} {a : α} {l : List (Str × α)} (h : ¬ y = x) : List.lookup x ((y, a) :: l) = List.lookup x l := by
 rw [List.lookup_cons]
 have : (x == y) = false := by simpa using fun z : x = y => h z.symm
 rw [this]
section
variable {K : PySem.W.Frag} {H : Hp} {lv : Nat}
theorem Rep.obAt {n : Str} {fs : List (Str × D)} {v : V} {g : List Addr} (r : Rep K H lv (.ob n fs) v g) : ∃ a C dx hs F, v = .ref a ∧ H a = some (.ins C dx hs) ∧ PySem.W.nsIn K mainGlobals n = some (some (.ref C)) ∧ hs.map (·.1) = fs.map (·.1) ∧
 Reps K H lv (fs.map (·.2)) (hs.map (·.2)) F ∧ (lv = 0 → a ∉ F) ∧ g = a :: F := by
 cases r with
 | ob h c e r n => exact ⟨_, _, _, _, _, rfl, h, c, e, r, n, rfl⟩
theorem Jw {x : Str} {d : D} : ∀ {fs : List (Str × D)} {hs : List (Str × V)} {F : List Addr}, hs.map (·.1) = fs.map (·.1) → Reps K H lv (fs.map (·.2)) (hs.map (·.2)) F → fs.lookup x = some d →
 ∃ v F1 g F2, hs.lookup x = some v ∧ Rep K H lv d v g ∧ F = F1 ++ (g ++ F2) ∧ (lv = 0 → ∀ b ∈ g, b ∉ F1 ∧ b ∉ F2) ∧
  ∀ H' d' g', Rep K H' lv d' v g' → (∀ b o, H b = some o → (b ∈ F1 ∨ b ∈ F2 ∨ Mu o = false) → H' b = some o) → (lv = 0 → ∀ b ∈ g', b ∉ F1 ∧ b ∉ F2) →
   Reps K H' lv ((setF x d' fs).map (·.2)) (hs.map (·.2)) (F1 ++ (g' ++ F2))
 | [], _, _, _, _, h => by cases h
 | (k, d0) :: fs, [], _, e, _, _ => by cases e
 | (k, d0) :: fs, (k1, v1) :: hs, F, e, r, h => by
   injection e with e1 e2
   have e1 : k1 = k := e1
   subst e1
   cases r with
   | @cons _ _ f0 _ _ g0 r t n =>
     by_cases ex : k1 = x
     ·subst ex
      rw [Wt] at h
      cases h
      refine ⟨v1, [], f0, g0, Wt, r, rfl, fun z b hb => ⟨by simp, n z b hb⟩, fun H' d' g' r' kk nn => ?_⟩
      rw [setF, if_pos rfl]
      refine Reps.cons (f := g') r' (t.keep fun b o hb q => kk b o hb (.inr q)) fun z b hb => (nn z b hb).2
     ·rw [Qm ex] at h
      obtain ⟨v, F1, g, F2, a1, a2, a3, a4, a5⟩ := Jw e2 t h
      subst a3
      refine ⟨v, f0 ++ F1, g, F2, by rw [Qm ex]; exact a1, a2, by rw [List.append_assoc], fun z b hb => ⟨fun q => ?_, (a4 z b hb).2⟩, fun H' d' g' r' kk nn => ?_⟩
      ·rcases List.mem_append.mp q with q | q
       ·exact n z b q (by simp [hb])
       ·exact (a4 z b hb).1 q
      ·rw [setF, if_neg ex, List.append_assoc]
       refine .cons (r.keep fun b o hb q => kk b o hb (q.imp (fun q => List.mem_append_left _ q) fun q => .inr q)) (a5 H' d' g' r' (fun b o hb q => kk b o hb (q.imp (fun q => List.mem_append_right _ q) id)) fun z b hb => ⟨fun q => (nn z b hb).1 (List.mem_append_right _ q), (nn z b hb).2⟩) fun z b hb q => ?_
       rcases List.mem_append.mp q with q | q
       ·exact n z b hb (by simp [q])
       ·rcases List.mem_append.mp q with q | q
        ·exact (nn z b q).1 (List.mem_append_left _ hb)
        ·exact n z b hb (by simp [q])
end
end BX
namespace BX
open PySem PySem.Spec PyProof.Rows L2
end BX
namespace BX
open PySem PySem.Spec PyProof.Rows L2
def obK (n : Str) (d : D) (k : List (Str × D) → Prop) : Prop := match d with
 | .ob m fs => m = n ∧ k fs
 | _ => False
def fldK (x : Str) (fs : List (Str × D)) (k : D → Prop) : Prop := match fs.lookup x with
 | some d => k d
 | none => False
theorem qdQ {n : Str} {d : D} {k k' : List (Str × D) → Prop} (h : ∀ fs, k fs → k' fs) (q : obK n d k) : obK n d k' := by
 cases d <;> first | exact q.elim | exact ⟨q.1, h _ q.2⟩
theorem qcM {x : Str} {fs : List (Str × D)} {k k' : D → Prop} (h : ∀ d, k d → k' d) (q : fldK x fs k) : fldK x fs k' := by
 unfold fldK at q ⊢
 cases e : fs.lookup x with
 | none => rw [e] at q; exact q
 | some d => rw [e] at q; exact h d q
theorem qeM {n : Str} {d : D} {k : List (Str × D) → Prop} (q : obK n d k) : ∃ fs, d = .ob n fs ∧ k fs := by
 cases d <;> first | exact q.elim | (obtain ⟨rfl, q⟩ := q; exact ⟨_, rfl, q⟩)
theorem qf5 {x : Str} {fs : List (Str × D)} {k : D → Prop} (q : fldK x fs k) : ∃ d, fs.lookup x = some d ∧ k d := by
 unfold fldK at q
 cases e : fs.lookup x with
 | none => rw [e] at q; exact q.elim
 | some d => rw [e] at q; exact ⟨d, rfl, q⟩
def ObF (K : PySem.W.Frag) (n f : Str) : Prop := ∀ C, PySem.W.nsIn K mainGlobals n = some (some (.ref C)) → Cls K C ∧ NoAttr K C f
abbrev XV := En → (D → En → Prop) → Prop
def qfR (K : PySem.W.Frag) (L : Nat) (t : XV) : TE := fun σ H Q => ∃ env f, Abs K σ H env f ∧ t env fun d e1 => ∀ v H' f' g, Abs K σ H' e1 f' → Rep K H' L d v g → Stp H env f [] H' e1 f' [] → Kp env f e1 f' → Q v H'
def qgs (t : XV) : Prop := ∀ env Q Q', (∀ d e, Q d e → Q' d e) → t env Q → t env Q'
structure DV (X : Cx) (e : Expr) (L : Nat) (t : XV) : Prop where
 run : PE X e (qfR X.K L t)
 mono : qgs t
def Yl (n x : Str) (L : Nat) (t : XE) : XV := fun env Q => t env fun r e => rd L r e fun d => obK n d fun fs => fldK x fs fun d' => Q d' e
section
variable {X : Cx} {o e : Expr} {t ta : XE} {tv : XV} {n x : Str} {pos : Pos} {L : Nat}
theorem Jz (ha : DE X o t) (c : ObF X.K n x) (hb : attributeBase o x X.env (eval o X.env) = eval o X.env := by rfl) : DV X (.Attribute o x pos) L (Yl n x L t) := by
 refine ⟨PE.imp (pe_fld ha.run hb) fun σ H Q q => ?_, fun env Q Q' h q => ha.mono _ _ _ (fun r e q => qQ (fun d q => qdQ (fun fs q => qcM (fun d q => h _ _ q) q) q) q) q⟩
 obtain ⟨env, f, A, q⟩ := q
 refine ⟨env, f, A, ha.mono _ _ _ (fun r e1 q => ?_) q⟩
 intro v H1 f1 g1 A1 R1 S1 K1
 obtain ⟨d, g', rp, q⟩ := yx A1 R1 q
 obtain ⟨fs, ed, q2⟩ := qeM q
 subst ed
 obtain ⟨d', hx, q3⟩ := qf5 q2
 obtain ⟨a, C, dx, hs, F, rfl, hH, hC, hk, rr, _, _⟩ := rp.obAt
 obtain ⟨w, F1, g, F2, hw, rw', _⟩ := Jw hk rr hx
 exact ⟨a, C, dx, hs, w, rfl, hH, (c C hC).1, (c C hC).2, hw, q3 w H1 f1 g A1 rw' (S1.drop (G2 := []) fun _ z => by simp at z) K1⟩
def qbg (t : XV) : XE := fun env Q => t env fun d e => d.imm = true ∧ Q (.tmp d) e
theorem qav (ha : DV X e L tv) (hL : L ≤ 1 := by decide) : DE X e (qbg tv) := by
 refine ⟨PE.imp ha.run fun σ H Q q => ?_, fun env Q Q' h q => ha.mono _ _ _ (fun d e q => ⟨q.1, h _ _ q.2⟩) q⟩
 obtain ⟨env, f, A, q⟩ := q
 refine ⟨env, f, A, ha.mono _ _ _ (fun d e1 q => ?_) q⟩
 intro v H1 f1 g A1 rp S1 K1
 obtain ⟨im, q⟩ := q
 obtain ⟨rfl, rp0⟩ := rp.imm hL im
 exact q v H1 f1 [] A1 (.tmp rp0 qF) S1 K1
def Vv (L : Nat) (op : D → D → (D → Prop) → Prop) (ta : XE) (tv : XV) : XE := fun env Q => ta env fun r1 e1 => tv e1 fun d2 e2 => rd L r1 e2 fun d1 => op d1 d2 fun d => Q (.tmp d) e2
variable {a b : Expr} {op' : D → D → (D → Prop) → Prop}
end
theorem ResOk.fresh {K : PySem.W.Frag} {σ : L2.St} {H : Hp} {env : En} {f : FA} {r : R} {v : V} {g : List Addr} (h : ResOk K σ H env f r v g) : ∀ b ∈ g, ¬ L0 env f b ∧ ¬ Ro env f b := by
 cases h with
 | tmp r nn => exact nn
 | ro r nn => exact fun b hb => by simp at hb
 | sl h1 h2 h3 => exact fun b hb => by simp at hb
theorem ResOks.fresh {K : PySem.W.Frag} {σ : L2.St} {H : Hp} {env : En} {f : FA} : ∀ {rs : List R} {vs : List V} {gs : List Addr}, ResOks K σ H env f rs vs gs → ∀ b ∈ gs, ¬ L0 env f b ∧ ¬ Ro env f b
 | _, _, _, .nil, b, hb => by simp at hb
 | _, _, _, .cons r t n, b, hb => (List.mem_append.mp hb).elim (r.fresh b) (t.fresh b)
section
variable {X : Cx} {o e : Expr} {es : List Expr} {u : XA} {cpos apos pos : Pos} {T id : String} {name n x : Str} {isT : D → Bool} {rr : V → List V → Hp → VK → Prop} {B : Bn} {i : Nat}
theorem qeA {env : En} {fs : List (Str × D)} {m : Md} {Q : R → En → Prop} (e : env[i]? = some (some (.ob n fs, m))) (hm : m.rd = false) (q : Q (.sl i) env) : dVar i env Q := by
 unfold dVar
 rw [e]
 cases m <;> first | exact q | cases hm
end
end BX
namespace BX
open PySem PySem.Spec PyProof.Rows L2
structure Mt (P : Program) (w : World) (K : PySem.W.Frag) (mg : Str → Option Value) (base : Heap) (n x : Str) (k : Nat) (ps : List Str) (S : FS) : Prop where
 ex : ∃ C f fd, PySem.W.nsIn K mainGlobals n = some (some (.ref C)) ∧ Cls K C ∧ Meth K C x f ∧ FnOk P w K mg base CX0 k f fd ps (spOf K S) ∧ Binds K fd ps []
 mono : Wj S
def Vt (n x : Str) (S : FS) (ta : XE) (u : XA) : XE := fun env Q => ta env fun r1 e1 => (rd 2 r1 e1 fun d => obK n d fun fs => fs.lookup x = none) ∧ u e1 fun rs e2 =>
 yR S.ms (r1 :: rs) e2 = true ∧ apart S.ms (r1 :: rs) = true ∧ jP 2 (r1 :: rs) e2 fun ds => S.wp ds fun d ds' => Q (.tmp d) (putB S.ms (r1 :: rs) ds' 0 e2)
theorem lookup_none {α β : Type} {x : Str} : ∀ {fs : List (Str × α)} {hs : List (Str × β)}, hs.map (·.1) = fs.map (·.1) → fs.lookup x = none → hs.lookup x = none
 | [], [], _, _ => rfl
 | [], _ :: _, e, _ => by cases e
 | _ :: _, [], e, _ => by cases e
 | (k, d) :: fs, (k1, v) :: hs, e, h => by
   injection e with e1 e2
   have e1 : k1 = k := e1
   subst e1
   by_cases ex : k1 = x
   ·subst ex; rw [Wt] at h; cases h
   ·rw [Qm ex] at h ⊢
    exact lookup_none e2 h
section
variable {X : Cx} {o e : Expr} {es : List Expr} {ta : XE} {u : XA} {pos apos : Pos} {n x : Str} {k : Nat} {ps : List Str} {S : FS}
theorem qbh (hS : Wj S) (ma : xr ta) (mu : Yo u) : xr (Vt n x S ta u) := fun env Q Q' h q => ma _ _ _ (fun r e q => ⟨q.1, mu _ _ _ (fun rs e q => ⟨q.1, q.2.1, uD (fun ds q => hS _ _ _ (fun d es q => h _ _ q) q) q.2.2⟩) q.2⟩) q
theorem qcw {K : PySem.W.Frag} {C : Addr} (hC : PySem.W.nsIn K mainGlobals n = some (some (.ref C))) (hS : Wj S) (ma : xr ta) (mu : Yo u) {σ : L2.St} {H : Hp} {E : XK} {Q : VK} (q : jk K (Vt n x S ta u) σ H Q) :
 tMeth C x (spOf K S) [] E (jk K ta) (qa9 K u) σ H Q := by
 obtain ⟨env, f, A, q⟩ := q
 have h := Vy (B := fun r1 e1 => rd 2 r1 e1 fun d => obK n d fun fs => fs.lookup x = none) (C := fun r1 rs e2 => yR S.ms (r1 :: rs) e2 = true ∧ apart S.ms (r1 :: rs) = true ∧ jP 2 (r1 :: rs) e2 fun ds => S.wp ds fun d ds' => qdp K σ H env f Q (.tmp d) (putB S.ms (r1 :: rs) ds' 0 e2)) ma mu A q
 obtain ⟨env1, f1, A1, q1⟩ := h
 refine ⟨env1, f1, A1, ma _ _ _ (fun r1 e1 z => ?_) q1⟩
 intro y H1 f1 g1 a b c d
 obtain ⟨⟨r0, e0, f0, g0, A0, R0, B0⟩, env2, f2, A2, q2⟩ := z y H1 f1 g1 a b c d
 obtain ⟨d0, g00, rp0, B0⟩ := yx A0 R0 B0
 obtain ⟨fs, ed, hn⟩ := qeM B0
 subst ed
 obtain ⟨ad, C', dx, hs, F, ey, hH, hC', hk, _⟩ := rp0.obAt
 rw [hC] at hC'
 cases hC'
 refine ⟨ad, dx, hs, ey, hH, lookup_none hk hn, env2, f2, A2, mu _ _ _ (fun rs e2 z => ?_) q2⟩
 intro vs H2 f2 gs a b c d
 obtain ⟨r1, rs, e3, f3, g1, gs, A3, R1, R2, nn, St, Kk, o1, o2, q3⟩ := z vs H2 f2 gs a b c d
 have Rs : ResOks K σ H2 e3 f3 (r1 :: rs) (y :: vs) (g1 ++ gs) := .cons R1 R2 nn
 obtain ⟨ds, fa, l1, l2, Aa, q4, back⟩ := Vm A3 Rs o1 o2 q3
 rw [List.append_nil]
 refine ⟨l2, ds, fa, l1, Aa, hS _ _ _ (fun d ds' q => ?_) q4⟩
 intro v H' f' g l' A' rv ng S' K'
 obtain ⟨f4, A4, R4, S4, K4⟩ := back v d H' f' g ds' l' A' rv ng S' K'
 exact q v H' f4 g A4 R4 (St.trans S4) (Kk.trans K4)
theorem qc2 {pl : Sem Bool} (F : Mt X.prog X.w X.K X.mg X.base n x k ps S) (hr : Room k X.A) (ho : DE X o ta) (ha : DA X (e :: es) u)
 (hst : starEach (e :: es) X.env = (false, eval e X.env) :: starEach es X.env := by rfl) (hpl : (backTo pos (starEach es X.env)).any (·.1) = false := by rfl)
 (ht : eval (.Call (.Attribute o x apos) (e :: es) [] pos) X.env = (do
  let ov ← eval o X.env
  standAt apos.atName
  let (f, first) ← holding [ov] (getMethod ov x pl)
  callWith pos f first (backTo pos (starEach (e :: es) X.env)) (backToKw pos (keywordEach [] X.env))) := by rfl) :
 DE X (.Call (.Attribute o x apos) (e :: es) [] pos) (Vt n x S ta u) := by
 obtain ⟨C, f, fd, hC, c, hm, hF, hb⟩ := F.ex
 exact ⟨PE.imp (pe_meth (E := E0) ho.run c hm hF hr hb .nil pass0 ha.run hst hpl ht) fun σ H Q q => qcw (E := E0) hC F.mono ho.mono ha.mono q, qbh F.mono ho.mono ha.mono⟩
end
section
variable {K : PySem.W.Frag} {H : Hp} {lv : Nat}
theorem qcK {x : Str} {d : D} {v : V} {g : List Addr} (rv : Rep K H lv d v g) : ∀ {fs : List (Str × D)} {hs : List (Str × V)} {F : List Addr}, hs.map (·.1) = fs.map (·.1) → Reps K H lv (fs.map (·.2)) (hs.map (·.2)) F → (lv = 0 → ∀ b ∈ g, b ∉ F) →
 ∃ F', Reps K H lv ((setF x d fs).map (·.2)) ((putF x v hs).map (·.2)) F' ∧ (∀ b ∈ F', b ∈ F ∨ b ∈ g) ∧ (putF x v hs).map (·.1) = (setF x d fs).map (·.1)
 | [], [], F, _, r, _ => by
   refine ⟨g ++ [], ?_, fun b hb => .inr (by simpa using hb), rfl⟩
   show Reps K H lv [d] [v] (g ++ [])
   exact .cons rv .nil fun _ b _ z => by simp at z
 | [], _ :: _, _, e, _, _ => by cases e
 | _ :: _, [], _, e, _, _ => by cases e
 | (k, d0) :: fs, (k1, v1) :: hs, F, e, r, n => by
   injection e with e1 e2
   have e1 : k1 = k := e1
   subst e1
   cases r with
   | @cons _ _ f0 _ _ g0 r t nn =>
     by_cases ex : k1 = x
     ·subst ex
      refine ⟨g ++ g0, ?_, fun b hb => (List.mem_append.mp hb).elim .inr fun z => .inl (List.mem_append_right _ z), ?_⟩
      ·rw [setF, if_pos rfl, putF, if_pos rfl]
       exact .cons rv t fun z b hb q => n z b hb (List.mem_append_right _ q)
      ·rw [setF, if_pos rfl, putF, if_pos rfl]
       exact congrArg (fun z => k1 :: z) e2
     ·obtain ⟨F', r', s', e'⟩ := qcK rv e2 t fun z b hb q => n z b hb (List.mem_append_right _ q)
      refine ⟨f0 ++ F', ?_, fun b hb => ?_, ?_⟩
      ·rw [setF, if_neg ex, putF, if_neg ex]
       refine .cons r r' fun z b hb q => ?_
       rcases s' b q with q | q
       ·exact nn z b hb q
       ·exact n z b q (List.mem_append_left _ hb)
      ·rcases List.mem_append.mp hb with q | q
       ·exact .inl (List.mem_append_left _ q)
       ·exact (s' b q).imp (fun z => List.mem_append_right _ z) id
      ·rw [setF, if_neg ex, putF, if_neg ex]
       exact congrArg (fun z => k1 :: z) e'
end
def Uu (n x : Str) (i : Nat) (te : XE) : XS := fun env nx _ => te env fun r e1 => stor r e1 fun d => match e1[i]? with
 | some (some (.ob n' fs, m)) => n' = n ∧ m.rd = false ∧ fs.length < 1000 ∧ nx (e1.set i (some (.ob n (setF x d fs), m)))
 | _ => False
section
variable {X : Cx} {o e : Expr} {te : XE} {pos apos : Pos} {n x : Str} {i : Nat}
theorem ZW (he : DE X e te) (ho : DE X o (dVar i)) (c : ObF X.K n x) (hs : swapsWith e (some (.Attribute o x apos)) pos.line X.env = pure false := by rfl) : DS X (.Assign [.Attribute o x apos] e pos) (Uu n x i te) := by
 refine ⟨PS.imp (ps_fld ho.run he.run hs) fun D σ H q => ?_, fun env nx nx' rt rt' h h' q => he.mono _ _ _ (fun r e q => jM (fun d q => ?_) q) q⟩
 ·obtain ⟨env, f, A, q⟩ := q
  refine ⟨env, f, A, he.mono _ _ _ (fun r e1 q => ?_) q⟩
  intro v H1 f1 g1 A1 R1 S1 K1
  obtain ⟨d, rd1, q, nn⟩ := Qg A1 R1 q
  split at q
  ·rename_i n' fs m e0
   obtain ⟨rfl, hm, hlen, q⟩ := q
   refine ⟨e1, f1, A1, qeA e0 hm ?_⟩
   intro y H2 f2 g2 A2 R2 S2 K2
   cases R2 with
   | @sl _ _ d0 m0 h1 h2 h3 =>
     rw [e0] at h2; cases h2
     obtain ⟨R1', _⟩ := R1.wait A1 S2 K2
     obtain ⟨v0, hv0, rp⟩ := A2.rep _ _ _ e0
     rw [h1] at hv0; cases hv0
     rw [h3] at rp
     have rd2 : Rep X.K H2 0 d v g1 := rd1.keep fun b oo ho z => S2.same b oo ho (by
      rcases z with z | z
      ·exact .inr ⟨fun w => (nn b z).1 w.l0, by simp⟩
      ·exact .inl z)
     have nn2 := R1'.fresh
     obtain ⟨a, C, dx, hs, F, rfl, hH, hC, hk, r0, na, hf⟩ := rp.obAt
     have na := na rfl
     have dj : ∀ b ∈ g1, b ∉ f2 i := fun b hb z => (nn2 b hb).1 ⟨i, _, m, e0, h3, z⟩
     obtain ⟨F', r', s', k'⟩ := qcK (x := x) rd2 hk r0 fun _ b hb z => dj b hb (by rw [hf]; exact List.mem_cons_of_mem _ z)
     have hlen2 : hs.length < 1000 := by have := congrArg List.length hk; rw [List.length_map, List.length_map] at this; omega
     have na' : a ∉ F' := fun z => (s' a z).elim na fun z => dj a z (by rw [hf]; exact List.mem_cons_self ..)
     refine ⟨a, C, dx, hs, rfl, hH, (c C hC).1, (c C hC).2, hlen2, ?_⟩
     obtain ⟨A3, S3, K3, _⟩ := A2.mut (d' := .ob n' (setF x d fs)) (H' := upd H2 a (.ins C dx (putF x v hs))) (g' := a :: F') (G := g1) (G' := []) e0 hm h1 (fun b oo hb z => by
      have : b ≠ a := fun w => z (by rw [hf, w]; exact List.mem_cons_self ..)
      rw [upd_ne this]; exact hb) (by
      rw [h3]
      refine .ob upd_same hC k' (r'.keep fun b oo hb z => ?_) fun _ => na'
      have : b ≠ a := fun w => by
       subst w
       rcases z with z | z
       ·exact na' z
       ·rw [hH] at hb; cases hb; cases z
      rw [upd_ne this]; exact hb) (fun b hb => by
      rcases List.mem_cons.mp hb with rfl | hb
      ·exact .inl (by rw [hf]; exact List.mem_cons_self ..)
      ·rcases s' b hb with z | z
       ·exact .inl (by rw [hf]; exact List.mem_cons_of_mem _ z)
       ·exact .inr (.inl z)) nn2 (fun b hb => by simp at hb)
     refine q σ _ _ A3 ?_ (((K1.trans K2).trans K3).kq)
     exact (((S1.trans (S2.frame g1)).drop (G2 := g1) fun b hb => by simpa using hb).trans S3)
  ·exact q.elim
 ·split at q
  ·exact ⟨q.1, q.2.1, q.2.2.1, h _ q.2.2.2⟩
  ·exact q.elim
end
end BX
namespace BX
open PySem PySem.Spec PyProof.Rows L2
theorem ResOks.extA {K : PySem.W.Frag} {σ : L2.St} {H H' : Hp} {env : En} {f : FA} : ∀ {rs : List R} {vs : List V} {gs : List Addr}, ResOks K σ H env f rs vs gs → Abs K σ H env f → (∀ b o, H b = some o → H' b = some o) → ResOks K σ H' env f rs vs gs
 | _, _, _, .nil, _, _ => .nil
 | _, _, _, .cons r t n, A, x => .cons (r.ext A x) (ResOks.extA t A x) n
def dMk (n : Str) (S : FS) (u : XA) : XE := fun env Q => u env fun rs e => yR S.ms (.sl e.length :: rs) (e ++ [some (.ob n [], .own)]) = true ∧ apart S.ms (.sl e.length :: rs) = true ∧ jP 2 (.sl e.length :: rs) (e ++ [some (.ob n [], .own)]) fun ds => S.wp ds fun d ds' =>
 d = .non ∧ match (putB S.ms (.sl e.length :: rs) ds' 0 (e ++ [some (.ob n [], .own)]))[e.length]? with
  | some (some (d', .own)) => Q (.tmp d') ((putB S.ms (.sl e.length :: rs) ds' 0 (e ++ [some (.ob n [], .own)])).take e.length)
  | _ => False
structure Mkn (P : Program) (w : World) (K : PySem.W.Frag) (mg : Str → Option Value) (base : Heap) (n : Str) (k : Nat) (ps : List Str) (S : FS) : Prop where
 ex : ∃ C f fd, PySem.W.nsIn K mainGlobals n = some (some (.ref C)) ∧ mg n = some (.ref C) ∧ Mk K C f ∧ FnOk P w K mg base CX0 k f fd ps (spOf K S) ∧ Binds K fd ps []
 mono : Wj S
section
variable {K : PySem.W.Frag} {σ : L2.St} {H H' : Hp} {env e' : En} {f f' : FA} {d d' : D} {v : V} {g G G' : List Addr} {j : Nat}
theorem Uq {x : D × Md} (h : (env ++ [some (d, .own)])[j]? = some (some x)) : (j < env.length ∧ env[j]? = some (some x)) ∨ (j = env.length ∧ x = (d, .own)) := by
 by_cases hj : j < env.length
 ·rw [List.getElem?_append_left hj] at h
  exact .inl ⟨hj, h⟩
 ·have : j < (env ++ [some (d, Md.own)]).length := (List.getElem?_eq_some_iff.mp h).1
  rw [List.length_append] at this
  obtain rfl : j = env.length := by simp at this; omega
  rw [List.getElem?_append_right (Nat.le_refl _)] at h
  simp at h
  exact .inr ⟨rfl, h.symm⟩
theorem qdB (hj : j < env.length) : (env ++ [some (d, .own)])[j]? = env[j]? := List.getElem?_append_left hj
theorem qiY : (env ++ [some (d, .own)])[env.length]? = some (some (d, .own)) := by
 rw [List.getElem?_append_right (Nat.le_refl _)]; simp
theorem t_in (A : Abs K σ H env f) (r : Rep K H 0 d v g) (fr : ∀ b ∈ g, ∀ j p, env[j]? = some (some p) → b ∉ f j) : Abs K (σ ++ [some v]) H (env ++ [some (d, .own)]) (fset f env.length g) where
 rep := fun j dj mj h => by
  rcases Uq h with ⟨h2, h3⟩ | ⟨rfl, h3⟩
  ·obtain ⟨w, h4, rp⟩ := A.rep j dj mj h3
   refine ⟨w, ?_, by rw [wV (Nat.ne_of_lt h2)]; exact rp⟩
   rw [List.getElem?_append_left (by rw [← A.len]; exact h2)]; exact h4
  ·cases h3
   refine ⟨v, ?_, by rw [yE]; exact r⟩
   rw [A.len, List.getElem?_append_right (Nat.le_refl _)]; simp
 dis := fun j k dj mj dk mk n h1 h2 hlv b hb => by
  rcases Uq h1 with ⟨a2, a3⟩ | ⟨rfl, a3⟩
  ·rw [wV (Nat.ne_of_lt a2)] at hb
   rcases Uq h2 with ⟨b2, b3⟩ | ⟨rfl, b3⟩
   ·rw [wV (Nat.ne_of_lt b2)]
    exact A.dis j k _ _ _ _ n a3 b3 hlv b hb
   ·rw [yE]
    exact fun z => fr b z j _ a3 hb
  ·rw [yE] at hb
   rcases Uq h2 with ⟨b2, b3⟩ | ⟨rfl, b3⟩
   ·rw [wV (Nat.ne_of_lt b2)]
    exact fr b hb k _ b3
   ·exact absurd rfl n
 len := by rw [List.length_append, List.length_append, A.len]; rfl
theorem qiZ {r : R} {y : V} {gg : List Addr} (A : Abs K σ H env f) (h : ResOk K σ H env f r y gg) (n : ∀ b ∈ gg, b ∉ g) : ResOk K (σ ++ [some v]) H (env ++ [some (d, .own)]) (fset f env.length g) r y gg := by
 cases h with
 | tmp r nn =>
   refine .tmp r fun b hb => ⟨?_, ?_⟩
   ·rintro ⟨j, d0, m0, w1, w2, w3⟩
    rcases Uq w1 with ⟨a2, a3⟩ | ⟨rfl, a3⟩
    ·rw [wV (Nat.ne_of_lt a2)] at w3
     exact (nn b hb).1 ⟨j, d0, m0, a3, w2, w3⟩
    ·rw [yE] at w3
     exact n b hb w3
   ·rintro ⟨j, d0, m0, w1, w2, w3⟩
    rcases Uq w1 with ⟨a2, a3⟩ | ⟨rfl, a3⟩
    ·rw [wV (Nat.ne_of_lt a2)] at w3
     exact (nn b hb).2 ⟨j, d0, m0, a3, w2, w3⟩
    ·cases a3; exact absurd rfl w2
 | ro r nn =>
   refine .ro r fun b hb => ?_
   obtain ⟨j, d0, m0, w1, w2, w3⟩ := nn b hb
   have hj := (List.getElem?_eq_some_iff.mp w1).1
   exact ⟨j, d0, m0, by rw [qdB hj]; exact w1, w2, by rw [wV (Nat.ne_of_lt hj)]; exact w3⟩
 | @sl k _ d1 m1 h1 h2 hm =>
   have hj := (List.getElem?_eq_some_iff.mp h2).1
   refine .sl (d := d1) (m := m1) ?_ (by rw [qdB hj]; exact h2) hm
   rw [List.getElem?_append_left (by rw [← A.len]; exact hj)]; exact h1
theorem qeE (A : Abs K σ H env f) : ∀ {rs : List R} {ys : List V} {gs : List Addr}, ResOks K σ H env f rs ys gs → (∀ b ∈ gs, b ∉ g) → ResOks K (σ ++ [some v]) H (env ++ [some (d, .own)]) (fset f env.length g) rs ys gs
 | _, _, _, .nil, _ => .nil
 | _, _, _, .cons r t n, h => .cons (qiZ A r fun b hb => h b (List.mem_append_left _ hb)) (qeE A t fun b hb => h b (List.mem_append_right _ hb)) n
theorem qi0 {H0 : Hp} (A : Abs K σ H0 env f) (fr : ∀ b ∈ g, H0 b = none) (sm : ∀ b o, H0 b = some o → H b = some o) (A' : Abs K (σ ++ [some v]) H' e' f') (S' : Stp H (env ++ [some (d, .own)]) (fset f env.length g) G H' e' f' G') (K' : Kp (env ++ [some (d, .own)]) (fset f env.length g) e' f')
 (he : e'[env.length]? = some (some (d', .own))) : Abs K σ H' (e'.take env.length) f' ∧ ResOk K σ H' (e'.take env.length) f' (.tmp d') v (f' env.length) ∧ Stp H0 env f G H' (e'.take env.length) f' (f' env.length) ∧ Kp env f (e'.take env.length) f' := by
 have elen : e'.length = env.length + 1 := by rw [A'.len, List.length_append, A.len]; rfl
 have old : ∀ {j : Nat} {p : D × Md}, (e'.take env.length)[j]? = some (some p) → j < env.length ∧ e'[j]? = some (some p) := fun {j p} h => by
  by_cases hlt : j < env.length
  ·rw [List.getElem?_take_of_lt hlt] at h
   exact ⟨hlt, h⟩
  ·rw [List.getElem?_take_eq_none (by omega)] at h; cases h
 obtain ⟨w, hw, rp⟩ := A'.rep _ _ _ he
 have : w = v := by
  rw [A.len, List.getElem?_append_right (Nat.le_refl _)] at hw
  simpa using hw.symm
 subst this
 have up : ∀ b, W (env ++ [some (d, .own)]) (fset f env.length g) b → W env f b ∨ H0 b = none := fun b ⟨j, d0, m0, w1, w2, w3⟩ => by
  rcases Uq w1 with ⟨a2, a3⟩ | ⟨rfl, a3⟩
  ·rw [wV (Nat.ne_of_lt a2)] at w3
   exact .inl ⟨j, d0, m0, a3, w2, w3⟩
  ·rw [yE] at w3
   exact .inr (fr b w3)
 have nn : ∀ b, H b = none → H0 b = none := fun b hb => by
  cases h : H0 b with
  | none => rfl
  | some o => rw [sm b o h] at hb; cases hb
 refine ⟨⟨fun j d0 m0 h => ?_, fun j k dj mj dk mk n h1 h2 hlv b hb => ?_, ?_⟩, .tmp rp fun b hb => ⟨?_, ?_⟩, ⟨fun b o hb q => ?_, fun b hb => ?_⟩, ⟨?_, fun j d0 m0 h hrd => ?_⟩⟩
 ·obtain ⟨hlt, h'⟩ := old h
  obtain ⟨w, hw, rp⟩ := A'.rep _ _ _ h'
  rw [List.getElem?_append_left (by rw [← A.len]; exact hlt)] at hw
  exact ⟨w, hw, rp⟩
 ·exact A'.dis j k _ _ _ _ n (old h1).2 (old h2).2 hlv b hb
 ·rw [List.length_take, elen, A.len]; omega
 ·rintro ⟨j, d0, m0, w1, w2, w3⟩
  obtain ⟨hlt, w1'⟩ := old w1
  exact A'.dis env.length j _ _ _ _ (Nat.ne_of_gt hlt) he w1' rfl b hb w3
 ·rintro ⟨j, d0, m0, w1, w2, w3⟩
  obtain ⟨hlt, w1'⟩ := old w1
  exact A'.dis env.length j _ _ _ _ (Nat.ne_of_gt hlt) he w1' rfl b hb w3
 ·refine S'.same b o (sm b o hb) (q.imp id fun q => ⟨fun z => ?_, q.2⟩)
  rcases up b z with z | z
  ·exact q.1 z
  ·rw [hb] at z; cases z
 ·have : W e' f' b := by
   rcases hb with ⟨j, d0, m0, w1, w2, w3⟩ | hb
   ·exact ⟨j, d0, m0, (old w1).2, w2, w3⟩
   ·exact ⟨_, _, _, he, rfl, hb⟩
  rcases S'.own b (.inl this) with z | z | z
  ·rcases up b z with z | z
   ·exact .inl z
   ·exact .inr (.inr z)
  ·exact .inr (.inl z)
  ·exact .inr (.inr (nn b z))
 ·refine List.ext_getElem? fun j => ?_
  rw [List.getElem?_map, List.getElem?_map]
  by_cases hlt : j < env.length
  ·rw [List.getElem?_take_of_lt hlt, ← qdB (d := d) hlt, ← List.getElem?_map, ← List.getElem?_map, K'.modes]
  ·rw [List.getElem?_take_eq_none (by omega), List.getElem?_eq_none (by omega)]
 ·have hlt := (List.getElem?_eq_some_iff.mp h).1
  obtain ⟨k1, k2⟩ := K'.ros j d0 m0 (by rw [qdB hlt]; exact h) hrd
  exact ⟨by rw [List.getElem?_take_of_lt hlt]; exact k1, by rw [k2, wV (Nat.ne_of_lt hlt)]⟩
end
section
variable {X : Cx} {e : Expr} {es : List Expr} {u : XA} {pos p : Pos} {n : Str} {k : Nat} {ps : List Str} {S : FS}
theorem qej (hS : Wj S) (mu : Yo u) : xr (dMk n S u) := fun env Q Q' h q => mu _ _ _ (fun rs e q => ⟨q.1, q.2.1, uD (fun ds q => hS _ _ _ (fun d es q => ⟨q.1, by
 have q2 := q.2
 split at q2
 ·exact h _ _ q2
 ·exact q2.elim⟩) q) q.2.2⟩) q
theorem qfL {K : PySem.W.Frag} {C : Addr} (hC : PySem.W.nsIn K mainGlobals n = some (some (.ref C))) (hS : Wj S) (mu : Yo u) {σ : L2.St} {H : Hp} {E : XK} {Q : VK} (q : jk K (dMk n S u) σ H Q) : tMake C (spOf K S) [] E (qa9 K u) σ H Q := by
 obtain ⟨env, f, A, q⟩ := q
 refine ⟨env, f, A, mu _ _ _ (fun rs e1 q => ?_) q⟩
 intro vs H1 f1 gs A1 R1 S1 K1
 intro xo dx nx ndx nex
 obtain ⟨o1, o2, q⟩ := q
 have sm : ∀ b o, H1 b = some o → (upd (upd H1 dx (.own xo)) xo (.ins C dx [])) b = some o := fun b o h => by
  rw [upd_ne (ne_of_none h nx), upd_ne (ne_of_none h ndx)]; exact h
 have A2 : Abs K σ (upd (upd H1 dx (.own xo)) xo (.ins C dx [])) e1 f1 := A1.ext sm
 have rp : Rep K (upd (upd H1 dx (.own xo)) xo (.ins C dx [])) 0 (.ob n []) (.ref xo) [xo] := .ob upd_same hC rfl .nil fun _ z => by simp at z
 have fr : ∀ b ∈ [xo], ∀ j p, e1[j]? = some (some p) → b ∉ f1 j := fun b hb j p h z => by
  rw [List.mem_singleton.mp hb] at z
  obtain ⟨w, _, r⟩ := A1.rep j p.1 p.2 h
  obtain ⟨o, ho, _⟩ := r.dom xo z
  rw [nx] at ho; cases ho
 have A3 := t_in A2 rp fr
 have gx : ∀ b ∈ gs, b ∉ [xo] := fun b hb z => by
  rw [List.mem_singleton.mp z] at hb
  obtain ⟨o, ho, _⟩ := R1.dom xo hb
  rw [nx] at ho; cases ho
 have R2 : ResOks K σ (upd (upd H1 dx (.own xo)) xo (.ins C dx [])) e1 f1 rs vs gs := ResOks.extA R1 A1 sm
 have R3 := qeE (v := .ref xo) (d := .ob n []) (g := [xo]) A2 R2 gx
 have R4 : ResOks K (σ ++ [some (.ref xo)]) (upd (upd H1 dx (.own xo)) xo (.ins C dx [])) (e1 ++ [some (.ob n [], .own)]) (fset f1 e1.length [xo]) (.sl e1.length :: rs) (.ref xo :: vs) ([] ++ gs) := by
  refine .cons (.sl (d := .ob n []) (m := .own) ?_ qiY rfl) R3 fun b hb => by simp at hb
  rw [A1.len, List.getElem?_append_right (Nat.le_refl _)]; simp
 obtain ⟨ds, fa, l1, l2, Aa, q4, back⟩ := Vm A3 R4 o1 o2 q
 rw [List.append_nil]
 refine ⟨l2, ds, fa, l1, Aa, hS _ _ _ (fun d ds' q => ?_) q4⟩
 intro v H' f' g l' A' rv ng S' K'
 obtain ⟨f4, A4, R4', S4, K4⟩ := back v d H' f' g ds' l' A' rv ng S' K'
 obtain ⟨rfl, q⟩ := q
 refine ⟨rv.nonV.1, ?_⟩
 split at q
 ·rename_i d' h5
  obtain ⟨A5, R5, S5, K5⟩ := qi0 A1 (g := [xo]) (fun b hb => by rw [List.mem_singleton.mp hb]; exact nx) sm A4 S4 K4 h5
  exact q _ H' f4 _ A5 R5 (S1.trans S5) (K1.trans K5)
 ·exact q.elim
theorem qjv (M : Mkn X.prog X.w X.K X.mg X.base n k ps S) (hr : Room (k + 1) X.A) (hg : Gl X n) (ha : DA X (e :: es) u) (hdb : (n == ("__debug__" : Str)) = false := by decide) (he : starEach (e :: es) X.env = (false, eval e X.env) :: starEach es X.env := by rfl) (hpl : (backTo pos (starEach es X.env)).any (·.1) = false := by rfl) :
 DE X (.Call (.Name n p) (e :: es) [] pos) (dMk n S u) := by
 obtain ⟨C, f, fd, hC, hm, M', hF, hb⟩ := M.ex
 exact ⟨PE.imp (pe_make (E := E0) M' hF hr hg hm hb .nil pass0 ha.run hdb he hpl) fun σ H Q q => qfL (E := E0) hC M.mono ha.mono q, qej M.mono ha.mono⟩
end
end BX
namespace BX
open PySem PySem.Spec PyProof.Rows L2
end BX
namespace BX
open PySem PySem.Spec PyProof.Rows L2
section
variable {X : Cx} {a b : Expr} {ta : XE} {tv : XV} {pos : Pos} {L : Nat} {op' : OP}
theorem qbi (ho : Qq op') (ma : xr ta) (mv : qgs tv) : xr (Vv L op' ta tv) := fun env Q Q' h q => ma _ _ _ (fun r e q => mv _ _ _ (fun d e q => qQ (fun d q => ho _ _ _ _ (fun d q => h _ _ q) q) q) q) q
theorem qbj {K : PySem.W.Frag} (ho : Qq op') (ma : xr ta) (mv : qgs tv) {σ : L2.St} {H : Hp} {Q : VK} (q : jk K (Vv L op' ta tv) σ H Q) : tOp (rOp K L op') (jk K ta) (qfR K L tv) σ H Q := by
 obtain ⟨env, f, A, q⟩ := q
 refine ⟨env, f, A, ma _ _ _ (fun r1 e1 q1 => ?_) q⟩
 intro y H1 f1 g1 A1 R1 S1 K1
 refine ⟨e1, f1, A1, mv _ _ _ (fun d2 e2 q2 => ?_) q1⟩
 intro z H2 f2 g2 A2 R2 S2 K2
 obtain ⟨R1', _⟩ := R1.wait A1 S2 K2
 obtain ⟨d1, g1', rp1, q3⟩ := yx A2 R1' q2
 refine ⟨d1, d2, g1', g2, rp1, R2, ho _ _ _ _ (fun d q4 => ?_) q3⟩
 intro w H' g rp x
 obtain ⟨A3, R3, S3⟩ := j8 A2 (S1.trans (S2.frame g1)) x rp
 exact q4 w H' f2 g A3 R3 S3 (K1.trans K2)
theorem qf8 {op : CmpOp} (ho : OpD X (compareOp op) L op') (ha : DE X a ta) (hv : DV X b L tv) (hbl : BlOp op') (hm : behindInMarks op b = false := by rfl) : DT X (.Compare a [op] [b] pos) (xVal (Vv L op' ta tv)) := by
 have md := qbi (L := L) ho.mono ha.mono hv.mono
 refine ⟨PT.imp (pt_cmpR ho.run ha.run hv.run hm) fun σ H Q q => ?_, fun env Q Q' h q => md _ _ _ (fun r e q => qQ (fun d q => vK (fun b q => h _ _ q) q) q) q⟩
 obtain ⟨env, f, A, q⟩ := q
 show tOp (rOp X.K L op') (jk X.K ta) (qfR X.K L tv) σ H fun x H' => ∃ k, x = .bl k ∧ Q k H'
 refine qbj ho.mono ha.mono hv.mono ⟨env, f, A, ?_⟩
 unfold xVal at q
 have q2 : Vv L op' ta tv env fun r e => (∃ b, r = .tmp (.bl b)) ∧ rd 2 r e fun d => tru d fun b => ∀ (H' : Hp) (f' : FA), Abs X.K σ H' e f' → Stp H env f [] H' e f' [] → Kp env f e f' → Q b H' := by
  unfold Vv at q ⊢
  refine ha.mono _ _ _ (fun r1 e1 q => hv.mono _ _ _ (fun d2 e2 q => qQ (fun d1 q => ?_) q) q) q
  refine ho.mono _ _ _ _ (fun d q => ?_) (hbl _ _ _ q)
  obtain ⟨⟨b, rfl⟩, q⟩ := q
  exact ⟨⟨b, rfl⟩, q⟩
 refine md _ _ _ (fun r e q => ?_) q2
 obtain ⟨⟨b, rfl⟩, q⟩ := q
 intro v H' f' g A' R' S' K'
 cases R' with
 | tmp rp n =>
   obtain ⟨rfl, rfl⟩ := rp.blV
   exact ⟨b, rfl, q H' f' A' S' K'⟩
end
end BX
namespace BX
open PySem PySem.Spec PyProof.Rows L2 RT
end BX
namespace BX
open PySem PySem.Spec PyProof.Rows L2
end BX
namespace BX
open PySem PySem.Spec PyProof.Rows L2
end BX
namespace PySem
end PySem
namespace BX
open PySem PySem.Spec PyProof.Rows L2
theorem KT.fst {H : Hp} {kvs : List (List Key × V)} {xs : List (List Key × Addr × Value)} (r : KT H kvs xs) : xs.map (·.1) = kvs.map (·.1) := by
 induction r with
 | nil => rfl
 | cons h t ih => rw [List.map_cons, List.map_cons, ih, h.1]
theorem KT.tup {H : Hp} {kvs : List (List Key × V)} {xs : List (List Key × Addr × Value)} (r : KT H kvs xs) : ∀ x ∈ xs, H x.2.1 = some (.tup (x.1.map kV)) := by
 induction r with
 | nil => intro x hx; cases hx
 | cons h t ih =>
   intro x hx
   rcases List.mem_cons.mp hx with rfl | hx
   ·rw [← h.1]; exact h.2.1
   ·exact ih x hx
end BX
namespace BX
open PySem PySem.Spec PyProof.Rows L2
end BX
namespace BX
open PySem PySem.Spec PyProof.Rows L2
end BX
namespace BX
open PySem PySem.Spec PyProof.Rows L2
end BX
namespace BX
open PySem PySem.Spec PyProof.Rows L2
def movL : List R → En → List Nat → (List D → Prop) → Prop
 | [], _, _, k => k []
 | .sl i :: rs, env, mv, k => match env[i]? with
   | some (some (d, .own)) => i ∉ mv ∧ movL rs env (i :: mv) fun ds => k (d :: ds)
   | _ => False
 | .tmp d :: rs, env, mv, k => movL rs env mv fun ds => k (d :: ds)
 | .ro c d :: rs, env, mv, k => c = false ∧ d.imm = true ∧ movL rs env mv fun ds => k (d :: ds)
end BX
namespace BX
open PySem PySem.Spec PyProof.Rows L2 RT
def roMm (p : D × Md) : D × Md := (p.1, if p.2.rd then p.2 else .ro)
def YX (env : En) : En := env.map (Option.map roMm)
def dLkW (i : Nat) (t : XE) : XE := fun env Q => match env[i]? with
 | some (some (.dT kvs, m)) => m.rd = false ∧ immL (kvs.map (·.2)) = true ∧ t ((YX env).set i (some (.dF kvs, .own))) fun r _ => match r with
   | .tmp (.lst xs) => immL xs = true ∧ Q (.tmp (.lst xs)) env
   | _ => False
 | _ => False
mutual
theorem Rep.keepI {K : PySem.W.Frag} {H H' : Hp} {a : Addr} (k : ∀ b o, b ≠ a → H b = some o → H' b = some o) {od : Obj} {hs : List (List Key × V)} (ha : H a = some (.frz od (.dT hs))) : ∀ {d : D} {v : V} {f : List Addr}, Rep K H 0 d v f → d.imm = true → Rep K H' 0 d v f
 | _, _, _, .non, _ => .non
 | _, _, _, .bl b, _ => .bl b
 | _, _, _, .int i, _ => .int i
 | _, _, _, .str s, _ => .str s
 | _, _, _, .tup h r, e => by
   rw [D.imm] at e
   exact .tup (k _ _ (fun z => by rw [z, ha] at h; cases h) h) (Reps.keepI k ha r e)
 | _, _, _, .tupK l h r, _ => absurd l (by omega)
 | _, _, _, .lst h r n, e => by rw [D.imm] at e; cases e
 | _, _, _, .lstF l h r, e => by rw [D.imm] at e; cases e
 | _, _, _, .dT h e' nd r n, e => by rw [D.imm] at e; cases e
 | _, _, _, .dTF l h e' nd r, e => by rw [D.imm] at e; cases e
 | _, _, _, .dF h e' nd r, e => by rw [D.imm] at e; cases e
 | _, _, _, .ob h c e' r n, e => by rw [D.imm] at e; cases e
 | _, _, _, .lF h r, e => by
   rw [D.imm] at e
   exact .lF (k _ _ (fun z => by rw [z, ha] at h; cases h) h) (Reps.keepI k ha r e)
 | _, _, _, .dK h e' nd r n, e => by rw [D.imm] at e; cases e
theorem Reps.keepI {K : PySem.W.Frag} {H H' : Hp} {a : Addr} (k : ∀ b o, b ≠ a → H b = some o → H' b = some o) {od : Obj} {hs : List (List Key × V)} (ha : H a = some (.frz od (.dT hs))) : ∀ {ds : List D} {vs : List V} {f : List Addr}, Reps K H 0 ds vs f → immL ds = true → Reps K H' 0 ds vs f
 | _, _, _, .nil, _ => .nil
 | _, _, _, .cons r t n, e => by
   rw [immL, Bool.and_eq_true] at e
   exact .cons (Rep.keepI k ha r e.1) (Reps.keepI k ha t e.2) n
end
section
variable {K : PySem.W.Frag} {σ : L2.St} {H : Hp} {env : En} {f : FA}
theorem Xc {i j : Nat} {kvs : List (List Key × D)} {p : D × Md} (hi : i < env.length) (h : ((YX env).set i (some (.dF kvs, .own)))[j]? = some (some p)) : (j = i ∧ p = (.dF kvs, .own)) ∨ (j ≠ i ∧ ∃ q, env[j]? = some (some q) ∧ p = roMm q) := by
 have hl : i < (YX env).length := by unfold YX; rw [List.length_map]; exact hi
 by_cases hj : j = i
 ·subst hj
  rw [jm hl] at h; cases h
  exact .inl ⟨rfl, rfl⟩
 ·rw [yS hj] at h
  unfold YX at h
  rw [List.getElem?_map] at h
  cases e : env[j]? with
  | none => rw [e] at h; cases h
  | some z =>
    rw [e] at h
    cases z with
    | none => cases h
    | some q => cases h; exact .inr ⟨hj, q, rfl, rfl⟩
theorem qfm (q : D × Md) : (roMm q).2.rd = true := by
 unfold roMm
 by_cases h : q.2.rd = true
 ·rw [if_pos h]; exact h
 ·rw [if_neg h]; rfl
theorem qhB {i : Nat} {kvs : List (List Key × D)} {m : Md} (A : Abs K σ H env f) (e : env[i]? = some (some (.dT kvs, m))) (hm : m.rd = false) (im : immL (kvs.map (·.2)) = true) :
 ∃ a hs, H a = some (.dT hs) ∧ f i = [a] ∧ σ[i]? = some (some (.ref a)) ∧ ∀ od, Abs K σ (L2.upd H a (.frz od (.dT hs))) ((YX env).set i (some (.dF kvs, .own))) (fset f i []) ∧ ∀ b, ¬ W ((YX env).set i (some (.dF kvs, .own))) (fset f i []) b := by
 have hl : m.lv = 0 := Md.lv_of hm
 obtain ⟨v, hv, rp⟩ := A.rep _ _ _ e
 rw [hl] at rp
 obtain ⟨a, hs, g, rfl, ha, ek, nd, rr, hf, nz⟩ := rp.dTAt (by decide)
 obtain ⟨rfl, r0⟩ := rr.imm (Nat.zero_le _) im
 have hi : i < env.length := (List.getElem?_eq_some_iff.mp e).1
 have ai : a ∈ f i := by rw [hf]; exact List.mem_cons_self ..
 refine ⟨a, hs, ha, hf, hv, fun od => ⟨⟨fun j d m' h => ?_, fun j k d m1 d' m2 hjk h1 h2 hlv b hb => ?_, by rw [List.length_set]; unfold YX; rw [List.length_map]; exact A.len⟩, fun b hb => ?_⟩⟩
 ·have keep : ∀ b o, b ≠ a → H b = some o → L2.upd H a (.frz od (.dT hs)) b = some o := fun b o hb h => by rw [upd_ne hb]; exact h
  rcases Xc hi h with ⟨rfl, hz⟩ | ⟨hj, q, hq, hz⟩
  ·cases hz
   refine ⟨_, hv, ?_⟩
   rw [yE]
   refine .dF upd_same ek nd (r0.keep fun b o h z => keep b o (fun y => ?_) h)
   rcases z with z | z
   ·simp at z
   ·rw [y, ha] at h; cases h; cases z
  ·obtain ⟨w, hw, r1⟩ := A.rep j q.1 q.2 hq
   refine ⟨w, hw, ?_⟩
   rw [wV hj]
   have up : q.2.lv ≤ m'.lv := by
    have em : m' = (roMm q).2 := congrArg Prod.snd hz
    rw [em]
    unfold roMm
    by_cases hr : q.2.rd = true
    ·simp only [hr, reduceIte]; exact Nat.le_refl _
    ·rw [Md.lv_of (by simpa using hr)]; exact Nat.zero_le _
   have ed : d = q.1 := congrArg Prod.fst hz
   rw [ed]
   refine (r1.keep fun b o hb z => keep b o (fun y => ?_) hb).up up
   subst y
   rcases z with z | z
   ·exact A.dis i j _ _ _ _ (Ne.symm hj) e hq hl b ai z
   ·rw [ha] at hb; cases hb; cases z
 ·rcases Xc hi h1 with ⟨rfl, h⟩ | ⟨hj, q, hq, h⟩
  ·rw [yE] at hb; simp at hb
  ·rw [wV hj] at hb
   rcases Xc hi h2 with ⟨rfl, h'⟩ | ⟨hk, q', hq', h'⟩
   ·rw [yE]; simp
   ·rw [wV hk]
    have lv0 : q.2.lv = 0 := by
     have em : m1 = (roMm q).2 := congrArg Prod.snd h
     rw [em] at hlv
     unfold roMm at hlv
     by_cases hr : q.2.rd = true
     ·simpa only [hr, reduceIte] using hlv
     ·exact Md.lv_of (by simpa using hr)
    exact A.dis j k q.1 q.2 q'.1 q'.2 hjk hq hq' lv0 b hb
 ·obtain ⟨j, d, m', h, hr, hb⟩ := hb
  rcases Xc hi h with ⟨rfl, h⟩ | ⟨hj, q, hq, h⟩
  ·rw [yE] at hb; simp at hb
  ·have := qfm q
   rw [← h] at this
   rw [hr] at this; cases this
end
theorem qhR {X : Cx} {e : Expr} {i : Nat} {t : XE} (ha : DE X e t) : DE X e (dLkW i t) := by
 refine ⟨⟨fun pins s σ H Q I q => ?_⟩, fun env Q Q' h q => ?_⟩
 ·obtain ⟨env, f, A, q⟩ := q
  unfold dLkW at q
  split at q
  ·rename_i kvs m he
   obtain ⟨hm, im, q⟩ := q
   obtain ⟨a, hs, hH, hf, hv, w⟩ := qhB A he hm im
   obtain ⟨od, I1⟩ := I.lock hH trivial
   obtain ⟨A1, nW⟩ := w od
   have go := ha.run.run pins s σ _ (fun v H2 => H2 a = some (.frz od (.dT hs)) ∧ Q v (L2.upd H2 a (.dT hs))) I1 ⟨_, _, A1, ha.mono _ _ _ (fun r e2 q => ?_) q⟩
   ·refine thn go fun u s1 ⟨x, H2, I2, rx, h2, q⟩ => ?_
    exact ⟨x, _, I2.unlock h2 (I.nofrz hH trivial), rx, q⟩
   ·intro v H2 f2 g A2 R2 S2 K2
    cases r with
    | tmp d =>
      cases d with
      | lst xs =>
        obtain ⟨imx, q⟩ := q
        have same : ∀ b o, L2.upd H a (.frz od (.dT hs)) b = some o → H2 b = some o := fun b o h => S2.same b o h (.inr ⟨nW b, by simp⟩)
        have h2 : H2 a = some (.frz od (.dT hs)) := same a _ upd_same
        refine ⟨h2, ?_⟩
        have all : ∀ b o, H b = some o → L2.upd H2 a (.dT hs) b = some o := fun b o h => by
         by_cases hb : b = a
         ·subst hb
          rw [upd_same, ← hH]; exact h
         ·rw [upd_ne hb]
          exact same b o (by rw [upd_ne hb]; exact h)
        cases R2 with
        | tmp rp nn =>
          obtain ⟨l, vs, g', rfl, hl, rr, rfl, _⟩ := rp.listAt
          obtain ⟨rfl, r0⟩ := rr.imm (Nat.zero_le _) imx
          have la : l ≠ a := fun z => by rw [z, h2] at hl; cases hl
          have fresh : H l = none := by
           rcases S2.own l (.inr (List.mem_cons_self ..)) with z | z | z
           ·exact absurd z (nW l)
           ·simp at z
           ·rwa [upd_ne la] at z
          have rp' : Rep X.K (L2.upd H2 a (.dT hs)) 0 (.lst xs) (.ref l) [l] := .lst (by rw [upd_ne la]; exact hl) (r0.keepI (fun b o hb h => by rw [upd_ne hb]; exact h) h2 imx) (fun _ z => by simp at z)
          refine q (.ref l) _ f [l] (A.ext all) (.tmp rp' fun b hb => ?_) ⟨fun b o h _ => all b o h, fun b hb => ?_⟩ .refl
          ·rw [List.mem_singleton.mp hb]
           refine ⟨fun z => ?_, fun z => ?_⟩
           ·obtain ⟨j, d, m', h1, _, h3⟩ := z
            obtain ⟨w, _, r1⟩ := A.rep _ _ _ h1
            obtain ⟨o, ho, _⟩ := r1.dom l h3
            rw [fresh] at ho; cases ho
           ·obtain ⟨j, d, m', h1, _, h3⟩ := z
            obtain ⟨w, _, r1⟩ := A.rep _ _ _ h1
            obtain ⟨o, ho, _⟩ := r1.dom l h3
            rw [fresh] at ho; cases ho
          ·rcases hb with hb | hb
           ·exact .inl hb
           ·rw [List.mem_singleton.mp hb]
            exact .inr (.inr fresh)
      | _ => exact q.elim
    | _ => exact q.elim
  ·exact q.elim
 ·unfold dLkW at q ⊢
  split at q
  ·refine ⟨q.1, q.2.1, ha.mono _ _ _ (fun r e q => ?_) q.2.2⟩
   cases r with
   | tmp d =>
     cases d with
     | lst xs => exact ⟨q.1, h _ _ q.2⟩
     | _ => exact q.elim
   | _ => exact q.elim
  ·exact q.elim
end BX
namespace BX
open PySem PySem.Spec PyProof.Rows L2
mutual
def toN : NK → NestedKey
 | .num i => .num i
 | .tup l => .tup (toNL l)
def toNL : List NK → List NestedKey
 | [] => []
 | k :: l => toN k :: toNL l
end
mutual
theorem Uk : ∀ {a b : NK}, toN a = toN b → a = b
 | .num i, .num j, h => by rw [toN, toN] at h; injection h with h; rw [h]
 | .tup l, .tup m, h => by rw [toN, toN] at h; injection h with h; rw [VM h]
 | .num i, .tup m, h => by rw [toN, toN] at h; cases h
 | .tup l, .num j, h => by rw [toN, toN] at h; cases h
theorem VM : ∀ {a b : List NK}, toNL a = toNL b → a = b
 | [], [], _ => rfl
 | a :: l, b :: m, h => by rw [toNL, toNL] at h; injection h with h1 h2; rw [Uk h1, VM h2]
 | [], b :: m, h => by rw [toNL, toNL] at h; cases h
 | a :: l, [], h => by rw [toNL, toNL] at h; cases h
end
mutual
theorem qap (w : World) : ∀ k : NK, NestedKey.hash w (toN k) = ZG k
 | .num i => by rw [toN, NestedKey.hash, ZG]
 | .tup l => by rw [toN, NestedKey.hash, ZG, Yy w l]
theorem Yy (w : World) : ∀ l : List NK, NestedKey.hashes w (toNL l) = ZF l
 | [] => by rw [toNL, NestedKey.hashes, ZF]
 | k :: l => by rw [toNL, NestedKey.hashes, ZF, qap w k, Yy w l]
end
mutual
theorem qcZ : ∀ k : NK, (toN k).depth = uR k
 | .num i => by rw [toN, NestedKey.depth, uR]
 | .tup l => by rw [toN, NestedKey.depth, uR, Yz l]
theorem Yz : ∀ l : List NK, NestedKey.depthAll (toNL l) = jA l
 | [] => by rw [toNL, NestedKey.depthAll, jA]
 | k :: l => by rw [toNL, NestedKey.depthAll, jA, qcZ k, Yz l]
end
def QF (P : Program) (w : World) : HeapKind P w NK where
 is h k a := (nestedKind P w).is h (toN k) a
 hash k := ZG k
 draws k := (nestedKind P w).draws (toN k)
 room := (nestedKind P w).room
 inj h1 h2 := Uk ((nestedKind P w).inj h1 h2)
 keeps h1 h2 h3 h4 := (nestedKind P w).keeps h1 h2 h3 h4
 pyHash {A E s k a Q} hr hi h := (nestedKind P w).pyHash (A := A) (E := E) (s := s) (k := toN k) (a := a) (Q := Q) hr hi (by
  have e : (nestedKind P w).hash (toN k) = ZG k := qap w k
  rw [e]; exact h)
 eqBool {A E s x y a b Q} hr h1 h2 h := (nestedKind P w).eqBool (A := A) (E := E) (s := s) (x := toN x) (y := toN y) (a := a) (b := b) (Q := Q) hr h1 h2 (by
  have e : decide (toN x = toN y) = decide (x = y) := decide_eq_decide.mpr ⟨fun z => Uk z, fun z => by rw [z]⟩
  rw [e]; exact h)
 quiet {A E s k a Q} hi h := (nestedKind P w).quiet (A := A) (E := E) (s := s) (k := toN k) (a := a) (Q := Q) hi h
section
variable {P : Program} {w : World} {H : Hp} {h : Heap}
mutual
theorem qhE (I : HOk P w H h) : ∀ {k : NK} {v : V} {u : Value}, NkV H k v → L2.RelV v u → NestedIs h (toN k) u
 | .num i, v, u, hk, r => by
   rw [NkV] at hk; subst hk
   obtain ⟨t, rfl⟩ := r
   rw [toN]; exact .int i t
 | .tup l, v, u, hk, r => by
   rw [NkV] at hk
   obtain ⟨a, vs, rfl, ha, hs⟩ := hk
   cases r
   obtain ⟨_, its, rv, o, e1, e2, n, e3⟩ := I a _ ha
   rw [toN]
   refine .tup e1 e2 e3 ?_
   have := qeT I hs rv
   simpa using this
theorem qeT (I : HOk P w H h) : ∀ {l : List NK} {vs : List V} {us : List Value}, NkVs H l vs → Vals vs us → NestedAll h (toNL l) us
 | [], vs, us, hk, r => by
   rw [NkVs] at hk; subst hk
   cases r; rw [toNL]; exact .nil
 | k :: l, vs, us, hk, r => by
   rw [NkVs] at hk
   obtain ⟨v, ws, rfl, h1, h2⟩ := hk
   cases r with
   | cons r1 r2 => rw [toNL]; exact .cons (qhE I h1 r1) (qeT I h2 r2)
end
theorem key_is (I : HOk P w H h) {k : NK} {a : Addr} (hk : NkV H k (.ref a)) (hd : uR k ≤ 8) : (QF P w).is h k a := ⟨qhE I hk rfl, by rw [qcZ]; exact hd⟩
def Kok (H : Hp) (xs : List (NK × Addr × V)) : Prop := ∀ x ∈ xs, NkV H x.1 (.ref x.2.1) ∧ uR x.1 ≤ 8
abbrev PNd (xs : List (NK × Addr × V)) (ys : List (NK × Addr × Value)) : Prop := Paired (fun p q => p.1 = q.1 ∧ p.2.1 = q.2.1 ∧ L2.RelV p.2.2 q.2.2) xs ys
theorem PNd.mem : ∀ {xs : List (NK × Addr × V)} {ys : List (NK × Addr × Value)}, PNd xs ys → ∀ y ∈ ys, ∃ x ∈ xs, x.1 = y.1 ∧ x.2.1 = y.2.1
 | _, _, .nil, y, hy => by cases hy
 | _, _, .cons (a := a) r t, y, hy => by
   rcases List.mem_cons.mp hy with rfl | hy
   ·exact ⟨a, List.mem_cons_self .., r.1, r.2.1⟩
   ·obtain ⟨x, hx, e⟩ := PNd.mem t y hy
    exact ⟨x, List.mem_cons_of_mem _ hx, e⟩
theorem PNd.keys : ∀ {xs : List (NK × Addr × V)} {ys : List (NK × Addr × Value)}, PNd xs ys → ys.map (·.1) = xs.map (·.1)
 | _, _, .nil => rfl
 | _, _, .cons r t => by rw [List.map_cons, List.map_cons, PNd.keys t, r.1]
theorem Y8 (I : HOk P w H h) {a : Addr} {xs : List (NK × Addr × V)} (ha : H a = some (NdO a xs)) (hk : Kok H xs) : xs.length ≤ sizeLine ∧ (a == sysModules) = false ∧ ∃ ys, PNd xs ys ∧ h.DictOfH (QF P w) a ys := by
 obtain ⟨⟨⟨h1, h2, h3⟩, ys, h4, o, es, ep, g1, g2, g3, g4⟩, _⟩ := (show ObjOk P w H h a (NdO a xs) from I a _ ha)
 refine ⟨h1, h2, ys, h4, o, es, ep, g1, g2, g3, g4, fun y hy => ?_, by rw [PNd.keys h4]; exact h3⟩
 obtain ⟨x, hx, e1, e2⟩ := PNd.mem h4 y hy
 obtain ⟨k1, k2⟩ := hk x hx
 rw [e1, e2] at k1
 rw [e1] at k2
 exact key_is I k1 k2
theorem qfG {U : Hp} {a : Addr} {xs : List (NK × Addr × V)} {ys : List (NK × Addr × Value)} (z : xs.length ≤ sizeLine) (hm : (a == sysModules) = false) (p : PNd xs ys) (d : h.DictOfH (QF P w) a ys) : ObjOk P w U h a (NdO a xs) := by
 obtain ⟨o, es, ep, g1, g2, g3, g4, _, g5⟩ := d
 refine ⟨⟨⟨z, hm, by rw [← PNd.keys p]; exact g5⟩, ys, p, o, es, ep, g1, g2, g3, g4⟩, ⟨o, g1⟩, ?_⟩
 rintro h1 h2 ⟨q1, ys', q2, o', es', ep', e1, e2⟩ keep
 exact ⟨q1, ys', q2, o', es', ep', keep _ e1, e2⟩
def atN (xs : List (NK × Addr × V)) (k : NK) : Option (Addr × V) := (xs.find? fun x => decide (x.1 = k)).map (·.2)
def putN (xs : List (NK × Addr × V)) (k : NK) (a : Addr) (v : V) : List (NK × Addr × V) := if (atN xs k).isSome then xs.map fun x => if x.1 = k then (x.1, x.2.1, v) else x else xs ++ [(k, a, v)]
theorem PNd.at : ∀ {xs : List (NK × Addr × V)} {ys : List (NK × Addr × Value)} (k : NK), PNd xs ys → (atN xs k = none ∧ atKey ys k = none) ∨ ∃ a v u, atN xs k = some (a, v) ∧ atKey ys k = some (a, u) ∧ L2.RelV v u
 | _, _, k, .nil => .inl ⟨rfl, rfl⟩
 | _, _, k, .cons (a := x) (b := y) r t => by
   obtain ⟨r1, r2, r3⟩ := r
   by_cases e : x.1 = k
   ·refine .inr ⟨x.2.1, x.2.2, y.2.2, ?_, ?_, r3⟩
    ·unfold atN; rw [List.find?_cons_of_pos (by exact decide_eq_true e)]; rfl
    ·unfold atKey; rw [List.find?_cons_of_pos (by exact decide_eq_true (r1 ▸ e)), r2]; rfl
   ·have e' : ¬ y.1 = k := r1 ▸ e
    have := PNd.at k t
    unfold atN atKey at this ⊢
    rw [List.find?_cons_of_neg (by simpa using e), List.find?_cons_of_neg (by simpa using e')]
    exact this
theorem PNd.put {xs : List (NK × Addr × V)} {ys : List (NK × Addr × Value)} (k : NK) (a : Addr) {v : V} {u : Value} (rv : L2.RelV v u) (p : PNd xs ys) : PNd (putN xs k a v) (storedH ys k a u) := by
 have go : ∀ {xs : List (NK × Addr × V)} {ys : List (NK × Addr × Value)}, PNd xs ys → PNd (xs.map fun x => if x.1 = k then (x.1, x.2.1, v) else x) (ys.map (putAt k u)) := fun {xs ys} p => by
  induction p with
  | nil => exact .nil
  | cons r t ih =>
    refine .cons ?_ ih
    unfold putAt
    obtain ⟨r1, r2, r3⟩ := r
    dsimp only
    split
    ·rename_i e
     rw [if_pos (r1 ▸ e)]
     exact ⟨r1, r2, rv⟩
    ·rename_i e
     rw [if_neg (r1 ▸ e)]
     exact ⟨r1, r2, r3⟩
 have app : ∀ {xs : List (NK × Addr × V)} {ys : List (NK × Addr × Value)}, PNd xs ys → PNd (xs ++ [(k, a, v)]) (ys ++ [(k, a, u)]) := fun {xs ys} p => by
  induction p with
  | nil => exact .cons ⟨rfl, rfl, rv⟩ .nil
  | cons r t ih => exact .cons r ih
 unfold putN storedH
 rcases PNd.at k p with ⟨e1, e2⟩ | ⟨b, v', u', e1, e2, _⟩
 ·rw [e1, e2]; exact app p
 ·rw [e1, e2]; exact go p
theorem qdJ {xs : List (NK × Addr × V)} {k : NK} {a : Addr} {v : V} : (putN xs k a v).length ≤ xs.length + 1 := by
 unfold putN
 split
 ·rw [List.length_map]; omega
 ·rw [List.length_append, List.length_singleton]; omega
end
section
variable {X : Cx}
theorem UW (hx : Ok X) : (QF X.prog X.w).room X.A.in1 := by
 show X.A.units + 1 + 8 < cLine
 have := hx.un
 omega
def qi4 : TSet := fun o i v H Q => ∃ a xs k b, o = .ref a ∧ i = .ref b ∧ H a = some (NdO a xs) ∧ Kok H xs ∧ NkV H k (.ref b) ∧ uR k ≤ 8 ∧ xs.length < sizeLine ∧ Q (L2.upd H a (NdO a (putN xs k b v)))
theorem qg0 (hx : Ok X) : PSet X qi4 := by
 intro pins s σ H o i v ov iv u Q I ro ri rv ⟨a, xs, k, b, eo, ei, ha, hk, kv, kd8, z, q⟩
 subst eo ei
 cases ro; cases ri
 obtain ⟨z1, hm, ys, p, d⟩ := Y8 I.hok ha hk
 refine wpAny_setItem_heap (knd := QF X.prog X.w) (UW hx) (key_is I.hok kv kd8) d (fun h' d' sb => ?_) (by rw [← p.length]; exact z1)
 have d2 := d'
 obtain ⟨o1, es, ep, g1, _⟩ := id d'
 refine ⟨L2.upd H a (NdO a (putN xs k b v)), I.write (x := a) (e := a) (by rw [ha]; exact True.intro) (.inl rfl) (fun c o2 hc e => by rw [sb.2 c hc]; exact e) ⟨o1, g1⟩ (qfG (by have := qdJ (xs := xs) (k := k) (a := b) (v := v); omega) hm (PNd.put k b rv p) d2), q⟩
def rInN (f : Bool → Bool) : R2 := fun x y H Q => ∃ a xs k b, x = .ref b ∧ y = .ref a ∧ H a = some (NdO a xs) ∧ Kok H xs ∧ NkV H k (.ref b) ∧ uR k ≤ 8 ∧ Q (.bl (f (atN xs k).isSome)) H
theorem Uz (hx : Ok X) : OpR X (compareOp .NotIn) (rInN (!·)) := by
 intro pins s σ H x y v u Q I rx ry ⟨a, xs, k, b, ex, ey, ha, hk, kv, kd8, q⟩
 subst ex ey
 cases rx; cases ry
 obtain ⟨z1, hm, ys, p, d⟩ := Y8 I.hok ha hk
 refine wpAny_notIn_heap (knd := QF X.prog X.w) (UW hx) (key_is I.hok kv kd8) hm d ?_
 have e : (atKey ys k).isSome = (atN xs k).isSome := by
  rcases PNd.at k p with ⟨e1, e2⟩ | ⟨_, _, _, e1, e2, _⟩ <;> rw [e1, e2] <;> rfl
 rw [e]
 exact ⟨.bl _, H, I.tok _, rfl, q⟩
end
end BX
namespace BX
open PySem PySem.Spec PyProof.Rows L2
mutual
def toK : D → Option NK
 | .int i => some (.num i)
 | .tup xs => (toKs xs).map .tup
 | _ => none
def toKs : List D → Option (List NK)
 | [] => some []
 | d :: ds => match toK d, toKs ds with
   | some k, some l => some (k :: l)
   | _, _ => none
end
section
variable {K : PySem.W.Frag} {H : Hp} {lv : Nat}
mutual
theorem Rep.nk : ∀ {d : D} {v : V} {f : List Addr}, Rep K H lv d v f → lv ≤ 1 → ∀ {k : NK}, toK d = some k → NkV H k v
 | _, _, _, .int i, _, k, e => by
   rw [toK] at e; cases e; rw [NkV]
 | _, _, _, .tup (ds := ds) h r, l, k, e => by
   rw [toK] at e
   cases et : toKs ds with
   | none => rw [et] at e; cases e
   | some m =>
     rw [et] at e; cases e
     rw [NkV]
     exact ⟨_, _, rfl, h, Reps.nk r l et⟩
 | _, _, _, .tupK l' h r, l, k, e => absurd l' (by omega)
 | _, _, _, .non, _, k, e => by simp [toK] at e
 | _, _, _, .bl b, _, k, e => by simp [toK] at e
 | _, _, _, .str s, _, k, e => by simp [toK] at e
 | _, _, _, .lst h r n, _, k, e => by simp [toK] at e
 | _, _, _, .lstF l h r, _, k, e => by simp [toK] at e
 | _, _, _, .dT h e' nd r n, _, k, e => by simp [toK] at e
 | _, _, _, .dTF l h e' nd r, _, k, e => by simp [toK] at e
 | _, _, _, .dF h e' nd r, _, k, e => by simp [toK] at e
 | _, _, _, .lF h r, _, k, e => by simp [toK] at e
 | _, _, _, .ob h c e' r n, _, k, e => by simp [toK] at e
 | _, _, _, .ex h c e' z, _, k, e => by simp [toK] at e
 | _, _, _, .dK h e' nd r n, _, k, e => by simp [toK] at e
 | _, _, _, .dN h e' nd kk r n, _, k, e => by simp [toK] at e
theorem Reps.nk : ∀ {ds : List D} {vs : List V} {f : List Addr}, Reps K H lv ds vs f → lv ≤ 1 → ∀ {m : List NK}, toKs ds = some m → NkVs H m vs
 | _, _, _, .nil, _, m, e => by
   rw [toKs] at e; cases e; rw [NkVs]
 | _, _, _, .cons (d := d) (ds := ds) r t n, l, m, e => by
   rw [toKs] at e
   cases e1 : toK d with
   | none => rw [e1] at e; cases e
   | some k =>
     cases e2 : toKs ds with
     | none => rw [e1, e2] at e; cases e
     | some l' =>
       rw [e1, e2] at e; cases e
       rw [NkVs]
       exact ⟨_, _, rfl, Rep.nk r l e1, Reps.nk t l e2⟩
end
end
def keyN (d : D) (k : NK → Prop) : Prop := match toK d with
 | some (.tup l) => uR (.tup l) ≤ 8 ∧ k (.tup l)
 | _ => False
theorem vG {d : D} {k k' : NK → Prop} (h : ∀ x, k x → k' x) (q : keyN d k) : keyN d k' := by
 unfold keyN at q ⊢
 split at q
 ·exact ⟨q.1, h _ q.2⟩
 ·exact q.elim
theorem Xh {K : PySem.W.Frag} {H : Hp} {d : D} {v : V} {f : List Addr} {k : NK → Prop} (r : Rep K H 1 d v f) (q : keyN d k) : ∃ b x, v = .ref b ∧ NkV H x (.ref b) ∧ uR x ≤ 8 ∧ k x := by
 unfold keyN at q
 split at q
 ·rename_i l e
  have h := r.nk (Nat.le_refl _) e
  have h' := h
  rw [NkV] at h'
  obtain ⟨a, vs, rfl, _⟩ := h'
  exact ⟨a, _, rfl, h, q.1, q.2⟩
 ·exact q.elim
def hasN (kvs : List (NK × D)) (k : NK) : Bool := kvs.any fun p => decide (p.1 = k)
def qcy (kvs : List (NK × D)) (k : NK) : Option D := (kvs.find? fun p => decide (p.1 = k)).map (·.2)
theorem qdk : ∀ {xs : List (NK × Addr × V)} {kvs : List (NK × D)} {k : NK}, xs.map (·.1) = kvs.map (·.1) → (atN xs k).isSome = hasN kvs k
 | [], [], _, _ => rfl
 | [], _ :: _, _, e => by simp at e
 | _ :: _, [], _, e => by simp at e
 | x :: xs, p :: kvs, k, e => by
   rw [List.map_cons, List.map_cons, List.cons.injEq] at e
   unfold atN hasN
   rw [List.any_cons]
   by_cases h : x.1 = k
   ·rw [List.find?_cons_of_pos (by exact decide_eq_true h), decide_eq_true (e.1 ▸ h)]; rfl
   ·rw [List.find?_cons_of_neg (by simpa using h), decide_eq_false (e.1 ▸ h), Bool.false_or]
    exact qdk e.2
theorem qaI {K : PySem.W.Frag} {H : Hp} {lv : Nat} : ∀ {xs : List (NK × Addr × V)} {kvs : List (NK × D)} {k : NK} {f : List Addr} {d : D}, xs.map (·.1) = kvs.map (·.1) → Reps K H lv (kvs.map (·.2)) (xs.map (·.2.2)) f → qcy kvs k = some d → ∃ b v g, atN xs k = some (b, v) ∧ Rep K H lv d v g
 | [], [], _, _, _, _, _, e => by cases e
 | [], _ :: _, _, _, _, e, _, _ => by simp at e
 | _ :: _, [], _, _, _, e, _, _ => by simp at e
 | x :: xs, p :: kvs, k, f, d, e, r, h => by
   rw [List.map_cons, List.map_cons, List.cons.injEq] at e
   rw [List.map_cons, List.map_cons] at r
   cases r with
   | cons r1 rt n =>
     unfold qcy at h
     unfold atN
     by_cases z : x.1 = k
     ·rw [List.find?_cons_of_pos (by exact decide_eq_true (e.1 ▸ z))] at h
      cases h
      rw [List.find?_cons_of_pos (by exact decide_eq_true z)]
      exact ⟨_, _, _, rfl, r1⟩
     ·rw [List.find?_cons_of_neg (by simpa using (e.1 ▸ z))] at h
      rw [List.find?_cons_of_neg (by simpa using z)]
      exact qaI e.2 rt h
def prN (x : NK × Addr × V) : NK × V := (x.1, x.2.2)
theorem qfs {xs : List (NK × Addr × V)} {k : NK} {b : Addr} {v : V} : (putN xs k b v).map prN = putK (xs.map prN) k v := by
 have hs : (atN xs k).isSome = (xs.map prN).any fun p => decide (p.1 = k) := by
  unfold atN
  induction xs with
  | nil => rfl
  | cons x xs ih =>
    rw [List.map_cons, List.any_cons]
    by_cases z : x.1 = k
    ·rw [List.find?_cons_of_pos (by exact decide_eq_true z), decide_eq_true (show (prN x).1 = k from z)]; rfl
    ·rw [List.find?_cons_of_neg (by simpa using z), decide_eq_false (show ¬ (prN x).1 = k from z), Bool.false_or]; exact ih
 unfold putN putK
 rw [hs]
 split
 ·rw [List.map_map, List.map_map]
  refine List.map_congr_left fun x _ => ?_
  show prN (if x.1 = k then (x.1, x.2.1, v) else x) = if (prN x).1 = k then ((prN x).1, v) else prN x
  by_cases z : x.1 = k
  ·rw [if_pos z, if_pos (show (prN x).1 = k from z)]; rfl
  ·rw [if_neg z, if_neg (show ¬ (prN x).1 = k from z)]
 ·rw [List.map_append]; rfl
theorem qfU {H : Hp} {xs : List (NK × Addr × V)} {k : NK} {b : Addr} {v : V} (h : Kok H xs) (hk : NkV H k (.ref b)) (hd : uR k ≤ 8) : Kok H (putN xs k b v) := fun x hx => by
 unfold putN at hx
 split at hx
 ·obtain ⟨y, hy, rfl⟩ := List.mem_map.mp hx
  by_cases z : y.1 = k
  ·rw [if_pos z]; exact h y hy
  ·rw [if_neg z]; exact h y hy
 ·rcases List.mem_append.mp hx with hx | hx
  ·exact h x hx
  ·rw [List.mem_singleton.mp hx]; exact ⟨hk, hd⟩
theorem qd6 {H H' : Hp} {xs : List (NK × Addr × V)} (h : Kok H xs) (k : ∀ b o, H b = some o → Mu o = false → H' b = some o) : Kok H' xs := fun x hx => ⟨(h x hx).1.keep k, (h x hx).2⟩
section
variable {X : Cx} {pos : Pos}
theorem qhn (I : L2.HOk X.prog X.w H h) (hb : sysModules < h.objs.size) {U : Hp} : ObjOk X.prog X.w U (h.push { cls := .type "dict", data := .dict #[] }) h.objs.size (NdO h.objs.size []) :=
 qfG (ys := []) (Nat.zero_le _) (beq_eq_false_iff_ne.mpr (Nat.ne_of_gt hb)) .nil (Heap.DictOfH.new h)
end
def Y6 (n : Bool) (d1 d2 : D) (k : D → Prop) : Prop := match d2 with
 | .dN kvs => keyN d1 fun key => k (.bl (n != hasN kvs key))
 | _ => False
def idxN (d1 d2 : D) (k : D → Prop) : Prop := match d1 with
 | .dN kvs => keyN d2 fun key => ∃ d, qcy kvs key = some d ∧ d.imm = true ∧ k d
 | _ => False
theorem qdT {n : Bool} : Qq (Y6 n) := fun d1 d2 k k' h q => by
 unfold Y6 at q ⊢
 split at q
 ·exact vG (fun x z => h _ z) q
 ·exact q.elim
theorem Jh : Qq idxN := fun d1 d2 k k' h q => by
 unfold idxN at q ⊢
 split at q
 ·exact vG (fun x ⟨d, a, b, c⟩ => ⟨d, a, b, h _ c⟩) q
 ·exact q.elim
section
variable {X : Cx}
theorem qfx (hx : Ok X) : OpD X (compareOp .NotIn) 1 (Y6 true) := .mk' (fun pins s σ H x y v u Q d1 d2 g1 g2 I rx ry r1 r2 q => by
 unfold Y6 at q
 split at q
 ·obtain ⟨a, xs, g, rfl, ha, ek, nd, kok, rr, _, _⟩ := r2.dNAt
  obtain ⟨b, key, rfl, hk, hd, q⟩ := Xh r1 q
  refine Uz hx pins s σ H _ _ v u Q I rx ry ⟨a, xs, key, b, rfl, rfl, ha, kok, hk, hd, ?_⟩
  rw [qdk ek]
  simp only [Bool.true_bne] at q
  exact q _ H [] (.bl _) ⟨fun b o h => h, fun b hb => by simp at hb⟩
 ·exact q.elim) qdT
theorem qjm (hx : Ok X) : IxR X (rOp X.K 1 idxN) := by
 intro value slice pins s σ H x y v u Q I rx ry h hs
 obtain ⟨d1, d2, g1, g2, r1, r2, q⟩ := h
 unfold idxN at q
 split at q
 ·obtain ⟨a, xs, g, rfl, ha, ek, nd, kok, rr, _, _⟩ := r1.dNAt
  obtain ⟨b, key, rfl, hk, hd, d, ed, im, q⟩ := Xh r2 q
  obtain ⟨c, w, g3, e1, rw1⟩ := qaI ek rr ed
  obtain ⟨_, rw0⟩ := rw1.imm (Nat.le_refl _) im
  cases rx; cases ry
  obtain ⟨z1, hm, ys, p, dd⟩ := Y8 I.hok ha kok
  rcases PNd.at key p with ⟨e2, _⟩ | ⟨c', w', u', e2, e3, rv⟩
  ·rw [e1] at e2; cases e2
  ·rw [e1] at e2; cases e2
   refine Zf dd.typeIs PySem.F.slot_dict_getitem.lookup ?_ hs
   exact wpAny_getItem_heap (knd := QF X.prog X.w) (UW hx) (key_is I.hok hk hd) dd e3 ⟨w, H, I.tok _, rv, q w H [] rw0 ⟨fun b o h => h, fun b hb => by simp at hb⟩⟩
 ·exact q.elim
def qem (ta tb : XE) : XE := dBin 1 idxN ta tb
variable {a b : Expr} {ta tb : XE} {pos : Pos}
theorem qc3 (hx : Ok X) (ha : DE X a ta) (hb : DE X b tb) (hs : PlainIx b := by intro _ _; rfl) : DE X (.Subscript a b pos) (qem ta tb) :=
 ⟨PE.imp (pe_ix (qjm hx) ha.run hb.run hs) fun σ H Q q => QX Jh ha.mono hb.mono q, QW Jh ha.mono hb.mono⟩
end
end BX
namespace BX
open PySem PySem.Spec PyProof.Rows L2
section
variable {K : PySem.W.Frag} {σ : L2.St} {H : Hp} {env : En} {f : FA} {d : D} {m : Md} {i : Nat} {G G' fp' : List Addr}
theorem qhV {kvs : List (NK × D)} {hs : List (NK × Addr × V)} {ho : HO} {a : Addr} {fp : List Addr} (A : Abs K σ H env f) (e : env[i]? = some (some (d, m))) (hm : m.rd = false) (hl : m.lv = 0) (hv : σ[i]? = some (some (.ref a)))
 (ha : H a = some ho) (mo : Mu ho = true) (hf : f i = a :: fp) (nfp : a ∉ fp) (ek : hs.map (·.1) = kvs.map (·.1)) (nd : (kvs.map (·.1)).Nodup) (kk : Kok H hs) (r : Reps K H 0 (kvs.map (·.2)) (hs.map (·.2.2)) fp') (sub : ∀ b ∈ fp', b ∈ fp ∨ b ∈ G) (hG : ∀ b ∈ G, ¬ L0 env f b ∧ ¬ Ro env f b)
 (hG' : ∀ b ∈ G', (b ∈ fp ∨ b ∈ G) ∧ b ∉ fp') :
 Abs K σ (upd H a (NdO a hs)) (env.set i (some (.dN kvs, m))) (fset f i (a :: fp')) ∧ Stp H env f G (upd H a (NdO a hs)) (env.set i (some (.dN kvs, m))) (fset f i (a :: fp')) G' ∧ Kp env f (env.set i (some (.dN kvs, m))) (fset f i (a :: fp')) ∧
  (∀ b ∈ G', ¬ L0 (env.set i (some (.dN kvs, m))) (fset f i (a :: fp')) b ∧ ¬ Ro (env.set i (some (.dN kvs, m))) (fset f i (a :: fp')) b) := by
 have aG : a ∉ G := fun z => (hG a z).1 ⟨i, d, m, e, hl, by rw [hf]; exact List.mem_cons_self ..⟩
 have afp' : a ∉ fp' := fun z => (sub a z).elim nfp aG
 refine A.mut e hm hv (fun b o hb n => ?_) ?_ (fun b hb => ?_) hG fun b hb => ⟨?_, fun z => ?_⟩
 ·have : b ≠ a := fun z => n (by rw [hf, z]; exact List.mem_cons_self ..)
  rw [upd_ne this]; exact hb
 ·rw [hl]
  refine .dN upd_same ek nd (qd6 kk fun b o hb q => ?_) (r.keep fun b o hb q => ?_) fun _ => afp'
  ·have : b ≠ a := fun z => by
    subst z
    rw [ha] at hb; cases hb; rw [mo] at q; cases q
   rw [upd_ne this]; exact hb
  ·have : b ≠ a := fun z => by
    subst z
    rcases q with q | q
    ·exact afp' q
    ·rw [ha] at hb; cases hb; rw [mo] at q; cases q
   rw [upd_ne this]; exact hb
 ·rcases List.mem_cons.mp hb with rfl | hb
  ·exact .inl (by rw [hf]; exact List.mem_cons_self ..)
  ·rcases sub b hb with z | z
   ·exact .inl (by rw [hf]; exact List.mem_cons_of_mem _ z)
   ·exact .inr (.inl z)
 ·rcases (hG' b hb).1 with z | z
  ·exact .inl (by rw [hf]; exact List.mem_cons_of_mem _ z)
  ·exact .inr (.inl z)
 ·rcases List.mem_cons.mp z with rfl | z
  ·exact (hG' b hb).1.elim nfp aG
  ·exact (hG' b hb).2 z
end
theorem qeK (xs : List (NK × Addr × V)) : (xs.map prN).map (·.1) = xs.map (·.1) := by rw [List.map_map]; rfl
theorem qeJ (xs : List (NK × Addr × V)) : (xs.map prN).map (·.2) = xs.map (·.2.2) := by rw [List.map_map]; rfl
def qb5 (ro : R) (di d : D) (e : En) (nx : En → Prop) : Prop := chg ro e fun i dd m => match dd with
 | .dN kvs => keyN di fun k => kvs.length < sizeLine ∧ nx (e.set i (some (.dN (putD k d kvs), m)))
 | _ => False
def qdF (te to ti : XE) : XS := fun env nx _ => te env fun r e1 => to e1 fun ro e2 => ti e2 fun ri e3 => stor r e3 fun d => rd 1 ri e3 fun di => qb5 ro di d e3 nx
theorem qa5 {ro : R} {di d : D} {e : En} {k k' : En → Prop} (h : ∀ e, k e → k' e) (q : qb5 ro di d e k) : qb5 ro di d e k' := W8 (fun i dd m q => by
 split at q
 ·exact vG (fun x z => ⟨z.1, h _ z.2⟩) q
 ·exact q.elim) q
section
variable {X : Cx} {o i e : Expr} {te to ti : XE} {pos tpos : Pos}
theorem qcX (hx : Ok X) (he : DE X e te) (ho : DE X o to) (hi : DE X i ti) (hs : swapsWithSole [.Subscript o i tpos] e pos.line X.env = pure false := by rfl) (hw : swappedStores [.Subscript o i tpos] e X.env = pure none := by rfl)
 (h1 : (assignEach [.Subscript o i tpos] X.env).map (·.2) = [assign (.Subscript o i tpos) X.env] := by rfl)
 (ha : ∀ v, assign (.Subscript o i tpos) X.env v = (do
  let ov ← holding [v] (eval o X.env)
  let iv ← holding [v, ov] (eval i X.env)
  standAt tpos
  holding [v, ov, iv] (setItem ov iv v)
  release [v, ov, iv] []) := by intro _; rfl) : DS X (.Assign [.Subscript o i tpos] e pos) (qdF te to ti) := by
 refine ⟨PS.imp (ps_asg he.run (pg_sub ho.run hi.run (qg0 hx) ha) hs hw h1) fun D σ H q => ?_, fun env nx nx' rt rt' h h' q => he.mono _ _ _ (fun r e q => ho.mono _ _ _ (fun r e q => hi.mono _ _ _ (fun r e q => jM (fun d q => qQ (fun d q => qa5 h q) q) q) q) q) q⟩
 obtain ⟨env, f, A, q⟩ := q
 refine ⟨env, f, A, he.mono _ _ _ (fun r e1 q => ?_) q⟩
 intro v H1 f1 g1 A1 R1 S1 K1
 refine ⟨e1, f1, A1, ho.mono _ _ _ (fun ro e2 q => ?_) q⟩
 intro vo H2 f2 g2 A2 R2 S2 K2
 refine ⟨e2, f2, A2, hi.mono _ _ _ (fun ri e3 q => ?_) q⟩
 intro vi H3 f3 g3 A3 R3 S3 K3
 obtain ⟨R1', n1⟩ := R1.wait A1 S2 K2
 obtain ⟨R1'', n1'⟩ := R1'.wait A2 S3 K3
 obtain ⟨R2', n2⟩ := R2.wait A2 S3 K3
 have S : Stp H env f [] H3 e3 f3 g1 := ((S1.trans ((S2.drop (G2 := []) fun _ z => by simp at z).frame g1)).drop (G2 := g1) (fun b hb => by simpa using hb)).trans ((S3.drop (G2 := []) fun _ z => by simp at z).frame g1) |>.drop fun b hb => by simpa using hb
 have Kk := (K1.trans K2).trans K3
 obtain ⟨d, rd1, q, nn⟩ := Qg A3 R1'' q
 obtain ⟨di, gi, rpi, q⟩ := yx A3 R3 q
 obtain ⟨n, dd, m, en, hm, hl, hv, rp, rfl, q⟩ := qaB A3 R2' q
 split at q
 ·obtain ⟨a, xs, fp, rfl, hH, ek, nd, kok, rr, hf, nfp⟩ := rp.dNAt
  obtain ⟨b, k, rfl, hk, hd, z, q⟩ := Xh rpi q
  have dj : ∀ b ∈ fp, b ∉ g1 := fun b hb z => (nn b z).1 ⟨n, _, m, en, hl, by rw [hf]; exact List.mem_cons_of_mem _ hb⟩
  have ekp : (xs.map prN).map (·.1) = _ := (qeK xs).trans ek
  obtain ⟨fp', r', s'⟩ := WW (k := k) (hs := xs.map prN) rd1 ekp (by rw [qeJ]; exact rr) dj
  have ndh : ((xs.map prN).map (·.1)).Nodup := by rw [ekp]; exact nd
  have e1 : (putN xs k b v).map prN = putV k v (xs.map prN) := by rw [qfs, qb6 ndh]
  obtain ⟨A4, S4, K4, _⟩ := qhV (G := g1) (G' := []) (hs := putN xs k b v) A3 en hm hl hv hH qdR hf (nfp rfl) (by rw [← qeK, e1]; exact WY k v d ekp) (vN nd) (qfU kok hk hd) (by rw [← qeJ, e1]; exact r') s' nn qF
  have hlen := congrArg List.length ek
  rw [List.length_map, List.length_map] at hlen
  exact ⟨a, xs, k, b, rfl, rfl, hH, kok, hk, hd, by rw [hlen]; exact z, q σ _ _ A4 (S.trans S4) (Kk.trans K4).kq⟩
 ·exact q.elim
end
def qgY (tk tv : TE) : TE := fun σ H Q => ∀ p, H p = none → tk σ (L2.upd H p (NdO p [])) fun x H1 => tv σ H1 fun y H2 => H2 p = some (NdO p []) ∧ ∃ (b : Addr) (k : NK), x = .ref b ∧ NkV H2 k (.ref b) ∧ uR k ≤ 8 ∧ Q (.ref p) (L2.upd H2 p (NdO p [(k, b, y)]))
theorem qdL {X : Cx} {k v : Expr} {tk tv : TE} {pos : Pos} (hx : Ok X) (hk : PE X k tk) (hv : PE X v tv) : PE X (.Dict [some k] [v] pos) (qgY tk tv) := by
 refine ⟨fun pins s σ H Q I q => ?_⟩
 have hn := I.hok.fresh (Nat.le_refl s.heap.objs.size)
 have I1 := I.laid (a := s.heap.objs.size) (o := NdO s.heap.objs.size []) (h' := s.heap.push { cls := .type "dict", data := .dict #[] }) (t' := s.toks) (fun _ _ q => Heap.get?_push_of_some _ q) (Nat.le_refl _) (qhn I.hok I.big)
 rw [arm_eval_Dict, zip_pairTrees [some k] [v] X.env pos rfl rfl, dictDisplay_pairs (pairTrees [some k] [v] X.env pos) (fun z => nomatch z) (by show 1 < 17; decide)]
 refine wpAny_bind (wpAny_standAt (wpAny_bind (wpAny_subDictH (knd := QF X.prog X.w) (show X.A.units + 8 < cLine by have := hx.un; omega) (by show 1 ≤ 15; decide) ?_)))
 refine pairTrees_cons_walk (thn (hk.run pins _ σ _ _ I1 (q _ hn)) fun u s1 ⟨x, H1, I2, rx, q1⟩ => thn (hv.run pins s1 σ H1 _ I2 q1) fun w2 s2 ⟨y, H2, I3, ry, q2⟩ => pairTrees_nil_walk ?_)
 obtain ⟨hp, b, ks, rfl, hb, hd8, q3⟩ := q2
 obtain rfl : u = Value.ref b := rx
 obtain ⟨z, hd, xs, rel, dd⟩ := Y8 I3.hok hp (fun _ z => by cases z)
 cases rel
 refine ⟨[(ks, b, w2)], ⟨rfl, rfl, key_is I3.hok hb hd8, True.intro⟩, dd, fun h' tk dd' hs => ?_⟩
 have dd' : h'.DictOfH (QF X.prog X.w) s.heap.objs.size [(ks, b, w2)] := dd'
 obtain ⟨o, es, ep, hq, _⟩ := id dd'
 exact wpAny_pure ⟨.ref s.heap.objs.size, _, I3.write (x := s.heap.objs.size) (e := s.heap.objs.size) (by rw [hp]; exact True.intro) (.inl rfl) (fun c o2 hc e => by rw [hs.2 c hc]; exact e) ⟨o, hq⟩ (qfG (xs := [(ks, b, y)]) (by show 1 ≤ sizeLine; decide) hd (.cons ⟨rfl, rfl, ry⟩ .nil) dd'), rfl, q3⟩
def qaz (tk tv : XE) : XE := fun env Q => tk env fun r1 e1 => tv e1 fun r2 e2 => rd 1 r1 e2 fun d1 => stor r2 e2 fun d2 => keyN d1 fun k => d2.imm = true ∧ Q (.tmp (.dN [(k, d2)])) e2
section
variable {X : Cx} {k v : Expr} {tk tv : XE} {pos : Pos}
theorem qax (hx : Ok X) (hk : DE X k tk) (hv : DE X v tv) : DE X (.Dict [some k] [v] pos) (qaz tk tv) := by
 refine ⟨PE.imp (qdL hx hk.run hv.run) fun σ H Q q => ?_, fun env Q Q' h q => hk.mono _ _ _ (fun r1 e1 q => hv.mono _ _ _ (fun r2 e2 q => qQ (fun d1 q => jM (fun d2 q => vG (fun x z => ⟨z.1, h _ _ z.2⟩) q) q) q) q) q⟩
 obtain ⟨env, f, A, q⟩ := q
 intro p hp
 have ex : ∀ b o, H b = some o → L2.upd H p (NdO p []) b = some o := fun b o h => by rw [upd_ne (ne_of_none h hp)]; exact h
 have A' := A.ext ex
 have hpp : L2.upd H p (NdO p []) p = some (NdO p []) := upd_same
 refine ⟨env, f, A', hk.mono _ _ _ (fun r1 e1 q1 => ?_) q⟩
 intro x H1 f1 g1 A1 R1 S1 K1
 refine ⟨e1, f1, A1, hv.mono _ _ _ (fun r2 e2 q2 => ?_) q1⟩
 intro y H2 f2 g2 A2 R2 S2 K2
 obtain ⟨R1', n⟩ := R1.wait A1 S2 K2
 have S := S1.trans (S2.frame g1)
 have Kk := K1.trans K2
 have nl : ¬ L0 env f p := fun z => let ⟨o, ho, _⟩ := A.ldom z; by rw [hp] at ho; cases ho
 have nr : ¬ Ro env f p := fun z => let ⟨o, ho, _⟩ := A.rdom z; by rw [hp] at ho; cases ho
 have nw : ¬ W e2 f2 p := fun z => by
  rcases S.own p (.inl z) with y | y | y
  ·exact nl y.l0
  ·simp at y
  ·rw [hpp] at y; cases y
 have nl2 : ¬ L0 e2 f2 p := fun z => (Kk.l0 z).elim nw nl
 have nr2 : ¬ Ro e2 f2 p := fun z => nr (Kk.ro' z)
 have h2p : H2 p = some (NdO p []) := S.same p _ hpp (.inr ⟨fun z => nl z.l0, by simp⟩)
 obtain ⟨d1, g1', rp1, q2⟩ := yx A2 R1' q2
 obtain ⟨d2, rp2, q2, _⟩ := Qg A2 R2 q2
 obtain ⟨b, ks, rfl, hb, hd8, him, q2⟩ := Xh rp1 q2
 obtain ⟨_, r0⟩ := rp2.imm (Nat.zero_le _) him
 refine ⟨h2p, b, ks, rfl, hb, hd8, ?_⟩
 have kp : ∀ c o, H2 c = some o → Mu o = false → L2.upd H2 p (NdO p [(ks, b, y)]) c = some o := fun c o hc z => by
  have : c ≠ p := fun w => by
   subst w
   rw [h2p] at hc; cases hc; rw [qdR] at z; cases z
  rw [upd_ne this]; exact hc
 have r1 : Rep X.K (L2.upd H2 p (NdO p [(ks, b, y)])) 0 d2 y [] := r0.keep fun c o hc z => z.elim (fun z => by simp at z) (kp c o hc)
 have rd : Rep X.K (L2.upd H2 p (NdO p [(ks, b, y)])) 0 (.dN [(ks, d2)]) (.ref p) [p] := .dN upd_same rfl (by simp) (fun x hx => by rw [List.mem_singleton.mp hx]; exact ⟨hb.keep kp, hd8⟩) (.cons (f := []) (g := []) r1 .nil fun _ _ z => by cases z) (fun _ z => by cases z)
 refine q2 _ _ f2 [p] (A2.off h2p qdR ⟨nl2, nr2⟩) (.tmp rd fun c hc => ?_) ⟨fun c o hc z => ?_, fun c z => ?_⟩ Kk
 ·rw [List.mem_singleton.mp hc]; exact ⟨nl2, nr2⟩
 ·have : c ≠ p := fun w => by rw [w, hp] at hc; cases hc
  rw [upd_ne this]
  exact S.same c o (ex c o hc) z
 ·rcases z with z | z
  ·rcases S.own c (.inl z) with y | y | y
   ·exact .inl y
   ·simp at y
   ·by_cases w : c = p
    ·rw [w]; exact .inr (.inr hp)
    ·rw [upd_ne w] at y; exact .inr (.inr y)
  ·rw [List.mem_singleton.mp z]; exact .inr (.inr hp)
end
end BX
namespace BX
open PySem PySem.Spec PyProof.Rows L2 RT L2.DX
end BX
namespace BX
open PySem PySem.Spec PyProof.Rows L2
end BX
namespace BX
open PySem PySem.Spec PyProof.Rows L2 RT PySem.W
structure MinDs (xs : List D) : Prop where
 imm : immL xs = true
 alike : AlikeAll (xs.map D.py)
 lay : ∀ d ∈ xs, d.py.canLay0 = true
 deep : PyData.depthAll (xs.map D.py) ≤ 40
def qbo (d : D) (k : D → Prop) : Prop := match d with
 | .lst (x :: xs) => MinDs (x :: xs) ∧ ∀ d ∈ x :: xs, d.py = minD x.py (xs.map D.py) → k d
 | _ => False
theorem readsAll_each {h : Heap} {α : Type} {f : α → PyData} : ∀ {vs : List Value} {xs : List α}, EachIs (fun v b => ∃ as, Reads h v (f b) as) vs xs → ∃ as, ReadsAll h vs (xs.map f) as
 | _, _, .nil => ⟨_, .nil⟩
 | _, _, .cons ⟨_, r⟩ t => by
   obtain ⟨as, q⟩ := readsAll_each t
   exact ⟨_, .cons r q⟩
theorem qcS {α β : Type} {R : α → β → Prop} : ∀ {as : List α} {bs : List β}, EachIs R as bs → ∀ {i : Nat} {a : α}, as[i]? = some a → ∃ b, b ∈ bs ∧ R a b
 | _, _, .nil, _, _, h => by simp at h
 | _, _, .cons (a := a') h t, 0, a, e => by
   have e : some a' = some a := e
   cases e
   exact ⟨_, List.mem_cons_self, h⟩
 | _, _, .cons h t, i + 1, a, e => by
   obtain ⟨b, m, r⟩ := qcS t (i := i) (a := a) (by simpa using e)
   exact ⟨b, List.mem_cons_of_mem _ m, r⟩
theorem qbZ {h : Heap} {v : Value} {d d' : PyData} {as bs : List Addr} (l : d.canLay0 = true) (l' : d'.canLay0 = true) (r : Reads h v d as) (r' : Reads h v d' bs) : d = d' := by
 have e1 := SeqAt.readsAll_map [d] [v] _ (by simp [PyData.canLayAll0, l]) (.cons r .nil)
 have e2 := SeqAt.readsAll_map [d'] [v] _ (by simp [PyData.canLayAll0, l']) (.cons r' .nil)
 have e := e1.symm.trans e2
 injection e
theorem qdW (x : PyData) : ∀ xs : List PyData, minD x xs ∈ x :: xs := fun xs => by
 have : ∀ (xs : List PyData) (a : PyData), xs.foldl (fun a y => if dataLt y a then y else a) a ∈ a :: xs := fun xs => by
  induction xs with
  | nil => intro a; exact List.mem_cons_self
  | cons y ys ih =>
    intro a
    rw [List.foldl_cons]
    have := ih (if dataLt y a then y else a)
    rcases List.mem_cons.mp this with h | h
    ·rw [h]
     split
     ·simp
     ·simp
    ·exact List.mem_cons_of_mem _ (List.mem_cons_of_mem _ h)
 exact this xs x
section
variable {X : Cx}
theorem qgk (hx : Ok X) : CallD X (.builtin "min") 1 (op1 qbo) := Wh (by decide) (fun pins s σ H x us Q d g I rs r q => by
 obtain ⟨u, rfl, rx⟩ := vals1 rs
 unfold qbo at q
 split at q
 ·rename_i x xs
  obtain ⟨ok, q⟩ := q
  obtain ⟨a, vs, g', rfl, ha, ra, _⟩ := r.listAt1 (Nat.le_refl _)
  cases rx
  obtain ⟨its, rv, pl, hz⟩ := I.list (.inl (.inl ha) : SqL X.K H a vs)
  have e := Vo (Nat.le_refl _) ra ok.imm rv
  have er : EachIs (fun v b => ∃ as, Reads s.heap v (D.py b) as) its (x :: xs) := QS e fun v b hb ⟨y, rl, rp⟩ => Dp.reads I _ y v (rp.dp (ok.lay b hb)) rl
  obtain ⟨as, all⟩ := readsAll_each er
  refine min_list_data (x := x.py) (xs := xs.map D.py) (I.ok.hd hx.calm) pl.isList (by simpa using all) ok.alike (by have h1 := ok.deep; have := hx.un; rw [List.map_cons] at h1; omega) fun i v h' tk bs hv hr keep => ?_
  have hv : its[i]? = some v := by simpa using hv
  obtain ⟨b, hb, y, rl, rp⟩ := qcS e hv
  obtain ⟨cs, rb⟩ := Dp.reads I _ y v (rp.dp (ok.lay b hb)) rl
  have ly : (minD x.py (xs.map D.py)).canLay0 = true := by
   have := qdW x.py (xs.map D.py)
   rw [← List.map_cons (f := D.py)] at this
   obtain ⟨d, hd, ed⟩ := List.mem_map.mp this
   rw [← ed]; exact ok.lay d hd
  have eb : b.py = minD x.py (xs.map D.py) := qbZ (ok.lay b hb) ly (Reads.keeps keep rb) hr
  exact ⟨y, H, I.kept keep, rl, q b hb eb _ H [] rp ⟨fun b o h => h, fun b hb => by simp at hb⟩⟩
 ·exact q.elim) (fun d k k' h q => by
 unfold qbo at q ⊢
 split at q
 ·exact ⟨q.1, fun d hd e => h _ (q.2 d hd e)⟩
 ·exact q.elim)
end
end BX
namespace BX
open PySem PySem.Spec PyProof.Rows L2 RT PySem.W
def lenD : D → Nat
 | .tup xs => xs.length
 | _ => 0
def Yx : D → Bool
 | .tup _ => true
 | _ => false
def jB (xs : List D) : List D := xs.mergeSort fun a b => decide (lenD a ≤ lenD b)
def Xr (t : XE) : XE := fun env Q => t env fun r e => rd 1 r e fun d => match d with
 | .lst xs => (immL xs = true ∧ xs.all Yx = true) ∧ Q (.tmp (.lst (jB xs))) e
 | _ => False
def qdC (K : PySem.W.Frag) (t : TE) : TE := fun σ H Q => t σ H fun x H1 => ∃ xs g, Rep K H1 1 (.lst xs) x g ∧ immL xs = true ∧ xs.all Yx = true ∧ ∀ p ys, H1 p = none → Reps K H1 0 (jB xs) ys [] → Q (.ref p) (L2.upd H1 p (.lst ys))
theorem qjk (a b : Nat) : (!dataLt (PyData.int b) (PyData.int a)) = decide (a ≤ b) := by
 have e : dataLt (PyData.int b) (PyData.int a) = decide ((b : Int) < a) := by
  show dataLt (Datum.toD (b : Int)) (Datum.toD (a : Int)) = _
  rw [DatumOrd.lt_eq]; rfl
 rw [e]
 by_cases h : a ≤ b
 ·rw [decide_eq_true h, decide_eq_false (by omega)]; rfl
 ·rw [decide_eq_false h, decide_eq_true (by omega)]; rfl
section
variable {X : Cx} {e : Expr} {te : TE} {t : XE} {p p2 pos kpos : Pos}
theorem qa6 (hx : Ok X) (ha : PE X e te) (hm : X.mg "sorted" = none) (hml : X.mg "len" = none) (hg : Gl X "sorted" := by rfl) (hgl : Gl X "len" := by rfl)
 (hs : starEach [e] X.env = (false, eval e X.env) :: starEach [] X.env := by rfl) : PE X (.Call (.Name "sorted" p) [e] [{ arg := some "key", value := .Name "len" p2, pos := kpos }] pos) (qdC X.K te) := by
 refine ⟨fun pins s σ H Q I h => ?_⟩
 have hpa : PA X [e] (tCons te tNil) := pa_cons ha pa_nil hs
 refine wpAny_Call_Name_kw (ld_blt (u := .builtin "sorted") I hg hm (by decide +kernel) (callWith_kw (kws := [{ arg := some "key", value := .Name "len" p2, pos := kpos }]) (thn (hpa.run pos pins s σ H (fun xs H1 => match xs with
  | [x] => ∃ ds g, Rep X.K H1 1 (.lst ds) x g ∧ immL ds = true ∧ ds.all Yx = true ∧ ∀ p ys, H1 p = none → Reps X.K H1 0 (jB ds) ys [] → Q (.ref p) (L2.upd H1 p (.lst ys))
  | _ => False) I h) fun us s1 q1 => ?_) (by rw [hs] <;> rfl) (by rw [hs] <;> rfl) (by rfl) (by rfl)) (by decide) (by decide))
 obtain ⟨xs, H1, I1, rv, q1⟩ := q1
 cases rv with
 | nil => exact q1.elim
 | cons r1 rt =>
   cases rt with
   | cons _ _ => exact q1.elim
   | nil =>
     obtain ⟨ds, g, rp, im, tp, q⟩ := q1
     obtain ⟨a, vs, g', rfl, hv, ra, _⟩ := rp.listAt1 (Nat.le_refl _)
     cases r1
     show wpAny _ _ (evalAll ((do let v ← eval (Expr.Name (Str.ofString "len") p2) X.env; standAt pos; pure v) :: [])) _ _ s1
     refine wpAny_evalAll_cons (wpAny_bind (ld_blt (u := .builtin "len") I1 hgl hml (by decide +kernel) (wpAny_bind (wpAny_standAt (wpAny_pure (wpAny_evalAll_nil ?_)))) (by decide) (by decide)))
     show wpAny _ _ (call (.builtin "sorted") [.ref a] [(Str.ofString "key", .builtin "len")]) _ _ s1
     obtain ⟨its, rv, pl, hz⟩ := I1.list (.inl (.inl hv) : SqL X.K H1 a vs)
     have ee := Vo (Nat.le_refl _) ra im rv
     have hL : ds.length ≤ sizeLine := by rw [← qat ee, ← rv.length]; exact hz
     refine sorted_key_data (β := D) (bs := ds) (R := StF X.K H1) (b := false) (fun d => PyData.int (lenD d)) pl.isList ee (fun d hd d' hd' => ?_) (.inr fun d hd => ?_) hL (fun x hx' => ?_) rfl (fun x => rfl) (fun x => rfl) (fun v x rx hx' h tk keep => ?_) fun out c h' tk keep hnone hout hlen eo => ?_
     ·obtain ⟨x, _, rfl⟩ := List.mem_map.mp hd
      obtain ⟨y, _, rfl⟩ := List.mem_map.mp hd'
      exact DatumOrd.alike (lenD x : Int) (lenD y : Int)
     ·obtain ⟨x, _, rfl⟩ := List.mem_map.mp hd
      exact ⟨fun z => (by cases z), fun xs z => (by cases z)⟩
     ·have := hx.un
      show X.A.units + 2 + 0 < cLine
      omega
     ·obtain ⟨y, ry, rpx⟩ := rx
      have ht : Yx x = true := List.all_eq_true.mp tp x hx'
      cases x with
      | tup xs =>
        obtain ⟨t, ws, rfl, ht', rw'⟩ := rpx.tupleAt (Nat.zero_le _)
        cases ry
        obtain ⟨us, ru, hu, hzu⟩ := I1.tuple (.inl (.inl ht') : SqT X.K H1 t ws)
        have hu' : IsTup h t us.toArray := by
         obtain ⟨ob, e1, e2, n, e3⟩ := hu
         exact ⟨ob, keep _ _ e1, e2, n, e3⟩
        have el : us.length = xs.length := by rw [← ru.length, ← rw'.len]
        refine PyProof.Rows.len_tuple hu' (by have := ru.length; rw [sizeLine_eq] at hzu; simp; omega) ?_
        refine ⟨h, _, rfl, fun b o e => e, ?_⟩
        have : (us.toArray.size : Int) = (lenD (.tup xs) : Int) := by simp [lenD, el]
        rw [this]
        exact .int _ _
      | _ => cases ht
     ·have hf : H1 (s1.heap.objs.size + 1) = none := I1.hok.fresh (Nat.le_succ _)
      have e2 : ds.mergeSort (dataLe false fun d => PyData.int (lenD d)) = jB ds := by
       unfold jB
       congr 1
       funext a b
       rw [dataLe_eq]
       exact qjk _ _
      rw [e2] at eo
      obtain ⟨ys, ry, rp'⟩ := Jy (fun d x r => r) eo
      refine ⟨.ref (s1.heap.objs.size + 1), L2.upd H1 (s1.heap.objs.size + 1) (.lst ys), I1.laid (t' := tk) keep (Nat.le_succ _) ?_, rfl, q _ ys hf rp'⟩
      exact ⟨by rw [ry.length, hlen]; exact hL, out, c, ry, hout⟩
theorem qbc (hx : Ok X) (ha : DE X e t) (hm : X.mg "sorted" = none) (hml : X.mg "len" = none) (hg : Gl X "sorted" := by rfl) (hgl : Gl X "len" := by rfl)
 (hs : starEach [e] X.env = (false, eval e X.env) :: starEach [] X.env := by rfl) : DE X (.Call (.Name "sorted" p) [e] [{ arg := some "key", value := .Name "len" p2, pos := kpos }] pos) (Xr t) := by
 refine ⟨PE.imp (qa6 hx ha.run hm hml hg hgl hs) fun σ H Q q => ?_, fun env Q Q' h q => ha.mono _ _ _ (fun r e q => qQ (fun d q => ?_) q) q⟩
 ·obtain ⟨env, f, A, q⟩ := q
  refine ⟨env, f, A, ha.mono _ _ _ (fun r1 e1 q => ?_) q⟩
  intro x H1 f1 g1 A1 R1 S1 K1
  obtain ⟨d, g', rp, q⟩ := yx A1 R1 q
  split at q
  ·rename_i xs
   obtain ⟨⟨im, tp⟩, q⟩ := q
   refine ⟨xs, g', rp, im, tp, fun p ys hp ry => ?_⟩
   obtain ⟨A3, R3, S3⟩ := j8 A1 S1 (Ext.upd hp) (Qa (X := X) hp ry)
   exact q _ _ f1 _ A3 R3 S3 K1
  ·exact q.elim
 ·split at q
  ·exact ⟨q.1, h _ _ q.2⟩
  ·exact q.elim
end
theorem OpD.low {X : Cx} {fn : Value → Value → Sem Value} {op : OP} (h : OpD X fn 2 op) : OpD X fn 1 op :=
 ⟨fun pins s σ H x y v u Q I rx ry ⟨d1, d2, g1, g2, r1, r2, q⟩ => h.run pins s σ H x y v u Q I rx ry ⟨d1, d2, g1, g2, r1.up (by decide), r2.up (by decide), q⟩, h.mono⟩
theorem qh2 {n : Bool} : BlOp (Y6 n) := fun d1 d2 k q => by
 unfold Y6 at q ⊢
 split at q
 ·exact vG (fun x z => ⟨⟨_, rfl⟩, z⟩) q
 ·exact q.elim
end BX
namespace BX
open PySem PySem.Spec PyProof.Rows L2
theorem qcE {g : XG} {te : XE} {kd : Option Bool} {vs : List Nat} {k : List D → En → Prop} {E : En} (F : D → D) : ∀ (ds acc : List D), acc.length + ds.length ≤ sizeLine → k (acc ++ ds.map F) E →
 (∀ d ∈ ds, ∀ (c : Prop) (k1 : D → En → Prop), c → k1 (F d) E → g (mkI kd d) E fun e1 => te e1 fun r e3 => stor r e3 fun dd => c ∧ k1 dd (wD vs e3)) →
 lcL g xYes te kd vs ds E acc k
 | [], acc, hl, h, hs => by
   show k acc E
   simpa using h
 | d :: ds, acc, hl, h, hs => by
   rw [List.length_cons] at hl
   have q := hs d (List.mem_cons_self ..) (acc.length < sizeLine) (fun dd e => lcL g xYes te kd vs ds e (acc ++ [dd]) k) (by omega) (qcE F ds (acc ++ [F d]) (by rw [List.length_append, List.length_singleton]; omega) (by simpa using h) fun d' hd' => hs d' (List.mem_cons_of_mem _ hd'))
   have e : (fun e1 => te e1 fun r e3 => stor r e3 fun dd => acc.length < sizeLine ∧ lcL g xYes te kd vs ds (wD vs e3) (acc ++ [dd]) k) = fun e1 => xYes e1 fun b e2 => (b = true → te e2 fun r e3 => stor r e3 fun dd => acc.length < sizeLine ∧ lcL g xYes te kd vs ds (wD vs e3) (acc ++ [dd]) k) ∧ (b = false → lcL g xYes te kd vs ds (wD vs e2) acc k) :=
    funext fun e1 => propext ⟨fun z => ⟨fun _ => z, fun z => nomatch z⟩, fun z => z.1 rfl⟩
   rw [e] at q
   exact q
theorem QJ {α : Type} {g : XG} {tt : XT} {te : XE} {kd : Option Bool} {vs : List Nat} {k : List D → En → Prop} {E : En} (p : α → Bool) (F G : α → D) : ∀ (as : List α) (acc : List D), acc.length + as.length ≤ sizeLine → k (acc ++ (as.filter p).map F) E →
 (∀ a ∈ as, ∀ (c : Prop) (k1 : D → En → Prop) (k2 : En → Prop), c → (p a = true → k1 (F a) E) → (p a = false → k2 E) → g (mkI kd (G a)) E fun e1 => tt e1 fun b e2 => (b = true → te e2 fun r e3 => stor r e3 fun dd => c ∧ k1 dd (wD vs e3)) ∧ (b = false → k2 (wD vs e2))) →
 lcL g tt te kd vs (as.map G) E acc k
 | [], acc, hl, h, hs => by
   show k acc E
   simpa using h
 | a :: as, acc, hl, h, hs => by
   rw [List.length_cons] at hl
   refine hs a (List.mem_cons_self ..) (acc.length < sizeLine) (fun dd e => lcL g tt te kd vs (as.map G) e (acc ++ [dd]) k) (fun e => lcL g tt te kd vs (as.map G) e acc k) (by omega) (fun hp => ?_) (fun hp => ?_)
   ·refine QJ p F G as (acc ++ [F a]) (by rw [List.length_append, List.length_singleton]; omega) ?_ fun a' ha' => hs a' (List.mem_cons_of_mem _ ha')
    rw [List.filter_cons_of_pos hp, List.map_cons] at h
    rw [List.append_assoc, List.singleton_append]
    exact h
   ·refine QJ p F G as acc (by omega) ?_ fun a' ha' => hs a' (List.mem_cons_of_mem _ ha')
    rw [List.filter_cons_of_neg (by rw [hp]; decide)] at h
    exact h
theorem qd5 {α : Type} {g : XG} {te : XE} {kd : Option Bool} {vs : List Nat} {k : List D → En → Prop} {E : En} (F G : α → D) (as : List α) (hl : as.length ≤ sizeLine) (h : k (as.map F) E)
 (hs : ∀ a ∈ as, ∀ (c : Prop) (k1 : D → En → Prop), c → k1 (F a) E → g (mkI kd (G a)) E fun e1 => te e1 fun r e3 => stor r e3 fun dd => c ∧ k1 dd (wD vs e3)) :
 lcL g xYes te kd vs (as.map G) E [] k := by
 refine QJ (fun _ => true) F G as [] (by simpa using hl) (by rw [List.filter_eq_self.mpr (fun _ _ => rfl)]; exact h) fun a ha c k1 k2 hc h1 h2 => ?_
 have q := hs a ha c k1 hc (h1 rfl)
 have e : (fun e1 => te e1 fun r e3 => stor r e3 fun dd => c ∧ k1 dd (wD vs e3)) = fun e1 => xYes e1 fun b e2 => (b = true → te e2 fun r e3 => stor r e3 fun dd => c ∧ k1 dd (wD vs e3)) ∧ (b = false → k2 (wD vs e2)) :=
  funext fun e1 => propext ⟨fun z => ⟨fun _ => z, fun z => nomatch z⟩, fun z => z.1 rfl⟩
 rw [e] at q
 exact q
theorem qea {α : Type} {F : α → D} (h : ∀ a, (F a).imm = true) (l : List α) : immL (l.map F) = true := QL fun d hd => by
 obtain ⟨a, _, rfl⟩ := List.mem_map.mp hd
 exact h a
theorem Zm {t u : XS} {env : En} {nx : En → Prop} {rt : D → En → Prop} (I : En → Prop) (h1 : ∀ K : En → Prop, (∀ e, I e → K e) → t env K rt) (h2 : ∀ e, I e → u e nx rt) : sSeq t u env nx rt := h1 _ h2
theorem qey {α : Type} {F : α → D} {xs : List α} {k : Nat} {a : α} (h : xs[k]? = some a) : atI (xs.map F) (k : Int) = some (F a) := atI_nat (by rw [List.getElem?_map, h]; rfl)
theorem Wc {i j : Int} (h1 : -(2 ^ 64) < i) (h2 : i < 2 ^ 64) : IntMulOk i j := CMul.ok (.inl ⟨h1, h2⟩)
theorem qcs {i j : Int} (h1 : -(2 ^ 64) < j) (h2 : j < 2 ^ 64) : IntMulOk i j := CMul.ok (.inr ⟨h1, h2⟩)
theorem Yq : ∀ {ms : List Md} {rs : List R} {i : Nat}, (∀ m ∈ ms, m.rd = true) → wQ ms rs i = none
 | [], _, _, _ => by unfold wQ; rfl
 | _ :: _, [], _, _ => by unfold wQ; rfl
 | m :: ms, r :: rs, i, h => by
   rw [wQ, h m (List.mem_cons_self ..), Yq fun x hx => h x (List.mem_cons_of_mem _ hx)]
   rfl
theorem qb7 {ms : List Md} {rs : List R} {ds : List D} (h : ∀ m ∈ ms, m.rd = true) : ∀ (k : Nat) (e : En), putB ms rs ds k e = e
 | _, [] => by rw [putB]
 | k, x :: xs => by rw [putB, qb7 h (k + 1) xs, JV, Yq h]
theorem dFn2 {S : FS} {te tf : XE} {e : En} {Q : R → En → Prop} (hS : S.ms = [.cst, .cst]) : dFn S (qp te (qp tf aNil)) e Q = te e fun r e1 => tf e1 fun r2 e2 => rd 2 r e2 fun d => rd 2 r2 e2 fun d2 => S.wp [d, d2] fun d' _ => Q (.tmp d') e2 := by
 have h : ∀ m ∈ S.ms, m.rd = true := by rw [hS]; simp [Md.rd]
 unfold dFn qp aNil
 refine congrArg (te e) (funext fun r => funext fun e1 => congrArg (tf e1) (funext fun r2 => funext fun e2 => ?_))
 rw [hS] at h ⊢
 have e1' : yR [Md.cst, Md.cst] [r, r2] e2 = true := by cases r <;> cases r2 <;> rfl
 have e2' : apart [Md.cst, Md.cst] [r, r2] = true := by
  unfold apart
  rw [List.all_eq_true]
  intro p hp
  rw [List.all_eq_true]
  intro q hq
  have hp' : p < 2 := by simpa using hp
  have hq' : q < 2 := by simpa using hq
  match p, q, hp', hq' with
  | 0, 0, _, _ => rfl
  | 1, 1, _, _ => rfl
  | 0, 1, _, _ => cases r <;> cases r2 <;> rfl
  | 1, 0, _, _ => cases r <;> cases r2 <;> rfl
 simp only [e1', e2', true_and, qb7 h]
 rfl
section
variable {env e : En} {i j n : Nat} {z : Int} {b c : Bool} {s t : Str} {d d1 d2 : D} {m : Md} {xs ys : List D} {kvs : List (List Key × D)} {kws : List (Key × D)} {k : D → Prop} {Q : R → En → Prop} {nx : En → Prop} {r : R} {x y : Option (D × Md)}
def varM (i : Nat) (m : Md) (d : D) (e : En) (Q : R → En → Prop) : Prop := match m with
 | .ro => Q (.ro false d) e
 | .cst => Q (.ro true d) e
 | .own => Q (.sl i) e
 | .io => Q (.sl i) e
 | .lk => Q (.sl i) e
def varS (i : Nat) (x : Option (Option (D × Md))) (e : En) (Q : R → En → Prop) : Prop := match x with
 | some (some (.int z, _)) => Q (.tmp (.int z)) e
 | some (some (.bl z, _)) => Q (.tmp (.bl z)) e
 | some (some (.str z, _)) => Q (.tmp (.str z)) e
 | some (some (.non, _)) => Q (.tmp .non) e
 | some (some (.dF kvs, .own)) => Q (.ro true (.dT kvs)) e
 | some (some (d, m)) => varM i m d e Q
 | _ => False
theorem xVar : dVar i env Q = varS i env[i]? env Q := by
 unfold dVar varS
 cases env[i]? with
 | none => rfl
 | some x => cases x with
   | none => rfl
   | some p =>
     obtain ⟨d, m⟩ := p
     cases d <;> cases m <;> rfl
def rdS (L : Nat) (x : Option (Option (D × Md))) (k : D → Prop) : Prop := match x with
 | some (some (d, m)) => match m.okL L with
   | true => k d
   | false => False
 | _ => False
theorem xRdS {L : Nat} : rd L (.sl i) e k = rdS L e[i]? k := by
 unfold rd rdS R.data
 dsimp only
 cases e[i]? with
 | none => rfl
 | some x => cases x with
   | none => rfl
   | some p =>
     obtain ⟨d, m⟩ := p
     cases h : m.okL L <;> simp only [h]
theorem xRd2 : rd 2 (.ro c d) e k = k d := by cases c <;> rfl
theorem qis : rdS 2 (some (some (d, m))) k = k d := by cases m <;> rfl
def qfh (d : D) (k : List D → Prop) : Prop := match d with
 | .lst ys => immL ys = true ∧ k ys
 | _ => False
theorem qe6 {kk : List D → Prop} : YT (.ro c d) e kk = rd 1 (.ro c d) e fun d => qfh d kk := rfl
theorem qe5 {kk : List D → Prop} : YT (.sl i) e kk = rd 1 (.sl i) e fun d => qfh d kk := rfl
def chgS (i : Nat) (x : Option (Option (D × Md))) (k : Nat → D → Md → Prop) : Prop := match x with
 | some (some (d, .own)) => k i d .own
 | some (some (d, .io)) => k i d .io
 | _ => False
def lstM (k : Nat → List D → Md → Prop) (i : Nat) (d : D) (m : Md) : Prop := match d with
 | .lst xs => k i xs m
 | _ => False
def dTM (k : Nat → List (List Key × D) → Md → Prop) (i : Nat) (d : D) (m : Md) : Prop := match d with
 | .dT xs => k i xs m
 | _ => False
def retS (x : Option (Option (D × Md))) (k : D → Prop) : Prop := match x with
 | some (some (d, m)) => (match m with
   | .own => True
   | _ => d.imm = true) ∧ k d
 | _ => False
theorem qir : retS (some (some (d, .own))) k = k d := by unfold retS; simp
def setS (x : Option (Option (D × Md))) : Bool := match x with
 | some (some (_, .io)) => false
 | some (some (_, .lk)) => false
 | some _ => true
 | none => false
def gNS (i : Nat) (x : Option (Option (D × Md))) (e : En) (k : En → Prop) : Prop := match x with
 | some (some (d, _)) => d.imm = true ∧ k (e.set i (some (d, .own)))
 | _ => False
def tupT (n : Nat) (gs : XGs) (r : R) (e : En) (k : En → Prop) (d : D) : Prop := match d with
 | .tup xs => xs.length = n ∧ kdOf r xs fun kd => gs kd xs e k
 | _ => False
def thS (i : Nat) (m : Md) (x : Option (Option (D × Md))) (e : En) (k : En → Prop) : Prop := match x with
 | some (some (d, .lk)) => k (e.set i (some (d, m)))
 | _ => False
def qhA (i : Nat) (x : Option (Option (D × Md))) (e : En) (k : Option Bool → Lok → En → Prop) (im : Bool) : Prop := match x with
 | some (some (d, m)) => im = true ∧ k none (some (i, m)) (e.set i (some (d, .lk)))
 | _ => False
def seqS (d : D) (r : R) (e : En) (k : List D → Option Bool → Lok → En → Prop) : Prop := match d with
 | .lst xs => yW r e (fun kd lk e1 => k xs kd lk e1) (immL xs)
 | .lF xs => yW r e (fun kd lk e1 => k xs kd lk e1) (immL xs)
 | .tup xs => yW r e (fun kd lk e1 => k xs kd lk e1) (immL xs)
 | _ => False
def qg6 (d : D) (e : En) (k : List D → Option Bool → Lok → En → Prop) : Prop := match d with
 | .int j => -(2 ^ 62) ≤ j ∧ j < 2 ^ 62 ∧ k ((List.range j.toNat).map fun n => .int (n : Nat)) none none e
 | _ => False
def qg5 (d d2 : D) (e : En) (k : List D → Option Bool → Lok → En → Prop) : Prop := match d, d2 with
 | .int i, .int j => (-(2 ^ 62) ≤ i ∧ i < 2 ^ 62 ∧ -(2 ^ 62) ≤ j ∧ j < 2 ^ 62) ∧ k ((List.range (j - i).toNat).map fun n => .int (i + (n : Nat))) none none e
 | _, _ => False
def keyT (ds : List D) (k : List Key → Prop) : Prop := match jd ds with
 | some ks => k ks
 | none => False
def optD (o : Option D) (k : D → Prop) : Prop := match o with
 | some d => k d
 | none => False
def qaF (xs : List D) (k : List Bool → Prop) : Prop := match bools xs with
 | some bs => k bs
 | none => False
def qjo (xs : List D) (k : List Int → Prop) : Prop := match intL xs with
 | some bs => k bs
 | none => False
theorem qik : varS i (some (some (.int z, m))) e Q = Q (.tmp (.int z)) e := rfl
theorem xVbl : varS i (some (some (.bl b, m))) e Q = Q (.tmp (.bl b)) e := rfl
theorem qie : varS i (some (some (.str s, m))) e Q = Q (.tmp (.str s)) e := rfl
theorem qif : varS i (some (some (.non, m))) e Q = Q (.tmp .non) e := rfl
theorem qid : varS i (some (some (.tup xs, m))) e Q = varM i m (.tup xs) e Q := rfl
theorem qij : varS i (some (some (.lst xs, m))) e Q = varM i m (.lst xs) e Q := rfl
theorem xVdT : varS i (some (some (.dT kvs, m))) e Q = varM i m (.dT kvs) e Q := rfl
theorem xVdK : varS i (some (some (.dK kws, m))) e Q = varM i m (.dK kws) e Q := rfl
theorem qig : varM i .ro d e Q = Q (.ro false d) e := rfl
theorem qgx : varM i .cst d e Q = Q (.ro true d) e := rfl
theorem qgw : varM i .own d e Q = Q (.sl i) e := rfl
theorem qii : varM i .io d e Q = Q (.sl i) e := rfl
theorem qih : varM i .lk d e Q = Q (.sl i) e := rfl
theorem xRdT : rd n (.tmp d) e k = k d := rfl
theorem qit : rd 1 (.ro false d) e k = k d := rfl
theorem qdx : rdS 1 (some (some (d, .own))) k = k d := rfl
theorem qe9 : rdS 1 (some (some (d, .io))) k = k d := rfl
theorem qe8 : rdS 1 (some (some (d, .lk))) k = k d := rfl
theorem qe7 : rdS 1 (some (some (d, .ro))) k = k d := rfl
theorem xElT {kk : R → Prop} : elem (.tmp d1) d kk = kk (.tmp d) := rfl
theorem xElR {kk : R → Prop} : elem (.ro c d1) d kk = kk (mkRo c d) := rfl
theorem xElS {kk : R → Prop} : elem (.sl i) d kk = (d.imm = true ∧ kk (.tmp d)) := rfl
theorem qiD : mkRo c (.int z) = .tmp (.int z) := rfl
theorem xMbl : mkRo c (.bl b) = .tmp (.bl b) := rfl
theorem qiA : mkRo c (.str s) = .tmp (.str s) := rfl
theorem qiB : mkRo c .non = .tmp .non := rfl
theorem qiz : mkRo c (.tup xs) = .ro c (.tup xs) := rfl
theorem qiC : mkRo c (.lst xs) = .ro c (.lst xs) := rfl
theorem xMdT : mkRo c (.dT kvs) = .ro c (.dT kvs) := rfl
theorem xMdK : mkRo c (.dK kws) = .ro c (.dK kws) := rfl
theorem xStT : stor (.tmp d) e k = k d := rfl
theorem xStR : stor (.ro c d) e k = rd 1 (.ro c d) e fun d => d.imm = true ∧ k d := rfl
theorem xStS : stor (.sl i) e k = rd 1 (.sl i) e fun d => d.imm = true ∧ k d := rfl
theorem xSeT {kk : List D → Prop} : YT (.tmp (.lst ys)) e kk = kk ys := rfl
theorem xSmL {kk : List D → Prop} : qfh (.lst ys) kk = (immL ys = true ∧ kk ys) := rfl
theorem xChL {kk : Nat → List D → Md → Prop} : chgL (.sl i) e kk = chgS i e[i]? (lstM kk) := rfl
theorem xChT {kk : Nat → List (List Key × D) → Md → Prop} : chgT (.sl i) e kk = chgS i e[i]? (dTM kk) := rfl
theorem xChG {kk : Nat → D → Md → Prop} : chg (.sl i) e kk = chgS i e[i]? kk := rfl
theorem xCsO {kk : Nat → D → Md → Prop} : chgS i (some (some (d, .own))) kk = kk i d .own := rfl
theorem xCsI {kk : Nat → D → Md → Prop} : chgS i (some (some (d, .io))) kk = kk i d .io := rfl
theorem xLm {kk : Nat → List D → Md → Prop} : lstM kk i (.lst xs) m = kk i xs m := rfl
theorem xTm {kk : Nat → List (List Key × D) → Md → Prop} : dTM kk i (.dT kvs) m = kk i kvs m := rfl
theorem xReT : retR (.tmp d) e k = k d := rfl
theorem xReR : retR (.ro c d) e k = (c = false ∧ d.imm = true ∧ k d) := rfl
theorem xReS : retR (.sl i) e k = retS e[i]? k := rfl
theorem qiq : retS (some (some (d, .io))) k = (d.imm = true ∧ k d) := rfl
theorem qip : retS (some (some (d, .lk))) k = (d.imm = true ∧ k d) := rfl
theorem qio : retS (some (some (d, .ro))) k = (d.imm = true ∧ k d) := rfl
theorem qgG : retS (some (some (d, .cst))) k = (d.imm = true ∧ k d) := rfl
theorem qgF : setOk e i = setS e[i]? := rfl
theorem xSn : setS (some none) = true := rfl
theorem qgD : setS (some (some (d, .own))) = true := rfl
theorem qin : setS (some (some (d, .ro))) = true := rfl
theorem qgE : setS (some (some (d, .cst))) = true := rfl
theorem xGnT : gN i (.tmp d) e nx = (setS e[i]? = true ∧ nx (e.set i (some (d, .own)))) := rfl
theorem xGnR : gN i (.ro c d) e nx = (setS e[i]? = true ∧ nx (e.set i (some (d, roMd c)))) := rfl
theorem xGnS : gN i (.sl j) e nx = (setS e[i]? = true ∧ gNS i e[j]? e nx) := rfl
theorem xGns : gNS i (some (some (d, m))) e nx = (d.imm = true ∧ nx (e.set i (some (d, .own)))) := rfl
theorem xRmF : roMd false = .ro := rfl
theorem xRmT : roMd true = .cst := rfl
theorem xMkN : mkI none d = .tmp d := rfl
theorem xMkS : mkI (some c) d = mkRo c d := rfl
theorem xGT {gs : XGs} : gT n gs r e nx = rd 2 r e (tupT n gs r e nx) := rfl
theorem xTT {gs : XGs} : tupT n gs r e nx (.tup xs) = (xs.length = n ∧ kdOf r xs fun kd => gs kd xs e nx) := rfl
theorem xKdT {kk : Option Bool → Prop} : kdOf (.tmp d) xs kk = kk none := rfl
theorem xKdR {kk : Option Bool → Prop} : kdOf (.ro c d) xs kk = kk (some c) := rfl
theorem xKdS {kk : Option Bool → Prop} : kdOf (.sl i) xs kk = (immL xs = true ∧ kk none) := rfl
theorem xGsN {kd : Option Bool} : vR kd [] e nx = nx e := rfl
theorem xGsC {kd : Option Bool} {g : XG} {gs : XGs} : yg g gs kd (d :: xs) e nx = g (mkI kd d) e fun e => gs kd xs e nx := rfl
theorem xThN : thaw none e nx = nx e := rfl
theorem xThS : thaw (some (i, m)) e nx = thS i m e[i]? e nx := rfl
theorem xTs : thS i m (some (some (d, .lk))) e nx = nx (e.set i (some (d, m))) := rfl
theorem xLoT {kk : Option Bool → Lok → En → Prop} : yW (.tmp d) e kk b = (b = true ∧ kk none none e) := rfl
theorem xLoR {kk : Option Bool → Lok → En → Prop} : yW (.ro c d) e kk b = kk (some c) none e := rfl
theorem xLoS {kk : Option Bool → Lok → En → Prop} : yW (.sl i) e kk b = qhA i e[i]? e kk b := rfl
theorem xLos {kk : Option Bool → Lok → En → Prop} : qhA i (some (some (d, m))) e kk b = (b = true ∧ kk none (some (i, m)) (e.set i (some (d, .lk)))) := rfl
theorem xSeq {u : XE} {kk : List D → Option Bool → Lok → En → Prop} : iSeq u e kk = u e fun r e => rd 2 r e fun d => seqS d r e kk := rfl
theorem xSqL {kk : List D → Option Bool → Lok → En → Prop} : seqS (.lst xs) r e kk = yW r e (fun kd lk e1 => kk xs kd lk e1) (immL xs) := rfl
theorem xSqT {kk : List D → Option Bool → Lok → En → Prop} : seqS (.tup xs) r e kk = yW r e (fun kd lk e1 => kk xs kd lk e1) (immL xs) := rfl
theorem xR1 {u : XE} {kk : List D → Option Bool → Lok → En → Prop} : ju u e kk = u e fun r e => rd 2 r e fun d => qg6 d e kk := rfl
theorem xR1i {kk : List D → Option Bool → Lok → En → Prop} : qg6 (.int z) e kk = (-(2 ^ 62) ≤ z ∧ z < 2 ^ 62 ∧ kk ((List.range z.toNat).map fun n => .int (n : Nat)) none none e) := rfl
theorem xR2 {u v : XE} {kk : List D → Option Bool → Lok → En → Prop} : We u v e kk = u e fun r e => v e fun r2 e2 => rd 2 r e2 fun d => rd 2 r2 e2 fun d2 => qg5 d d2 e2 kk := rfl
theorem xR2i {w : Int} {kk : List D → Option Bool → Lok → En → Prop} : qg5 (.int z) (.int w) e kk = ((-(2 ^ 62) ≤ z ∧ z < 2 ^ 62 ∧ -(2 ^ 62) ≤ w ∧ w < 2 ^ 62) ∧ kk ((List.range (w - z).toNat).map fun n => .int (z + (n : Nat))) none none e) := rfl
theorem qiV {w : Int} : wU (.int z) (.int w) k = k (.int (z + w)) := rfl
theorem qiT : wU (.str s) (.str t) k = (s.length + t.length ≤ sizeLine ∧ k (.str (s ++ t))) := rfl
theorem qiU : wU (.lst xs) (.lst ys) k = (immL xs = true ∧ immL ys = true ∧ xs.length + ys.length ≤ sizeLine ∧ k (.lst (xs ++ ys))) := rfl
theorem qiS : wU (.tup xs) (.tup ys) k = (immL xs = true ∧ immL ys = true ∧ xs.length + ys.length ≤ sizeLine ∧ k (.tup (xs ++ ys))) := rfl
theorem qiy {w : Int} : vB (.int z) (.int w) k = (IntMulOk z w ∧ k (.int (z * w))) := rfl
theorem qix {w : Int} : vB (.lst xs) (.int w) k = (immL xs = true ∧ -(2 ^ 63) ≤ w ∧ w < 2 ^ 63 ∧ xs.length * w.toNat ≤ sizeLine ∧ k (.lst (List.replicate w.toNat xs).flatten)) := rfl
theorem xOpI {g : Int → Int → D} {w : Int} : Y5 g (.int z) (.int w) k = k (g z w) := rfl
theorem xOpC {C : Int → Int → Prop} {g : Int → Int → D} {w : Int} : Wr C g (.int z) (.int w) k = (C z w ∧ k (g z w)) := rfl
theorem xLtI {w : Int} : opLt (.int z) (.int w) k = k (.bl (decide (z < w))) := rfl
theorem qgC {kk : Bool → Prop} : tru (.int z) kk = kk (z != 0) := rfl
theorem qim {kk : Bool → Prop} : tru (.bl b) kk = kk (b) := rfl
theorem qgB {kk : Bool → Prop} : tru (.lst xs) kk = kk (!xs.isEmpty) := rfl
theorem qgy {kk : Bool → Prop} : tru (.tup xs) kk = kk (!xs.isEmpty) := rfl
theorem qil {kk : Bool → Prop} : tru (.dK kws) kk = kk (!kws.isEmpty) := rfl
theorem qgA {kk : Bool → Prop} : tru .non kk = kk false := rfl
theorem qgz {kk : Bool → Prop} : tru (.str s) kk = (s.length ≤ sizeLine ∧ kk ((s.length : Int) != 0)) := rfl
theorem qgM : opIs (.int z) .non k = k (.bl false) := rfl
theorem qgR : xj (.int z) .non k = k (.bl true) := rfl
theorem qiI : opIs (.bl b) .non k = k (.bl false) := rfl
theorem qiP : xj (.bl b) .non k = k (.bl true) := rfl
theorem qgJ : opIs (.str s) .non k = k (.bl false) := rfl
theorem qgO : xj (.str s) .non k = k (.bl true) := rfl
theorem qgI : opIs (.tup xs) .non k = k (.bl false) := rfl
theorem qgN : xj (.tup xs) .non k = k (.bl true) := rfl
theorem qgL : opIs (.lst xs) .non k = k (.bl false) := rfl
theorem qgQ : xj (.lst xs) .non k = k (.bl true) := rfl
theorem qiG : opIs (.dT kvs) .non k = k (.bl false) := rfl
theorem qiN : xj (.dT kvs) .non k = k (.bl true) := rfl
theorem qiH : opIs (.dK kws) .non k = k (.bl false) := rfl
theorem qiO : xj (.dK kws) .non k = k (.bl true) := rfl
theorem qgK : opIs .non .non k = k (.bl true) := rfl
theorem qgP : xj .non .non k = k (.bl false) := rfl
theorem xIsB : opIs (.bl b) (.bl c) k = k (.bl (decide (b = c))) := rfl
theorem xInB : xj (.bl b) (.bl c) k = k (.bl (!decide (b = c))) := rfl
theorem xInT : Qz b (.tup xs) (.dT kvs) k = keyT xs fun ks => k (.bl (b != hasT kvs ks)) := rfl
theorem xInL : Qz b d (.lst xs) k = (eqOk d = true ∧ eqOk (.lst xs) = true ∧ k (.bl (b != findIn d xs))) := rfl
theorem qiQ : Qz b d (.tup xs) k = (eqOk d = true ∧ eqOk (.tup xs) = true ∧ k (.bl (b != findIn d xs))) := rfl
theorem xInS : Qz b (.str t) (.str s) k = k (.bl (b != !(Builtin.Str.occurrences s t 0 s.length 1).isEmpty)) := rfl
theorem xIxL : ixd (.lst xs) (.int z) k = optD (atI xs z) k := rfl
theorem xIxT : ixd (.tup xs) (.int z) k = optD (atI xs z) k := rfl
theorem xIxD : ixd (.dT kvs) (.tup xs) k = keyT xs fun ks => optD (Vc kvs ks) k := rfl
theorem xOp : optD (some d) k = k d := rfl
theorem xLnL : bLen (.lst xs) k = k (.int xs.length) := rfl
theorem xLnT : bLen (.tup xs) k = k (.int xs.length) := rfl
theorem xLnS : bLen (.str s) k = (s.length ≤ sizeLine ∧ k (.int s.length)) := rfl
theorem xLnD : bLen (.dT kvs) k = k (.int kvs.length) := rfl
theorem xLnK : bLen (.dK kws) k = k (.int kws.length) := rfl
theorem xAbs : bAbs (.int z) k = k (.int (if z < 0 then -z else z)) := rfl
theorem qiK : bInt (.int z) k = k (.int z) := rfl
theorem qiM : bInt (.bl b) k = k (.int (if b then 1 else 0)) := rfl
theorem xMin {w : Int} : VB (.int z) (.int w) k = k (.int (if w < z then w else z)) := rfl
theorem xMax {w : Int} : qjF (.int z) (.int w) k = k (.int (if w > z then w else z)) := rfl
theorem xTuL : uG (.lst xs) k = (immL xs = true ∧ k (.tup xs)) := rfl
theorem xTuT : uG (.tup xs) k = (immL xs = true ∧ k (.tup xs)) := rfl
theorem xLiL : VD (.lst xs) k = (immL xs = true ∧ k (.lst xs)) := rfl
theorem xLiT : VD (.tup xs) k = (immL xs = true ∧ k (.lst xs)) := rfl
theorem xAll : bAll (.lst xs) k = qaF xs fun bs => k (.bl (bs.all id)) := rfl
theorem xAny : bAny (.lst xs) k = qaF xs fun bs => k (.bl (bs.any id)) := rfl
theorem xSum : bSum (.lst xs) k = qjo xs fun bs => k (.int bs.sum) := rfl
theorem xOp1 {h : D → (D → Prop) → Prop} : op1 h [d] k = h d k := rfl
theorem xOp2 {h : D → D → (D → Prop) → Prop} : op2 h [d, d1] k = h d d1 k := rfl
theorem xIsl : D.isLst (.lst xs) = true := rfl
theorem xImI : D.imm (.int z) = true := by rw [D.imm]
theorem xImB : D.imm (.bl b) = true := by rw [D.imm]
theorem xImS : D.imm (.str s) = true := by rw [D.imm]
theorem xImN : D.imm .non = true := by rw [D.imm]
theorem xImT : D.imm (.tup xs) = immL xs := by rw [D.imm]
theorem xImC : immL (d :: xs) = (d.imm && immL xs) := by rw [immL]
theorem xImE : immL [] = true := by rw [immL]
theorem xSlN {kk : List D → Prop} : jZ [] e kk = kk [] := rfl
theorem xSlC {rs : List R} {kk : List D → Prop} : jZ (r :: rs) e kk = stor r e fun d => jZ rs e fun ds => kk (d :: ds) := rfl
theorem xRaN {kk : List D → Prop} : jP n [] e kk = kk [] := rfl
theorem xRaC {rs : List R} {kk : List D → Prop} : jP n (r :: rs) e kk = rd n r e fun d => jP n rs e fun ds => kk (d :: ds) := rfl
def putM (di d : D) (e : En) (nx : En → Prop) (i : Nat) (dd : D) (m : Md) : Prop := match dd with
 | .lst xs => match di with
   | .int j => match ixN xs.length j with
     | some n => nx (e.set i (some (.lst (xs.set n d), m)))
     | none => False
   | _ => False
 | .dT kvs => match di with
   | .tup ks => match jd ks with
     | some k => kvs.length < sizeLine ∧ nx (e.set i (some (.dT (putD k d kvs), m)))
     | none => False
   | _ => False
 | _ => False
def optN (o : Option Nat) (k : Nat → Prop) : Prop := match o with
 | some d => k d
 | none => False
def optL (o : Option (List (List Int))) (k : List (List Int) → Prop) : Prop := match o with
 | some d => k d
 | none => False
def okIo (x : Option (Option (D × Md))) : Bool := match x with
 | some (some (_, .own)) => true
 | some (some (_, .io)) => true
 | _ => false
theorem qiJ {kk : Int → Prop} : intS (some (some (.int z, m))) kk = kk z := rfl
theorem qiL {kk : Int → Prop} : intD (.int z) kk = kk z := rfl
theorem xBlD {kk : Bool → Prop} : blD (.bl b) kk = kk b := rfl
theorem xPut : putR (.sl i) d1 d e nx = chgS i e[i]? (putM d1 d e nx) := rfl
theorem qiv : putM (.int z) d e nx i (.lst xs) m = optN (ixN xs.length z) fun n => nx (e.set i (some (.lst (xs.set n d), m))) := rfl
theorem qiu : putM (.tup ys) d e nx i (.dT kvs) m = keyT ys fun ks => kvs.length < sizeLine ∧ nx (e.set i (some (.dT (putD ks d kvs), m))) := rfl
theorem xOpN {kk : Nat → Prop} : optN (some n) kk = kk n := rfl
theorem xSoL : jx (.lst xs) k = optL (Yi xs) fun l => k (.lst ((sortI l).map tupI)) := rfl
theorem xSoT : jx (.tup xs) k = optL (Yi xs) fun l => k (.lst ((sortI l).map tupI)) := rfl
theorem xSoD : jx (.dT kvs) k = optL (qcF kvs) fun l => k (.lst ((sortI l).map tupI)) := rfl
theorem xAt0 {l : List D} : atI (d :: l) 0 = some d := atI_nat (j := 0) rfl
theorem xAt1 {l : List D} : atI (d :: d1 :: l) 1 = some d1 := atI_nat (j := 1) rfl
theorem xAt2 {l : List D} : atI (d :: d1 :: d2 :: l) 2 = some d2 := atI_nat (j := 2) rfl
theorem xAt3 {l : List D} {d3 : D} : atI (d :: d1 :: d2 :: d3 :: l) 3 = some d3 := atI_nat (j := 3) rfl
theorem xZiR {kk : List D → Option Bool → Lok → En → Prop} : zipS (.ro b d1) (.ro c d2) (.lst xs) (.lst ys) e kk = kk (zipL xs ys) (some (b || c)) none e := rfl
theorem xZiT {kk : List D → Option Bool → Lok → En → Prop} : zipS (.ro b d1) (.ro c d2) (.tup xs) (.tup ys) e kk = kk (zipL xs ys) (some (b || c)) none e := rfl
theorem qiw : Yc .io (.sl i) e = okIo e[i]? := rfl
theorem qgH : Yc .io (.tmp d) e = true := rfl
theorem qbF : isiB "int" .non = false := by simp [isiB, D.ty]
theorem qdw : isiB "int" (.bl b) = true := by simp [isiB, D.ty]
theorem qbH : isiB "int" (.int z) = true := by simp [isiB, D.ty]
theorem qbE : isiB "int" (.str s) = false := by simp [isiB, D.ty]
theorem qbD : isiB "int" (.tup xs) = false := by simp [isiB, D.ty]
theorem qbG : isiB "int" (.lst xs) = false := by simp [isiB, D.ty]
theorem qdu : isiB "int" (.dT kvs) = false := by simp [isiB, D.ty]
theorem qdv : isiB "int" (.dK kws) = false := by simp [isiB, D.ty]
theorem qaY : isiB "bool" .non = false := by simp [isiB, D.ty]
theorem qbK : isiB "bool" (.bl b) = true := by simp [isiB, D.ty]
theorem qa0 : isiB "bool" (.int z) = false := by simp [isiB, D.ty]
theorem qaX : isiB "bool" (.str s) = false := by simp [isiB, D.ty]
theorem qaW : isiB "bool" (.tup xs) = false := by simp [isiB, D.ty]
theorem qaZ : isiB "bool" (.lst xs) = false := by simp [isiB, D.ty]
theorem qbI : isiB "bool" (.dT kvs) = false := by simp [isiB, D.ty]
theorem qbJ : isiB "bool" (.dK kws) = false := by simp [isiB, D.ty]
theorem qbx : isiB "str" .non = false := by simp [isiB, D.ty]
theorem qdt : isiB "str" (.bl b) = false := by simp [isiB, D.ty]
theorem qbz : isiB "str" (.int z) = false := by simp [isiB, D.ty]
theorem qbw : isiB "str" (.str s) = true := by simp [isiB, D.ty]
theorem qbv : isiB "str" (.tup xs) = false := by simp [isiB, D.ty]
theorem qby : isiB "str" (.lst xs) = false := by simp [isiB, D.ty]
theorem qdr : isiB "str" (.dT kvs) = false := by simp [isiB, D.ty]
theorem qds : isiB "str" (.dK kws) = false := by simp [isiB, D.ty]
theorem J9 : isiB "tuple" .non = false := by simp [isiB, D.ty]
theorem qaQ : isiB "tuple" (.bl b) = false := by simp [isiB, D.ty]
theorem Ub : isiB "tuple" (.int z) = false := by simp [isiB, D.ty]
theorem J8 : isiB "tuple" (.str s) = false := by simp [isiB, D.ty]
theorem J5 : isiB "tuple" (.tup xs) = true := by simp [isiB, D.ty]
theorem Ua : isiB "tuple" (.lst xs) = false := by simp [isiB, D.ty]
theorem qaO : isiB "tuple" (.dT kvs) = false := by simp [isiB, D.ty]
theorem qaP : isiB "tuple" (.dK kws) = false := by simp [isiB, D.ty]
theorem qaT : isiB "list" .non = false := by simp [isiB, D.ty]
theorem qbC : isiB "list" (.bl b) = false := by simp [isiB, D.ty]
theorem qaV : isiB "list" (.int z) = false := by simp [isiB, D.ty]
theorem qaS : isiB "list" (.str s) = false := by simp [isiB, D.ty]
theorem qaR : isiB "list" (.tup xs) = false := by simp [isiB, D.ty]
theorem qaU : isiB "list" (.lst xs) = true := by simp [isiB, D.ty]
theorem qbA : isiB "list" (.dT kvs) = false := by simp [isiB, D.ty]
theorem qbB : isiB "list" (.dK kws) = false := by simp [isiB, D.ty]
theorem qgT : eqOk (.int z) = true := rfl
theorem qiR : eqOk (.bl b) = true := rfl
theorem qgS : eqOk .non = true := rfl
theorem xDqI {w : Int} : deq (.int z) (.int w) = decide (z = w) := by unfold deq; rw [D.py, D.py, PyData.eqv]; rfl
theorem xDqB : deq (.bl b) (.bl c) = decide (b = c) := by unfold deq; cases b <;> cases c <;> simp [D.py, PyData.eqv]
theorem xDqS : deq (.str s) (.str t) = (s == t) := by unfold deq; rw [D.py, D.py, PyData.eqv]
theorem xKe2 {w : Int} {kk : List Key → Prop} : keyT [.int z, .int w] kk = kk [.inl z, .inl w] := rfl
theorem xKe3 {w x3 : Int} {kk : List Key → Prop} : keyT [.int z, .int w, .int x3] kk = kk [.inl z, .inl w, .inl x3] := rfl
theorem xKe4 {w x3 x4 : Int} {kk : List Key → Prop} : keyT [.int z, .int w, .int x3, .int x4] kk = kk [.inl z, .inl w, .inl x3, .inl x4] := rfl
theorem qiF {w x3 : Int} {kk : List Key → Prop} : keyT [.str s, .int w, .int x3] kk = kk [.inr s, .inl w, .inl x3] := rfl
theorem qiE {w x3 x4 : Int} {kk : List Key → Prop} : keyT [.str s, .int w, .int x3, .int x4] kk = kk [.inr s, .inl w, .inl x3, .inl x4] := rfl
theorem xOkA : yR [] [] e = true := rfl
theorem xOkB {ms : List Md} {rs : List R} : yR (m :: ms) (r :: rs) e = (Yc m r e && yR ms rs e) := rfl
theorem xOkC : Yc .cst r e = true := rfl
theorem xIoO : okIo (some (some (d, .own))) = true := rfl
theorem xIoI : okIo (some (some (d, .io))) = true := rfl
end
end BX
namespace TX
open PySem PySem.Spec PyProof.Rows L2 BX
section
variable {α β γ δ κ : Type}
def eN (_ : Unit) : D := .non
def eA (d : D) : D := d
def eT1 (f : α → D) (p : α) : D := .tup [f p]
def eT2 (f : α → D) (g : β → D) (p : α × β) : D := .tup [f p.1, g p.2]
def eT3 (f : α → D) (g : β → D) (h : γ → D) (p : α × β × γ) : D := .tup [f p.1, g p.2.1, h p.2.2]
def eT4 (f : α → D) (g : β → D) (h : γ → D) (i : δ → D) (p : α × β × γ × δ) : D := .tup [f p.1, g p.2.1, h p.2.2.1, i p.2.2.2]
def eL (f : α → D) (l : List α) : D := .lst (l.map f)
def eV (f : α → D) (l : List α) : D := .tup (l.map f)
def eO (f : α → D) : Option α → D
 | none => .non
 | some a => f a
def eDT (kf : κ → List Key) (f : α → D) (l : List (κ × α)) : D := .dT (l.map fun p => (kf p.1, f p.2))
def eP (t : Int × Int) : D := .lst [.int t.1, .int t.2]
class Im (f : α → D) : Prop where
 im : ∀ a, (f a).imm = true
instance : Im D.int := ⟨fun _ => by rw [D.imm]⟩
instance : Im D.bl := ⟨fun _ => by rw [D.imm]⟩
instance : Im D.str := ⟨fun _ => by rw [D.imm]⟩
instance : Im eN := ⟨fun _ => by rw [eN, D.imm]⟩
instance {f : α → D} [hf : Im f] : Im (eT1 f) := ⟨fun p => by simp [eT1, D.imm, immL, hf.im]⟩
instance {f : α → D} {g : β → D} [hf : Im f] [hg : Im g] : Im (eT2 f g) := ⟨fun p => by simp [eT2, D.imm, immL, hf.im, hg.im]⟩
instance {f : α → D} {g : β → D} {h : γ → D} [hf : Im f] [hg : Im g] [hh : Im h] : Im (eT3 f g h) := ⟨fun p => by simp [eT3, D.imm, immL, hf.im, hg.im, hh.im]⟩
instance {f : α → D} {g : β → D} {h : γ → D} {i : δ → D} [hf : Im f] [hg : Im g] [hh : Im h] [hi : Im i] : Im (eT4 f g h i) := ⟨fun p => by simp [eT4, D.imm, immL, hf.im, hg.im, hh.im, hi.im]⟩
theorem imL {f : α → D} [hf : Im f] (l : List α) : immL (l.map f) = true := qea hf.im l
instance {f : α → D} [hf : Im f] : Im (eV f) := ⟨fun p => by rw [eV, D.imm]; exact imL p⟩
instance {f : α → D} [hf : Im f] : Im (eO f) := ⟨fun p => by cases p with
 | none => rw [eO, D.imm]
 | some a => rw [eO]; exact hf.im a⟩
class Eqd [DecidableEq α] (f : α → D) (n : outParam Nat) : Prop where
 lay : ∀ a, PyData.canLay0 (f a).py = true ∧ PyData.depth (f a).py ≤ n
 eq : ∀ a b, PyData.eqv (f a).py (f b).py = decide (a = b)
end
abbrev aR (Q : R → En → Prop) (r : R) (e : En) : Prop := Q r e
abbrev aB (Q : Bool → En → Prop) (b : Bool) (e : En) : Prop := Q b e
abbrev aL (Q : List R → En → Prop) (rs : List R) (e : En) : Prop := Q rs e
abbrev aN (nx : En → Prop) (e : En) : Prop := nx e
abbrev aD (rt : D → En → Prop) (d : D) (e : En) : Prop := rt d e
abbrev aI (k : List D → Option Bool → Lok → En → Prop) (ds : List D) (kd : Option Bool) (lk : Lok) (e : En) : Prop := k ds kd lk e
abbrev aK (k : List D → En → Prop) (ds : List D) (e : En) : Prop := k ds e
def D.big : D → Bool
 | .int _ => false
 | .bl _ => false
 | .str _ => false
 | .non => false
 | .dF _ => false
 | _ => true
inductive Rv (e : En) : Nat → R → D → Prop
 | tmp {L : Nat} {d : D} : Rv e L (.tmp d) d
 | ro {L : Nat} {d : D} : Rv e (L + 1) (.ro false d) d
 | cst {L : Nat} {d : D} : Rv e (L + 2) (.ro true d) d
 | sl {L : Nat} {i : Nat} {d : D} {m : Md} : e[i]? = some (some (d, m)) → m.okL L = true → Rv e L (.sl i) d
section
variable {e : En} {L : Nat} {r r1 r2 : R} {d d1 d2 : D}
theorem Rv.rd (h : Rv e L r d) {k : D → Prop} (q : k d) : rd L r e k := by
 cases h with
 | tmp => exact q
 | ro => exact q
 | cst => exact q
 | sl h hm => unfold BX.rd R.data; simp only [h, hm]; exact q
theorem qhb {m : Md} {L : Nat} (h : m.okL L = true) : m.okL (L + 1) = true := by
 cases m <;> first | rfl | (cases L with
  | zero => first | exact h | cases h | rfl
  | succ n => cases n with
    | zero => first | exact h | cases h | rfl
    | succ n => rfl)
theorem Rv.up (h : Rv e 1 r d) : Rv e 2 r d := by
 cases h with
 | tmp => exact .tmp
 | ro => exact .ro
 | sl h hm => exact .sl h (qhb hm)
def St (e : En) (r : R) (d : D) : Prop := ∀ k : D → Prop, k d → stor r e k
theorem St.tmp : St e (.tmp d) d := fun k q => q
theorem St.of (h : Rv e 1 r d) (hi : d.imm = true) : St e r d := fun k q => by
 cases r with
 | tmp x => cases h; exact q
 | ro c x => exact h.rd ⟨hi, q⟩
 | sl i => exact h.rd ⟨hi, q⟩
inductive StL (e : En) : List R → List D → Prop
 | nil : StL e [] []
 | cons {r : R} {d : D} {rs : List R} {ds : List D} : St e r d → StL e rs ds → StL e (r :: rs) (d :: ds)
theorem StL.go : ∀ {rs : List R} {ds : List D}, StL e rs ds → ∀ {k : List D → Prop}, k ds → jZ rs e k
 | _, _, .nil, k, q => q
 | _, _, .cons h t, k, q => h _ (t.go (k := fun ds => k (_ :: ds)) q)
inductive RvL (e : En) (L : Nat) : List R → List D → Prop
 | nil : RvL e L [] []
 | cons {r : R} {d : D} {rs : List R} {ds : List D} : Rv e L r d → RvL e L rs ds → RvL e L (r :: rs) (d :: ds)
theorem RvL.go : ∀ {rs : List R} {ds : List D}, RvL e L rs ds → ∀ {k : List D → Prop}, k ds → jP L rs e k
 | _, _, .nil, k, q => q
 | _, _, .cons h t, k, q => h.rd (t.go (k := fun ds => k (_ :: ds)) q)
end
end TX
namespace TX
open PySem PySem.Spec PyProof.Rows L2 BX
section
variable {e e1 e' : En} {L : Nat} {r r1 r2 : R} {d d1 d2 d3 : D} {Q : R → En → Prop} {QB : Bool → En → Prop} {QA : List R → En → Prop} {i j : Nat} {α β : Type}
def vr (e : En) (i : Nat) : Option R := match e[i]? with
 | some (some (.int z, _)) => some (.tmp (.int z))
 | some (some (.bl z, _)) => some (.tmp (.bl z))
 | some (some (.str z, _)) => some (.tmp (.str z))
 | some (some (.non, _)) => some (.tmp .non)
 | some (some (.dF kvs, .own)) => some (.ro true (.dT kvs))
 | some (some (d, .ro)) => some (.ro false d)
 | some (some (d, .cst)) => some (.ro true d)
 | some (some (_, .own)) => some (.sl i)
 | some (some (_, .io)) => some (.sl i)
 | some (some (_, .lk)) => some (.sl i)
 | _ => none
theorem ql (h0 : vr e i = some r) (q : aR Q r e) : dVar i e Q := by
 unfold vr at h0
 unfold dVar
 cases he : e[i]? with
 | none => rw [he] at h0; cases h0
 | some x => cases x with
   | none => rw [he] at h0; cases h0
   | some p =>
     obtain ⟨d, m⟩ := p
     rw [he] at h0
     cases d <;> first | (cases h0; exact q) | (cases m <;> (cases h0; exact q))
def D.isF : D → Bool
 | .dF _ => true
 | _ => false
theorem qhM {f : α → D} {o : Option α} (h : ∀ x, D.isF (f x) = false) : D.isF (eO f o) = false := by
 cases o with
 | none => rfl
 | some x => exact h x
theorem Wy {m : Md} (h0 : e[i]? = some (some (d, m))) (hm : m.okL 1 = true) (q : ∀ r, Rv e 1 r d → aR Q r e) (hd : D.isF d = false := by first | rfl | exact qhM fun _ => rfl) : dVar i e Q := by
 have hs : Rv e 1 (.sl i) d := .sl h0 hm
 unfold dVar
 rw [h0]
 cases d <;> first | (cases hd; done) | exact q _ .tmp | (cases m <;> first | exact q _ .ro | (cases hm; done) | exact q _ hs)
theorem c_C (q : aR Q (.tmp d) e) : dC d e Q := q
def OpTo (op : OP) (d1 d2 d : D) : Prop := ∀ k : D → Prop, k d → op d1 d2 k
theorem qM {op : OP} {t u : XE} (q : t e fun r1 e1 => u e1 fun r2 e2 => rd L r1 e2 fun d1 => rd L r2 e2 fun d2 => op d1 d2 fun d => aR Q (.tmp d) e2) : dBin L op t u e Q := q
theorem qL {op : OP} (h1 : Rv e L r1 d1) (h2 : Rv e L r2 d2) (ho : OpTo op d1 d2 d) (q : aR Q (.tmp d) e) : rd L r1 e fun d1 => rd L r2 e fun d2 => op d1 d2 fun d => aR Q (.tmp d) e := h1.rd (h2.rd (ho (fun d => aR Q (.tmp d) e) q))
section
variable {a b : Int}
theorem qX : OpTo wU (.int a) (.int b) (.int (a + b)) := fun k q => q
theorem xg : OpTo uP (.int a) (.int b) (.int (a - b)) := fun k q => q
theorem Zx (h : IntMulOk a b) : OpTo vB (.int a) (.int b) (.int (a * b)) := fun k q => ⟨h, q⟩
theorem Wb (h : 0 < b) : OpTo vC (.int a) (.int b) (.int (a % b)) := fun k q => ⟨h, q⟩
theorem UG (h : CDiv a b) : OpTo qa7 (.int a) (.int b) (.int (a / b)) := fun k q => ⟨h, q⟩
theorem Zy : OpTo opLt (.int a) (.int b) (.bl (decide (a < b))) := fun k q => q
theorem qcb : OpTo opLe (.int a) (.int b) (.bl (decide (a ≤ b))) := fun k q => q
theorem Zz : OpTo opGt (.int a) (.int b) (.bl (decide (b < a))) := fun k q => q
end
theorem qfw {f : α → D} [Im f] {a b : List α} (h : a.length + b.length ≤ sizeLine) : OpTo wU (eL f a) (eL f b) (eL f (a ++ b)) := fun k q => ⟨imL a, imL b, by simpa using h, by rw [← List.map_append]; exact q⟩
class Ints (f : α → D) (tl : outParam (α → List Int)) : Prop where
 isx : ∀ a, f a = .tup ((tl a).map .int)
 ne : ∀ a, tl a ≠ []
def tl2 (c : Int × Int) : List Int := [c.1, c.2]
def tl3 (c : Int × Int × Int) : List Int := [c.1, c.2.1, c.2.2]
def tl4 (c : Int × Int × Int × Int) : List Int := [c.1, c.2.1, c.2.2.1, c.2.2.2]
instance : Ints (eT2 D.int D.int) tl2 := ⟨fun _ => rfl, fun _ => by simp [tl2]⟩
instance : Ints (eT3 D.int D.int D.int) tl3 := ⟨fun _ => rfl, fun _ => by simp [tl3]⟩
instance : Ints (eT4 D.int D.int D.int D.int) tl4 := ⟨fun _ => rfl, fun _ => by simp [tl4]⟩
theorem QK : ∀ l : List Int, intL (l.map .int) = some l
 | [] => rfl
 | i :: l => by rw [List.map_cons, BX.intL, QK l]; rfl
section
variable [DecidableEq α] {f : α → D} {n : Nat} [hf : Eqd f n] {a b : α}
theorem Eqd.ok (hn : n ≤ 64) (a : α) : eqOk (f a) = true := by
 have := hf.lay a
 unfold eqOk SeqAt.shaped
 simp only [this.1, Bool.true_and, decide_eq_true_eq]
 omega
theorem op_eq (hn : n ≤ 64 := by decide) : OpTo opEq (f a) (f b) (.bl (decide (a = b))) := fun k q => ⟨Eqd.ok hn a, Eqd.ok hn b, by rw [deq, hf.eq]; exact q⟩
theorem op_ne (hn : n ≤ 64 := by decide) : OpTo opNe (f a) (f b) (.bl (!decide (a = b))) := fun k q => ⟨Eqd.ok hn a, Eqd.ok hn b, by rw [deq, hf.eq]; exact q⟩
end
end
end TX
namespace TX
open PySem PySem.Spec PyProof.Rows L2 BX
section
variable {α β γ δ κ : Type}
instance : Eqd D.int 0 := ⟨fun a => by simp [D.py, PyData.canLay0, PyData.depth], fun a b => by simp only [D.py, PyData.eqv]; by_cases h : a = b <;> simp [h]⟩
instance : Eqd D.bl 0 := ⟨fun a => by simp [D.py, PyData.canLay0, PyData.depth], fun a b => by cases a <;> cases b <;> simp [D.py, PyData.eqv]⟩
section
variable [DecidableEq α] [DecidableEq β] [DecidableEq γ] [DecidableEq δ] {f : α → D} {g : β → D} {h : γ → D} {i : δ → D} {n m k l : Nat}
instance [hf : Eqd f n] [hg : Eqd g m] : Eqd (eT2 f g) (n + m + 1) := ⟨fun a => by
 have h1 := hf.lay a.1; have h2 := hg.lay a.2
 simp only [eT2, D.py, pyL, PyData.canLay0, PyData.canLayAll0, PyData.depth, PyData.depthAll, h1.1, h2.1, Bool.and_self, Bool.true_and, true_and]
 omega, fun a b => by
 simp only [eT2, D.py, pyL, PyData.eqv, PyData.eqvAll, hf.eq, hg.eq, Bool.and_true, Prod.ext_iff, Bool.decide_and]⟩
instance [hf : Eqd f n] [hg : Eqd g m] [hh : Eqd h k] : Eqd (eT3 f g h) (n + m + k + 1) := ⟨fun a => by
 have h1 := hf.lay a.1; have h2 := hg.lay a.2.1; have h3 := hh.lay a.2.2
 simp only [eT3, D.py, pyL, PyData.canLay0, PyData.canLayAll0, PyData.depth, PyData.depthAll, h1.1, h2.1, h3.1, Bool.and_self, Bool.true_and, true_and]
 omega, fun a b => by
 simp only [eT3, D.py, pyL, PyData.eqv, PyData.eqvAll, hf.eq, hg.eq, hh.eq, Bool.and_true, Prod.ext_iff, Bool.decide_and]⟩
instance [hf : Eqd f n] [hg : Eqd g m] [hh : Eqd h k] [hi : Eqd i l] : Eqd (eT4 f g h i) (n + m + k + l + 1) := ⟨fun a => by
 have h1 := hf.lay a.1; have h2 := hg.lay a.2.1; have h3 := hh.lay a.2.2.1; have h4 := hi.lay a.2.2.2
 simp only [eT4, D.py, pyL, PyData.canLay0, PyData.canLayAll0, PyData.depth, PyData.depthAll, h1.1, h2.1, h3.1, h4.1, Bool.and_self, Bool.true_and, true_and]
 omega, fun a b => by
 simp only [eT4, D.py, pyL, PyData.eqv, PyData.eqvAll, hf.eq, hg.eq, hh.eq, hi.eq, Bool.and_true, Prod.ext_iff, Bool.decide_and]⟩
theorem Vn [hf : Eqd f n] : ∀ l : List α, PyData.canLayAll0 (pyL (l.map f)) = true ∧ PyData.depthAll (pyL (l.map f)) ≤ n
 | [] => by simp [pyL, PyData.canLayAll0, PyData.depthAll]
 | a :: l => by
   have h1 := hf.lay a; have h2 := Vn l
   simp only [List.map_cons, pyL, PyData.canLayAll0, PyData.depthAll, h1.1, h2.1, Bool.and_self, true_and]
   omega
theorem qcP [hf : Eqd f n] : ∀ l m : List α, PyData.eqvAll (pyL (l.map f)) (pyL (m.map f)) = decide (l = m)
 | [], [] => by simp [pyL, PyData.eqvAll]
 | [], b :: m => by simp [pyL, PyData.eqvAll]
 | a :: l, [] => by simp [pyL, PyData.eqvAll]
 | a :: l, b :: m => by
   have := qcP l m
   simp only [List.map_cons, pyL, PyData.eqvAll, hf.eq, this, List.cons.injEq, Bool.decide_and]
instance [hf : Eqd f n] : Eqd (eL f) (n + 1) := ⟨fun a => by
 have := Vn (f := f) a
 simp only [eL, D.py, PyData.canLay0, PyData.depth, this.1, true_and]; omega, fun a b => by simp only [eL, D.py, PyData.eqv, qcP]⟩
instance [hf : Eqd f n] : Eqd (eV f) (n + 1) := ⟨fun a => by
 have := Vn (f := f) a
 simp only [eV, D.py, PyData.canLay0, PyData.depth, this.1, true_and]; omega, fun a b => by simp only [eV, D.py, PyData.eqv, qcP]⟩
theorem Jx [hf : Eqd f n] (a : α) : ∀ l : List α, findIn (f a) (l.map f) = decide (a ∈ l)
 | [] => by simp [findIn]
 | b :: l => by
   rw [List.map_cons, findIn, Jx a l, deq, hf.eq]
   simp only [List.mem_cons]
   by_cases h1 : b = a
   ·subst h1; simp
   ·have h2 : ¬ a = b := fun z => h1 z.symm
    simp [h1, h2]
variable {e : En}
theorem qca [hf : Eqd f n] {a : α} {l : List α} (hn : n + 1 ≤ 64 := by decide) : OpTo j6 (f a) (eV f l) (.bl (!decide (a ∈ l))) := fun k q => by
 refine ⟨Eqd.ok (by omega) a, Eqd.ok (f := eV f) hn l, ?_⟩
 rw [Jx]; simpa using q
end
def hasA [DecidableEq κ] (l : List (κ × α)) (k : κ) : Bool := l.any fun p => decide (p.1 = k)
def getA [DecidableEq κ] (l : List (κ × α)) (k : κ) : Option α := (l.find? fun p => decide (p.1 = k)).map (·.2)
def putA [DecidableEq κ] (k : κ) (v : α) : List (κ × α) → List (κ × α)
 | [] => [(k, v)]
 | p :: r => if p.1 = k then (p.1, v) :: r else p :: putA k v r
class Kt (f : κ → D) (kf : outParam (κ → List Key)) : Prop where
 key : ∀ c, ∃ ds, f c = .tup ds ∧ jd ds = some (kf c)
 inj : ∀ c d, kf c = kf d → c = d
class Kk (f : κ → D) (kf : outParam (κ → Key)) : Prop where
 key : ∀ c, dKey (f c) = some (kf c)
 inj : ∀ c d, kf c = kf d → c = d
instance : Kk D.int Sum.inl := ⟨fun _ => rfl, fun _ _ h => Sum.inl.inj h⟩
instance : Kk D.str Sum.inr := ⟨fun _ => rfl, fun _ _ h => Sum.inr.inj h⟩
def kf2 (k : α → Key) (l : β → Key) (p : α × β) : List Key := [k p.1, l p.2]
def kf3 (k : α → Key) (l : β → Key) (m : γ → Key) (p : α × β × γ) : List Key := [k p.1, l p.2.1, m p.2.2]
def kf4 (k : α → Key) (l : β → Key) (m : γ → Key) (o : δ → Key) (p : α × β × γ × δ) : List Key := [k p.1, l p.2.1, m p.2.2.1, o p.2.2.2]
instance {f : α → D} {g : β → D} {k : α → Key} {l : β → Key} [hf : Kk f k] [hg : Kk g l] : Kt (eT2 f g) (kf2 k l) := ⟨fun c => ⟨_, rfl, by simp [jd, hf.key, hg.key, kf2]⟩, fun c d h => by
 simp only [kf2, List.cons.injEq, and_true] at h
 exact Prod.ext (hf.inj _ _ h.1) (hg.inj _ _ h.2)⟩
instance {f : α → D} {g : β → D} {h : γ → D} {k : α → Key} {l : β → Key} {m : γ → Key} [hf : Kk f k] [hg : Kk g l] [hh : Kk h m] : Kt (eT3 f g h) (kf3 k l m) := ⟨fun c => ⟨_, rfl, by simp [jd, hf.key, hg.key, hh.key, kf3]⟩, fun c d h => by
 simp only [kf3, List.cons.injEq, and_true] at h
 exact Prod.ext (hf.inj _ _ h.1) (Prod.ext (hg.inj _ _ h.2.1) (hh.inj _ _ h.2.2))⟩
instance {f : α → D} {g : β → D} {h : γ → D} {i : δ → D} {k : α → Key} {l : β → Key} {m : γ → Key} {o : δ → Key} [hf : Kk f k] [hg : Kk g l] [hh : Kk h m] [hi : Kk i o] : Kt (eT4 f g h i) (kf4 k l m o) := ⟨fun c => ⟨_, rfl, by simp [jd, hf.key, hg.key, hh.key, hi.key, kf4]⟩, fun c d h => by
 simp only [kf4, List.cons.injEq, and_true] at h
 exact Prod.ext (hf.inj _ _ h.1) (Prod.ext (hg.inj _ _ h.2.1) (Prod.ext (hh.inj _ _ h.2.2.1) (hi.inj _ _ h.2.2.2)))⟩
section
variable [DecidableEq κ] {c : κ → D} {kf : κ → List Key} [hk : Kt c kf] {f : α → D} {l : List (κ × α)} {k : κ} {v : α}
include hk in
theorem kinj {a b : κ} : kf a = kf b ↔ a = b := ⟨hk.inj a b, fun h => h ▸ rfl⟩
include hk in
theorem qcI : hasT (l.map fun p => (kf p.1, f p.2)) (kf k) = hasA l k := by
 unfold hasT hasA
 rw [List.any_map]
 congr 1
 funext p
 simp only [Function.comp, kinj (c := c)]
include hk in
theorem qd2 : Vc (l.map fun p => (kf p.1, f p.2)) (kf k) = (getA l k).map f := by
 unfold Vc getA
 induction l with
 | nil => rfl
 | cons p l ih =>
   rw [List.map_cons, List.find?_cons, List.find?_cons]
   by_cases h : p.1 = k
   ·simp [h]
   ·have : ¬ kf p.1 = kf k := fun z => h (hk.inj _ _ z)
    simp only [h, this, decide_false]
    exact ih
include hk in
theorem qft : putD (kf k) (f v) (l.map fun p => (kf p.1, f p.2)) = (putA k v l).map fun p => (kf p.1, f p.2) := by
 induction l with
 | nil => rfl
 | cons p l ih =>
   rw [List.map_cons, putD, putA]
   by_cases h : p.1 = k
   ·simp [h]
   ·have : ¬ kf p.1 = kf k := fun z => h (hk.inj _ _ z)
    rw [if_neg this, if_neg h, ih]; rfl
theorem qcd : OpTo opIn (c k) (eDT kf f l) (.bl (hasA l k)) := fun kk q => by
 obtain ⟨ds, h1, h2⟩ := hk.key k
 rw [h1]
 unfold eDT opIn Qz
 simp only [h2, qcI (c := c)]
 simpa using q
theorem Zw : OpTo j6 (c k) (eDT kf f l) (.bl (!hasA l k)) := fun kk q => by
 obtain ⟨ds, h1, h2⟩ := hk.key k
 rw [h1]
 unfold eDT j6 Qz
 simp only [h2, qcI (c := c)]
 simpa using q
end
class Nn (f : α → D) : Prop where
 nn : ∀ a, BX.isNon (f a) = false
instance : Nn D.int := ⟨fun _ => rfl⟩
instance : Nn D.bl := ⟨fun _ => rfl⟩
instance : Nn D.str := ⟨fun _ => rfl⟩
instance {f : α → D} {g : β → D} : Nn (eT2 f g) := ⟨fun _ => rfl⟩
instance {f : α → D} {g : β → D} {h : γ → D} : Nn (eT3 f g h) := ⟨fun _ => rfl⟩
instance {f : α → D} {g : β → D} {h : γ → D} {i : δ → D} : Nn (eT4 f g h i) := ⟨fun _ => rfl⟩
instance {f : α → D} : Nn (eV f) := ⟨fun _ => rfl⟩
instance {f : α → D} : Nn (eL f) := ⟨fun _ => rfl⟩
theorem qcc {f : α → D} [hf : Nn f] {a : Option α} : OpTo xj (eO f a) .non (.bl a.isSome) := fun k q => by
 cases a with
 | none => exact q
 | some a =>
   unfold xj eO
   simp only [hf.nn a]
   exact q
end
end TX
namespace TX
open PySem PySem.Spec PyProof.Rows L2 BX
section
variable {e e1 e' : En} {L : Nat} {r r1 r2 r' : R} {d d1 d2 d3 : D} {Q : R → En → Prop} {QB : Bool → En → Prop} {QA : List R → En → Prop} {i j : Nat} {α β γ κ : Type}
def qh8 (d : D) (b : Bool) : Prop := ∀ k : Bool → Prop, k b → tru d k
theorem tr_b {b : Bool} : qh8 (.bl b) b := fun k q => q
theorem yC {t : XE} (q : t e fun r e => rd 2 r e fun d => tru d fun b => aB QB b e) : xVal t e QB := q
theorem yz {b : Bool} (h : Rv e 2 r d) (ht : qh8 d b) (q : aB QB b e) : rd 2 r e fun d => tru d fun b => aB QB b e := h.rd (ht (fun b => aB QB b e) q)
theorem qaC {t : XT} (q : t e fun b e => aB QB (!b) e) : xNot t e QB := q
theorem JQ {t u : XT} (b1 b2 : Bool) (h1 : ∀ Q : Bool → En → Prop, aB Q b1 e → t e Q) (h2 : b1 = true → ∀ Q : Bool → En → Prop, aB Q b2 e → u e Q) (q : aB QB (b1 && b2) e) : xAnd t u e QB := by
 refine h1 _ ⟨fun h => h2 h _ ?_, fun h => ?_⟩
 ·rw [h, Bool.true_and] at q; exact q
 ·rw [h, Bool.false_and] at q; exact q
theorem qh1 {t u : XE} (b1 b2 : Bool) (h1 : ∀ Q : R → En → Prop, aR Q (.tmp (.bl b1)) e → t e Q) (h2 : b1 = true → ∀ Q : R → En → Prop, aR Q (.tmp (.bl b2)) e → u e Q) (q : aR Q (.tmp (.bl (b1 && b2))) e) : dAnd t u e Q := by
 refine h1 _ ⟨fun h => h2 h _ ?_, fun h => ?_⟩
 ·rw [h, Bool.true_and] at q; exact q
 ·rw [h, Bool.false_and] at q; rw [h]; exact q
theorem qdd {t u : XT} (q : t e fun b e => (b = true → u e QB) ∧ (b = false → aB QB false e)) : xAnd t u e QB := q
theorem qda {t u : XT} (q : t e fun b e => (b = true → aB QB true e) ∧ (b = false → u e QB)) : xOr t u e QB := q
theorem qhY {t u : XE} (q : t e fun r e => rd 2 r e fun d => tru d fun b => (b = true → aR Q r e) ∧ (b = false → u e Q)) : dOr t u e Q := q
theorem qhf {b : Bool} {k : Bool → Prop} (h : Rv e 2 r (.bl b)) (q : k b) : rd 2 r e fun d => tru d k := h.rd q
theorem qjz {c : XT} {t u : XE} (q : c e fun b e => (b = true → t e Q) ∧ (b = false → u e Q)) : dIf c t u e Q := q
theorem qhZ {op op' : OP} {L' : Nat} {t u v : XE} (q : t e fun r1 e1 => u e1 fun r2 e2 => rd L r1 e2 fun d1 => rd L r2 e2 fun d2 => op d1 d2 fun d => blD d fun b =>
 (b = true → v e2 fun r3 e3 => rd L' r2 e3 fun d2 => rd L' r3 e3 fun d3 => op' d2 d3 fun d => aR Q (.tmp d) e3) ∧ (b = false → aR Q (.tmp (.bl false)) e2)) : dChn L op L' op' t u v e Q := q
theorem qhl {op op' : OP} {L' : Nat} {v : XE} (b1 b2 : Bool) (h1 : Rv e L r1 d1) (h2 : Rv e L r2 d2) (h2' : Rv e L' r2 d2) (ho : OpTo op d1 d2 (.bl b1)) (hv : b1 = true → ∀ Q : R → En → Prop, (∀ r, Rv e L' r d3 → aR Q r e) → v e Q) (ho' : b1 = true → OpTo op' d2 d3 (.bl b2)) (q : aR Q (.tmp (.bl (b1 && b2))) e) :
 rd L r1 e fun d1 => rd L r2 e fun d2 => op d1 d2 fun d => blD d fun b => (b = true → v e fun r3 e3 => rd L' r2 e3 fun d2 => rd L' r3 e3 fun d3 => op' d2 d3 fun d => aR Q (.tmp d) e3) ∧ (b = false → aR Q (.tmp (.bl false)) e) := by
 refine h1.rd (h2.rd (ho (fun d => blD d fun b => (b = true → v e fun r3 e3 => rd L' r2 e3 fun d2 => rd L' r3 e3 fun d3 => op' d2 d3 fun d => aR Q (.tmp d) e3) ∧ (b = false → aR Q (.tmp (.bl false)) e)) ⟨fun h => ?_, fun h => ?_⟩))
 ·refine hv h _ fun r3 h3 => h2'.rd (h3.rd (ho' h (fun d => aR Q (.tmp d) e) ?_))
  rw [h, Bool.true_and] at q; exact q
 ·rw [h, Bool.false_and] at q; exact q
theorem qw (q : aL QA [] e) : aNil e QA := q
theorem qb {t : XE} {u : XA} (q : t e fun r e => u e fun rs e2 => aL QA (r :: rs) e2) : qp t u e QA := q
theorem yL {u : XA} (q : u e fun rs e => rs.length ≤ 1000 ∧ jZ rs e fun ds => aR Q (.tmp (.tup ds)) e) : dTup u e Q := q
theorem jE {u : XA} (q : u e fun rs e => rs.length ≤ 1000 ∧ jZ rs e fun ds => aR Q (.tmp (.lst ds)) e) : dLst u e Q := q
theorem qhg {rs : List R} {ds : List D} (h : StL e rs ds) (q : aR Q (.tmp (.tup ds)) e) (hl : rs.length ≤ 1000 := by simp) : rs.length ≤ 1000 ∧ jZ rs e fun ds => aR Q (.tmp (.tup ds)) e := ⟨hl, h.go (k := fun ds => aR Q (.tmp (.tup ds)) e) q⟩
theorem qjb {rs : List R} {ds : List D} (h : StL e rs ds) (q : aR Q (.tmp (.lst ds)) e) (hl : rs.length ≤ 1000 := by simp) : rs.length ≤ 1000 ∧ jZ rs e fun ds => aR Q (.tmp (.lst ds)) e := ⟨hl, h.go (k := fun ds => aR Q (.tmp (.lst ds)) e) q⟩
def IxTo (d1 d2 d : D) : Prop := ∀ k : D → Prop, k d → ixd d1 d2 k
inductive ElTo : R → D → R → Prop
 | tmp {x d : D} : ElTo (.tmp x) d (.tmp d)
 | ro {c : Bool} {x d : D} {r : R} : mkRo c d = r → ElTo (.ro c x) d r
 | sl {i : Nat} {d : D} : d.imm = true → ElTo (.sl i) d (.tmp d)
theorem ElTo.go (h : ElTo r d r') {k : R → Prop} (q : k r') : elem r d k := by
 cases h with
 | tmp => exact q
 | ro h => subst h; exact q
 | sl h => exact ⟨h, q⟩
theorem zK {t u : XE} (q : t e fun r1 e1 => u e1 fun r2 e2 => rd 2 r1 e2 fun d1 => rd 1 r2 e2 fun d2 => ixd d1 d2 fun d => elem r1 d fun r => aR Q r e2) : dIdx t u e Q := q
theorem o_idx (h1 : Rv e 2 r1 d1) (h2 : Rv e 1 r2 d2) (hi : IxTo d1 d2 d) (hel : ElTo r1 d r') (q : aR Q r' e) : rd 2 r1 e fun d1 => rd 1 r2 e fun d2 => ixd d1 d2 fun d => elem r1 d fun r => aR Q r e :=
 h1.rd (h2.rd (hi (fun d => elem r1 d fun r => aR Q r e) (hel.go (k := fun r => aR Q r e) q)))
theorem ix_T {ds : List D} {i : Int} (h : atI ds i = some d) : IxTo (.tup ds) (.int i) d := fun k q => by unfold ixd; simp only [h]; exact q
theorem vJ {α : Type} {f : α → D} {l : List α} {i : Int} {a : α} (h : atI l i = some a) : atI (l.map f) i = some (f a) := by
 unfold atI at h ⊢
 rw [List.length_map]
 cases e : ixN l.length i with
 | none => rw [e] at h; cases h
 | some j =>
   rw [e] at h
   simp only [Option.bind_some] at h ⊢
   rw [List.getElem?_map, h]; rfl
theorem ix_L {f : α → D} {l : List α} {i : Int} {a : α} (h : atI l i = some a) : IxTo (eL f l) (.int i) (f a) := fun k q => by unfold eL ixd; simp only [vJ h]; exact q
theorem ix_V {f : α → D} {l : List α} {i : Int} {a : α} (h : atI l i = some a) : IxTo (eV f l) (.int i) (f a) := fun k q => by unfold eV ixd; simp only [vJ h]; exact q
def mkS {α κ : Type} (ms : List Md) (ia : α → List D) (w : α → (κ → Prop) → Prop) (fo : κ → D) (od : α → κ → List D) : FS := ⟨ms, fun ds Q => ∃ a k, ds = ia a ∧ w a k ∧ ∀ r, k r → Q (fo r) (od a r)⟩
theorem zp {α κ : Type} {ms : List Md} {ia : α → List D} {w : α → (κ → Prop) → Prop} {fo : κ → D} {od : α → κ → List D} : Wj (mkS ms ia w fo od) := fun ds Q Q' h ⟨a, k, e, w, q⟩ => ⟨a, k, e, w, fun r hr => h _ _ (q r hr)⟩
theorem c_fn {S : FS} {u : XA} (q : u e fun rs e => yR S.ms rs e = true ∧ apart S.ms rs = true ∧ jP 2 rs e fun ds => S.wp ds fun d ds' => aR Q (.tmp d) (putB S.ms rs ds' 0 e)) : dFn S u e Q := q
theorem x_call {α κ : Type} {ms : List Md} {ia : α → List D} {w : α → (κ → Prop) → Prop} {fo : κ → D} {od : α → κ → List D} {rs : List R} (a : α) (fe : κ → En) {k : κ → Prop} (h : w a k) (hr : RvL e 2 rs (ia a)) (h1 : yR ms rs e = true) (h2 : apart ms rs = true)
 (he : ∀ r, putB ms rs (od a r) 0 e = fe r) (q : ∀ r, k r → aR Q (.tmp (fo r)) (fe r)) :
 yR (mkS ms ia w fo od).ms rs e = true ∧ apart (mkS ms ia w fo od).ms rs = true ∧ jP 2 rs e fun ds => (mkS ms ia w fo od).wp ds fun d ds' => aR Q (.tmp d) (putB (mkS ms ia w fo od).ms rs ds' 0 e) :=
 ⟨h1, h2, hr.go (k := fun ds => (mkS ms ia w fo od).wp ds fun d ds' => aR Q (.tmp d) (putB (mkS ms ia w fo od).ms rs ds' 0 e)) ⟨a, k, rfl, h, fun r hk => by
  show aR Q _ (putB ms rs (od a r) 0 e)
  rw [he]; exact q r hk⟩⟩
theorem qO : yR [] [] e = true := rfl
theorem qm {m : Md} {ms : List Md} {rs : List R} (h : Yc m r e = true) (t : yR ms rs e = true) : yR (m :: ms) (r :: rs) e = true := by rw [yR, h, t]; rfl
theorem qN : Yc .cst r e = true := rfl
theorem yQ (h : Rv e 1 r d) : Yc .ro r e = true := by cases h <;> rfl
theorem wz {ms : List Md} {rs : List R} (h : ms.all Md.rd = true) : apart ms rs = true := by
 unfold apart
 rw [List.all_eq_true]
 intro p _
 rw [List.all_eq_true]
 intro q _
 rw [Bool.or_eq_true]
 refine .inr ?_
 split
 ·rename_i m i j h1 h2 h3
  have := List.all_eq_true.mp h _ (List.mem_of_getElem? h1)
  rw [this]; rfl
 ·rfl
def OpN (op : OPn) (ds : List D) (d : D) : Prop := ∀ k : D → Prop, k d → op ds k
theorem zj {op : OPn} {u : XA} (q : u e fun rs e => jP L rs e fun ds => op ds fun d => aR Q (.tmp d) e) : dCall L op u e Q := q
theorem zg {op : OPn} {rs : List R} {ds : List D} (h : RvL e L rs ds) (ho : OpN op ds d) (q : aR Q (.tmp d) e) : jP L rs e fun ds => op ds fun d => aR Q (.tmp d) e := h.go (k := fun ds => op ds fun d => aR Q (.tmp d) e) (ho (fun d => aR Q (.tmp d) e) q)
def intB (b : Bool) : Int := if b then 1 else 0
section
variable {f : α → D} {l : List α} {a b : Int} {κf : κ → List Key} {κg : κ → Key} {m : List (κ × α)}
theorem Jg : OpN (op1 bLen) [eL f l] (.int l.length) := fun k q => by unfold op1 bLen eL; simpa using q
theorem qhs : OpN (op1 bLen) [eV f l] (.int l.length) := fun k q => by unfold op1 bLen eV; simpa using q
theorem qcr : OpN (op1 bLen) [eDT κf f m] (.int m.length) := fun k q => by unfold op1 bLen eDT; simpa using q
theorem qai {b : Bool} : OpN (op1 bInt) [.bl b] (.int (intB b)) := fun k q => q
theorem qeP : OpN (op2 VB) [.int a, .int b] (.int (min a b)) := fun k q => by
 show k (.int (if b < a then b else a))
 have : (if b < a then b else a) = min a b := by split <;> omega
 rw [this]; exact q
theorem Ws [Im f] : OpN (op1 uG) [eL f l] (eV f l) := fun k q => ⟨imL l, q⟩
theorem qfI [Im f] : OpN (op1 VD) [eV f l] (eL f l) := fun k q => ⟨imL l, q⟩
theorem qhp {l : List Int} : OpN (op1 bSum) [eL .int l] (.int l.sum) := fun k q => by unfold op1 bSum eL; simp only [QK]; exact q
def srt (tl : α → List Int) (l : List α) : List α := l.mergeSort fun a b => !HT.lexLt (tl b) (tl a)
theorem Jq {tl : α → List Int} [h : Ints f tl] : ∀ l : List α, Yi (l.map f) = some (l.map tl)
 | [] => rfl
 | a :: l => by
   rw [List.map_cons, h.isx, Yi, QK, Jq l]
   have := h.ne a
   cases e : tl a with
   | nil => exact absurd e this
   | cons x xs => simp [e]
theorem sort_map {tl : α → List Int} [h : Ints f tl] (l : List α) : (sortI (l.map tl)).map tupI = (srt tl l).map f := by
 unfold sortI srt
 rw [← List.map_mergeSort (r := fun a b => !HT.lexLt (tl b) (tl a)) (s := fun a b => !HT.lexLt b a) (f := tl) (fun a _ b _ => rfl), List.map_map]
 exact List.map_congr_left fun a _ => (h.isx a).symm
theorem qcp {tl : α → List Int} [h : Ints f tl] : OpN (op1 jx) [eL f l] (eL f (srt tl l)) := fun k q => by
 unfold op1 jx eL
 simp only [Jq, sort_map (f := f)]
 exact q
class Ki (kf : κ → List Key) (tl : outParam (κ → List Int)) : Prop where
 ki : ∀ c, keyI (kf c) = some (tl c)
instance : Ki (kf2 (Sum.inl (α := Int)) Sum.inl) tl2 := ⟨fun _ => rfl⟩
instance : Ki (kf3 (Sum.inl (α := Int)) Sum.inl Sum.inl) tl3 := ⟨fun _ => rfl⟩
instance : Ki (kf4 (Sum.inl (α := Int)) Sum.inl Sum.inl Sum.inl) tl4 := ⟨fun _ => rfl⟩
def xW [DecidableEq κ] (m : List (κ × α)) (l : List (κ × α)) : List (κ × α) := l.foldl (fun a x => putA x.1 x.2 a) m
theorem Zu [DecidableEq κ] {c : κ → D} {kf : κ → List Key} [hk : Kt c kf] : ∀ (l m : List (κ × α)), X7 (m.map fun p => (kf p.1, f p.2)) (l.map fun p => (kf p.1, f p.2)) = (xW m l).map fun p => (kf p.1, f p.2)
 | [], m => rfl
 | p :: l, m => by
   have := Zu (c := c) l (putA p.1 p.2 m)
   rw [← qft (c := c)] at this
   exact this
theorem Zv [DecidableEq κ] {c : κ → D} {kf : κ → List Key} [hk : Kt c kf] [hf : Im f] : ∀ l : List (κ × α), Uy (l.map (eT2 c f)) = some (l.map fun p => (kf p.1, f p.2))
 | [] => rfl
 | p :: l => by
   rw [List.map_cons, Uy, Zv (c := c) l]
   have : BX.pairD (eT2 c f p) = some (kf p.1, f p.2) := by
    obtain ⟨ds, h1, h2⟩ := hk.key p.1
    unfold eT2
    rw [h1]
    unfold BX.pairD
    simp only [h2, hf.im]
   rw [this]; rfl
theorem ZJ [DecidableEq κ] {c : κ → D} {kf : κ → List Key} [hk : Kt c kf] [hf : Im f] {l : List (κ × α)} : OpN (op1 Z8) [eL (eT2 c f) l] (eDT kf f (xW [] l)) := fun k q => by
 unfold op1 Z8 eL
 simp only [Zv (c := c) (f := f)]
 have := Zu (c := c) (f := f) (kf := kf) l []
 rw [List.map_nil] at this
 rw [this]; exact q
end
end
end TX
namespace TX
open PySem PySem.Spec PyProof.Rows L2 BX
section
variable {e e1 e' : En} {L : Nat} {r r1 r2 r' : R} {d d1 d2 d3 : D} {Q : R → En → Prop} {nx : En → Prop} {rt : D → En → Prop} {i j : Nat} {α β γ κ σ : Type} {kE : En → Prop}
def lt {α : Type} (v : α) (k : α → Prop) : Prop := k v
def forW {α σ : Type} : List α → σ → (α → σ → (σ → Prop) → Prop) → (σ → Prop) → Prop
 | [], s, _, k => k s
 | a :: as, s, body, k => body a s fun s' => forW as s' body k
def whW {σ : Type} (s0 : σ) (step : σ → (σ → Prop) → Prop) : Prop := ∃ I : Nat → σ → Prop, (∃ m, I m s0) ∧ ∀ m s, I m s → step s fun s' => ∃ m', m' < m ∧ I m' s'
def lcW {α β σ : Type} : List α → List β → σ → (α → σ → (Option β → σ → Prop) → Prop) → (List β → σ → Prop) → Prop
 | [], acc, s, _, k => k acc s
 | a :: as, acc, s, body, k => body a s fun o s' => lcW as (acc ++ o.toList) s' body k
def ifW {σ : Type} (b : Bool) (A B : (σ → Prop) → Prop) (k : σ → Prop) : Prop := (b = true → A k) ∧ (b = false → B k)
def ifP (b : Bool) (A B : Prop) : Prop := (b = true → A) ∧ (b = false → B)
def exW {α : Type} (o : Option α) (k : α → Prop) : Prop := ∃ a, o = some a ∧ k a
theorem qU {t u : XS} (q : t e (fun e => u e nx rt) rt) : sSeq t u e nx rt := q
theorem Qh (q : aN nx e) : sNil e nx rt := q
theorem uX {t : XE} (q : t e fun _ e => aN nx e) : Qx t e nx rt := q
theorem s_asg {t : XE} {g : XG} (q : t e fun r e => g r e nx) : sAsg t g e nx rt := q
theorem s_ret {t : XE} (q : t e fun r e => retR r e fun d => aD rt d e) : sRet t e nx rt := q
theorem qeI (q : aD rt .non e) : qbT e nx rt := q
theorem jC (q : aD rt d e) : retR (.tmp d) e fun d => aD rt d e := q
theorem UT {m : Md} (h : e[i]? = some (some (d, .own))) (q : aD rt d e) : retR (.sl i) e fun d => aD rt d e := by
 unfold retR; simp only [h]; exact ⟨trivial, q⟩
theorem s_if {c : XT} {t u : XS} (q : c e fun b e => (b = true → t e nx rt) ∧ (b = false → u e nx rt)) : sIf c t u e nx rt := q
theorem jD {b : Bool} {A B G1 G2 : Prop} (h : ifP b A B) (h1 : b = true → A → G1) (h2 : b = false → B → G2) : (b = true → G1) ∧ (b = false → G2) := ⟨fun z => h1 z (h.1 z), fun z => h2 z (h.2 z)⟩
theorem qcl {b : Bool} {A B : (σ → Prop) → Prop} {k : σ → Prop} {t u : XS} (sh : σ → En → Prop) (h : ifW b A B k)
 (h1 : b = true → ∀ (kk : σ → Prop) (nx' : En → Prop), (∀ s e, sh s e → kk s → nx' e) → A kk → t e nx' rt) (h2 : b = false → ∀ (kk : σ → Prop) (nx' : En → Prop), (∀ s e, sh s e → kk s → nx' e) → B kk → u e nx' rt) (hJ : ∀ s e, sh s e → k s → aN nx e) :
 (b = true → t e nx rt) ∧ (b = false → u e nx rt) := ⟨fun z => h1 z _ _ hJ (h.1 z), fun z => h2 z _ _ hJ (h.2 z)⟩
theorem g_N {f : α → D} {v : α} {P : α → Prop} (ee : α → En) (h : lt v P) (hs : setOk e i = true) (he : ∀ x, e.set i (some (f x, .own)) = ee x) (q : ∀ x, P x → aN kE (ee x)) : gN i (.tmp (f v)) e kE :=
 ⟨hs, by show aN kE _; rw [he]; exact q v h⟩
theorem g_n (hs : setOk e i = true) (he : e.set i (some (d, .own)) = e') (q : aN kE e') : gN i (.tmp d) e kE := ⟨hs, by subst he; exact q⟩
theorem qec {c : Bool} (hs : setOk e i = true) (he : e.set i (some (d, roMd c)) = e') (q : aN kE e') : gN i (.ro c d) e kE := ⟨hs, by subst he; exact q⟩
theorem g_T {n : Nat} {gs : XGs} {xs : List D} (hn : xs.length = n) (q : gs none xs e kE) : gT n gs (.tmp (.tup xs)) e kE := ⟨hn, q⟩
theorem qf2 {n : Nat} {gs : XGs} {xs : List D} {c : Bool} (hn : xs.length = n) (q : gs (some c) xs e kE) : gT n gs (.ro c (.tup xs)) e kE := by
 unfold gT rd R.data; cases c <;> exact ⟨hn, q⟩
theorem yH {g : XG} {gs : XGs} {kd : Option Bool} {ds : List D} (q : g (mkI kd d) e fun e => gs kd ds e kE) : yg g gs kd (d :: ds) e kE := q
theorem WK {kd : Option Bool} (q : aN kE e) : vR kd [] e kE := q
variable {kI : List D → Option Bool → Lok → En → Prop} {xs : List D}
theorem yF {t : XE} (q : t e fun r e => rd 2 r e fun d => match d with
 | .lst xs => yW r e (fun kd lk e1 => aI kI xs kd lk e1) (immL xs)
 | .lF xs => yW r e (fun kd lk e1 => aI kI xs kd lk e1) (immL xs)
 | .tup xs => yW r e (fun kd lk e1 => aI kI xs kd lk e1) (immL xs)
 | _ => False) : iSeq t e kI := q
abbrev seqK (e : En) (kI : List D → Option Bool → Lok → En → Prop) (r : R) (d : D) : Prop := match d with
 | .lst xs => yW r e (fun kd lk e1 => aI kI xs kd lk e1) (immL xs)
 | .lF xs => yW r e (fun kd lk e1 => aI kI xs kd lk e1) (immL xs)
 | .tup xs => yW r e (fun kd lk e1 => aI kI xs kd lk e1) (immL xs)
 | _ => False
theorem UL {f : α → D} [Im f] {l : List α} (q : aI kI (l.map f) none none e) : (rd 2 (.tmp (eL f l)) e fun d => seqK e kI (.tmp (eL f l)) d) := ⟨imL l, q⟩
theorem qcf {f : α → D} [Im f] {l : List α} (q : aI kI (l.map f) none none e) : (rd 2 (.tmp (eV f l)) e fun d => seqK e kI (.tmp (eV f l)) d) := ⟨imL l, q⟩
theorem qag {f : α → D} {c : Bool} {l : List α} (q : aI kI (l.map f) (some c) none e) : (rd 2 (.ro c (eV f l)) e fun d => seqK e kI (.ro c (eV f l)) d) := by
 unfold rd R.data; cases c <;> exact q
theorem Jd {f : α → D} [Im f] {l : List α} {m : Md} (h : e[i]? = some (some (eL f l, m))) (hm : m.okL 2 = true) (he : e.set i (some (eL f l, .lk)) = e') (q : aI kI (l.map f) none (some (i, m)) e') : (rd 2 (.sl i) e fun d => seqK e kI (.sl i) d) := by
 subst he
 unfold rd R.data; simp only [h, hm]
 unfold eL at h ⊢
 simp only [seqK, yW, h]
 exact ⟨imL l, q⟩
theorem qaf {f : α → D} [Im f] {l : List α} {m : Md} (h : e[i]? = some (some (eV f l, m))) (hm : m.okL 2 = true) (he : e.set i (some (eV f l, .lk)) = e') (q : aI kI (l.map f) none (some (i, m)) e') : (rd 2 (.sl i) e fun d => seqK e kI (.sl i) d) := by
 subst he
 unfold rd R.data; simp only [h, hm]
 unfold eV at h ⊢
 simp only [seqK, yW, h]
 exact ⟨imL l, q⟩
def rng (a b : Int) : List Int := (List.range (b - a).toNat).map fun n => a + (n : Nat)
def uf (a b : Int) : Prop := -(2 ^ 62) ≤ a ∧ a < 2 ^ 62 ∧ -(2 ^ 62) ≤ b ∧ b < 2 ^ 62
theorem Xw {t : XE} (q : t e fun r e => rd 2 r e fun d => match d with
 | .int j => -(2 ^ 62) ≤ j ∧ j < 2 ^ 62 ∧ aI kI ((List.range j.toNat).map fun n => .int (n : Nat)) none none e
 | _ => False) : ju t e kI := q
theorem Y7 {b : Int} (h : uf 0 b) (q : aI kI ((rng 0 b).map D.int) none none e) : (rd 2 (.tmp (.int b)) e fun d => match d with
 | .int j => -(2 ^ 62) ≤ j ∧ j < 2 ^ 62 ∧ aI kI ((List.range j.toNat).map fun n => .int (n : Nat)) none none e
 | _ => False) := ⟨h.2.2.1, h.2.2.2, by
   have : (rng 0 b).map D.int = (List.range b.toNat).map fun n => .int (n : Nat) := by simp [rng]
   rw [← this]; exact q⟩
theorem qgo {t u : XE} (q : t e fun r e => u e fun r2 e2 => rd 2 r e2 fun d => rd 2 r2 e2 fun d2 => match d, d2 with
 | .int i, .int j => (-(2 ^ 62) ≤ i ∧ i < 2 ^ 62 ∧ -(2 ^ 62) ≤ j ∧ j < 2 ^ 62) ∧ aI kI ((List.range (j - i).toNat).map fun n => .int (i + (n : Nat))) none none e2
 | _, _ => False) : We t u e kI := q
theorem qfA {a b : Int} (h : uf a b) (q : aI kI ((rng a b).map D.int) none none e) : (rd 2 (.tmp (.int a)) e fun d => rd 2 (.tmp (.int b)) e fun d2 => match d, d2 with
 | .int i, .int j => (-(2 ^ 62) ≤ i ∧ i < 2 ^ 62 ∧ -(2 ^ 62) ≤ j ∧ j < 2 ^ 62) ∧ aI kI ((List.range (j - i).toNat).map fun n => .int (i + (n : Nat))) none none e
 | _, _ => False) := ⟨h, by
   have : (rng a b).map D.int = (List.range (b - a).toNat).map fun n => .int (a + (n : Nat)) := by simp [rng]
   rw [← this]; exact q⟩
theorem Q8 {it : XI} {g : XG} {tb : XS} (q : it e fun ds kd lk e1 => forL g tb kd ds e1 (fun e2 => thaw lk e2 nx) (fun d e2 => thaw lk e2 fun e3 => aD rt d e3)) : sFor it g tb e nx rt := q
theorem Qi {g : XG} {tb : XS} {kd : Option Bool} {fI : α → D} {body : α → σ → (σ → Prop) → Prop} {k : σ → Prop} (sh : σ → En → Prop) :
 ∀ {l : List α} {s0 : σ} {e : En}, forW l s0 body k → sh s0 e →
 (∀ a, a ∈ l → ∀ s e, sh s e → ∀ (kk : σ → Prop) (nx' : En → Prop), (∀ s' e', sh s' e' → kk s' → nx' e') → body a s kk → g (mkI kd (fI a)) e fun e1 => tb e1 nx' rt) →
 (∀ s e, sh s e → k s → aN nx e) → forL g tb kd (l.map fI) e nx rt
 | [], s0, e, h, h0, hb, hn => hn _ _ h0 h
 | a :: l, s0, e, h, h0, hb, hn => hb a (List.mem_cons_self ..) s0 e h0 _ _ (fun s' e' hs hk => Qi sh hk hs (fun a ha => hb a (List.mem_cons_of_mem _ ha)) hn) h
theorem s_while {c : XT} {tb : XS} {s0 : σ} {step : σ → (σ → Prop) → Prop} (sh : σ → En → Prop) (h : whW s0 step) (h0 : sh s0 e)
 (hb : ∀ s e, sh s e → ∀ (kk : σ → Prop) (nx' : En → Prop), (∀ s' e', sh s' e' → kk s' → nx' e') → step s kk → c e fun b e1 => (b = true → tb e1 nx' rt) ∧ (b = false → aN nx e1)) : Zt c tb e nx rt := by
 obtain ⟨I, ⟨m0, i0⟩, turn⟩ := h
 refine ⟨fun m e => ∃ s, sh s e ∧ I m s, ⟨m0, s0, h0, i0⟩, fun m e ⟨s, hs, hi⟩ => hb s e hs _ _ (fun s' e' hs' ⟨m', hm, hi'⟩ => ⟨m', hm, s', hs', hi'⟩) (turn m s hi)⟩
theorem c_lc {it : XI} {g : XG} {tt : XT} {te : XE} {vs : List Nat} (q : it e fun ds kd lk e1 => (vs.all fun v => setOk e1 v) = true ∧ lcL g tt te kd vs ds (wD vs e1) [] fun acc e2 => thaw lk (uC vs e1 e2) fun e3 => aR Q (.tmp (.lst acc)) e3) : dLc it g tt te vs e Q := q
theorem qbk {A B : En → Prop} (q : A e) : xYes e fun b e2 => (b = true → A e2) ∧ (b = false → B e2) := ⟨fun _ => q, fun z => nomatch z⟩
theorem qfC {g : XG} {tt : XT} {te : XE} {kd : Option Bool} {vs : List Nat} {kk : List D → En → Prop} {fI : α → D} {fo : β → D} {l : List α} (p : α → Bool) (F : α → β) (hs : (vs.all fun v => setOk e1 v) = true) (hl : l.length ≤ sizeLine) (he : wD vs e1 = e)
 (hb : ∀ a ∈ l, ∀ (c : Prop) (k1 : D → En → Prop) (k2 : En → Prop), c → (p a = true → k1 (fo (F a)) e) → (p a = false → k2 e) → g (mkI kd (fI a)) e fun e1 => tt e1 fun b e2 => (b = true → te e2 fun r e3 => stor r e3 fun dd => c ∧ k1 dd (wD vs e3)) ∧ (b = false → k2 (wD vs e2)))
 (q : aK kk (((l.filter p).map F).map fo) e) : (vs.all fun v => setOk e1 v) = true ∧ lcL g tt te kd vs (l.map fI) (wD vs e1) [] kk := by
 refine ⟨hs, ?_⟩
 rw [he]
 exact QJ p (fun a => fo (F a)) fI l [] (by simpa using hl) (by rw [List.map_map] at q; exact q) fun a ha c k1 k2 hc h1 h2 => hb a ha c k1 k2 hc h1 h2
theorem Yd {g : XG} {te : XE} {kd : Option Bool} {vs : List Nat} {kk : List D → En → Prop} {fI : α → D} {fo : β → D} {l : List α} (F : α → β) (hs : (vs.all fun v => setOk e1 v) = true) (hl : l.length ≤ sizeLine) (he : wD vs e1 = e)
 (hb : ∀ a ∈ l, ∀ (c : Prop) (k1 : D → En → Prop), c → k1 (fo (F a)) e → g (mkI kd (fI a)) e fun e1 => te e1 fun r e3 => stor r e3 fun dd => c ∧ k1 dd (wD vs e3))
 (q : aK kk ((l.map F).map fo) e) : (vs.all fun v => setOk e1 v) = true ∧ lcL g xYes te kd vs (l.map fI) (wD vs e1) [] kk := by
 refine ⟨hs, ?_⟩
 rw [he]
 exact qd5 (fun a => fo (F a)) fI l hl (by rw [List.map_map] at q; exact q) hb
theorem o_el {c : Prop} {k1 : D → En → Prop} {vs : List Nat} {E : En} (h : St e r d) (hc : c) (he : wD vs e = E) (q : k1 d E) : stor r e fun dd => c ∧ k1 dd (wD vs e) := h _ ⟨hc, by rw [he]; exact q⟩
theorem QC {g : XG} {tt : XT} {te : XE} {kd : Option Bool} {vs : List Nat} {kk : List D → En → Prop} {fI : α → D} {fo : β → D} {body : α → σ → (Option β → σ → Prop) → Prop} {k : List β → σ → Prop} (sh : σ → En → Prop) {l : List α} {s0 : σ} (h : lcW l [] s0 body k) (hs : (vs.all fun v => setOk e1 v) = true) (hl : l.length ≤ sizeLine) (h0 : sh s0 (wD vs e1))
 (hb : ∀ a ∈ l, ∀ s e, sh s e → ∀ (w : Option β → σ → Prop) (c : Prop) (k1 : D → En → Prop) (k2 : En → Prop), c → (∀ b s' e', sh s' e' → w (some b) s' → k1 (fo b) e') → (∀ s' e', sh s' e' → w none s' → k2 e') → body a s w →
  g (mkI kd (fI a)) e fun e1 => tt e1 fun b e2 => (b = true → te e2 fun r e3 => stor r e3 fun dd => c ∧ k1 dd (wD vs e3)) ∧ (b = false → k2 (wD vs e2)))
 (hn : ∀ acc s e, sh s e → k acc s → aK kk (acc.map fo) e) : (vs.all fun v => setOk e1 v) = true ∧ lcL g tt te kd vs (l.map fI) (wD vs e1) [] kk := by
 refine ⟨hs, ?_⟩
 have main : ∀ (m : List α) (acc : List β) (s : σ) (e : En), (∀ a ∈ m, a ∈ l) → acc.length + m.length ≤ sizeLine → lcW m acc s body k → sh s e → lcL g tt te kd vs (m.map fI) e (acc.map fo) kk := by
  intro m
  induction m with
  | nil => intro acc s e _ _ h hs; exact hn _ _ _ hs h
  | cons a m ih =>
    intro acc s e hm hlen h hsh
    rw [List.length_cons] at hlen
    refine hb a (hm a (List.mem_cons_self ..)) s e hsh _ ((acc.map fo).length < sizeLine) (fun dd e => lcL g tt te kd vs (m.map fI) e (acc.map fo ++ [dd]) kk) (fun e => lcL g tt te kd vs (m.map fI) e (acc.map fo) kk) (by rw [List.length_map]; omega) (fun b s' e' hs' hw => ?_) (fun s' e' hs' hw => ?_) h
    ·have := ih (acc ++ [b]) s' e' (fun x hx => hm x (List.mem_cons_of_mem _ hx)) (by simp; omega) hw hs'
     rw [List.map_append] at this
     exact this
    ·have hw' : lcW m acc s' body k := by simpa using hw
     exact ih acc s' e' (fun x hx => hm x (List.mem_cons_of_mem _ hx)) (by omega) hw' hs'
 exact main l [] s0 _ (fun _ h => h) (by simpa using hl) h h0
theorem c_m1 {isT : D → Bool} {B : B1} {te : XE} {m : Md} (h : e[i]? = some (some (d, m))) (hb : D.big d = true) (hm : m = .own ∨ m = .io := by decide) (ht : isT d = true) (q : te e fun r2 e2 => B (.sl i) r2 e2 Q) : dM1 isT B (dVar i) te e Q := by
 unfold dM1 dVar
 rw [h]
 have key : (rd 2 (.sl i) e fun d => isT d = true) ∧ te e fun r2 e2 => B (.sl i) r2 e2 Q := ⟨by
  unfold rd R.data
  rcases hm with rfl | rfl <;> (simp only [h]; exact ht), q⟩
 rcases hm with rfl | rfl <;> cases d <;> first | (cases hb; done) | exact key
theorem QD {f : α → D} {l : List α} {v : α} {m : Md} {P : List α → Prop} (ee : List α → En) (h : lt (l ++ [v]) P) (hr : St e r (f v)) (h0 : e[i]? = some (some (eL f l, m))) (hl : l.length < sizeLine) (he : ∀ x, e.set i (some (eL f x, m)) = ee x) (q : ∀ x, P x → aR Q (.tmp .non) (ee x)) (hm : m = .own ∨ m = .io := by decide) : bAppend (.sl i) r e Q := by
 refine hr _ ?_
 have q := q _ h
 rw [← he] at q
 unfold eL at h0 q
 rw [List.map_append] at q
 unfold chgL chg
 rcases hm with rfl | rfl <;> (simp only [h0]; exact ⟨by simpa using hl, q⟩)
theorem ZC {f : α → D} {l ys : List α} {m : Md} {P : List α → Prop} (ee : List α → En) (h : lt (l ++ ys) P) (h0 : e[i]? = some (some (eL f l, m))) (hl : l.length + ys.length ≤ sizeLine) (he : ∀ x, e.set i (some (eL f x, m)) = ee x) (q : ∀ x, P x → aR Q (.tmp .non) (ee x)) (hm : m = .own ∨ m = .io := by decide) : vI (.sl i) (.tmp (eL f ys)) e Q := by
 have q := q _ h
 rw [← he] at q
 unfold eL at h0 q ⊢
 rw [List.map_append] at q
 rw [vI, xSeT]
 unfold chgL chg
 rcases hm with rfl | rfl <;> (simp only [h0]; exact ⟨by simpa using hl, q⟩)
theorem s_aug {g : Int → Int → Int} {te : XE} {a : Int} {m : Md} (h : e[i]? = some (some (.int a, m))) (q : te e fun r e1 => rd 2 r e1 fun d => intD d fun w => setOk e1 i = true ∧ aN nx (e1.set i (some (.int (g a w), .own)))) : sAug g i te e nx rt := by
 unfold sAug; rw [h]; exact q
theorem qfD {g : Int → Int → Int} {a w : Int} {P : Int → Prop} (ee : Int → En) (hw : Rv e 2 r (.int w)) (h : lt (g a w) P) (hs : setOk e i = true) (he : ∀ x, e.set i (some (.int x, .own)) = ee x) (q : ∀ x, P x → aN nx (ee x)) : rd 2 r e fun d => intD d fun w => setOk e i = true ∧ aN nx (e.set i (some (.int (g a w), .own))) :=
 hw.rd ⟨hs, by rw [he]; exact q _ h⟩
theorem Ut {u : XA} (q : u e fun rs e => jZ rs e fun ds => match ds with
 | [d1, d2] => setOk e i = true ∧ setOk e j = true ∧ aN nx ((e.set i (some (d1, .own))).set j (some (d2, .own)))
 | _ => False) : sPar i j u e nx rt := q
theorem UV {f : α → D} {g : β → D} {v : α} {w : β} {P : α → β → Prop} (ee : α → β → En) (h1 : St e r1 (f v)) (h2 : St e r2 (g w)) (h : lt v fun x => lt w (P x)) (hs : setOk e i = true) (hs2 : setOk e j = true) (he : ∀ x y, (e.set i (some (f x, .own))).set j (some (g y, .own)) = ee x y) (q : ∀ x y, P x y → aN nx (ee x y)) :
 jZ [r1, r2] e fun ds => match ds with
 | [d1, d2] => setOk e i = true ∧ setOk e j = true ∧ aN nx ((e.set i (some (d1, .own))).set j (some (d2, .own)))
 | _ => False := h1 _ (h2 _ ⟨hs, hs2, by rw [he]; exact q v w h⟩)
end
end TX
namespace TX
open PySem PySem.Spec PyProof.Rows L2 BX
section
variable {e e1 e' : En} {L : Nat} {r r1 r2 r' : R} {d d1 d2 d3 : D} {Q : R → En → Prop} {QB : Bool → En → Prop} {nx : En → Prop} {rt : D → En → Prop} {i j : Nat} {α β γ κ σ : Type} {kE : En → Prop}
theorem uF {t : XS} (he : e = e') (q : t e' nx rt) : t e nx rt := by rw [he]; exact q
theorem uZ {m : Md} (h : e[i]? = some (some (d, .lk))) (he : e.set i (some (d, m)) = e') (q : aN kE e') : thaw (some (i, m)) e kE := by
 subst he; unfold thaw; simp only [h]; exact q
theorem wM (q : aN kE e) : thaw none e kE := q
theorem yD {lk : Lok} {vs : List Nat} (he : uC vs e1 e = e') (q : thaw lk e' kE) : thaw lk (uC vs e1 e) kE := by rw [he]; exact q
theorem all1 {v : Nat} (h : setOk e v = true) : (([v] : List Nat).all fun v => setOk e v) = true := by simp [h]
theorem all2 {v w : Nat} (h : setOk e v = true) (h2 : setOk e w = true) : (([v, w] : List Nat).all fun v => setOk e v) = true := by simp [h, h2]
theorem qjB {kf : κ → List Key} {f : α → D} (q : aR Q (.tmp (eDT kf f [])) e) : dC (.dT []) e Q := q
theorem yV {rs : List R} (f : α → D) (l : List α) (h : StL e rs (l.map f)) (q : aR Q (.tmp (eL f l)) e) (hl : rs.length ≤ 1000 := by simp) : rs.length ≤ 1000 ∧ jZ rs e fun ds => aR Q (.tmp (.lst ds)) e := qjb h q hl
theorem qce (f : α → D) (q : aR Q (.tmp (eV f [])) e) : ([] : List R).length ≤ 1000 ∧ jZ [] e fun ds => aR Q (.tmp (.tup ds)) e := ⟨Nat.zero_le _, q⟩
theorem zM (f : α → D) (g : β → D) (a : α) (b : β) (h : StL e [r1, r2] [f a, g b]) (q : aR Q (.tmp (eT2 f g (a, b))) e) : [r1, r2].length ≤ 1000 ∧ jZ [r1, r2] e fun ds => aR Q (.tmp (.tup ds)) e := qhg h q
theorem qeN {r3 r4 : R} (f : α → D) (g : β → D) (i : γ → D) (j : κ → D) (a : α) (b : β) (c : γ) (k : κ) (h : StL e [r1, r2, r3, r4] [f a, g b, i c, j k]) (q : aR Q (.tmp (eT4 f g i j (a, b, c, k))) e) : [r1, r2, r3, r4].length ≤ 1000 ∧ jZ [r1, r2, r3, r4] e fun ds => aR Q (.tmp (.tup ds)) e := qhg h q
section
variable {δ : Type} {f : α → D} {g : β → D} {h : γ → D} {i : δ → D}
theorem Jp {p : α × β} : IxTo (eT2 f g p) (.int 0) (f p.1) := ix_T (by rfl)
theorem Vi {p : α × β} : IxTo (eT2 f g p) (.int 1) (g p.2) := ix_T (by rfl)
theorem qfZ {p : α × β × γ × δ} : IxTo (eT4 f g h i p) (.int 0) (f p.1) := ix_T (by rfl)
theorem qfY {p : α × β × γ × δ} : IxTo (eT4 f g h i p) (.int 1) (g p.2.1) := ix_T (by rfl)
theorem qfX {p : α × β × γ × δ} : IxTo (eT4 f g h i p) (.int 2) (h p.2.2.1) := ix_T (by rfl)
theorem qfW {p : α × β × γ × δ} : IxTo (eT4 f g h i p) (.int 3) (i p.2.2.2) := ix_T (by rfl)
end
theorem qcn {b : Bool} {s0 : σ} {u : XT} {A : (Bool × σ → Prop) → Prop} {k : Bool × σ → Prop} (sh : σ → En → Prop) (h : ifW b A (fun kk => kk (false, s0)) k) (h0 : sh s0 e)
 (h1 : b = true → ∀ (kk : Bool × σ → Prop) (N : Bool → En → Prop), (∀ (v : Bool × σ) e, sh v.2 e → kk v → aB N v.1 e) → A kk → u e N) (hJ : ∀ (v : Bool × σ) e, sh v.2 e → k v → aB QB v.1 e) :
 (b = true → u e QB) ∧ (b = false → aB QB false e) := ⟨fun z => h1 z _ _ hJ (h.1 z), fun z => hJ (false, s0) _ h0 (h.2 z)⟩
theorem qck {b : Bool} {s0 : σ} {u : XT} {A : (Bool × σ → Prop) → Prop} {k : Bool × σ → Prop} (sh : σ → En → Prop) (h : ifW b (fun kk => kk (true, s0)) A k) (h0 : sh s0 e)
 (h1 : b = false → ∀ (kk : Bool × σ → Prop) (N : Bool → En → Prop), (∀ (v : Bool × σ) e, sh v.2 e → kk v → aB N v.1 e) → A kk → u e N) (hJ : ∀ (v : Bool × σ) e, sh v.2 e → k v → aB QB v.1 e) :
 (b = true → aB QB true e) ∧ (b = false → u e QB) := ⟨fun z => hJ (true, s0) _ h0 (h.1 z), fun z => h1 z _ _ hJ (h.2 z)⟩
theorem qhi {b : Bool} {s0 : σ} {u : XE} {A : (Bool × σ → Prop) → Prop} {k : Bool × σ → Prop} (sh : σ → En → Prop) (h : ifW b (fun kk => kk (true, s0)) A k) (h0 : sh s0 e)
 (h1 : b = false → ∀ (kk : Bool × σ → Prop) (N : R → En → Prop), (∀ (v : Bool × σ) e, sh v.2 e → kk v → aR N (.tmp (.bl v.1)) e) → A kk → u e N) (hJ : ∀ (v : Bool × σ) e, sh v.2 e → k v → aR Q (.tmp (.bl v.1)) e) :
 (b = true → aR Q (.tmp (.bl b)) e) ∧ (b = false → u e Q) := ⟨fun z => by
 have := hJ (true, s0) _ h0 (h.1 z)
 rw [z]; exact this, fun z => h1 z _ _ hJ (h.2 z)⟩
theorem qhj {g : XG} {tt : XT} {te : XE} {kd : Option Bool} {vs : List Nat} {kk : List D → En → Prop} {fI : α → D} {fo : α → D} {l : List α} (p : α → Bool) (hs : (vs.all fun v => setOk e1 v) = true) (hl : l.length ≤ sizeLine) (he : wD vs e1 = e)
 (hb : ∀ a ∈ l, ∀ (c : Prop) (k1 : D → En → Prop) (k2 : En → Prop), c → (p a = true → k1 (fo a) e) → (p a = false → k2 e) → g (mkI kd (fI a)) e fun e1 => tt e1 fun b e2 => (b = true → te e2 fun r e3 => stor r e3 fun dd => c ∧ k1 dd (wD vs e3)) ∧ (b = false → k2 (wD vs e2)))
 (q : aK kk ((l.filter p).map fo) e) : (vs.all fun v => setOk e1 v) = true ∧ lcL g tt te kd vs (l.map fI) (wD vs e1) [] kk := qfC (fo := fo) p (fun a => a) hs hl he hb (by simpa using q)
theorem qaG {S S' : FS} {n : Nat} {t : XS} (b : BodyOk S n t) (hm : S.ms = S'.ms) (hw : ∀ ds Q, S'.wp ds Q → S.wp ds Q) : BodyOk S' n t := by
 intro ds Q hl h
 have := b ds Q (by rw [hm]; exact hl) (hw ds Q h)
 have he : outD S ds Q = outD S' ds Q := funext fun d => funext fun e => by unfold outD; rw [hm]
 rw [hm, he] at this
 exact this
end
end TX
namespace TX
open PySem PySem.Spec PyProof.Rows L2 BX
section
variable {e e1 e' : En} {L : Nat} {r r1 r2 r3 r' : R} {d d1 d2 d3 : D} {Q : R → En → Prop} {i j : Nat} {α β γ κ σ : Type} {kI : List D → Option Bool → Lok → En → Prop}
theorem c_mn {isT : D → Bool} {B : Bn} {u : XA} (h0 : vr e i = some r) (hr : Rv e 1 r d) (ht : isT d = true) (q : u e fun rs e2 => B r rs e2 Q) : dMn isT B (dVar i) u e Q := ql h0 ⟨hr.rd ht, q⟩
section
variable [DecidableEq κ] {c : κ → D} {kf : κ → List Key} [hk : Kt c kf] {f : α → D} [hf : Im f] {l : List (κ × α)} {k : κ} {v : α}
theorem qhk (h1 : Rv e 1 r1 (eDT kf f l)) (h2 : Rv e 1 r2 (c k)) (h3 : Rv e 1 r3 (f v)) (q : aR Q (.tmp (f ((getA l k).getD v))) e) : bGet r1 [r2, r3] e Q := by
 refine h1.rd (h2.rd (h3.rd ⟨hf.im v, ?_⟩))
 obtain ⟨ds, e1, e2⟩ := hk.key k
 rw [e1]
 unfold eDT Jj
 simp only [e2, qd2 (c := c)]
 cases h : getA l k with
 | none => rw [h] at q; exact q
 | some a => rw [h] at q; exact ⟨hf.im a, q⟩
theorem qd9 : ∀ l : List (κ × α), immL ((l.map fun p => (kf p.1, f p.2)).map (·.2)) = true := fun l => QL fun d hd => by
 simp only [List.map_map, List.mem_map, Function.comp] at hd
 obtain ⟨p, _, rfl⟩ := hd
 exact hf.im _
theorem qi9 {ys : List (κ × α)} {m : Md} {P : List (κ × α) → Prop} (ee : List (κ × α) → En) (h : lt (xW l ys) P) (hr : Rv e 1 r2 (eL (eT2 c f) ys)) (h0 : e[i]? = some (some (eDT kf f l, m))) (hl : l.length + ys.length ≤ sizeLine) (he : ∀ x, e.set i (some (eDT kf f x, m)) = ee x) (q : ∀ x, P x → aR Q (.tmp .non) (ee x)) (hm : m = .own ∨ m = .io := by decide) :
 bUpd (.sl i) [r2] e Q := by
 have q := q _ h
 rw [← he] at q
 refine hr.rd ?_
 unfold eDT at h0 q
 unfold eL
 simp only [Zv (c := c) (f := f)]
 rw [← Zu (c := c)] at q
 unfold chgT chg
 rcases hm with rfl | rfl <;> (simp only [h0]; exact ⟨qd9 l, by simpa using hl, q⟩)
end
theorem qhr {l : List Int} {m : Int} (h : l.max? = some m) : OpN (op1 qbp) [eL .int l] (.int m) := fun k q => by unfold op1 qbp eL; simp only [QK]; exact ⟨m, h, q⟩
end
end TX
namespace TX
open PySem PySem.Spec PyProof.Rows L2 BX
end TX
namespace TX
open PySem PySem.Spec PyProof.Rows L2 BX
abbrev aO (Q : Option Int → En → Prop) (o : Option Int) (e : En) : Prop := Q o e
def eDF {α κ : Type} (kf : κ → List Key) (f : α → D) (l : List (κ × α)) : D := .dF (l.map fun p => (kf p.1, f p.2))
def cutA {α : Type} (xs : List α) (lo hi : Option Int) : List α := (xs.drop (HT.sIx xs.length 0 lo)).take (HT.sIx xs.length xs.length hi - HT.sIx xs.length 0 lo)
theorem qen {α : Type} {f : α → D} (xs : List α) (lo hi : Option Int) : BX.cutD (xs.map f) lo hi = (cutA xs lo hi).map f := by
 unfold BX.cutD cutA
 rw [List.length_map, List.map_take, List.map_drop]
theorem qel : ∀ {d : D} {k : Key}, dKey d = some k → d = kD k := fun {d k} h => by
 cases d with
 | int i => rw [dKey] at h; cases h; rfl
 | str s => rw [dKey] at h; cases h; rfl
 | _ => rw [dKey] at h <;> first | (cases h) | (intro i z; cases z)
theorem JG : ∀ {ds : List D} {ks : List Key}, jd ds = some ks → ds = ks.map kD
 | [], ks, h => by rw [jd] at h; cases h; rfl
 | d :: ds, ks, h => by
   rw [jd] at h
   split at h
   ·rename_i k ks' h1 h2
    cases h
    rw [qel h1, JG h2]; rfl
   ·cases h
section
variable {e e1 e' : En} {L : Nat} {r r1 r2 r3 r' : R} {d d1 d2 d3 : D} {Q : R → En → Prop} {QO : Option Int → En → Prop} {nx : En → Prop} {rt : D → En → Prop} {i j m : Nat} {α β γ κ σ : Type} {kI : List D → Option Bool → Lok → En → Prop}
def memB [DecidableEq α] (a : α) (l : List α) : Bool := decide (a ∈ l)
theorem qdY [DecidableEq α] {a : α} {l : List α} : memB a l = true ↔ a ∈ l := by unfold memB; exact decide_eq_true_iff
theorem qgn {t : XE} {lo hi : XO} (q : t e fun r e => lo e fun l e1 => hi e1 fun u e2 => rd 1 r e2 fun d => Zk d l u fun d' => aR Q (.tmp d') e2) : qc4 t lo hi e Q := q
theorem qgq (q : aO QO none e) : qfF e QO := q
theorem qgp {t : XE} (q : t e fun r e => rd 2 r e fun d => intD d fun z => aO QO (some z) e) : qfE t e QO := q
theorem qfB {z : Int} (h : Rv e 2 r (.int z)) (q : aO QO (some z) e) : rd 2 r e fun d => intD d fun z => aO QO (some z) e := h.rd q
theorem qja {f : α → D} [hf : Im f] {l : List α} {lo hi : Option Int} (h : Rv e 1 r (eV f l)) (q : aR Q (.tmp (eV f (cutA l lo hi))) e) : rd 1 r e fun d => Zk d lo hi fun d' => aR Q (.tmp d') e := by
 refine h.rd ?_
 unfold eV at q ⊢
 rw [← qen] at q
 exact ⟨imL l, q⟩
theorem qfH {l : List Int} {m : Int} (h : l.max? = some m) : OpN (op1 qdh) [eL .int l] (.int m) := fun k q => qhr h k q
end
end TX
namespace TX
open PySem PySem.Spec PyProof.Rows L2 BX
end TX
namespace TX
open PySem PySem.Spec PyProof.Rows L2 BX
section
variable {e e1 e' : En} {r r1 r2 r3 : R} {Q : R → En → Prop} {i : Nat} {α κ : Type} {n : Nat}
theorem qcO : ∀ {d : D}, BX.isNon d = false → PyData.eqv .none d.py = false ∧ PyData.eqv d.py .none = false := fun {d} h => by
 cases d <;> first | (cases h; done) | (constructor <;> simp [D.py, PyData.eqv])
instance [DecidableEq α] {f : α → D} [hf : Eqd f n] [hn : Nn f] : Eqd (eO f) n := ⟨fun a => by
 cases a with
 | none => exact ⟨by simp [eO, D.py, PyData.canLay0], by simp [eO, D.py, PyData.depth]⟩
 | some x => exact hf.lay x, fun a b => by
 cases a with
 | none => cases b with
   | none => simp [eO, D.py, PyData.eqv]
   | some y => rw [show (eO f none).py = .none by simp [eO, D.py], show (eO f (some y)) = f y from rfl, (qcO (hn.nn y)).1]; simp
 | some x => cases b with
   | none => rw [show (eO f none).py = .none by simp [eO, D.py], show (eO f (some x)) = f x from rfl, (qcO (hn.nn x)).2]; simp
   | some y => rw [show (eO f (some x)) = f x from rfl, show (eO f (some y)) = f y from rfl, hf.eq]; simp⟩
end
end TX
namespace TX
open PySem PySem.Spec PyProof.Rows L2 BX
section
variable {α : Type} [DecidableEq α] {f : α → D} {l : List α} {e : En} {r : R} {Q : R → En → Prop}
class Inj {α : Type} (tl : α → List Int) : Prop where
 inj : ∀ a b, tl a = tl b → a = b
instance : Inj tl2 := ⟨fun a b h => by simp only [tl2, List.cons.injEq, and_true] at h; exact Prod.ext h.1 h.2⟩
instance : Inj tl3 := ⟨fun a b h => by simp only [tl3, List.cons.injEq, and_true] at h; exact Prod.ext h.1 (Prod.ext h.2.1 h.2.2)⟩
instance : Inj tl4 := ⟨fun a b h => by simp only [tl4, List.cons.injEq, and_true] at h; exact Prod.ext h.1 (Prod.ext h.2.1 (Prod.ext h.2.2.1 h.2.2.2))⟩
end
end TX
namespace TX
open PySem PySem.Spec PyProof.Rows L2 BX
end TX
namespace TX
open PySem PySem.Spec PyProof.Rows L2 BX
def qfM {α : Type} : List ((Int × Int) × α) → Option (Int × Int)
 | [] => none
 | p :: ps => some (minP p.1 (ps.map (·.1)))
theorem Jo {α : Type} {f : α → D} : ∀ l : List ((Int × Int) × α), Vh (l.map fun p => (kf2 Sum.inl Sum.inl p.1, f p.2)) = some (l.map (·.1))
 | [] => rfl
 | p :: l => by
   rw [List.map_cons]
   show (Vh _).map _ = _
   rw [Jo l]
   rfl
theorem qhq {α : Type} {f : α → D} {l : List ((Int × Int) × α)} {m : Int × Int} (h : qfM l = some m) : OpN (op1 qbn) [eDT (kf2 Sum.inl Sum.inl) f l] (eT2 .int .int m) := fun k q => by
 unfold op1 eDT qbn
 dsimp only
 rw [Jo]
 cases l with
 | nil => cases h
 | cons p ps => cases h; exact q
end TX
namespace BX
open PySem TX
end BX
namespace TX
open PySem PySem.Spec PyProof.Rows L2 BX
section
variable {e : En} {Q : R → En → Prop} {kI : List D → Option Bool → Lok → En → Prop}
theorem JP {t : XE} (q : t e fun r e => rd 1 r e fun d => d.imm = true ∧ aR Q (.tmp d) e) : dTmp t e Q := q
theorem Jc {r : R} {d : D} (hr : Rv e 1 r d) (hi : d.imm = true) (q : aR Q (.tmp d) e) : rd 1 r e fun d => d.imm = true ∧ aR Q (.tmp d) e := hr.rd ⟨hi, q⟩
end
end TX
namespace TX
open PySem PySem.Spec PyProof.Rows L2 BX
end TX
namespace TX
open PySem PySem.Spec PyProof.Rows L2 BX
section
variable {e e' : En} {Q : R → En → Prop} {i : Nat} {r r1 r2 r' : R} {nx : En → Prop} {rt : D → En → Prop}
inductive Rc : R → D → Prop
 | ro {c : Bool} {d : D} : Rc (.ro c d) d
 | tmp {d : D} : d.imm = true → Rc (.tmp d) d
theorem Rc.go {d : D} (h : Rc r d) {k : D → Prop} (q : k d) : rdC r k := by
 cases h with
 | ro => exact q
 | tmp im => exact ⟨im, q⟩
theorem qjn {c : Int × Int} {i a : Int} (h : atI [c.1, c.2] i = some a) : IxTo (eT2 D.int D.int c) (.int i) (.int a) := ix_T (ds := [D.int c.1, D.int c.2]) (vJ (f := D.int) h)
end
end TX
namespace TX
open PySem PySem.Spec PyProof.Rows L2 BX
end TX
namespace TX
open PySem PySem.Spec PyProof.Rows L2 BX
end TX
namespace BX
open PySem TX
end BX
namespace COM
open PySem PySem.Spec PyProof.Rows L2 BX
local macro_rules
 | `(tactic| and_intros) => `(tactic| simp -implicitDefEqProofs only [sNil, sSeq, Qx, sRet, qbT, sIf, qg3, sAsg, dC, dG, dLst, dTup, aNil, qp, dBin, dAnd, dOr, dNot, dIf, xVal, xAnd, xOr, xNot, xYes, dIdx, dCall, dM1, bAppend, vI, wD, uC, opEq, opNe, sFor, dLc, dNeg, qgg, xIsi, qfa, nob, sPar, sAug, sPut, qf0, dChn, eq_self, true_implies, decide_true, Bool.not_true, decide_false, putB, JV, wQ, isSl, Md.rd, Option.map_none, Option.map_some, Bool.not_true, Bool.not_false, Bool.false_and, Bool.and_false, Nat.reduceBEq, Bool.or_true, Bool.true_or, Bool.or_false, Bool.false_or, Bool.or_self, xVar, xRdS, xRd2, qis, qe6, qe5, qir, qik, xVbl, qie, qif, qid, qij, xVdT, xVdK, qig, qgx, qgw, qii, qih, xRdT, qit, qdx, qe9, qe8, qe7, xElT, xElR, xElS, qiD, xMbl, qiA, qiB, qiz, qiC, xMdT, xMdK, xStT, xStR, xStS, xSeT, xSmL, xChL, xChT, xChG, xCsO, xCsI, xLm, xTm, xReT, xReR, xReS, qiq, qip, qio, qgG, qgF, xSn, qgD, qin, qgE, xGnT, xGnR, xGnS, xGns, xRmF, xRmT, xMkN, xMkS, xGT, xTT, xKdT, xKdR, xKdS, xGsN, xGsC, xThN, xThS, xTs, xLoT, xLoR, xLoS, xLos, xSeq, xSqL, xSqT, xR1, xR1i, xR2, xR2i, qiV, qiT, qiU, qiS, qiy, qix, xOpI, xOpC, xLtI, qgC, qim, qgB, qgy, qil, qgA, qgz, qgM, qgR, qiI, qiP, qgJ, qgO, qgI, qgN, qgL, qgQ, qiG, qiN, qiH, qiO, qgK, qgP, xIsB, xInB, xInT, xInL, qiQ, xInS, xIxL, xIxT, xIxD, xOp, xLnL, xLnT, xLnS, xLnD, xLnK, xAbs, qiK, qiM, xMin, xMax, xTuL, xTuT, xLiL, xLiT, xAll, xAny, xSum, xOp1, xOp2, xIsl, xImI, xImB, xImS, xImN, xImT, xImC, xImE, xSlN, xSlC, xRaN, xRaC, qiJ, qiL, xBlD, xPut, qiv, qiu, xOpN, xSoL, xSoT, xSoD, xAt0, xAt1, xAt2, xAt3, xZiR, xZiT, qiw, qgH, qbF, qdw, qbH, qbE, qbD, qbG, qdu, qdv, qaY, qbK, qa0, qaX, qaW, qaZ, qbI, qbJ, qbx, qdt, qbz, qbw, qbv, qby, qdr, qds, J9, qaQ, Ub, J8, J5, Ua, qaO, qaP, qaT, qbC, qaV, qaS, qaR, qaU, qbA, qbB, qgT, qiR, qgS, xDqI, xDqB, xDqS, xKe2, xKe3, xKe4, qiF, qiE, xOkA, xOkB, xOkC, xIoO, xIoI, List.getElem?_cons_zero, List.getElem?_cons_succ, List.set_cons_zero, List.set_cons_succ, List.length_cons, List.length_nil, List.getD_cons_zero, List.getD_cons_succ, true_and, and_true, Bool.and_self, Bool.and_true, Bool.true_and, List.all_cons, List.all_nil, List.nil_append, List.cons_append, forall_const, Nat.reduceAdd, Nat.reduceLeDiff, Nat.reduceSub, Nat.reduceMul, reduceCtorEq, false_implies, penv, BX.fill, List.zipWith_cons_cons, List.zipWith_nil_left, List.zipWith_nil_right, List.replicate_succ, List.replicate_zero, Nat.zero_add])
def uI : XS :=
 (sSeq (sAsg (dC (.int 0)) (gN 2))
 (sSeq (sIf (xVal (dBin 2 opLt (dVar 1) (dCall 2 (op1 bLen) (qp (dVar 0) aNil)))) (sAsg (dIdx (dVar 0) (dVar 1)) (gN 2)) sNil)
 (sSeq (sAsg (dBin 1 vB (dCall 2 (op1 bAbs) (qp (dVar 2) aNil)) (dCall 2 (op1 bInt) (qp (dBin 2 opGe (dCall 2 (op1 bAbs) (qp (dVar 2) aNil)) (dBin 2 qha (dC (.int 10)) (dC (.int 18)))) aNil))) (gN 3))
 (sRet (dLst (qp (dVar 3) (qp (dBin 2 vC (dBin 1 vB (dBin 2 vC (dBin 1 wU (dBin 1 wU (dVar 2) (dBin 1 vB (dC (.int 7919)) (dVar 1))) (dC (.int 1))) (dC (.int 2147483647))) (dC (.int 48271))) (dC (.int 2147483647))) aNil)))))))
def uL : XS :=
 (sSeq (sIf (xVal (dBin 2 opGt (dIdx (dVar 0) (dC (.int 0))) (dC (.int 0)))) (sSeq (sAsg (dBin 2 vC (dIdx (dVar 0) (dC (.int 0))) (dVar 1)) (gN 2))
 (sSeq (sPut (dBin 2 qa7 (dIdx (dVar 0) (dC (.int 0))) (dVar 1)) (dVar 0) (dC (.int 0)))
 (sRet (dVar 2)))) sNil)
 (sSeq (sPut (dBin 2 vC (dBin 1 wU (dBin 1 vB (dIdx (dVar 0) (dC (.int 1))) (dC (.int 48271))) (dC (.int 12345))) (dC (.int 2147483647))) (dVar 0) (dC (.int 1)))
 (sSeq (sAsg (dBin 2 vC (dBin 1 vB (dIdx (dVar 0) (dC (.int 1))) (dBin 1 wU (dBin 2 vC (dIdx (dVar 0) (dC (.int 1))) (dC (.int 1009))) (dC (.int 3)))) (dC (.int 2147483629))) (gN 3))
 (sRet (dBin 2 vC (dBin 2 vC (dBin 1 vB (dVar 3) (dBin 1 wU (dBin 2 vC (dVar 3) (dC (.int 997))) (dC (.int 5)))) (dC (.int 998244353))) (dVar 1))))))
def JW (a b : Int) : Prop := 0 ≤ a ∧ 0 ≤ b ∧ b < 2 ^ 31
def qaL : FS := ⟨[.cst, .cst], fun ds Q => ∃ (ns : List Int) (k : Nat), ds = [.lst (ns.map .int), .int k] ∧ k ≤ 1000 ∧ ∀ a b, JW a b → Q (.lst [.int a, .int b]) ds⟩
theorem qh3 : BodyOk qaL 4 uI := by
 intro ds Q hl h
 obtain ⟨ns, k, rfl, hk, q⟩ := h
 generalize hrt : outD qaL _ Q = rt
 generalize outD qaL _ Q _ = nx
 have p62 : (2 : Int) ^ 62 = 4611686018427387904 := by decide
 have p63 : (2 : Int) ^ 63 = 9223372036854775808 := by decide
 have p31 : (2 : Int) ^ 31 = 2147483648 := by decide
 have p64 : (2 : Int) ^ 64 = 18446744073709551616 := by decide
 unfold uI
 refine Zm (fun e => e = [some (.lst (ns.map .int), .cst), some (.int k, .cst), some (.int 0, .own), none]) (fun K hK => ?_) ?_
 ·simp only [qaL]
  and_intros
  exact hK _ rfl
 rintro _ rfl
 refine Zm (fun e => ∃ c : Int, e = [some (.lst (ns.map .int), .cst), some (.int k, .cst), some (.int c, .own), none]) (fun K hK => ?_) ?_
 ·and_intros
  refine ⟨fun h => ?_, fun _ => hK _ ⟨0, rfl⟩⟩
  have h' := of_decide_eq_true h
  rw [List.length_map] at h'
  have hlt : k < ns.length := by omega
  rw [qey (List.getElem?_eq_getElem hlt)]
  and_intros
  exact hK _ ⟨_, rfl⟩
 rintro _ ⟨c, rfl⟩
 and_intros
 subst hrt
 refine ⟨by unfold CPow; decide, qcs ?_ ?_, Wc (by omega) (by omega), by decide, qcs (by omega) (by omega), by decide, ?_⟩
 ·split <;> omega
 ·split <;> omega
 ·refine q _ _ ⟨?_, ?_, ?_⟩
  ·split <;> split <;> omega
  ·omega
  ·omega
def qaM : FS := ⟨[.io, .cst], fun ds Q => ∃ a b m : Int, ds = [.lst [.int a, .int b], .int m] ∧ JW a b ∧ (1 ≤ m ∧ m ≤ 1000000) ∧ ∀ r a' b', 0 ≤ r → r < m → JW a' b' → Q (.int r) [.lst [.int a', .int b'], .int m]⟩
theorem qh5 : BodyOk qaM 4 uL := by
 intro ds Q hl h
 obtain ⟨a, b, m, rfl, ⟨ha0, hb0, hb1⟩, ⟨hm0, hm1⟩, q⟩ := h
 have p63 : (2 : Int) ^ 63 = 9223372036854775808 := by decide
 have p31 : (2 : Int) ^ 31 = 2147483648 := by decide
 have p64 : (2 : Int) ^ 64 = 18446744073709551616 := by decide
 have out : ∀ (r a' b' : Int) (x2 x3 : Option (D × Md)), 0 ≤ r → r < m → JW a' b' → outD qaM [.lst [.int a, .int b], .int m] Q (.int r) [some (.lst [.int a', .int b'], .io), some (.int m, .cst), x2, x3] := fun r a' b' x2 x3 h0 h1 h2 => q r a' b' h0 h1 h2
 generalize outD qaM _ Q = rt at out ⊢
 generalize rt _ = nx
 have n0 : ixN 2 0 = some 0 := rfl
 have n1 : ixN 2 1 = some 1 := rfl
 unfold uL
 refine Zm (fun e => e = [some (.lst [.int a, .int b], .io), some (.int m, .cst), none, none]) (fun K hK => ?_) ?_
 ·simp only [qaM]
  and_intros
  simp only [n0]
  and_intros
  refine ⟨fun h => ?_, fun h => hK _ rfl⟩
  simp only [decide_eq_true_eq] at h
  refine ⟨by omega, ⟨by omega, by omega⟩, out _ _ _ _ _ (Int.emod_nonneg _ (by omega)) (Int.emod_lt_of_pos _ (by omega)) ⟨Int.ediv_nonneg ha0 (by omega), hb0, hb1⟩⟩
 rintro _ rfl
 refine Zm (fun e => ∃ b : Int, 0 ≤ b ∧ b < 2 ^ 31 ∧ e = [some (.lst [.int a, .int b], .io), some (.int m, .cst), none, none]) (fun K hK => ?_) ?_
 ·and_intros
  simp only [n1]
  and_intros
  exact ⟨Wc (by omega) (by omega), by decide, hK _ ⟨_, Int.emod_nonneg _ (by decide), Int.lt_trans (Int.emod_lt_of_pos _ (by decide)) (by decide), rfl⟩⟩
 rintro _ ⟨b, hb0, hb1, rfl⟩
 refine Zm (fun e => ∃ c : Int, 0 ≤ c ∧ c < 2 ^ 31 ∧ e = [some (.lst [.int a, .int b], .io), some (.int m, .cst), none, some (.int c, .own)]) (fun K hK => ?_) ?_
 ·and_intros
  exact ⟨by decide, Wc (by omega) (by omega), by decide, hK _ ⟨_, Int.emod_nonneg _ (by decide), Int.lt_trans (Int.emod_lt_of_pos _ (by decide)) (by decide), rfl⟩⟩
 rintro _ ⟨c, hc0, hc1, rfl⟩
 and_intros
 exact ⟨by decide, Wc (by omega) (by omega), by decide, by omega, out _ _ _ _ _ (Int.emod_nonneg _ (by omega)) (Int.emod_lt_of_pos _ (by omega)) ⟨ha0, hb0, hb1⟩⟩
def Qc (zu : FS) : XS :=
 (sSeq (sIf (xVal (dBin 2 opIs (dVar 1) (dC .non))) (sRet (dBin 2 opIs (dVar 0) (dC .non))) sNil)
 (sSeq (sIf (xVal (qfa "list" "tuple" (dVar 1))) (sSeq (sIf (xOr (xVal (dBin 2 opNe (xIsi "list" (dVar 0)) (xIsi "list" (dVar 1)))) (xVal (dBin 2 opNe (xIsi "tuple" (dVar 0)) (xIsi "tuple" (dVar 1))))) (sRet (dC (.bl false))) sNil)
 (sRet (dAnd (dBin 2 opEq (dCall 2 (op1 bLen) (qp (dVar 0) aNil)) (dCall 2 (op1 bLen) (qp (dVar 1) aNil))) (dCall 2 (op1 bAll) (qp (dLc (qf0 (dVar 0) (dVar 1)) (gT 2 (yg (gN 2) (yg (gN 3) vR))) xYes (dFn zu (qp (dVar 2) (qp (dVar 3) aNil))) [2, 3]) aNil))))) sNil)
 (sSeq (sIf (xVal (xIsi "bool" (dVar 1))) (sRet (dAnd (xIsi "bool" (dVar 0)) (dBin 2 opEq (dVar 0) (dVar 1)))) sNil)
 (sSeq (sIf (xVal (xIsi "str" (dVar 1))) (sRet (dAnd (xIsi "str" (dVar 0)) (dBin 2 opEq (dVar 0) (dVar 1)))) sNil)
 (sRet (dAnd (xIsi "int" (dVar 0)) (dAnd (qgg (xIsi "bool" (dVar 0))) (dBin 2 opEq (dVar 0) (dVar 1)))))))))
def xY : Nat → D → Prop
 | 0, _ => False
 | n + 1, d => match d with
   | .non => True
   | .bl _ => True
   | .int _ => True
   | .str s => eqOk (.str s) = true
   | .tup xs => xs.length ≤ 1000000 ∧ ∀ x ∈ xs, xY n x
   | .lst xs => xs.length ≤ 1000000 ∧ ∀ x ∈ xs, xY n x
   | _ => False
def vf (n : Nat) : FS := ⟨[.cst, .cst], fun ds Q => ∃ d, ds = [d, d] ∧ xY n d ∧ Q (.bl true) ds⟩
theorem qeQ (n : Nat) : Wj (vf n) := fun ds Q Q' h ⟨d, e, t, q⟩ => ⟨d, e, t, h _ _ q⟩
theorem qh4 (n : Nat) : BodyOk (vf (n + 1)) 4 (Qc (vf n)) := by
 intro ds Q hl h
 obtain ⟨d, rfl, hd, q⟩ := h
 have out : ∀ (x2 x3 : Option (D × Md)), outD (vf (n + 1)) [d, d] Q (.bl true) [some (d, .cst), some (d, .cst), x2, x3] := fun x2 x3 => q
 generalize outD (vf (n + 1)) _ Q = rt at out ⊢
 generalize rt _ = nx
 unfold Qc
 simp only [show (vf (n + 1)).ms = [Md.cst, Md.cst] from rfl]
 have lcs : ∀ xs : List D, xs.length ≤ 1000000 → (∀ x ∈ xs, xY n x) → ∀ (e0 : En) (kk : List D → En → Prop), (e0 = [some (.tup xs, .cst), some (.tup xs, .cst), none, none] ∨ e0 = [some (.lst xs, .cst), some (.lst xs, .cst), none, none]) → kk (xs.map fun _ => .bl true) e0 →
  lcL (gT 2 (yg (gN 2) (yg (gN 3) vR))) xYes (dFn (vf n) (qp (dVar 2) (qp (dVar 3) aNil))) (some true) [2, 3] (zipL xs xs) e0 [] kk := by
  intro xs hlen hx e0 kk he hk
  have e : zipL xs xs = xs.map fun x => .tup [x, x] := by
   clear hlen hx hk he
   induction xs with
   | nil => rfl
   | cons x xs ih => rw [List.map_cons, ← ih]; rfl
  rw [e]
  refine qcE (fun _ => .bl true) _ _ ?_ ?_ ?_
  ·rw [List.length_map, sizeLine_eq]; simp; omega
  ·rw [List.map_map]; exact hk
  ·intro d hd c k1 hc h1
   obtain ⟨x, hxm, rfl⟩ := List.mem_map.mp hd
   have sx := hx x hxm
   rcases he with rfl | rfl
   ·and_intros
    cases n with
    | zero => exact sx.elim
    | succ n =>
      cases x with
      | dT _ => exact sx.elim
      | dK _ => exact sx.elim
      | dF _ => exact sx.elim
      | lF _ => exact sx.elim
      | ob _ _ => exact sx.elim
      | ex _ _ => exact sx.elim
      | dN _ => exact sx.elim
      | _ =>
        simp only [dFn2 (S := vf (n + 1)) rfl]
        and_intros
        exact ⟨_, rfl, sx, hc, h1⟩
   ·and_intros
    cases n with
    | zero => exact sx.elim
    | succ n =>
      cases x with
      | dT _ => exact sx.elim
      | dK _ => exact sx.elim
      | dF _ => exact sx.elim
      | lF _ => exact sx.elim
      | ob _ _ => exact sx.elim
      | ex _ _ => exact sx.elim
      | dN _ => exact sx.elim
      | _ =>
        simp only [dFn2 (S := vf (n + 1)) rfl]
        and_intros
        exact ⟨_, rfl, sx, hc, h1⟩
 have bt : ∀ xs : List D, bools (xs.map fun _ => D.bl true) = some (xs.map fun _ => true) := fun xs => by
  induction xs with
  | nil => rfl
  | cons x xs ih => rw [List.map_cons, bools, ih]; rfl
 have ba : ∀ xs : List D, (xs.map fun _ => true).all id = true := fun xs => by simp
 cases d with
 | non =>
   and_intros
   exact out _ _
 | bl b =>
   and_intros
   exact out _ _
 | int i =>
   and_intros
   exact out _ _
 | str s =>
   and_intros
   have he : eqOk (.str s) = true := hd
   simp only [he]
   and_intros
   have e : (s == s) = true := by first | exact beq_self_eq_true s | simp
   rw [e]
   exact out _ _
 | tup xs =>
   and_intros
   refine lcs xs hd.1 hd.2 _ _ (.inl rfl) ?_
   unfold qaF
   rw [bt]
   and_intros
   rw [ba]
   exact out _ _
 | lst xs =>
   and_intros
   refine lcs xs hd.1 hd.2 _ _ (.inr rfl) ?_
   unfold qaF
   rw [bt]
   and_intros
   rw [ba]
   exact out _ _
 | dT _ => exact hd.elim
 | dK _ => exact hd.elim
 | dF _ => exact hd.elim
 | lF _ => exact hd.elim
 | ob _ _ => exact hd.elim
 | ex _ _ => exact hd.elim
 | dN _ => exact hd.elim
end COM
namespace TX
open PySem PySem.Spec PyProof.Rows L2 BX
abbrev tC := Str × Int × Int × Int
abbrev zC : tC → D := eT4 D.str D.int D.int D.int
abbrev zB : Int × Int × Int × Int → D := eT4 D.int D.int D.int D.int
abbrev zP : Int × Int → D := eT2 D.int D.int
abbrev zk2 : Int × Int → List Key := kf2 Sum.inl Sum.inl
abbrev zk3 : Str × Int × Int → List Key := kf3 Sum.inr Sum.inl Sum.inl
abbrev zk4 : tC → List Key := kf4 Sum.inr Sum.inl Sum.inl Sum.inl
abbrev zD := eDT zk2 D.bl
abbrev zV := eV zP
abbrev zL := eL zP
abbrev zLC := eL zC
abbrev zO (d : D) : Option (D × Md) := some (d, .own)
abbrev zR (d : D) : Option (D × Md) := some (d, .ro)
abbrev zS (d : D) : Option (D × Md) := some (d, .cst)
theorem Rv.z {e : En} {L i : Nat} {d : D} {m : Md} (h : e[i]? = some (some (d, m)) := by rfl) (hm : m.okL L = true := by rfl) : Rv e L (.sl i) d := .sl h hm
end TX
namespace BC
open PySem PySem.Spec PyProof.Rows L2 BX TX COM
def TpOk (t : Int × Int) : Prop := JW t.1 t.2
def v7 (script : List Int) (k : Int) (kr : Int × Int → Prop) : Prop := (0 ≤ k ∧ k ≤ 1000) ∧ ∀ t, TpOk t → kr t
def yM : FS := mkS (α := List Int × Int) (κ := Int × Int) [.cst, .cst] (fun a => [eL D.int a.1, D.int a.2]) (fun a => v7 a.1 a.2) (fun r => eP r) fun a r => [eL D.int a.1, D.int a.2]
theorem Ug : BodyOk yM 4 uI := qaG qh3 rfl fun ds Q h => by
 obtain ⟨⟨ns, k⟩, kr, rfl, ⟨hk, h⟩, q⟩ := h
 refine ⟨ns, k.toNat, ?_, ?_, fun a b t => q (a, b) (h (a, b) t)⟩
 ·show [eL D.int ns, D.int k] = _
  have hk' : k = (k.toNat : Int) := by simp only at hk; omega
  rw [← hk']; rfl
 ·simp only at hk; omega
def qG (t : Int × Int) (m : Int) (kr : Int × (Int × Int) → Prop) : Prop := TpOk t ∧ (1 ≤ m ∧ m ≤ 1000000) ∧ ∀ r : Int × (Int × Int), 0 ≤ r.1 → r.1 < m → TpOk r.2 → kr r
def qD : FS := mkS (α := (Int × Int) × Int) (κ := Int × (Int × Int)) [.io, .cst] (fun a => [eP a.1, D.int a.2]) (fun a => qG a.1 a.2) (fun r => D.int r.1) fun a r => [eP r.2, D.int a.2]
theorem Ui : BodyOk qD 4 uL := qaG qh5 rfl fun ds Q h => by
 obtain ⟨⟨t, m⟩, kr, rfl, ⟨ht, hm, h⟩, q⟩ := h
 exact ⟨t.1, t.2, m, rfl, ht, hm, fun r a b h0 h1 h2 => q (r, (a, b)) (h (r, (a, b)) h0 h1 h2)⟩
def XD (n : Nat) (x y : D) (kr : Bool → Prop) : Prop := x = y ∧ xY n x ∧ kr true
end BC
namespace BC
open PySem PySem.Spec PyProof.Rows L2 BX TX COM
section
variable {α β σ : Type}
theorem qas {body : α → σ → (σ → Prop) → Prop} {k : σ → Prop} (I : List α → σ → Prop) : ∀ (l pre : List α) (s : σ), I pre s → (∀ (p : List α) (a : α) (q : List α) (s : σ) (kk : σ → Prop), pre ++ l = p ++ a :: q → I p s → (∀ s', I (p ++ [a]) s' → kk s') → body a s kk) → (∀ s, I (pre ++ l) s → k s) → forW l s body k
 | [], pre, s, h0, hs, hk => hk s (by simpa using h0)
 | a :: l, pre, s, h0, hs, hk => hs pre a l s _ rfl h0 fun s' h' => qas I l (pre ++ [a]) s' h' (fun p b q s kk e => hs p b q s kk (by rw [← e]; simp)) (fun s h => hk s (by simpa using h))
theorem jf {body : α → σ → (σ → Prop) → Prop} {k : σ → Prop} (I : List α → σ → Prop) {l : List α} {s : σ} (h0 : I [] s) (hs : ∀ (p : List α) (a : α) (q : List α) (s : σ) (kk : σ → Prop), l = p ++ a :: q → I p s → (∀ s', I (p ++ [a]) s' → kk s') → body a s kk) (hk : ∀ s, I l s → k s) : forW l s body k :=
 qas I l [] s h0 (fun p a q s kk e => hs p a q s kk (by simpa using e)) (by simpa using hk)
theorem qee {body : α → σ → (σ → Prop) → Prop} {k : σ → Prop} (I : σ → Prop) {l : List α} {s : σ} (h0 : I s) (hs : ∀ a ∈ l, ∀ (s : σ) (kk : σ → Prop), I s → (∀ s', I s' → kk s') → body a s kk) (hk : ∀ s, I s → k s) : forW l s body k :=
 jf (fun _ s => I s) h0 (fun p a q s kk e h hkk => hs a (by rw [e]; simp) s kk h hkk) hk
theorem qcC {body : α → σ → (Option β → σ → Prop) → Prop} {k : List β → σ → Prop} (F : α → Option β) : ∀ {l : List α} {acc : List β} {s : σ}, (∀ a ∈ l, ∀ (w : Option β → σ → Prop), w (F a) s → body a s w) → k (acc ++ l.filterMap F) s → lcW l acc s body k
 | [], acc, s, _, hk => by
   show k acc s
   simpa using hk
 | a :: l, acc, s, hs, hk => hs a (List.mem_cons_self ..) _ (qcC F (fun b hb => hs b (List.mem_cons_of_mem _ hb)) (by
   rw [List.append_assoc]
   have : (F a).toList ++ l.filterMap F = (a :: l).filterMap F := by
    rw [List.filterMap_cons]; cases F a <;> rfl
   rw [this]; exact hk))
theorem Xf {body : α → σ → (Option β → σ → Prop) → Prop} {k : List β → σ → Prop} (F : α → β) {l : List α} {s : σ} (hs : ∀ a ∈ l, ∀ (w : Option β → σ → Prop), w (some (F a)) s → body a s w) (hk : k (l.map F) s) : lcW l [] s body k :=
 qcC (fun a => some (F a)) hs (by
  have : l.filterMap (fun a => some (F a)) = l.map F := by
   induction l with
   | nil => rfl
   | cons a l ih => simp
  rw [this]; exact hk)
theorem qba {body : α → σ → (Option α → σ → Prop) → Prop} {k : List α → σ → Prop} (p : α → Bool) {l : List α} {s : σ} (hs : ∀ a ∈ l, ∀ (w : Option α → σ → Prop), (p a = true → w (some a) s) → (p a = false → w none s) → body a s w) (hk : k (l.filter p) s) : lcW l [] s body k :=
 qcC (fun a => if p a then some a else none) (fun a ha w h => hs a ha w (fun e => by simpa [e] using h) (fun e => by simpa [e] using h)) (by
  have : l.filterMap (fun a => if p a then some a else none) = l.filter p := by
   clear hs hk
   induction l with
   | nil => rfl
   | cons a l ih => by_cases h : p a = true <;> simp [h, ih]
  rw [this]; exact hk)
theorem Qn {body : α → σ → (Option α → σ → Prop) → Prop} {k : List α → σ → Prop} (T : σ → Prop) : ∀ {l acc : List α} {s : σ}, T s → (∀ a ∈ l, ∀ (s : σ) (w : Option α → σ → Prop), T s → (∀ s', T s' → w (some a) s') → (∀ s', T s' → w none s') → body a s w) → (∀ m s, m.Sublist l → T s → k (acc ++ m) s) → lcW l acc s body k
 | [], acc, s, h0, _, hk => by
   have := hk [] s .slnil h0
   show k acc s
   simpa using this
 | a :: l, acc, s, h0, hs, hk => hs a (List.mem_cons_self ..) s _ h0
   (fun s' h' => Qn T h' (fun b hb => hs b (List.mem_cons_of_mem _ hb)) fun m s hm ht => by
    have := hk (a :: m) s (hm.cons_cons a) ht
    simpa using this)
   (fun s' h' => Qn T h' (fun b hb => hs b (List.mem_cons_of_mem _ hb)) fun m s hm ht => by
    have := hk m s (hm.cons a) ht
    simpa using this)
theorem qcD {body : α → σ → (Option β → σ → Prop) → Prop} {k : List β → σ → Prop} (T : σ → Prop) (P : β → Prop) : ∀ {l : List α} {acc : List β} {s : σ}, T s → (∀ b ∈ acc, P b) → (∀ a ∈ l, ∀ (s : σ) (w : Option β → σ → Prop), T s → (∀ b s', P b → T s' → w (some b) s') → body a s w) → (∀ m s, m.length = acc.length + l.length → (∀ b ∈ m, P b) → T s → k m s) → lcW l acc s body k
 | [], acc, s, h0, hp, _, hk => hk acc s rfl hp h0
 | a :: l, acc, s, h0, hp, hs, hk => by
   refine hs a (List.mem_cons_self ..) s _ h0 fun b s' hb h' => ?_
   have hp' : ∀ c ∈ acc ++ (some b).toList, P c := fun c hc => by
    rcases List.mem_append.mp hc with hc | hc
    ·exact hp c hc
    ·have e : c = b := by simpa using hc
     rw [e]; exact hb
   exact qcD T P h' hp' (fun b hb => hs b (List.mem_cons_of_mem _ hb)) fun m s hm hp ht => hk m s (by rw [hm]; simp; omega) hp ht
end
theorem Xa {a b x : Int} : x ∈ rng a b ↔ a ≤ x ∧ x < b := by
 unfold rng
 simp only [List.mem_map, List.mem_range]
 constructor
 ·rintro ⟨n, h1, rfl⟩; omega
 ·rintro ⟨h1, h2⟩; exact ⟨(x - a).toNat, by omega, by omega⟩
theorem yu {a b : Int} : (rng a b).length = (b - a).toNat := by simp [rng]
theorem uY {a b : Int} (h1 : -1000000 ≤ a) (h2 : a ≤ 1000000) (h3 : -1000000 ≤ b) (h4 : b ≤ 1000000) : uf a b := by
 unfold uf; omega
theorem sz : sizeLine = 16777216 := sizeLine_eq
theorem Uw (a b : Int) : (rng a b).Pairwise (· < ·) := by
 unfold rng
 rw [List.pairwise_map]
 exact List.Pairwise.imp (R := fun a b : Nat => a < b) (fun {a b} h => by omega) List.pairwise_lt_range
theorem qdG {a b : Int} (h : a ≤ b) : rng a (b + 1) = rng a b ++ [b] := by
 unfold rng
 have e : (b + 1 - a).toNat = (b - a).toNat + 1 := by omega
 rw [e, List.range_succ, List.map_append]
 congr 1
 simp; omega
theorem qbV {a b : Int} (h : b ≤ a) : rng a b = [] := by
 unfold rng
 rw [show (b - a).toNat = 0 by omega]; rfl
def ltC (c d : Int × Int) : Prop := c.1 < d.1 ∨ (c.1 = d.1 ∧ c.2 < d.2)
instance (c d : Int × Int) : Decidable (ltC c d) := by unfold ltC; infer_instance
theorem qhz {c d : Int × Int} (h : ltC c d) : c ≠ d := by
 rintro rfl
 unfold ltC at h
 omega
theorem Zh {l : List (Int × Int)} (h : l.Pairwise ltC) : l.Nodup := h.imp fun {a b} h => qhz h
theorem lex2 (a b : Int × Int) : HT.lexLt (tl2 a) (tl2 b) = decide (ltC a b) := by
 unfold tl2 ltC
 rw [HT.lexLt_cons]
 by_cases e : a.1 = b.1
 ·rw [if_pos e, HT.lexLt_cons]
  by_cases e2 : a.2 = b.2
  ·rw [if_pos e2, HT.lexLt]; simp [e, e2]
  ·rw [if_neg e2]; simp [e]
 ·rw [if_neg e]; simp [e]
end BC
namespace BC
open PySem PySem.Spec PyProof.Rows L2 BX TX COM
def vp : XS :=
 (sSeq (sAsg (dLst aNil) (gN 4))
 (sSeq (sFor (ju (dVar 2)) (gN 5) (Qx (dM1 D.isLst vI (dVar 4) (dLc (ju (dVar 3)) (gN 6) xYes (dTup (qp (dBin 1 wU (dVar 0) (dVar 5)) (qp (dBin 1 wU (dVar 1) (dVar 6)) aNil))) [6]))))
 (sRet (dVar 4))))
def za (x : Int) (y : Int) (wide : Int) (high : Int) (kr : (List (Int × Int)) → Prop) : Prop :=
 lt (([] : List (Int × Int)) : (List (Int × Int))) fun found =>
 (uf 0 wide) ∧
 forW (rng 0 wide) found (fun k' (found : (List (Int × Int))) kk2 => (uf 0 high) ∧
 ((rng 0 high).length ≤ sizeLine) ∧
 (found.length + ((rng 0 high).map (fun j => ((x + k'), (y + j)))).length ≤ sizeLine) ∧
 lt (found ++ ((rng 0 high).map (fun j => ((x + k'), (y + j))))) fun found =>
 kk2 found) fun found =>
 kr found
def qJ : FS := mkS (α := (Int × Int × Int × Int)) (κ := (List (Int × Int))) [.cst, .cst, .cst, .cst] (fun a => [D.int a.1, D.int a.2.1, D.int a.2.2.1, D.int a.2.2.2]) (fun a => za a.1 a.2.1 a.2.2.1 a.2.2.2) (fun r => (eL (eT2 D.int D.int)) r) fun a r => [D.int a.1, D.int a.2.1, D.int a.2.2.1, D.int a.2.2.2]
theorem XN : BodyOk qJ 7 vp := by
 intro ds Q hl h
 obtain ⟨⟨x, y, wide, high⟩, kr, rfl, h, q⟩ := h
 refine uF (e' := [_, _, _, _, _, _, _]) rfl ?_
 unfold vp
 unfold za at h
 refine qU <| s_asg <| jE <| qw <| yV zP ([] : List (Int × Int)) .nil ?_
 refine g_N (f := zL) (fun found => [_, _, _, _, zO (zL found), _, _]) h rfl (fun _ => rfl) fun found h => ?_
 refine qU <| Q8 <| Xw <| ql rfl ?_
 obtain ⟨p1, h⟩ := h
 refine Y7 p1 ?_
 refine Qi (fI := D.int) (sh := fun (found : (List (Int × Int))) e => ∃ c5 : Option (D × Md), (setS (some c5) = true) ∧ e = [zS (D.int x), zS (D.int y), zS (D.int wide), zS (D.int high), zO (zL found), c5, none]) h ⟨_, rfl, rfl⟩ (fun k' ha found e hs kk2 nxkk2 hJ2 h => ?_) ?_
 ·skip
  obtain ⟨c5, hc5, rfl⟩ := hs
  refine g_n (e' := [_, _, _, _, _, _, _]) hc5 rfl (?_)
  refine uX <| c_m1 (by rfl) (by rfl) (by decide) (by rfl) <| c_lc <| Xw <| ql rfl ?_
  obtain ⟨p3, h⟩ := h
  refine Y7 p3 ?_
  obtain ⟨p4, h⟩ := h
  refine Yd (e := [_, _, _, _, _, _, _]) (fI := D.int) (fo := zP) (fun j => ((x + k'), (y + j))) (all1 rfl) p4 rfl (fun j ha c k1 hc h1 => ?_) ?_
  ·skip
   refine g_n (e' := [_, _, _, _, _, _, _]) rfl rfl (?_)
   refine yL <| qb <| qM <| ql rfl <| ql rfl <| qL .tmp .tmp qX <| qb <| qM <| ql rfl <| ql rfl <| qL .tmp .tmp qX <| qw <| zM D.int D.int (x + k') (y + j) (.cons .tmp (.cons .tmp .nil)) ?_
   exact o_el .tmp hc rfl h1
  refine yD (e' := [_, _, _, _, _, _, _]) rfl <| wM ?_
  obtain ⟨p5, h⟩ := h
  refine ZC (fun found => [_, _, _, _, zO (zL found), _, _]) h (by rfl) p5 (fun _ => rfl) fun found h => ?_
  exact hJ2 found _ ⟨_, rfl, rfl⟩ h
 rintro found e hs h
 obtain ⟨c5, hc5, rfl⟩ := hs
 refine wM <| s_ret <| ql rfl <| UT (m := .own) (by rfl) ?_
 exact q found h
def vm (qD qJ : FS) : XS :=
 (sSeq (sAsg (dFn qD (qp (dVar 0) (qp (dC (.int 9)) aNil))) (gN 3))
 (sSeq (sAsg (dFn qJ (qp (dC (.int 0)) (qp (dC (.int 0)) (qp (dVar 1) (qp (dVar 2) aNil))))) (gN 4))
 (sSeq (sIf (xVal (dBin 2 opLt (dVar 3) (dC (.int 2)))) (sRet (dLc (iSeq (dVar 4)) (gN 12) (xVal (dBin 2 opGt (dFn qD (qp (dVar 0) (qp (dC (.int 3)) aNil))) (dBin 2 vC (dVar 3) (dC (.int 2))))) (dVar 12) [12])) sNil)
 (sSeq (sIf (xVal (dBin 2 opLt (dVar 3) (dC (.int 5)))) (sSeq (sAsg (dC (.dT [])) (gN 5))
 (sSeq (sFor (ju (dBin 1 wU (dC (.int 1)) (dFn qD (qp (dVar 0) (qp (dC (.int 5)) aNil))))) (gN 6) (sSeq (sPar 7 8 (qp (dFn qD (qp (dVar 0) (qp (dVar 1) aNil))) (qp (dFn qD (qp (dVar 0) (qp (dVar 2) aNil))) aNil)))
 (sSeq (sAsg (dFn qJ (qp (dVar 7) (qp (dVar 8) (qp (dBin 1 wU (dC (.int 1)) (dFn qD (qp (dVar 0) (qp (dBin 2 uP (dVar 1) (dVar 7)) aNil)))) (qp (dBin 1 wU (dC (.int 1)) (dFn qD (qp (dVar 0) (qp (dBin 2 uP (dVar 2) (dVar 8)) aNil)))) aNil))))) (gN 9))
 (sSeq (sAsg (dOr (dBin 2 opEq (dVar 6) (dC (.int 0))) (dBin 2 opGt (dFn qD (qp (dVar 0) (qp (dC (.int 3)) aNil))) (dC (.int 0)))) (gN 10))
 (Qx (dMn D.isDic bUpd (dVar 5) (qp (dLc (iSeq (dVar 9)) (gN 12) xYes (dTup (qp (dVar 12) (qp (dVar 10) aNil))) [12]) aNil)))))))
 (sRet (dLc (iSeq (dVar 4)) (gN 12) (xVal (dMn D.isDic bGet (dVar 5) (qp (dVar 12) (qp (dC (.bl false)) aNil)))) (dVar 12) [12])))) sNil)
 (sSeq (sIf (xVal (dBin 2 opEq (dVar 3) (dC (.int 5)))) (sRet (dLc (iSeq (dVar 4)) (gN 12) (xVal (dBin 2 opGt (dFn qD (qp (dVar 0) (qp (dC (.int 6)) aNil))) (dC (.int 0)))) (dVar 12) [12])) sNil)
 (sSeq (sIf (xVal (dBin 2 opEq (dVar 3) (dC (.int 6)))) (sSeq (sAsg (dLc (ju (dVar 1)) (gN 7) xYes (dBin 1 wU (dC (.int 1)) (dFn qD (qp (dVar 0) (qp (dVar 2) aNil)))) [7]) (gN 11))
 (sRet (dLc (iSeq (dVar 4)) (gN 12) (xVal (dBin 2 opLt (dIdx (dVar 12) (dC (.int 1))) (dIdx (dLst (qp (dIdx (dVar 11) (dIdx (dVar 12) (dC (.int 0)))) (qp (dC (.int 1)) aNil))) (dBin 1 vB (dBin 2 vC (dIdx (dVar 12) (dC (.int 0))) (dC (.int 2))) (dFn qD (qp (dVar 0) (qp (dC (.int 2)) aNil))))))) (dVar 12) [12]))) sNil)
 (sSeq (sIf (xVal (dBin 2 opEq (dVar 3) (dC (.int 7)))) (sRet (dLc (iSeq (dVar 4)) (gN 12) (xOr (xVal (dBin 2 opEq (dBin 2 vC (dIdx (dVar 12) (dC (.int 0))) (dC (.int 3))) (dC (.int 0)))) (xOr (xVal (dBin 2 opEq (dBin 2 vC (dIdx (dVar 12) (dC (.int 1))) (dC (.int 3))) (dC (.int 0)))) (xVal (dBin 2 opEq (dFn qD (qp (dVar 0) (qp (dC (.int 8)) aNil))) (dC (.int 0)))))) (dVar 12) [12])) sNil)
 (sRet (dLc (iSeq (dVar 4)) (gN 12) (xOr (xVal (dBin 2 opEq (dBin 2 vC (dBin 1 wU (dIdx (dVar 12) (dC (.int 0))) (dIdx (dVar 12) (dC (.int 1)))) (dC (.int 2))) (dC (.int 0)))) (xVal (dBin 2 opEq (dFn qD (qp (dVar 0) (qp (dC (.int 2)) aNil))) (dC (.int 0))))) (dVar 12) [12])))))))))
def xR (tape : (Int × Int)) (wide : Int) (high : Int) (kr : ((List (Int × Int)) × (Int × Int)) → Prop) : Prop :=
 qG tape 9 fun t1 =>
 za 0 0 wide high fun t2 =>
 ifP (decide (t1.1 < 2)) ((t2.length ≤ sizeLine) ∧
 lcW t2 ([] : List (Int × Int)) t1.2 (fun cell (s : (Int × Int)) w => qG s 3 fun t4 =>
 ifP (decide ((t1.1 % 2) < t4.1)) (w (some cell) t4.2) (w none t4.2)) fun l5 s6 =>
 kr (l5, s6)) <|
 ifP (decide (t1.1 < 5)) (lt (([] : (List ((Int × Int) × Bool))) : (List ((Int × Int) × Bool))) fun there =>
 qG t1.2 5 fun t7 =>
 (uf 0 (1 + t7.1)) ∧
 forW (rng 0 (1 + t7.1)) (t7.2, there) (fun turn (s9 : ((Int × Int) × (List ((Int × Int) × Bool)))) kk10 => qG s9.1 wide fun t11 =>
 qG t11.2 high fun t12 =>
 lt (t11.1 : Int) fun x =>
 lt (t12.1 : Int) fun y =>
 qG t12.2 (wide - x) fun t13 =>
 qG t13.2 (high - y) fun t14 =>
 za x y (1 + t13.1) (1 + t14.1) fun t15 =>
 ifW (decide (turn = 0)) (fun kk16 => kk16 (true, t14.2)) (fun kk16 => qG t14.2 3 fun t17 =>
 kk16 ((decide (0 < t17.1)), t17.2)) fun (b18 : Bool × (Int × Int)) =>
 (t15.length ≤ sizeLine) ∧
 (s9.2.length + (t15.map (fun cell => (cell, b18.1))).length ≤ sizeLine) ∧
 lt (xW s9.2 (t15.map (fun cell => (cell, b18.1)))) fun there =>
 kk10 (b18.2, there)) fun s9 =>
 (t2.length ≤ sizeLine) ∧
 kr ((t2.filter (fun cell => ((getA s9.2 cell).getD false))), s9.1)) <|
 ifP (decide (t1.1 = 5)) ((t2.length ≤ sizeLine) ∧
 lcW t2 ([] : List (Int × Int)) t1.2 (fun cell (s : (Int × Int)) w => qG s 6 fun t23 =>
 ifP (decide (0 < t23.1)) (w (some cell) t23.2) (w none t23.2)) fun l24 s25 =>
 kr (l24, s25)) <|
 ifP (decide (t1.1 = 6)) ((uf 0 wide) ∧
 ((rng 0 wide).length ≤ sizeLine) ∧
 lcW (rng 0 wide) ([] : List Int) t1.2 (fun x (s : (Int × Int)) w => qG s high fun t28 =>
 w (some (1 + t28.1)) t28.2) fun l29 s30 =>
 (t2.length ≤ sizeLine) ∧
 lcW t2 ([] : List (Int × Int)) s30 (fun cell (s : (Int × Int)) w => exW (atI l29 cell.1) fun x32 =>
 qG s 2 fun t34 =>
 (IntMulOk (cell.1 % 2) t34.1) ∧
 exW (atI [x32, 1] ((cell.1 % 2) * t34.1)) fun x36 =>
 ifP (decide (cell.2 < x36)) (w (some cell) t34.2) (w none t34.2)) fun l38 s39 =>
 kr (l38, s39)) <|
 ifP (decide (t1.1 = 7)) ((t2.length ≤ sizeLine) ∧
 lcW t2 ([] : List (Int × Int)) t1.2 (fun cell (s : (Int × Int)) w => ifW (decide ((cell.1 % 3) = 0)) (fun kk41 => kk41 (true, s)) (fun kk41 => ifW (decide ((cell.2 % 3) = 0)) (fun kk42 => kk42 (true, s)) (fun kk42 => qG s 8 fun t43 =>
 kk42 ((decide (t43.1 = 0)), t43.2)) fun (b44 : Bool × (Int × Int)) =>
 kk41 (b44.1, b44.2)) fun (b45 : Bool × (Int × Int)) =>
 ifP b45.1 (w (some cell) b45.2) (w none b45.2)) fun l46 s47 =>
 kr (l46, s47)) <|
 (t2.length ≤ sizeLine) ∧
 lcW t2 ([] : List (Int × Int)) t1.2 (fun cell (s : (Int × Int)) w => ifW (decide (((cell.1 + cell.2) % 2) = 0)) (fun kk49 => kk49 (true, s)) (fun kk49 => qG s 2 fun t50 =>
 kk49 ((decide (t50.1 = 0)), t50.2)) fun (b51 : Bool × (Int × Int)) =>
 ifP b51.1 (w (some cell) b51.2) (w none b51.2)) fun l52 s53 =>
 kr (l52, s53)
def yt : FS := mkS (α := ((Int × Int) × Int × Int)) (κ := ((List (Int × Int)) × (Int × Int))) [.io, .cst, .cst] (fun a => [eP a.1, D.int a.2.1, D.int a.2.2]) (fun a => xR a.1 a.2.1 a.2.2) (fun r => (eL (eT2 D.int D.int)) r.1) fun a r => [eP r.2, D.int a.2.1, D.int a.2.2]
theorem XM : BodyOk yt 13 (vm qD qJ) := by
 intro ds Q hl h
 obtain ⟨⟨tape, wide, high⟩, kr, rfl, h, q⟩ := h
 refine uF (e' := [_, _, _, _, _, _, _, _, _, _, _, _, _]) rfl ?_
 unfold vm
 unfold xR at h
 refine qU <| s_asg <| c_fn <| qb <| ql rfl <| qb <| c_C <| qw ?_
 refine x_call (tape, 9) (fun t1 => [some (eP t1.2, .io), _, _, _, _, _, _, _, _, _, _, _, _]) h (.cons .z (.cons .tmp .nil)) (qm (by rfl) (qm qN qO)) (by rfl) (fun _ => rfl) fun t1 h => ?_
 refine g_n (e' := [_, _, _, _, _, _, _, _, _, _, _, _, _]) rfl rfl ?_
 refine qU <| s_asg <| c_fn <| qb <| c_C <| qb <| c_C <| qb <| ql rfl <| qb <| ql rfl <| qw ?_
 refine x_call (0, 0, wide, high) (fun t2 => [_, _, _, _, _, _, _, _, _, _, _, _, _]) h (.cons .tmp (.cons .tmp (.cons .tmp (.cons .tmp .nil)))) (qm qN (qm qN (qm qN (qm qN qO)))) (wz (by rfl)) (fun _ => rfl) fun t2 h => ?_
 refine g_n (e' := [_, _, _, _, _, _, _, _, _, _, _, _, _]) rfl rfl ?_
 refine qU <| s_if <| yC <| qM <| ql rfl <| c_C <| qL .tmp .tmp Zy <| yz .tmp tr_b ?_
 refine jD h (fun hb h => ?_) (fun hb h => ?_)
 ·skip
  refine s_ret <| c_lc <| yF <| ql rfl <| Jd (e' := [_, _, _, _, _, _, _, _, _, _, _, _, _]) rfl rfl rfl ?_
  obtain ⟨p3, h⟩ := h
  refine QC (fI := zP) (fo := zP) (sh := fun (s : (Int × Int)) e => e = [some (eP s, .io), zS (D.int wide), zS (D.int high), zO (D.int t1.1), some (zL t2, .lk), none, none, none, none, none, none, none, none]) h (all1 rfl) p3 rfl (fun cell ha s e hs w c k1 k2 hc h1 h2 h => ?_) ?_
  ·obtain rfl := hs
   refine g_n (e' := [_, _, _, _, _, _, _, _, _, _, _, _, _]) rfl rfl (?_)
   refine yC <| qM <| c_fn <| qb <| ql rfl <| qb <| c_C <| qw ?_
   refine x_call (s, 3) (fun t4 => [some (eP t4.2, .io), _, _, _, _, _, _, _, _, _, _, _, _]) h (.cons .z (.cons .tmp .nil)) (qm (by rfl) (qm qN qO)) (by rfl) (fun _ => rfl) fun t4 h => ?_
   refine qM <| ql rfl <| c_C <| qL .tmp .tmp (Wb (by decide)) <| qL .tmp .tmp Zz <| yz .tmp tr_b ?_
   refine jD h (fun hb h => ?_) (fun hb h => h2 t4.2 _ rfl h)
   refine ql rfl ?_
   exact o_el (.of .z (Im.im (f := zP) _)) hc rfl (h1 _ t4.2 _ rfl h)
  rintro l5 s6 e hs h
  obtain rfl := hs
  refine yD (e' := [_, _, _, _, _, _, _, _, _, _, _, _, _]) rfl <| uZ (e' := [_, _, _, _, _, _, _, _, _, _, _, _, _]) rfl rfl <| jC ?_
  exact q (l5, s6) h
 refine Qh <| qU <| s_if <| yC <| qM <| ql rfl <| c_C <| qL .tmp .tmp Zy <| yz .tmp tr_b ?_
 refine jD h (fun hb h => ?_) (fun hb h => ?_)
 ·skip
  refine qU <| s_asg <| qjB (kf := zk2) (f := D.bl) ?_
  refine g_N (f := zD) (fun there => [_, _, _, _, _, zO (zD there), _, _, _, _, _, _, _]) h rfl (fun _ => rfl) fun there h => ?_
  refine qU <| Q8 <| Xw <| qM <| c_C <| c_fn <| qb <| ql rfl <| qb <| c_C <| qw ?_
  refine x_call (t1.2, 5) (fun t7 => [some (eP t7.2, .io), _, _, _, _, _, _, _, _, _, _, _, _]) h (.cons .z (.cons .tmp .nil)) (qm (by rfl) (qm qN qO)) (by rfl) (fun _ => rfl) fun t7 h => ?_
  refine qL .tmp .tmp qX ?_
  obtain ⟨p8, h⟩ := h
  refine Y7 p8 ?_
  refine Qi (fI := D.int) (sh := fun (s9 : ((Int × Int) × (List ((Int × Int) × Bool)))) e => ∃ c6 c7 c8 c9 c10 : Option (D × Md), (setS (some c6) = true ∧ setS (some c7) = true ∧ setS (some c8) = true ∧ setS (some c9) = true ∧ setS (some c10) = true) ∧ e = [some (eP s9.1, .io), zS (D.int wide), zS (D.int high), zO (D.int t1.1), zO (zL t2), zO (zD s9.2), c6, c7, c8, c9, c10, none, none]) h ⟨_, _, _, _, _, ⟨rfl, rfl, rfl, rfl, rfl⟩, rfl⟩ (fun turn ha s9 e hs kk10 nxkk10 hJ10 h => ?_) ?_
  ·skip
   obtain ⟨c6, c7, c8, c9, c10, ⟨hc6, hc7, hc8, hc9, hc10⟩, rfl⟩ := hs
   refine g_n (e' := [_, _, _, _, _, _, _, _, _, _, _, _, _]) hc6 rfl (?_)
   refine qU <| Ut <| qb <| c_fn <| qb <| ql rfl <| qb <| ql rfl <| qw ?_
   refine x_call (s9.1, wide) (fun t11 => [some (eP t11.2, .io), _, _, _, _, _, _, _, _, _, _, _, _]) h (.cons .z (.cons .tmp .nil)) (qm (by rfl) (qm qN qO)) (by rfl) (fun _ => rfl) fun t11 h => ?_
   refine qb <| c_fn <| qb <| ql rfl <| qb <| ql rfl <| qw ?_
   refine x_call (t11.2, high) (fun t12 => [some (eP t12.2, .io), _, _, _, _, _, _, _, _, _, _, _, _]) h (.cons .z (.cons .tmp .nil)) (qm (by rfl) (qm qN qO)) (by rfl) (fun _ => rfl) fun t12 h => ?_
   refine qw <| UV (f := D.int) (g := D.int) (fun x y => [some (eP t12.2, .io), zS (D.int wide), zS (D.int high), zO (D.int t1.1), zO (zL t2), zO (zD s9.2), zO (D.int turn), zO (D.int x), zO (D.int y), c9, c10, none, none]) .tmp .tmp h hc7 hc8 (fun _ _ => rfl) fun x y h => qU <| s_asg <| c_fn <| qb <| ql rfl <| qb <| ql rfl <| qb <| qM <| c_C <| c_fn <| qb <| ql rfl <| qb <| qM <| ql rfl <| ql rfl <| qL .tmp .tmp xg <| qw ?_
   refine x_call (t12.2, (wide - x)) (fun t13 => [some (eP t13.2, .io), _, _, _, _, _, _, _, _, _, _, _, _]) h (.cons .z (.cons .tmp .nil)) (qm (by rfl) (qm qN qO)) (by rfl) (fun _ => rfl) fun t13 h => ?_
   refine qL .tmp .tmp qX <| qb <| qM <| c_C <| c_fn <| qb <| ql rfl <| qb <| qM <| ql rfl <| ql rfl <| qL .tmp .tmp xg <| qw ?_
   refine x_call (t13.2, (high - y)) (fun t14 => [some (eP t14.2, .io), _, _, _, _, _, _, _, _, _, _, _, _]) h (.cons .z (.cons .tmp .nil)) (qm (by rfl) (qm qN qO)) (by rfl) (fun _ => rfl) fun t14 h => ?_
   refine qL .tmp .tmp qX <| qw ?_
   refine x_call (x, y, (1 + t13.1), (1 + t14.1)) (fun t15 => [_, _, _, _, _, _, _, _, _, _, _, _, _]) h (.cons .tmp (.cons .tmp (.cons .tmp (.cons .tmp .nil)))) (qm qN (qm qN (qm qN (qm qN qO)))) (wz (by rfl)) (fun _ => rfl) fun t15 h => ?_
   refine g_n (e' := [_, _, _, _, _, _, _, _, _, _, _, _, _]) hc9 rfl ?_
   refine qU <| s_asg <| qhY <| qM <| ql rfl <| c_C <| qL .tmp .tmp (op_eq (f := D.int)) <| qhf .tmp ?_
   refine qhi (sh := fun (s : (Int × Int)) e => e = [some (eP s, .io), zS (D.int wide), zS (D.int high), zO (D.int t1.1), zO (zL t2), zO (zD s9.2), zO (D.int turn), zO (D.int x), zO (D.int y), zO (zL t15), c10, none, none]) h rfl (fun hb kk16 N hJ16 h => ?_) ?_
   ·skip
    refine qM <| c_fn <| qb <| ql rfl <| qb <| c_C <| qw ?_
    refine x_call (t14.2, 3) (fun t17 => [some (eP t17.2, .io), _, _, _, _, _, _, _, _, _, _, _, _]) h (.cons .z (.cons .tmp .nil)) (qm (by rfl) (qm qN qO)) (by rfl) (fun _ => rfl) fun t17 h => ?_
    refine c_C <| qL .tmp .tmp Zz ?_
    exact hJ16 ((decide (0 < t17.1)), t17.2) _ rfl h
   rintro b18 e hs h
   obtain rfl := hs
   refine g_n (e' := [_, _, _, _, _, _, _, _, _, _, _, _, _]) hc10 rfl ?_
   refine uX <| c_mn (by rfl) .z (by rfl) <| qb <| c_lc <| yF <| ql rfl <| Jd (e' := [_, _, _, _, _, _, _, _, _, _, _, _, _]) rfl rfl rfl ?_
   obtain ⟨p19, h⟩ := h
   refine Yd (e := [_, _, _, _, _, _, _, _, _, _, _, _, _]) (fI := zP) (fo := (eT2 zP D.bl)) (fun cell => (cell, b18.1)) (all1 rfl) p19 rfl (fun cell ha c k1 hc h1 => ?_) ?_
   ·skip
    refine g_n (e' := [_, _, _, _, _, _, _, _, _, _, _, _, _]) rfl rfl (?_)
    refine yL <| qb <| ql rfl <| qb <| ql rfl <| qw <| zM zP D.bl cell b18.1 (.cons (.of .z (Im.im (f := zP) _)) (.cons .tmp .nil)) ?_
    exact o_el .tmp hc rfl h1
   refine yD (e' := [_, _, _, _, _, _, _, _, _, _, _, _, _]) rfl <| uZ (e' := [_, _, _, _, _, _, _, _, _, _, _, _, _]) rfl rfl <| qw ?_
   obtain ⟨p20, h⟩ := h
   refine qi9 (c := zP) (f := D.bl) (fun there => [_, _, _, _, _, zO (zD there), _, _, _, _, _, _, _]) h .tmp (by rfl) p20 (fun _ => rfl) fun there h => ?_
   exact hJ10 (b18.2, there) _ ⟨_, _, _, _, _, ⟨rfl, rfl, rfl, rfl, rfl⟩, rfl⟩ h
  rintro s9 e hs h
  obtain ⟨c6, c7, c8, c9, c10, ⟨hc6, hc7, hc8, hc9, hc10⟩, rfl⟩ := hs
  refine wM <| s_ret <| c_lc <| yF <| ql rfl <| Jd (e' := [_, _, _, _, _, _, _, _, _, _, _, _, _]) rfl rfl rfl ?_
  obtain ⟨p21, h⟩ := h
  refine qhj (e := [_, _, _, _, _, _, _, _, _, _, _, _, _]) (fI := zP) (fo := zP) (fun cell => ((getA s9.2 cell).getD false)) (all1 rfl) p21 rfl (fun cell ha c k1 k2 hc h1 h2 => ?_) ?_
  ·skip
   refine g_n (e' := [_, _, _, _, _, _, _, _, _, _, _, _, _]) rfl rfl (?_)
   refine yC <| c_mn (by rfl) .z (by rfl) <| qb <| ql rfl <| qb <| c_C <| qw <| qhk (c := zP) (f := D.bl) .z .z .tmp <| yz .tmp tr_b ?_
   refine ⟨fun hb => ?_, fun hb => h2 hb⟩
   refine ql rfl ?_
   exact o_el (.of .z (Im.im (f := zP) _)) hc rfl (h1 hb)
  refine yD (e' := [_, _, _, _, _, _, _, _, _, _, _, _, _]) rfl <| uZ (e' := [_, _, _, _, _, _, _, _, _, _, _, _, _]) rfl rfl <| jC ?_
  exact q ((t2.filter (fun cell => ((getA s9.2 cell).getD false))), s9.1) h
 refine Qh <| qU <| s_if <| yC <| qM <| ql rfl <| c_C <| qL .tmp .tmp (op_eq (f := D.int)) <| yz .tmp tr_b ?_
 refine jD h (fun hb h => ?_) (fun hb h => ?_)
 ·skip
  refine s_ret <| c_lc <| yF <| ql rfl <| Jd (e' := [_, _, _, _, _, _, _, _, _, _, _, _, _]) rfl rfl rfl ?_
  obtain ⟨p22, h⟩ := h
  refine QC (fI := zP) (fo := zP) (sh := fun (s : (Int × Int)) e => e = [some (eP s, .io), zS (D.int wide), zS (D.int high), zO (D.int t1.1), some (zL t2, .lk), none, none, none, none, none, none, none, none]) h (all1 rfl) p22 rfl (fun cell ha s e hs w c k1 k2 hc h1 h2 h => ?_) ?_
  ·obtain rfl := hs
   refine g_n (e' := [_, _, _, _, _, _, _, _, _, _, _, _, _]) rfl rfl (?_)
   refine yC <| qM <| c_fn <| qb <| ql rfl <| qb <| c_C <| qw ?_
   refine x_call (s, 6) (fun t23 => [some (eP t23.2, .io), _, _, _, _, _, _, _, _, _, _, _, _]) h (.cons .z (.cons .tmp .nil)) (qm (by rfl) (qm qN qO)) (by rfl) (fun _ => rfl) fun t23 h => ?_
   refine c_C <| qL .tmp .tmp Zz <| yz .tmp tr_b ?_
   refine jD h (fun hb h => ?_) (fun hb h => h2 t23.2 _ rfl h)
   refine ql rfl ?_
   exact o_el (.of .z (Im.im (f := zP) _)) hc rfl (h1 _ t23.2 _ rfl h)
  rintro l24 s25 e hs h
  obtain rfl := hs
  refine yD (e' := [_, _, _, _, _, _, _, _, _, _, _, _, _]) rfl <| uZ (e' := [_, _, _, _, _, _, _, _, _, _, _, _, _]) rfl rfl <| jC ?_
  exact q (l24, s25) h
 refine Qh <| qU <| s_if <| yC <| qM <| ql rfl <| c_C <| qL .tmp .tmp (op_eq (f := D.int)) <| yz .tmp tr_b ?_
 refine jD h (fun hb h => ?_) (fun hb h => ?_)
 ·skip
  refine qU <| s_asg <| c_lc <| Xw <| ql rfl ?_
  obtain ⟨p26, h⟩ := h
  refine Y7 p26 ?_
  obtain ⟨p27, h⟩ := h
  refine QC (fI := D.int) (fo := D.int) (sh := fun (s : (Int × Int)) e => e = [some (eP s, .io), zS (D.int wide), zS (D.int high), zO (D.int t1.1), zO (zL t2), none, none, none, none, none, none, none, none]) h (all1 rfl) p27 rfl (fun x ha s e hs w c k1 k2 hc h1 h2 h => ?_) ?_
  ·obtain rfl := hs
   refine g_n (e' := [_, _, _, _, _, _, _, _, _, _, _, _, _]) rfl rfl (?_)
   refine qbk <| qM <| c_C <| c_fn <| qb <| ql rfl <| qb <| ql rfl <| qw ?_
   refine x_call (s, high) (fun t28 => [some (eP t28.2, .io), _, _, _, _, _, _, _, _, _, _, _, _]) h (.cons .z (.cons .tmp .nil)) (qm (by rfl) (qm qN qO)) (by rfl) (fun _ => rfl) fun t28 h => ?_
   refine qL .tmp .tmp qX ?_
   exact o_el .tmp hc rfl (h1 _ t28.2 _ rfl h)
  rintro l29 s30 e hs h
  obtain rfl := hs
  refine yD (e' := [_, _, _, _, _, _, _, _, _, _, _, _, _]) rfl <| wM ?_
  refine g_n (e' := [_, _, _, _, _, _, _, _, _, _, _, _, _]) rfl rfl ?_
  refine s_ret <| c_lc <| yF <| ql rfl <| Jd (e' := [_, _, _, _, _, _, _, _, _, _, _, _, _]) rfl rfl rfl ?_
  obtain ⟨p31, h⟩ := h
  refine QC (fI := zP) (fo := zP) (sh := fun (s : (Int × Int)) e => e = [some (eP s, .io), zS (D.int wide), zS (D.int high), zO (D.int t1.1), some (zL t2, .lk), none, none, none, none, none, none, zO (eL D.int l29), none]) h (all1 rfl) p31 rfl (fun cell ha s e hs w c k1 k2 hc h1 h2 h => ?_) ?_
  ·obtain rfl := hs
   refine g_n (e' := [_, _, _, _, _, _, _, _, _, _, _, _, _]) rfl rfl (?_)
   refine yC <| qM <| zK <| ql rfl <| c_C <| o_idx .z .tmp Vi (.sl (Im.im (f := D.int) _)) <| zK <| jE <| qb <| zK <| ql rfl <| zK <| ql rfl <| c_C <| o_idx .z .tmp Jp (.sl (Im.im (f := D.int) _)) ?_
   obtain ⟨x32, p33, h⟩ := h
   refine o_idx .z .tmp (ix_L p33) (.sl (Im.im (f := D.int) _)) <| qb <| c_C <| qw <| yV D.int [x32, 1] (.cons .tmp (.cons .tmp .nil)) <| qM <| qM <| zK <| ql rfl <| c_C <| o_idx .z .tmp Jp (.sl (Im.im (f := D.int) _)) <| c_C <| qL .tmp .tmp (Wb (by decide)) <| c_fn <| qb <| ql rfl <| qb <| c_C <| qw ?_
   refine x_call (s, 2) (fun t34 => [some (eP t34.2, .io), _, _, _, _, _, _, _, _, _, _, _, _]) h (.cons .z (.cons .tmp .nil)) (qm (by rfl) (qm qN qO)) (by rfl) (fun _ => rfl) fun t34 h => ?_
   obtain ⟨p35, h⟩ := h
   refine qL .tmp .tmp (Zx p35) ?_
   obtain ⟨x36, p37, h⟩ := h
   refine o_idx .tmp .tmp (ix_L p37) .tmp <| qL .tmp .tmp Zy <| yz .tmp tr_b ?_
   refine jD h (fun hb h => ?_) (fun hb h => h2 t34.2 _ rfl h)
   refine ql rfl ?_
   exact o_el (.of .z (Im.im (f := zP) _)) hc rfl (h1 _ t34.2 _ rfl h)
  rintro l38 s39 e hs h
  obtain rfl := hs
  refine yD (e' := [_, _, _, _, _, _, _, _, _, _, _, _, _]) rfl <| uZ (e' := [_, _, _, _, _, _, _, _, _, _, _, _, _]) rfl rfl <| jC ?_
  exact q (l38, s39) h
 refine Qh <| qU <| s_if <| yC <| qM <| ql rfl <| c_C <| qL .tmp .tmp (op_eq (f := D.int)) <| yz .tmp tr_b ?_
 refine jD h (fun hb h => ?_) (fun hb h => ?_)
 ·skip
  refine s_ret <| c_lc <| yF <| ql rfl <| Jd (e' := [_, _, _, _, _, _, _, _, _, _, _, _, _]) rfl rfl rfl ?_
  obtain ⟨p40, h⟩ := h
  refine QC (fI := zP) (fo := zP) (sh := fun (s : (Int × Int)) e => e = [some (eP s, .io), zS (D.int wide), zS (D.int high), zO (D.int t1.1), some (zL t2, .lk), none, none, none, none, none, none, none, none]) h (all1 rfl) p40 rfl (fun cell ha s e hs w c k1 k2 hc h1 h2 h => ?_) ?_
  ·obtain rfl := hs
   refine g_n (e' := [_, _, _, _, _, _, _, _, _, _, _, _, _]) rfl rfl (?_)
   refine qda <| yC <| qM <| qM <| zK <| ql rfl <| c_C <| o_idx .z .tmp Jp (.sl (Im.im (f := D.int) _)) <| c_C <| qL .tmp .tmp (Wb (by decide)) <| c_C <| qL .tmp .tmp (op_eq (f := D.int)) <| yz .tmp tr_b ?_
   refine qck (sh := fun (s : (Int × Int)) e => e = [some (eP s, .io), zS (D.int wide), zS (D.int high), zO (D.int t1.1), some (zL t2, .lk), none, none, none, none, none, none, none, zO (zP cell)]) h rfl (fun hb kk41 N hJ41 h => ?_) ?_
   ·skip
    refine qda <| yC <| qM <| qM <| zK <| ql rfl <| c_C <| o_idx .z .tmp Vi (.sl (Im.im (f := D.int) _)) <| c_C <| qL .tmp .tmp (Wb (by decide)) <| c_C <| qL .tmp .tmp (op_eq (f := D.int)) <| yz .tmp tr_b ?_
    refine qck (sh := fun (s : (Int × Int)) e => e = [some (eP s, .io), zS (D.int wide), zS (D.int high), zO (D.int t1.1), some (zL t2, .lk), none, none, none, none, none, none, none, zO (zP cell)]) h rfl (fun hb kk42 N hJ42 h => ?_) ?_
    ·skip
     refine yC <| qM <| c_fn <| qb <| ql rfl <| qb <| c_C <| qw ?_
     refine x_call (s, 8) (fun t43 => [some (eP t43.2, .io), _, _, _, _, _, _, _, _, _, _, _, _]) h (.cons .z (.cons .tmp .nil)) (qm (by rfl) (qm qN qO)) (by rfl) (fun _ => rfl) fun t43 h => ?_
     refine c_C <| qL .tmp .tmp (op_eq (f := D.int)) <| yz .tmp tr_b ?_
     exact hJ42 ((decide (t43.1 = 0)), t43.2) _ rfl h
    rintro b44 e hs h
    obtain rfl := hs
    exact hJ41 (b44.1, b44.2) _ rfl h
   rintro b45 e hs h
   obtain rfl := hs
   refine jD h (fun hb h => ?_) (fun hb h => h2 b45.2 _ rfl h)
   refine ql rfl ?_
   exact o_el (.of .z (Im.im (f := zP) _)) hc rfl (h1 _ b45.2 _ rfl h)
  rintro l46 s47 e hs h
  obtain rfl := hs
  refine yD (e' := [_, _, _, _, _, _, _, _, _, _, _, _, _]) rfl <| uZ (e' := [_, _, _, _, _, _, _, _, _, _, _, _, _]) rfl rfl <| jC ?_
  exact q (l46, s47) h
 refine Qh <| s_ret <| c_lc <| yF <| ql rfl <| Jd (e' := [_, _, _, _, _, _, _, _, _, _, _, _, _]) rfl rfl rfl ?_
 obtain ⟨p48, h⟩ := h
 refine QC (fI := zP) (fo := zP) (sh := fun (s : (Int × Int)) e => e = [some (eP s, .io), zS (D.int wide), zS (D.int high), zO (D.int t1.1), some (zL t2, .lk), none, none, none, none, none, none, none, none]) h (all1 rfl) p48 rfl (fun cell ha s e hs w c k1 k2 hc h1 h2 h => ?_) ?_
 ·obtain rfl := hs
  refine g_n (e' := [_, _, _, _, _, _, _, _, _, _, _, _, _]) rfl rfl (?_)
  refine qda <| yC <| qM <| qM <| qM <| zK <| ql rfl <| c_C <| o_idx .z .tmp Jp (.sl (Im.im (f := D.int) _)) <| zK <| ql rfl <| c_C <| o_idx .z .tmp Vi (.sl (Im.im (f := D.int) _)) <| qL .tmp .tmp qX <| c_C <| qL .tmp .tmp (Wb (by decide)) <| c_C <| qL .tmp .tmp (op_eq (f := D.int)) <| yz .tmp tr_b ?_
  refine qck (sh := fun (s : (Int × Int)) e => e = [some (eP s, .io), zS (D.int wide), zS (D.int high), zO (D.int t1.1), some (zL t2, .lk), none, none, none, none, none, none, none, zO (zP cell)]) h rfl (fun hb kk49 N hJ49 h => ?_) ?_
  ·skip
   refine yC <| qM <| c_fn <| qb <| ql rfl <| qb <| c_C <| qw ?_
   refine x_call (s, 2) (fun t50 => [some (eP t50.2, .io), _, _, _, _, _, _, _, _, _, _, _, _]) h (.cons .z (.cons .tmp .nil)) (qm (by rfl) (qm qN qO)) (by rfl) (fun _ => rfl) fun t50 h => ?_
   refine c_C <| qL .tmp .tmp (op_eq (f := D.int)) <| yz .tmp tr_b ?_
   exact hJ49 ((decide (t50.1 = 0)), t50.2) _ rfl h
  rintro b51 e hs h
  obtain rfl := hs
  refine jD h (fun hb h => ?_) (fun hb h => h2 b51.2 _ rfl h)
  refine ql rfl ?_
  exact o_el (.of .z (Im.im (f := zP) _)) hc rfl (h1 _ b51.2 _ rfl h)
 rintro l52 s53 e hs h
 obtain rfl := hs
 refine yD (e' := [_, _, _, _, _, _, _, _, _, _, _, _, _]) rfl <| uZ (e' := [_, _, _, _, _, _, _, _, _, _, _, _, _]) rfl rfl <| jC ?_
 exact q (l52, s53) h
def Qe (qD qJ yt : FS) : XS :=
 (sSeq (sPar 2 3 (qp (dBin 1 wU (dC (.int 1)) (dFn qD (qp (dVar 0) (qp (dC (.int 5)) aNil)))) (qp (dBin 1 wU (dC (.int 1)) (dFn qD (qp (dVar 0) (qp (dC (.int 5)) aNil)))) aNil)))
 (sSeq (sIf (xVal (dVar 1)) (sPar 2 3 (qp (dBin 1 wU (dC (.int 7)) (dFn qD (qp (dVar 0) (qp (dC (.int 6)) aNil)))) (qp (dBin 1 wU (dC (.int 7)) (dFn qD (qp (dVar 0) (qp (dC (.int 6)) aNil)))) aNil))) sNil)
 (sSeq (sAsg (dFn yt (qp (dVar 0) (qp (dVar 2) (qp (dVar 3) aNil)))) (gN 4))
 (sSeq (sIf (xAnd (xVal (dBin 2 opEq (dVar 4) (dLst aNil))) (xVal (dBin 2 opGt (dFn qD (qp (dVar 0) (qp (dC (.int 4)) aNil))) (dC (.int 0))))) (sAsg (dFn qJ (qp (dC (.int 0)) (qp (dC (.int 0)) (qp (dVar 2) (qp (dVar 3) aNil))))) (gN 4)) sNil)
 (sSeq (sAsg (dLst (qp (dC (.int 0)) (qp (dC (.int 0)) aNil))) (gN 5))
 (sSeq (sIf (xVal (dBin 2 opEq (dFn qD (qp (dVar 0) (qp (dC (.int 4)) aNil))) (dC (.int 0)))) (sAsg (dIdx (dLst (qp (dLst (qp (dFn qD (qp (dVar 0) (qp (dC (.int 20)) aNil))) (qp (dFn qD (qp (dVar 0) (qp (dC (.int 20)) aNil))) aNil))) (qp (dLst (qp (dBin 2 uP (dC (.int 41)) (dVar 2)) (qp (dBin 2 uP (dC (.int 41)) (dVar 3)) aNil))) aNil))) (dFn qD (qp (dVar 0) (qp (dC (.int 2)) aNil)))) (gN 5)) sNil)
 (sRet (dCall 1 (op1 uG) (qp (dCall 1 (op1 jx) (qp (dLc (iSeq (dVar 4)) (gT 2 (yg (gN 6) (yg (gN 7) vR))) xYes (dTup (qp (dBin 1 wU (dVar 6) (dIdx (dVar 5) (dC (.int 0)))) (qp (dBin 1 wU (dVar 7) (dIdx (dVar 5) (dC (.int 1)))) aNil))) [6, 7]) aNil)) aNil)))))))))
def jH (tape : (Int × Int)) (great : Bool) (kr : ((List (Int × Int)) × (Int × Int)) → Prop) : Prop :=
 qG tape 5 fun t1 =>
 qG t1.2 5 fun t2 =>
 lt ((1 + t1.1) : Int) fun wide =>
 lt ((1 + t2.1) : Int) fun high =>
 ifW great (fun kk4 => qG t2.2 6 fun t5 =>
 qG t5.2 6 fun t6 =>
 lt ((7 + t5.1) : Int) fun wide =>
 lt ((7 + t6.1) : Int) fun high =>
 kk4 (t6.2, wide, high)) (fun kk4 => kk4 (t2.2, wide, high)) fun (s3 : ((Int × Int) × Int × Int)) =>
 xR s3.1 s3.2.1 s3.2.2 fun t7 =>
 ifW (decide (t7.1 = ([] : List (Int × Int)))) (fun kk8 => qG t7.2 4 fun t9 =>
 kk8 ((decide (0 < t9.1)), t9.2)) (fun kk8 => kk8 (false, t7.2)) fun (b10 : Bool × (Int × Int)) =>
 ifW b10.1 (fun kk11 => za 0 0 s3.2.1 s3.2.2 fun t12 =>
 kk11 t12) (fun kk11 => kk11 t7.1) fun (cells : (List (Int × Int))) =>
 lt ([0, 0] : (List Int)) fun far =>
 qG b10.2 4 fun t13 =>
 ifW (decide (t13.1 = 0)) (fun kk15 => qG t13.2 20 fun t16 =>
 qG t16.2 20 fun t17 =>
 qG t17.2 2 fun t18 =>
 exW (atI [[t16.1, t17.1], [(41 - s3.2.1), (41 - s3.2.2)]] t18.1) fun x19 =>
 kk15 (t18.2, x19)) (fun kk15 => kk15 (t13.2, far)) fun (s14 : ((Int × Int) × (List Int))) =>
 (cells.length ≤ sizeLine) ∧
 lcW cells ([] : List (Int × Int)) () (fun a21 (s : Unit) w => exW (atI s14.2 0) fun x23 =>
 exW (atI s14.2 1) fun x25 =>
 w (some ((a21.1 + x23), (a21.2 + x25))) ()) fun l27 s28 =>
 kr ((srt tl2 l27), s14.1)
def yN : FS := mkS (α := ((Int × Int) × Bool)) (κ := ((List (Int × Int)) × (Int × Int))) [.io, .cst] (fun a => [eP a.1, D.bl a.2]) (fun a => jH a.1 a.2) (fun r => (eV (eT2 D.int D.int)) r.1) fun a r => [eP r.2, D.bl a.2]
theorem Uh : BodyOk yN 8 (Qe qD qJ yt) := by
 intro ds Q hl h
 obtain ⟨⟨tape, great⟩, kr, rfl, h, q⟩ := h
 refine uF (e' := [_, _, _, _, _, _, _, _]) rfl ?_
 unfold Qe
 unfold jH at h
 refine qU <| Ut <| qb <| qM <| c_C <| c_fn <| qb <| ql rfl <| qb <| c_C <| qw ?_
 refine x_call (tape, 5) (fun t1 => [some (eP t1.2, .io), _, _, _, _, _, _, _]) h (.cons .z (.cons .tmp .nil)) (qm (by rfl) (qm qN qO)) (by rfl) (fun _ => rfl) fun t1 h => ?_
 refine qL .tmp .tmp qX <| qb <| qM <| c_C <| c_fn <| qb <| ql rfl <| qb <| c_C <| qw ?_
 refine x_call (t1.2, 5) (fun t2 => [some (eP t2.2, .io), _, _, _, _, _, _, _]) h (.cons .z (.cons .tmp .nil)) (qm (by rfl) (qm qN qO)) (by rfl) (fun _ => rfl) fun t2 h => ?_
 refine qL .tmp .tmp qX <| qw <| UV (f := D.int) (g := D.int) (fun wide high => [some (eP t2.2, .io), zS (D.bl great), zO (D.int wide), zO (D.int high), none, none, none, none]) .tmp .tmp h rfl rfl (fun _ _ => rfl) fun wide high h => qU <| s_if <| yC <| ql rfl <| yz .tmp tr_b ?_
 refine qcl (sh := fun (s3 : ((Int × Int) × Int × Int)) e => e = [some (eP s3.1, .io), zS (D.bl great), zO (D.int s3.2.1), zO (D.int s3.2.2), none, none, none, none]) h (fun hb kk4 nxkk4 hJ4 h => ?_) (fun hb kk4 nxkk4 hJ4 h => ?_) ?_
 ·skip
  refine Ut <| qb <| qM <| c_C <| c_fn <| qb <| ql rfl <| qb <| c_C <| qw ?_
  refine x_call (t2.2, 6) (fun t5 => [some (eP t5.2, .io), _, _, _, _, _, _, _]) h (.cons .z (.cons .tmp .nil)) (qm (by rfl) (qm qN qO)) (by rfl) (fun _ => rfl) fun t5 h => ?_
  refine qL .tmp .tmp qX <| qb <| qM <| c_C <| c_fn <| qb <| ql rfl <| qb <| c_C <| qw ?_
  refine x_call (t5.2, 6) (fun t6 => [some (eP t6.2, .io), _, _, _, _, _, _, _]) h (.cons .z (.cons .tmp .nil)) (qm (by rfl) (qm qN qO)) (by rfl) (fun _ => rfl) fun t6 h => ?_
  refine qL .tmp .tmp qX <| qw <| UV (f := D.int) (g := D.int) (fun wide high => [some (eP t6.2, .io), zS (D.bl great), zO (D.int wide), zO (D.int high), none, none, none, none]) .tmp .tmp h rfl rfl (fun _ _ => rfl) fun wide high h => ?_
  exact hJ4 (t6.2, wide, high) _ rfl h
 ·skip
  refine Qh ?_
  exact hJ4 (t2.2, wide, high) _ rfl h
 rintro s3 e hs h
 obtain rfl := hs
 refine qU <| s_asg <| c_fn <| qb <| ql rfl <| qb <| ql rfl <| qb <| ql rfl <| qw ?_
 refine x_call (s3.1, s3.2.1, s3.2.2) (fun t7 => [some (eP t7.2, .io), _, _, _, _, _, _, _]) h (.cons .z (.cons .tmp (.cons .tmp .nil))) (qm (by rfl) (qm qN (qm qN qO))) (by rfl) (fun _ => rfl) fun t7 h => ?_
 refine g_n (e' := [_, _, _, _, _, _, _, _]) rfl rfl ?_
 refine qU <| s_if <| qdd <| yC <| qM <| ql rfl <| jE <| qw <| yV zP ([] : List (Int × Int)) .nil <| qL .z .tmp (op_eq (f := zL)) <| yz .tmp tr_b ?_
 refine qcn (sh := fun (s : (Int × Int)) e => e = [some (eP s, .io), zS (D.bl great), zO (D.int s3.2.1), zO (D.int s3.2.2), zO (zL t7.1), none, none, none]) h rfl (fun hb kk8 N hJ8 h => ?_) ?_
 ·skip
  refine yC <| qM <| c_fn <| qb <| ql rfl <| qb <| c_C <| qw ?_
  refine x_call (t7.2, 4) (fun t9 => [some (eP t9.2, .io), _, _, _, _, _, _, _]) h (.cons .z (.cons .tmp .nil)) (qm (by rfl) (qm qN qO)) (by rfl) (fun _ => rfl) fun t9 h => ?_
  refine c_C <| qL .tmp .tmp Zz <| yz .tmp tr_b ?_
  exact hJ8 ((decide (0 < t9.1)), t9.2) _ rfl h
 rintro b10 e hs h
 obtain rfl := hs
 refine qcl (sh := fun (cells : (List (Int × Int))) e => e = [some (eP b10.2, .io), zS (D.bl great), zO (D.int s3.2.1), zO (D.int s3.2.2), zO (zL cells), none, none, none]) h (fun hb kk11 nxkk11 hJ11 h => ?_) (fun hb kk11 nxkk11 hJ11 h => ?_) ?_
 ·skip
  refine s_asg <| c_fn <| qb <| c_C <| qb <| c_C <| qb <| ql rfl <| qb <| ql rfl <| qw ?_
  refine x_call (0, 0, s3.2.1, s3.2.2) (fun t12 => [_, _, _, _, _, _, _, _]) h (.cons .tmp (.cons .tmp (.cons .tmp (.cons .tmp .nil)))) (qm qN (qm qN (qm qN (qm qN qO)))) (wz (by rfl)) (fun _ => rfl) fun t12 h => ?_
  refine g_n (e' := [_, _, _, _, _, _, _, _]) rfl rfl ?_
  exact hJ11 t12 _ rfl h
 ·skip
  refine Qh ?_
  exact hJ11 t7.1 _ rfl h
 rintro cells e hs h
 obtain rfl := hs
 refine qU <| s_asg <| jE <| qb <| c_C <| qb <| c_C <| qw <| yV D.int [0, 0] (.cons .tmp (.cons .tmp .nil)) ?_
 refine g_N (f := (eL D.int)) (fun far => [_, _, _, _, _, zO (eL D.int far), _, _]) h rfl (fun _ => rfl) fun far h => ?_
 refine qU <| s_if <| yC <| qM <| c_fn <| qb <| ql rfl <| qb <| c_C <| qw ?_
 refine x_call (b10.2, 4) (fun t13 => [some (eP t13.2, .io), _, _, _, _, _, _, _]) h (.cons .z (.cons .tmp .nil)) (qm (by rfl) (qm qN qO)) (by rfl) (fun _ => rfl) fun t13 h => ?_
 refine c_C <| qL .tmp .tmp (op_eq (f := D.int)) <| yz .tmp tr_b ?_
 refine qcl (sh := fun (s14 : ((Int × Int) × (List Int))) e => e = [some (eP s14.1, .io), zS (D.bl great), zO (D.int s3.2.1), zO (D.int s3.2.2), zO (zL cells), zO (eL D.int s14.2), none, none]) h (fun hb kk15 nxkk15 hJ15 h => ?_) (fun hb kk15 nxkk15 hJ15 h => ?_) ?_
 ·skip
  refine s_asg <| zK <| jE <| qb <| jE <| qb <| c_fn <| qb <| ql rfl <| qb <| c_C <| qw ?_
  refine x_call (t13.2, 20) (fun t16 => [some (eP t16.2, .io), _, _, _, _, _, _, _]) h (.cons .z (.cons .tmp .nil)) (qm (by rfl) (qm qN qO)) (by rfl) (fun _ => rfl) fun t16 h => ?_
  refine qb <| c_fn <| qb <| ql rfl <| qb <| c_C <| qw ?_
  refine x_call (t16.2, 20) (fun t17 => [some (eP t17.2, .io), _, _, _, _, _, _, _]) h (.cons .z (.cons .tmp .nil)) (qm (by rfl) (qm qN qO)) (by rfl) (fun _ => rfl) fun t17 h => ?_
  refine qw <| yV D.int [t16.1, t17.1] (.cons .tmp (.cons .tmp .nil)) <| qb <| jE <| qb <| qM <| c_C <| ql rfl <| qL .tmp .tmp xg <| qb <| qM <| c_C <| ql rfl <| qL .tmp .tmp xg <| qw <| yV D.int [(41 - s3.2.1), (41 - s3.2.2)] (.cons .tmp (.cons .tmp .nil)) <| qw <| yV (eL D.int) [[t16.1, t17.1], [(41 - s3.2.1), (41 - s3.2.2)]] (.cons .tmp (.cons .tmp .nil)) <| c_fn <| qb <| ql rfl <| qb <| c_C <| qw ?_
  refine x_call (t17.2, 2) (fun t18 => [some (eP t18.2, .io), _, _, _, _, _, _, _]) h (.cons .z (.cons .tmp .nil)) (qm (by rfl) (qm qN qO)) (by rfl) (fun _ => rfl) fun t18 h => ?_
  obtain ⟨x19, p20, h⟩ := h
  refine o_idx .tmp .tmp (ix_L p20) .tmp ?_
  refine g_n (e' := [_, _, _, _, _, _, _, _]) rfl rfl ?_
  exact hJ15 (t18.2, x19) _ rfl h
 ·skip
  refine Qh ?_
  exact hJ15 (t13.2, far) _ rfl h
 rintro s14 e hs h
 obtain rfl := hs
 refine s_ret <| zj <| qb <| zj <| qb <| c_lc <| yF <| ql rfl <| Jd (e' := [_, _, _, _, _, _, _, _]) rfl rfl rfl ?_
 obtain ⟨p22, h⟩ := h
 refine QC (fI := zP) (fo := zP) (sh := fun (s : Unit) e => e = [some (eP s14.1, .io), zS (D.bl great), zO (D.int s3.2.1), zO (D.int s3.2.2), some (zL cells, .lk), zO (eL D.int s14.2), none, none]) h (all2 rfl rfl) p22 rfl (fun a21 ha s e hs w c k1 k2 hc h1 h2 h => ?_) ?_
 ·obtain rfl := hs
  refine g_T (by rfl) (yH (g_n (e' := [_, _, _, _, _, _, _, _]) rfl rfl (yH (g_n (e' := [_, _, _, _, _, _, _, _]) rfl rfl (WK (?_))))))
  refine qbk <| yL <| qb <| qM <| ql rfl <| zK <| ql rfl <| c_C ?_
  obtain ⟨x23, p24, h⟩ := h
  refine o_idx .z .tmp (ix_L p24) (.sl (Im.im (f := D.int) _)) <| qL .tmp .tmp qX <| qb <| qM <| ql rfl <| zK <| ql rfl <| c_C ?_
  obtain ⟨x25, p26, h⟩ := h
  refine o_idx .z .tmp (ix_L p26) (.sl (Im.im (f := D.int) _)) <| qL .tmp .tmp qX <| qw <| zM D.int D.int (a21.1 + x23) (a21.2 + x25) (.cons .tmp (.cons .tmp .nil)) ?_
  exact o_el .tmp hc rfl (h1 _ () _ rfl h)
 rintro l27 s28 e hs h
 obtain rfl := hs
 refine yD (e' := [_, _, _, _, _, _, _, _]) rfl <| uZ (e' := [_, _, _, _, _, _, _, _]) rfl rfl <| qw <| zg (.cons .tmp .nil) (qcp (f := zP)) <| qw <| zg (.cons .tmp .nil) (Ws (f := zP)) <| jC ?_
 exact q ((srt tl2 l27), s14.1) h
end BC
namespace BC
open PySem PySem.Spec PyProof.Rows L2 BX TX COM
theorem zN {t : Int × Int} {m : Int} {kr : Int × (Int × Int) → Prop} (ht : TpOk t) (h1 : 1 ≤ m) (h2 : m ≤ 1000000) (h : ∀ (r : Int) (t' : Int × Int), 0 ≤ r → r < m → TpOk t' → kr (r, t')) : qG t m kr :=
 ⟨ht, ⟨h1, h2⟩, fun r a b c => h r.1 r.2 a b c⟩
def j7 (x y w h : Int) : List (Int × Int) := (rng 0 w).flatMap fun i => (rng 0 h).map fun j => (x + i, y + j)
theorem uE {x y w h : Int} {c : Int × Int} : c ∈ j7 x y w h ↔ (x ≤ c.1 ∧ c.1 < x + w) ∧ y ≤ c.2 ∧ c.2 < y + h := by
 unfold j7
 simp only [List.mem_flatMap, List.mem_map, Xa]
 constructor
 ·rintro ⟨i, hi, j, hj, rfl⟩; simp only; omega
 ·rintro ⟨h1, h2⟩
  exact ⟨c.1 - x, by omega, c.2 - y, by omega, Prod.ext (by simp only; omega) (by simp only; omega)⟩
theorem ZM (x y w h : Int) : (j7 x y w h).Pairwise ltC := by
 unfold j7
 rw [List.pairwise_flatMap]
 refine ⟨fun i _ => ?_, (Uw 0 w).imp fun {i j} hij a ha b hb => ?_⟩
 ·rw [List.pairwise_map]
  exact (Uw 0 h).imp fun {a b} hab => .inr ⟨rfl, by simp only; omega⟩
 ·simp only [List.mem_map] at ha hb
  obtain ⟨_, _, rfl⟩ := ha
  obtain ⟨_, _, rfl⟩ := hb
  exact .inl (by simp only; omega)
theorem ZP {x y w h : Int} (h1 : 0 ≤ w) (h2 : 0 ≤ h) : ((j7 x y w h).length : Int) = w * h := by
 have : (j7 x y w h).length = w.toNat * h.toNat := by
  unfold j7
  simp [List.length_flatMap, yu, List.map_const', List.sum_replicate_nat]
 rw [this]
 obtain ⟨a, rfl⟩ := Int.eq_ofNat_of_zero_le h1
 obtain ⟨b, rfl⟩ := Int.eq_ofNat_of_zero_le h2
 simp
theorem Z6 {x y w h : Int} {kr : List (Int × Int) → Prop} (h1 : 0 ≤ w) (h2 : w ≤ 1000) (h3 : 0 ≤ h) (h4 : h ≤ 1000) (hk : kr (j7 x y w h)) : za x y w h kr := by
 unfold za
 simp only [lt]
 refine ⟨uY (by omega) (by omega) (by omega) (by omega), jf (fun p s => s = p.flatMap fun i => (rng 0 h).map fun j => (x + i, y + j)) rfl ?_ ?_⟩
 ·rintro p a q s kk e rfl hkk
  have hl : (p.flatMap fun i => (rng 0 h).map fun j => (x + i, y + j)).length ≤ 1000 * 1000 := by
   have : (p.flatMap fun i => (rng 0 h).map fun j => (x + i, y + j)).length = p.length * h.toNat := by
    simp [List.length_flatMap, yu, List.map_const', List.sum_replicate_nat]
   rw [this]
   have : p.length ≤ (rng 0 w).length := by rw [e]; simp
   rw [yu] at this
   exact Nat.mul_le_mul (by omega) (by omega)
  refine ⟨uY (by omega) (by omega) (by omega) (by omega), ?_, ?_, hkk _ ?_⟩
  ·rw [yu, sz]; omega
  ·rw [List.length_map, yu, sz]; omega
  ·simp
 ·rintro s rfl
  exact hk
theorem Vl {x y w h : Int} (h1 : 0 ≤ w) (h2 : w ≤ 12) (h3 : 0 ≤ h) (h4 : h ≤ 12) : (j7 x y w h).length ≤ 144 := by
 have := ZP (x := x) (y := y) h1 h3
 have : w * h ≤ 12 * 12 := Int.mul_le_mul h2 h4 h3 (by decide)
 omega
theorem qcA {κ α : Type} [DecidableEq κ] (l : List (κ × α)) : ∀ m : List (κ × α), (xW m l).length ≤ m.length + l.length := by
 have put : ∀ (k : κ) (v : α) (m : List (κ × α)), (putA k v m).length ≤ m.length + 1 := fun k v m => by
  induction m with
  | nil => simp [putA]
  | cons p m ih => rw [putA]; split <;> simp <;> omega
 induction l with
 | nil => intro m; simp [xW]
 | cons p l ih =>
   intro m
   have := ih (putA p.1 p.2 m)
   have := put p.1 p.2 m
   show (xW (putA p.1 p.2 m) l).length ≤ _
   rw [List.length_cons]; omega
theorem qfk {t : Int × Int} {w h : Int} {kr : List (Int × Int) × (Int × Int) → Prop} (ht : TpOk t) (h1 : 1 ≤ w) (h2 : w ≤ 12) (h3 : 1 ≤ h) (h4 : h ≤ 12) (hk : ∀ m s, m.Sublist (j7 0 0 w h) → TpOk s → kr (m, s)) : xR t w h kr := by
 unfold xR
 refine zN ht (by decide) (by decide) fun way t hw0 hw1 ht => ?_
 refine Z6 (by omega) (by omega) (by omega) (by omega) ?_
 have hz := sz
 have gl := Vl (x := 0) (y := 0) (w := w) (h := h) (by omega) (by omega) (by omega) (by omega)
 have gz : (j7 0 0 w h).length ≤ sizeLine := by omega
 have sub : ∀ m s, m.Sublist (j7 0 0 w h) → TpOk s → kr ([] ++ m, s) := fun m s hm hs => hk m s hm hs
 refine ⟨fun _ => ⟨gz, Qn TpOk ht ?_ sub⟩, fun _ => ⟨fun _ => ?_, fun _ => ⟨fun _ => ⟨gz, Qn TpOk ht ?_ sub⟩, fun _ => ⟨fun _ => ?_, fun _ => ⟨fun _ => ⟨gz, Qn TpOk ht ?_ sub⟩, fun _ => ⟨gz, Qn TpOk ht ?_ sub⟩⟩⟩⟩⟩⟩
 ·intro c hc s w' hs hy hn
  exact zN hs (by decide) (by decide) fun r t' _ _ h' => ⟨fun _ => hy _ h', fun _ => hn _ h'⟩
 ·refine zN ht (by decide) (by decide) fun r t' hr0 hr1 ht => ⟨uY (by omega) (by omega) (by omega) (by omega), ?_⟩
  refine jf (fun p s => TpOk s.1 ∧ s.2.length ≤ 144 * p.length) ⟨ht, Nat.zero_le _⟩ ?_ ?_
  ·rintro p a q s kk e ⟨ht, hl⟩ hkk
   have hp : p.length ≤ 5 := by
    have : p.length ≤ (rng 0 (1 + r)).length := by rw [e]; simp
    rw [yu] at this; omega
   refine zN ht (by omega) (by omega) fun x t1 hx0 hx1 ht => zN ht (by omega) (by omega) fun y t2 hy0 hy1 ht => ?_
   refine zN ht (by omega) (by omega) fun u t3 hu0 hu1 ht => zN ht (by omega) (by omega) fun v t4 hv0 hv1 ht => ?_
   refine Z6 (by omega) (by omega) (by omega) (by omega) ?_
   have gl2 := Vl (x := x) (y := y) (w := 1 + u) (h := 1 + v) (by omega) (by omega) (by omega) (by omega)
   have rest : ∀ (b : Bool) (t5 : Int × Int), TpOk t5 → (fun (b16 : Bool × (Int × Int)) => ((j7 x y (1 + u) (1 + v)).length ≤ sizeLine) ∧ (s.2.length + ((j7 x y (1 + u) (1 + v)).map (fun cell => (cell, b16.1))).length ≤ sizeLine) ∧
    lt (xW s.2 ((j7 x y (1 + u) (1 + v)).map (fun cell => (cell, b16.1)))) fun there => kk (b16.2, there)) (b, t5) := fun b t5 ht => by
    refine ⟨by omega, by rw [List.length_map]; omega, hkk _ ⟨ht, ?_⟩⟩
    have := qcA ((j7 x y (1 + u) (1 + v)).map (fun cell => (cell, b))) s.2
    rw [List.length_map] at this
    simp only [List.length_append, List.length_singleton]
    omega
   exact ⟨fun _ => rest _ _ ht, fun _ => zN ht (by decide) (by decide) fun z t5 _ _ ht => rest _ _ ht⟩
  ·rintro s ⟨ht, -⟩
   exact ⟨gz, hk _ _ List.filter_sublist ht⟩
 ·intro c hc s w' hs hy hn
  exact zN hs (by decide) (by decide) fun r t' _ _ h' => ⟨fun _ => hy _ h', fun _ => hn _ h'⟩
 ·refine ⟨uY (by omega) (by omega) (by omega) (by omega), by rw [yu]; omega, qcD TpOk (fun _ => True) ht (fun b hb => trivial) ?_ ?_⟩
  ·intro a ha s w' hs hy
   exact zN hs (by omega) (by omega) fun r t' _ _ h' => hy _ _ trivial h'
  ·intro tall s hl _ hs
   rw [yu] at hl
   refine ⟨gz, Qn TpOk hs ?_ sub⟩
   intro c hc s w' hs hy hn
   have hc := uE.mp hc
   obtain ⟨v, hv⟩ : ∃ v, atI tall c.1 = some v := by
    have h0 : (c.1.toNat : Int) = c.1 := by omega
    have h1 : c.1.toNat < tall.length := by simp only [List.length_nil] at hl; omega
    rw [← h0]
    exact ⟨_, atI_nat (List.getElem?_eq_getElem h1)⟩
   refine ⟨v, hv, zN hs (by decide) (by decide) fun r t' hr0 hr1 h' => ⟨Wc (by omega) (by omega), ?_⟩⟩
   have hr : r = 0 ∨ r = 1 := by omega
   have hm : c.1 % 2 = 0 ∨ c.1 % 2 = 1 := by omega
   have hv2 : ∃ u, atI [v, 1] (c.1 % 2 * r) = some u := by
    rcases hr with rfl | rfl <;> rcases hm with e | e <;> rw [e] <;> exact ⟨_, rfl⟩
   obtain ⟨u, hu⟩ := hv2
   exact ⟨u, hu, fun _ => hy _ h', fun _ => hn _ h'⟩
 ·intro c hc s w' hs hy hn
  refine ⟨fun _ => ?_, fun _ => ⟨fun _ => ?_, fun _ => zN hs (by decide) (by decide) fun r t' _ _ h' => ?_⟩⟩
  ·exact ⟨fun _ => hy _ hs, fun _ => hn _ hs⟩
  ·exact ⟨fun _ => hy _ hs, fun _ => hn _ hs⟩
  ·exact ⟨fun _ => hy _ h', fun _ => hn _ h'⟩
 ·intro c hc s w' hs hy hn
  refine ⟨fun _ => ?_, fun _ => zN hs (by decide) (by decide) fun r t' _ _ h' => ?_⟩
  ·exact ⟨fun _ => hy _ hs, fun _ => hn _ hs⟩
  ·exact ⟨fun _ => hy _ h', fun _ => hn _ h'⟩
def qdo (r : List (Int × Int)) : Prop := r.Pairwise ltC ∧ r.length ≤ 144 ∧ ∀ c ∈ r, (0 ≤ c.1 ∧ c.1 ≤ 60) ∧ 0 ≤ c.2 ∧ c.2 ≤ 60
theorem qcx {a b c : Int × Int} (h : ltC a b) (h' : ltC b c) : ltC a c := by unfold ltC at *; omega
theorem vM (l : List (Int × Int)) : (srt tl2 l).Perm l := List.mergeSort_perm ..
theorem qfi {l : List (Int × Int)} {c : Int × Int} : c ∈ srt tl2 l ↔ c ∈ l := (vM l).mem_iff
theorem qeG (l : List (Int × Int)) (hn : l.Nodup) : (srt tl2 l).Pairwise ltC := by
 have h1 : (srt tl2 l).Pairwise fun a b => (!HT.lexLt (tl2 b) (tl2 a)) = true := List.pairwise_mergeSort (fun a b c => by
  simp only [lex2, Bool.not_eq_true', decide_eq_false_iff_not]
  unfold ltC; omega) (fun a b => by
  simp only [lex2, Bool.or_eq_true, Bool.not_eq_true', decide_eq_false_iff_not]
  unfold ltC; omega) l
 have h2 : (srt tl2 l).Nodup := (vM l).nodup_iff.mpr hn
 refine (h1.and h2).imp fun {a b} h => ?_
 have h3 := h.1
 simp only [lex2, Bool.not_eq_true', decide_eq_false_iff_not] at h3
 have : a ≠ b := h.2
 have : ¬ (a.1 = b.1 ∧ a.2 = b.2) := fun z => this (Prod.ext z.1 z.2)
 unfold ltC at h3 ⊢
 omega
theorem qg4 {t : Int × Int} {g : Bool} {kr : List (Int × Int) × (Int × Int) → Prop} (ht : TpOk t) (hk : ∀ r s, qdo r → TpOk s → kr (r, s)) : jH t g kr := by
 unfold jH
 refine zN ht (by decide) (by decide) fun a t1 ha0 ha1 ht => zN ht (by decide) (by decide) fun b t2 hb0 hb1 ht => ?_
 simp only [lt]
 have rest : ∀ (t : Int × Int) (w h : Int), TpOk t → 1 ≤ w → w ≤ 12 → 1 ≤ h → h ≤ 12 → (fun (s3 : ((Int × Int) × Int × Int)) => xR s3.1 s3.2.1 s3.2.2 fun t6 =>
  ifW (decide (t6.1 = ([] : List (Int × Int)))) (fun kk => qG t6.2 4 fun t7 => kk ((decide (0 < t7.1)), t7.2)) (fun kk => kk (false, t6.2)) fun (b8 : Bool × (Int × Int)) =>
  ifW b8.1 (fun kk => za 0 0 s3.2.1 s3.2.2 fun t9 => kk t9) (fun kk => kk t6.1) fun (cells : (List (Int × Int))) =>
  qG b8.2 4 fun t10 =>
  ifW (decide (t10.1 = 0)) (fun kk => qG t10.2 20 fun t12 => qG t12.2 20 fun t13 => qG t13.2 2 fun t14 => exW (atI [[t12.1, t13.1], [(41 - s3.2.1), (41 - s3.2.2)]] t14.1) fun x15 => kk (t14.2, x15)) (fun kk => kk (t10.2, [0, 0])) fun (s11 : ((Int × Int) × (List Int))) =>
  (cells.length ≤ sizeLine) ∧ lcW cells ([] : List (Int × Int)) () (fun a17 (s : Unit) w => exW (atI s11.2 0) fun x19 => exW (atI s11.2 1) fun x21 => w (some ((a17.1 + x19), (a17.2 + x21))) ()) fun l23 s24 => kr ((srt tl2 l23), s11.1)) (t, w, h) := by
  intro t w h ht hw0 hw1 hh0 hh1
  refine qfk ht hw0 hw1 hh0 hh1 fun m s hm hs => ?_
  have gl := Vl (x := 0) (y := 0) (w := w) (h := h) (by omega) (by omega) (by omega) (by omega)
  have fin : ∀ (m : List (Int × Int)) (s : Int × Int), m.Sublist (j7 0 0 w h) → TpOk s → qG s 4 fun t10 =>
   ifW (decide (t10.1 = 0)) (fun kk => qG t10.2 20 fun t12 => qG t12.2 20 fun t13 => qG t13.2 2 fun t14 => exW (atI [[t12.1, t13.1], [(41 - w), (41 - h)]] t14.1) fun x15 => kk (t14.2, x15)) (fun kk => kk (t10.2, [0, 0])) fun (s11 : ((Int × Int) × (List Int))) =>
   (m.length ≤ sizeLine) ∧ lcW m ([] : List (Int × Int)) () (fun a17 (s : Unit) w => exW (atI s11.2 0) fun x19 => exW (atI s11.2 1) fun x21 => w (some ((a17.1 + x19), (a17.2 + x21))) ()) fun l23 s24 => kr ((srt tl2 l23), s11.1) := by
   intro m s hm hs
   refine zN hs (by decide) (by decide) fun z s1 _ _ hs => ?_
   have last : ∀ (s2 : Int × Int) (u v : Int), TpOk s2 → 0 ≤ u → u ≤ 40 → 0 ≤ v → v ≤ 40 → (fun (s11 : ((Int × Int) × (List Int))) =>
    (m.length ≤ sizeLine) ∧ lcW m ([] : List (Int × Int)) () (fun a17 (s : Unit) w => exW (atI s11.2 0) fun x19 => exW (atI s11.2 1) fun x21 => w (some ((a17.1 + x19), (a17.2 + x21))) ()) fun l23 s24 => kr ((srt tl2 l23), s11.1)) (s2, [u, v]) := by
    intro s2 u v hs hu0 hu1 hv0 hv1
    have hml : m.length ≤ 144 := Nat.le_trans hm.length_le gl
    refine ⟨by rw [sz]; omega, Xf (fun c => (c.1 + u, c.2 + v)) (fun c hc w' hw => ⟨u, rfl, v, rfl, hw⟩) (hk _ _ ⟨qeG _ ?_, ?_, ?_⟩ hs)⟩
    ·refine (List.pairwise_map).mpr (((Zh (ZM 0 0 w h)).sublist hm).imp fun {a b} hab e => hab ?_)
     simp only [Prod.mk.injEq] at e
     exact Prod.ext (by omega) (by omega)
    ·rw [(vM _).length_eq, List.length_map]; exact hml
    ·intro c hc
     rw [qfi, List.mem_map] at hc
     obtain ⟨d, hd, rfl⟩ := hc
     have := uE.mp (hm.mem hd)
     simp only; omega
   refine ⟨fun _ => ?_, fun _ => last _ 0 0 hs (by omega) (by omega) (by omega) (by omega)⟩
   refine zN hs (by decide) (by decide) fun u s2 hu0 hu1 hs => zN hs (by decide) (by decide) fun v s3 hv0 hv1 hs => zN hs (by decide) (by decide) fun z s4 hz0 hz1 hs => ?_
   have hz : z = 0 ∨ z = 1 := by omega
   rcases hz with rfl | rfl
   ·exact ⟨_, rfl, last _ u v hs (by omega) (by omega) (by omega) (by omega)⟩
   ·exact ⟨_, rfl, last _ _ _ hs (by omega) (by omega) (by omega) (by omega)⟩
  have mid : ∀ (b : Bool) (s : Int × Int), TpOk s → (fun (b8 : Bool × (Int × Int)) =>
   ifW b8.1 (fun kk => za 0 0 w h fun t9 => kk t9) (fun kk => kk m) fun (cells : (List (Int × Int))) =>
   qG b8.2 4 fun t10 =>
   ifW (decide (t10.1 = 0)) (fun kk => qG t10.2 20 fun t12 => qG t12.2 20 fun t13 => qG t13.2 2 fun t14 => exW (atI [[t12.1, t13.1], [(41 - w), (41 - h)]] t14.1) fun x15 => kk (t14.2, x15)) (fun kk => kk (t10.2, [0, 0])) fun (s11 : ((Int × Int) × (List Int))) =>
   (cells.length ≤ sizeLine) ∧ lcW cells ([] : List (Int × Int)) () (fun a17 (s : Unit) w => exW (atI s11.2 0) fun x19 => exW (atI s11.2 1) fun x21 => w (some ((a17.1 + x19), (a17.2 + x21))) ()) fun l23 s24 => kr ((srt tl2 l23), s11.1)) (b, s) := by
   intro b s hs
   exact ⟨fun _ => Z6 (by omega) (by omega) (by omega) (by omega) (fin _ _ (List.Sublist.refl _) hs), fun _ => fin _ _ hm hs⟩
  exact ⟨fun _ => zN hs (by decide) (by decide) fun z s1 _ _ hs => mid _ _ hs, fun _ => mid _ _ hs⟩
 refine ⟨fun _ => zN ht (by decide) (by decide) fun c t3 hc0 hc1 ht => zN ht (by decide) (by decide) fun d t4 hd0 hd1 ht => rest _ _ _ ht (by omega) (by omega) (by omega) (by omega), fun _ => rest _ _ _ ht (by omega) (by omega) (by omega) (by omega)⟩
theorem qgX {ns : List Int} {k : Int} {kr : Int × Int → Prop} (h1 : 0 ≤ k) (h2 : k ≤ 1000) (h : ∀ t, TpOk t → kr t) : v7 ns k kr := ⟨⟨h1, h2⟩, h⟩
end BC
namespace BC
open PySem PySem.Spec PyProof.Rows L2 BX TX COM
abbrev C2 := Int × Int
abbrev B4 := Int × Int × Int × Int
section
variable {κ α : Type} [DecidableEq κ]
theorem QR {k c : κ} {v : α} : ∀ {l : List (κ × α)}, getA (putA k v l) c = if c = k then some v else getA l c
 | [] => by
   unfold getA putA
   by_cases h : c = k
   ·simp [h]
   ·have : ¬ k = c := fun z => h z.symm
    simp [h, this]
 | p :: l => by
   have ih := QR (k := k) (c := c) (v := v) (l := l)
   unfold getA at ih ⊢
   rw [putA]
   by_cases h1 : p.1 = k
   ·rw [if_pos h1, List.find?_cons, List.find?_cons]
    by_cases h : c = k
    ·simp [h, h1]
    ·have : ¬ p.1 = c := fun z => h (by rw [← z]; exact h1)
     simp [h, this]
   ·rw [if_neg h1, List.find?_cons, List.find?_cons]
    by_cases h : p.1 = c
    ·have : ¬ c = k := fun z => h1 (by rw [h]; exact z)
     simp [h, this]
    ·simp only [h, decide_false]
     exact ih
theorem vQ {k : κ} : ∀ {l : List (κ × α)}, hasA l k = (getA l k).isSome
 | [] => rfl
 | p :: l => by
   have ih := vQ (k := k) (l := l)
   unfold hasA getA at ih ⊢
   rw [List.any_cons, List.find?_cons]
   by_cases h : p.1 = k
   ·simp [h]
   ·simp only [h, decide_false, Bool.false_or]
    exact ih
theorem Xe {k : κ} {v : α} : ∀ {m : List (κ × α)}, (putA k v m).length ≤ m.length + 1
 | [] => by simp [putA]
 | p :: m => by
   have := Xe (k := k) (v := v) (m := m)
   rw [putA]; split <;> simp <;> omega
theorem qcH {β : Type} {f : β → κ} {v : β → α} {c : κ} : ∀ {l : List β} {m : List (κ × α)}, hasA (xW m (l.map fun b => (f b, v b))) c = (hasA m c || decide (c ∈ l.map f))
 | [], m => by simp [xW]
 | b :: l, m => by
   show hasA (xW (putA (f b) (v b) m) (l.map _)) c = _
   rw [qcH (l := l), vQ, QR, vQ]
   by_cases h : c = f b
   ·simp [h]
   ·simp [h]
theorem has_dict {l : List κ} {v : α} {c : κ} [d : Decidable (c ∈ l)] : hasA (xW [] (l.map fun b => (b, v))) c = decide (c ∈ l) := by
 have := qcH (f := fun b : κ => b) (v := fun _ => v) (l := l) (m := ([] : List (κ × α))) (c := c)
 rw [this]
 by_cases h : c ∈ l <;> simp [hasA, h]
end
section
variable {α β γ δ : Type} {f : α → D}
theorem XR {n : Nat} {i : Int} : xY (n + 1) (.int i) := trivial
theorem so_L {n : Nat} {l : List α} (h : l.length ≤ 1000000) (h2 : ∀ a ∈ l, xY n (f a)) : xY (n + 1) (eL f l) := ⟨by simpa using h, fun x hx => by
 obtain ⟨a, ha, rfl⟩ := List.mem_map.mp hx
 exact h2 a ha⟩
theorem qi2 {g : β → D} {n : Nat} {p : α × β} (h1 : xY n (f p.1)) (h2 : xY n (g p.2)) : xY (n + 1) (eT2 f g p) := ⟨by simp, fun x hx => by
 simp at hx; rcases hx with rfl | rfl <;> assumption⟩
theorem qi1 {g : β → D} {h : γ → D} {i : δ → D} {n : Nat} {p : α × β × γ × δ} (h1 : xY n (f p.1)) (h2 : xY n (g p.2.1)) (h3 : xY n (h p.2.2.1)) (h4 : xY n (i p.2.2.2)) : xY (n + 1) (eT4 f g h i p) := ⟨by simp, fun x hx => by
 simp at hx; rcases hx with rfl | rfl | rfl | rfl <;> assumption⟩
theorem qgZ {n : Nat} (b : B4) : xY (n + 2) (eT4 D.int D.int D.int D.int b) := qi1 XR XR XR XR
end
def xQ (r : List C2) : Prop := r.Pairwise ltC ∧ r.length ≤ 1000 ∧ ∀ c ∈ r, (0 ≤ c.1 ∧ c.1 ≤ 60) ∧ 0 ≤ c.2 ∧ c.2 ≤ 60
theorem qdo.b {r : List C2} (h : qdo r) : xQ r := ⟨h.1, by have := h.2.1; omega, h.2.2⟩
end BC
namespace TX
open PySem PySem.Spec PyProof.Rows L2 BX
abbrev J := {d : D // d.imm = true}
abbrev eJ (d : J) : D := d.1
instance : Im eJ := ⟨fun d => d.2⟩
def toJ {α : Type} (f : α → D) [Im f] (a : α) : J := ⟨f a, Im.im a⟩
abbrev eF {α : Type} (f : α → D) (l : List α) : D := .lF (l.map f)
instance {α : Type} {f : α → D} [hf : Im f] : Im (eF f) := ⟨fun l => by rw [eF, D.imm]; exact imL l⟩
abbrev eX {α : Type} (f : α → D) (p : Bool × List α) : D := match p.1 with
 | true => eV f p.2
 | false => eF f p.2
instance {α : Type} {f : α → D} [hf : Im f] : Im (eX f) := ⟨fun p => by
 obtain ⟨b, l⟩ := p
 cases b
 ·exact Im.im (f := eF f) l
 ·exact Im.im (f := eV f) l⟩
theorem qcT {α : Type} {f : α → D} {p : Bool × List α} : D.isF (eX f p) = false := by
 obtain ⟨b, l⟩ := p
 cases b <;> rfl
section
variable {e e1 e' : En} {L : Nat} {r r1 r2 : R} {d d' d1 d2 : D} {Q : R → En → Prop} {α β : Type}
theorem c_fz {t : XE} (q : t e fun r e => match r with
 | .tmp (.lst xs) => immL xs = true ∧ aR Q (.tmp (.lF xs)) e
 | _ => False) : dFz t e Q := q
theorem o_fz {f : α → D} [Im f] {l : List α} (q : aR Q (.tmp (eF f l)) e) : aR (fun r e => match r with
 | .tmp (.lst xs) => immL xs = true ∧ aR Q (.tmp (.lF xs)) e
 | _ => False) (.tmp (eL f l)) e := ⟨imL l, q⟩
theorem ix_F {f : α → D} {l : List α} {i : Int} {a : α} (h : atI l i = some a) : IxTo (eF f l) (.int i) (f a) := fun k q => by unfold eF ixd; simp only [vJ h]; exact q
variable {kI : List D → Option Bool → Lok → En → Prop}
theorem qhh {f : α → D} [Im f] {l : List α} (q : aI kI (l.map f) none none e) : (rd 2 (.tmp (eF f l)) e fun d => seqK e kI (.tmp (eF f l)) d) := ⟨imL l, q⟩
theorem qcg {f : α → D} [Im f] {p : Bool × List α} (q : aI kI (p.2.map f) none none e) : (rd 2 (.tmp (eX f p)) e fun d => seqK e kI (.tmp (eX f p)) d) := by
 obtain ⟨b, l⟩ := p
 cases b
 ·exact qhh q
 ·exact qcf q
end
end TX
namespace TX
open PySem PySem.Spec PyProof.Rows L2 BX
section
variable {e e1 e' : En} {L : Nat} {r r1 r2 : R} {d d' d1 d2 : D} {Q : R → En → Prop} {α β : Type} {i : Nat}
theorem qdN {f : α → D} [Im f] {a b : List α} (h : a.length + b.length ≤ sizeLine) : OpTo wU (eF f a) (eL f b) (eL f (a ++ b)) := fun k q => ⟨imL a, imL b, by simpa using h, by rw [← List.map_append]; exact q⟩
theorem qab {f : α → D} [Im f] {a b : List α} (h : a.length + b.length ≤ sizeLine) : OpTo wU (eL f a) (eF f b) (eL f (a ++ b)) := fun k q => ⟨imL a, imL b, by simpa using h, by rw [← List.map_append]; exact q⟩
variable {kI : List D → Option Bool → Lok → En → Prop}
theorem Wv {f : α → β} : ∀ (l : List α) (k : Nat), (l.eraseIdx k).map f = (l.map f).eraseIdx k
 | [], _ => rfl
 | _ :: _, 0 => rfl
 | a :: l, k + 1 => by simp [Wv l k]
theorem qcj {f : α → D} [hf : Im f] {l : List α} {k : Int} {a : α} {m : Md} {P : List α → Prop} (ee : List α → En) (h : lt (l.eraseIdx k.toNat) P) (hk : 0 ≤ k ∧ k < 2 ^ 63) (ha : l[k.toNat]? = some a) (h2 : Rv e 2 r2 (.int k)) (h0 : e[i]? = some (some (eL f l, m))) (he : ∀ x, e.set i (some (eL f x, m)) = ee x) (q : ∀ x, P x → aR Q (.tmp (f a)) (ee x)) (hm : m = .own ∨ m = .io := by decide) : Z7 (.sl i) [r2] e Q := by
 have q := q _ h
 rw [← he] at q
 unfold eL at h0 q
 rw [Wv] at q
 have hl : (l.map f)[k.toNat]? = some (f a) := by rw [List.getElem?_map, ha]; rfl
 refine h2.rd ?_
 show chgL _ _ _
 unfold chgL chg
 rcases hm with rfl | rfl <;> (simp only [h0, hl]; exact ⟨⟨imL l, hk.1, hk.2⟩, q⟩)
end
end TX
namespace TX
open PySem PySem.Spec PyProof.Rows L2 BX
section
variable {e e1 e2 e' e'' : En} {L i : Nat} {r r1 r2 : R} {d d' d1 d2 dd : D} {Q : R → En → Prop} {n x : Str} {fs fs' : List (Str × D)} {m : Md} {op : OP} {ta te ti : XE} {u : XA} {S : FS} {isT : D → Bool} {B : Bn}
theorem qcL {k : D → Prop} (hx : fs.lookup x = some d) (q : k d) : fldK x fs k := by
 unfold fldK; rw [hx]; exact q
theorem qhN (h0 : e[i]? = some (some (.ob n fs, m))) (hm : m.okL L = true) (hx : fs.lookup x = some d) {K : D → En → Prop} (q : K d e) (hL : m = .ro → L = 1) (hc : m ≠ .cst) : Yl n x L (dVar i) e K := by
 unfold Yl dVar
 rw [h0]
 cases m with
 | cst => exact absurd rfl hc
 | ro =>
   have := hL rfl
   subst this
   show rd 1 (.ro false _) e _
   exact ⟨rfl, qcL hx q⟩
 | _ =>
   show rd L (.sl i) e _
   unfold rd R.data
   simp only [h0, hm]
   exact ⟨rfl, qcL hx q⟩
theorem qah (h0 : e[i]? = some (some (.ob n fs, m))) (hm : m.okL 1 = true) (hc : m ≠ .cst) (hx : fs.lookup x = some d) (im : d.imm = true) (q : aR Q (.tmp d) e) : qbg (Yl n x 1 (dVar i)) e Q := qhN h0 hm hx (K := fun d e => d.imm = true ∧ Q (.tmp d) e) ⟨im, q⟩ (fun _ => rfl) hc
theorem qh0 {tv : XV} (q : ta e fun r1 e1 => tv e1 fun d2 e2 => rd L r1 e2 fun d1 => op d1 d2 fun d => aR Q (.tmp d) e2) : Vv L op ta tv e Q := q
theorem qhm (h1 : Rv e 1 r1 d1) (h0 : e[i]? = some (some (.ob n fs, m))) (hm : m.okL 1 = true) (hc : m ≠ .cst) (hx : fs.lookup x = some d2) (ho : OpTo op d1 d2 d) (q : aR Q (.tmp d) e) : Yl n x 1 (dVar i) e fun d2 e2 => rd 1 r1 e2 fun d1 => op d1 d2 fun d => aR Q (.tmp d) e2 :=
 qhN h0 hm hx (K := fun d2 e2 => rd 1 r1 e2 fun d1 => op d1 d2 fun d => aR Q (.tmp d) e2) (h1.rd (ho _ q)) (fun _ => rfl) hc
theorem V2 {r : List (Str × D)} : setF x d' ((x, d) :: r) = (x, d') :: r := by rw [setF, if_pos rfl]
theorem Q7 {y : Str} {r r' : List (Str × D)} (h : ¬ y = x) (t : setF x d' r = r') : setF x d' ((y, d) :: r) = (y, d) :: r' := by rw [setF, if_neg h, t]
theorem YW : setF x d' [] = [(x, d')] := rfl
variable {kI : List D → Option Bool → Lok → En → Prop}
variable {nx : En → Prop} {rt : D → En → Prop}
def qf4 (n x : Str) (i : Nat) (e : En) (nx : En → Prop) (d : D) : Prop := match e[i]? with
 | some (some (.ob n' fs, m)) => n' = n ∧ m.rd = false ∧ fs.length < 1000 ∧ nx (e.set i (some (.ob n (setF x d fs), m)))
 | _ => False
theorem X4 (q : te e fun r e1 => stor r e1 fun d => qf4 n x i e1 nx d) : Uu n x i te e nx rt := q
theorem Je (hr : St e r d) (h0 : e[i]? = some (some (.ob n fs, m))) (hm : m.rd = false) (hl : fs.length < 1000) (hs : setF x d fs = fs') (he : e.set i (some (.ob n fs', m)) = e') (q : aN nx e') : stor r e fun d => qf4 n x i e nx d := hr _ (by
 unfold qf4
 rw [h0]
 refine ⟨rfl, hm, hl, ?_⟩
 rw [hs, he]; exact q)
theorem qdb (h0 : e[i]? = some (some (.ob n fs, m))) (hm : m.rd = false) (hx : fs.lookup x = none) (q : u e fun rs e2 => yR S.ms (.sl i :: rs) e2 = true ∧ apart S.ms (.sl i :: rs) = true ∧ jP 2 (.sl i :: rs) e2 fun ds => S.wp ds fun d ds' => aR Q (.tmp d) (putB S.ms (.sl i :: rs) ds' 0 e2)) : Vt n x S (dVar i) u e Q := by
 unfold Vt
 refine qeA h0 hm ⟨?_, q⟩
 unfold rd R.data
 have : m.okL 2 = true := by cases m <;> first | rfl | cases hm
 simp only [h0, this]
 exact ⟨rfl, hx⟩
theorem c_mk (q : u e fun rs e => yR S.ms (.sl e.length :: rs) (e ++ [some (.ob n [], .own)]) = true ∧ apart S.ms (.sl e.length :: rs) = true ∧ jP 2 (.sl e.length :: rs) (e ++ [some (.ob n [], .own)]) fun ds => S.wp ds fun d ds' =>
 d = .non ∧ match (putB S.ms (.sl e.length :: rs) ds' 0 (e ++ [some (.ob n [], .own)]))[e.length]? with
  | some (some (d', .own)) => aR Q (.tmp d') ((putB S.ms (.sl e.length :: rs) ds' 0 (e ++ [some (.ob n [], .own)])).take e.length)
  | _ => False) : dMk n S u e Q := q
theorem x_mk {α κ : Type} {ms : List Md} {ia : α → List D} {w : α → (κ → Prop) → Prop} {od : α → κ → List D} {rs : List R} (a : α) (fo : κ → D) (fe : κ → En) {k : κ → Prop} (h : w a k) (hr : RvL (e ++ [some (.ob n [], .own)]) 2 (.sl e.length :: rs) (ia a)) (h1 : yR ms (.sl e.length :: rs) (e ++ [some (.ob n [], .own)]) = true) (h2 : apart ms (.sl e.length :: rs) = true)
 (he : ∀ r, (putB ms (.sl e.length :: rs) (od a r) 0 (e ++ [some (.ob n [], .own)])) = fe r ++ [some (fo r, .own)]) (hle : ∀ r, (fe r).length = e.length) (q : ∀ r, k r → aR Q (.tmp (fo r)) (fe r)) :
 yR (mkS ms ia w (fun _ => D.non) od).ms (.sl e.length :: rs) (e ++ [some (.ob n [], .own)]) = true ∧ apart (mkS ms ia w (fun _ => D.non) od).ms (.sl e.length :: rs) = true ∧ jP 2 (.sl e.length :: rs) (e ++ [some (.ob n [], .own)]) fun ds => (mkS ms ia w (fun _ => D.non) od).wp ds fun d ds' =>
  d = .non ∧ match (putB (mkS ms ia w (fun _ => D.non) od).ms (.sl e.length :: rs) ds' 0 (e ++ [some (.ob n [], .own)]))[e.length]? with
   | some (some (d', .own)) => aR Q (.tmp d') ((putB (mkS ms ia w (fun _ => D.non) od).ms (.sl e.length :: rs) ds' 0 (e ++ [some (.ob n [], .own)])).take e.length)
   | _ => False :=
 ⟨h1, h2, hr.go (k := fun ds => (mkS ms ia w (fun _ => D.non) od).wp ds fun d ds' => d = .non ∧ match (putB (mkS ms ia w (fun _ => D.non) od).ms (.sl e.length :: rs) ds' 0 (e ++ [some (.ob n [], .own)]))[e.length]? with
  | some (some (d', .own)) => aR Q (.tmp d') ((putB (mkS ms ia w (fun _ => D.non) od).ms (.sl e.length :: rs) ds' 0 (e ++ [some (.ob n [], .own)])).take e.length)
  | _ => False) ⟨a, k, rfl, h, fun r hk => by
  refine ⟨rfl, ?_⟩
  show match (putB ms (.sl e.length :: rs) (od a r) 0 (e ++ [some (.ob n [], .own)]))[e.length]? with
   | some (some (d', .own)) => aR Q (.tmp d') ((putB ms (.sl e.length :: rs) (od a r) 0 (e ++ [some (.ob n [], .own)])).take e.length)
   | _ => False
  rw [he]
  have e1 : (fe r ++ [some (fo r, Md.own)])[e.length]? = some (some (fo r, .own)) := by
   rw [← hle r, List.getElem?_append_right (Nat.le_refl _)]; simp
  have e2 : (fe r ++ [some (fo r, Md.own)]).take e.length = fe r := by
   rw [← hle r, List.take_left]
  rw [e1]
  show aR Q _ (List.take _ _)
  rw [e2]
  exact q r hk⟩⟩
end
end TX
namespace TX
open PySem PySem.Spec PyProof.Rows L2 BX
end TX
namespace TX
open PySem PySem.Spec PyProof.Rows L2 BX
end TX
namespace BX
open PySem PySem.Spec PyProof.Rows L2
end BX
namespace BX
open PySem PySem.Spec PyProof.Rows L2
end BX
namespace BX
open PySem PySem.Spec PyProof.Rows L2 RT
end BX
namespace BX
open PySem PySem.Spec PyProof.Rows L2
end BX
namespace BX
open PySem PySem.Spec PyProof.Rows L2
end BX
namespace TX
open PySem PySem.Spec PyProof.Rows L2 BX PySem.W
end TX
namespace TX
open PySem PySem.Spec PyProof.Rows L2 BX
section
variable {e e' e2 : En} {i : Nat} {m : Md} {Q : R → En → Prop} {α κ : Type} {f : α → D} {kf : κ → List Key} {l : List (κ × α)}
theorem qjp [hf : Im f] : immL ((l.map fun p => (kf p.1, f p.2)).map (·.2)) = true := QL fun d hd => by
 simp only [List.map_map, List.mem_map, Function.comp] at hd
 obtain ⟨p, _, rfl⟩ := hd
 exact hf.im _
abbrev lkK (e : En) (Q : R → En → Prop) : R → En → Prop := fun r _ => match r with
 | .tmp (.lst xs) => immL xs = true ∧ Q (.tmp (.lst xs)) e
 | _ => False
theorem qjy [hf : Im f] {t : XE} (h0 : e[i]? = some (some (eDT kf f l, m))) (hm : m.rd = false) (h1 : (YX e).set i (some (eDF kf f l, .own)) = e') (q : t e' (lkK e Q)) : dLkW i t e Q := by
 unfold eDT at h0
 unfold eDF at h1
 unfold dLkW
 rw [h0]
 exact ⟨hm, qjp, by rw [h1]; exact q⟩
theorem qjc {β : Type} {g : β → D} [hg : Im g] {xs : List β} (q : aR Q (.tmp (eL g xs)) e) : aR (lkK e Q) (.tmp (eL g xs)) e2 := ⟨imL xs, q⟩
end
theorem qjd {e : En} {i : Nat} {kI : List D → Option Bool → Lok → En → Prop} {α κ : Type} {c : κ → D} {kf : κ → List Key} [hk : Kt c kf] {f : α → D} {l : List (κ × α)} {m : Md} (h0 : e[i]? = some (some (eDF kf f l, m))) (q : aI kI ((l.map (·.1)).map c) none none e) : iKs i e kI := by
 unfold eDF at h0
 unfold iKs
 simp only [h0]
 have : Vf (l.map fun p => (kf p.1, f p.2)) = (l.map (·.1)).map c := by
  unfold Vf
  rw [List.map_map, List.map_map]
  refine List.map_congr_left fun p _ => ?_
  obtain ⟨ds, e1, e2⟩ := hk.key p.1
  show D.tup ((kf p.1).map kD) = c p.1
  rw [e1, JG e2]
 rw [this]
 exact q
inductive MvL (e : En) : List Nat → List R → List D → Prop
 | nil {mv : List Nat} : MvL e mv [] []
 | sl {mv : List Nat} {i : Nat} {d : D} {rs : List R} {ds : List D} : e[i]? = some (some (d, .own)) → i ∉ mv → MvL e (i :: mv) rs ds → MvL e mv (.sl i :: rs) (d :: ds)
 | tmp {mv : List Nat} {d : D} {rs : List R} {ds : List D} : MvL e mv rs ds → MvL e mv (.tmp d :: rs) (d :: ds)
 | ro {mv : List Nat} {d : D} {rs : List R} {ds : List D} : d.imm = true → MvL e mv rs ds → MvL e mv (.ro false d :: rs) (d :: ds)
theorem MvL.go {e : En} : ∀ {mv : List Nat} {rs : List R} {ds : List D}, MvL e mv rs ds → ∀ {k : List D → Prop}, k ds → movL rs e mv k
 | _, _, _, .nil, k, q => q
 | _, _, _, .sl h n t, k, q => by
   unfold movL
   rw [h]
   exact ⟨n, t.go q⟩
 | _, _, _, .tmp t, k, q => t.go (k := fun ds => k (_ :: ds)) q
 | _, _, _, .ro h t, k, q => ⟨rfl, h, t.go (k := fun ds => k (_ :: ds)) q⟩
end TX
namespace TX
open PySem PySem.Spec PyProof.Rows L2 BX PySem.W
end TX
namespace BX
open TX
end BX
namespace TX
open PySem PySem.Spec PyProof.Rows L2 BX
end TX
namespace TX
open PySem PySem.Spec PyProof.Rows L2 BX PySem.W
end TX
namespace TX
open PySem PySem.Spec PyProof.Rows L2 BX
end TX
namespace TX
open PySem PySem.Spec PyProof.Rows L2 BX
end TX
namespace BX
open PySem PySem.Spec PyProof.Rows L2
end BX
namespace BX
open PySem PySem.Spec PyProof.Rows L2
end BX
namespace BX
open PySem PySem.Spec PyProof.Rows L2
end BX
namespace TX
open PySem PySem.Spec PyProof.Rows L2 BX
end TX
namespace TX
open PySem PySem.Spec PyProof.Rows L2 BX
end TX
namespace TX
open PySem PySem.Spec PyProof.Rows L2 BX
end TX
namespace BX
open PySem PySem.Spec PyProof.Rows L2
end BX
namespace BX
open PySem PySem.Spec PyProof.Rows L2
section
variable {prog : Program} {w : World} {A : Around} {E : Value → Shared → Prop} {s : Shared}
theorem Q3 {a b : Bool} {Q : Bool → Shared → Prop} (h : Q (a == b) s) : wpAny (model prog w) A (eqBool (.bool a) (.bool b)) Q E s := by
 unfold eqBool
 show wpAny _ _ (if (Value.bool a == Value.bool b) = true then _ else _) Q E s
 by_cases hab : (Value.bool a == Value.bool b) = true
 ·rw [if_pos hab]
  have e : a = b := by have := eq_of_beq hab; injection this
  subst e
  exact wpAny_bind (wpAny_rule (wpAny_pure (by simpa using h)))
 ·rw [if_neg hab]
  exact wpAny_bind (eq_bool (wpAny_truthy_bool h))
theorem jR : entryFor table "proto.contains_iter" = some Builtin.«proto.contains_iter» := by kernel_rfl
theorem qcG {it d : Addr} {od : Obj} {es : Array DictEntry} {ep : Nat} {x : Bool} (hdd : od.data = .dict es ep) (hne : d ≠ it) (hall : ∀ (j : Nat) (e : DictEntry), es[j]? = some e → ∃ b, e.val = .bool b) {R : Result → Shared → Prop} :
 ∀ (k i : Nat) (s : Shared) (A : Around), A.handled = none → es.size - i = k → i ≤ es.size → s.heap.get? it = some (DVw.valOb d i es.size ep) → s.heap.get? d = some od →
  (∀ (h' : Heap) (t : Nat), (∀ b o, b ≠ it → s.heap.get? b = some o → h'.get? b = some o) → R (.ok (.ret (.bool ((es.toList.drop i).any fun e => e.val == .bool x)))) { s with heap := h' }) →
  codeAny (model prog w) A (.builtin "proto.contains_iter" ⟨[.ref it, .bool x], []⟩) R s
 | 0, i, s, A, hh, hk, hi, h1, h2, hR => by
   have he : es[i]? = none := Array.getElem?_eq_none (by omega)
   refine codeAny_builtin jR ?_
   refine wpAny_bind (DVw.val_end (show (A.under _).handled = none from hh) h1 h2 hdd rfl he fun h' eb => ?_)
   have hn : ((es.toList.drop i).any fun e => e.val == .bool x) = false := by
    rw [List.drop_eq_nil_of_le (by simpa using (show es.size ≤ i by omega))]; rfl
   rw [hn] at hR
   exact wpAny_bind (wpAny_rule (wpAny_pure (hR h' 0 fun b o hb q => eb b o hb q)))
 | k + 1, i, s, A, hh, hk, hi, h1, h2, hR => by
   have hlt : i < es.size := by omega
   have he : es[i]? = some es[i] := Array.getElem?_eq_getElem hlt
   refine codeAny_builtin jR ?_
   refine wpAny_bind (DVw.val_item h1 h2 hdd rfl he fun h' e1 sb => ?_)
   obtain ⟨b, hb⟩ := hall i _ he
   show wpAny _ _ (eqBool es[i].val (.bool x) >>= _) _ _ _
   rw [hb]
   refine wpAny_bind (Q3 ?_)
   have hd : es.toList.drop i = es[i] :: es.toList.drop (i + 1) := by
    rw [List.drop_eq_getElem_cons (by simpa using hlt)]; rfl
   have kp : ∀ b o, b ≠ it → s.heap.get? b = some o → h'.get? b = some o := fun b o hb q => (sb.2 b hb).trans q
   by_cases hx : b = x
   ·subst hx
    rw [if_pos (by simp)]
    have hn : ((es.toList.drop i).any fun e => e.val == .bool b) = true := by
     rw [hd, List.any_cons, hb]; simp
    rw [hn] at hR
    exact wpAny_bind (wpAny_rule (wpAny_pure (hR h' 0 kp)))
   ·rw [if_neg (by simpa using hx)]
    have hn : ((es.toList.drop i).any fun e => e.val == .bool x) = ((es.toList.drop (i + 1)).any fun e => e.val == .bool x) := by
     rw [hd, List.any_cons, hb]
     have : (Value.bool b == Value.bool x) = false := by
      rw [← Bool.not_eq_true]; intro z; have := eq_of_beq z; injection this with this; exact hx this
     rw [this, Bool.false_or]
    rw [hn] at hR
    refine wpAny_pure ⟨plainId_quiet (by first | rfl | kernel_rfl | decide) _, qcG hdd hne hall k (i + 1) _ _ hh (by omega) (by omega) e1 (kp _ _ hne h2) fun h2' t q => hR h2' t fun c o hc q2 => q c o hc (kp c o hc q2)⟩
theorem ZD : typeLookup (.type "dict_values") (Str.ofString "__contains__") = pure none := by rw [typeLookup_type, builtinLookup_eq_fast]; kernel_rfl
theorem Xu {v d : Addr} {od : Obj} {es : Array DictEntry} {ep : Nat} {x : Bool} {Q : Bool → Shared → Prop} (hh : A.handled = none) (hdd : od.data = .dict es ep) (hall : ∀ (j : Nat) (e : DictEntry), es[j]? = some e → ∃ b, e.val = .bool b) (hv : s.heap.get? v = some (DSub.viewOb "dict_values" d)) (ho : s.heap.get? d = some od)
 (hQ : ∀ (h' : Heap), (∀ b o, s.heap.get? b = some o → h'.get? b = some o) → Q (es.toList.any fun e => e.val == .bool x) { s with heap := h' }) : wpAny (model prog w) A (contains (.ref v) (.bool x)) Q E s := by
 have hT : s.TypeIs (.ref v) "dict_values" := ⟨_, hv, rfl⟩
 have lt : ∀ {b : Addr} {o : Obj}, s.heap.get? b = some o → b ≠ s.heap.objs.size := fun {b o} hb => Nat.ne_of_lt (Heap.lt_size hb)
 have hne : d ≠ s.heap.objs.size := lt ho
 unfold contains
 refine wpAny_holding ?_
 rw [stdlibNamesSay?_of_typeIs hT]
 refine wpAny_bind (wpAny_specialOf hT ZD ?_)
 show wpAny _ _ (if (none == some Value.none) = true then _ else _) Q E s
 rw [if_neg (by simp)]
 have hc : wpAny (model prog w) A (callSpecialUnlessNone? (.ref v) "__contains__" [.bool x] (do rule "in.none"; raiseError "TypeError" s!"'{← typeNameOf (.ref v)}' object is not a container")) (fun r s' => r = none ∧ s = s') E s := by
  simp only [callSpecialUnlessNone?]
  exact wpAny_bind (wpAny_specialOf hT ZD (wpAny_pure ⟨rfl, rfl⟩))
 refine wpAny_bind (wpAny_mono hc (fun r s' h => ?_) fun _ _ e => e)
 obtain ⟨rfl, rfl⟩ := h
 refine wpAny_bind (wpAny_rule ?_)
 refine wpAny_bind (wpAny_tryCatch (DSub.iter_vals hv ho hdd ?_))
 refine wpAny_bind (wpAny_runValue (qcG hdd hne hall _ 0 _ _ hh rfl (Nat.zero_le _) (Heap.get?_push_size _ rfl) (Heap.get?_push_of_some _ ho) fun h' t kp => ?_))
 show wpAny _ _ (pure _) Q E _
 exact wpAny_pure (hQ h' fun b o hb => kp b o (lt hb) (Heap.get?_push_of_some _ hb))
end
end BX
namespace BX
open PySem PySem.Spec PyProof.Rows L2
section
variable {X : Cx}
theorem XF {H : Hp} : ∀ {kvs : List (List L2.Key × V)} {xs : List (List L2.Key × Addr × Value)} {bs : List Bool}, KT H kvs xs → kvs.map (·.2) = bs.map V.bl → xs.map (fun q => q.2.2) = bs.map Value.bool
 | _, _, bs, Paired.nil, e => by
   cases bs with
   | nil => rfl
   | cons b bs => cases e
 | _, _, bs, Paired.cons (a := p) (b := q) h t, e => by
   cases bs with
   | nil => cases e
   | cons b bs =>
     rw [List.map_cons, List.map_cons] at e
     injection e with e1 e2
     have r := h.2.2
     rw [e1] at r
     have r2 : ∀ v, RelV (V.bl b) v → v = Value.bool b := fun v h => by cases h; rfl
     have r := r2 _ r
     rw [List.map_cons, List.map_cons, r, XF t e2]
def qi6 : R2 := fun x y H Q => ∃ (c : Bool) (p a : Addr) (kvs : List (List L2.Key × V)) (bs : List Bool), x = .bl c ∧ y = .ref p ∧ H p = some (L2.viewO "dict_values" p a) ∧ H a = some (.dT kvs) ∧ kvs.map (·.2) = bs.map V.bl ∧ Q (.bl (!(bs.any fun b => b == c))) H
theorem qca (hc : X.calm = true) : OpR X (compareOp .NotIn) qi6 := by
 intro pins s σ H x y v u Q I rx ry h
 obtain ⟨c, p, a, kvs, bs, rfl, rfl, hp, ha, hb, q⟩ := h
 cases rx
 cases ry
 obtain ⟨z, hd, xs', rel, o, es, ep, ho, hx, hdat, hee, _⟩ := dt_of I.hok ha
 have vals := XF rel hb
 have hv : s.heap.get? p = some (DSub.viewOb "dict_values" a) := (I.hok p _ hp).1
 have ev : es.toList.map (·.val) = bs.map Value.bool := by rw [hee, List.map_map]; exact vals
 show wpAny _ _ (contains (.ref p) (.bool c) >>= fun b => pure (Value.bool (!b))) _ _ _
 refine wpAny_bind (Xu (I.ok.hd hc) hdat (fun j e he => ?_) hv ho fun h' kp => wpAny_pure ?_)
 ·have h1 : e ∈ es.toList := by
   rw [Array.mem_toList_iff]; exact Array.mem_of_getElem? he
  have h2 : e.val ∈ bs.map Value.bool := by rw [← ev]; exact List.mem_map_of_mem h1
  obtain ⟨b, _, hb⟩ := List.mem_map.mp h2
  exact ⟨b, hb.symm⟩
 ·have e : (es.toList.any fun e => e.val == .bool c) = bs.any fun b => b == c := by
   have e1 : (es.toList.any fun e => e.val == .bool c) = (es.toList.map (·.val)).any fun v => v == .bool c := by rw [List.any_map]; rfl
   rw [e1, ev, List.any_map]
   refine congrArg (fun f => bs.any f) (funext fun b => ?_)
   show (Value.bool b == Value.bool c) = (b == c)
   cases b <;> cases c <;> rfl
  rw [e]
  exact ⟨.bl _, H, I.kept (t' := s.toks) fun b o hb => kp b o hb, rfl, q⟩
variable {apos cpos cp pos : Pos} {c : Bool} {cj : Nat}
end
end BX
namespace TX
open PySem PySem.Spec PyProof.Rows L2 BX
end TX
namespace TX
open PySem PySem.Spec PyProof.Rows L2 BX
end TX
namespace BX
open PySem PySem.Spec PyProof.Rows L2
def frzD : D → D
 | .lst xs => .lF xs
 | d => d
def ZQ : D → Bool
 | .lst xs => immL xs
 | d => d.imm
def dFzT (t : XE) : XE := fun env Q => t env fun r e => match r with
 | .tmp (.tup ds) => ds.all ZQ = true ∧ Q (.tmp (.tup (ds.map frzD))) e
 | _ => False
inductive LockQ (Q : Hp → Prop) : Hp → Prop
 | done {H : Hp} : Q H → LockQ Q H
 | lock {H : Hp} {a : Addr} {vs : List V} : H a = some (.lst vs) → (∀ od, LockQ Q (L2.upd H a (.frz od (.lst vs)))) → LockQ Q H
section
variable {K : PySem.W.Frag} {σ : L2.St} {H H1 : Hp} {env e1 : En} {f f1 : FA}
theorem qhI {xs : List D} {v : V} {g1 g2 : List Addr} (A : Abs K σ H1 e1 f1) (rp : Rep K H1 0 (.lst xs) v g1) (n : ∀ b ∈ g1 ++ g2, ¬ L0 e1 f1 b ∧ ¬ Ro e1 f1 b) (dj : ∀ b ∈ g1, b ∉ g2) (S : Stp H env f [] H1 e1 f1 (g1 ++ g2)) (im : immL xs = true) :
 ∃ a vs, v = .ref a ∧ H1 a = some (.lst vs) ∧ ∀ od, Abs K σ (L2.upd H1 a (.frz od (.lst vs))) e1 f1 ∧ Rep K (L2.upd H1 a (.frz od (.lst vs))) 0 (.lF xs) v [] ∧ Stp H env f [] (L2.upd H1 a (.frz od (.lst vs))) e1 f1 g2 ∧
  ∀ b o, H1 b = some o → (b ∈ g2 ∨ Mu o = false) → L2.upd H1 a (.frz od (.lst vs)) b = some o := by
 obtain ⟨a, vs, g', rfl, ha, rr, rfl, _⟩ := rp.listAt
 obtain ⟨rfl, r0⟩ := rr.imm (Nat.zero_le _) im
 have na := n a (by simp)
 have ag : a ∉ g2 := dj a (by simp)
 have tk : ∀ (od : Obj) (b : Addr) (o : HO), b ≠ a → H1 b = some o → L2.upd H1 a (.frz od (.lst vs)) b = some o := fun od b o hb h => by rw [upd_ne hb]; exact h
 have mu : ∀ {b : Addr} {o : HO}, H1 b = some o → Mu o = false → b ≠ a := fun {b o} hb z y => by rw [y, ha] at hb; cases hb; cases z
 refine ⟨a, vs, rfl, ha, fun od => ⟨⟨fun i d m e => ?_, A.dis, A.len⟩, .lF upd_same (r0.keep fun b o h z => ?_), ⟨fun b o h z => ?_, fun b z => ?_⟩, fun b o h z => ?_⟩⟩
 ·obtain ⟨w, hw, r⟩ := A.rep i d m e
  refine ⟨w, hw, r.keep fun b o hb z => tk od b o ?_ hb⟩
  rcases z with z | z
  ·intro y
   subst y
   by_cases hl : m.lv = 0
   ·exact na.1 ⟨i, d, m, e, hl, z⟩
   ·exact na.2 ⟨i, d, m, e, hl, z⟩
  ·exact mu hb z
 ·rcases z with z | z
  ·simp at z
  ·exact tk od b o (mu h z) h
 ·have h1 := S.same b o h z
  refine tk od b o (fun y => ?_) h1
  rcases z with z | z
  ·exact mu h1 z y
  ·rcases S.own b (.inr (by rw [y]; simp)) with q | q | q
   ·exact z.1 q
   ·exact z.2 q
   ·rw [h] at q; cases q
 ·rcases z with z | z
  ·exact S.own b (.inl z)
  ·exact S.own b (.inr (List.mem_append_right _ z))
 ·rcases z with z | z
  ·exact tk od b o (fun y => ag (y ▸ z)) h
  ·exact tk od b o (mu h z) h
theorem qar : ∀ {ds : List D} {vs : List V} {g : List Addr} {H1 : Hp}, Reps K H1 0 ds vs g → ds.all ZQ = true → Abs K σ H1 e1 f1 → (∀ b ∈ g, ¬ L0 e1 f1 b ∧ ¬ Ro e1 f1 b) → Stp H env f [] H1 e1 f1 g → ∀ Q : Hp → Prop,
 (∀ H2, Abs K σ H2 e1 f1 → Reps K H2 0 (ds.map frzD) vs [] → Stp H env f [] H2 e1 f1 [] → (∀ b o, H1 b = some o → Mu o = false → H2 b = some o) → Q H2) → LockQ Q H1
 | [], _, _, H1, r, _, A, _, S, Q, q => by
   cases r
   exact .done (q H1 A .nil S fun b o h _ => h)
 | d :: ds, _, _, H1, r, ok, A, n, S, Q, q => by
   rw [List.all_cons, Bool.and_eq_true] at ok
   cases r with
   | @cons _ _ f0 v vs g0 r t nn =>
     by_cases hd : ∃ xs, d = .lst xs
     ·obtain ⟨xs, rfl⟩ := hd
      obtain ⟨a, ws, rfl, ha, k⟩ := qhI A r n (nn rfl) S ok.1
      refine .lock ha fun od => ?_
      obtain ⟨A2, R2, S2, K2⟩ := k od
      refine qar (t.keep K2) ok.2 A2 (fun b hb => n b (List.mem_append_right _ hb)) S2 Q fun H2 A3 R3 S3 K3 => q H2 A3 ?_ S3 fun b o hb z => K3 b o (K2 b o hb (.inr z)) z
      have hh : Rep K H2 0 (.lF xs) (.ref a) [] := R2.keep fun b o hb z => z.elim (fun z => by simp at z) (K3 b o hb)
      exact .cons (f := []) (g := []) hh R3 fun _ b hb => by simp at hb
     ·have im : d.imm = true := by
       have := ok.1
       cases d <;> first | exact absurd ⟨_, rfl⟩ hd | exact this
      obtain ⟨rfl, r0⟩ := r.imm (Nat.zero_le _) im
      have fd : frzD d = d := by cases d <;> first | exact absurd ⟨_, rfl⟩ hd | rfl
      refine qar t ok.2 A (fun b hb => n b (by simpa using hb)) (by simpa using S) Q fun H2 A3 R3 S3 K3 => q H2 A3 ?_ S3 K3
      rw [List.map_cons, fd]
      exact .cons (f := []) (g := []) (r0.keep fun b o hb z => z.elim (fun z => by simp at z) (K3 b o hb)) R3 fun _ b hb => by simp at hb
end
section
variable {X : Cx} {e : Expr} {t : XE}
theorem qhT (ha : DE X e t) : DE X e (dFzT t) := by
 refine ⟨⟨fun pins s σ H Q I q => ?_⟩, fun env Q Q' h q => ha.mono _ _ _ (fun r e q => ?_) q⟩
 ·obtain ⟨env, f, A, q⟩ := q
  have go := ha.run.run pins s σ H (fun v H1 => LockQ (Q v) H1) I ⟨env, f, A, ha.mono _ _ _ (fun r e1 q => ?_) q⟩
  ·refine thn go fun u s1 ⟨x, H1, I1, rx, q⟩ => ?_
   have all : ∀ {H1 : Hp}, LockQ (Q x) H1 → L2.Inv X pins σ H1 s1 → ∃ H2, L2.Inv X pins σ H2 s1 ∧ Q x H2 := fun {H1} q => by
    induction q with
    | done q => exact fun I => ⟨_, I, q⟩
    | lock ha _ ih =>
      intro I
      obtain ⟨od, I2⟩ := I.lock ha trivial
      exact ih od I2
   obtain ⟨H2, I2, q⟩ := all q I1
   exact ⟨x, _, I2, rx, q⟩
  ·intro v H1 f1 g A1 R1 S1 K1
   cases r with
   | tmp d =>
     cases d with
     | tup ds =>
       obtain ⟨ok, q⟩ := q
       cases R1 with
       | tmp rp n =>
         cases rp with
         | tup h r => exact qar r ok A1 n S1 _ fun H2 A2 R2 S2 K2 => q _ H2 f1 [] A2 (.tmp (.tup (K2 _ _ h rfl) R2) qF) S2 K1
         | tupK l h r => exact qar r ok A1 n S1 _ fun H2 A2 R2 S2 K2 => q _ H2 f1 [] A2 (.tmp (.tupK l h R2) qF) S2 K1
     | _ => exact q.elim
   | _ => exact q.elim
 ·cases r with
  | tmp d =>
    cases d with
    | tup ds => exact ⟨q.1, h _ _ q.2⟩
    | _ => exact q.elim
  | _ => exact q.elim
end
end BX
namespace BX
open PySem PySem.Spec PyProof.Rows L2 RZ
end BX
namespace BX
open PySem PySem.Spec PyProof.Rows L2 HT
end BX
namespace BC
open PySem PySem.Spec PyProof.Rows L2 BX TX COM
theorem QM {κ α : Type} [DecidableEq κ] {l : List κ} {v : α} {c : κ} : hasA (xW [] (l.map fun b => (b, v))) c = memB c l := by
 unfold memB
 exact BC.has_dict
end BC
namespace BC
open PySem PySem.Spec PyProof.Rows L2 BX TX COM
abbrev jT (l : List J) : J := toJ (eV eJ) l
structure Sm (n : Nat) (t : J) : Prop where
 sj : Sj n 6 t.1
 log : ∀ i, t.1 = .int i → i.natAbs.log2 < 1920
 str : ∀ a, t.1 = .str a → PyData.strOk a = true
theorem qaE : ∀ l : List PyData, l.length ≤ PyData.bulkAll l
 | [] => Nat.zero_le _
 | x :: l => by
   have := qaE l
   show l.length + 1 ≤ x.bulk + 1 + PyData.bulkAll l
   omega
theorem Sm.len {n : Nat} {l : List J} (h : Sm n (jT l)) : l.length ≤ n := by
 have e : D.pd (jT l).1 = .tuple (pdL (l.map eJ)) := by show D.pd (.tup _) = _; rw [D.pd]
 have b := h.sj.bk
 rw [e] at b
 have b : PyData.bulkAll (pdL (l.map eJ)) ≤ n := b
 have := qaE (pdL (l.map eJ))
 rw [qb9, List.length_map] at this
 omega
theorem Sm.sh {n : Nat} {t : J} (h : Sm n t) (hn : n ≤ 100000) : ShJ (eJ t) := h.sj.sh_ok t.2 hn (by decide) h.log
theorem Sm.ok {n : Nat} {t : J} (h : Sm n t) (hn : n ≤ 100000) : PyData.strOk (strJ (eJ t)) = true := h.sj.str_ok t.2 hn (by decide) h.str
section
variable {α σ : Type} {b : Bool} {A B : (σ → Prop) → Prop} {k : σ → Prop} {p q : Prop}
theorem qhF (h : b = true) (x : A k) : ifW b A B k := ⟨fun _ => x, fun z => by rw [h] at z; cases z⟩
theorem qhG (h : b = false) (x : B k) : ifW b A B k := ⟨fun z => (by rw [h] at z; cases z), fun _ => x⟩
theorem qbb (h : b = true) (x : p) : ifP b p q := ⟨fun _ => x, fun z => by rw [h] at z; cases z⟩
theorem Vk (h : b = false) (x : q) : ifP b p q := ⟨fun z => (by rw [h] at z; cases z), fun _ => x⟩
end
end BC
namespace TX
open PySem PySem.Spec PyProof.Rows L2 BX
section
variable {e : En} {Q : R → En → Prop} {ds : List D} {d : D}
theorem qjA {t : XE} (q : t e fun r e => match r with
 | .tmp (.tup ds) => ds.all ZQ = true ∧ aR Q (.tmp (.tup (ds.map frzD))) e
 | _ => False) : dFzT t e Q := q
theorem qje (h : ds.all ZQ = true) (hd : D.tup (ds.map frzD) = d) (q : aR Q (.tmp d) e) : aR (fun r e => match r with
 | .tmp (.tup ds) => ds.all ZQ = true ∧ aR Q (.tmp (.tup (ds.map frzD))) e
 | _ => False) (.tmp (.tup ds)) e := ⟨h, by rw [hd]; exact q⟩
end
theorem fz_L {α : Type} {f : α → D} [Im f] {l : List α} : ZQ (eL f l) = true := imL l
theorem fz_I {d : D} (h : d.imm = true) : ZQ d = true := by cases d <;> first | exact h | (rw [D.imm] at h; cases h)
theorem qf3 : ([] : List D).all ZQ = true := rfl
theorem qaq {d : D} {ds : List D} (h : ZQ d = true) (t : ds.all ZQ = true) : (d :: ds).all ZQ = true := by rw [List.all_cons, h, t]; rfl
end TX
namespace TX
open PySem PySem.Spec PyProof.Rows L2 BX
end TX
namespace TX
open PySem PySem.Spec PyProof.Rows L2 BX
end TX
namespace BX
open PySem PySem.Spec PyProof.Rows L2
end BX
namespace BX
open PySem PySem.Spec PyProof.Rows L2 RT
end BX
namespace BX
open PySem PySem.Spec PyProof.Rows L2
end BX
namespace TX
open PySem PySem.Spec PyProof.Rows L2 BX
end TX
namespace TX
open PySem PySem.Spec PyProof.Rows L2 BX
theorem qg9 {a : Int} {x : Option Int} (h : x.isSome = true) (_ : True) : OpTo opGe (.int a) (eO D.int x) (.bl (decide (x.getD 0 ≤ a))) := by
 cases x with
 | none => cases h
 | some b => exact fun k q => q
end TX
namespace TX
open PySem PySem.Spec PyProof.Rows L2 BX
end TX
namespace TX
open PySem PySem.Spec PyProof.Rows L2 BX
end TX
namespace BX
open PySem PySem.Spec PyProof.Rows L2
end BX
namespace BX
open PySem PySem.Spec PyProof.Rows L2
end BX
namespace BX
open PySem PySem.Spec PyProof.Rows L2
end BX
namespace TX
open PySem PySem.Spec PyProof.Rows L2 BX
end TX
namespace BX
open PySem PySem.Spec PyProof.Rows L2
end BX
namespace BX
open PySem PySem.Spec PyProof.Rows L2 RZ
end BX
namespace TX
open PySem PySem.Spec PyProof.Rows L2 BX RT PySem.W
instance {α : Type} {f : α → D} : Nn (eF f) := ⟨fun _ => rfl⟩
end TX
namespace BX
open PySem PySem.Spec PyProof.Rows L2
end BX
namespace TX
open PySem PySem.Spec PyProof.Rows L2 BX
end TX
namespace BX
open PySem PySem.Spec PyProof.Rows L2 RT
end BX
namespace BX
open PySem PySem.Spec PyProof.Rows L2 HT
end BX
namespace TX
open PySem PySem.Spec PyProof.Rows L2 BX RT PySem.W
end TX
namespace TX
open PySem PySem.Spec PyProof.Rows L2 BX RT PySem.W
end TX
namespace TX
open PySem PySem.Spec PyProof.Rows L2 BX RT PySem.W
section
variable {α β γ δ κ : Type}
def nI (i : Int) : NK := .num i
def nT2 (f : α → NK) (g : β → NK) (p : α × β) : NK := .tup [f p.1, g p.2]
def nT4 (f : α → NK) (g : β → NK) (h : γ → NK) (i : δ → NK) (p : α × β × γ × δ) : NK := .tup [f p.1, g p.2.1, h p.2.2.1, i p.2.2.2]
def nV (f : α → NK) (l : List α) : NK := .tup (l.map f)
class Kn (c : α → D) (kf : outParam (α → NK)) (n : outParam Nat) : Prop where
 ok : ∀ a, toK (c a) = some (kf a)
 inj : ∀ a b, kf a = kf b → a = b
 dep : ∀ a, uR (kf a) ≤ n
class KnT (kf : α → NK) : Prop where
 tup : ∀ a, ∃ l, kf a = .tup l
instance : Kn D.int nI 0 := ⟨fun a => by rw [toK]; rfl, fun a b h => by unfold nI at h; injection h, fun a => by unfold nI; rw [uR] <;> exact Nat.le_refl _⟩
theorem VN {c : α → D} {kf : α → NK} {n : Nat} [h : Kn c kf n] : ∀ l : List α, toKs (l.map c) = some (l.map kf)
 | [] => by rw [List.map_nil, toKs]; rfl
 | a :: l => by rw [List.map_cons, toKs, h.ok, VN l]; rfl
theorem Yv {c : α → D} {kf : α → NK} {n : Nat} [h : Kn c kf n] : ∀ l : List α, jA (l.map kf) ≤ n
 | [] => by rw [List.map_nil, jA]; exact Nat.zero_le _
 | a :: l => by
   rw [List.map_cons, jA]
   exact Nat.max_le.mpr ⟨h.dep (c := c) a, Yv (c := c) l⟩
theorem map_inj {c : α → D} {kf : α → NK} {n : Nat} [h : Kn c kf n] : ∀ {l m : List α}, l.map kf = m.map kf → l = m
 | [], [], _ => rfl
 | [], _ :: _, e => by simp at e
 | _ :: _, [], e => by simp at e
 | a :: l, b :: m, e => by
   rw [List.map_cons, List.map_cons, List.cons.injEq] at e
   rw [h.inj (c := c) a b e.1, map_inj (c := c) e.2]
instance {c : α → D} {kf : α → NK} {n : Nat} [h : Kn c kf n] : Kn (eV c) (nV kf) (n + 1) := ⟨fun l => by unfold eV nV; rw [toK, VN (c := c)]; rfl, fun l m e => by unfold nV at e; injection e with e; exact map_inj (c := c) e, fun l => by unfold nV; rw [uR]; exact Nat.succ_le_succ (Yv (c := c) l)⟩
instance {c : α → D} {d : β → D} {kf : α → NK} {kg : β → NK} {m n : Nat} [h : Kn c kf m] [g : Kn d kg n] : Kn (eT2 c d) (nT2 kf kg) (max m n + 1) := ⟨fun p => by unfold eT2 nT2; rw [toK, toKs, toKs, toKs, h.ok, g.ok]; rfl, fun p q e => by
 unfold nT2 at e
 injection e with e
 injection e with e1 e
 injection e with e2 _
 exact Prod.ext (h.inj (c := c) _ _ e1) (g.inj (c := d) _ _ e2), fun p => by
 unfold nT2
 rw [uR, jA, jA, jA]
 have a := h.dep (c := c) p.1
 have b := g.dep (c := d) p.2
 omega⟩
instance {c : α → D} {d : β → D} {e : γ → D} {i : δ → D} {kf : α → NK} {kg : β → NK} {kh : γ → NK} {ki : δ → NK} {a b m n : Nat} [h1 : Kn c kf a] [h2 : Kn d kg b] [h3 : Kn e kh m] [h4 : Kn i ki n] : Kn (eT4 c d e i) (nT4 kf kg kh ki) (max (max a b) (max m n) + 1) := ⟨fun p => by unfold eT4 nT4; rw [toK, toKs, toKs, toKs, toKs, toKs, h1.ok, h2.ok, h3.ok, h4.ok]; rfl, fun p q e' => by
 unfold nT4 at e'
 injection e' with e'
 injection e' with e1 e'
 injection e' with e2 e'
 injection e' with e3 e'
 injection e' with e4 _
 obtain ⟨p1, p2, p3, p4⟩ := p
 obtain ⟨q1, q2, q3, q4⟩ := q
 have := h1.inj (c := c) _ _ e1
 have := h2.inj (c := d) _ _ e2
 have := h3.inj (c := e) _ _ e3
 have := h4.inj (c := i) _ _ e4
 dsimp only at *
 subst_vars
 rfl, fun p => by
 unfold nT4
 rw [uR, jA, jA, jA, jA, jA]
 have := h1.dep (c := c) p.1
 have := h2.dep (c := d) p.2.1
 have := h3.dep (c := e) p.2.2.1
 have := h4.dep (c := i) p.2.2.2
 omega⟩
instance {kf : α → NK} : KnT (nV kf) := ⟨fun l => ⟨_, rfl⟩⟩
instance {kf : α → NK} {kg : β → NK} : KnT (nT2 kf kg) := ⟨fun l => ⟨_, rfl⟩⟩
instance {kf : α → NK} {kg : β → NK} {kh : γ → NK} {ki : δ → NK} : KnT (nT4 kf kg kh ki) := ⟨fun l => ⟨_, rfl⟩⟩
def eDN (kf : κ → NK) (f : α → D) (m : List (κ × α)) : D := .dN (m.map fun p => (kf p.1, f p.2))
instance {kf : κ → NK} {f : α → D} : Nn (eDN kf f) := ⟨fun _ => rfl⟩
variable [DecidableEq κ] {c : κ → D} {kf : κ → NK} {n : Nat} [hc : Kn c kf n] [ht : KnT kf] {f : α → D} {l : List (κ × α)} {k : κ} {v : α}
include hc ht in
theorem Xi (hn : n ≤ 8) {q : NK → Prop} (h : q (kf k)) : keyN (c k) q := by
 unfold keyN
 rw [hc.ok]
 obtain ⟨m, e⟩ := ht.tup k
 have d := hc.dep (c := c) k
 rw [e] at h d ⊢
 exact ⟨Nat.le_trans d hn, h⟩
include hc in
theorem qf1 : hasN (l.map fun p => (kf p.1, f p.2)) (kf k) = hasA l k := by
 unfold hasN hasA
 rw [List.any_map]
 congr 1
 funext p
 show decide (kf p.1 = kf k) = decide (p.1 = k)
 exact decide_eq_decide.mpr ⟨fun z => hc.inj (c := c) _ _ z, fun z => by rw [z]⟩
include hc in
theorem qd3 : qcy (l.map fun p => (kf p.1, f p.2)) (kf k) = (getA l k).map f := by
 unfold qcy getA
 induction l with
 | nil => rfl
 | cons p l ih =>
   rw [List.map_cons, List.find?_cons, List.find?_cons]
   by_cases h : p.1 = k
   ·simp [h]
   ·have : ¬ kf p.1 = kf k := fun z => h (hc.inj (c := c) _ _ z)
    simp only [this, h, decide_false]
    exact ih
include hc in
theorem qdK : putD (kf k) (f v) (l.map fun p => (kf p.1, f p.2)) = (putA k v l).map fun p => (kf p.1, f p.2) := by
 induction l with
 | nil => rfl
 | cons p l ih =>
   rw [List.map_cons, putD, putA]
   by_cases h : p.1 = k
   ·simp [h]
   ·have : ¬ kf p.1 = kf k := fun z => h (hc.inj (c := c) _ _ z)
    rw [if_neg this, if_neg h, ih]; rfl
include hc ht in
theorem Uz (hn : n ≤ 8 := by decide) : OpTo (Y6 true) (c k) (eDN kf f l) (.bl (!hasA l k)) := fun kk q => by
 unfold eDN Y6
 refine Xi hn ?_
 rw [qf1 (c := c)]
 simpa using q
include hc ht in
theorem ix_N [hf : Im f] (h : getA l k = some v) (hn : n ≤ 8 := by decide) : OpTo idxN (eDN kf f l) (c k) (f v) := fun kk q => by
 unfold eDN idxN
 refine Xi hn ⟨f v, ?_, hf.im _, q⟩
 rw [qd3 (c := c), h]; rfl
variable {e : En} {i : Nat} {Q : R → En → Prop} {nx : En → Prop} {rt : D → En → Prop}
theorem qaD {ta tb : XE} (q : dBin 1 idxN ta tb e Q) : qem ta tb e Q := q
theorem qdc {t u : XE} (q : t e fun r1 e1 => u e1 fun r2 e2 => rd 1 r1 e2 fun d1 => stor r2 e2 fun d2 => keyN d1 fun k => d2.imm = true ∧ aR Q (.tmp (.dN [(k, d2)])) e2) : qaz t u e Q := q
include hc ht in
theorem qcm [hf : Im f] {r1 r2 : R} (h1 : Rv e 1 r1 (c k)) (h2 : St e r2 (f v)) (q : aR Q (.tmp (eDN kf f [(k, v)])) e) (hn : n ≤ 8 := by decide) :
 rd 1 r1 e fun d1 => stor r2 e fun d2 => keyN d1 fun k => d2.imm = true ∧ aR Q (.tmp (.dN [(k, d2)])) e := h1.rd (h2 _ (Xi hn ⟨hf.im _, q⟩))
theorem qbS {te to ti : XE} (q : te e fun r e1 => to e1 fun ro e2 => ti e2 fun ri e3 => stor r e3 fun d => rd 1 ri e3 fun di => qb5 ro di d e3 nx) : qdF te to ti e nx rt := q
include hc ht in
theorem qci {m : Md} {r ri : R} {P : List (κ × α) → Prop} (ee : List (κ × α) → En) (h : lt (putA k v l) P) (hr : St e r (f v)) (hi : Rv e 1 ri (c k)) (h0 : e[i]? = some (some (eDN kf f l, m))) (hl : l.length < sizeLine) (he : ∀ x, e.set i (some (eDN kf f x, m)) = ee x) (q : ∀ x, P x → aN nx (ee x)) (hm : m = .own ∨ m = .io := by decide) (hn : n ≤ 8 := by decide) :
 stor r e fun d => rd 1 ri e fun di => qb5 (.sl i) di d e nx := by
 have q := q _ h
 rw [← he] at q
 refine hr _ (hi.rd ?_)
 unfold eDN at h0 q
 rw [← qdK (c := c)] at q
 show chg _ _ _
 unfold chg
 rcases hm with rfl | rfl <;> (simp only [h0]; exact Xi hn ⟨by rw [List.length_map]; exact hl, q⟩)
end
end TX
namespace TX
open PySem PySem.Spec PyProof.Rows L2 BX RT PySem.W
section
variable {α : Type} {e : En} {Q : R → En → Prop}
def Zi {α : Type} (l : List (List α)) : List (List α) := l.mergeSort fun a b => decide (a.length ≤ b.length)
theorem qc9 {t : XE} (q : t e fun r e => rd 1 r e fun d => match d with
 | .lst xs => (immL xs = true ∧ xs.all Yx = true) ∧ aR Q (.tmp (.lst (jB xs))) e
 | _ => False) : Xr t e Q := q
theorem qch {f : α → D} [hf : Im f] {l : List (List α)} {r : R} (h : Rv e 1 r (eL (eV f) l)) (q : aR Q (.tmp (eL (eV f) (Zi l))) e) : rd 1 r e fun d => match d with
 | .lst xs => (immL xs = true ∧ xs.all Yx = true) ∧ aR Q (.tmp (.lst (jB xs))) e
 | _ => False := by
 refine h.rd ?_
 have e1 : (Zi l).map (eV f) = jB (l.map (eV f)) := by
  unfold Zi jB
  refine List.map_mergeSort fun a _ b _ => ?_
  show decide (a.length ≤ b.length) = decide ((a.map f).length ≤ (b.map f).length)
  rw [List.length_map, List.length_map]
 unfold eL at q ⊢
 rw [e1] at q
 exact ⟨⟨imL l, List.all_eq_true.mpr fun d hd => by
  obtain ⟨a, _, rfl⟩ := List.mem_map.mp hd
  rfl⟩, q⟩
end
abbrev Bt4 := Int × Int × Int × Int
abbrev BS := Int × List Bt4
abbrev eBS : BS → D := eT2 D.int (eF (eT4 D.int D.int D.int D.int))
def pyB (b : Bt4) : PyData := .tuple [.int b.1, .int b.2.1, .int b.2.2.1, .int b.2.2.2]
def pyBS (p : BS) : PyData := .tuple [.int p.1, .list (p.2.map pyB)]
def qdX : List BS → Option BS
 | [] => none
 | x :: xs => some (xs.foldl (fun a y => if dataLt (pyBS y) (pyBS a) then y else a) x)
theorem qg8 (b : Bt4) : (eT4 D.int D.int D.int D.int b).py = pyB b := by
 simp [eT4, D.py, pyL, pyB]
theorem qb0 (p : BS) : (eBS p).py = pyBS p := by
 have e : pyL (p.2.map (eT4 D.int D.int D.int D.int)) = p.2.map pyB := by
  rw [qb1, List.map_map]
  exact List.map_congr_left fun b _ => qg8 b
 show (D.tup [.int p.1, .lF (p.2.map (eT4 D.int D.int D.int D.int))]).py = _
 rw [D.py, pyL, pyL, pyL, D.py, D.py, e]
 rfl
theorem qfr {a b : Bt4} (h : pyB a = pyB b) : a = b := by
 obtain ⟨x, y, z, w⟩ := a
 obtain ⟨x', y', z', w'⟩ := b
 simp [pyB] at h
 obtain ⟨rfl, rfl, rfl, rfl⟩ := h
 rfl
theorem qdH {a b : BS} (h : pyBS a = pyBS b) : a = b := by
 obtain ⟨n, l⟩ := a
 obtain ⟨m, k⟩ := b
 simp [pyBS] at h
 obtain ⟨rfl, h⟩ := h
 have : l = k := by
  induction l generalizing k with
  | nil => cases k with
    | nil => rfl
    | cons _ _ => simp at h
  | cons a l ih => cases k with
    | nil => simp at h
    | cons b k =>
      rw [List.map_cons, List.map_cons, List.cons.injEq] at h
      rw [qfr h.1, ih _ h.2]
 rw [this]
theorem qaK : ∀ l k : List Bt4, alike (.list (l.map pyB)) (.list (k.map pyB)) = true := by
 have go : ∀ l k : List Bt4, alikeAll (l.map pyB) (k.map pyB) = true := fun l => by
  induction l with
  | nil => intro k; cases k <;> simp [alikeAll]
  | cons a l ih =>
    intro k
    cases k with
    | nil => simp [alikeAll]
    | cons b k =>
      rw [List.map_cons, List.map_cons]
      simp [alikeAll, ih k, pyB, alike]
 intro l k
 simp [alike, go l k]
theorem qez (a b : BS) : alike (pyBS a) (pyBS b) = true := by
 have := qaK a.2 b.2
 simp [pyBS, alike, alikeAll] at this ⊢
 exact this
theorem qa8 (xs : List BS) : ∀ x : BS, minD (pyBS x) (xs.map pyBS) = pyBS (xs.foldl (fun a y => if dataLt (pyBS y) (pyBS a) then y else a) x) := by
 induction xs with
 | nil => intro x; rfl
 | cons y ys ih =>
   intro x
   unfold minD at ih ⊢
   rw [List.map_cons, List.foldl_cons, List.foldl_cons]
   cases h : dataLt (pyBS y) (pyBS x) with
   | true => rw [if_pos rfl, if_pos rfl]; exact ih y
   | false => rw [if_neg Bool.false_ne_true, if_neg Bool.false_ne_true]; exact ih x
theorem qhD (l : List Bt4) : PyData.canLayAll0 (l.map pyB) = true ∧ PyData.depthAll (l.map pyB) ≤ 1 := by
 induction l with
 | nil => simp [PyData.canLayAll0, PyData.depthAll]
 | cons b l ih =>
   rw [List.map_cons]
   simp only [PyData.canLayAll0, PyData.depthAll]
   refine ⟨by rw [ih.1]; simp [pyB, PyData.canLay0, PyData.canLayAll0], Nat.max_le.mpr ⟨by simp [pyB, PyData.depth, PyData.depthAll], ih.2⟩⟩
theorem qeS (p : BS) : (pyBS p).canLay0 = true ∧ (pyBS p).depth ≤ 3 := by
 have h := qhD p.2
 refine ⟨by simp [pyBS, PyData.canLay0, PyData.canLayAll0, h.1], ?_⟩
 simp only [pyBS, PyData.depth, PyData.depthAll]
 omega
theorem qcq {l : List BS} {m : BS} (h : qdX l = some m) : OpN (op1 qbo) [eL eBS l] (eBS m) := fun k q => by
 cases l with
 | nil => cases h
 | cons x xs =>
   have em : ((x :: xs).map eBS).map D.py = (x :: xs).map pyBS := by
    rw [List.map_map]
    exact List.map_congr_left fun c _ => qb0 c
   unfold op1 eL qbo
   show MinDs (eBS x :: xs.map eBS) ∧ ∀ d ∈ eBS x :: xs.map eBS, d.py = minD (eBS x).py ((xs.map eBS).map D.py) → k d
   refine ⟨⟨?_, ?_, ?_, ?_⟩, fun d hd e => ?_⟩
   ·exact qeb.mpr fun d hd => by
     obtain ⟨c, _, rfl⟩ := List.mem_map.mp (show d ∈ (x :: xs).map eBS from hd)
     exact Im.im (f := eBS) c
   ·show AlikeAll (((x :: xs).map eBS).map D.py)
    rw [em]
    refine ⟨fun a ha b hb => ?_, fun a ha => ?_⟩
    ·obtain ⟨p, _, rfl⟩ := List.mem_map.mp ha
     obtain ⟨r, _, rfl⟩ := List.mem_map.mp hb
     exact qez _ _
    ·obtain ⟨p, _, rfl⟩ := List.mem_map.mp ha
     exact fun z => by cases z
   ·intro d hd
    obtain ⟨c, _, rfl⟩ := List.mem_map.mp (show d ∈ (x :: xs).map eBS from hd)
    rw [qb0]
    exact (qeS c).1
   ·show PyData.depthAll (((x :: xs).map eBS).map D.py) ≤ 40
    rw [em]
    have : ∀ l : List BS, PyData.depthAll (l.map pyBS) ≤ 3 := fun l => by
     induction l with
     | nil => simp [PyData.depthAll]
     | cons c l ih =>
       rw [List.map_cons]
       simp only [PyData.depthAll]
       exact Nat.max_le.mpr ⟨(qeS c).2, ih⟩
    exact Nat.le_trans (this _) (by decide)
   ·obtain ⟨c, _, rfl⟩ := List.mem_map.mp (show d ∈ (x :: xs).map eBS from hd)
    have e2 : (xs.map eBS).map D.py = xs.map pyBS := by
     rw [List.map_map]
     exact List.map_congr_left fun c _ => qb0 c
    rw [e2, qb0, qb0, qa8] at e
    have := qdH e
    have h : some (xs.foldl (fun a y => if dataLt (pyBS y) (pyBS a) then y else a) x) = some m := h
    cases h
    rw [this]
    exact q
end TX
namespace BX
open PySem PySem.Spec PyProof.Rows L2
mutual
def thwD : D → D
 | .tup xs => .tup (Q4 xs)
 | .lF xs => .lst (Q4 xs)
 | .non => .non
 | .bl b => .bl b
 | .int i => .int i
 | .str s => .str s
 | .lst xs => .lst xs
 | .dT m => .dT m
 | .dK m => .dK m
 | .dF m => .dF m
 | .ob n fs => .ob n fs
 | .ex n fs => .ex n fs
 | .dN m => .dN m
def Q4 : List D → List D
 | [] => []
 | d :: ds => thwD d :: Q4 ds
end
section
variable {K : PySem.W.Frag} {H : Hp}
mutual
theorem Rep.thaw : ∀ {d : D} {v : V} {f : List Addr}, Rep K H 0 d v f → d.imm = true → Rep K H 2 (BX.thwD d) v []
 | _, _, _, .non, _ => by rw [BX.thwD]; exact .non
 | _, _, _, .bl b, _ => by rw [BX.thwD]; exact .bl b
 | _, _, _, .int i, _ => by rw [BX.thwD]; exact .int i
 | _, _, _, .str s, _ => by rw [BX.thwD]; exact .str s
 | _, _, _, .tup h r, e => by
   rw [D.imm] at e
   rw [BX.thwD]; exact .tup h (Reps.thaw r e)
 | _, _, _, .tupK l h r, e => absurd l (by omega)
 | _, _, _, .lst h r n, e => by rw [D.imm] at e; cases e
 | _, _, _, .lstF l h r, e => absurd l (by omega)
 | _, _, _, .dT h e' nd r n, e => by rw [D.imm] at e; cases e
 | _, _, _, .dTF l h e' nd r, e => absurd l (by omega)
 | _, _, _, .dF h e' nd r, e => by rw [D.imm] at e; cases e
 | _, _, _, .lF h r, e => by
   rw [D.imm] at e
   rw [BX.thwD]; exact .lstF (Nat.le_refl _) (.inl ⟨_, h⟩) (Reps.thaw r e)
 | _, _, _, .ob h c e' r n, e => by rw [D.imm] at e; cases e
 | _, _, _, .ex h c e' z, e => by rw [D.imm] at e; cases e
 | _, _, _, .dK h e' nd r n, e => by rw [D.imm] at e; cases e
 | _, _, _, .dN h e' nd kk r n, e => by rw [D.imm] at e; cases e
theorem Reps.thaw : ∀ {ds : List D} {vs : List V} {f : List Addr}, Reps K H 0 ds vs f → immL ds = true → Reps K H 2 (Q4 ds) vs []
 | _, _, _, .nil, _ => by rw [Q4]; exact .nil
 | _, _, _, .cons r t n, e => by
   rw [immL, Bool.and_eq_true] at e
   rw [Q4]
   exact .cons (f := []) (g := []) (Rep.thaw r e.1) (Reps.thaw t e.2) fun _ b hb => by simp at hb
end
end
def qei (t : XE) : XE := fun env Q => t env fun r e => rd 1 r e fun d => d.imm = true ∧ Q (.ro true (thwD d)) e
section
variable {X : Cx} {e : Expr} {t : XE}
theorem qc1 (ha : DE X e t) : DE X e (qei t) := by
 refine ⟨PE.imp ha.run fun σ H Q q => ?_, fun env Q Q' h q => ha.mono _ _ _ (fun r e q => qQ (fun d q => ⟨q.1, h _ _ q.2⟩) q) q⟩
 obtain ⟨env, f, A, q⟩ := q
 refine ⟨env, f, A, ha.mono _ _ _ (fun r1 e1 q => ?_) q⟩
 intro x H1 f1 g1 A1 R1 S1 K1
 obtain ⟨d, g', rp, im, q⟩ := yx A1 R1 q
 obtain ⟨_, r0⟩ := rp.imm (Nat.le_refl _) im
 exact q x H1 f1 [] A1 (.ro (c := true) (r0.thaw im) qF) (S1.drop fun _ z => by simp at z) K1
end
end BX
namespace TX
open PySem PySem.Spec PyProof.Rows L2 BX
variable {e : En} {Q : R → En → Prop}
theorem qe0 {t : XE} (q : t e fun r e => rd 1 r e fun d => d.imm = true ∧ aR Q (.ro true (thwD d)) e) : qei t e Q := q
theorem qeO {d d' : D} {r : R} (h : Rv e 1 r d) (im : d.imm = true) (ed : thwD d = d') (q : aR Q (.ro true d') e) : rd 1 r e fun d => d.imm = true ∧ aR Q (.ro true (thwD d)) e := h.rd ⟨im, by rw [ed]; exact q⟩
end TX
namespace TX
open PySem PySem.Spec PyProof.Rows L2 BX
theorem XQ {α : Type} {f g : α → D} (h : ∀ a, thwD (f a) = g a) : ∀ l : List α, Q4 (l.map f) = l.map g
 | [] => by rw [List.map_nil, Q4]; rfl
 | a :: l => by rw [List.map_cons, Q4, h, XQ h l]; rfl
theorem qfe (b : Bt4) : thwD (eT4 D.int D.int D.int D.int b) = eT4 D.int D.int D.int D.int b := by
 simp [eT4, thwD, Q4]
theorem qeD (p : BS) : thwD (eBS p) = eT2 D.int (eL (eT4 D.int D.int D.int D.int)) p := by
 have := XQ (f := eT4 D.int D.int D.int D.int) (g := eT4 D.int D.int D.int D.int) qfe p.2
 show thwD (.tup [.int p.1, .lF (p.2.map (eT4 D.int D.int D.int D.int))]) = .tup [.int p.1, .lst (p.2.map (eT4 D.int D.int D.int D.int))]
 rw [thwD, Q4, Q4, Q4, thwD, thwD, this]
end TX
namespace K33
open PySem PySem.Spec PyProof.Rows L2 BX TX COM BC
abbrev eBx : (Int × Int × Int × Int) → D := eT4 D.int D.int D.int D.int
abbrev qf7 (_ : Unit) : D := .ob (Str.ofString "Least") []
abbrev qjt (p : List (List Int)) : D := .ob (Str.ofString "Least") [(Str.ofString "measure", eV (eF D.int) p)]
abbrev qjs (p : List (List Int) × Option Int) : D := .ob (Str.ofString "Least") [(Str.ofString "measure", eV (eF D.int) p.1), (Str.ofString "length", eO D.int p.2)]
abbrev v4 (p : List (List Int) × Option Int × List (Int × Int × Int × Int)) : D := .ob (Str.ofString "Least") [(Str.ofString "measure", eV (eF D.int) p.1), (Str.ofString "length", eO D.int p.2.1), (Str.ofString "boxes", eF eBx p.2.2)]
def v8 (x y : D) (kr : Bool → Prop) : Prop := XD 4 x y kr
def zu : FS := mkS (α := D × D) (κ := Bool) [.cst, .cst] (fun a => [eA a.1, eA a.2]) (fun a => v8 a.1 a.2) (fun r => D.bl r) fun a r => [eA a.1, eA a.2]
def Q5 : XS :=
 (sSeq (sAsg (dVar 0) (gT 4 (yg (gN 1) (yg (gN 2) (yg (gN 3) (yg (gN 4) vR))))))
 (sSeq (sAsg (dLst aNil) (gN 5))
 (sSeq (sFor (We (dVar 1) (dBin 1 wU (dVar 1) (dVar 3))) (gN 6) (Qx (dM1 D.isLst vI (dVar 5) (dLc (We (dVar 2) (dBin 1 wU (dVar 2) (dVar 4))) (gN 7) xYes (dTup (qp (dVar 6) (qp (dVar 7) aNil))) [7]))))
 (sRet (dCall 1 (op1 uG) (qp (dVar 5) aNil))))))
def jF (box : (Int × Int × Int × Int)) (kr : (List (Int × Int)) → Prop) : Prop :=
 lt (([] : List (Int × Int)) : (List (Int × Int))) fun found =>
 (uf box.1 (box.1 + box.2.2.1)) ∧
 forW (rng box.1 (box.1 + box.2.2.1)) found (fun column (found : (List (Int × Int))) kk3 => (uf box.2.1 (box.2.1 + box.2.2.2)) ∧
 ((rng box.2.1 (box.2.1 + box.2.2.2)).length ≤ sizeLine) ∧
 (found.length + ((rng box.2.1 (box.2.1 + box.2.2.2)).map (fun row => (column, row))).length ≤ sizeLine) ∧
 lt (found ++ ((rng box.2.1 (box.2.1 + box.2.2.2)).map (fun row => (column, row)))) fun found =>
 kk3 found) fun found =>
 kr found
def zr : FS := mkS (α := (Int × Int × Int × Int)) (κ := (List (Int × Int))) [.ro] (fun a => [(eT4 D.int D.int D.int D.int) a]) (fun a => jF a) (fun r => (eV (eT2 D.int D.int)) r) fun a r => [(eT4 D.int D.int D.int D.int) a]
theorem qa1 : BodyOk zr 8 Q5 := by
 intro ds Q hl h
 obtain ⟨box, kr, rfl, h, q⟩ := h
 refine uF (e' := [_, _, _, _, _, _, _, _]) rfl ?_
 unfold Q5
 unfold jF at h
 refine qU <| s_asg <| ql rfl ?_
 refine qf2 (by rfl) (yH (g_n (e' := [_, _, _, _, _, _, _, _]) rfl rfl (yH (g_n (e' := [_, _, _, _, _, _, _, _]) rfl rfl (yH (g_n (e' := [_, _, _, _, _, _, _, _]) rfl rfl (yH (g_n (e' := [_, _, _, _, _, _, _, _]) rfl rfl (WK (?_))))))))))
 refine qU <| s_asg <| jE <| qw <| yV zP ([] : List (Int × Int)) .nil ?_
 refine g_N (f := zL) (fun found => [_, _, _, _, _, zO (zL found), _, _]) h rfl (fun _ => rfl) fun found h => ?_
 refine qU <| Q8 <| qgo <| ql rfl <| qM <| ql rfl <| ql rfl <| qL .tmp .tmp qX ?_
 obtain ⟨p1, h⟩ := h
 refine qfA p1 ?_
 refine Qi (fI := D.int) (sh := fun (found : (List (Int × Int))) e => ∃ c2 : Option (D × Md), (setS (some c2) = true) ∧ e = [zR (zB box), zO (D.int box.1), zO (D.int box.2.1), zO (D.int box.2.2.1), zO (D.int box.2.2.2), zO (zL found), c2, none]) h ⟨_, rfl, rfl⟩ (fun column ha found e hs kk3 nxkk3 hJ3 h => ?_) ?_
 ·skip
  obtain ⟨c2, hc2, rfl⟩ := hs
  refine g_n (e' := [_, _, _, _, _, _, _, _]) hc2 rfl (?_)
  refine uX <| c_m1 (by rfl) (by rfl) (by decide) (by rfl) <| c_lc <| qgo <| ql rfl <| qM <| ql rfl <| ql rfl <| qL .tmp .tmp qX ?_
  obtain ⟨p4, h⟩ := h
  refine qfA p4 ?_
  obtain ⟨p5, h⟩ := h
  refine Yd (e := [_, _, _, _, _, _, _, _]) (fI := D.int) (fo := zP) (fun row => (column, row)) (all1 rfl) p5 rfl (fun row ha c k1 hc h1 => ?_) ?_
  ·skip
   refine g_n (e' := [_, _, _, _, _, _, _, _]) rfl rfl (?_)
   refine yL <| qb <| ql rfl <| qb <| ql rfl <| qw <| zM D.int D.int column row (.cons .tmp (.cons .tmp .nil)) ?_
   exact o_el .tmp hc rfl h1
  refine yD (e' := [_, _, _, _, _, _, _, _]) rfl <| wM ?_
  obtain ⟨p6, h⟩ := h
  refine ZC (fun found => [_, _, _, _, _, zO (zL found), _, _]) h (by rfl) p6 (fun _ => rfl) fun found h => ?_
  exact hJ3 found _ ⟨_, rfl, rfl⟩ h
 rintro found e hs h
 obtain ⟨c2, hc2, rfl⟩ := hs
 refine wM <| s_ret <| zj <| qb <| ql rfl <| qw <| zg (.cons .z .nil) (Ws (f := zP)) <| jC ?_
 exact q found h
def jX : XS :=
 (sSeq (sAsg (dVar 1) (gT 2 (yg (gN 2) (yg (gN 3) vR))))
 (sSeq (sPar 4 5 (qp (dIdx (dIdx (dVar 0) (dC (.int 0))) (dVar 2)) (qp (dIdx (dIdx (dVar 0) (dC (.int 1))) (dVar 3)) aNil)))
 (sRet (dLst (qp (dTup (qp (dTup (qp (dBin 2 uP (dVar 2) (dC (.int 1))) (qp (dVar 3) aNil))) (qp (dVar 5) aNil))) (qp (dTup (qp (dTup (qp (dBin 1 wU (dVar 2) (dC (.int 1))) (qp (dVar 3) aNil))) (qp (dVar 5) aNil))) (qp (dTup (qp (dTup (qp (dVar 2) (qp (dBin 2 uP (dVar 3) (dC (.int 1))) aNil))) (qp (dVar 4) aNil))) (qp (dTup (qp (dTup (qp (dVar 2) (qp (dBin 1 wU (dVar 3) (dC (.int 1))) aNil))) (qp (dVar 4) aNil))) aNil))))))))
def je (measure : (List (List Int))) (cell : (Int × Int)) (kr : (List ((Int × Int) × Int)) → Prop) : Prop :=
 exW (atI measure 0) fun x1 =>
 exW (atI x1 cell.1) fun x3 =>
 exW (atI measure 1) fun x5 =>
 exW (atI x5 cell.2) fun x7 =>
 lt (x3 : Int) fun wide =>
 lt (x7 : Int) fun high =>
 kr [(((cell.1 - 1), cell.2), high), (((cell.1 + 1), cell.2), high), ((cell.1, (cell.2 - 1)), wide), ((cell.1, (cell.2 + 1)), wide)]
def zG : FS := mkS (α := ((List (List Int)) × (Int × Int))) (κ := (List ((Int × Int) × Int))) [.ro, .ro] (fun a => [(eV (eF D.int)) a.1, (eT2 D.int D.int) a.2]) (fun a => je a.1 a.2) (fun r => (eL (eT2 (eT2 D.int D.int) D.int)) r) fun a r => [(eV (eF D.int)) a.1, (eT2 D.int D.int) a.2]
theorem Z9 : BodyOk zG 6 jX := by
 intro ds Q hl h
 obtain ⟨⟨measure, cell⟩, kr, rfl, h, q⟩ := h
 refine uF (e' := [_, _, _, _, _, _]) rfl ?_
 unfold jX
 unfold je at h
 refine qU <| s_asg <| ql rfl ?_
 refine qf2 (by rfl) (yH (g_n (e' := [_, _, _, _, _, _]) rfl rfl (yH (g_n (e' := [_, _, _, _, _, _]) rfl rfl (WK (?_))))))
 refine qU <| Ut <| qb <| zK <| zK <| ql rfl <| c_C ?_
 obtain ⟨x1, p2, h⟩ := h
 refine o_idx .ro .tmp (ix_V p2) (.ro rfl) <| ql rfl ?_
 obtain ⟨x3, p4, h⟩ := h
 refine o_idx .ro .tmp (ix_F p4) (.ro rfl) <| qb <| zK <| zK <| ql rfl <| c_C ?_
 obtain ⟨x5, p6, h⟩ := h
 refine o_idx .ro .tmp (ix_V p6) (.ro rfl) <| ql rfl ?_
 obtain ⟨x7, p8, h⟩ := h
 refine o_idx .ro .tmp (ix_F p8) (.ro rfl) <| qw <| UV (f := D.int) (g := D.int) (fun wide high => [zR (eV (eF D.int) measure), zR (zP cell), zO (D.int cell.1), zO (D.int cell.2), zO (D.int wide), zO (D.int high)]) .tmp .tmp h rfl rfl (fun _ _ => rfl) fun wide high h => s_ret <| jE <| qb <| yL <| qb <| yL <| qb <| qM <| ql rfl <| c_C <| qL .tmp .tmp xg <| qb <| ql rfl <| qw <| zM D.int D.int (cell.1 - 1) cell.2 (.cons .tmp (.cons .tmp .nil)) <| qb <| ql rfl <| qw <| zM zP D.int ((cell.1 - 1), cell.2) high (.cons .tmp (.cons .tmp .nil)) <| qb <| yL <| qb <| yL <| qb <| qM <| ql rfl <| c_C <| qL .tmp .tmp qX <| qb <| ql rfl <| qw <| zM D.int D.int (cell.1 + 1) cell.2 (.cons .tmp (.cons .tmp .nil)) <| qb <| ql rfl <| qw <| zM zP D.int ((cell.1 + 1), cell.2) high (.cons .tmp (.cons .tmp .nil)) <| qb <| yL <| qb <| yL <| qb <| ql rfl <| qb <| qM <| ql rfl <| c_C <| qL .tmp .tmp xg <| qw <| zM D.int D.int cell.1 (cell.2 - 1) (.cons .tmp (.cons .tmp .nil)) <| qb <| ql rfl <| qw <| zM zP D.int (cell.1, (cell.2 - 1)) wide (.cons .tmp (.cons .tmp .nil)) <| qb <| yL <| qb <| yL <| qb <| ql rfl <| qb <| qM <| ql rfl <| c_C <| qL .tmp .tmp qX <| qw <| zM D.int D.int cell.1 (cell.2 + 1) (.cons .tmp (.cons .tmp .nil)) <| qb <| ql rfl <| qw <| zM zP D.int (cell.1, (cell.2 + 1)) wide (.cons .tmp (.cons .tmp .nil)) <| qw <| yV (eT2 zP D.int) [(((cell.1 - 1), cell.2), high), (((cell.1 + 1), cell.2), high), ((cell.1, (cell.2 - 1)), wide), ((cell.1, (cell.2 + 1)), wide)] (.cons .tmp (.cons .tmp (.cons .tmp (.cons .tmp .nil)))) <| jC ?_
 exact q [(((cell.1 - 1), cell.2), high), (((cell.1 + 1), cell.2), high), ((cell.1, (cell.2 - 1)), wide), ((cell.1, (cell.2 + 1)), wide)] h
def jK (zG : FS) : XS :=
 (sSeq (sAsg (dCall 1 (op1 Z8) (qp (dLc (iSeq (dVar 0)) (gN 4) xYes (dTup (qp (dVar 4) (qp (dC (.bl true)) aNil))) [4]) aNil)) (gN 2))
 (sSeq (sAsg (dC (.int 0)) (gN 3))
 (sSeq (sFor (iSeq (dVar 0)) (gN 4) (sAug (fun i j => i + j) 3 (dCall 2 (op1 bSum) (qp (dLc (iSeq (dFn zG (qp (dVar 1) (qp (dVar 4) aNil)))) (gT 2 (yg (gN 5) (yg (gN 6) vR))) (xVal (dBin 1 j6 (dVar 5) (dVar 2))) (dVar 6) [5, 6]) aNil))))
 (sRet (dVar 3)))))
def ye (cells : (List (Int × Int))) (measure : (List (List Int))) (kr : Int → Prop) : Prop :=
 (cells.length ≤ sizeLine) ∧
 lt ((xW [] (cells.map (fun cell => (cell, true)))) : (List ((Int × Int) × Bool))) fun there =>
 forW cells 0 (fun cell (total : Int) kk3 => je measure cell fun t4 =>
 (t4.length ≤ sizeLine) ∧
 lt (total + (((t4.filter (fun a5 => (!hasA there a5.1))).map (fun a5 => a5.2)).sum)) fun total =>
 kk3 total) fun total =>
 kr total
def qP : FS := mkS (α := ((List (Int × Int)) × (List (List Int)))) (κ := Int) [.ro, .ro] (fun a => [(eV (eT2 D.int D.int)) a.1, (eV (eF D.int)) a.2]) (fun a => ye a.1 a.2) (fun r => D.int r) fun a r => [(eV (eT2 D.int D.int)) a.1, (eV (eF D.int)) a.2]
theorem Za : BodyOk qP 7 (jK zG) := by
 intro ds Q hl h
 obtain ⟨⟨cells, measure⟩, kr, rfl, h, q⟩ := h
 refine uF (e' := [_, _, _, _, _, _, _]) rfl ?_
 unfold jK
 unfold ye at h
 refine qU <| s_asg <| zj <| qb <| c_lc <| yF <| ql rfl <| qag ?_
 obtain ⟨p1, h⟩ := h
 refine Yd (e := [_, _, _, _, _, _, _]) (fI := zP) (fo := (eT2 zP D.bl)) (fun cell => (cell, true)) (all1 rfl) p1 rfl (fun cell ha c k1 hc h1 => ?_) ?_
 ·skip
  refine qec (e' := [_, _, _, _, _, _, _]) rfl rfl (?_)
  refine yL <| qb <| ql rfl <| qb <| c_C <| qw <| zM zP D.bl cell true (.cons (.of .ro (Im.im (f := zP) _)) (.cons .tmp .nil)) ?_
  exact o_el .tmp hc rfl h1
 refine yD (e' := [_, _, _, _, _, _, _]) rfl <| wM <| qw <| zg (.cons .tmp .nil) (ZJ (c := zP) (f := D.bl)) ?_
 refine g_N (f := zD) (fun there => [_, _, zO (zD there), _, _, _, _]) h rfl (fun _ => rfl) fun there h => ?_
 refine qU <| s_asg <| c_C ?_
 refine g_n (e' := [_, _, _, _, _, _, _]) rfl rfl ?_
 refine qU <| Q8 <| yF <| ql rfl <| qag ?_
 refine Qi (fI := zP) (sh := fun (total : Int) e => ∃ c2 : Option (D × Md), (setS (some c2) = true) ∧ e = [zR (zV cells), zR (eV (eF D.int) measure), zO (zD there), zO (D.int total), c2, none, none]) h ⟨_, rfl, rfl⟩ (fun cell ha total e hs kk3 nxkk3 hJ3 h => ?_) ?_
 ·skip
  obtain ⟨c2, hc2, rfl⟩ := hs
  refine qec (e' := [_, _, _, _, _, _, _]) hc2 rfl (?_)
  refine s_aug rfl <| zj <| qb <| c_lc <| yF <| c_fn <| qb <| ql rfl <| qb <| ql rfl <| qw ?_
  refine x_call (measure, cell) (fun t4 => [_, _, _, _, _, _, _]) h (.cons .ro (.cons .ro .nil)) (qm (yQ .ro) (qm (yQ .ro) qO)) (wz (by rfl)) (fun _ => rfl) fun t4 h => ?_
  refine UL ?_
  obtain ⟨p6, h⟩ := h
  refine qfC (e := [_, _, _, _, _, _, _]) (fI := (eT2 zP D.int)) (fo := D.int) (fun a5 => (!hasA there a5.1)) (fun a5 => a5.2) (all2 rfl rfl) p6 rfl (fun a5 ha c k1 k2 hc h1 h2 => ?_) ?_
  ·skip
   refine g_T (by rfl) (yH (g_n (e' := [_, _, _, _, _, _, _]) rfl rfl (yH (g_n (e' := [_, _, _, _, _, _, _]) rfl rfl (WK (?_))))))
   refine yC <| qM <| ql rfl <| ql rfl <| qL .z .z (Zw (c := zP)) <| yz .tmp tr_b ?_
   refine ⟨fun hb => ?_, fun hb => h2 hb⟩
   refine ql rfl ?_
   exact o_el .tmp hc rfl (h1 hb)
  refine yD (e' := [_, _, _, _, _, _, _]) rfl <| wM <| qw <| zg (.cons .tmp .nil) qhp <| qfD (fun total => [_, _, _, zO (D.int total), _, _, _]) .tmp h rfl (fun _ => rfl) fun total h => ?_
  exact hJ3 total _ ⟨_, rfl, rfl⟩ h
 rintro total e hs h
 obtain ⟨c2, hc2, rfl⟩ := hs
 refine wM <| s_ret <| ql rfl <| jC ?_
 exact q total h
def vg (qP zr : FS) : XS :=
 (sSeq (sAsg (dCall 2 (op1 bSum) (qp (dLc (iSeq (dTmp (dVar 1))) (gN 4) xYes (dFn qP (qp (dFn zr (qp (dVar 4) aNil)) (qp (dVar 2) aNil))) [4]) aNil)) (gN 3))
 (sRet (dBin 2 qa7 (dBin 2 uP (dVar 3) (dFn qP (qp (dVar 0) (qp (dVar 2) aNil)))) (dC (.int 2)))))
def jg (room : (List (Int × Int))) (boxes : (Bool × List (Int × Int × Int × Int))) (measure : (List (List Int))) (kr : Int → Prop) : Prop :=
 (boxes.2.length ≤ sizeLine) ∧
 lcW boxes.2 ([] : List Int) () (fun box (s : Unit) w => jF box fun t4 =>
 ye t4 measure fun t5 =>
 w (some t5) ()) fun l6 s7 =>
 lt ((l6.sum) : Int) fun total =>
 ye room measure fun t8 =>
 kr ((total - t8) / 2)
def yq : FS := mkS (α := ((List (Int × Int)) × (Bool × List (Int × Int × Int × Int)) × (List (List Int)))) (κ := Int) [.ro, .ro, .ro] (fun a => [(eV (eT2 D.int D.int)) a.1, (eX (eT4 D.int D.int D.int D.int)) a.2.1, (eV (eF D.int)) a.2.2]) (fun a => jg a.1 a.2.1 a.2.2) (fun r => D.int r) fun a r => [(eV (eT2 D.int D.int)) a.1, (eX (eT4 D.int D.int D.int D.int)) a.2.1, (eV (eF D.int)) a.2.2]
theorem XH : BodyOk yq 5 (vg qP zr) := by
 intro ds Q hl h
 obtain ⟨⟨room, boxes, measure⟩, kr, rfl, h, q⟩ := h
 refine uF (e' := [_, _, _, _, _]) rfl ?_
 unfold vg
 unfold jg at h
 refine qU <| s_asg <| zj <| qb <| c_lc <| yF <| JP <| Wy (by rfl) rfl (hd := qcT) fun r1 hr2 => Jc hr2 (Im.im (f := (eX zB)) _) <| qcg ?_
 obtain ⟨p3, h⟩ := h
 refine QC (fI := zB) (fo := D.int) (sh := fun (s : Unit) e => e = [zR (zV room), zR (eX zB boxes), zR (eV (eF D.int) measure), none, none]) h (all1 rfl) p3 rfl (fun box ha s e hs w c k1 k2 hc h1 h2 h => ?_) ?_
 ·obtain rfl := hs
  refine g_n (e' := [_, _, _, _, _]) rfl rfl (?_)
  refine qbk <| c_fn <| qb <| c_fn <| qb <| ql rfl <| qw ?_
  refine x_call box (fun t4 => [_, _, _, _, _]) h (.cons .z .nil) (qm (yQ .z) qO) (wz (by rfl)) (fun _ => rfl) fun t4 h => ?_
  refine qb <| ql rfl <| qw ?_
  refine x_call (t4, measure) (fun t5 => [_, _, _, _, _]) h (.cons .tmp (.cons .ro .nil)) (qm (yQ .tmp) (qm (yQ .ro) qO)) (wz (by rfl)) (fun _ => rfl) fun t5 h => ?_
  exact o_el .tmp hc rfl (h1 _ () _ rfl h)
 rintro l6 s7 e hs h
 obtain rfl := hs
 refine yD (e' := [_, _, _, _, _]) rfl <| wM <| qw <| zg (.cons .tmp .nil) qhp ?_
 refine g_N (f := D.int) (fun total => [_, _, _, zO (D.int total), _]) h rfl (fun _ => rfl) fun total h => ?_
 refine s_ret <| qM <| qM <| ql rfl <| c_fn <| qb <| ql rfl <| qb <| ql rfl <| qw ?_
 refine x_call (room, measure) (fun t8 => [_, _, _, _, _]) h (.cons .ro (.cons .ro .nil)) (qm (yQ .ro) (qm (yQ .ro) qO)) (wz (by rfl)) (fun _ => rfl) fun t8 h => ?_
 refine qL .tmp .tmp xg <| c_C <| qL .tmp .tmp (UG (show 0 < (2 : Int) ∧ (2 : Int) < 1073741824 by decide)) <| jC ?_
 exact q ((total - t8) / 2) h
def vh : XS :=
 (sSeq (sAsg (dVar 1) (gT 2 (yg (gN 2) (yg (gN 3) vR))))
 (sSeq (sAsg (dCall 2 (op1 bLen) (qp (dVar 0) aNil)) (gN 4))
 (sSeq (sAsg (dLst aNil) (gN 5))
 (sSeq (sAsg (dC (.int 1)) (gN 6))
 (sSeq (Zt (xAnd (xVal (dBin 2 opGt (dVar 4) (dC (.int 0)))) (xVal (dBin 1 opIn (dTup (qp (dBin 2 uP (dBin 1 wU (dVar 2) (dVar 6)) (dC (.int 1))) (qp (dVar 3) aNil))) (dVar 0)))) (sSeq (sAsg (dC (.int 1)) (gN 7))
 (sSeq (Zt (xAnd (xVal (dBin 2 opLe (dVar 7) (dVar 4))) (xVal (dBin 1 opIn (dTup (qp (dBin 2 uP (dBin 1 wU (dVar 2) (dVar 6)) (dC (.int 1))) (qp (dBin 2 uP (dBin 1 wU (dVar 3) (dVar 7)) (dC (.int 1))) aNil))) (dVar 0)))) (sSeq (Qx (dM1 D.isLst bAppend (dVar 5) (dTup (qp (dVar 2) (qp (dVar 3) (qp (dVar 6) (qp (dVar 7) aNil)))))))
 (sAug (fun i j => i + j) 7 (dC (.int 1)))))
 (sSeq (sAsg (dBin 2 uP (dVar 7) (dC (.int 1))) (gN 4))
 (sAug (fun i j => i + j) 6 (dC (.int 1)))))))
 (sRet (dVar 5)))))))
def jh (left' : (List ((Int × Int) × Bool))) (cell : (Int × Int)) (kr : (List (Int × Int × Int × Int)) → Prop) : Prop :=
 lt ((left'.length : Int) : Int) fun most =>
 lt (([] : List (Int × Int × Int × Int)) : (List (Int × Int × Int × Int))) fun found =>
 whW (most, found, 1) fun (s1 : (Int × (List (Int × Int × Int × Int)) × Int)) kk3 =>
 ifP ((decide (0 < s1.1)) && (hasA left' (((cell.1 + s1.2.2) - 1), cell.2))) (whW (s1.2.1, 1) fun (s4 : ((List (Int × Int × Int × Int)) × Int)) kk5 =>
 ifP ((decide (s4.2 ≤ s1.1)) && (hasA left' (((cell.1 + s1.2.2) - 1), ((cell.2 + s4.2) - 1)))) ((s4.1.length < sizeLine) ∧
 lt (s4.1 ++ [(cell.1, cell.2, s1.2.2, s4.2)]) fun found =>
 lt (s4.2 + 1) fun high =>
 kk5 (found, high)) <|
 lt ((s4.2 - 1) : Int) fun most =>
 lt (s1.2.2 + 1) fun wide =>
 kk3 (most, s4.1, wide)) <|
 kr s1.2.1
def yr : FS := mkS (α := ((List ((Int × Int) × Bool)) × (Int × Int))) (κ := (List (Int × Int × Int × Int))) [.ro, .ro] (fun a => [(eDT (kf2 Sum.inl Sum.inl) D.bl) a.1, (eT2 D.int D.int) a.2]) (fun a => jh a.1 a.2) (fun r => (eL (eT4 D.int D.int D.int D.int)) r) fun a r => [(eDT (kf2 Sum.inl Sum.inl) D.bl) a.1, (eT2 D.int D.int) a.2]
theorem XJ : BodyOk yr 8 vh := by
 intro ds Q hl h
 obtain ⟨⟨left', cell⟩, kr, rfl, h, q⟩ := h
 refine uF (e' := [_, _, _, _, _, _, _, _]) rfl ?_
 unfold vh
 unfold jh at h
 refine qU <| s_asg <| ql rfl ?_
 refine qf2 (by rfl) (yH (g_n (e' := [_, _, _, _, _, _, _, _]) rfl rfl (yH (g_n (e' := [_, _, _, _, _, _, _, _]) rfl rfl (WK (?_))))))
 refine qU <| s_asg <| zj <| qb <| ql rfl <| qw <| zg (.cons .ro .nil) qcr ?_
 refine g_N (f := D.int) (fun most => [_, _, _, _, zO (D.int most), _, _, _]) h rfl (fun _ => rfl) fun most h => ?_
 refine qU <| s_asg <| jE <| qw <| yV zB ([] : List (Int × Int × Int × Int)) .nil ?_
 refine g_N (f := (eL zB)) (fun found => [_, _, _, _, _, zO (eL zB found), _, _]) h rfl (fun _ => rfl) fun found h => ?_
 refine qU <| s_asg <| c_C ?_
 refine g_n (e' := [_, _, _, _, _, _, _, _]) rfl rfl ?_
 refine qU ?_
 refine s_while (sh := fun (s1 : (Int × (List (Int × Int × Int × Int)) × Int)) e => ∃ c2 : Option (D × Md), (setS (some c2) = true) ∧ e = [zR (zD left'), zR (zP cell), zO (D.int cell.1), zO (D.int cell.2), zO (D.int s1.1), zO (eL zB s1.2.1), zO (D.int s1.2.2), c2]) h ⟨_, rfl, rfl⟩ (fun s1 e hs kk3 nxkk3 hJ3 h => ?_)
 obtain ⟨c2, hc2, rfl⟩ := hs
 refine JQ (decide (0 < s1.1)) (hasA left' (((cell.1 + s1.2.2) - 1), cell.2)) (fun Q q => ?_) (fun hb Q q => ?_) ?_
 ·skip
  refine yC <| qM <| ql rfl <| c_C <| qL .tmp .tmp Zz <| yz .tmp tr_b ?_
  exact q
 ·skip
  refine yC <| qM <| yL <| qb <| qM <| qM <| ql rfl <| ql rfl <| qL .tmp .tmp qX <| c_C <| qL .tmp .tmp xg <| qb <| ql rfl <| qw <| zM D.int D.int ((cell.1 + s1.2.2) - 1) cell.2 (.cons .tmp (.cons .tmp .nil)) <| ql rfl <| qL .tmp .ro (qcd (c := zP)) <| yz .tmp tr_b ?_
  exact q
 refine jD h (fun hb h => ?_) (fun hb h => ?_)
 ·skip
  refine qU <| s_asg <| c_C ?_
  refine g_n (e' := [_, _, _, _, _, _, _, _]) hc2 rfl ?_
  refine qU ?_
  refine s_while (sh := fun (s4 : ((List (Int × Int × Int × Int)) × Int)) e => e = [zR (zD left'), zR (zP cell), zO (D.int cell.1), zO (D.int cell.2), zO (D.int s1.1), zO (eL zB s4.1), zO (D.int s1.2.2), zO (D.int s4.2)]) h rfl (fun s4 e hs kk5 nxkk5 hJ5 h => ?_)
  obtain rfl := hs
  refine JQ (decide (s4.2 ≤ s1.1)) (hasA left' (((cell.1 + s1.2.2) - 1), ((cell.2 + s4.2) - 1))) (fun Q q => ?_) (fun hb Q q => ?_) ?_
  ·skip
   refine yC <| qM <| ql rfl <| ql rfl <| qL .tmp .tmp qcb <| yz .tmp tr_b ?_
   exact q
  ·skip
   refine yC <| qM <| yL <| qb <| qM <| qM <| ql rfl <| ql rfl <| qL .tmp .tmp qX <| c_C <| qL .tmp .tmp xg <| qb <| qM <| qM <| ql rfl <| ql rfl <| qL .tmp .tmp qX <| c_C <| qL .tmp .tmp xg <| qw <| zM D.int D.int ((cell.1 + s1.2.2) - 1) ((cell.2 + s4.2) - 1) (.cons .tmp (.cons .tmp .nil)) <| ql rfl <| qL .tmp .ro (qcd (c := zP)) <| yz .tmp tr_b ?_
   exact q
  refine jD h (fun hb h => ?_) (fun hb h => ?_)
  ·skip
   refine qU <| uX <| c_m1 (by rfl) (by rfl) (by decide) (by rfl) <| yL <| qb <| ql rfl <| qb <| ql rfl <| qb <| ql rfl <| qb <| ql rfl <| qw <| qeN D.int D.int D.int D.int cell.1 cell.2 s1.2.2 s4.2 (.cons .tmp (.cons .tmp (.cons .tmp (.cons .tmp .nil)))) ?_
   obtain ⟨p6, h⟩ := h
   refine QD (fun found => [_, _, _, _, _, zO (eL zB found), _, _]) h .tmp (by rfl) p6 (fun _ => rfl) fun found h => s_aug rfl <| c_C <| qfD (fun high => [_, _, _, _, _, _, _, zO (D.int high)]) .tmp h rfl (fun _ => rfl) fun high h => ?_
   exact hJ5 (found, high) _ rfl h
  refine qU <| s_asg <| qM <| ql rfl <| c_C <| qL .tmp .tmp xg ?_
  refine g_N (f := D.int) (fun most => [_, _, _, _, zO (D.int most), _, _, _]) h rfl (fun _ => rfl) fun most h => ?_
  refine s_aug rfl <| c_C <| qfD (fun wide => [_, _, _, _, _, _, zO (D.int wide), _]) .tmp h rfl (fun _ => rfl) fun wide h => ?_
  exact hJ3 (most, s4.1, wide) _ ⟨_, rfl, rfl⟩ h
 refine s_ret <| ql rfl <| UT (m := .own) (by rfl) ?_
 exact q s1.2.1 h
def jt : XS :=
 (sSeq (Uu "Least" "measure" 0 (dVar 1))
 (sSeq (Uu "Least" "length" 0 (dC .non))
 (Uu "Least" "boxes" 0 (dFz (dLst aNil)))))
def xO (self : Unit) (measure : (List (List Int))) (kr : (Unit × ((List (List Int)) × (Option Int) × (List (Int × Int × Int × Int)))) → Prop) : Prop :=
 kr ((), (measure, (none : (Option Int)), ([] : List (Int × Int × Int × Int))))
def wL : FS := mkS (α := (Unit × (List (List Int)))) (κ := (Unit × ((List (List Int)) × (Option Int) × (List (Int × Int × Int × Int))))) [.io, .ro] (fun a => [qf7 a.1, (eV (eF D.int)) a.2]) (fun a => xO a.1 a.2) (fun _ => D.non) fun a r => [v4 r.2, (eV (eF D.int)) a.2]
theorem WF : BodyOk wL 2 jt := by
 intro ds Q hl h
 obtain ⟨⟨self, measure⟩, kr, rfl, h, q⟩ := h
 refine uF (e' := [_, _]) rfl ?_
 unfold jt
 unfold xO at h
 refine qU <| X4 <| ql rfl <| Je (e' := [_, _]) (.of .ro (Im.im (f := (eV (eF D.int))) _)) (by rfl) (by rfl) (by show 0 < 1000; decide) YW (by rfl) <| qU <| X4 <| c_C <| Je (e' := [_, _]) .tmp (by rfl) (by rfl) (by show 1 < 1000; decide) (Q7 (by decide +kernel) YW) (by rfl) <| X4 <| c_fz <| jE <| qw <| yV zB ([] : List (Int × Int × Int × Int)) .nil <| o_fz (f := zB) <| Je (e' := [_, _]) .tmp (by rfl) (by rfl) (by show 2 < 1000; decide) (Q7 (by decide +kernel) (Q7 (by decide +kernel) YW)) (by rfl) ?_
 exact q ((), (measure, (none : (Option Int)), ([] : List (Int × Int × Int × Int)))) h
def uN (yr wJ qP zr : FS) : XS :=
 (sSeq (sIf (xAnd (xVal (dBin 2 xj (qbg (Yl "Least" "length" 1 (dVar 0))) (dC .non))) (xVal (Vv 1 opGe (dVar 3) (Yl "Least" "length" 1 (dVar 0))))) qbT sNil)
 (sSeq (sIf (xVal (dBin 2 opEq (dCall 2 (op1 bLen) (qp (dVar 1) aNil)) (dC (.int 0)))) (sSeq (Uu "Least" "length" 0 (dVar 3))
 (sSeq (Uu "Least" "boxes" 0 (dTmp (dVar 2)))
 qbT)) sNil)
 (sFor (iSeq (dFn yr (qp (dVar 1) (qp (dCall 1 (op1 qbn) (qp (dVar 1) aNil)) aNil)))) (gN 4) (sSeq (sAsg (dFn zr (qp (dVar 4) aNil)) (gN 5))
 (sSeq (sAsg (dCall 1 (op1 Z8) (qp (dLkW 1 (dLc (iKs 1) (gN 7) (xVal (dBin 1 j6 (dVar 7) (dVar 5))) (dTup (qp (dVar 7) (qp (dC (.bl true)) aNil))) [7])) aNil)) (gN 6))
 (Qx (Vt "Least" "go_on" wJ (dVar 0) (qp (dVar 6) (qp (dFz (dBin 1 wU (dTmp (dVar 2)) (dLst (qp (dVar 4) aNil)))) (qp (dBin 1 wU (dVar 3) (dFn qP (qp (dVar 5) (qp (qbg (Yl "Least" "measure" 1 (dVar 0))) aNil)))) aNil))))))))))
def xK (W : (((List (List Int)) × (Option Int) × (List (Int × Int × Int × Int)))) → ((List ((Int × Int) × Bool))) → ((List (Int × Int × Int × Int))) → (Int) → ((Unit × ((List (List Int)) × (Option Int) × (List (Int × Int × Int × Int))) × (List ((Int × Int) × Bool))) → Prop) → Prop) (self : ((List (List Int)) × (Option Int) × (List (Int × Int × Int × Int)))) (left' : (List ((Int × Int) × Bool))) (boxes : (List (Int × Int × Int × Int))) (length : Int) (kr : (Unit × ((List (List Int)) × (Option Int) × (List (Int × Int × Int × Int))) × (List ((Int × Int) × Bool))) → Prop) : Prop :=
 (self.2.1.isSome = true → (self.2.1.isSome = true ∧ True) ∧
 True) ∧
 (ifP (self.2.1.isSome && (decide (self.2.1.getD 0 ≤ length))) (kr ((), self, left')) <|
 ifP (decide ((left'.length : Int) = 0)) (kr ((), (self.1, (some length), boxes), left')) <|
 exW (qfM left') fun x5 =>
 jh left' x5 fun t7 =>
 forW t7 self (fun box (self : ((List (List Int)) × (Option Int) × (List (Int × Int × Int × Int)))) kk11 => jF box fun t12 =>
 ((left'.map (·.1)).length ≤ sizeLine) ∧
 lt ((xW [] (((left'.map (·.1)).filter (fun cell => (!memB cell t12))).map (fun cell => (cell, true)))) : (List ((Int × Int) × Bool))) fun rest' =>
 (boxes.length + [box].length ≤ sizeLine) ∧
 ye t12 self.1 fun t17 =>
 W self rest' (boxes ++ [box]) (length + t17) fun t18 =>
 kk11 t18.2.1) fun self =>
 kr ((), self, left'))
def yU : Nat → (((List (List Int)) × (Option Int) × (List (Int × Int × Int × Int)))) → ((List ((Int × Int) × Bool))) → ((List (Int × Int × Int × Int))) → (Int) → ((Unit × ((List (List Int)) × (Option Int) × (List (Int × Int × Int × Int))) × (List ((Int × Int) × Bool))) → Prop) → Prop
 | 0 => fun _ _ _ _ _ => False
 | n + 1 => xK (yU n)
def uH (self : ((List (List Int)) × (Option Int) × (List (Int × Int × Int × Int)))) (left' : (List ((Int × Int) × Bool))) (boxes : (List (Int × Int × Int × Int))) (length : Int) (kr : (Unit × ((List (List Int)) × (Option Int) × (List (Int × Int × Int × Int))) × (List ((Int × Int) × Bool))) → Prop) : Prop := yU 40 self left' boxes length kr
def xN (n : Nat) : FS := mkS (α := (((List (List Int)) × (Option Int) × (List (Int × Int × Int × Int))) × (List ((Int × Int) × Bool)) × (List (Int × Int × Int × Int)) × Int)) (κ := (Unit × ((List (List Int)) × (Option Int) × (List (Int × Int × Int × Int))) × (List ((Int × Int) × Bool)))) [.io, .io, .ro, .cst] (fun a => [v4 a.1, (eDT (kf2 Sum.inl Sum.inl) D.bl) a.2.1, (eF (eT4 D.int D.int D.int D.int)) a.2.2.1, D.int a.2.2.2]) (fun a => yU n a.1 a.2.1 a.2.2.1 a.2.2.2) (fun r => eN r.1) fun a r => [v4 r.2.1, (eDT (kf2 Sum.inl Sum.inl) D.bl) r.2.2, (eF (eT4 D.int D.int D.int D.int)) a.2.2.1, D.int a.2.2.2]
def wJ : FS := mkS (α := (((List (List Int)) × (Option Int) × (List (Int × Int × Int × Int))) × (List ((Int × Int) × Bool)) × (List (Int × Int × Int × Int)) × Int)) (κ := (Unit × ((List (List Int)) × (Option Int) × (List (Int × Int × Int × Int))) × (List ((Int × Int) × Bool)))) [.io, .io, .ro, .cst] (fun a => [v4 a.1, (eDT (kf2 Sum.inl Sum.inl) D.bl) a.2.1, (eF (eT4 D.int D.int D.int D.int)) a.2.2.1, D.int a.2.2.2]) (fun a => uH a.1 a.2.1 a.2.2.1 a.2.2.2) (fun r => eN r.1) fun a r => [v4 r.2.1, (eDT (kf2 Sum.inl Sum.inl) D.bl) r.2.2, (eF (eT4 D.int D.int D.int D.int)) a.2.2.1, D.int a.2.2.2]
theorem QH (n : Nat) : Wj (xN n) := zp
theorem YH {ds : List D} {Q : D → List D → Prop} (h : (xN 0).wp ds Q) : False := by
 obtain ⟨_, _, _, h, _⟩ := h
 exact h
theorem YQ (n : Nat) : BodyOk (xN (n + 1)) 8 (uN yr (xN n) qP zr) := by
 intro ds Q hl h
 obtain ⟨⟨self, left', boxes, length⟩, kr, rfl, h, q⟩ := h
 refine uF (e' := [_, _, _, _, _, _, _, _]) rfl ?_
 unfold uN
 have h : xK (yU n) self left' boxes length kr := h
 unfold xK at h
 refine qU <| s_if ?_
 obtain ⟨p1, h⟩ := h
 refine JQ self.2.1.isSome (decide (self.2.1.getD 0 ≤ length)) (fun Q q => ?_) (fun hb Q q => ?_) ?_
 ·skip
  refine yC <| qM <| qah (m := .io) (by rfl) (by rfl) (fun h => nomatch h) ((Qm (by decide +kernel)).trans Wt) (Im.im (f := (eO D.int)) _) <| c_C <| qL .tmp .tmp qcc <| yz .tmp tr_b ?_
  exact q
 ·have h := p1 hb
  refine yC <| qh0 <| ql rfl ?_
  obtain ⟨p2, h⟩ := h
  refine qhm (m := .io) .tmp (by rfl) (by rfl) (fun h => nomatch h) ((Qm (by decide +kernel)).trans Wt) (qg9 p2.1 p2.2) <| yz .tmp tr_b ?_
  exact q
 refine jD h (fun hb h => ?_) (fun hb h => ?_)
 ·skip
  refine qeI ?_
  exact q ((), self, left') h
 refine Qh <| qU <| s_if <| yC <| qM <| zj <| qb <| ql rfl <| qw <| zg (.cons .z .nil) qcr <| c_C <| qL .tmp .tmp (op_eq (f := D.int)) <| yz .tmp tr_b ?_
 refine jD h (fun hb h => ?_) (fun hb h => ?_)
 ·skip
  refine qU <| X4 <| ql rfl <| Je (e' := [_, _, _, _, _, _, _, _]) .tmp (by rfl) (by rfl) (by show 3 < 1000; decide) (Q7 (by decide +kernel) V2) (by rfl) <| qU <| X4 <| JP <| Wy (by rfl) rfl fun r3 hr4 => Jc hr4 (Im.im (f := (eF zB)) _) <| Je (e' := [_, _, _, _, _, _, _, _]) .tmp (by rfl) (by rfl) (by show 3 < 1000; decide) (Q7 (by decide +kernel) (Q7 (by decide +kernel) V2)) (by rfl) <| qeI ?_
  exact q ((), (self.1, (some length), boxes), left') h
 refine Qh <| Q8 <| yF <| c_fn <| qb <| ql rfl <| qb <| zj <| qb <| ql rfl <| qw ?_
 obtain ⟨x5, p6, h⟩ := h
 refine zg (.cons .z .nil) (qhq p6) <| qw ?_
 refine x_call (left', x5) (fun t7 => [_, _, _, _, _, _, _, _]) h (.cons .z (.cons .tmp .nil)) (qm (yQ .z) (qm (yQ .tmp) qO)) (wz (by rfl)) (fun _ => rfl) fun t7 h => ?_
 refine UL ?_
 refine Qi (fI := zB) (sh := fun (self : ((List (List Int)) × (Option Int) × (List (Int × Int × Int × Int)))) e => ∃ c8 c9 c10 : Option (D × Md), (setS (some c8) = true ∧ setS (some c9) = true ∧ setS (some c10) = true) ∧ e = [some (v4 self, .io), some (zD left', .io), zR (eF zB boxes), zS (D.int length), c8, c9, c10, none]) h ⟨_, _, _, ⟨rfl, rfl, rfl⟩, rfl⟩ (fun box ha self e hs kk11 nxkk11 hJ11 h => ?_) ?_
 ·skip
  obtain ⟨c8, c9, c10, ⟨hc8, hc9, hc10⟩, rfl⟩ := hs
  refine g_n (e' := [_, _, _, _, _, _, _, _]) hc8 rfl (?_)
  refine qU <| s_asg <| c_fn <| qb <| ql rfl <| qw ?_
  refine x_call box (fun t12 => [_, _, _, _, _, _, _, _]) h (.cons .z .nil) (qm (yQ .z) qO) (wz (by rfl)) (fun _ => rfl) fun t12 h => ?_
  refine g_n (e' := [_, _, _, _, _, _, _, _]) hc9 rfl ?_
  refine qU <| s_asg <| zj <| qb <| qjy (m := .io) (kf := zk2) (f := D.bl) (e' := [_, _, _, _, _, _, _, _]) (by rfl) rfl (by rfl) <| c_lc <| qjd (c := zP) (by rfl) ?_
  obtain ⟨p13, h⟩ := h
  refine qfC (e := [_, _, _, _, _, _, _, _]) (fI := zP) (fo := (eT2 zP D.bl)) (fun cell => (!memB cell t12)) (fun cell => (cell, true)) (all1 rfl) p13 rfl (fun cell ha c k1 k2 hc h1 h2 => ?_) ?_
  ·skip
   refine g_n (e' := [_, _, _, _, _, _, _, _]) rfl rfl (?_)
   refine yC <| qM <| ql rfl <| ql rfl <| qL .z .ro (qca (f := zP)) <| yz .tmp tr_b ?_
   refine ⟨fun hb => ?_, fun hb => h2 hb⟩
   refine yL <| qb <| ql rfl <| qb <| c_C <| qw <| zM zP D.bl cell true (.cons (.of .z (Im.im (f := zP) _)) (.cons .tmp .nil)) ?_
   exact o_el .tmp hc rfl (h1 hb)
  refine yD (e' := [_, _, _, _, _, _, _, _]) rfl <| wM <| qjc (g := (eT2 zP D.bl)) <| qw <| zg (.cons .tmp .nil) (ZJ (c := zP) (f := D.bl)) ?_
  refine g_N (f := zD) (fun rest' => [some (v4 self, .io), some (zD left', .io), zR (eF zB boxes), zS (D.int length), zO (zB box), zO (zV t12), zO (zD rest'), none]) h hc10 (fun _ => rfl) fun rest' h => ?_
  refine uX <| qdb (by rfl) (by rfl) ((Qm (by decide +kernel)).trans ((Qm (by decide +kernel)).trans ((Qm (by decide +kernel)).trans rfl))) <| qb <| ql rfl <| qb <| c_fz <| qM <| JP <| Wy (by rfl) rfl fun r14 hr15 => Jc hr15 (Im.im (f := (eF zB)) _) <| jE <| qb <| ql rfl <| qw <| yV zB [box] (.cons (.of .z (Im.im (f := zB) _)) .nil) ?_
  obtain ⟨p16, h⟩ := h
  refine qL .tmp .tmp (qdN (f := zB) p16) <| o_fz (f := zB) <| qb <| qM <| ql rfl <| c_fn <| qb <| ql rfl <| qb <| qah (m := .io) (by rfl) (by rfl) (fun h => nomatch h) Wt (Im.im (f := (eV (eF D.int))) _) <| qw ?_
  refine x_call (t12, self.1) (fun t17 => [_, _, _, _, _, _, _, _]) h (.cons .z (.cons .tmp .nil)) (qm (yQ .z) (qm (yQ .tmp) qO)) (wz (by rfl)) (fun _ => rfl) fun t17 h => ?_
  refine qL .tmp .tmp qX <| qw ?_
  refine x_call (self, rest', (boxes ++ [box]), (length + t17)) (fun t18 => [some (v4 t18.2.1, .io), _, _, _, _, _, zO (zD t18.2.2), _]) h (.cons .z (.cons .z (.cons .tmp (.cons .tmp .nil)))) (qm (by rfl) (qm (by rfl) (qm (yQ .tmp) (qm qN qO)))) (by rfl) (fun _ => rfl) fun t18 h => ?_
  exact hJ11 t18.2.1 _ ⟨_, _, _, ⟨rfl, rfl, rfl⟩, rfl⟩ h
 rintro self e hs h
 obtain ⟨c8, c9, c10, ⟨hc8, hc9, hc10⟩, rfl⟩ := hs
 refine wM ?_
 exact q ((), self, left') h
def jY (yq wJ wL : FS) : XS :=
 (sSeq (sAsg (dMk "Least" wL (qp (dVar 1) aNil)) (gN 2))
 (sSeq (Qx (Vt "Least" "go_on" wJ (dVar 2) (qp (dCall 1 (op1 Z8) (qp (dLc (iSeq (dVar 0)) (gN 3) xYes (dTup (qp (dVar 3) (qp (dC (.bl true)) aNil))) [3]) aNil)) (qp (dFz (dLst aNil)) (qp (dC (.int 0)) aNil)))))
 (sRet (dTup (qp (dFn yq (qp (dVar 0) (qp (qbg (Yl "Least" "boxes" 1 (dVar 2))) (qp (dVar 1) aNil)))) (qp (qbg (Yl "Least" "boxes" 1 (dVar 2))) aNil))))))
def xJ (room : (List (Int × Int))) (measure : (List (List Int))) (kr : (Int × (List (Int × Int × Int × Int))) → Prop) : Prop :=
 xO () measure fun t1 =>
 (room.length ≤ sizeLine) ∧
 uH t1.2 (xW [] (room.map (fun cell => (cell, true)))) ([] : List (Int × Int × Int × Int)) 0 fun t3 =>
 jg room (false, t3.2.1.2.2) measure fun t4 =>
 kr (t4, t3.2.1.2.2)
def zH : FS := mkS (α := ((List (Int × Int)) × (List (List Int)))) (κ := (Int × (List (Int × Int × Int × Int)))) [.ro, .ro] (fun a => [(eV (eT2 D.int D.int)) a.1, (eV (eF D.int)) a.2]) (fun a => xJ a.1 a.2) (fun r => (eT2 D.int (eF (eT4 D.int D.int D.int D.int))) r) fun a r => [(eV (eT2 D.int D.int)) a.1, (eV (eF D.int)) a.2]
theorem Yb : BodyOk zH 4 (jY yq wJ wL) := by
 intro ds Q hl h
 obtain ⟨⟨room, measure⟩, kr, rfl, h, q⟩ := h
 refine uF (e' := [_, _, _, _]) rfl ?_
 unfold jY
 unfold xJ at h
 refine qU <| s_asg <| c_mk <| qb <| ql rfl <| qw ?_
 refine x_mk ((), measure) (fun t1 => v4 t1.2) (fun t1 => [_, _, _, _]) h (.cons .z (.cons .ro .nil)) (by rfl) (by rfl) (fun _ => rfl) (fun _ => rfl) fun t1 h => ?_
 refine g_n (e' := [_, _, _, _]) rfl rfl ?_
 refine qU <| uX <| qdb (by rfl) (by rfl) ((Qm (by decide +kernel)).trans ((Qm (by decide +kernel)).trans ((Qm (by decide +kernel)).trans rfl))) <| qb <| zj <| qb <| c_lc <| yF <| ql rfl <| qag ?_
 obtain ⟨p2, h⟩ := h
 refine Yd (e := [_, _, _, _]) (fI := zP) (fo := (eT2 zP D.bl)) (fun cell => (cell, true)) (all1 rfl) p2 rfl (fun cell ha c k1 hc h1 => ?_) ?_
 ·skip
  refine qec (e' := [_, _, _, _]) rfl rfl (?_)
  refine yL <| qb <| ql rfl <| qb <| c_C <| qw <| zM zP D.bl cell true (.cons (.of .ro (Im.im (f := zP) _)) (.cons .tmp .nil)) ?_
  exact o_el .tmp hc rfl h1
 refine yD (e' := [_, _, _, _]) rfl <| wM <| qw <| zg (.cons .tmp .nil) (ZJ (c := zP) (f := D.bl)) <| qb <| c_fz <| jE <| qw <| yV zB ([] : List (Int × Int × Int × Int)) .nil <| o_fz (f := zB) <| qb <| c_C <| qw ?_
 refine x_call (t1.2, (xW [] (room.map (fun cell => (cell, true)))), ([] : List (Int × Int × Int × Int)), 0) (fun t3 => [_, _, zO (v4 t3.2.1), _]) h (.cons .z (.cons .tmp (.cons .tmp (.cons .tmp .nil)))) (qm (by rfl) (qm (by rfl) (qm (yQ .tmp) (qm qN qO)))) (by rfl) (fun _ => rfl) fun t3 h => ?_
 refine s_ret <| yL <| qb <| c_fn <| qb <| ql rfl <| qb <| qah (m := .own) (by rfl) (by rfl) (fun h => nomatch h) ((Qm (by decide +kernel)).trans ((Qm (by decide +kernel)).trans Wt)) (Im.im (f := (eF zB)) _) <| qb <| ql rfl <| qw ?_
 refine x_call (room, (false, t3.2.1.2.2), measure) (fun t4 => [_, _, _, _]) h (.cons .ro (.cons .tmp (.cons .ro .nil))) (qm (yQ .ro) (qm (yQ .tmp) (qm (yQ .ro) qO))) (wz (by rfl)) (fun _ => rfl) fun t4 h => ?_
 refine qb <| qah (m := .own) (by rfl) (by rfl) (fun h => nomatch h) ((Qm (by decide +kernel)).trans ((Qm (by decide +kernel)).trans Wt)) (Im.im (f := (eF zB)) _) <| qw <| zM D.int (eF zB) t4 t3.2.1.2.2 (.cons .tmp (.cons .tmp .nil)) <| jC ?_
 exact q (t4, t3.2.1.2.2) h
def uK (qD yN : FS) : XS :=
 (sSeq (sAsg (dFn yN (qp (dVar 0) (qp (dC (.bl false)) aNil))) (gN 2))
 (sSeq (sIf (xAnd (xVal (dBin 2 opGt (dCall 2 (op1 bLen) (qp (dVar 2) aNil)) (dVar 1))) (xVal (dBin 2 opEq (dFn qD (qp (dVar 0) (qp (dC (.int 2)) aNil))) (dC (.int 0))))) (sSeq (sAsg (dCall 1 (op1 VD) (qp (dVar 2) aNil)) (gN 3))
 (sRet (dCall 1 (op1 uG) (qp (dCall 1 (op1 jx) (qp (dLc (ju (dVar 1)) (gN 4) xYes (dMn D.isLst Z7 (dVar 3) (qp (dFn qD (qp (dVar 0) (qp (dCall 2 (op1 bLen) (qp (dVar 3) aNil)) aNil))) aNil)) [4]) aNil)) aNil)))) sNil)
 (sRet (qc4 (dVar 2) qfF (qfE (dVar 1))))))
def xV (tape : (Int × Int)) (most : Int) (kr : ((List (Int × Int)) × (Int × Int)) → Prop) : Prop :=
 jH tape false fun t1 =>
 ifW (decide (most < (t1.1.length : Int))) (fun kk2 => qG t1.2 2 fun t3 =>
 kk2 ((decide (t3.1 = 0)), t3.2)) (fun kk2 => kk2 (false, t1.2)) fun (b4 : Bool × (Int × Int)) =>
 ifP b4.1 (lt (t1.1 : (List (Int × Int))) fun left' =>
 (uf 0 most) ∧
 ((rng 0 most).length ≤ sizeLine) ∧
 lcW (rng 0 most) ([] : List (Int × Int)) (b4.2, left') (fun turn (s : ((Int × Int) × (List (Int × Int)))) w => qG s.1 (s.2.length : Int) fun t7 =>
 (0 ≤ t7.1 ∧ t7.1 < 2 ^ 63) ∧
 exW (s.2[(t7.1 : Int).toNat]?) fun x8 =>
 lt (s.2.eraseIdx (t7.1 : Int).toNat) fun left' =>
 w (some x8) (t7.2, left')) fun l11 s12 =>
 kr ((srt tl2 l11), s12.1)) <|
 kr ((cutA t1.1 none (some most)), b4.2)
def zY : FS := mkS (α := ((Int × Int) × Int)) (κ := ((List (Int × Int)) × (Int × Int))) [.io, .cst] (fun a => [eP a.1, D.int a.2]) (fun a => xV a.1 a.2) (fun r => (eV (eT2 D.int D.int)) r.1) fun a r => [eP r.2, D.int a.2]
theorem YL : BodyOk zY 5 (uK qD yN) := by
 intro ds Q hl h
 obtain ⟨⟨tape, most⟩, kr, rfl, h, q⟩ := h
 refine uF (e' := [_, _, _, _, _]) rfl ?_
 unfold uK
 unfold xV at h
 refine qU <| s_asg <| c_fn <| qb <| ql rfl <| qb <| c_C <| qw ?_
 refine x_call (tape, false) (fun t1 => [some (eP t1.2, .io), _, _, _, _]) h (.cons .z (.cons .tmp .nil)) (qm (by rfl) (qm qN qO)) (by rfl) (fun _ => rfl) fun t1 h => ?_
 refine g_n (e' := [_, _, _, _, _]) rfl rfl ?_
 refine qU <| s_if <| qdd <| yC <| qM <| zj <| qb <| ql rfl <| qw <| zg (.cons .z .nil) qhs <| ql rfl <| qL .tmp .tmp Zz <| yz .tmp tr_b ?_
 refine qcn (sh := fun (s : (Int × Int)) e => e = [some (eP s, .io), zS (D.int most), zO (zV t1.1), none, none]) h rfl (fun hb kk2 N hJ2 h => ?_) ?_
 ·skip
  refine yC <| qM <| c_fn <| qb <| ql rfl <| qb <| c_C <| qw ?_
  refine x_call (t1.2, 2) (fun t3 => [some (eP t3.2, .io), _, _, _, _]) h (.cons .z (.cons .tmp .nil)) (qm (by rfl) (qm qN qO)) (by rfl) (fun _ => rfl) fun t3 h => ?_
  refine c_C <| qL .tmp .tmp (op_eq (f := D.int)) <| yz .tmp tr_b ?_
  exact hJ2 ((decide (t3.1 = 0)), t3.2) _ rfl h
 rintro b4 e hs h
 obtain rfl := hs
 refine jD h (fun hb h => ?_) (fun hb h => ?_)
 ·skip
  refine qU <| s_asg <| zj <| qb <| ql rfl <| qw <| zg (.cons .z .nil) (qfI (f := zP)) ?_
  refine g_N (f := zL) (fun left' => [some (eP b4.2, .io), zS (D.int most), zO (zV t1.1), zO (zL left'), none]) h rfl (fun _ => rfl) fun left' h => ?_
  refine s_ret <| zj <| qb <| zj <| qb <| c_lc <| Xw <| ql rfl ?_
  obtain ⟨p5, h⟩ := h
  refine Y7 p5 ?_
  obtain ⟨p6, h⟩ := h
  refine QC (fI := D.int) (fo := zP) (sh := fun (s : ((Int × Int) × (List (Int × Int)))) e => e = [some (eP s.1, .io), zS (D.int most), zO (zV t1.1), zO (zL s.2), none]) h (all1 rfl) p6 rfl (fun turn ha s e hs w c k1 k2 hc h1 h2 h => ?_) ?_
  ·obtain rfl := hs
   refine g_n (e' := [_, _, _, _, _]) rfl rfl (?_)
   refine qbk <| c_mn (by rfl) .z (by rfl) <| qb <| c_fn <| qb <| ql rfl <| qb <| zj <| qb <| ql rfl <| qw <| zg (.cons .z .nil) Jg <| qw ?_
   refine x_call (s.1, (s.2.length : Int)) (fun t7 => [some (eP t7.2, .io), _, _, _, _]) h (.cons .z (.cons .tmp .nil)) (qm (by rfl) (qm qN qO)) (by rfl) (fun _ => rfl) fun t7 h => ?_
   refine qw ?_
   obtain ⟨p10, x8, p9, h⟩ := h
   refine qcj (f := zP) (fun left' => [some (eP t7.2, .io), zS (D.int most), zO (zV t1.1), zO (zL left'), zO (D.int turn)]) h p10 p9 .tmp (by rfl) (fun _ => rfl) fun left' h => ?_
   exact o_el .tmp hc rfl (h1 _ (t7.2, left') _ rfl h)
  rintro l11 s12 e hs h
  obtain rfl := hs
  refine yD (e' := [_, _, _, _, _]) rfl <| wM <| qw <| zg (.cons .tmp .nil) (qcp (f := zP)) <| qw <| zg (.cons .tmp .nil) (Ws (f := zP)) <| jC ?_
  exact q ((srt tl2 l11), s12.1) h
 refine Qh <| s_ret <| qgn <| ql rfl <| qgq <| qgp <| ql rfl <| qfB .tmp <| qja (f := zP) (lo := none) (hi := (some most)) .z <| jC ?_
 exact q ((cutA t1.1 none (some most)), b4.2) h
def Q6 : XS :=
 (sRet (dAnd (dChn 2 opLe 2 opLt (dC (.int 0)) (dBin 2 uP (dIdx (dVar 1) (dC (.int 0))) (dIdx (dVar 0) (dC (.int 0)))) (dIdx (dVar 0) (dC (.int 2)))) (dChn 2 opLe 2 opLt (dC (.int 0)) (dBin 2 uP (dIdx (dVar 1) (dC (.int 1))) (dIdx (dVar 0) (dC (.int 1)))) (dIdx (dVar 0) (dC (.int 3))))))
def xZ (box : (Int × Int × Int × Int)) (cell : (Int × Int)) (kr : Bool → Prop) : Prop :=
 kr (((decide (0 ≤ (cell.1 - box.1))) && (decide ((cell.1 - box.1) < box.2.2.1))) && ((decide (0 ≤ (cell.2 - box.2.1))) && (decide ((cell.2 - box.2.1) < box.2.2.2))))
def zA : FS := mkS (α := ((Int × Int × Int × Int) × (Int × Int))) (κ := Bool) [.ro, .ro] (fun a => [(eT4 D.int D.int D.int D.int) a.1, (eT2 D.int D.int) a.2]) (fun a => xZ a.1 a.2) (fun r => D.bl r) fun a r => [(eT4 D.int D.int D.int D.int) a.1, (eT2 D.int D.int) a.2]
theorem qa2 : BodyOk zA 2 Q6 := by
 intro ds Q hl h
 obtain ⟨⟨box, cell⟩, kr, rfl, h, q⟩ := h
 refine uF (e' := [_, _]) rfl ?_
 unfold Q6
 unfold xZ at h
 refine s_ret ?_
 refine qh1 ((decide (0 ≤ (cell.1 - box.1))) && (decide ((cell.1 - box.1) < box.2.2.1))) ((decide (0 ≤ (cell.2 - box.2.1))) && (decide ((cell.2 - box.2.1) < box.2.2.2))) (fun Q q => ?_) (fun hb Q q => ?_) ?_
 ·skip
  refine qhZ <| c_C <| qM <| zK <| ql rfl <| c_C <| o_idx .ro .tmp Jp (.ro rfl) <| zK <| ql rfl <| c_C <| o_idx .ro .tmp qfZ (.ro rfl) <| qL .tmp .tmp xg ?_
  refine qhl (decide (0 ≤ (cell.1 - box.1))) (decide ((cell.1 - box.1) < box.2.2.1)) .tmp .tmp .tmp qcb (fun hb Q q => ?_) (fun _ => Zy) ?_
  ·skip
   refine zK <| ql rfl <| c_C <| o_idx .ro .tmp qfX (.ro rfl) ?_
   exact q _ .tmp
  exact q
 ·skip
  refine qhZ <| c_C <| qM <| zK <| ql rfl <| c_C <| o_idx .ro .tmp Vi (.ro rfl) <| zK <| ql rfl <| c_C <| o_idx .ro .tmp qfY (.ro rfl) <| qL .tmp .tmp xg ?_
  refine qhl (decide (0 ≤ (cell.2 - box.2.1))) (decide ((cell.2 - box.2.1) < box.2.2.2)) .tmp .tmp .tmp qcb (fun hb Q q => ?_) (fun _ => Zy) ?_
  ·skip
   refine zK <| ql rfl <| c_C <| o_idx .ro .tmp qfW (.ro rfl) ?_
   exact q _ .tmp
  exact q
 refine jC ?_
 exact q (((decide (0 ≤ (cell.1 - box.1))) && (decide ((cell.1 - box.1) < box.2.2.1))) && ((decide (0 ≤ (cell.2 - box.2.1))) && (decide ((cell.2 - box.2.1) < box.2.2.2)))) h
def jL : XS :=
 (sSeq (sAsg (dLst aNil) (gN 3))
 (sSeq (sAsg (dTup (qp (dC (.int 99)) (qp (dC (.int 0)) aNil))) (gT 2 (yg (gN 4) (yg (gN 5) vR))))
 (sSeq (Zt (xVal (dBin 2 opGt (dVar 4) (dC (.int 0)))) (sSeq (sAsg (dC (.int 0)) (gN 6))
 (sSeq (Zt (xAnd (xVal (dBin 2 opLt (dVar 6) (dVar 4))) (xVal (dBin 1 opIn (dTup (qp (dBin 1 wU (dVar 1) (dVar 5)) (qp (dBin 1 wU (dVar 2) (dVar 6)) aNil))) (dVar 0)))) (sAsg (dBin 1 wU (dVar 6) (dC (.int 1))) (gN 6)))
 (sSeq (sAsg (dTup (qp (dVar 6) (qp (dBin 1 wU (dVar 5) (dC (.int 1))) aNil))) (gT 2 (yg (gN 4) (yg (gN 5) vR))))
 (Qx (dM1 D.isLst vI (dVar 3) (dLc (We (dC (.int 1)) (dBin 1 wU (dVar 6) (dC (.int 1)))) (gN 7) xYes (dTup (qp (dVar 1) (qp (dVar 2) (qp (dVar 5) (qp (dVar 7) aNil))))) [7])))))))
 (sRet (dVar 3)))))
def wO (there : (List ((Int × Int) × Bool))) (x : Int) (y : Int) (kr : (List (Int × Int × Int × Int)) → Prop) : Prop :=
 lt (([] : List (Int × Int × Int × Int)) : (List (Int × Int × Int × Int))) fun found =>
 whW (found, (99, 0).1, (99, 0).2) fun (s1 : ((List (Int × Int × Int × Int)) × Int × Int)) kk3 =>
 ifP (decide (0 < s1.2.1)) (whW 0 fun (tall : Int) kk4 =>
 ifP ((decide (tall < s1.2.1)) && (hasA there ((x + s1.2.2), (y + tall)))) (lt ((tall + 1) : Int) fun tall =>
 kk4 tall) <|
 (uf 1 (tall + 1)) ∧
 ((rng 1 (tall + 1)).length ≤ sizeLine) ∧
 (s1.1.length + ((rng 1 (tall + 1)).map (fun high => (x, y, (tall, (s1.2.2 + 1)).2, high))).length ≤ sizeLine) ∧
 lt (s1.1 ++ ((rng 1 (tall + 1)).map (fun high => (x, y, (tall, (s1.2.2 + 1)).2, high)))) fun found =>
 kk3 (found, (tall, (s1.2.2 + 1)).1, (tall, (s1.2.2 + 1)).2)) <|
 kr s1.1
def qR : FS := mkS (α := ((List ((Int × Int) × Bool)) × Int × Int)) (κ := (List (Int × Int × Int × Int))) [.ro, .cst, .cst] (fun a => [(eDT (kf2 Sum.inl Sum.inl) D.bl) a.1, D.int a.2.1, D.int a.2.2]) (fun a => wO a.1 a.2.1 a.2.2) (fun r => (eL (eT4 D.int D.int D.int D.int)) r) fun a r => [(eDT (kf2 Sum.inl Sum.inl) D.bl) a.1, D.int a.2.1, D.int a.2.2]
theorem Zb : BodyOk qR 8 jL := by
 intro ds Q hl h
 obtain ⟨⟨there, x, y⟩, kr, rfl, h, q⟩ := h
 refine uF (e' := [_, _, _, _, _, _, _, _]) rfl ?_
 unfold jL
 unfold wO at h
 refine qU <| s_asg <| jE <| qw <| yV zB ([] : List (Int × Int × Int × Int)) .nil ?_
 refine g_N (f := (eL zB)) (fun found => [_, _, _, zO (eL zB found), _, _, _, _]) h rfl (fun _ => rfl) fun found h => ?_
 refine qU <| s_asg <| yL <| qb <| c_C <| qb <| c_C <| qw <| zM D.int D.int 99 0 (.cons .tmp (.cons .tmp .nil)) ?_
 refine g_T (by rfl) (yH (g_n (e' := [_, _, _, _, _, _, _, _]) rfl rfl (yH (g_n (e' := [_, _, _, _, _, _, _, _]) rfl rfl (WK (?_))))))
 refine qU ?_
 refine s_while (sh := fun (s1 : ((List (Int × Int × Int × Int)) × Int × Int)) e => ∃ c2 : Option (D × Md), (setS (some c2) = true) ∧ e = [zR (zD there), zS (D.int x), zS (D.int y), zO (eL zB s1.1), zO (D.int s1.2.1), zO (D.int s1.2.2), c2, none]) h ⟨_, rfl, rfl⟩ (fun s1 e hs kk3 nxkk3 hJ3 h => ?_)
 obtain ⟨c2, hc2, rfl⟩ := hs
 refine yC <| qM <| ql rfl <| c_C <| qL .tmp .tmp Zz <| yz .tmp tr_b ?_
 refine jD h (fun hb h => ?_) (fun hb h => ?_)
 ·skip
  refine qU <| s_asg <| c_C ?_
  refine g_n (e' := [_, _, _, _, _, _, _, _]) hc2 rfl ?_
  refine qU ?_
  refine s_while (sh := fun (tall : Int) e => e = [zR (zD there), zS (D.int x), zS (D.int y), zO (eL zB s1.1), zO (D.int s1.2.1), zO (D.int s1.2.2), zO (D.int tall), none]) h rfl (fun tall e hs kk4 nxkk4 hJ4 h => ?_)
  obtain rfl := hs
  refine JQ (decide (tall < s1.2.1)) (hasA there ((x + s1.2.2), (y + tall))) (fun Q q => ?_) (fun hb Q q => ?_) ?_
  ·skip
   refine yC <| qM <| ql rfl <| ql rfl <| qL .tmp .tmp Zy <| yz .tmp tr_b ?_
   exact q
  ·skip
   refine yC <| qM <| yL <| qb <| qM <| ql rfl <| ql rfl <| qL .tmp .tmp qX <| qb <| qM <| ql rfl <| ql rfl <| qL .tmp .tmp qX <| qw <| zM D.int D.int (x + s1.2.2) (y + tall) (.cons .tmp (.cons .tmp .nil)) <| ql rfl <| qL .tmp .ro (qcd (c := zP)) <| yz .tmp tr_b ?_
   exact q
  refine jD h (fun hb h => ?_) (fun hb h => ?_)
  ·skip
   refine s_asg <| qM <| ql rfl <| c_C <| qL .tmp .tmp qX ?_
   refine g_N (f := D.int) (fun tall => [_, _, _, _, _, _, zO (D.int tall), _]) h rfl (fun _ => rfl) fun tall h => ?_
   exact hJ4 tall _ rfl h
  refine qU <| s_asg <| yL <| qb <| ql rfl <| qb <| qM <| ql rfl <| c_C <| qL .tmp .tmp qX <| qw <| zM D.int D.int tall (s1.2.2 + 1) (.cons .tmp (.cons .tmp .nil)) ?_
  refine g_T (by rfl) (yH (g_n (e' := [_, _, _, _, _, _, _, _]) rfl rfl (yH (g_n (e' := [_, _, _, _, _, _, _, _]) rfl rfl (WK (?_))))))
  refine uX <| c_m1 (by rfl) (by rfl) (by decide) (by rfl) <| c_lc <| qgo <| c_C <| qM <| ql rfl <| c_C <| qL .tmp .tmp qX ?_
  obtain ⟨p5, h⟩ := h
  refine qfA p5 ?_
  obtain ⟨p6, h⟩ := h
  refine Yd (e := [_, _, _, _, _, _, _, _]) (fI := D.int) (fo := zB) (fun high => (x, y, (tall, (s1.2.2 + 1)).2, high)) (all1 rfl) p6 rfl (fun high ha c k1 hc h1 => ?_) ?_
  ·skip
   refine g_n (e' := [_, _, _, _, _, _, _, _]) rfl rfl (?_)
   refine yL <| qb <| ql rfl <| qb <| ql rfl <| qb <| ql rfl <| qb <| ql rfl <| qw <| qeN D.int D.int D.int D.int x y ((tall, (s1.2.2 + 1)).2) high (.cons .tmp (.cons .tmp (.cons .tmp (.cons .tmp .nil)))) ?_
   exact o_el .tmp hc rfl h1
  refine yD (e' := [_, _, _, _, _, _, _, _]) rfl <| wM ?_
  obtain ⟨p7, h⟩ := h
  refine ZC (fun found => [_, _, _, zO (eL zB found), _, _, _, _]) h (by rfl) p7 (fun _ => rfl) fun found h => ?_
  exact hJ3 (found, (tall, (s1.2.2 + 1)).1, (tall, (s1.2.2 + 1)).2) _ ⟨_, rfl, rfl⟩ h
 refine s_ret <| ql rfl <| UT (m := .own) (by rfl) ?_
 exact q s1.1 h
def uM : XS :=
 (sSeq (sAsg (dCall 1 (op1 Z8) (qp (dLc (iSeq (dTmp (dVar 0))) (gN 8) xYes (dTup (qp (dVar 8) (qp (dC (.bl true)) aNil))) [8]) aNil)) (gN 2))
 (sSeq (sAsg (dC (.int 0)) (gN 3))
 (sSeq (sFor (iSeq (dTmp (dVar 0))) (gT 2 (yg (gN 4) (yg (gN 5) vR))) (sSeq (sPar 6 7 (qp (dIdx (dIdx (dVar 1) (dC (.int 1))) (dVar 5)) (qp (dIdx (dIdx (dVar 1) (dC (.int 0))) (dVar 4)) aNil)))
 (sSeq (sAsg (dBin 1 wU (dBin 1 wU (dVar 3) (dBin 1 vB (dVar 6) (dCall 2 (op1 bInt) (qp (dBin 1 j6 (dTup (qp (dBin 2 uP (dVar 4) (dC (.int 1))) (qp (dVar 5) aNil))) (dVar 2)) aNil)))) (dBin 1 vB (dVar 6) (dCall 2 (op1 bInt) (qp (dBin 1 j6 (dTup (qp (dBin 1 wU (dVar 4) (dC (.int 1))) (qp (dVar 5) aNil))) (dVar 2)) aNil)))) (gN 3))
 (sAsg (dBin 1 wU (dBin 1 wU (dVar 3) (dBin 1 vB (dVar 7) (dCall 2 (op1 bInt) (qp (dBin 1 j6 (dTup (qp (dVar 4) (qp (dBin 2 uP (dVar 5) (dC (.int 1))) aNil))) (dVar 2)) aNil)))) (dBin 1 vB (dVar 7) (dCall 2 (op1 bInt) (qp (dBin 1 j6 (dTup (qp (dVar 4) (qp (dBin 1 wU (dVar 5) (dC (.int 1))) aNil))) (dVar 2)) aNil)))) (gN 3)))))
 (sRet (dVar 3)))))
def yI (cells : (Bool × List (Int × Int))) (measure : (List (List Int))) (kr : Int → Prop) : Prop :=
 (cells.2.length ≤ sizeLine) ∧
 lt ((xW [] (cells.2.map (fun cell => (cell, true)))) : (List ((Int × Int) × Bool))) fun there =>
 forW cells.2 0 (fun a10 (total : Int) kk11 => exW (atI measure 1) fun x12 =>
 exW (atI x12 a10.2) fun x14 =>
 exW (atI measure 0) fun x16 =>
 exW (atI x16 a10.1) fun x18 =>
 lt (x14 : Int) fun high =>
 lt (x18 : Int) fun wide =>
 (IntMulOk high (intB (!hasA there ((a10.1 - 1), a10.2)))) ∧
 (IntMulOk high (intB (!hasA there ((a10.1 + 1), a10.2)))) ∧
 lt (((total + (high * (intB (!hasA there ((a10.1 - 1), a10.2))))) + (high * (intB (!hasA there ((a10.1 + 1), a10.2))))) : Int) fun total =>
 (IntMulOk wide (intB (!hasA there (a10.1, (a10.2 - 1))))) ∧
 (IntMulOk wide (intB (!hasA there (a10.1, (a10.2 + 1))))) ∧
 lt (((total + (wide * (intB (!hasA there (a10.1, (a10.2 - 1)))))) + (wide * (intB (!hasA there (a10.1, (a10.2 + 1)))))) : Int) fun total =>
 kk11 total) fun total =>
 kr total
def qZ : FS := mkS (α := ((Bool × List (Int × Int)) × (List (List Int)))) (κ := Int) [.ro, .ro] (fun a => [(eX (eT2 D.int D.int)) a.1, (eV (eF D.int)) a.2]) (fun a => yI a.1 a.2) (fun r => D.int r) fun a r => [(eX (eT2 D.int D.int)) a.1, (eV (eF D.int)) a.2]
theorem YM : BodyOk qZ 9 uM := by
 intro ds Q hl h
 obtain ⟨⟨cells, measure⟩, kr, rfl, h, q⟩ := h
 refine uF (e' := [_, _, _, _, _, _, _, _, _]) rfl ?_
 unfold uM
 unfold yI at h
 refine qU <| s_asg <| zj <| qb <| c_lc <| yF <| JP <| Wy (by rfl) rfl (hd := qcT) fun r1 hr2 => Jc hr2 (Im.im (f := (eX zP)) _) <| qcg ?_
 obtain ⟨p3, h⟩ := h
 refine Yd (e := [_, _, _, _, _, _, _, _, _]) (fI := zP) (fo := (eT2 zP D.bl)) (fun cell => (cell, true)) (all1 rfl) p3 rfl (fun cell ha c k1 hc h1 => ?_) ?_
 ·skip
  refine g_n (e' := [_, _, _, _, _, _, _, _, _]) rfl rfl (?_)
  refine yL <| qb <| ql rfl <| qb <| c_C <| qw <| zM zP D.bl cell true (.cons (.of .z (Im.im (f := zP) _)) (.cons .tmp .nil)) ?_
  exact o_el .tmp hc rfl h1
 refine yD (e' := [_, _, _, _, _, _, _, _, _]) rfl <| wM <| qw <| zg (.cons .tmp .nil) (ZJ (c := zP) (f := D.bl)) ?_
 refine g_N (f := zD) (fun there => [_, _, zO (zD there), _, _, _, _, _, _]) h rfl (fun _ => rfl) fun there h => ?_
 refine qU <| s_asg <| c_C ?_
 refine g_n (e' := [_, _, _, _, _, _, _, _, _]) rfl rfl ?_
 refine qU <| Q8 <| yF <| JP <| Wy (by rfl) rfl (hd := qcT) fun r4 hr5 => Jc hr5 (Im.im (f := (eX zP)) _) <| qcg ?_
 refine Qi (fI := zP) (sh := fun (total : Int) e => ∃ c6 c7 c8 c9 : Option (D × Md), (setS (some c6) = true ∧ setS (some c7) = true ∧ setS (some c8) = true ∧ setS (some c9) = true) ∧ e = [zR (eX zP cells), zR (eV (eF D.int) measure), zO (zD there), zO (D.int total), c6, c7, c8, c9, none]) h ⟨_, _, _, _, ⟨rfl, rfl, rfl, rfl⟩, rfl⟩ (fun a10 ha total e hs kk11 nxkk11 hJ11 h => ?_) ?_
 ·skip
  obtain ⟨c6, c7, c8, c9, ⟨hc6, hc7, hc8, hc9⟩, rfl⟩ := hs
  refine g_T (by rfl) (yH (g_n (e' := [_, _, _, _, _, _, _, _, _]) hc6 rfl (yH (g_n (e' := [_, _, _, _, _, _, _, _, _]) hc7 rfl (WK (?_))))))
  refine qU <| Ut <| qb <| zK <| zK <| ql rfl <| c_C ?_
  obtain ⟨x12, p13, h⟩ := h
  refine o_idx .ro .tmp (ix_V p13) (.ro rfl) <| ql rfl ?_
  obtain ⟨x14, p15, h⟩ := h
  refine o_idx .ro .tmp (ix_F p15) (.ro rfl) <| qb <| zK <| zK <| ql rfl <| c_C ?_
  obtain ⟨x16, p17, h⟩ := h
  refine o_idx .ro .tmp (ix_V p17) (.ro rfl) <| ql rfl ?_
  obtain ⟨x18, p19, h⟩ := h
  refine o_idx .ro .tmp (ix_F p19) (.ro rfl) <| qw <| UV (f := D.int) (g := D.int) (fun high wide => [zR (eX zP cells), zR (eV (eF D.int) measure), zO (zD there), zO (D.int total), zO (D.int a10.1), zO (D.int a10.2), zO (D.int high), zO (D.int wide), none]) .tmp .tmp h hc8 hc9 (fun _ _ => rfl) fun high wide h => qU <| s_asg <| qM <| qM <| ql rfl <| qM <| ql rfl <| zj <| qb <| qM <| yL <| qb <| qM <| ql rfl <| c_C <| qL .tmp .tmp xg <| qb <| ql rfl <| qw <| zM D.int D.int (a10.1 - 1) a10.2 (.cons .tmp (.cons .tmp .nil)) <| ql rfl <| qL .tmp .z (Zw (c := zP)) <| qw <| zg (.cons .tmp .nil) qai ?_
  obtain ⟨p20, h⟩ := h
  refine qL .tmp .tmp (Zx p20) <| qL .tmp .tmp qX <| qM <| ql rfl <| zj <| qb <| qM <| yL <| qb <| qM <| ql rfl <| c_C <| qL .tmp .tmp qX <| qb <| ql rfl <| qw <| zM D.int D.int (a10.1 + 1) a10.2 (.cons .tmp (.cons .tmp .nil)) <| ql rfl <| qL .tmp .z (Zw (c := zP)) <| qw <| zg (.cons .tmp .nil) qai ?_
  obtain ⟨p21, h⟩ := h
  refine qL .tmp .tmp (Zx p21) <| qL .tmp .tmp qX ?_
  refine g_N (f := D.int) (fun total => [_, _, _, zO (D.int total), _, _, _, _, _]) h rfl (fun _ => rfl) fun total h => ?_
  refine s_asg <| qM <| qM <| ql rfl <| qM <| ql rfl <| zj <| qb <| qM <| yL <| qb <| ql rfl <| qb <| qM <| ql rfl <| c_C <| qL .tmp .tmp xg <| qw <| zM D.int D.int a10.1 (a10.2 - 1) (.cons .tmp (.cons .tmp .nil)) <| ql rfl <| qL .tmp .z (Zw (c := zP)) <| qw <| zg (.cons .tmp .nil) qai ?_
  obtain ⟨p22, h⟩ := h
  refine qL .tmp .tmp (Zx p22) <| qL .tmp .tmp qX <| qM <| ql rfl <| zj <| qb <| qM <| yL <| qb <| ql rfl <| qb <| qM <| ql rfl <| c_C <| qL .tmp .tmp qX <| qw <| zM D.int D.int a10.1 (a10.2 + 1) (.cons .tmp (.cons .tmp .nil)) <| ql rfl <| qL .tmp .z (Zw (c := zP)) <| qw <| zg (.cons .tmp .nil) qai ?_
  obtain ⟨p23, h⟩ := h
  refine qL .tmp .tmp (Zx p23) <| qL .tmp .tmp qX ?_
  refine g_N (f := D.int) (fun total => [_, _, _, zO (D.int total), _, _, _, _, _]) h rfl (fun _ => rfl) fun total h => ?_
  exact hJ11 total _ ⟨_, _, _, _, ⟨rfl, rfl, rfl, rfl⟩, rfl⟩ h
 rintro total e hs h
 obtain ⟨c6, c7, c8, c9, ⟨hc6, hc7, hc8, hc9⟩, rfl⟩ := hs
 refine wM <| s_ret <| ql rfl <| jC ?_
 exact q total h
def uJ (qR zA : FS) : XS :=
 (sSeq (sPar 1 2 (qp (qaz (dVar 0) (dC (.bl true))) (qp (dLst (qp (dVar 0) aNil)) aNil)))
 (sSeq (sAsg (dC (.int 0)) (gN 3))
 (sSeq (Zt (xVal (dBin 2 opLt (dVar 3) (dCall 2 (op1 bLen) (qp (dVar 2) aNil)))) (sSeq (sFor (iSeq (dFn qR (qp (dCall 1 (op1 Z8) (qp (dLc (iSeq (dIdx (dVar 2) (dVar 3))) (gN 6) xYes (dTup (qp (dVar 6) (qp (dC (.bl true)) aNil))) [6]) aNil)) (qp (dIdx (dIdx (dIdx (dVar 2) (dVar 3)) (dC (.int 0))) (dC (.int 0))) (qp (dIdx (dIdx (dIdx (dVar 2) (dVar 3)) (dC (.int 0))) (dC (.int 1))) aNil))))) (gN 4) (sSeq (sAsg (dCall 1 (op1 uG) (qp (dLc (iSeq (dIdx (dVar 2) (dVar 3))) (gN 6) (xNot (xVal (dFn zA (qp (dVar 4) (qp (dVar 6) aNil))))) (dVar 6) [6]) aNil)) (gN 5))
 (sSeq (sIf (xAnd (xVal (dBin 1 (Y6 true) (dVar 5) (dVar 1))) (xVal (dBin 2 opNe (dVar 5) (dTup aNil)))) (Qx (dM1 D.isLst bAppend (dVar 2) (dVar 5))) sNil)
 (qdF (dC (.bl true)) (dVar 1) (dVar 5)))))
 (sAsg (dBin 1 wU (dVar 3) (dC (.int 1))) (gN 3))))
 (sRet (Xr (dVar 2))))))
def xU (room : (List (Int × Int))) (kr : (List (List (Int × Int))) → Prop) : Prop :=
 lt ([(room, true)] : (List ((List (Int × Int)) × Bool))) fun found =>
 lt ([room] : (List (List (Int × Int)))) fun rows =>
 whW (found, rows, 0) fun (s1 : ((List ((List (Int × Int)) × Bool)) × (List (List (Int × Int))) × Int)) kk4 =>
 ifP (decide (s1.2.2 < (s1.2.1.length : Int))) (exW (atI s1.2.1 s1.2.2) fun x5 =>
 (x5.length ≤ sizeLine) ∧
 exW (atI s1.2.1 s1.2.2) fun x8 =>
 exW (atI x8 0) fun x10 =>
 exW (atI s1.2.1 s1.2.2) fun x12 =>
 exW (atI x12 0) fun x14 =>
 wO (xW [] (x5.map (fun cell => (cell, true)))) x10.1 x14.2 fun t16 =>
 forW t16 (s1.1, s1.2.1) (fun box (s17 : ((List ((List (Int × Int)) × Bool)) × (List (List (Int × Int))))) kk20 => exW (atI s17.2 s1.2.2) fun x21 =>
 (x21.length ≤ sizeLine) ∧
 lcW x21 ([] : List (Int × Int)) () (fun cell (s : Unit) w => xZ box cell fun t24 =>
 ifP (!t24) (w (some cell) ()) (w none ())) fun l25 s26 =>
 lt (l25 : (List (Int × Int))) fun rest' =>
 ifW ((!hasA s17.1 rest') && (!(decide (rest' = ([] : (List (Int × Int))))))) (fun kk27 => (s17.2.length < sizeLine) ∧
 lt (s17.2 ++ [rest']) fun rows =>
 kk27 rows) (fun kk27 => kk27 s17.2) fun (rows : (List (List (Int × Int)))) =>
 (s17.1.length < sizeLine) ∧
 lt (putA rest' true s17.1) fun found =>
 kk20 (found, rows)) fun s17 =>
 lt ((s1.2.2 + 1) : Int) fun at' =>
 kk4 (s17.1, s17.2, at')) <|
 kr (Zi s1.2.1)
def zX : FS := mkS (α := (List (Int × Int))) (κ := (List (List (Int × Int)))) [.ro] (fun a => [(eV (eT2 D.int D.int)) a]) (fun a => xU a) (fun r => (eL (eV (eT2 D.int D.int))) r) fun a r => [(eV (eT2 D.int D.int)) a]
theorem YK : BodyOk zX 7 (uJ qR zA) := by
 intro ds Q hl h
 obtain ⟨room, kr, rfl, h, q⟩ := h
 refine uF (e' := [_, _, _, _, _, _, _]) rfl ?_
 unfold uJ
 unfold xU at h
 refine qU <| Ut <| qb <| qdc <| ql rfl <| c_C <| qcm (c := zV) (f := D.bl) .ro .tmp <| qb <| jE <| qb <| ql rfl <| qw <| yV zV [room] (.cons (.of .ro (Im.im (f := zV) _)) .nil) <| qw <| UV (f := (eDN (nV (nT2 nI nI)) D.bl)) (g := (eL zV)) (fun found rows => [zR (zV room), zO (eDN (nV (nT2 nI nI)) D.bl found), zO (eL zV rows), none, none, none, none]) .tmp .tmp h rfl rfl (fun _ _ => rfl) fun found rows h => qU <| s_asg <| c_C ?_
 refine g_n (e' := [_, _, _, _, _, _, _]) rfl rfl ?_
 refine qU ?_
 refine s_while (sh := fun (s1 : ((List ((List (Int × Int)) × Bool)) × (List (List (Int × Int))) × Int)) e => ∃ c2 c3 : Option (D × Md), (setS (some c2) = true ∧ setS (some c3) = true) ∧ e = [zR (zV room), zO (eDN (nV (nT2 nI nI)) D.bl s1.1), zO (eL zV s1.2.1), zO (D.int s1.2.2), c2, c3, none]) h ⟨_, _, ⟨rfl, rfl⟩, rfl⟩ (fun s1 e hs kk4 nxkk4 hJ4 h => ?_)
 obtain ⟨c2, c3, ⟨hc2, hc3⟩, rfl⟩ := hs
 refine yC <| qM <| ql rfl <| zj <| qb <| ql rfl <| qw <| zg (.cons .z .nil) Jg <| qL .tmp .tmp Zy <| yz .tmp tr_b ?_
 refine jD h (fun hb h => ?_) (fun hb h => ?_)
 ·skip
  refine qU <| Q8 <| yF <| c_fn <| qb <| zj <| qb <| c_lc <| yF <| zK <| ql rfl <| ql rfl ?_
  obtain ⟨x5, p6, h⟩ := h
  refine o_idx .z .tmp (ix_L p6) (.sl (Im.im (f := zV) _)) <| qcf ?_
  obtain ⟨p7, h⟩ := h
  refine Yd (e := [_, _, _, _, _, _, _]) (fI := zP) (fo := (eT2 zP D.bl)) (fun cell => (cell, true)) (all1 rfl) p7 rfl (fun cell ha c k1 hc h1 => ?_) ?_
  ·skip
   refine g_n (e' := [_, _, _, _, _, _, _]) rfl rfl (?_)
   refine yL <| qb <| ql rfl <| qb <| c_C <| qw <| zM zP D.bl cell true (.cons (.of .z (Im.im (f := zP) _)) (.cons .tmp .nil)) ?_
   exact o_el .tmp hc rfl h1
  refine yD (e' := [_, _, _, _, _, _, _]) rfl <| wM <| qw <| zg (.cons .tmp .nil) (ZJ (c := zP) (f := D.bl)) <| qb <| zK <| zK <| zK <| ql rfl <| ql rfl ?_
  obtain ⟨x8, p9, h⟩ := h
  refine o_idx .z .tmp (ix_L p9) (.sl (Im.im (f := zV) _)) <| c_C ?_
  obtain ⟨x10, p11, h⟩ := h
  refine o_idx .tmp .tmp (ix_V p11) .tmp <| c_C <| o_idx .tmp .tmp Jp .tmp <| qb <| zK <| zK <| zK <| ql rfl <| ql rfl ?_
  obtain ⟨x12, p13, h⟩ := h
  refine o_idx .z .tmp (ix_L p13) (.sl (Im.im (f := zV) _)) <| c_C ?_
  obtain ⟨x14, p15, h⟩ := h
  refine o_idx .tmp .tmp (ix_V p15) .tmp <| c_C <| o_idx .tmp .tmp Vi .tmp <| qw ?_
  refine x_call ((xW [] (x5.map (fun cell => (cell, true)))), x10.1, x14.2) (fun t16 => [_, _, _, _, _, _, _]) h (.cons .tmp (.cons .tmp (.cons .tmp .nil))) (qm (yQ .tmp) (qm qN (qm qN qO))) (wz (by rfl)) (fun _ => rfl) fun t16 h => ?_
  refine UL ?_
  refine Qi (fI := zB) (sh := fun (s17 : ((List ((List (Int × Int)) × Bool)) × (List (List (Int × Int))))) e => ∃ c18 c19 : Option (D × Md), (setS (some c18) = true ∧ setS (some c19) = true) ∧ e = [zR (zV room), zO (eDN (nV (nT2 nI nI)) D.bl s17.1), zO (eL zV s17.2), zO (D.int s1.2.2), c18, c19, none]) h ⟨_, _, ⟨hc2, hc3⟩, rfl⟩ (fun box ha s17 e hs kk20 nxkk20 hJ20 h => ?_) ?_
  ·skip
   obtain ⟨c18, c19, ⟨hc18, hc19⟩, rfl⟩ := hs
   refine g_n (e' := [_, _, _, _, _, _, _]) hc18 rfl (?_)
   refine qU <| s_asg <| zj <| qb <| c_lc <| yF <| zK <| ql rfl <| ql rfl ?_
   obtain ⟨x21, p22, h⟩ := h
   refine o_idx .z .tmp (ix_L p22) (.sl (Im.im (f := zV) _)) <| qcf ?_
   obtain ⟨p23, h⟩ := h
   refine QC (fI := zP) (fo := zP) (sh := fun (s : Unit) e => e = [zR (zV room), zO (eDN (nV (nT2 nI nI)) D.bl s17.1), zO (eL zV s17.2), zO (D.int s1.2.2), zO (zB box), c19, none]) h (all1 rfl) p23 rfl (fun cell ha s e hs w c k1 k2 hc h1 h2 h => ?_) ?_
   ·obtain rfl := hs
    refine g_n (e' := [_, _, _, _, _, _, _]) rfl rfl (?_)
    refine qaC <| yC <| c_fn <| qb <| ql rfl <| qb <| ql rfl <| qw ?_
    refine x_call (box, cell) (fun t24 => [_, _, _, _, _, _, _]) h (.cons .z (.cons .z .nil)) (qm (yQ .z) (qm (yQ .z) qO)) (wz (by rfl)) (fun _ => rfl) fun t24 h => ?_
    refine yz .tmp tr_b ?_
    refine jD h (fun hb h => ?_) (fun hb h => h2 () _ rfl h)
    refine ql rfl ?_
    exact o_el (.of .z (Im.im (f := zP) _)) hc rfl (h1 _ () _ rfl h)
   rintro l25 s26 e hs h
   obtain rfl := hs
   refine yD (e' := [_, _, _, _, _, _, _]) rfl <| wM <| qw <| zg (.cons .tmp .nil) (Ws (f := zP)) ?_
   refine g_N (f := zV) (fun rest' => [zR (zV room), zO (eDN (nV (nT2 nI nI)) D.bl s17.1), zO (eL zV s17.2), zO (D.int s1.2.2), zO (zB box), zO (zV rest'), none]) h hc19 (fun _ => rfl) fun rest' h => ?_
   refine qU <| s_if ?_
   refine JQ (!hasA s17.1 rest') (!(decide (rest' = ([] : (List (Int × Int)))))) (fun Q q => ?_) (fun hb Q q => ?_) ?_
   ·skip
    refine yC <| qM <| ql rfl <| ql rfl <| qL .z .z (Uz (c := zV)) <| yz .tmp tr_b ?_
    exact q
   ·skip
    refine yC <| qM <| ql rfl <| yL <| qw <| qce zP <| qL .z .tmp (op_ne (f := zV)) <| yz .tmp tr_b ?_
    exact q
   refine qcl (sh := fun (rows : (List (List (Int × Int)))) e => e = [zR (zV room), zO (eDN (nV (nT2 nI nI)) D.bl s17.1), zO (eL zV rows), zO (D.int s1.2.2), zO (zB box), zO (zV rest'), none]) h (fun hb kk27 nxkk27 hJ27 h => ?_) (fun hb kk27 nxkk27 hJ27 h => ?_) ?_
   ·skip
    refine uX <| c_m1 (by rfl) (by rfl) (by decide) (by rfl) <| ql rfl ?_
    obtain ⟨p28, h⟩ := h
    refine QD (fun rows => [_, _, zO (eL zV rows), _, _, _, _]) h (.of .z (Im.im (f := zV) _)) (by rfl) p28 (fun _ => rfl) fun rows h => ?_
    exact hJ27 rows _ rfl h
   ·skip
    refine Qh ?_
    exact hJ27 s17.2 _ rfl h
   rintro rows e hs h
   obtain rfl := hs
   refine qbS <| c_C <| ql rfl <| ql rfl ?_
   obtain ⟨p29, h⟩ := h
   refine qci (c := zV) (f := D.bl) (fun found => [_, zO (eDN (nV (nT2 nI nI)) D.bl found), _, _, _, _, _]) h .tmp .z (by rfl) p29 (fun _ => rfl) fun found h => ?_
   exact hJ20 (found, rows) _ ⟨_, _, ⟨rfl, rfl⟩, rfl⟩ h
  rintro s17 e hs h
  obtain ⟨c18, c19, ⟨hc18, hc19⟩, rfl⟩ := hs
  refine wM <| s_asg <| qM <| ql rfl <| c_C <| qL .tmp .tmp qX ?_
  refine g_N (f := D.int) (fun at' => [zR (zV room), zO (eDN (nV (nT2 nI nI)) D.bl s17.1), zO (eL zV s17.2), zO (D.int at'), c18, c19, none]) h rfl (fun _ => rfl) fun at' h => ?_
  exact hJ4 (s17.1, s17.2, at') _ ⟨_, _, ⟨hc18, hc19⟩, rfl⟩ h
 refine s_ret <| qc9 <| ql rfl <| qch (f := zP) .z <| jC ?_
 exact q (Zi s1.2.1) h
def jr (zX qR qZ qJ zA : FS) : XS :=
 (sSeq (sAsg (qaz (dTup aNil) (dFzT (dTup (qp (dC (.int 0)) (qp (dLst aNil) aNil))))) (gN 2))
 (sSeq (sFor (iSeq (dIf (xVal (dBin 2 opNe (dVar 0) (dTup aNil))) (dFn zX (qp (dVar 0) aNil)) (dLst aNil))) (gN 3) (sSeq (sAsg (dLst aNil) (gN 4))
 (sSeq (sFor (iSeq (dFn qR (qp (dCall 1 (op1 Z8) (qp (dLc (iSeq (dVar 3)) (gN 8) xYes (dTup (qp (dVar 8) (qp (dC (.bl true)) aNil))) [8]) aNil)) (qp (dIdx (dIdx (dVar 3) (dC (.int 0))) (dC (.int 0))) (qp (dIdx (dIdx (dVar 3) (dC (.int 0))) (dC (.int 1))) aNil))))) (gN 5) (sSeq (sAsg (qem (dVar 2) (dCall 1 (op1 uG) (qp (dLc (iSeq (dVar 3)) (gN 8) (xNot (xVal (dFn zA (qp (dVar 5) (qp (dVar 8) aNil))))) (dVar 8) [8]) aNil))) (gT 2 (yg (gN 6) (yg (gN 7) vR))))
 (Qx (dM1 D.isLst bAppend (dVar 4) (dTup (qp (dBin 1 wU (dVar 6) (dFn qZ (qp (dFz (dFn qJ (qp (dIdx (dVar 5) (dC (.int 0))) (qp (dIdx (dVar 5) (dC (.int 1))) (qp (dIdx (dVar 5) (dC (.int 2))) (qp (dIdx (dVar 5) (dC (.int 3))) aNil)))))) (qp (dVar 1) aNil)))) (qp (dFz (dBin 1 wU (dLst (qp (dVar 5) aNil)) (dTmp (dVar 7)))) aNil)))))))
 (qdF (dCall 1 (op1 qbo) (qp (dVar 4) aNil)) (dVar 2) (dVar 3)))))
 (sRet (qem (dVar 2) (dVar 0)))))
def yP (room : (List (Int × Int))) (measure : (List (List Int))) (kr : (Int × (List (Int × Int × Int × Int))) → Prop) : Prop :=
 lt ([(([] : (List (Int × Int))), (0, ([] : List (Int × Int × Int × Int))))] : (List ((List (Int × Int)) × (Int × (List (Int × Int × Int × Int)))))) fun best =>
 ifP (!(decide (room = ([] : (List (Int × Int)))))) (xU room fun t1 =>
 forW t1 best (fun left' (best : (List ((List (Int × Int)) × (Int × (List (Int × Int × Int × Int)))))) kk7 => lt (([] : List (Int × (List (Int × Int × Int × Int)))) : (List (Int × (List (Int × Int × Int × Int))))) fun some' =>
 (left'.length ≤ sizeLine) ∧
 exW (atI left' 0) fun x9 =>
 exW (atI left' 0) fun x11 =>
 wO (xW [] (left'.map (fun cell => (cell, true)))) x9.1 x11.2 fun t13 =>
 forW t13 some' (fun box (some' : (List (Int × (List (Int × Int × Int × Int))))) kk17 => (left'.length ≤ sizeLine) ∧
 lcW left' ([] : List (Int × Int)) () (fun cell (s : Unit) w => xZ box cell fun t19 =>
 ifP (!t19) (w (some cell) ()) (w none ())) fun l20 s21 =>
 exW (getA best l20) fun x22 =>
 za box.1 box.2.1 box.2.2.1 box.2.2.2 fun t24 =>
 yI (false, t24) measure fun t25 =>
 ([box].length + x22.2.length ≤ sizeLine) ∧
 (some'.length < sizeLine) ∧
 lt (some' ++ [((x22.1 + t25), ([box] ++ x22.2))]) fun some' =>
 kk17 some') fun some' =>
 exW (qdX some') fun x30 =>
 (best.length < sizeLine) ∧
 lt (putA left' x30 best) fun best =>
 kk7 best) fun best =>
 exW (getA best room) fun x33 =>
 kr x33) <|
 forW ([] : List (List (Int × Int))) best (fun left' (best : (List ((List (Int × Int)) × (Int × (List (Int × Int × Int × Int)))))) kk40 => lt (([] : List (Int × (List (Int × Int × Int × Int)))) : (List (Int × (List (Int × Int × Int × Int))))) fun some' =>
 (left'.length ≤ sizeLine) ∧
 exW (atI left' 0) fun x42 =>
 exW (atI left' 0) fun x44 =>
 wO (xW [] (left'.map (fun cell => (cell, true)))) x42.1 x44.2 fun t46 =>
 forW t46 some' (fun box (some' : (List (Int × (List (Int × Int × Int × Int))))) kk50 => (left'.length ≤ sizeLine) ∧
 lcW left' ([] : List (Int × Int)) () (fun cell (s : Unit) w => xZ box cell fun t52 =>
 ifP (!t52) (w (some cell) ()) (w none ())) fun l53 s54 =>
 exW (getA best l53) fun x55 =>
 za box.1 box.2.1 box.2.2.1 box.2.2.2 fun t57 =>
 yI (false, t57) measure fun t58 =>
 ([box].length + x55.2.length ≤ sizeLine) ∧
 (some'.length < sizeLine) ∧
 lt (some' ++ [((x55.1 + t58), ([box] ++ x55.2))]) fun some' =>
 kk50 some') fun some' =>
 exW (qdX some') fun x63 =>
 (best.length < sizeLine) ∧
 lt (putA left' x63 best) fun best =>
 kk40 best) fun best =>
 exW (getA best room) fun x66 =>
 kr x66
def wI : FS := mkS (α := ((List (Int × Int)) × (List (List Int)))) (κ := (Int × (List (Int × Int × Int × Int)))) [.ro, .ro] (fun a => [(eV (eT2 D.int D.int)) a.1, (eV (eF D.int)) a.2]) (fun a => yP a.1 a.2) (fun r => (eT2 D.int (eF (eT4 D.int D.int D.int D.int))) r) fun a r => [(eV (eT2 D.int D.int)) a.1, (eV (eF D.int)) a.2]
theorem WD : BodyOk wI 9 (jr zX qR qZ qJ zA) := by
 intro ds Q hl h
 obtain ⟨⟨room, measure⟩, kr, rfl, h, q⟩ := h
 refine uF (e' := [_, _, _, _, _, _, _, _, _]) rfl ?_
 unfold jr
 unfold yP at h
 refine qU <| s_asg <| qdc <| yL <| qw <| qce zP <| qjA <| yL <| qb <| c_C <| qb <| jE <| qw <| yV zB ([] : List (Int × Int × Int × Int)) .nil <| qw <| zM D.int (eL zB) 0 ([] : List (Int × Int × Int × Int)) (.cons .tmp (.cons .tmp .nil)) <| qje (d := (eT2 D.int (eF zB)) (0, ([] : List (Int × Int × Int × Int)))) (qaq (fz_I (Im.im (f := D.int) _)) (qaq fz_L (qf3))) rfl <| qcm (c := zV) (f := (eT2 D.int (eF zB))) .tmp .tmp ?_
 refine g_N (f := (eDN (nV (nT2 nI nI)) (eT2 D.int (eF zB)))) (fun best => [_, _, zO (eDN (nV (nT2 nI nI)) (eT2 D.int (eF zB)) best), _, _, _, _, _, _]) h rfl (fun _ => rfl) fun best h => ?_
 refine qU <| Q8 <| yF <| qjz <| yC <| qM <| ql rfl <| yL <| qw <| qce zP <| qL .ro .tmp (op_ne (f := zV)) <| yz .tmp tr_b ?_
 refine jD h (fun hb h => ?_) (fun hb h => ?_)
 ·skip
  refine c_fn <| qb <| ql rfl <| qw ?_
  refine x_call room (fun t1 => [_, _, _, _, _, _, _, _, _]) h (.cons .ro .nil) (qm (yQ .ro) qO) (wz (by rfl)) (fun _ => rfl) fun t1 h => ?_
  refine UL ?_
  refine Qi (fI := zV) (sh := fun (best : (List ((List (Int × Int)) × (Int × (List (Int × Int × Int × Int)))))) e => ∃ c2 c3 c4 c5 c6 : Option (D × Md), (setS (some c2) = true ∧ setS (some c3) = true ∧ setS (some c4) = true ∧ setS (some c5) = true ∧ setS (some c6) = true) ∧ e = [zR (zV room), zR (eV (eF D.int) measure), zO (eDN (nV (nT2 nI nI)) (eT2 D.int (eF zB)) best), c2, c3, c4, c5, c6, none]) h ⟨_, _, _, _, _, ⟨rfl, rfl, rfl, rfl, rfl⟩, rfl⟩ (fun left' ha best e hs kk7 nxkk7 hJ7 h => ?_) ?_
  ·skip
   obtain ⟨c2, c3, c4, c5, c6, ⟨hc2, hc3, hc4, hc5, hc6⟩, rfl⟩ := hs
   refine g_n (e' := [_, _, _, _, _, _, _, _, _]) hc2 rfl (?_)
   refine qU <| s_asg <| jE <| qw <| yV (eT2 D.int (eF zB)) ([] : List (Int × (List (Int × Int × Int × Int)))) .nil ?_
   refine g_N (f := (eL (eT2 D.int (eF zB)))) (fun some' => [zR (zV room), zR (eV (eF D.int) measure), zO (eDN (nV (nT2 nI nI)) (eT2 D.int (eF zB)) best), zO (zV left'), zO (eL (eT2 D.int (eF zB)) some'), c4, c5, c6, none]) h hc3 (fun _ => rfl) fun some' h => ?_
   refine qU <| Q8 <| yF <| c_fn <| qb <| zj <| qb <| c_lc <| yF <| ql rfl <| qaf (e' := [_, _, _, _, _, _, _, _, _]) rfl rfl rfl ?_
   obtain ⟨p8, h⟩ := h
   refine Yd (e := [_, _, _, _, _, _, _, _, _]) (fI := zP) (fo := (eT2 zP D.bl)) (fun cell => (cell, true)) (all1 rfl) p8 rfl (fun cell ha c k1 hc h1 => ?_) ?_
   ·skip
    refine g_n (e' := [_, _, _, _, _, _, _, _, _]) rfl rfl (?_)
    refine yL <| qb <| ql rfl <| qb <| c_C <| qw <| zM zP D.bl cell true (.cons (.of .z (Im.im (f := zP) _)) (.cons .tmp .nil)) ?_
    exact o_el .tmp hc rfl h1
   refine yD (e' := [_, _, _, _, _, _, _, _, _]) rfl <| uZ (e' := [_, _, _, _, _, _, _, _, _]) rfl rfl <| qw <| zg (.cons .tmp .nil) (ZJ (c := zP) (f := D.bl)) <| qb <| zK <| zK <| ql rfl <| c_C ?_
   obtain ⟨x9, p10, h⟩ := h
   refine o_idx .z .tmp (ix_V p10) (.sl (Im.im (f := zP) _)) <| c_C <| o_idx .tmp .tmp Jp .tmp <| qb <| zK <| zK <| ql rfl <| c_C ?_
   obtain ⟨x11, p12, h⟩ := h
   refine o_idx .z .tmp (ix_V p12) (.sl (Im.im (f := zP) _)) <| c_C <| o_idx .tmp .tmp Vi .tmp <| qw ?_
   refine x_call ((xW [] (left'.map (fun cell => (cell, true)))), x9.1, x11.2) (fun t13 => [_, _, _, _, _, _, _, _, _]) h (.cons .tmp (.cons .tmp (.cons .tmp .nil))) (qm (yQ .tmp) (qm qN (qm qN qO))) (wz (by rfl)) (fun _ => rfl) fun t13 h => ?_
   refine UL ?_
   refine Qi (fI := zB) (sh := fun (some' : (List (Int × (List (Int × Int × Int × Int))))) e => ∃ c14 c15 c16 : Option (D × Md), (setS (some c14) = true ∧ setS (some c15) = true ∧ setS (some c16) = true) ∧ e = [zR (zV room), zR (eV (eF D.int) measure), zO (eDN (nV (nT2 nI nI)) (eT2 D.int (eF zB)) best), zO (zV left'), zO (eL (eT2 D.int (eF zB)) some'), c14, c15, c16, none]) h ⟨_, _, _, ⟨hc4, hc5, hc6⟩, rfl⟩ (fun box ha some' e hs kk17 nxkk17 hJ17 h => ?_) ?_
   ·skip
    obtain ⟨c14, c15, c16, ⟨hc14, hc15, hc16⟩, rfl⟩ := hs
    refine g_n (e' := [_, _, _, _, _, _, _, _, _]) hc14 rfl (?_)
    refine qU <| s_asg <| qaD <| qM <| ql rfl <| zj <| qb <| c_lc <| yF <| ql rfl <| qaf (e' := [_, _, _, _, _, _, _, _, _]) rfl rfl rfl ?_
    obtain ⟨p18, h⟩ := h
    refine QC (fI := zP) (fo := zP) (sh := fun (s : Unit) e => e = [zR (zV room), zR (eV (eF D.int) measure), zO (eDN (nV (nT2 nI nI)) (eT2 D.int (eF zB)) best), some (zV left', .lk), zO (eL (eT2 D.int (eF zB)) some'), zO (zB box), c15, c16, none]) h (all1 rfl) p18 rfl (fun cell ha s e hs w c k1 k2 hc h1 h2 h => ?_) ?_
    ·obtain rfl := hs
     refine g_n (e' := [_, _, _, _, _, _, _, _, _]) rfl rfl (?_)
     refine qaC <| yC <| c_fn <| qb <| ql rfl <| qb <| ql rfl <| qw ?_
     refine x_call (box, cell) (fun t19 => [_, _, _, _, _, _, _, _, _]) h (.cons .z (.cons .z .nil)) (qm (yQ .z) (qm (yQ .z) qO)) (wz (by rfl)) (fun _ => rfl) fun t19 h => ?_
     refine yz .tmp tr_b ?_
     refine jD h (fun hb h => ?_) (fun hb h => h2 () _ rfl h)
     refine ql rfl ?_
     exact o_el (.of .z (Im.im (f := zP) _)) hc rfl (h1 _ () _ rfl h)
    rintro l20 s21 e hs h
    obtain rfl := hs
    refine yD (e' := [_, _, _, _, _, _, _, _, _]) rfl <| uZ (e' := [_, _, _, _, _, _, _, _, _]) rfl rfl <| qw <| zg (.cons .tmp .nil) (Ws (f := zP)) ?_
    obtain ⟨x22, p23, h⟩ := h
    refine qL .z .tmp (ix_N (c := zV) (f := (eT2 D.int (eF zB))) p23) ?_
    refine g_T (by rfl) (yH (g_n (e' := [_, _, _, _, _, _, _, _, _]) hc15 rfl (yH (g_n (e' := [_, _, _, _, _, _, _, _, _]) hc16 rfl (WK (?_))))))
    refine uX <| c_m1 (by rfl) (by rfl) (by decide) (by rfl) <| yL <| qb <| qM <| ql rfl <| c_fn <| qb <| c_fz <| c_fn <| qb <| zK <| ql rfl <| c_C <| o_idx .z .tmp qfZ (.sl (Im.im (f := D.int) _)) <| qb <| zK <| ql rfl <| c_C <| o_idx .z .tmp qfY (.sl (Im.im (f := D.int) _)) <| qb <| zK <| ql rfl <| c_C <| o_idx .z .tmp qfX (.sl (Im.im (f := D.int) _)) <| qb <| zK <| ql rfl <| c_C <| o_idx .z .tmp qfW (.sl (Im.im (f := D.int) _)) <| qw ?_
    refine x_call (box.1, box.2.1, box.2.2.1, box.2.2.2) (fun t24 => [_, _, _, _, _, _, _, _, _]) h (.cons .tmp (.cons .tmp (.cons .tmp (.cons .tmp .nil)))) (qm qN (qm qN (qm qN (qm qN qO)))) (wz (by rfl)) (fun _ => rfl) fun t24 h => ?_
    refine o_fz (f := zP) <| qb <| ql rfl <| qw ?_
    refine x_call ((false, t24), measure) (fun t25 => [_, _, _, _, _, _, _, _, _]) h (.cons .tmp (.cons .ro .nil)) (qm (yQ .tmp) (qm (yQ .ro) qO)) (wz (by rfl)) (fun _ => rfl) fun t25 h => ?_
    refine qL .tmp .tmp qX <| qb <| c_fz <| qM <| jE <| qb <| ql rfl <| qw <| yV zB [box] (.cons (.of .z (Im.im (f := zB) _)) .nil) <| JP <| Wy (by rfl) rfl fun r26 hr27 => Jc hr27 (Im.im (f := (eF zB)) _) ?_
    obtain ⟨p28, h⟩ := h
    refine qL .tmp .tmp (qab (f := zB) p28) <| o_fz (f := zB) <| qw <| zM D.int (eF zB) (x22.1 + t25) ([box] ++ x22.2) (.cons .tmp (.cons .tmp .nil)) ?_
    obtain ⟨p29, h⟩ := h
    refine QD (fun some' => [zR (zV room), zR (eV (eF D.int) measure), zO (eDN (nV (nT2 nI nI)) (eT2 D.int (eF zB)) best), zO (zV left'), zO (eL (eT2 D.int (eF zB)) some'), zO (zB box), zO (D.int x22.1), zO (eF zB x22.2), none]) h .tmp (by rfl) p29 (fun _ => rfl) fun some' h => ?_
    exact hJ17 some' _ ⟨_, _, _, ⟨rfl, rfl, rfl⟩, rfl⟩ h
   rintro some' e hs h
   obtain ⟨c14, c15, c16, ⟨hc14, hc15, hc16⟩, rfl⟩ := hs
   refine wM <| qbS <| zj <| qb <| ql rfl <| qw ?_
   obtain ⟨x30, p31, h⟩ := h
   refine zg (.cons .z .nil) (qcq p31) <| ql rfl <| ql rfl ?_
   obtain ⟨p32, h⟩ := h
   refine qci (c := zV) (f := (eT2 D.int (eF zB))) (fun best => [_, _, zO (eDN (nV (nT2 nI nI)) (eT2 D.int (eF zB)) best), _, _, _, _, _, _]) h .tmp .z (by rfl) p32 (fun _ => rfl) fun best h => ?_
   exact hJ7 best _ ⟨_, _, _, _, _, ⟨rfl, rfl, hc14, hc15, hc16⟩, rfl⟩ h
  rintro best e hs h
  obtain ⟨c2, c3, c4, c5, c6, ⟨hc2, hc3, hc4, hc5, hc6⟩, rfl⟩ := hs
  refine wM <| s_ret <| qaD <| qM <| ql rfl <| ql rfl ?_
  obtain ⟨x33, p34, h⟩ := h
  refine qL .z .ro (ix_N (c := zV) (f := (eT2 D.int (eF zB))) p34) <| jC ?_
  exact q x33 h
 refine jE <| qw <| yV zV ([] : List (List (Int × Int))) .nil <| UL ?_
 refine Qi (fI := zV) (sh := fun (best : (List ((List (Int × Int)) × (Int × (List (Int × Int × Int × Int)))))) e => ∃ c35 c36 c37 c38 c39 : Option (D × Md), (setS (some c35) = true ∧ setS (some c36) = true ∧ setS (some c37) = true ∧ setS (some c38) = true ∧ setS (some c39) = true) ∧ e = [zR (zV room), zR (eV (eF D.int) measure), zO (eDN (nV (nT2 nI nI)) (eT2 D.int (eF zB)) best), c35, c36, c37, c38, c39, none]) h ⟨_, _, _, _, _, ⟨rfl, rfl, rfl, rfl, rfl⟩, rfl⟩ (fun left' ha best e hs kk40 nxkk40 hJ40 h => ?_) ?_
 ·skip
  obtain ⟨c35, c36, c37, c38, c39, ⟨hc35, hc36, hc37, hc38, hc39⟩, rfl⟩ := hs
  refine g_n (e' := [_, _, _, _, _, _, _, _, _]) hc35 rfl (?_)
  refine qU <| s_asg <| jE <| qw <| yV (eT2 D.int (eF zB)) ([] : List (Int × (List (Int × Int × Int × Int)))) .nil ?_
  refine g_N (f := (eL (eT2 D.int (eF zB)))) (fun some' => [zR (zV room), zR (eV (eF D.int) measure), zO (eDN (nV (nT2 nI nI)) (eT2 D.int (eF zB)) best), zO (zV left'), zO (eL (eT2 D.int (eF zB)) some'), c37, c38, c39, none]) h hc36 (fun _ => rfl) fun some' h => ?_
  refine qU <| Q8 <| yF <| c_fn <| qb <| zj <| qb <| c_lc <| yF <| ql rfl <| qaf (e' := [_, _, _, _, _, _, _, _, _]) rfl rfl rfl ?_
  obtain ⟨p41, h⟩ := h
  refine Yd (e := [_, _, _, _, _, _, _, _, _]) (fI := zP) (fo := (eT2 zP D.bl)) (fun cell => (cell, true)) (all1 rfl) p41 rfl (fun cell ha c k1 hc h1 => ?_) ?_
  ·skip
   refine g_n (e' := [_, _, _, _, _, _, _, _, _]) rfl rfl (?_)
   refine yL <| qb <| ql rfl <| qb <| c_C <| qw <| zM zP D.bl cell true (.cons (.of .z (Im.im (f := zP) _)) (.cons .tmp .nil)) ?_
   exact o_el .tmp hc rfl h1
  refine yD (e' := [_, _, _, _, _, _, _, _, _]) rfl <| uZ (e' := [_, _, _, _, _, _, _, _, _]) rfl rfl <| qw <| zg (.cons .tmp .nil) (ZJ (c := zP) (f := D.bl)) <| qb <| zK <| zK <| ql rfl <| c_C ?_
  obtain ⟨x42, p43, h⟩ := h
  refine o_idx .z .tmp (ix_V p43) (.sl (Im.im (f := zP) _)) <| c_C <| o_idx .tmp .tmp Jp .tmp <| qb <| zK <| zK <| ql rfl <| c_C ?_
  obtain ⟨x44, p45, h⟩ := h
  refine o_idx .z .tmp (ix_V p45) (.sl (Im.im (f := zP) _)) <| c_C <| o_idx .tmp .tmp Vi .tmp <| qw ?_
  refine x_call ((xW [] (left'.map (fun cell => (cell, true)))), x42.1, x44.2) (fun t46 => [_, _, _, _, _, _, _, _, _]) h (.cons .tmp (.cons .tmp (.cons .tmp .nil))) (qm (yQ .tmp) (qm qN (qm qN qO))) (wz (by rfl)) (fun _ => rfl) fun t46 h => ?_
  refine UL ?_
  refine Qi (fI := zB) (sh := fun (some' : (List (Int × (List (Int × Int × Int × Int))))) e => ∃ c47 c48 c49 : Option (D × Md), (setS (some c47) = true ∧ setS (some c48) = true ∧ setS (some c49) = true) ∧ e = [zR (zV room), zR (eV (eF D.int) measure), zO (eDN (nV (nT2 nI nI)) (eT2 D.int (eF zB)) best), zO (zV left'), zO (eL (eT2 D.int (eF zB)) some'), c47, c48, c49, none]) h ⟨_, _, _, ⟨hc37, hc38, hc39⟩, rfl⟩ (fun box ha some' e hs kk50 nxkk50 hJ50 h => ?_) ?_
  ·skip
   obtain ⟨c47, c48, c49, ⟨hc47, hc48, hc49⟩, rfl⟩ := hs
   refine g_n (e' := [_, _, _, _, _, _, _, _, _]) hc47 rfl (?_)
   refine qU <| s_asg <| qaD <| qM <| ql rfl <| zj <| qb <| c_lc <| yF <| ql rfl <| qaf (e' := [_, _, _, _, _, _, _, _, _]) rfl rfl rfl ?_
   obtain ⟨p51, h⟩ := h
   refine QC (fI := zP) (fo := zP) (sh := fun (s : Unit) e => e = [zR (zV room), zR (eV (eF D.int) measure), zO (eDN (nV (nT2 nI nI)) (eT2 D.int (eF zB)) best), some (zV left', .lk), zO (eL (eT2 D.int (eF zB)) some'), zO (zB box), c48, c49, none]) h (all1 rfl) p51 rfl (fun cell ha s e hs w c k1 k2 hc h1 h2 h => ?_) ?_
   ·obtain rfl := hs
    refine g_n (e' := [_, _, _, _, _, _, _, _, _]) rfl rfl (?_)
    refine qaC <| yC <| c_fn <| qb <| ql rfl <| qb <| ql rfl <| qw ?_
    refine x_call (box, cell) (fun t52 => [_, _, _, _, _, _, _, _, _]) h (.cons .z (.cons .z .nil)) (qm (yQ .z) (qm (yQ .z) qO)) (wz (by rfl)) (fun _ => rfl) fun t52 h => ?_
    refine yz .tmp tr_b ?_
    refine jD h (fun hb h => ?_) (fun hb h => h2 () _ rfl h)
    refine ql rfl ?_
    exact o_el (.of .z (Im.im (f := zP) _)) hc rfl (h1 _ () _ rfl h)
   rintro l53 s54 e hs h
   obtain rfl := hs
   refine yD (e' := [_, _, _, _, _, _, _, _, _]) rfl <| uZ (e' := [_, _, _, _, _, _, _, _, _]) rfl rfl <| qw <| zg (.cons .tmp .nil) (Ws (f := zP)) ?_
   obtain ⟨x55, p56, h⟩ := h
   refine qL .z .tmp (ix_N (c := zV) (f := (eT2 D.int (eF zB))) p56) ?_
   refine g_T (by rfl) (yH (g_n (e' := [_, _, _, _, _, _, _, _, _]) hc48 rfl (yH (g_n (e' := [_, _, _, _, _, _, _, _, _]) hc49 rfl (WK (?_))))))
   refine uX <| c_m1 (by rfl) (by rfl) (by decide) (by rfl) <| yL <| qb <| qM <| ql rfl <| c_fn <| qb <| c_fz <| c_fn <| qb <| zK <| ql rfl <| c_C <| o_idx .z .tmp qfZ (.sl (Im.im (f := D.int) _)) <| qb <| zK <| ql rfl <| c_C <| o_idx .z .tmp qfY (.sl (Im.im (f := D.int) _)) <| qb <| zK <| ql rfl <| c_C <| o_idx .z .tmp qfX (.sl (Im.im (f := D.int) _)) <| qb <| zK <| ql rfl <| c_C <| o_idx .z .tmp qfW (.sl (Im.im (f := D.int) _)) <| qw ?_
   refine x_call (box.1, box.2.1, box.2.2.1, box.2.2.2) (fun t57 => [_, _, _, _, _, _, _, _, _]) h (.cons .tmp (.cons .tmp (.cons .tmp (.cons .tmp .nil)))) (qm qN (qm qN (qm qN (qm qN qO)))) (wz (by rfl)) (fun _ => rfl) fun t57 h => ?_
   refine o_fz (f := zP) <| qb <| ql rfl <| qw ?_
   refine x_call ((false, t57), measure) (fun t58 => [_, _, _, _, _, _, _, _, _]) h (.cons .tmp (.cons .ro .nil)) (qm (yQ .tmp) (qm (yQ .ro) qO)) (wz (by rfl)) (fun _ => rfl) fun t58 h => ?_
   refine qL .tmp .tmp qX <| qb <| c_fz <| qM <| jE <| qb <| ql rfl <| qw <| yV zB [box] (.cons (.of .z (Im.im (f := zB) _)) .nil) <| JP <| Wy (by rfl) rfl fun r59 hr60 => Jc hr60 (Im.im (f := (eF zB)) _) ?_
   obtain ⟨p61, h⟩ := h
   refine qL .tmp .tmp (qab (f := zB) p61) <| o_fz (f := zB) <| qw <| zM D.int (eF zB) (x55.1 + t58) ([box] ++ x55.2) (.cons .tmp (.cons .tmp .nil)) ?_
   obtain ⟨p62, h⟩ := h
   refine QD (fun some' => [zR (zV room), zR (eV (eF D.int) measure), zO (eDN (nV (nT2 nI nI)) (eT2 D.int (eF zB)) best), zO (zV left'), zO (eL (eT2 D.int (eF zB)) some'), zO (zB box), zO (D.int x55.1), zO (eF zB x55.2), none]) h .tmp (by rfl) p62 (fun _ => rfl) fun some' h => ?_
   exact hJ50 some' _ ⟨_, _, _, ⟨rfl, rfl, rfl⟩, rfl⟩ h
  rintro some' e hs h
  obtain ⟨c47, c48, c49, ⟨hc47, hc48, hc49⟩, rfl⟩ := hs
  refine wM <| qbS <| zj <| qb <| ql rfl <| qw ?_
  obtain ⟨x63, p64, h⟩ := h
  refine zg (.cons .z .nil) (qcq p64) <| ql rfl <| ql rfl ?_
  obtain ⟨p65, h⟩ := h
  refine qci (c := zV) (f := (eT2 D.int (eF zB))) (fun best => [_, _, zO (eDN (nV (nT2 nI nI)) (eT2 D.int (eF zB)) best), _, _, _, _, _, _]) h .tmp .z (by rfl) p65 (fun _ => rfl) fun best h => ?_
  exact hJ40 best _ ⟨_, _, _, _, _, ⟨rfl, rfl, hc47, hc48, hc49⟩, rfl⟩ h
 rintro best e hs h
 obtain ⟨c35, c36, c37, c38, c39, ⟨hc35, hc36, hc37, hc38, hc39⟩, rfl⟩ := hs
 refine wM <| s_ret <| qaD <| qM <| ql rfl <| ql rfl ?_
 obtain ⟨x66, p67, h⟩ := h
 refine qL .z .ro (ix_N (c := zV) (f := (eT2 D.int (eF zB))) p67) <| jC ?_
 exact q x66 h
def jo (qD qJ zY : FS) : XS :=
 (sSeq (sIf (xVal (dBin 2 opEq (dFn qD (qp (dVar 0) (qp (dC (.int 4)) aNil))) (dC (.int 0)))) (sRet (dFn zY (qp (dVar 0) (qp (dC (.int 10)) aNil)))) sNil)
 (sSeq (sAsg (dBin 1 wU (dC (.int 1)) (dFn qD (qp (dVar 0) (qp (dC (.int 4)) aNil)))) (gN 1))
 (sSeq (sAsg (dBin 1 wU (dC (.int 1)) (dFn qD (qp (dVar 0) (qp (dBin 2 qa7 (dC (.int 10)) (dVar 1)) aNil)))) (gN 2))
 (sSeq (sPar 3 4 (qp (dFn qD (qp (dVar 0) (qp (dC (.int 9)) aNil))) (qp (dFn qD (qp (dVar 0) (qp (dC (.int 9)) aNil))) aNil)))
 (sSeq (sAsg (dFn qJ (qp (dVar 3) (qp (dVar 4) (qp (dVar 1) (qp (dVar 2) aNil))))) (gN 5))
 (sSeq (sFor (ju (dCall 2 (op2 VB) (qp (dBin 2 uP (dCall 2 (op1 bLen) (qp (dVar 5) aNil)) (dC (.int 1))) (qp (dFn qD (qp (dVar 0) (qp (dC (.int 3)) aNil))) aNil)))) (gN 6) (Qx (dMn D.isLst Z7 (dVar 5) (qp (dFn qD (qp (dVar 0) (qp (dCall 2 (op1 bLen) (qp (dVar 5) aNil)) aNil))) aNil))))
 (sRet (dCall 1 (op1 uG) (qp (dVar 5) aNil)))))))))
def yO (tape : (Int × Int)) (kr : ((List (Int × Int)) × (Int × Int)) → Prop) : Prop :=
 qG tape 4 fun t1 =>
 ifP (decide (t1.1 = 0)) (xV t1.2 10 fun t2 =>
 kr (t2.1, t2.2)) <|
 qG t1.2 4 fun t3 =>
 lt ((1 + t3.1) : Int) fun wide =>
 (CDiv 10 wide) ∧
 qG t3.2 (10 / wide) fun t5 =>
 lt ((1 + t5.1) : Int) fun high =>
 qG t5.2 9 fun t6 =>
 qG t6.2 9 fun t7 =>
 lt (t6.1 : Int) fun x =>
 lt (t7.1 : Int) fun y =>
 za x y wide high fun t8 =>
 qG t7.2 3 fun t9 =>
 (uf 0 (min ((t8.length : Int) - 1) t9.1)) ∧
 forW (rng 0 (min ((t8.length : Int) - 1) t9.1)) (t9.2, t8) (fun turn (s11 : ((Int × Int) × (List (Int × Int)))) kk13 => qG s11.1 (s11.2.length : Int) fun t14 =>
 (0 ≤ t14.1 ∧ t14.1 < 2 ^ 63) ∧
 exW (s11.2[(t14.1 : Int).toNat]?) fun x15 =>
 lt (s11.2.eraseIdx (t14.1 : Int).toNat) fun cells =>
 kk13 (t14.2, cells)) fun s11 =>
 kr (s11.2, s11.1)
def wH : FS := mkS (α := (Int × Int)) (κ := ((List (Int × Int)) × (Int × Int))) [.io] (fun a => [eP a]) (fun a => yO a) (fun r => (eV (eT2 D.int D.int)) r.1) fun a r => [eP r.2]
theorem Wz : BodyOk wH 7 (jo qD qJ zY) := by
 intro ds Q hl h
 obtain ⟨tape, kr, rfl, h, q⟩ := h
 refine uF (e' := [_, _, _, _, _, _, _]) rfl ?_
 unfold jo
 unfold yO at h
 refine qU <| s_if <| yC <| qM <| c_fn <| qb <| ql rfl <| qb <| c_C <| qw ?_
 refine x_call (tape, 4) (fun t1 => [some (eP t1.2, .io), _, _, _, _, _, _]) h (.cons .z (.cons .tmp .nil)) (qm (by rfl) (qm qN qO)) (by rfl) (fun _ => rfl) fun t1 h => ?_
 refine c_C <| qL .tmp .tmp (op_eq (f := D.int)) <| yz .tmp tr_b ?_
 refine jD h (fun hb h => ?_) (fun hb h => ?_)
 ·skip
  refine s_ret <| c_fn <| qb <| ql rfl <| qb <| c_C <| qw ?_
  refine x_call (t1.2, 10) (fun t2 => [some (eP t2.2, .io), _, _, _, _, _, _]) h (.cons .z (.cons .tmp .nil)) (qm (by rfl) (qm qN qO)) (by rfl) (fun _ => rfl) fun t2 h => ?_
  refine jC ?_
  exact q (t2.1, t2.2) h
 refine Qh <| qU <| s_asg <| qM <| c_C <| c_fn <| qb <| ql rfl <| qb <| c_C <| qw ?_
 refine x_call (t1.2, 4) (fun t3 => [some (eP t3.2, .io), _, _, _, _, _, _]) h (.cons .z (.cons .tmp .nil)) (qm (by rfl) (qm qN qO)) (by rfl) (fun _ => rfl) fun t3 h => ?_
 refine qL .tmp .tmp qX ?_
 refine g_N (f := D.int) (fun wide => [_, zO (D.int wide), _, _, _, _, _]) h rfl (fun _ => rfl) fun wide h => ?_
 refine qU <| s_asg <| qM <| c_C <| c_fn <| qb <| ql rfl <| qb <| qM <| c_C <| ql rfl ?_
 obtain ⟨p4, h⟩ := h
 refine qL .tmp .tmp (UG p4) <| qw ?_
 refine x_call (t3.2, (10 / wide)) (fun t5 => [some (eP t5.2, .io), _, _, _, _, _, _]) h (.cons .z (.cons .tmp .nil)) (qm (by rfl) (qm qN qO)) (by rfl) (fun _ => rfl) fun t5 h => ?_
 refine qL .tmp .tmp qX ?_
 refine g_N (f := D.int) (fun high => [_, _, zO (D.int high), _, _, _, _]) h rfl (fun _ => rfl) fun high h => ?_
 refine qU <| Ut <| qb <| c_fn <| qb <| ql rfl <| qb <| c_C <| qw ?_
 refine x_call (t5.2, 9) (fun t6 => [some (eP t6.2, .io), _, _, _, _, _, _]) h (.cons .z (.cons .tmp .nil)) (qm (by rfl) (qm qN qO)) (by rfl) (fun _ => rfl) fun t6 h => ?_
 refine qb <| c_fn <| qb <| ql rfl <| qb <| c_C <| qw ?_
 refine x_call (t6.2, 9) (fun t7 => [some (eP t7.2, .io), _, _, _, _, _, _]) h (.cons .z (.cons .tmp .nil)) (qm (by rfl) (qm qN qO)) (by rfl) (fun _ => rfl) fun t7 h => ?_
 refine qw <| UV (f := D.int) (g := D.int) (fun x y => [some (eP t7.2, .io), zO (D.int wide), zO (D.int high), zO (D.int x), zO (D.int y), none, none]) .tmp .tmp h rfl rfl (fun _ _ => rfl) fun x y h => qU <| s_asg <| c_fn <| qb <| ql rfl <| qb <| ql rfl <| qb <| ql rfl <| qb <| ql rfl <| qw ?_
 refine x_call (x, y, wide, high) (fun t8 => [_, _, _, _, _, _, _]) h (.cons .tmp (.cons .tmp (.cons .tmp (.cons .tmp .nil)))) (qm qN (qm qN (qm qN (qm qN qO)))) (wz (by rfl)) (fun _ => rfl) fun t8 h => ?_
 refine g_n (e' := [_, _, _, _, _, _, _]) rfl rfl ?_
 refine qU <| Q8 <| Xw <| zj <| qb <| qM <| zj <| qb <| ql rfl <| qw <| zg (.cons .z .nil) Jg <| c_C <| qL .tmp .tmp xg <| qb <| c_fn <| qb <| ql rfl <| qb <| c_C <| qw ?_
 refine x_call (t7.2, 3) (fun t9 => [some (eP t9.2, .io), _, _, _, _, _, _]) h (.cons .z (.cons .tmp .nil)) (qm (by rfl) (qm qN qO)) (by rfl) (fun _ => rfl) fun t9 h => ?_
 refine qw <| zg (.cons .tmp (.cons .tmp .nil)) qeP ?_
 obtain ⟨p10, h⟩ := h
 refine Y7 p10 ?_
 refine Qi (fI := D.int) (sh := fun (s11 : ((Int × Int) × (List (Int × Int)))) e => ∃ c12 : Option (D × Md), (setS (some c12) = true) ∧ e = [some (eP s11.1, .io), zO (D.int wide), zO (D.int high), zO (D.int x), zO (D.int y), zO (zL s11.2), c12]) h ⟨_, rfl, rfl⟩ (fun turn ha s11 e hs kk13 nxkk13 hJ13 h => ?_) ?_
 ·skip
  obtain ⟨c12, hc12, rfl⟩ := hs
  refine g_n (e' := [_, _, _, _, _, _, _]) hc12 rfl (?_)
  refine uX <| c_mn (by rfl) .z (by rfl) <| qb <| c_fn <| qb <| ql rfl <| qb <| zj <| qb <| ql rfl <| qw <| zg (.cons .z .nil) Jg <| qw ?_
  refine x_call (s11.1, (s11.2.length : Int)) (fun t14 => [some (eP t14.2, .io), _, _, _, _, _, _]) h (.cons .z (.cons .tmp .nil)) (qm (by rfl) (qm qN qO)) (by rfl) (fun _ => rfl) fun t14 h => ?_
  refine qw ?_
  obtain ⟨p17, x15, p16, h⟩ := h
  refine qcj (f := zP) (fun cells => [_, _, _, _, _, zO (zL cells), _]) h p17 p16 .tmp (by rfl) (fun _ => rfl) fun cells h => ?_
  exact hJ13 (t14.2, cells) _ ⟨_, rfl, rfl⟩ h
 rintro s11 e hs h
 obtain ⟨c12, hc12, rfl⟩ := hs
 refine wM <| s_ret <| zj <| qb <| ql rfl <| qw <| zg (.cons .z .nil) (Ws (f := zP)) <| jC ?_
 exact q (s11.2, s11.1) h
def xP (qD : FS) : XS :=
 (sSeq (sAsg (dTup (qp (dBin 1 wU (dC (.int 1)) (dFn qD (qp (dVar 0) (qp (dC (.int 3)) aNil)))) (qp (dBin 1 wU (dC (.int 1)) (dFn qD (qp (dVar 0) (qp (dC (.int 3)) aNil)))) aNil))) (gT 2 (yg (gN 2) (yg (gN 3) vR))))
 (sSeq (sIf (xVal (dBin 2 opEq (dFn qD (qp (dVar 0) (qp (dC (.int 2)) aNil))) (dC (.int 0)))) (sAsg (dVar 2) (gN 3)) sNil)
 (sSeq (sAsg (dLst aNil) (gN 4))
 (sSeq (sFor (ju (dC (.int 2))) (gN 5) (sSeq (sAsg (dCall 2 (op1 qdh) (qp (dBin 1 wU (dLc (iSeq (dVar 1)) (gN 8) xYes (dIdx (dVar 8) (dVar 5)) [8]) (dLst (qp (dC (.int 0)) aNil))) aNil)) (gN 6))
 (Qx (dM1 D.isLst bAppend (dVar 4) (dFz (dLc (ju (dBin 1 wU (dVar 6) (dC (.int 1)))) (gN 7) xYes (dIdx (dLst (qp (dVar 2) (qp (dVar 3) aNil))) (dBin 2 vC (dVar 7) (dC (.int 2)))) [7]))))))
 (sRet (dCall 1 (op1 uG) (qp (dVar 4) aNil)))))))
def yf (tape : (Int × Int)) (room : (List (Int × Int))) (kr : ((List (List Int)) × (Int × Int)) → Prop) : Prop :=
 qG tape 3 fun t1 =>
 qG t1.2 3 fun t2 =>
 qG t2.2 2 fun t3 =>
 ifW (decide (t3.1 = 0)) (fun kk4 => kk4 (((1 + t1.1), (1 + t2.1)).1)) (fun kk4 => kk4 (((1 + t1.1), (1 + t2.1)).2)) fun (other : Int) =>
 lt (([] : List (List Int)) : (List (List Int))) fun found =>
 (uf 0 2) ∧
 forW (rng 0 2) found (fun side (found : (List (List Int))) kk8 => (room.length ≤ sizeLine) ∧
 lcW room ([] : List Int) () (fun cell (s : Unit) w => exW (atI [cell.1, cell.2] side) fun x10 =>
 w (some x10) ()) fun l12 s13 =>
 (l12.length + [0].length ≤ sizeLine) ∧
 exW (l12 ++ [0]).max? fun x15 =>
 (uf 0 (x15 + 1)) ∧
 ((rng 0 (x15 + 1)).length ≤ sizeLine) ∧
 lcW (rng 0 (x15 + 1)) ([] : List Int) () (fun k' (s : Unit) w => exW (atI [((1 + t1.1), (1 + t2.1)).1, other] (k' % 2)) fun x19 =>
 w (some x19) ()) fun l21 s22 =>
 (found.length < sizeLine) ∧
 lt (found ++ [l21]) fun found =>
 kk8 found) fun found =>
 kr (found, t3.2)
def qY : FS := mkS (α := ((Int × Int) × (List (Int × Int)))) (κ := ((List (List Int)) × (Int × Int))) [.io, .ro] (fun a => [eP a.1, (eV (eT2 D.int D.int)) a.2]) (fun a => yf a.1 a.2) (fun r => (eV (eF D.int)) r.1) fun a r => [eP r.2, (eV (eT2 D.int D.int)) a.2]
theorem v9 : BodyOk qY 9 (xP qD) := by
 intro ds Q hl h
 obtain ⟨⟨tape, room⟩, kr, rfl, h, q⟩ := h
 refine uF (e' := [_, _, _, _, _, _, _, _, _]) rfl ?_
 unfold xP
 unfold yf at h
 refine qU <| s_asg <| yL <| qb <| qM <| c_C <| c_fn <| qb <| ql rfl <| qb <| c_C <| qw ?_
 refine x_call (tape, 3) (fun t1 => [some (eP t1.2, .io), _, _, _, _, _, _, _, _]) h (.cons .z (.cons .tmp .nil)) (qm (by rfl) (qm qN qO)) (by rfl) (fun _ => rfl) fun t1 h => ?_
 refine qL .tmp .tmp qX <| qb <| qM <| c_C <| c_fn <| qb <| ql rfl <| qb <| c_C <| qw ?_
 refine x_call (t1.2, 3) (fun t2 => [some (eP t2.2, .io), _, _, _, _, _, _, _, _]) h (.cons .z (.cons .tmp .nil)) (qm (by rfl) (qm qN qO)) (by rfl) (fun _ => rfl) fun t2 h => ?_
 refine qL .tmp .tmp qX <| qw <| zM D.int D.int (1 + t1.1) (1 + t2.1) (.cons .tmp (.cons .tmp .nil)) ?_
 refine g_T (by rfl) (yH (g_n (e' := [_, _, _, _, _, _, _, _, _]) rfl rfl (yH (g_n (e' := [_, _, _, _, _, _, _, _, _]) rfl rfl (WK (?_))))))
 refine qU <| s_if <| yC <| qM <| c_fn <| qb <| ql rfl <| qb <| c_C <| qw ?_
 refine x_call (t2.2, 2) (fun t3 => [some (eP t3.2, .io), _, _, _, _, _, _, _, _]) h (.cons .z (.cons .tmp .nil)) (qm (by rfl) (qm qN qO)) (by rfl) (fun _ => rfl) fun t3 h => ?_
 refine c_C <| qL .tmp .tmp (op_eq (f := D.int)) <| yz .tmp tr_b ?_
 refine qcl (sh := fun (other : Int) e => e = [some (eP t3.2, .io), zR (zV room), zO (D.int (((1 + t1.1), (1 + t2.1)).1)), zO (D.int other), none, none, none, none, none]) h (fun hb kk4 nxkk4 hJ4 h => ?_) (fun hb kk4 nxkk4 hJ4 h => ?_) ?_
 ·skip
  refine s_asg <| ql rfl ?_
  refine g_n (e' := [_, _, _, _, _, _, _, _, _]) rfl rfl ?_
  exact hJ4 (((1 + t1.1), (1 + t2.1)).1) _ rfl h
 ·skip
  refine Qh ?_
  exact hJ4 (((1 + t1.1), (1 + t2.1)).2) _ rfl h
 rintro other e hs h
 obtain rfl := hs
 refine qU <| s_asg <| jE <| qw <| yV (eF D.int) ([] : List (List Int)) .nil ?_
 refine g_N (f := (eL (eF D.int))) (fun found => [_, _, _, _, zO (eL (eF D.int) found), _, _, _, _]) h rfl (fun _ => rfl) fun found h => ?_
 refine qU <| Q8 <| Xw <| c_C ?_
 obtain ⟨p5, h⟩ := h
 refine Y7 p5 ?_
 refine Qi (fI := D.int) (sh := fun (found : (List (List Int))) e => ∃ c6 c7 : Option (D × Md), (setS (some c6) = true ∧ setS (some c7) = true) ∧ e = [some (eP t3.2, .io), zR (zV room), zO (D.int (((1 + t1.1), (1 + t2.1)).1)), zO (D.int other), zO (eL (eF D.int) found), c6, c7, none, none]) h ⟨_, _, ⟨rfl, rfl⟩, rfl⟩ (fun side ha found e hs kk8 nxkk8 hJ8 h => ?_) ?_
 ·skip
  obtain ⟨c6, c7, ⟨hc6, hc7⟩, rfl⟩ := hs
  refine g_n (e' := [_, _, _, _, _, _, _, _, _]) hc6 rfl (?_)
  refine qU <| s_asg <| zj <| qb <| qM <| c_lc <| yF <| ql rfl <| qag ?_
  obtain ⟨p9, h⟩ := h
  refine QC (fI := zP) (fo := D.int) (sh := fun (s : Unit) e => e = [some (eP t3.2, .io), zR (zV room), zO (D.int (((1 + t1.1), (1 + t2.1)).1)), zO (D.int other), zO (eL (eF D.int) found), zO (D.int side), c7, none, none]) h (all1 rfl) p9 rfl (fun cell ha s e hs w c k1 k2 hc h1 h2 h => ?_) ?_
  ·obtain rfl := hs
   refine qec (e' := [_, _, _, _, _, _, _, _, _]) rfl rfl (?_)
   refine qbk <| zK <| ql rfl <| ql rfl ?_
   obtain ⟨x10, p11, h⟩ := h
   refine o_idx .ro .tmp (qjn p11) (.ro rfl) ?_
   exact o_el .tmp hc rfl (h1 _ () _ rfl h)
  rintro l12 s13 e hs h
  obtain rfl := hs
  refine yD (e' := [_, _, _, _, _, _, _, _, _]) rfl <| wM <| jE <| qb <| c_C <| qw <| yV D.int [0] (.cons .tmp .nil) ?_
  obtain ⟨p14, h⟩ := h
  refine qL .tmp .tmp (qfw (f := D.int) p14) <| qw ?_
  obtain ⟨x15, p16, h⟩ := h
  refine zg (.cons .tmp .nil) (qfH p16) ?_
  refine g_n (e' := [_, _, _, _, _, _, _, _, _]) hc7 rfl ?_
  refine uX <| c_m1 (by rfl) (by rfl) (by decide) (by rfl) <| c_fz <| c_lc <| Xw <| qM <| ql rfl <| c_C <| qL .tmp .tmp qX ?_
  obtain ⟨p17, h⟩ := h
  refine Y7 p17 ?_
  obtain ⟨p18, h⟩ := h
  refine QC (fI := D.int) (fo := D.int) (sh := fun (s : Unit) e => e = [some (eP t3.2, .io), zR (zV room), zO (D.int (((1 + t1.1), (1 + t2.1)).1)), zO (D.int other), zO (eL (eF D.int) found), zO (D.int side), zO (D.int x15), none, none]) h (all1 rfl) p18 rfl (fun k' ha s e hs w c k1 k2 hc h1 h2 h => ?_) ?_
  ·obtain rfl := hs
   refine g_n (e' := [_, _, _, _, _, _, _, _, _]) rfl rfl (?_)
   refine qbk <| zK <| jE <| qb <| ql rfl <| qb <| ql rfl <| qw <| yV D.int [((1 + t1.1), (1 + t2.1)).1, other] (.cons .tmp (.cons .tmp .nil)) <| qM <| ql rfl <| c_C <| qL .tmp .tmp (Wb (by decide)) ?_
   obtain ⟨x19, p20, h⟩ := h
   refine o_idx .tmp .tmp (ix_L p20) .tmp ?_
   exact o_el .tmp hc rfl (h1 _ () _ rfl h)
  rintro l21 s22 e hs h
  obtain rfl := hs
  refine yD (e' := [_, _, _, _, _, _, _, _, _]) rfl <| wM <| o_fz (f := D.int) ?_
  obtain ⟨p23, h⟩ := h
  refine QD (fun found => [_, _, _, _, zO (eL (eF D.int) found), _, _, _, _]) h .tmp (by rfl) p23 (fun _ => rfl) fun found h => ?_
  exact hJ8 found _ ⟨_, _, ⟨rfl, rfl⟩, rfl⟩ h
 rintro found e hs h
 obtain ⟨c6, c7, ⟨hc6, hc7⟩, rfl⟩ := hs
 refine wM <| s_ret <| zj <| qb <| ql rfl <| qw <| zg (.cons .z .nil) (Ws (f := (eF D.int))) <| jC ?_
 exact q (found, t3.2) h
def qfg (zu zH qZ wI qY wH yM : FS) : XS :=
 (sSeq (sFor (ju (dBin 1 wU (dC (.int 1)) (dCall 2 (op2 VB) (qp (dC (.int 4)) (qp (dCall 2 (op1 bLen) (qp (dVar 0) aNil)) aNil))))) (gN 1) (sSeq (sAsg (dFn yM (qp (dVar 0) (qp (dVar 1) aNil))) (gN 2))
 (sSeq (sAsg (dFn wH (qp (dVar 2) aNil)) (gN 3))
 (sSeq (sAsg (dFn qY (qp (dVar 2) (qp (dVar 3) aNil))) (gN 4))
 (sSeq (sAsg (dFn wI (qp (dVar 3) (qp (dVar 4) aNil))) (gT 2 (yg (gN 5) (yg (gN 6) vR))))
 (sIf (xNot (xVal (dFn zu (qp (qei (dFn zH (qp (dVar 3) (qp (dVar 4) aNil)))) (qp (qei (dTup (qp (dBin 2 qa7 (dBin 2 uP (dVar 5) (dFn qZ (qp (dVar 3) (qp (dVar 4) aNil)))) (dC (.int 2))) (qp (dTmp (dVar 6)) aNil)))) aNil))))) (sRet (dC (.bl false))) sNil))))))
 (sRet (dC (.bl true))))
def qdz (script : (List Int)) (kr : Bool → Prop) : Prop :=
 (uf 0 (1 + (min 4 (script.length : Int)))) ∧
 forW (rng 0 (1 + (min 4 (script.length : Int)))) () (fun k' (s2 : Unit) kk9 => v7 script k' fun t10 =>
 yO t10 fun t11 =>
 yf t11.2 t11.1 fun t12 =>
 yP t11.1 t12.1 fun t13 =>
 xJ t11.1 t12.1 fun t14 =>
 yI (true, t11.1) t12.1 fun t15 =>
 v8 ((eT2 D.int (eL (eT4 D.int D.int D.int D.int))) t14) ((eT2 D.int (eL (eT4 D.int D.int D.int D.int))) (((t13.1 - t15) / 2), t13.2)) fun t18 =>
 ifP (!t18) (kr false) <|
 kk9 ()) fun s2 =>
 kr true
def JX : FS := mkS (α := (List Int)) (κ := Bool) [.cst] (fun a => [(eL D.int) a]) (fun a => qdz a) (fun r => D.bl r) fun a r => [(eL D.int) a]
theorem qiW : BodyOk JX 7 (qfg zu zH qZ wI qY wH yM) := by
 intro ds Q hl h
 obtain ⟨script, kr, rfl, h, q⟩ := h
 refine uF (e' := [_, _, _, _, _, _, _]) rfl ?_
 unfold qfg
 unfold qdz at h
 refine qU <| Q8 <| Xw <| qM <| c_C <| zj <| qb <| c_C <| qb <| zj <| qb <| ql rfl <| qw <| zg (.cons .cst .nil) Jg <| qw <| zg (.cons .tmp (.cons .tmp .nil)) qeP <| qL .tmp .tmp qX ?_
 obtain ⟨p1, h⟩ := h
 refine Y7 p1 ?_
 refine Qi (fI := D.int) (sh := fun (s2 : Unit) e => ∃ c3 c4 c5 c6 c7 c8 : Option (D × Md), (setS (some c3) = true ∧ setS (some c4) = true ∧ setS (some c5) = true ∧ setS (some c6) = true ∧ setS (some c7) = true ∧ setS (some c8) = true) ∧ e = [zS (eL D.int script), c3, c4, c5, c6, c7, c8]) h ⟨_, _, _, _, _, _, ⟨rfl, rfl, rfl, rfl, rfl, rfl⟩, rfl⟩ (fun k' ha s2 e hs kk9 nxkk9 hJ9 h => ?_) ?_
 ·skip
  obtain ⟨c3, c4, c5, c6, c7, c8, ⟨hc3, hc4, hc5, hc6, hc7, hc8⟩, rfl⟩ := hs
  refine g_n (e' := [_, _, _, _, _, _, _]) hc3 rfl (?_)
  refine qU <| s_asg <| c_fn <| qb <| ql rfl <| qb <| ql rfl <| qw ?_
  refine x_call (script, k') (fun t10 => [_, _, _, _, _, _, _]) h (.cons .cst (.cons .tmp .nil)) (qm qN (qm qN qO)) (wz (by rfl)) (fun _ => rfl) fun t10 h => ?_
  refine g_n (e' := [_, _, _, _, _, _, _]) hc4 rfl ?_
  refine qU <| s_asg <| c_fn <| qb <| ql rfl <| qw ?_
  refine x_call t10 (fun t11 => [_, _, zO (eP t11.2), _, _, _, _]) h (.cons .z .nil) (qm (by rfl) qO) (by rfl) (fun _ => rfl) fun t11 h => ?_
  refine g_n (e' := [_, _, _, _, _, _, _]) hc5 rfl ?_
  refine qU <| s_asg <| c_fn <| qb <| ql rfl <| qb <| ql rfl <| qw ?_
  refine x_call (t11.2, t11.1) (fun t12 => [_, _, zO (eP t12.2), _, _, _, _]) h (.cons .z (.cons .z .nil)) (qm (by rfl) (qm (yQ .z) qO)) (by rfl) (fun _ => rfl) fun t12 h => ?_
  refine g_n (e' := [_, _, _, _, _, _, _]) hc6 rfl ?_
  refine qU <| s_asg <| c_fn <| qb <| ql rfl <| qb <| ql rfl <| qw ?_
  refine x_call (t11.1, t12.1) (fun t13 => [_, _, _, _, _, _, _]) h (.cons .z (.cons .z .nil)) (qm (yQ .z) (qm (yQ .z) qO)) (wz (by rfl)) (fun _ => rfl) fun t13 h => ?_
  refine g_T (by rfl) (yH (g_n (e' := [_, _, _, _, _, _, _]) hc7 rfl (yH (g_n (e' := [_, _, _, _, _, _, _]) hc8 rfl (WK (?_))))))
  refine s_if <| qaC <| yC <| c_fn <| qb <| qe0 <| c_fn <| qb <| ql rfl <| qb <| ql rfl <| qw ?_
  refine x_call (t11.1, t12.1) (fun t14 => [_, _, _, _, _, _, _]) h (.cons .z (.cons .z .nil)) (qm (yQ .z) (qm (yQ .z) qO)) (wz (by rfl)) (fun _ => rfl) fun t14 h => ?_
  refine qeO .tmp (Im.im (f := (eT2 D.int (eF zB))) _) (qeD _) <| qb <| qe0 <| yL <| qb <| qM <| qM <| ql rfl <| c_fn <| qb <| ql rfl <| qb <| ql rfl <| qw ?_
  refine x_call ((true, t11.1), t12.1) (fun t15 => [_, _, _, _, _, _, _]) h (.cons .z (.cons .z .nil)) (qm (yQ .z) (qm (yQ .z) qO)) (wz (by rfl)) (fun _ => rfl) fun t15 h => ?_
  refine qL .tmp .tmp xg <| c_C <| qL .tmp .tmp (UG (show 0 < (2 : Int) ∧ (2 : Int) < 1073741824 by decide)) <| qb <| JP <| Wy (by rfl) rfl fun r16 hr17 => Jc hr17 (Im.im (f := (eF zB)) _) <| qw <| zM D.int (eF zB) ((t13.1 - t15) / 2) t13.2 (.cons .tmp (.cons .tmp .nil)) <| qeO .tmp (Im.im (f := (eT2 D.int (eF zB))) _) (qeD _) <| qw ?_
  refine x_call (((eT2 D.int (eL zB)) t14), ((eT2 D.int (eL zB)) (((t13.1 - t15) / 2), t13.2))) (fun t18 => [_, _, _, _, _, _, _]) h (.cons .cst (.cons .cst .nil)) (qm qN (qm qN qO)) (wz (by rfl)) (fun _ => rfl) fun t18 h => ?_
  refine yz .tmp tr_b ?_
  refine jD h (fun hb h => ?_) (fun hb h => ?_)
  ·skip
   refine s_ret <| c_C <| jC <| wM ?_
   exact q false h
  refine Qh ?_
  exact hJ9 () _ ⟨_, _, _, _, _, _, ⟨rfl, rfl, rfl, rfl, rfl, rfl⟩, rfl⟩ h
 rintro s2 e hs h
 obtain ⟨c3, c4, c5, c6, c7, c8, ⟨hc3, hc4, hc5, hc6, hc7, hc8⟩, rfl⟩ := hs
 refine wM <| s_ret <| c_C <| jC ?_
 exact q true h
end K33
namespace BC
open PySem PySem.Spec PyProof.Rows L2 BX TX COM
end BC
namespace BC
open PySem PySem.Spec PyProof.Rows L2 BX TX COM
end BC
namespace BC
open PySem PySem.Spec PyProof.Rows L2 BX TX COM
def nb (b w : C2) : C2 := (b.1 + w.1, b.2 + w.2)
inductive Rch (S : C2 → Prop) (ways : List C2) (a : C2) : C2 → Prop
 | here : Rch S ways a a
 | step {b w : C2} : Rch S ways a b → w ∈ ways → S (nb b w) → Rch S ways a (nb b w)
theorem Rch.in {S : C2 → Prop} {ways : List C2} {a c : C2} (h : Rch S ways a c) (ha : S a) : S c := by
 cases h with
 | here => exact ha
 | step _ _ s => exact s
noncomputable def rB (ways S : List C2) (a c : C2) : Bool := @decide (Rch (· ∈ S) ways a c) (Classical.propDecidable _)
noncomputable def comp (ways S : List C2) (a : C2) : List C2 := srt tl2 (S.filter fun c => rB ways S a c)
theorem Jl {p q : C2} : Yg p q = true ↔ ltC p q := by
 unfold Yg ltC
 split <;> simp <;> omega
theorem qcv : ∀ (ps : List C2) (p : C2), minP p ps ∈ p :: ps ∧ ∀ c ∈ p :: ps, c = minP p ps ∨ ltC (minP p ps) c
 | [], p => ⟨by simp [minP], fun c hc => .inl (by simpa [minP] using hc)⟩
 | q :: ps, p => by
   have e : minP p (q :: ps) = minP (if Yg q p = true then q else p) ps := rfl
   rw [e]
   obtain ⟨h1, h2⟩ := qcv ps (if Yg q p = true then q else p)
   generalize minP (if Yg q p = true then q else p) ps = m at h1 h2 ⊢
   by_cases hl : Yg q p = true
   ·rw [if_pos hl] at h1 h2
    refine ⟨List.mem_cons_of_mem _ h1, fun c hc => ?_⟩
    rcases List.mem_cons.mp hc with rfl | hc
    ·rw [Jl] at hl
     rcases h2 q (List.mem_cons_self ..) with rfl | h
     ·exact .inr hl
     ·exact .inr (qcx h hl)
    ·exact h2 c hc
   ·rw [if_neg hl] at h1 h2
    refine ⟨by rcases List.mem_cons.mp h1 with rfl | h; exact List.mem_cons_self ..; exact List.mem_cons_of_mem _ (List.mem_cons_of_mem _ h), fun c hc => ?_⟩
    rcases List.mem_cons.mp hc with rfl | hc
    ·exact h2 c (List.mem_cons_self ..)
    ·rcases List.mem_cons.mp hc with rfl | hc
     ·have hp := h2 p (List.mem_cons_self ..)
      rw [Jl] at hl
      by_cases ec : c = m
      ·exact .inl ec
      ·refine .inr ?_
       rcases hp with rfl | hp
       ·unfold ltC at hl ⊢
        have : ¬ (c.1 = p.1 ∧ c.2 = p.2) := fun z => ec (Prod.ext z.1 z.2)
        omega
       ·unfold ltC at hl hp ⊢
        omega
     ·exact h2 c (List.mem_cons_of_mem _ hc)
def minC : List C2 → Option C2
 | [] => none
 | p :: ps => some (minP p ps)
theorem qdV {α : Type} {l : List (C2 × α)} : qfM l = minC (l.map (·.1)) := by cases l <;> rfl
theorem qd1 {a b : C2} (h : ltC a b) (h' : ltC b a) : False := by unfold ltC at *; omega
theorem qfN {S : List C2} {m : C2} (h : m ∈ S) (h2 : ∀ c ∈ S, c = m ∨ ltC m c) : minC S = some m := by
 cases S with
 | nil => cases h
 | cons p ps =>
   obtain ⟨h3, h4⟩ := qcv ps p
   show some _ = _
   congr 1
   rcases h4 m h with e | e
   ·exact e.symm
   ·rcases h2 _ h3 with e2 | e2
    ·exact e2
    ·exact (qd1 e e2).elim
theorem Jf {m S : List C2} (nm : m.Nodup) (h : ∀ c ∈ m, c ∈ S) : m.length ≤ S.length := nm.length_le_of_subset h
structure Sp (ways S : List C2) (a : C2) (M W : List C2) (ex : C2 → Prop) : Prop where
 nd : M.Nodup
 st : a ∈ M
 sub : ∀ c ∈ M, Rch (· ∈ S) ways a c
 wt : ∀ c ∈ W, c ∈ M
 ok : ∀ c ∈ M, c ∈ W ∨ ex c ∨ ∀ w ∈ ways, nb c w ∈ S → nb c w ∈ M
theorem Sp.len {ways S : List C2} {a : C2} {M W : List C2} {ex : C2 → Prop} (h : Sp ways S a M W ex) (ha : a ∈ S) : M.length ≤ S.length := Jf h.nd fun c hc => (h.sub c hc).in ha
end BC
namespace BC
open PySem PySem.Spec PyProof.Rows L2 BX TX COM
end BC
namespace BC
open PySem PySem.Spec PyProof.Rows L2 BX TX COM
def wO (there : (List ((Int × Int) × Bool))) (x : Int) (y : Int) (kr : (List (Int × Int × Int × Int)) → Prop) : Prop :=
 lt (([] : List (Int × Int × Int × Int)) : (List (Int × Int × Int × Int))) fun found =>
 whW (found, (99, 0).1, (99, 0).2) fun (s1 : ((List (Int × Int × Int × Int)) × Int × Int)) kk2 =>
 ifP (decide (0 < s1.2.1)) (whW 0 fun (tall : Int) kk3 =>
 ifP ((decide (tall < s1.2.1)) && (hasA there ((x + s1.2.2), (y + tall)))) (lt ((tall + 1) : Int) fun tall =>
 kk3 tall) <|
 (uf 1 (tall + 1)) ∧
 ((rng 1 (tall + 1)).length ≤ sizeLine) ∧
 (s1.1.length + ((rng 1 (tall + 1)).map (fun high => (x, y, (tall, (s1.2.2 + 1)).2, high))).length ≤ sizeLine) ∧
 lt (s1.1 ++ ((rng 1 (tall + 1)).map (fun high => (x, y, (tall, (s1.2.2 + 1)).2, high)))) fun found =>
 kk2 (found, (tall, (s1.2.2 + 1)).1, (tall, (s1.2.2 + 1)).2)) <|
 kr s1.1
end BC
namespace BC
open PySem PySem.Spec PyProof.Rows L2 BX TX COM
def PB (p : C2 → Bool) : Prop := ∀ x y, p (x, y) = true → (0 ≤ x ∧ x ≤ 60) ∧ 0 ≤ y ∧ y ≤ 60
def up (p : C2 → Bool) : Nat → Int → Int → Int
 | 0, _, _ => 0
 | n + 1, x, y => if p (x, y) then 1 + up p n x (y + 1) else 0
theorem qgU {p : C2 → Bool} (hp : PB p) : ∀ (n : Nat) (x y : Int), 60 < y + n → up p n x y = up p (n + 1) x y
 | 0, x, y, h => by
   rw [up, up]
   have : p (x, y) = false := by
    cases e : p (x, y) with
    | false => rfl
    | true => have := hp _ _ e; omega
   rw [this]; rfl
 | n + 1, x, y, h => by
   show (if p (x, y) then 1 + up p n x (y + 1) else 0) = if p (x, y) then 1 + up p (n + 1) x (y + 1) else 0
   rw [qgU hp n x (y + 1) (by omega)]
def U (p : C2 → Bool) (x y : Int) : Int := up p 64 x y
theorem qdn {p : C2 → Bool} (hp : PB p) {x y : Int} (hy : -2 ≤ y) : U p x y = if p (x, y) then 1 + U p x (y + 1) else 0 := by
 show up p (63 + 1) x y = _
 rw [up, qgU hp 63 x (y + 1) (by omega)]
 rfl
theorem qgV {p : C2 → Bool} : ∀ (n : Nat) (x y : Int), 0 ≤ up p n x y ∧ up p n x y ≤ n
 | 0, x, y => by rw [up]; omega
 | n + 1, x, y => by
   have := qgV (p := p) n x (y + 1)
   rw [up]; split <;> omega
theorem U_nn {p : C2 → Bool} {x y : Int} : 0 ≤ U p x y ∧ U p x y ≤ 64 := qgV 64 x y
theorem U_pos {p : C2 → Bool} (hp : PB p) {x y : Int} (hy : -2 ≤ y) : 1 ≤ U p x y ↔ p (x, y) = true := by
 rw [qdn hp hy]
 have := U_nn (p := p) (x := x) (y := y + 1)
 constructor
 ·intro h
  cases e : p (x, y) with
  | true => rfl
  | false => rw [e] at h; simp at h
 ·intro h; rw [h]; simp; omega
def pR (r : List C2) : C2 → Bool := fun c => decide (c ∈ r)
theorem pR_b {r : List C2} (h : xQ r) : PB (pR r) := fun x y e => h.2.2 _ (of_decide_eq_true e)
def Tall (r : List C2) (tall : List (C2 × Int)) : Prop := ∀ c, getA tall c = if c ∈ r then some (U (pR r) c.1 c.2) else none
theorem Tall.has {r : List C2} {tall : List (C2 × Int)} (h : Tall r tall) (c : C2) : hasA tall c = pR r c := by
 rw [vQ, h c]
 unfold pR
 split <;> simp [*]
theorem Tall.get {r : List C2} {tall : List (C2 × Int)} (h : Tall r tall) (hr : xQ r) {x y : Int} (hy : -2 ≤ y) : (getA tall (x, y)).getD 0 = U (pR r) x y := by
 rw [h (x, y)]
 by_cases e : (x, y) ∈ r
 ·rw [if_pos e]; rfl
 ·rw [if_neg e, qdn (pR_b hr) hy]
  have : pR r (x, y) = false := decide_eq_false e
  rw [this]; rfl
end BC
namespace BC
open PySem PySem.Spec PyProof.Rows L2 BX TX COM
def bAt (p : C2 → Bool) : Nat → Int → Int → Int → Int → List B4
 | 0, _, _, _, _ => []
 | n + 1, x, y, w, m => if 0 < m then ((rng 1 (min m (U p (x + w) y) + 1)).map fun h => (x, y, w + 1, h)) ++ bAt p n x y (w + 1) (min m (U p (x + w) y)) else []
theorem qdi {p : C2 → Bool} : ∀ (n : Nat) (x y w m : Int), (bAt p n x y w m).length ≤ 64 * n
 | 0, _, _, _, _ => Nat.le_refl _
 | n + 1, x, y, w, m => by
   have := qdi (p := p) n x y (w + 1) (min m (U p (x + w) y))
   have u := U_nn (p := p) (x := x + w) (y := y)
   rw [bAt]
   split
   ·rw [List.length_append, List.length_map, yu]; omega
   ·simp
theorem qe3 {p : C2 → Bool} {n : Nat} {x y w m : Int} (e : ¬ 0 < m) : bAt p n x y w m = [] := by
 cases n with
 | zero => rfl
 | succ n => rw [bAt, if_neg e]
theorem qbl {r : List C2} {there : List (C2 × Bool)} {x y : Int} {kr : List B4 → Prop} (hr : xQ r) (ht : ∀ c, hasA there c = pR r c) (hx : 0 ≤ x) (hy : 0 ≤ y ∧ y ≤ 60) (N : Nat) (hN : (N : Int) = 100) (hk : kr (bAt (pR r) N x y 0 99)) : wO there x y kr := by
 unfold wO
 have pb := pR_b hr
 simp only [lt]
 refine ⟨fun m s => s.1 ++ bAt (pR r) m x y s.2.2 s.2.1 = bAt (pR r) N x y 0 99 ∧ (m : Int) = 100 - s.2.2 ∧ 0 ≤ s.2.2 ∧ s.1.length ≤ 64 * s.2.2.toNat ∧ (s.2.1 ≤ 99) ∧ (0 < s.2.1 → x + s.2.2 ≤ 61 ∨ s.2.2 = 0), ⟨N, by simp only [List.nil_append], by simp only; omega, by simp only; omega, by simp, by simp only; omega, fun _ => .inr rfl⟩, ?_⟩
 rintro m ⟨found, most, wide⟩ ⟨h1, h2, h3, h4, h5, h6⟩
 simp only at h1 h2 h3 h4 h5 h6
 refine ⟨fun hm => ?_, fun hm => ?_⟩
 ·have hm : 0 < most := of_decide_eq_true hm
  obtain ⟨m, rfl⟩ : ∃ m', m = m' + 1 := ⟨m - 1, by have := h6 hm; omega⟩
  rw [bAt, if_pos hm] at h1
  refine ⟨fun j tall => (j : Int) = most - tall ∧ 0 ≤ tall ∧ min most (tall + U (pR r) (x + wide) (y + tall)) = min most (U (pR r) (x + wide) y), ⟨most.toNat, by omega, by omega, by simp⟩, ?_⟩
  rintro j tall ⟨j1, j2, j3⟩
  rw [ht]
  refine ⟨fun hb => ?_, fun hb => ?_⟩
  ·rw [Bool.and_eq_true, decide_eq_true_eq] at hb
   obtain ⟨hb1, hb2⟩ := hb
   have hb1 : tall < most := hb1
   refine ⟨j - 1, by omega, by omega, by omega, ?_⟩
   have hb2 : pR r (x + wide, y + tall) = true := hb2
   rw [qdn pb (by omega), hb2, if_pos rfl] at j3
   rw [← j3]
   congr 1
   rw [show y + (tall + 1) = y + tall + 1 by omega]; omega
  ·rw [Bool.and_eq_false_iff] at hb
   have et : tall = min most (U (pR r) (x + wide) y) := by
    have u0 := U_nn (p := pR r) (x := x + wide) (y := y + tall)
    rcases hb with hb | hb
    ·have : ¬ tall < most := of_decide_eq_false hb
     rw [← j3]; omega
    ·have hb : pR r (x + wide, y + tall) = false := hb
     have : ¬ 1 ≤ U (pR r) (x + wide) (y + tall) := fun z => by rw [(U_pos pb (by omega)).mp z] at hb; cases hb
     have u00 : U (pR r) (x + wide) (y + tall) = 0 := by omega
     rw [u00] at j3
     have : tall ≤ most := by omega
     omega
   have u := U_nn (p := pR r) (x := x + wide) (y := y)
   have hw := h6 hm
   have w61 : wide ≤ 61 := by omega
   simp only
   rw [et]
   refine ⟨uY (by omega) (by omega) (by omega) (by omega), by rw [yu, sz]; omega, by rw [List.length_map, yu, sz]; omega, ?_⟩
   refine ⟨m, by omega, by rw [List.append_assoc]; exact h1, by omega, by omega, ?_, by omega, fun z => ?_⟩
   ·simp only [List.length_append, List.length_map, yu]; omega
   ·have : 1 ≤ U (pR r) (x + wide) y := by omega
    have := pb _ _ ((U_pos pb (by omega)).mp this)
    omega
 ·have hm : ¬ 0 < most := of_decide_eq_false hm
  rw [qe3 hm, List.append_nil] at h1
  rw [h1]; exact hk
theorem Vb {p : C2 → Bool} (pb : PB p) : ∀ (n : Nat) (x y w m : Int) (b : B4), -2 ≤ y → 0 ≤ x → 0 ≤ w → 100 ≤ (n : Int) + w → (b ∈ bAt p n x y w m ↔ b.1 = x ∧ b.2.1 = y ∧ w < b.2.2.1 ∧ 1 ≤ b.2.2.2 ∧ b.2.2.2 ≤ m ∧ ∀ i, w ≤ i → i < b.2.2.1 → b.2.2.2 ≤ U p (x + i) y)
 | 0, x, y, w, m, b, hy, hx, hw, hn => by
   rw [bAt]
   constructor
   ·intro h; simp at h
   ·rintro ⟨h1, h2, h3, h4, h5, h6⟩
    have := h6 w (Int.le_refl _) h3
    have := pb _ _ ((U_pos pb hy).mp (by omega : 1 ≤ U p (x + w) y))
    omega
 | n + 1, x, y, w, m, b, hy, hx, hw, hn => by
   rw [bAt]
   by_cases hm : 0 < m
   ·rw [if_pos hm, List.mem_append, Vb pb n x y (w + 1) _ b hy hx (by omega) (by omega), List.mem_map]
    constructor
    ·rintro (⟨h, hh, rfl⟩ | ⟨h1, h2, h3, h4, h5, h6⟩)
     ·rw [Xa] at hh
      refine ⟨rfl, rfl, by simp only; omega, by simp only; omega, by simp only; omega, fun i hi hi2 => ?_⟩
      simp only at hi2 ⊢
      have : i = w := by omega
      subst this; omega
     ·refine ⟨h1, h2, by omega, h4, by omega, fun i hi hi2 => ?_⟩
      by_cases e : i = w
      ·subst e; omega
      ·exact h6 i (by omega) hi2
    ·rintro ⟨h1, h2, h3, h4, h5, h6⟩
     have hw0 := h6 w (Int.le_refl _) h3
     by_cases e : b.2.2.1 = w + 1
     ·refine .inl ⟨b.2.2.2, Xa.mpr (by omega), ?_⟩
      obtain ⟨b1, b2, b3, b4⟩ := b
      simp only at h1 h2 e
      subst h1; subst h2; subst e; rfl
     ·exact .inr ⟨h1, h2, by omega, h4, by omega, fun i hi hi2 => h6 i (by omega) hi2⟩
   ·rw [if_neg hm]
    constructor
    ·intro h; simp at h
    ·rintro ⟨h1, h2, h3, h4, h5, h6⟩; omega
end BC
namespace BC
open PySem PySem.Spec PyProof.Rows L2 BX TX COM
end BC
namespace K33
open PySem PySem.Spec PyProof.Rows L2 BX TX COM BC
def gI (l : List Int) (i : Int) : Int := l.getD i.toNat 0
theorem qex {l : List Int} {i : Int} (h0 : 0 ≤ i) (h1 : i < l.length) : atI l i = some (gI l i) := by
 have e : i = ((i.toNat : Nat) : Int) := by omega
 have hl : i.toNat < l.length := by omega
 rw [e]
 refine atI_nat ?_
 unfold gI
 rw [Int.toNat_natCast, List.getD_eq_getElem?_getD, List.getElem?_eq_getElem hl]
 rfl
structure MOk (r : List C2) (w h : List Int) : Prop where
 lw : w.length ≤ 100
 lh : h.length ≤ 100
 bw : ∀ x ∈ w, 0 ≤ x ∧ x ≤ 1000
 bh : ∀ x ∈ h, 0 ≤ x ∧ x ≤ 1000
 all : ∀ c ∈ r, (0 ≤ c.1 ∧ c.1 < w.length) ∧ 0 ≤ c.2 ∧ c.2 < h.length
theorem qed {l : List Int} (h : ∀ x ∈ l, 0 ≤ x ∧ x ≤ 1000) {i : Int} (h0 : 0 ≤ i) (h1 : i < l.length) : 0 ≤ gI l i ∧ gI l i ≤ 1000 := by
 have hl : i.toNat < l.length := by omega
 unfold gI
 rw [List.getD_eq_getElem?_getD, List.getElem?_eq_getElem hl]
 exact h _ (List.getElem_mem hl)
def term (r : List C2) (w h : List Int) (c : C2) : Int :=
 gI h c.2 * intB (!memB (c.1 - 1, c.2) r) + gI h c.2 * intB (!memB (c.1 + 1, c.2) r) + gI w c.1 * intB (!memB (c.1, c.2 - 1) r) + gI w c.1 * intB (!memB (c.1, c.2 + 1) r)
def ue (r : List C2) (w h : List Int) : Int := (r.map (term r w h)).sum
theorem qaj {i j : Int} (h0 : 0 ≤ i) (h1 : i ≤ 1000) : IntMulOk i j := Wc (by omega) (by omega)
theorem Xy {r : List C2} {w h : List Int} {kr : Int → Prop} (hl : r.length ≤ 1000) (hm : MOk r w h) (hk : kr (ue r w h)) : ye r [w, h] kr := by
 unfold ye je
 simp only [lt]
 refine ⟨by rw [sz]; omega, jf (fun p s => s = (p.map (term r w h)).sum) rfl ?_ ?_⟩
 ·rintro p c q s kk e rfl hkk
  have hc : c ∈ r := by rw [e]; simp
  obtain ⟨a, b⟩ := hm.all c hc
  refine ⟨w, rfl, _, qex a.1 a.2, h, rfl, _, qex b.1 b.2, by rw [sz]; simp, hkk _ ?_⟩
  rw [List.map_append, List.sum_append]
  congr 1
  simp only [List.filter_cons, List.filter_nil, QM]
  show _ = term r w h c + 0
  unfold term
  cases memB (c.1 - 1, c.2) r <;> cases memB (c.1 + 1, c.2) r <;> cases memB (c.1, c.2 - 1) r <;> cases memB (c.1, c.2 + 1) r <;> simp [intB] <;> omega
 ·rintro s rfl
  exact hk
theorem Wu {b : Bool} {r : List C2} {w h : List Int} {kr : Int → Prop} (hl : r.length ≤ 1000) (hm : MOk r w h) (hk : kr (ue r w h)) : yI (b, r) [w, h] kr := by
 unfold yI
 simp only [lt]
 refine ⟨by rw [sz]; omega, jf (fun p s => s = (p.map (term r w h)).sum) rfl ?_ ?_⟩
 ·rintro p c q s kk e rfl hkk
  have hc : c ∈ r := by
   have e : r = p ++ c :: q := e
   rw [e]; simp
  obtain ⟨a, b⟩ := hm.all c hc
  have bw := qed hm.bw a.1 a.2
  have bh := qed hm.bh b.1 b.2
  refine ⟨h, rfl, _, qex b.1 b.2, w, rfl, _, qex a.1 a.2, qaj bh.1 bh.2, qaj bh.1 bh.2, qaj bw.1 bw.2, qaj bw.1 bw.2, hkk _ ?_⟩
  rw [List.map_append, List.sum_append, QM, QM, QM, QM]
  show _ = _ + (term r w h c + 0)
  unfold term
  omega
 ·rintro s rfl
  exact hk
def cb (b : B4) : List C2 := j7 b.1 b.2.1 b.2.2.1 b.2.2.2
theorem YG {b : B4} {kr : List C2 → Prop} (h1 : 0 ≤ b.1 ∧ b.1 ≤ 60) (h2 : 0 ≤ b.2.1 ∧ b.2.1 ≤ 60) (h3 : 0 ≤ b.2.2.1 ∧ b.2.2.1 ≤ 1000) (h4 : 0 ≤ b.2.2.2 ∧ b.2.2.2 ≤ 1000) (hk : kr (cb b)) : jF b kr := by
 have col : ∀ p : List Int, p.length ≤ 1000 → (p.flatMap fun x => (rng b.2.1 (b.2.1 + b.2.2.2)).map fun y => (x, y)).length ≤ p.length * 1000 := fun p => by
  induction p with
  | nil => intro _; simp
  | cons x p ih =>
    intro h
    rw [List.length_cons] at h
    have := ih (by omega)
    rw [List.flatMap_cons, List.length_append, List.length_map, yu, List.length_cons]
    omega
 have e : (rng b.1 (b.1 + b.2.2.1)).flatMap (fun x => (rng b.2.1 (b.2.1 + b.2.2.2)).map fun y => (x, y)) = cb b := by
  unfold cb j7
  have sh : ∀ u v : Int, rng u (u + v) = (rng 0 v).map fun i => u + i := fun u v => by
   unfold rng
   rw [List.map_map, show u + v - u = v - 0 by omega]
   exact List.map_congr_left fun n _ => by simp
  rw [sh b.1, List.flatMap_map]
  congr 1
  funext i
  rw [sh b.2.1, List.map_map]; rfl
 unfold jF
 simp only [lt]
 refine ⟨uY (by omega) (by omega) (by omega) (by omega), jf (fun p found => found = p.flatMap fun x => (rng b.2.1 (b.2.1 + b.2.2.2)).map fun y => (x, y)) rfl ?_ fun s hs => ?_⟩
 ·rintro p x q s kk e2 rfl hkk
  have hp : p.length + 1 ≤ 1000 := by
   have h := congrArg List.length e2
   rw [yu] at h
   simp at h; omega
  have := col p (by omega)
  refine ⟨uY (by omega) (by omega) (by omega) (by omega), by rw [yu, sz]; omega, ?_, hkk _ (by simp)⟩
  rw [List.length_map, yu, sz]; omega
 ·rw [hs, e]; exact hk
theorem U_le {p : C2 → Bool} (hp : PB p) {x : Int} : ∀ (n : Nat) {y : Int}, -2 ≤ y → ((n : Int) ≤ U p x y ↔ ∀ j, 0 ≤ j → j < (n : Int) → p (x, y + j) = true)
 | 0, y, hy => by
   have := (U_nn (p := p) (x := x) (y := y)).1
   exact ⟨fun _ j h1 h2 => by omega, fun _ => by simpa using this⟩
 | n + 1, y, hy => by
   have ih := U_le hp (x := x) n (y := y + 1) (by omega)
   rw [qdn hp hy]
   by_cases h : p (x, y) = true
   ·rw [if_pos h]
    constructor
    ·intro g j h1 h2
     by_cases z : j = 0
     ·rw [z, Int.add_zero]; exact h
     ·have := ih.mp (by omega) (j - 1) (by omega) (by omega)
      rwa [show y + 1 + (j - 1) = y + j by omega] at this
    ·intro g
     have := ih.mpr fun j h1 h2 => by
      have := g (j + 1) (by omega) (by omega)
      rwa [show y + (j + 1) = y + 1 + j by omega] at this
     omega
   ·rw [if_neg h]
    constructor
    ·intro g; omega
    ·intro g
     have := g 0 (by omega) (by omega)
     rw [Int.add_zero] at this
     exact absurd this h
theorem qes (b : B4) : (cb b).Nodup := Zh (ZM ..)
theorem MOk.sub {r s : List C2} {w h : List Int} (m : MOk r w h) (k : ∀ c ∈ s, c ∈ r) : MOk s w h := ⟨m.lw, m.lh, m.bw, m.bh, fun c hc => m.all c (k c hc)⟩
theorem qew {p : C2 → Bool} {n : Nat} {x y w m m' : Int} (h : 0 < m) (h' : 0 < m') (e : min m (U p (x + w) y) = min m' (U p (x + w) y)) : bAt p (n + 1) x y w m = bAt p (n + 1) x y w m' := by
 rw [bAt, bAt, if_pos h, if_pos h', e]
theorem qiX {r : List C2} (hr : xQ r) {c : C2} (hc : c ∈ r) : U (pR r) c.1 c.2 ≤ (r.length : Int) := by
 have pb := pR_b hr
 have u := U_nn (p := pR r) (x := c.1) (y := c.2)
 have bd := hr.2.2 c hc
 have all := (U_le pb (x := c.1) (U (pR r) c.1 c.2).toNat (y := c.2) (by omega)).mp (by omega)
 have sub : ∀ d ∈ cb (c.1, c.2, 1, U (pR r) c.1 c.2), d ∈ r := fun d hd => by
  obtain ⟨⟨h1, h2⟩, h3, h4⟩ := uE.mp hd
  dsimp only at h1 h2 h3 h4
  have := all (d.2 - c.2) (by omega) (by omega)
  rw [show c.2 + (d.2 - c.2) = d.2 by omega, show c.1 = d.1 by omega] at this
  exact of_decide_eq_true this
 have l1 := Jf (qes _) sub
 have l2 := ZP (x := c.1) (y := c.2) (w := 1) (h := U (pR r) c.1 c.2) (by decide) u.1
 have l2 : ((cb (c.1, c.2, 1, U (pR r) c.1 c.2)).length : Int) = 1 * U (pR r) c.1 c.2 := l2
 omega
def BL (r : List C2) (c : C2) : List B4 := bAt (pR r) 100 c.1 c.2 0 99
theorem JR {r : List C2} {there : List (C2 × Bool)} {c : C2} {kr : List B4 → Prop} (hr : xQ r) (hl : there.length = r.length) (ht : ∀ c, hasA there c = pR r c) (hc : c ∈ r) (hk : kr (BL r c)) : jh there c kr := by
 unfold jh
 have pb := pR_b hr
 have bd := hr.2.2 c hc
 have lr := hr.2.1
 have l0 : 0 < r.length := List.length_pos_of_mem hc
 have ul := qiX hr hc
 have u0 := U_nn (p := pR r) (x := c.1) (y := c.2)
 obtain ⟨x, y⟩ := c
 dsimp only at bd ul u0 ⊢
 have start : bAt (pR r) 100 x y 0 (r.length : Int) = BL r (x, y) := by
  unfold BL
  dsimp only
  refine qew (n := 99) (by omega) (by decide) ?_
  rw [Int.add_zero]
  omega
 simp only [lt]
 refine ⟨fun m s => s.2.1 ++ bAt (pR r) m x y (s.2.2 - 1) s.1 = BL r (x, y) ∧ (m : Int) = 101 - s.2.2 ∧ 1 ≤ s.2.2 ∧ s.2.1.length ≤ 64 * s.2.2.toNat ∧ s.1 ≤ 1000 ∧ (0 < s.1 → x + s.2.2 ≤ 62 ∨ s.2.2 = 1), ⟨100, ?_, by simp only; omega, by simp only; omega, by simp, by simp only; omega, fun _ => .inr rfl⟩, ?_⟩
 ·simp only [List.nil_append, hl]
  exact start
 rintro m ⟨most, found, wide⟩ ⟨h1, h2, h3, h4, h5, h6⟩
 simp only at h1 h2 h3 h4 h5 h6
 have uw := U_nn (p := pR r) (x := x + (wide - 1)) (y := y)
 rw [ht]
 refine ⟨fun hm => ?_, fun hm => ?_⟩
 ·rw [Bool.and_eq_true, decide_eq_true_eq] at hm
  obtain ⟨hm, hin⟩ := hm
  have hm : 0 < most := hm
  have w6 := h6 hm
  obtain ⟨m, rfl⟩ : ∃ m', m = m' + 1 := ⟨m - 1, by omega⟩
  rw [bAt, if_pos hm] at h1
  have hin : pR r (x + (wide - 1), y) = true := by rw [show x + (wide - 1) = x + wide - 1 by omega]; exact hin
  have xb := pb _ _ hin
  refine ⟨fun j s => (j : Int) = most + 1 - s.2 ∧ 1 ≤ s.2 ∧ min most (s.2 - 1 + U (pR r) (x + (wide - 1)) (y + (s.2 - 1))) = min most (U (pR r) (x + (wide - 1)) y) ∧ s.2 - 1 ≤ most ∧ s.1 = found ++ (rng 1 s.2).map fun h => (x, y, wide, h), ⟨most.toNat, by simp only; omega, by simp only; omega, by simp only; rw [Int.sub_self, Int.add_zero, Int.zero_add], by simp only; omega, by simp [qbV]⟩, ?_⟩
  rintro j ⟨fd, high⟩ ⟨j1, j2, j3, j4, j5⟩
  simp only at j1 j2 j3 j4 j5
  rw [ht]
  have u00 := U_nn (p := pR r) (x := x + (wide - 1)) (y := y + (high - 1))
  have hh : high - 1 ≤ 64 := by omega
  have fl : fd.length ≤ 64 * wide.toNat + 64 := by
   rw [j5, List.length_append, List.length_map, yu]
   omega
  refine ⟨fun hb => ?_, fun hb => ?_⟩
  ·rw [Bool.and_eq_true, decide_eq_true_eq] at hb
   obtain ⟨hb1, hb2⟩ := hb
   have hb1 : high ≤ most := hb1
   have hb2 : pR r (x + (wide - 1), y + (high - 1)) = true := by
    rw [show x + (wide - 1) = x + wide - 1 by omega, show y + (high - 1) = y + high - 1 by omega]; exact hb2
   refine ⟨by rw [sz]; simp only; omega, j - 1, by omega, by simp only; omega, by simp only; omega, ?_, by simp only; omega, ?_⟩
   ·simp only
    rw [qdn pb (by omega), hb2, if_pos rfl] at j3
    rw [← j3, show y + (high + 1 - 1) = y + (high - 1) + 1 by omega]
    congr 1
    omega
   ·simp only
    rw [j5, qdG (by omega), List.map_append, List.append_assoc]
    rfl
  ·rw [Bool.and_eq_false_iff] at hb
   have et : high - 1 = min most (U (pR r) (x + (wide - 1)) y) := by
    rcases hb with hb | hb
    ·have : ¬ high ≤ most := of_decide_eq_false hb
     rw [← j3]; omega
    ·have hb : pR r (x + (wide - 1), y + (high - 1)) = false := by
      rw [show x + (wide - 1) = x + wide - 1 by omega, show y + (high - 1) = y + high - 1 by omega]; exact hb
     have : ¬ 1 ≤ U (pR r) (x + (wide - 1)) (y + (high - 1)) := fun z => by rw [(U_pos pb (by omega)).mp z] at hb; cases hb
     have u00 : U (pR r) (x + (wide - 1)) (y + (high - 1)) = 0 := by omega
     rw [u00] at j3
     omega
   simp only
   refine ⟨m, by omega, ?_, by omega, by omega, by omega, by omega, fun z => by omega⟩
   have e1 : high = min most (U (pR r) (x + (wide - 1)) y) + 1 := by omega
   rw [j5, List.append_assoc, ← h1, show wide + 1 - 1 = wide - 1 + 1 by omega, et]
   congr 2
   rw [e1, show wide - 1 + 1 = wide by omega]
 ·simp only
  have e : bAt (pR r) m x y (wide - 1) most = [] := by
   cases m with
   | zero => rfl
   | succ m =>
     by_cases hp : 0 < most
     ·have hin : pR r (x + wide - 1, y) = false := by
       rw [Bool.and_eq_false_iff] at hm
       rcases hm with z | z
       ·exact absurd hp (of_decide_eq_false z)
       ·exact z
      have : ¬ 1 ≤ U (pR r) (x + (wide - 1)) y := fun z => by
       have := (U_pos pb (by omega)).mp z
       rw [show x + (wide - 1) = x + wide - 1 by omega, hin] at this
       cases this
      have uz : U (pR r) (x + (wide - 1)) y = 0 := by omega
      rw [bAt, if_pos hp, uz, show min most (0 : Int) = 0 by omega, qe3 (by decide)]
      simp [qbV]
     ·rw [bAt, if_neg hp]
  rw [e, List.append_nil] at h1
  rw [h1]; exact hk
end K33
namespace K33
open PySem PySem.Spec PyProof.Rows L2 BX TX COM BC
def hasB (b : B4) (c : C2) : Bool := ((decide (0 ≤ (c.1 - b.1))) && (decide ((c.1 - b.1) < b.2.2.1))) && ((decide (0 ≤ (c.2 - b.2.1))) && (decide ((c.2 - b.2.1) < b.2.2.2)))
theorem qjr {b : B4} {c : C2} {kr : Bool → Prop} (hk : kr (hasB b c)) : xZ b c kr := hk
theorem qhy {b : B4} {c : C2} : memB c (cb b) = hasB b c := by
 rw [Bool.eq_iff_iff, qdY]
 unfold cb hasB
 rw [uE]
 simp only [Bool.and_eq_true, decide_eq_true_eq]
 constructor
 ·rintro ⟨⟨a, b⟩, c, d⟩; omega
 ·rintro ⟨⟨a, b⟩, c, d⟩; omega
def jO (b : B4) (l : List C2) : List C2 := l.filter fun c => !hasB b c
def pick (a : BS) : List BS → BS
 | [] => a
 | y :: l => pick (if y.1 < a.1 then y else a) l
def ext (w h : List Int) (g : List C2 → BS) (l : List C2) (b : B4) : BS := ((g (jO b l)).1 + ue (cb b) w h, b :: (g (jO b l)).2)
def best (w h : List Int) (g : List C2 → BS) (l : List C2) : BS := match l with
 | [] => (0, [])
 | c :: m => match (BL (c :: m) c).map (ext w h g (c :: m)) with
   | [] => (0, [])
   | a :: k => pick a k
def GN (w h : List Int) : Nat → List C2 → BS
 | 0, _ => (0, [])
 | n + 1, l => best w h (GN w h n) l
def G (w h : List Int) (l : List C2) : BS := GN w h l.length l
section
variable {w h : List Int} {r : List C2}
theorem qbt {c : C2} (hr : xQ r) (hc : c ∈ r) {b : B4} (hb : b ∈ BL r c) : (b.1 = c.1 ∧ b.2.1 = c.2) ∧ (1 ≤ b.2.2.1 ∧ b.2.2.1 ≤ 61) ∧ (1 ≤ b.2.2.2 ∧ b.2.2.2 ≤ 64) ∧ ∀ d ∈ cb b, d ∈ r := by
 have pb := pR_b hr
 have bd := hr.2.2 c hc
 obtain ⟨h1, h2, h3, h4, h5, h6⟩ := (Vb pb 100 c.1 c.2 0 99 b (by omega) (by omega) (by omega) (by omega)).mp hb
 have all : ∀ i, 0 ≤ i → i < b.2.2.1 → ∀ j, 0 ≤ j → j < b.2.2.2 → (c.1 + i, c.2 + j) ∈ r := fun i i0 i1 j j0 j1 => by
  have u := h6 i i0 i1
  have := (U_le pb (x := c.1 + i) b.2.2.2.toNat (y := c.2) (by omega)).mp (by omega) j j0 (by omega)
  exact of_decide_eq_true this
 have last := hr.2.2 _ (all (b.2.2.1 - 1) (by omega) (by omega) 0 (by omega) (by omega))
 dsimp only at last
 have top := hr.2.2 _ (all 0 (by omega) (by omega) (b.2.2.2 - 1) (by omega) (by omega))
 dsimp only at top
 refine ⟨⟨h1, h2⟩, ⟨by omega, by omega⟩, ⟨h4, by omega⟩, fun d hd => ?_⟩
 obtain ⟨⟨a1, a2⟩, a3, a4⟩ := uE.mp hd
 have := all (d.1 - c.1) (by omega) (by omega) (d.2 - c.2) (by omega) (by omega)
 rwa [show c.1 + (d.1 - c.1) = d.1 by omega, show c.2 + (d.2 - c.2) = d.2 by omega] at this
theorem qgv {c : C2} (hr : xQ r) (hc : c ∈ r) : (c.1, c.2, 1, 1) ∈ BL r c := by
 have pb := pR_b hr
 have bd := hr.2.2 c hc
 refine (Vb pb 100 c.1 c.2 0 99 _ (by omega) (by omega) (by omega) (by omega)).mpr ⟨rfl, rfl, by simp, by simp, by simp, fun i i0 i1 => ?_⟩
 dsimp only at i1 ⊢
 have : i = 0 := by omega
 subst this
 rw [Int.add_zero]
 exact (U_pos pb (by omega)).mpr (decide_eq_true hc)
theorem uO {c : C2} {m : List C2} (hr : xQ (c :: m)) {b : B4} (hb : b ∈ BL (c :: m) c) : (jO b (c :: m)).length ≤ m.length := by
 obtain ⟨⟨h1, h2⟩, h3, h4, _⟩ := qbt hr (List.mem_cons_self ..) hb
 have hc : hasB b c = true := by
  unfold hasB
  simp only [Bool.and_eq_true, decide_eq_true_eq]
  omega
 unfold jO
 rw [List.filter_cons_of_neg (by rw [hc]; decide)]
 exact List.length_filter_le ..
theorem jN (hr : xQ r) (b : B4) : xQ (jO b r) := ⟨hr.1.sublist List.filter_sublist, Nat.le_trans (List.length_filter_le ..) hr.2.1, fun c hc => hr.2.2 c ((List.mem_filter.mp hc).1)⟩
theorem qdg {g g' : List C2 → BS} {l : List C2} (hr : xQ l) (e : ∀ c m b, l = c :: m → b ∈ BL l c → g (jO b l) = g' (jO b l)) : best w h g l = best w h g' l := by
 cases l with
 | nil => rfl
 | cons c m =>
   unfold best
   have : (BL (c :: m) c).map (ext w h g (c :: m)) = (BL (c :: m) c).map (ext w h g' (c :: m)) := List.map_congr_left fun b hb => by
    unfold ext
    rw [e c m b rfl hb]
   dsimp only
   rw [this]
theorem qgu : ∀ (n : Nat) {l : List C2}, xQ l → l.length ≤ n → GN w h n l = G w h l
 | 0, l, hr, hl => by
   have : l = [] := List.length_eq_zero_iff.mp (by omega)
   subst this; rfl
 | n + 1, l, hr, hl => by
   cases l with
   | nil => rfl
   | cons c m =>
     unfold G
     rw [List.length_cons] at hl ⊢
     show best w h (GN w h n) (c :: m) = best w h (GN w h m.length) (c :: m)
     refine qdg hr fun c' m' b e hb => ?_
     cases e
     have l1 := uO hr hb
     rw [qgu n (jN hr b) (by omega)]
     exact (qgu m.length (jN hr b) l1).symm
theorem qaN {c : C2} {m : List C2} (hr : xQ (c :: m)) : G w h (c :: m) = best w h (G w h) (c :: m) := by
 show best w h (GN w h m.length) (c :: m) = _
 refine qdg hr fun c' m' b e hb => ?_
 cases e
 exact qgu _ (jN hr b) (uO hr hb)
theorem qff {r s : List C2} (hm : MOk s w h) {c : C2} (hc : c ∈ s) : 0 ≤ term r w h c ∧ term r w h c ≤ 4000 := by
 obtain ⟨a, b⟩ := hm.all c hc
 have bw := qed hm.bw a.1 a.2
 have bh := qed hm.bh b.1 b.2
 unfold term
 cases memB (c.1 - 1, c.2) r <;> cases memB (c.1 + 1, c.2) r <;> cases memB (c.1, c.2 - 1) r <;> cases memB (c.1, c.2 + 1) r <;> simp [intB] <;> omega
theorem qeF {f : C2 → Int} : ∀ {l : List C2}, (∀ c ∈ l, 0 ≤ f c ∧ f c ≤ 4000) → 0 ≤ (l.map f).sum ∧ (l.map f).sum ≤ 4000 * (l.length : Int)
 | [], _ => by simp
 | c :: l, hc => by
   have h1 := hc c (List.mem_cons_self ..)
   have h2 := qeF fun d hd => hc d (List.mem_cons_of_mem _ hd)
   rw [List.map_cons, List.sum_cons, List.length_cons]
   omega
theorem qdl {s : List C2} (hm : MOk s w h) : 0 ≤ ue s w h ∧ ue s w h ≤ 4000 * (s.length : Int) := qeF fun c hc => qff hm hc
theorem qb8 : ∀ (l : List BS) (a : BS), pick a l = a ∨ pick a l ∈ l
 | [], a => .inl rfl
 | y :: l, a => by
   unfold pick
   rcases qb8 l (if y.1 < a.1 then y else a) with e | e
   ·rw [e]
    by_cases z : y.1 < a.1
    ·rw [if_pos z]; exact .inr (List.mem_cons_self ..)
    ·rw [if_neg z]; exact .inl rfl
   ·exact .inr (List.mem_cons_of_mem _ e)
theorem qdf {g : List C2 → BS} {c : C2} {m : List C2} (hr : xQ (c :: m)) : ∃ b ∈ BL (c :: m) c, best w h g (c :: m) = ext w h g (c :: m) b := by
 unfold best
 have ne := qgv hr (List.mem_cons_self ..)
 dsimp only
 cases e : (BL (c :: m) c).map (ext w h g (c :: m)) with
 | nil =>
   rw [List.map_eq_nil_iff] at e
   rw [e] at ne; cases ne
 | cons a k =>
   have hm : pick a k ∈ (BL (c :: m) c).map (ext w h g (c :: m)) := by
    rw [e]
    rcases qb8 k a with z | z
    ·rw [z]; exact List.mem_cons_self ..
    ·exact List.mem_cons_of_mem _ z
   obtain ⟨b, hb, eb⟩ := List.mem_map.mp hm
   exact ⟨b, hb, eb.symm⟩
theorem qdq : ∀ (n : Nat) {l : List C2}, xQ l → l.length ≤ n → MOk l w h → 0 ≤ (G w h l).1 ∧ (G w h l).2.length ≤ l.length
 | n, [], _, _, _ => ⟨Int.le_refl 0, Nat.le_refl _⟩
 | 0, c :: m, _, hl, _ => by simp at hl
 | n + 1, c :: m, hr, hl, hm => by
   rw [qaN hr]
   obtain ⟨b, hb, e⟩ := qdf (w := w) (h := h) (g := G w h) hr
   rw [e]
   unfold ext
   have l1 := uO hr hb
   have bd := qbt hr (List.mem_cons_self ..) hb
   rw [List.length_cons] at hl
   have ih := qdq n (jN hr b) (by omega) (hm.sub fun d hd => (List.mem_filter.mp hd).1)
   have an := qdl (hm.sub bd.2.2.2)
   refine ⟨by dsimp only; omega, ?_⟩
   dsimp only
   rw [List.length_cons, List.length_cons]
   omega
abbrev St := Option Int × List B4
def comb (st : St) (l : Int) (pre : List B4) (g : BS) : St := if (st.1.isSome && decide (st.1.getD 0 ≤ l + g.1)) = true then st else (some (l + g.1), pre ++ g.2)
theorem qeo {st : St} {l : Int} {pre : List B4} {g k : BS} : comb (comb st l pre g) l pre k = comb st l pre (if k.1 < g.1 then k else g) := by
 unfold comb
 obtain ⟨o, bs⟩ := st
 cases o with
 | none =>
   simp only [Option.isSome_none, Bool.false_and, Bool.false_eq_true, if_false, Option.isSome_some, Bool.true_and, Option.getD_some, decide_eq_true_eq]
   by_cases z : k.1 < g.1
   ·rw [if_neg (by omega), if_pos z]
   ·rw [if_pos (by omega), if_neg z]
 | some L =>
   simp only [Option.isSome_some, Bool.true_and, Option.getD_some, decide_eq_true_eq]
   by_cases a : L ≤ l + g.1
   ·rw [if_pos a]
    simp only [Option.isSome_some, Bool.true_and, Option.getD_some, decide_eq_true_eq]
    by_cases z : k.1 < g.1
    ·rw [if_pos z]
    ·rw [if_neg z, if_pos a, if_pos (by omega)]
   ·rw [if_neg a]
    simp only [Option.isSome_some, Bool.true_and, Option.getD_some, decide_eq_true_eq]
    by_cases z : k.1 < g.1
    ·rw [if_neg (by omega), if_pos z, if_neg (by omega)]
    ·rw [if_pos (by omega), if_neg z, if_neg a]
theorem JK {st : St} {l : Int} {pre : List B4} : ∀ (k : List BS) (g : BS), k.foldl (fun s y => comb s l pre y) (comb st l pre g) = comb st l pre (pick g k)
 | [], g => rfl
 | y :: k, g => by
   rw [List.foldl_cons, qeo, JK k]; rfl
theorem qep {st : St} {l a : Int} {pre : List B4} {b : B4} {g : BS} : comb st (l + a) (pre ++ [b]) g = comb st l pre (g.1 + a, b :: g.2) := by
 unfold comb
 have e : l + a + g.1 = l + (g.1 + a) := by omega
 rw [e, List.append_assoc]
 rfl
def dL (l : List C2) : List (C2 × Bool) := l.map fun c => (c, true)
theorem V9 {l : List C2} (nd : l.Nodup) : xW [] (l.map fun c => (c, true)) = dL l := by
 have go : ∀ {l m : List (C2 × Bool)}, ((m ++ l).map (·.1)).Nodup → xW m l = m ++ l := fun {l} => by
  induction l with
  | nil => intro m _; simp [xW]
  | cons p l ih =>
    intro m h
    have put : ∀ m : List (C2 × Bool), p.1 ∉ m.map (·.1) → putA p.1 p.2 m = m ++ [p] := fun m => by
     induction m with
     | nil => intro _; rfl
     | cons q m ih =>
       intro hm
       rw [List.map_cons, List.mem_cons] at hm
       rw [putA, if_neg (fun z => hm (.inl z.symm)), ih fun z => hm (.inr z)]; rfl
    have hp : p.1 ∉ m.map (·.1) := fun z => by
     rw [List.map_append, List.nodup_append] at h
     exact h.2.2 _ z _ (List.mem_cons_self ..) rfl
    have e : xW m (p :: l) = xW (putA p.1 p.2 m) l := rfl
    rw [e, put m hp, ih (by rwa [List.append_assoc]), List.append_assoc]; rfl
 have := go (l := l.map fun c => (c, true)) (m := []) (by rw [List.nil_append, List.map_map]; simpa [Function.comp_def] using nd)
 rw [this, List.nil_append]; rfl
theorem qhW {l : List C2} {c : C2} : hasA (dL l) c = pR l c := by
 unfold dL hasA pR
 rw [Bool.eq_iff_iff, List.any_eq_true, decide_eq_true_eq]
 constructor
 ·rintro ⟨p, hp, e⟩
  obtain ⟨d, hd, rfl⟩ := List.mem_map.mp hp
  rw [← of_decide_eq_true e]; exact hd
 ·intro hc
  exact ⟨(c, true), List.mem_map.mpr ⟨c, hc, rfl⟩, decide_eq_true rfl⟩
theorem Vu {l : List C2} : (dL l).map (·.1) = l := by
 unfold dL
 rw [List.map_map]
 exact List.map_id' l
theorem Uv (hr : xQ r) : r.Nodup := Zh hr.1
theorem Ju {α σ : Type} {body : α → σ → (σ → Prop) → Prop} {f : σ → α → σ} {P : σ → Prop} : ∀ {l : List α} {s : σ} {k : σ → Prop}, P s → (∀ a ∈ l, ∀ (s : σ) (kk : σ → Prop), P s → P (f s a) ∧ (kk (f s a) → body a s kk)) → k (l.foldl f s) → forW l s body k
 | [], s, k, _, _, hk => hk
 | a :: l, s, k, hp, hb, hk => (hb a (List.mem_cons_self ..) s _ hp).2 (Ju (hb a (List.mem_cons_self ..) s k hp).1 (fun b h => hb b (List.mem_cons_of_mem _ h)) hk)
theorem fold_pair {p : List (List Int)} {len : Int} {pre : List B4} {e : B4 → BS} : ∀ {l : List B4} {s : St}, l.foldl (fun (s : List (List Int) × St) b => (p, comb s.2 len pre (e b))) (p, s) = (p, (l.map e).foldl (fun s y => comb s len pre y) s)
 | [], s => rfl
 | b :: l, s => by
   rw [List.foldl_cons, List.map_cons, List.foldl_cons]
   exact fold_pair
theorem qcJ : ∀ (n : Nat) {l : List C2} {st : St} {pre : List B4} {len : Int} {kr : Unit × (List (List Int) × St) × List (C2 × Bool) → Prop}, l.length < n → xQ l → l.length ≤ 100 → pre.length + l.length ≤ 1000 → MOk l w h → kr ((), ([w, h], comb st len pre (G w h l)), dL l) → yU n ([w, h], st) (dL l) pre len kr
 | 0, l, st, pre, len, kr, hn, _, _, _, _, _ => absurd hn (Nat.not_lt_zero _)
 | n + 1, l, st, pre, len, kr, hn, hr, hl, hp, hm, hk => by
   show xK (yU n) ([w, h], st) (dL l) pre len kr
   unfold xK
   have gn := (qdq l.length hr (Nat.le_refl _) hm).1
   refine ⟨fun z => ⟨⟨z, trivial⟩, trivial⟩, ?_⟩
   by_cases ht : (st.1.isSome && decide (st.1.getD 0 ≤ len)) = true
   ·refine qbb ht ?_
    have e : comb st len pre (G w h l) = st := by
     have hs := ht
     rw [Bool.and_eq_true, decide_eq_true_eq] at hs
     unfold comb
     rw [if_pos (by rw [Bool.and_eq_true, decide_eq_true_eq]; exact ⟨hs.1, by omega⟩)]
    rw [e] at hk
    exact hk
   ·refine Vk (Bool.eq_false_iff.mpr ht) ?_
    cases l with
    | nil =>
      refine qbb rfl ?_
      have e : comb st len pre (G w h []) = (some len, pre) := by
       unfold comb
       show (if (st.1.isSome && decide (st.1.getD 0 ≤ len + 0)) = true then st else (some (len + 0), pre ++ [])) = _
       rw [Int.add_zero, List.append_nil, if_neg ht]
      rw [e] at hk
      exact hk
    | cons c m =>
      have ld : (dL (c :: m)).length = (c :: m).length := List.length_map ..
      refine Vk (by simp [dL]; omega) ⟨c, ?_, ?_⟩
      ·rw [qdV, Vu]
       refine qfN (List.mem_cons_self ..) fun d hd => ?_
       rcases List.mem_cons.mp hd with e | hd
       ·exact .inl e
       ·exact .inr ((List.pairwise_cons.mp hr.1).1 d hd)
      refine JR hr ld (fun c => qhW) (List.mem_cons_self ..) ?_
      refine Ju (P := fun s => s.1 = [w, h]) (f := fun (s : List (List Int) × St) b => ([w, h], comb s.2 len pre (ext w h (G w h) (c :: m) b))) rfl ?_ ?_
      ·intro b hb s kk es
       refine ⟨rfl, fun hkk => ?_⟩
       obtain ⟨⟨b1, b2⟩, b3, b4, sub⟩ := qbt hr (List.mem_cons_self ..) hb
       have bc := hr.2.2 c (List.mem_cons_self ..)
       have rl := uO hr hb
       have cl := Jf (qes b) sub
       rw [List.length_cons] at hn hl hp
       refine YG (by omega) (by omega) (by omega) (by omega) ⟨by rw [Vu, sz, List.length_cons]; omega, ?_⟩
       rw [Vu]
       have er : ((c :: m).filter fun cell => !memB cell (cb b)) = jO b (c :: m) := by
        unfold jO
        congr 1
        funext d
        rw [qhy]
       rw [er]
       have rr := jN hr b
       simp only [lt]
       rw [V9 (Uv rr), es]
       rw [List.length_cons] at cl
       refine ⟨by rw [sz]; simp; omega, Xy (by omega) (hm.sub sub) ?_⟩
       obtain ⟨s1, s2⟩ := s
       dsimp only at es
       subst es
       refine qcJ n (by omega) rr (by omega) (by rw [List.length_append, List.length_singleton]; omega) (hm.sub fun d hd => (List.mem_filter.mp hd).1) ?_
       rw [qep]
       exact hkk
      ·rw [fold_pair]
       have e : (List.map (ext w h (G w h) (c :: m)) (BL (c :: m) c)).foldl (fun s y => comb s len pre y) st = comb st len pre (G w h (c :: m)) := by
        rw [qaN hr]
        unfold best
        dsimp only
        cases e : (BL (c :: m) c).map (ext w h (G w h) (c :: m)) with
        | nil =>
          rw [List.map_eq_nil_iff] at e
          have := qgv hr (List.mem_cons_self ..)
          rw [e] at this; cases this
        | cons a k =>
          rw [List.foldl_cons]
          exact JK k a
       rw [e]
       exact hk
end
end K33
namespace K33
open PySem PySem.Spec PyProof.Rows L2 BX TX COM BC
section
variable {w h : List Int} {r : List C2}
def Wi (b : B4) : Prop := (0 ≤ b.1 ∧ b.1 ≤ 60) ∧ (0 ≤ b.2.1 ∧ b.2.1 ≤ 60) ∧ (0 ≤ b.2.2.1 ∧ b.2.2.1 ≤ 1000) ∧ 0 ≤ b.2.2.2 ∧ b.2.2.2 ≤ 1000
theorem qic {c : C2} (hr : xQ r) (hc : c ∈ r) {b : B4} (hb : b ∈ BL r c) : Wi b := by
 obtain ⟨⟨b1, b2⟩, b3, b4, sub⟩ := qbt hr hc hb
 have bc := hr.2.2 c hc
 unfold Wi
 omega
theorem V3 {b : B4} {l : List C2} : ∀ d ∈ jO b l, d ∈ l := fun d hd => (List.mem_filter.mp hd).1
theorem qe4 : ∀ (n : Nat) {l : List C2}, xQ l → l.length ≤ n → (∀ b ∈ (G w h l).2, Wi b ∧ ∀ d ∈ cb b, d ∈ l) ∧ ((G w h l).2.map fun b => ue (cb b) w h).sum = (G w h l).1
 | n, [], _, _ => ⟨fun b hb => (by cases hb), rfl⟩
 | 0, c :: m, _, hl => by simp at hl
 | n + 1, c :: m, hr, hl => by
   rw [qaN hr]
   obtain ⟨b, hb, e⟩ := qdf (w := w) (h := h) (g := G w h) hr
   rw [e]
   unfold ext
   have l1 := uO hr hb
   have bd := qbt hr (List.mem_cons_self ..) hb
   rw [List.length_cons] at hl
   obtain ⟨i1, i2⟩ := qe4 n (jN hr b) (by omega)
   refine ⟨fun x hx => ?_, ?_⟩
   ·rcases List.mem_cons.mp hx with e | hx
    ·subst e
     exact ⟨qic hr (List.mem_cons_self ..) hb, bd.2.2.2⟩
    ·exact ⟨(i1 x hx).1, fun d hd => V3 d ((i1 x hx).2 d hd)⟩
   ·dsimp only
    rw [List.map_cons, List.sum_cons, i2]
    omega
theorem JH {L : List B4} {kr : Int → Prop} (hr : xQ r) (hl : r.length ≤ 1000) (hL : L.length ≤ 1000) (hm : MOk r w h) (ok : ∀ b ∈ L, Wi b ∧ ∀ d ∈ cb b, d ∈ r) (hk : kr (((L.map fun b => ue (cb b) w h).sum - ue r w h) / 2)) : jg r (false, L) [w, h] kr := by
 unfold jg
 simp only [lt]
 refine ⟨by rw [sz]; omega, Xf (fun b => ue (cb b) w h) (fun b hb ww hw => ?_) (Xy hl hm hk)⟩
 obtain ⟨⟨h1, h2, h3, h4⟩, sub⟩ := ok b hb
 refine YG h1 h2 h3 h4 (Xy ?_ (hm.sub sub) hw)
 have := Jf (qes b) sub
 omega
theorem Yh {kr : Int × List B4 → Prop} (hr : xQ r) (hl : r.length < 40) (hm : MOk r w h) (hk : kr (((G w h r).1 - ue r w h) / 2, (G w h r).2)) : xJ r [w, h] kr := by
 unfold xJ xO
 have gl := qdq r.length hr (Nat.le_refl _) hm
 obtain ⟨g1, g2⟩ := qe4 (w := w) (h := h) r.length hr (Nat.le_refl _)
 refine ⟨by rw [sz]; omega, ?_⟩
 unfold uH
 rw [V9 (Uv hr)]
 refine qcJ 40 hl hr (by omega) (by simp; omega) hm ?_
 have e : comb ((none : Option Int), ([] : List B4)) 0 [] (G w h r) = (some (G w h r).1, (G w h r).2) := by
  unfold comb
  show (some (0 + (G w h r).1), [] ++ (G w h r).2) = _
  rw [Int.zero_add, List.nil_append]
 rw [e]
 refine JH hr (by omega) (by dsimp only; omega) hm g1 ?_
 dsimp only
 rw [g2]
 exact hk
theorem vZ {c : C2} {there : List (C2 × Bool)} {kr : List B4 → Prop} (hr : xQ r) (hc : c ∈ r) (ht : ∀ c, hasA there c = pR r c) (hk : kr (BL r c)) : wO there c.1 c.2 kr := by
 have bd := hr.2.2 c hc
 exact BC.qbl hr ht bd.1.1 bd.2 100 rfl hk
end
def subs : List C2 → List (List C2)
 | [] => [[]]
 | c :: l => subs l ++ (subs l).map (c :: ·)
theorem VP : ∀ l : List C2, (subs l).length = 2 ^ l.length
 | [] => rfl
 | c :: l => by
   rw [subs, List.length_append, List.length_map, VP l, List.length_cons, Nat.pow_succ]
   omega
theorem Y9 : ∀ {l s : List C2}, s.Sublist l → s ∈ subs l
 | [], s, hs => by
   rw [List.sublist_nil.mp hs]; exact List.mem_cons_self ..
 | c :: l, s, hs => by
   rw [subs, List.mem_append]
   cases hs with
   | cons _ h => exact .inl (Y9 h)
   | cons_cons _ h => exact .inr (List.mem_map.mpr ⟨_, Y9 h, rfl⟩)
theorem qho {α : Type} [DecidableEq α] : ∀ {l k : List α}, l.Nodup → (∀ a ∈ l, a ∈ k) → l.length ≤ k.length
 | [], k, _, _ => Nat.zero_le _
 | a :: l, k, nd, sub => by
   have ha := sub a (List.mem_cons_self ..)
   obtain ⟨n1, n2⟩ := List.nodup_cons.mp nd
   have := qho (l := l) (k := k.erase a) n2 fun x hx => (List.mem_erase_of_ne (fun z : x = a => n1 (z ▸ hx))).mpr (sub x (List.mem_cons_of_mem _ hx))
   rw [List.length_erase_of_mem ha] at this
   have p := List.length_pos_of_mem ha
   rw [List.length_cons]; omega
section
variable {κ α : Type} [DecidableEq κ]
theorem jW {k c : κ} {v : α} {m : List (κ × α)} : hasA (putA k v m) c = (hasA m c || decide (c = k)) := by
 rw [vQ, QR, vQ]
 by_cases h : c = k <;> simp [h]
theorem qb2 {k : κ} {v : α} : ∀ {m : List (κ × α)}, hasA m k = true → (putA k v m).length = m.length
 | [], h => by cases h
 | p :: m, h => by
   rw [putA]
   by_cases e : p.1 = k
   ·rw [if_pos e]; rfl
   ·rw [if_neg e, List.length_cons, List.length_cons, qb2]
    unfold hasA at h ⊢
    rw [List.any_cons, Bool.or_eq_true] at h
    rcases h with h | h
    ·exact absurd (of_decide_eq_true h) e
    ·exact h
end
structure SI (r : List C2) (found : List (List C2 × Bool)) (rows : List (List C2)) : Prop where
 nd : rows.Nodup
 sub : ∀ l ∈ rows, l.Sublist r ∧ l ≠ []
 key : ∀ l, hasA found l = true → l ∈ rows ∨ l = []
 has : ∀ l ∈ rows, hasA found l = true
 len : found.length ≤ rows.length + if hasA found [] = true then 1 else 0
 top : r ∈ rows
theorem SI.rl {r : List C2} {found : List (List C2 × Bool)} {rows : List (List C2)} (s : SI r found rows) : rows.length ≤ 2 ^ r.length := by
 rw [← VP r]
 exact qho s.nd fun l hl => Y9 (s.sub l hl).1
theorem SI.old {r t : List C2} {found : List (List C2 × Bool)} {rows : List (List C2)} (s : SI r found rows) (ht : t ∈ rows ∨ t = []) : SI r (putA t true found) rows := by
 have hh : hasA found t = true ∨ (t = [] ∧ hasA found [] = false) := by
  rcases ht with ht | rfl
  ·exact .inl (s.has t ht)
  ·cases e : hasA found [] with
   | true => exact .inl rfl
   | false => exact .inr ⟨rfl, rfl⟩
 refine ⟨s.nd, s.sub, fun l hl => ?_, fun l hl => ?_, ?_, s.top⟩
 ·rw [jW, Bool.or_eq_true, decide_eq_true_eq] at hl
  rcases hl with hl | rfl
  ·exact s.key l hl
  ·exact ht
 ·rw [jW, s.has l hl]; rfl
 ·have len := s.len
  rw [jW]
  rcases hh with hh | ⟨rfl, e⟩
  ·rw [qb2 hh]
   cases e : hasA found [] with
   | true => rw [e] at len; simpa using len
   | false =>
     rw [e] at len
     simp at len ⊢
     split <;> omega
  ·rw [e] at len
   have := Xe (k := ([] : List C2)) (v := true) (m := found)
   simp at len ⊢
   omega
theorem SI.new {r t : List C2} {found : List (List C2 × Bool)} {rows : List (List C2)} (s : SI r found rows) (h1 : hasA found t = false) (h2 : t ≠ []) (h3 : t.Sublist r) : SI r (putA t true found) (rows ++ [t]) := by
 have hn : t ∉ rows := fun z => by rw [s.has t z] at h1; cases h1
 refine ⟨?_, fun l hl => ?_, fun l hl => ?_, fun l hl => ?_, ?_, List.mem_append_left _ s.top⟩
 ·rw [List.nodup_append]
  refine ⟨s.nd, by simp, fun a ha b hb e => ?_⟩
  rw [List.mem_singleton] at hb
  subst hb; subst e
  exact hn ha
 ·rcases List.mem_append.mp hl with hl | hl
  ·exact s.sub l hl
  ·rw [List.mem_singleton.mp hl]; exact ⟨h3, h2⟩
 ·rw [jW, Bool.or_eq_true, decide_eq_true_eq] at hl
  rcases hl with hl | rfl
  ·rcases s.key l hl with z | z
   ·exact .inl (List.mem_append_left _ z)
   ·exact .inr z
  ·exact .inl (List.mem_append_right _ (List.mem_singleton.mpr rfl))
 ·rw [jW, Bool.or_eq_true, decide_eq_true_eq]
  rcases List.mem_append.mp hl with hl | hl
  ·exact .inl (s.has l hl)
  ·exact .inr (List.mem_singleton.mp hl)
 ·have len := s.len
  have l2 := Xe (k := t) (v := true) (m := found)
  have e : hasA (putA t true found) [] = hasA found [] := by
   rw [jW, decide_eq_false (fun z => h2 z.symm), Bool.or_false]
  rw [e, List.length_append, List.length_singleton]
  omega
theorem qbX {b : B4} {l : List C2} {kr : List C2 → Unit → Prop} (hk : kr (jO b l) ()) : lcW l ([] : List C2) () (fun cell (s : Unit) w => xZ b cell fun t24 => ifP (!t24) (w (some cell) ()) (w none ())) kr := by
 refine qba (fun c => !hasB b c) (fun c _ w hy hn => qjr ?_) hk
 cases e : hasB b c with
 | true => exact Vk rfl (hn (by rw [e] <;> rfl))
 | false => exact qbb rfl (hy (by rw [e] <;> rfl))
theorem qbY {b : B4} {l : List C2} : (jO b l).Sublist l := List.filter_sublist
structure States (r : List C2) (rows : List (List C2)) : Prop where
 sub : ∀ l ∈ rows, l.Sublist r ∧ l ≠ []
 top : r ∈ rows
 len : rows.length ≤ 2 ^ r.length
 closed : ∀ pre c m post, rows = pre ++ (c :: m) :: post → ∀ b ∈ BL (c :: m) c, jO b (c :: m) = [] ∨ jO b (c :: m) ∈ pre
theorem at0 {α : Type} {c : α} {t : List α} : atI (c :: t) 0 = some c := atI_nat (xs := c :: t) (j := 0) rfl
theorem qh6 {α : Type} {l k : List α} {i : Int} {x : α} (h : atI l i = some x) (h0 : 0 ≤ i) (h1 : i < l.length) : atI (l ++ k) i = some x := by
 obtain ⟨n, rfl⟩ := Int.eq_ofNat_of_zero_le h0
 have hn : n < l.length := by omega
 have e := atI_nat (List.getElem?_eq_getElem hn)
 rw [e] at h
 rw [← h]
 refine atI_nat ?_
 rw [List.getElem?_append_left hn, List.getElem?_eq_getElem hn]
theorem Jm {r : List C2} {kr : List (List C2) → Prop} (hr : xQ r) (hl : r.length ≤ 20) (hne : r ≠ []) (hk : ∀ rows, States r rows → kr rows) : xU r kr := by
 unfold xU
 simp only [lt]
 have p20 : 2 ^ r.length ≤ 2 ^ 20 := Nat.pow_le_pow_right (by decide) hl
 have subR : ∀ l : List C2, l.Sublist r → xQ l := fun l s => ⟨hr.1.sublist s, Nat.le_trans s.length_le hr.2.1, fun c hc => hr.2.2 c (s.mem hc)⟩
 refine ⟨fun m s => SI r s.1 s.2.1 ∧ (0 ≤ s.2.2 ∧ s.2.2 ≤ s.2.1.length) ∧ (m : Int) = ((2 ^ r.length : Nat) : Int) + 1 - s.2.2 ∧ ∀ (k : Nat) c m, (k : Int) < s.2.2 → s.2.1[k]? = some (c :: m) → ∀ b ∈ BL (c :: m) c, hasA s.1 (jO b (c :: m)) = true, ⟨2 ^ r.length + 1, ?_⟩, ?_⟩
 ·refine ⟨⟨by simp, fun l hl => ?_, fun l hl => ?_, fun l hl => ?_, by simp, List.mem_singleton.mpr rfl⟩, by simp, by simp, fun k c m hk1 => ?_⟩
  ·rw [List.mem_singleton.mp hl]; exact ⟨List.Sublist.refl _, hne⟩
  ·unfold hasA at hl
   simp at hl
   exact .inl (List.mem_singleton.mpr hl.symm)
  ·rw [List.mem_singleton.mp hl]; simp [hasA]
  ·dsimp only at hk1; omega
 rintro m ⟨found, rows, at'⟩ ⟨h1, h2, h3, h4⟩
 dsimp only at h1 h2 h3 h4 ⊢
 have rl := h1.rl
 refine ⟨fun hc => ?_, fun hc => ?_⟩
 ·have hc := of_decide_eq_true hc
  obtain ⟨n, rfl⟩ := Int.eq_ofNat_of_zero_le h2.1
  have hn : n < rows.length := by omega
  obtain ⟨l, el⟩ : ∃ l, l = rows[n] := ⟨_, rfl⟩
  have ea : atI rows (n : Int) = some l := by rw [el]; exact atI_nat (List.getElem?_eq_getElem hn)
  have lm : l ∈ rows := by rw [el]; exact List.getElem_mem hn
  obtain ⟨ls, lne⟩ := h1.sub l lm
  obtain ⟨c, t, rfl⟩ : ∃ c t, l = c :: t := by
   cases l with
   | nil => exact absurd rfl lne
   | cons c t => exact ⟨c, t, rfl⟩
  have lr := subR _ ls
  have ll : (c :: t).length ≤ 1000 := lr.2.1
  refine ⟨_, ea, by rw [sz]; omega, _, ea, c, at0, _, ea, c, at0, ?_⟩
  refine vZ lr (List.mem_cons_self ..) (fun d => has_dict) ?_
  refine jf (fun p s => SI r s.1 s.2 ∧ (∃ k, s.2 = rows ++ k) ∧ (∀ l, hasA found l = true → hasA s.1 l = true) ∧ ∀ b ∈ p, hasA s.1 (jO b (c :: t)) = true) ⟨h1, ⟨[], by simp⟩, fun l h => h, fun b hb => (by cases hb)⟩ ?_ ?_
  ·rintro p b q ⟨fd, rw2⟩ kk e ⟨g1, ⟨k, g2⟩, g3, g4⟩ hkk
   dsimp only at g1 g2 g3 g4 ⊢
   have rl2 := g1.rl
   have fl := g1.len
   have fl : fd.length ≤ rw2.length + 1 := by
    refine Nat.le_trans fl ?_
    split <;> omega
   refine ⟨_, by rw [g2]; exact qh6 ea (by omega) (by omega), by rw [sz]; omega, qbX ?_⟩
   have fin : ∀ rw3, SI r (putA (jO b (c :: t)) true fd) rw3 → (∃ k, rw3 = rows ++ k) → (fd.length < sizeLine ∧ kk (putA (jO b (c :: t)) true fd, rw3)) := fun rw3 i1 i2 => by
    refine ⟨by rw [sz]; omega, hkk _ ⟨i1, i2, fun l hl => ?_, fun x hx => ?_⟩⟩
    ·dsimp only
     rw [jW, g3 l hl]; rfl
    ·dsimp only
     rw [jW]
     rcases List.mem_append.mp hx with hx | hx
     ·rw [g4 x hx]; rfl
     ·rw [List.mem_singleton.mp hx]; simp
   cases hb : (!hasA fd (jO b (c :: t))) && (!(decide (jO b (c :: t) = ([] : List (Int × Int))))) with
   | true =>
     rw [Bool.and_eq_true, Bool.not_eq_true', Bool.not_eq_true', decide_eq_false_iff_not] at hb
     refine qhF rfl ⟨by rw [sz]; omega, ?_⟩
     exact fin _ (g1.new hb.1 hb.2 (qbY.trans ls)) ⟨k ++ [jO b (c :: t)], by rw [g2, List.append_assoc]⟩
   | false =>
     refine qhG rfl (fin _ (g1.old ?_) ⟨k, g2⟩)
     rw [Bool.and_eq_false_iff] at hb
     rcases hb with hb | hb
     ·exact g1.key _ (by simpa using hb)
     ·exact .inr (by simpa using hb)
  ·rintro ⟨fd, rw2⟩ ⟨g1, ⟨k, g2⟩, g3, g4⟩
   dsimp only at g1 g2 g3 g4 ⊢
   have l2 : rows.length ≤ rw2.length := by rw [g2]; simp
   refine ⟨m - 1, by omega, g1, by omega, by omega, fun j c' m' hj ej b hb => ?_⟩
   by_cases z : j = n
   ·subst z
    have e2 : rw2[j]? = some (c :: t) := by
     rw [g2, List.getElem?_append_left hn, List.getElem?_eq_getElem hn, ← el]
    rw [e2] at ej
    cases ej
    exact g4 b hb
   ·have hj2 : j < rows.length := by omega
    refine g3 _ (h4 j c' m' (by omega) ?_ b hb)
    rw [g2, List.getElem?_append_left hj2] at ej
    exact ej
 ·have hc : ¬ at' < (rows.length : Int) := of_decide_eq_false hc
  refine hk _ ?_
  have pm : (Zi rows).Perm rows := List.mergeSort_perm ..
  have so : (Zi rows).Pairwise fun a b => decide (a.length ≤ b.length) = true := List.pairwise_mergeSort (fun a b c => by
   simp only [decide_eq_true_eq]; omega) (fun a b => by
   simp only [Bool.or_eq_true, decide_eq_true_eq]; omega) rows
  refine ⟨fun l hl => h1.sub l (pm.mem_iff.mp hl), pm.mem_iff.mpr h1.top, by rw [pm.length_eq]; exact rl, fun pre c t post e b hb => ?_⟩
  have hm : (c :: t) ∈ rows := pm.mem_iff.mp (by rw [e]; simp)
  obtain ⟨n, hn, en⟩ := List.getElem_of_mem hm
  have hh := h4 n c t (by omega) (by rw [List.getElem?_eq_getElem hn, en]) b hb
  have lr := subR _ (h1.sub _ hm).1
  have rl3 := uO lr hb
  rcases h1.key _ hh with z | z
  ·refine .inr ?_
   have z2 := pm.mem_iff.mpr z
   rw [e, List.mem_append, List.mem_cons] at z2
   rcases z2 with z2 | z2 | z2
   ·exact z2
   ·rw [z2, List.length_cons] at rl3; omega
   ·rw [e, List.pairwise_append] at so
    have := of_decide_eq_true ((List.pairwise_cons.mp so.2.1).1 _ z2)
    rw [List.length_cons] at this; omega
  ·exact .inl z
end K33
namespace K33
open PySem PySem.Spec PyProof.Rows L2 BX TX COM BC
open RT PySem.W
def ltB (a b : B4) : Prop := a.1 = b.1 ∧ a.2.1 = b.2.1 ∧ (a.2.2.1 < b.2.2.1 ∨ (a.2.2.1 = b.2.2.1 ∧ a.2.2.2 < b.2.2.2))
theorem qgb {a b : B4} (h : ltB b a) : dataLt (pyB a) (pyB b) = false := by
 obtain ⟨h1, h2, h3⟩ := h
 unfold pyB
 rw [dataLt_tuple, dataLt_cons (by simp [alike]), dataLt_cons (by simp [alike]), dataLt_cons (by simp [alike]), dataLt_cons (by simp [alike]), dataLt_int, dataLt_int, dataLt_int, dataLt_int]
 have e : PyProof.Rows.lexLt itemOrd (keyToksAll []) (keyToksAll []) = false := lex_irrefl _
 rw [e]
 simp only [PyData.eqv, beq_iff_eq]
 rw [if_pos h1.symm, if_pos h2.symm]
 by_cases z : a.2.2.1 = b.2.2.1
 ·rw [if_pos z]
  by_cases y : a.2.2.2 = b.2.2.2
  ·rw [if_pos y]
  ·rw [if_neg y]
   exact decide_eq_false (by omega)
 ·rw [if_neg z]
  exact decide_eq_false (by omega)
theorem qf6 {a b : B4} (h : ltB b a) : PyData.eqv (pyB a) (pyB b) = false := by
 obtain ⟨h1, h2, h3⟩ := h
 unfold pyB
 simp only [PyData.eqv, PyData.eqvAll, Bool.and_true, Bool.and_eq_false_iff, beq_eq_false_iff_ne, ne_eq]
 rcases h3 with h3 | h3
 ·exact .inr (.inr (.inl (by omega)))
 ·exact .inr (.inr (.inr (by omega)))
theorem qhO {n m : Int} {a b : B4} {as bs : List B4} (h : ltB b a) : dataLt (pyBS (n, a :: as)) (pyBS (m, b :: bs)) = decide (n < m) := by
 unfold pyBS
 rw [dataLt_pair (by simp [alike]) (qaK _ _), dataLt_int, dataLt_list]
 have e : PyProof.Rows.lexLt itemOrd (keyToksAll ((a :: as).map pyB)) (keyToksAll ((b :: bs).map pyB)) = false := by
  rw [List.map_cons, List.map_cons, dataLt_cons (by simp [pyB, alike, alikeAll]), if_neg (by rw [qf6 h]; decide)]
  exact qgb h
 rw [e]
 have hn : (PyData.eqv (.int n) (.int m) = true) ↔ n = m := by simp [PyData.eqv]
 by_cases z : n = m
 ·rw [if_pos (hn.mpr z)]
  split <;> exact (decide_eq_false (by omega)).symm
 ·rw [if_neg fun y => z (hn.mp y)]
theorem qe2 {p : C2 → Bool} : ∀ (n : Nat) (x y w m : Int), (bAt p n x y w m).Pairwise ltB ∧ ∀ b ∈ bAt p n x y w m, b.1 = x ∧ b.2.1 = y ∧ w < b.2.2.1
 | 0, x, y, w, m => ⟨List.Pairwise.nil, fun b hb => (by cases hb)⟩
 | n + 1, x, y, w, m => by
   rw [bAt]
   by_cases h : 0 < m
   ·rw [if_pos h]
    obtain ⟨i1, i2⟩ := qe2 (p := p) n x y (w + 1) (min m (U p (x + w) y))
    refine ⟨List.pairwise_append.mpr ⟨?_, i1, ?_⟩, ?_⟩
    ·rw [List.pairwise_map]
     exact (Uw ..).imp fun hab => ⟨rfl, rfl, .inr ⟨rfl, hab⟩⟩
    ·intro a ha b hb
     obtain ⟨k, _, rfl⟩ := List.mem_map.mp ha
     have := i2 b hb
     exact ⟨this.1.symm, this.2.1.symm, .inl this.2.2⟩
    ·intro b hb
     rcases List.mem_append.mp hb with hb | hb
     ·obtain ⟨k, _, rfl⟩ := List.mem_map.mp hb
      exact ⟨rfl, rfl, by dsimp only; omega⟩
     ·have := i2 b hb
      exact ⟨this.1, this.2.1, by omega⟩
   ·rw [if_neg h]
    exact ⟨List.Pairwise.nil, fun b hb => (by cases hb)⟩
theorem ZR {w h : List Int} {g : List C2 → BS} {t : List C2} : ∀ (l : List B4) (a : B4), (a :: l).Pairwise ltB → (l.map (ext w h g t)).foldl (fun a y => if dataLt (pyBS y) (pyBS a) then y else a) (ext w h g t a) = pick (ext w h g t a) (l.map (ext w h g t))
 | [], a, _ => rfl
 | b :: l, a, hp => by
   obtain ⟨h1, h2⟩ := List.pairwise_cons.mp hp
   obtain ⟨h3, h4⟩ := List.pairwise_cons.mp h2
   have e : dataLt (pyBS (ext w h g t b)) (pyBS (ext w h g t a)) = decide ((ext w h g t b).1 < (ext w h g t a).1) := qhO (h1 b (List.mem_cons_self ..))
   rw [List.map_cons, List.foldl_cons, e]
   show _ = pick (if (ext w h g t b).1 < (ext w h g t a).1 then ext w h g t b else ext w h g t a) (l.map (ext w h g t))
   by_cases z : (ext w h g t b).1 < (ext w h g t a).1
   ·rw [if_pos (decide_eq_true z), if_pos z]
    exact ZR l b h2
   ·rw [if_neg (by rw [decide_eq_false z]; decide), if_neg z]
    exact ZR l a (List.pairwise_cons.mpr ⟨fun x hx => h1 x (List.mem_cons_of_mem _ hx), h4⟩)
section
variable {w h : List Int} {r : List C2}
theorem qhx {c : C2} {m : List C2} (hr : xQ (c :: m)) : qdX ((BL (c :: m) c).map (ext w h (G w h) (c :: m))) = some (G w h (c :: m)) := by
 have pw : (BL (c :: m) c).Pairwise ltB := (qe2 ..).1
 have ne := qgv hr (List.mem_cons_self ..)
 rw [qaN hr]
 unfold best
 dsimp only
 cases e : BL (c :: m) c with
 | nil => rw [e] at ne; cases ne
 | cons b k =>
   rw [e] at pw
   rw [List.map_cons]
   show some _ = some _
   rw [ZR k b pw]
theorem ZK {kr : BS → Prop} (hr : xQ r) (hl : r.length ≤ 20) (hm : MOk r w h) (hk : kr (G w h r)) : yP r [w, h] kr := by
 unfold yP
 simp only [lt]
 cases r with
 | nil => exact Vk rfl ⟨(0, []), rfl, hk⟩
 | cons c0 m0 =>
   refine qbb (by simp) (Jm hr hl (by simp) fun rows st => ?_)
   have p20 : 2 ^ (c0 :: m0).length ≤ 2 ^ 20 := Nat.pow_le_pow_right (by decide) hl
   have stl := st.len
   refine jf (fun p best => (∀ l ∈ p, getA best l = some (G w h l)) ∧ getA best [] = some (0, []) ∧ best.length ≤ p.length + 1) ⟨fun l hl => (by cases hl), rfl, by simp⟩ ?_ ?_
   ·rintro p l q best kk e ⟨g1, g2, g3⟩ hkk
    have lm : l ∈ rows := by rw [e]; simp
    have pl : p.length ≤ rows.length := by rw [e]; simp
    obtain ⟨ls, lne⟩ := st.sub l lm
    obtain ⟨c, t, rfl⟩ : ∃ c t, l = c :: t := by
     cases l with
     | nil => exact absurd rfl lne
     | cons c t => exact ⟨c, t, rfl⟩
    have ll := ls.length_le
    have lr : xQ (c :: t) := ⟨hr.1.sublist ls, Nat.le_trans ll hr.2.1, fun d hd => hr.2.2 d (ls.mem hd)⟩
    have mk : MOk (c :: t) w h := hm.sub fun d hd => ls.mem hd
    have bl : (BL (c :: t) c).length ≤ 64 * 100 := qdi 100 ..
    have lz : (c :: t).length ≤ sizeLine := by rw [sz]; omega
    refine ⟨lz, c, at0, c, at0, vZ lr (List.mem_cons_self ..) (fun d => has_dict) ?_⟩
    refine jf (fun p2 some' => some' = p2.map (ext w h (G w h) (c :: t))) rfl ?_ ?_
    ·rintro p2 b q2 s kk2 e2 rfl hkk2
     have hb : b ∈ BL (c :: t) c := by rw [e2]; simp
     have gr : getA best (jO b (c :: t)) = some (G w h (jO b (c :: t))) := by
      rcases st.closed p c t q e b hb with z | z
      ·rw [z]; exact g2
      ·exact g1 _ z
     obtain ⟨w1, w2, w3, w4⟩ := qic lr (List.mem_cons_self ..) hb
     have bd := qbt lr (List.mem_cons_self ..) hb
     have rl := uO lr hb
     have gl := (qdq _ (jN lr b) (Nat.le_refl _) (mk.sub V3)).2
     have cl := Jf (qes b) bd.2.2.2
     have p2l : p2.length ≤ (BL (c :: t) c).length := by rw [e2]; simp
     rw [List.length_cons] at ll
     refine ⟨lz, qbX ⟨_, gr, Z6 w3.1 w3.2 w4.1 w4.2 (Wu (r := cb b) ?_ (mk.sub bd.2.2.2) ⟨?_, ?_, hkk2 _ ?_⟩)⟩⟩
     ·rw [List.length_cons] at cl; omega
     ·rw [sz, List.length_singleton]; omega
     ·rw [sz, List.length_map]; omega
     ·rw [List.map_append]; rfl
    ·rintro s rfl
     refine ⟨_, qhx lr, by rw [sz]; omega, hkk _ ⟨fun l hl => ?_, ?_, ?_⟩⟩
     ·rw [QR]
      by_cases z : l = c :: t
      ·rw [if_pos z, z]
      ·rw [if_neg z]
       rcases List.mem_append.mp hl with hl | hl
       ·exact g1 l hl
       ·exact absurd (List.mem_singleton.mp hl) z
     ·rw [QR, if_neg (by simp)]
      exact g2
     ·have := Xe (k := c :: t) (v := G w h (c :: t)) (m := best)
      rw [List.length_append, List.length_singleton]
      omega
   ·rintro best ⟨g1, _, _⟩
    exact ⟨_, g1 _ st.top, hk⟩
end
end K33
namespace K33
open PySem PySem.Spec PyProof.Rows L2 BX TX COM BC
theorem erase_perm {α : Type} : ∀ {l : List α} {i : Nat} (h : i < l.length), (l[i] :: l.eraseIdx i).Perm l
 | a :: l, 0, h => List.Perm.refl _
 | a :: l, i + 1, h => by
   have hi : i < l.length := by simpa using h
   have := erase_perm (l := l) (i := i) hi
   show (l[i] :: a :: l.eraseIdx i).Perm (a :: l)
   exact (List.Perm.swap a l[i] _).trans (this.cons a)
theorem qeL {k : List C2 → (Int × Int) × List C2 → Prop} {r : List C2} (hr : r.length ≤ 1000) : ∀ (l : List Int) (acc left : List C2) (t : Int × Int), TpOk t → l.length ≤ left.length → (acc ++ left).Perm r → (∀ A s, (A ++ s.2).Perm r → A.length = acc.length + l.length → TpOk s.1 → k A s) →
 lcW l acc (t, left) (fun turn (s : ((Int × Int) × (List (Int × Int)))) w => qG s.1 (s.2.length : Int) fun t7 => (0 ≤ t7.1 ∧ t7.1 < 2 ^ 63) ∧ exW (s.2[(t7.1 : Int).toNat]?) fun x8 => w (some x8) (t7.2, s.2.eraseIdx (t7.1 : Int).toNat)) k
 | [], acc, left, t, ht, hl, hp, hk => by
   show k acc (t, left)
   exact hk acc (t, left) hp rfl ht
 | a :: l, acc, left, t, ht, hl, hp, hk => by
   have ll : left.length ≤ 1000 := by
    have := hp.length_eq
    rw [List.length_append] at this
    omega
   rw [List.length_cons] at hl
   refine zN ht (by dsimp only; omega) (by dsimp only; omega) fun i t2 i0 i1 h2 => ?_
   dsimp only at i1 ⊢
   have hi : i.toNat < left.length := by omega
   refine ⟨⟨i0, by omega⟩, left[i.toNat], List.getElem?_eq_getElem hi, ?_⟩
   have pm : (left[i.toNat] :: left.eraseIdx i.toNat).Perm left := erase_perm hi
   refine qeL hr l (acc ++ [left[i.toNat]]) (left.eraseIdx i.toNat) t2 h2 (by rw [List.length_eraseIdx_of_lt hi]; omega) ?_ fun A s h3 h4 h5 => hk A s h3 ?_ h5
   ·rw [List.append_assoc]
    exact ((pm.append_left acc)).trans hp
   ·rw [h4, List.length_append, List.length_cons]; simp; omega
theorem qd4 {t : Int × Int} {most : Int} (ht : TpOk t) (h1 : 0 ≤ most) (h2 : most ≤ 14) {kr : List C2 × (Int × Int) → Prop} (hk : ∀ r s, xQ r → (r.length : Int) ≤ most → TpOk s → kr (r, s)) : xV t most kr := by
 unfold xV
 refine qg4 ht fun r t1 hr ht1 => ?_
 have hb := hr.b
 have rl := hb.2.1
 have cut : ∀ s, TpOk s → kr (cutA r none (some most), s) := fun s hs => by
  have e : cutA r none (some most) = r.take (HT.sIx r.length r.length (some most) - 0) := by
   unfold cutA
   rw [HT.sIx_none, List.drop_zero]
  have e2 : (cutA r none (some most)).Sublist r := by rw [e]; exact List.take_sublist ..
  have l2 : ((cutA r none (some most)).length : Int) ≤ most := by
   obtain ⟨n, rfl⟩ := Int.eq_ofNat_of_zero_le h1
   rw [e, HT.sIx_nat, List.length_take]
   omega
  exact hk _ _ ⟨hb.1.sublist e2, Nat.le_trans e2.length_le rl, fun c hc => hb.2.2 c (e2.mem hc)⟩ l2 hs
 have fin : ∀ (b : Bool) (s : Int × Int), TpOk s → (b = true → most < (r.length : Int)) → ifP b ((uf 0 most) ∧ ((rng 0 most).length ≤ sizeLine) ∧ lcW (rng 0 most) ([] : List (Int × Int)) (s, r) (fun turn (s : ((Int × Int) × (List (Int × Int)))) w => qG s.1 (s.2.length : Int) fun t7 => (0 ≤ t7.1 ∧ t7.1 < 2 ^ 63) ∧ exW (s.2[(t7.1 : Int).toNat]?) fun x8 => w (some x8) (t7.2, s.2.eraseIdx (t7.1 : Int).toNat)) fun l11 s12 => kr ((srt tl2 l11), s12.1)) (kr ((cutA r none (some most)), s)) := fun b s hs hb2 => by
  cases b with
  | false => exact Vk rfl (cut s hs)
  | true =>
    have hm := hb2 rfl
    have lr : (rng 0 most).length = most.toNat := by rw [yu]; simp
    refine qbb rfl ⟨uY (by omega) (by omega) (by omega) (by omega), by rw [lr, sz]; omega, ?_⟩
    refine qeL rl (rng 0 most) [] r s hs (by rw [lr]; omega) (by simp) fun A s' h3 h4 h5 => ?_
    have nd : (A ++ s'.2).Nodup := h3.nodup_iff.mpr (Uv hb)
    have ndA := (List.nodup_append.mp nd).1
    refine hk _ _ ⟨qeG A ndA, ?_, fun c hc => hb.2.2 c (h3.mem_iff.mp (List.mem_append_left _ ((vM A).mem_iff.mp hc)))⟩ ?_ h5
    ·rw [(vM A).length_eq, h4, lr]; simp; omega
    ·rw [(vM A).length_eq, h4, lr]; simp; omega
 cases hb2 : decide (most < (r.length : Int)) with
 | false => exact qhG rfl (fin false t1 ht1 fun z => by cases z)
 | true => exact qhF rfl (zN ht1 (by decide) (by decide) fun k t2 _ _ h3 => fin _ t2 h3 fun _ => of_decide_eq_true hb2)
theorem Ve {t : Int × Int} (ht : TpOk t) {kr : List C2 × (Int × Int) → Prop} (hk : ∀ r s, xQ r → r.length ≤ 10 → TpOk s → kr (r, s)) : yO t kr := by
 unfold yO
 simp only [lt]
 refine zN ht (by decide) (by decide) fun a t1 _ _ ht1 => ?_
 dsimp only
 cases ha : decide (a = 0) with
 | true => exact qbb rfl (qd4 ht1 (by decide) (by decide) fun r s h1 h2 h3 => hk r s h1 (by omega) h3)
 | false =>
   refine Vk rfl (zN ht1 (by decide) (by decide) fun b t2 b0 b1 ht2 => ?_)
   dsimp only
   have hq : (1 ≤ (10 : Int) / (1 + b) ∧ (10 : Int) / (1 + b) ≤ 10) ∧ (1 + b) * (10 / (1 + b)) ≤ 10 := by
    have : b = 0 ∨ b = 1 ∨ b = 2 ∨ b = 3 := by omega
    rcases this with rfl | rfl | rfl | rfl <;> decide
   refine ⟨by unfold CDiv; omega, zN ht2 (by omega) (by omega) fun c t3 c0 c1 ht3 => ?_⟩
   dsimp only at c1 ⊢
   refine zN ht3 (by decide) (by decide) fun x t4 x0 x1 ht4 => zN ht4 (by decide) (by decide) fun y t5 y0 y1 ht5 => ?_
   dsimp only
   refine Z6 (by omega) (by omega) (by omega) (by omega) (zN ht5 (by decide) (by decide) fun d t6 d0 d1 ht6 => ?_)
   dsimp only
   have gl := ZP (x := x) (y := y) (w := 1 + b) (h := 1 + c) (by omega) (by omega)
   have g1 : (1 + b) * (1 + c) ≤ (1 + b) * (10 / (1 + b)) := Int.mul_le_mul_of_nonneg_left (by omega) (by omega)
   have g2 : (1 + b) * 1 ≤ (1 + b) * (1 + c) := Int.mul_le_mul_of_nonneg_left (by omega) (by omega)
   refine ⟨uY (by omega) (by omega) (by omega) (by omega), ?_⟩
   refine jf (fun p s => TpOk s.1 ∧ s.2.Sublist (j7 x y (1 + b) (1 + c)) ∧ s.2.length + p.length = (j7 x y (1 + b) (1 + c)).length) ⟨ht6, List.Sublist.refl _, rfl⟩ ?_ ?_
   ·rintro p e q ⟨s1, s2⟩ kk ee ⟨i1, i2, i3⟩ hkk
    dsimp only at i1 i2 i3 ⊢
    have le := congrArg List.length ee
    rw [yu, List.length_append, List.length_cons] at le
    refine zN i1 (by omega) (by omega) fun j t7 j0 j1 ht7 => ?_
    dsimp only at j1 ⊢
    have hj : j.toNat < s2.length := by omega
    refine ⟨⟨j0, by omega⟩, s2[j.toNat], List.getElem?_eq_getElem hj, hkk _ ⟨ht7, (List.eraseIdx_sublist ..).trans i2, ?_⟩⟩
    rw [List.length_append, List.length_singleton]
    dsimp only
    rw [List.length_eraseIdx_of_lt hj]
    omega
   ·rintro ⟨s1, s2⟩ ⟨i1, i2, i3⟩
    dsimp only at i1 i2 i3 ⊢
    have l2 := i2.length_le
    refine hk _ _ ⟨(ZM ..).sublist i2, by omega, fun z hz => ?_⟩ (by omega) i1
    have := uE.mp (i2.mem hz)
    omega
theorem qdZ {l : List Int} (h : l ≠ []) : ∃ m, l.max? = some m ∧ m ∈ l ∧ ∀ x ∈ l, x ≤ m := by
 cases e : l.max? with
 | none => exact (h (List.max?_eq_none_iff.mp e)).elim
 | some m =>
   have := List.max?_eq_some_iff.mp e
   exact ⟨m, rfl, this.1, fun x hx => this.2 x hx⟩
def sized (u o : Int) (m : Int) : List Int := (rng 0 (m + 1)).map fun k => if k % 2 = 0 then u else o
theorem qac {F : C2 → Int} {u o : Int} {r : List C2} {body : C2 → Unit → (Option Int → Unit → Prop) → Prop} {kk : List Int → Prop} (hl : r.length ≤ 1000) (bd : ∀ c ∈ r, 0 ≤ F c ∧ F c ≤ 60) (hb : ∀ c s w, w (some (F c)) s → body c s w) (hk : ∀ m, 0 ≤ m → m ≤ 60 → (∀ c ∈ r, F c ≤ m) → kk (sized u o m)) : (r.length ≤ sizeLine) ∧ lcW r ([] : List Int) () body fun l12 s13 => (l12.length + [(0 : Int)].length ≤ sizeLine) ∧ exW (l12 ++ [0]).max? fun x15 => (uf 0 (x15 + 1)) ∧ ((rng 0 (x15 + 1)).length ≤ sizeLine) ∧ lcW (rng 0 (x15 + 1)) ([] : List Int) () (fun k' (s : Unit) w => exW (atI [u, o] (k' % 2)) fun x19 => w (some x19) ()) fun l21 s22 => kk l21 := by
 refine ⟨by rw [sz]; omega, Xf F (fun c _ w hw => hb c () w hw) ?_⟩
 obtain ⟨m, e, h1, h2⟩ := qdZ (l := r.map F ++ [0]) (by simp)
 have m0 := h2 0 (by simp)
 have m1 : m ≤ 60 := by
  rcases List.mem_append.mp h1 with h1 | h1
  ·obtain ⟨c, hc, rfl⟩ := List.mem_map.mp h1
   exact (bd c hc).2
  ·rw [List.mem_singleton.mp h1]; decide
 refine ⟨by rw [sz, List.length_map, List.length_singleton]; omega, m, e, uY (by omega) (by omega) (by omega) (by omega), by rw [yu, sz]; omega, ?_⟩
 refine Xf (fun k => if k % 2 = 0 then u else o) (fun k _ w hw => ?_) (hk m m0 m1 fun c hc => h2 _ (List.mem_append_left _ (List.mem_map.mpr ⟨c, hc, rfl⟩)))
 have : k % 2 = 0 ∨ k % 2 = 1 := by omega
 rcases this with z | z
 ·rw [if_pos z] at hw
  rw [z]; exact ⟨u, rfl, hw⟩
 ·rw [if_neg (by omega)] at hw
  rw [z]; exact ⟨o, rfl, hw⟩
theorem X3 {u o m : Int} (h : 0 ≤ m) : ((sized u o m).length : Int) = m + 1 := by
 unfold sized
 rw [List.length_map, yu]; omega
theorem XX {u o m : Int} (h1 : 0 ≤ u ∧ u ≤ 1000) (h2 : 0 ≤ o ∧ o ≤ 1000) : ∀ x ∈ sized u o m, 0 ≤ x ∧ x ≤ 1000 := fun x hx => by
 obtain ⟨k, _, rfl⟩ := List.mem_map.mp hx
 split
 ·exact h1
 ·exact h2
theorem Ye {t : Int × Int} {r : List C2} (ht : TpOk t) (hr : xQ r) {kr : List (List Int) × (Int × Int) → Prop} (hk : ∀ w h s, MOk r w h → TpOk s → kr ([w, h], s)) : yf t r kr := by
 unfold yf
 simp only [lt]
 refine zN ht (by decide) (by decide) fun a t1 a0 a1 ht1 => zN ht1 (by decide) (by decide) fun b t2 b0 b1 ht2 => zN ht2 (by decide) (by decide) fun c t3 _ _ ht3 => ?_
 dsimp only
 have rest : ∀ o : Int, 0 ≤ o → o ≤ 1000 → (fun (other : Int) => (uf 0 2) ∧ forW (rng 0 2) ([] : List (List Int)) (fun side (found : (List (List Int))) kk8 => (r.length ≤ sizeLine) ∧ lcW r ([] : List Int) () (fun cell (s : Unit) w => exW (atI [cell.1, cell.2] side) fun x10 => w (some x10) ()) fun l12 s13 => (l12.length + [(0 : Int)].length ≤ sizeLine) ∧ exW (l12 ++ [0]).max? fun x15 => (uf 0 (x15 + 1)) ∧ ((rng 0 (x15 + 1)).length ≤ sizeLine) ∧ lcW (rng 0 (x15 + 1)) ([] : List Int) () (fun k' (s : Unit) w => exW (atI [(1 + a), other] (k' % 2)) fun x19 => w (some x19) ()) fun l21 s22 => (found.length < sizeLine) ∧ kk8 (found ++ [l21])) fun found => kr (found, t3)) o := fun o o0 o1 => by
  refine ⟨uY (by omega) (by omega) (by omega) (by omega), ?_⟩
  show forW [0, 1] _ _ _
  refine qac (F := fun c => c.1) hr.2.1 (fun c hc => (hr.2.2 c hc).1) (fun c s w hw => ⟨c.1, rfl, hw⟩) fun m m0 m1 m2 => ⟨by rw [sz]; decide, ?_⟩
  refine qac (F := fun c => c.2) hr.2.1 (fun c hc => (hr.2.2 c hc).2) (fun c s w hw => ⟨c.2, rfl, hw⟩) fun n n0 n1 n2 => ⟨by rw [sz]; exact (by decide : 0 + 1 < 16777216), ?_⟩
  have l1 := X3 (u := 1 + a) (o := o) m0
  have l2 := X3 (u := 1 + a) (o := o) n0
  refine hk _ _ _ ⟨by omega, by omega, XX (by omega) (by omega), XX (by omega) (by omega), fun c hc => ?_⟩ ht3
  have bd := hr.2.2 c hc
  have e1 := m2 c hc
  have e2 := n2 c hc
  omega
 exact ⟨fun _ => rest _ (by omega) (by omega), fun _ => rest _ (by omega) (by omega)⟩
theorem qg2 {x y : D} {kr : Bool → Prop} (e : x = y) (h : xY 4 y) (hk : kr true) : v8 x y kr := ⟨e, by first | exact h | (rw [e]; exact h), hk⟩
theorem qjl (ns : List Int) {kr : Bool → Prop} (hk : kr true) : qdz ns kr := by
 unfold qdz
 refine ⟨uY (by omega) (by omega) (by omega) (by omega), qee (fun _ => True) trivial ?_ fun _ _ => hk⟩
 intro k hk1 _ kk _ hkk
 rw [Xa] at hk1
 refine qgX (by omega) (by omega) fun t ht => Ve ht fun r s hr hl hs => Ye hs hr fun w h s2 hm hs2 => ?_
 dsimp only
 refine ZK hr (by omega) hm (Yh hr (by omega) hm (Wu (by omega) hm ?_))
 have gl := (qdq r.length hr (Nat.le_refl _) hm).2
 refine qg2 rfl (qi2 XR (so_L (by dsimp only; omega) fun b _ => qgZ b)) ?_
 exact Vk rfl (hkk _ trivial)
end K33
namespace K33
open PySem PySem.Spec PyProof.Rows L2 BX COM BC
def topS (i : Nat) : Stmt := PySem.Challenge.pw_boxcut_k33_the_first_of_the_least.main.body.getD i (.Pass ⟨0, 0, 0, 0⟩)
abbrev xq : Stmt := topS 1
theorem Zo : FnScope ["box", "x", "y", "wide", "high", "found", "column", "row"] ["box"] (defScope xq) := ⟨rfl, rfl, rfl, by decide +kernel, rfl, by decide +kernel, by decide +kernel⟩
section
variable {P : Program} {w : World} {K : PySem.W.Frag} {mg : Str → Option Value} {base : Heap} {k : Nat} {f : Addr} {cdv : Value} {A : Around} {outer : List PySem.Env} {s : Shared} {H : Hp} {E : XK}
theorem rk {N : List Str} {x : Str} {sc : Scope} {b : List Stmt} {t : XS} (hr : Room k (A.deeper (envOfC x sc s.heap.objs.size f cdv))) (q : Ok (cxOf CX0 P w K mg base N x sc f cdv A outer s H E).nox → DSs (cxOf CX0 P w K mg base N x sc f cdv A outer s H E).nox b t) : DSs (cxOf CX0 P w K mg base N x sc f cdv A outer s H E).nox b t := q (Room.ok hr)
theorem qbe (m_tuple : mg "tuple" = none) (m_range : mg "range" = none)
 (hr : Room k (A.deeper (envOfC "cells_of" (defScope xq) s.heap.objs.size f cdv))) :
 DSs (cxOf CX0 P w K mg base ["box", "x", "y", "wide", "high", "found", "column", "row"] "cells_of" (defScope xq) f cdv A outer s H E).nox (defBody xq) Q5 := by
 refine rk hr fun hx => ?_
 have nd := Zo.nd
 exact (qH (Wx (qj 0) (u6 hx (wC (qK nd) (wC (qK nd) (wC (qK nd) (wC (qK nd) jw))))))
  (qH (wg nd (xm qu))
  (qH (u5 hx (ZX (qj 1) (qI wy (qj 1) (qj 3)) m_range) (qK nd) (qT (jU (Z0 (qj 5) (jn (own := [("row", 7)]) (ts := [7]) hx nd (ZX (qj 2) (qI wy (qj 2) (qj 4)) m_range) (blkOk_by (own := [("row", 7)]) (N := ["box", "x", "y", "wide", "high", "found", "column", "row"]) (sc := defScope xq) (by decide +kernel)) (fun _ _ _ _ _ => (qK nd)) (fun _ _ _ _ _ => xH) (fun _ _ _ _ _ => (zq (qd (qj 6) (qd (qj 7) qu)))) (by decide))))))
  (qT (zJ (wW uU (by rfl) m_tuple (by decide +kernel) (qd (qj 5) qu)))))))
abbrev yc : Stmt := topS 3
theorem vq : FnScope ["measure", "cell", "x", "y", "wide", "high"] ["measure", "cell"] (defScope yc) := ⟨rfl, rfl, rfl, by decide +kernel, rfl, by decide +kernel, by decide +kernel⟩
theorem Yj
 (hr : Room k (A.deeper (envOfC "sides_beside" (defScope yc) s.heap.objs.size f cdv))) :
 DSs (cxOf CX0 P w K mg base ["measure", "cell", "x", "y", "wide", "high"] "sides_beside" (defScope yc) f cdv A outer s H E).nox (defBody yc) jX := by
 refine rk hr fun hx => ?_
 have nd := vq.nd
 exact (qH (Wx (qj 1) (u6 hx (wC (qK nd) (wC (qK nd) jw))))
  (qH (ZV hx nd (by decide) (qd (wj hx (wj hx (qj 0) qC) (qj 2)) (qd (wj hx (wj hx (qj 0) qC) (qj 3)) qu)))
  (qT (zJ (xm (qd (zq (qd (zq (qd (qI jj (qj 2) qC) (qd (qj 3) qu))) (qd (qj 5) qu))) (qd (zq (qd (zq (qd (qI wy (qj 2) qC) (qd (qj 3) qu))) (qd (qj 5) qu))) (qd (zq (qd (zq (qd (qj 2) (qd (qI jj (qj 3) qC) qu))) (qd (qj 4) qu))) (qd (zq (qd (zq (qd (qj 2) (qd (qI wy (qj 3) qC) qu))) (qd (qj 4) qu))) qu)))))))))
abbrev wF : Stmt := topS 4
theorem uV : FnScope ["cells", "measure", "there", "total", "cell", "other", "length"] ["cells", "measure"] (defScope wF) := ⟨rfl, rfl, rfl, by decide +kernel, rfl, by decide +kernel, by decide +kernel⟩
theorem Z3 {zG : FS} (F_sides_beside : Fn P w K mg base "sides_beside" k ["measure", "cell"] zG) (m_sum : mg "sum" = none) (m_dict : mg "dict" = none)
 (hr : Room k (A.deeper (envOfC "length_around" (defScope wF) s.heap.objs.size f cdv))) :
 DSs (cxOf CX0 P w K mg base ["cells", "measure", "there", "total", "cell", "other", "length"] "length_around" (defScope wF) f cdv A outer s H E).nox (defBody wF) (jK zG) := by
 refine rk hr fun hx => ?_
 have nd := uV.nd
 exact (qH (wg nd (wW (Wg hx) (by rfl) m_dict (by decide +kernel) (qd (jn (own := [("cell", 4)]) (ts := [4]) hx nd (yX (qj 0)) (blkOk_by (own := [("cell", 4)]) (N := ["cells", "measure", "there", "total", "cell", "other", "length"]) (sc := defScope wF) (by decide +kernel)) (fun _ _ _ _ _ => (qK nd)) (fun _ _ _ _ _ => xH) (fun _ _ _ _ _ => (zq (qd (qj 4) (qd Wf qu)))) (by decide)) qu)))
  (qH (wg nd qC)
  (qH (u5 hx (yX (qj 0)) (qK nd) (qT (qcY ip_add nd (wY (qeY hx) (by rfl) m_sum (by decide +kernel) (qd (jn (own := [("other", 5), ("length", 6)]) (ts := [5, 6]) hx nd (yX (wG F_sides_beside hr (by rfl) (qd (qj 1) (qd (qj 4) qu)))) (blkOk_by (own := [("other", 5), ("length", 6)]) (N := ["cells", "measure", "there", "total", "cell", "other", "length"]) (sc := defScope wF) (by decide +kernel)) (fun _ _ _ _ _ => (u6 (hx).blk (wC (qK nd) (wC (qK nd) jw)))) (fun _ _ _ _ _ => (j9 (wN (vO (hx).blk) (qj 5) (qj 2) (by rfl) JS))) (fun _ _ _ _ _ => (qj 6)) (by decide)) qu)))))
  (qT (zJ (qj 3))))))
abbrev yj : Stmt := topS 5
theorem Qt : FnScope ["room", "boxes", "measure", "total", "box"] ["room", "boxes", "measure"] (defScope yj) := ⟨rfl, rfl, rfl, by decide +kernel, rfl, by decide +kernel, by decide +kernel⟩
theorem JB {qP zr : FS} (F_length_around : Fn P w K mg base "length_around" k ["cells", "measure"] qP) (F_cells_of : Fn P w K mg base "cells_of" k ["box"] zr) (m_sum : mg "sum" = none)
 (hr : Room k (A.deeper (envOfC "cut_length" (defScope yj) s.heap.objs.size f cdv))) :
 DSs (cxOf CX0 P w K mg base ["room", "boxes", "measure", "total", "box"] "cut_length" (defScope yj) f cdv A outer s H E).nox (defBody yj) (vg qP zr) := by
 refine rk hr fun hx => ?_
 have nd := Qt.nd
 exact (qH (wg nd (wY (qeY hx) (by rfl) m_sum (by decide +kernel) (qd (jn (own := [("box", 4)]) (ts := [4]) hx nd (yX (ZZ (qj 1))) (blkOk_by (own := [("box", 4)]) (N := ["room", "boxes", "measure", "total", "box"]) (sc := defScope yj) (by decide +kernel)) (fun _ _ _ _ _ => (qK nd)) (fun _ _ _ _ _ => xH) (fun _ _ _ _ _ => (wG F_length_around hr (by rfl) (qd (wG F_cells_of hr (by rfl) (qd (qj 4) qu)) (qd (qj 2) qu)))) (by decide)) qu)))
  (qT (zJ (qI qae (qI jj (qj 3) (wG F_length_around hr (by rfl) (qd (qj 0) (qd (qj 2) qu)))) qC))))
abbrev yG : Stmt := topS 6
theorem Qu : FnScope ["left", "cell", "x", "y", "most", "found", "wide", "high"] ["left", "cell"] (defScope yG) := ⟨rfl, rfl, rfl, by decide +kernel, rfl, by decide +kernel, by decide +kernel⟩
theorem JC (m_len : mg "len" = none)
 (hr : Room k (A.deeper (envOfC "boxes_from" (defScope yG) s.heap.objs.size f cdv))) :
 DSs (cxOf CX0 P w K mg base ["left", "cell", "x", "y", "most", "found", "wide", "high"] "boxes_from" (defScope yG) f cdv A outer s H E).nox (defBody yG) vh := by
 refine rk hr fun hx => ?_
 have nd := Qu.nd
 exact (qH (Wx (qj 1) (u6 hx (wC (qK nd) (wC (qK nd) jw))))
  (qH (wg nd (wY vH (by rfl) m_len (by decide +kernel) (qd (qj 0) qu)))
  (qH (wg nd (xm qu))
  (qH (wg nd qC)
  (qH (QT (DW.dt (ZS (wN Jb (qj 4) qC (by rfl) Vz) (Qo (wN (qfz hx) (zq (qd (qI jj (qI wy (qj 2) (qj 6)) qC) (qd (qj 3) qu))) (qj 0) (by rfl) JS)))) (qH (wg nd qC)
  (qH (QT (DW.dt (ZS (wN qfy (qj 7) (qj 4) (by rfl) qjC) (Qo (wN (qfz hx) (zq (qd (qI jj (qI wy (qj 2) (qj 6)) qC) (qd (qI jj (qI wy (qj 3) (qj 7)) qC) qu))) (qj 0) (by rfl) JS)))) (qH (jU (QV (qj 5) (zq (qd (qj 2) (qd (qj 3) (qd (qj 6) (qd (qj 7) qu)))))))
  (qT (qcY ip_add nd qC))))
  (qH (wg nd (qI jj (qj 7) qC))
  (qT (qcY ip_add nd qC))))))
  (qT (zJ (qj 5))))))))
abbrev zf : Stmt := inClass (topS 7) 0
theorem ux : FnScope ["self", "measure"] ["self", "measure"] (defScope zf) := ⟨rfl, rfl, rfl, by decide +kernel, rfl, by decide +kernel, by decide +kernel⟩
theorem WN (c_Least_boxes : ObF K "Least" "boxes") (c_Least_length : ObF K "Least" "length") (c_Least_measure : ObF K "Least" "measure")
 (hr : Room k (A.deeper (envOfC "Least.__init__" (defScope zf) s.heap.objs.size f cdv))) :
 DSs (cxOf CX0 P w K mg base ["self", "measure"] "Least.__init__" (defScope zf) f cdv A outer s H E).nox (defBody zf) jt := by
 refine rk hr fun hx => ?_
 have nd := ux.nd
 exact (qH (ZW (qj 1) (qj 0) c_Least_measure)
  (qH (ZW qaw (qj 0) c_Least_length)
  (qT (ZW (qbd (xm qu)) (qj 0) c_Least_boxes))))
abbrev zW : Stmt := inClass (topS 7) 1
theorem vY : FnScope ["self", "left", "boxes", "length", "box", "cells", "rest", "cell"] ["self", "left", "boxes", "length"] (defScope zW) := ⟨rfl, rfl, rfl, by decide +kernel, rfl, by decide +kernel, by decide +kernel⟩
theorem Xq {yr wJ qP zr : FS} (F_boxes_from : Fn P w K mg base "boxes_from" k ["left", "cell"] yr) (F_Least_go_on : Mt P w K mg base "Least" "go_on" k ["self", "left", "boxes", "length"] wJ) (F_length_around : Fn P w K mg base "length_around" k ["cells", "measure"] qP) (F_cells_of : Fn P w K mg base "cells_of" k ["box"] zr) (c_Least_measure : ObF K "Least" "measure") (c_Least_boxes : ObF K "Least" "boxes") (c_Least_length : ObF K "Least" "length") (m_min : mg "min" = none) (m_dict : mg "dict" = none) (m_len : mg "len" = none)
 (hr : Room k (A.deeper (envOfC "Least.go_on" (defScope zW) s.heap.objs.size f cdv))) :
 DSs (cxOf CX0 P w K mg base ["self", "left", "boxes", "length", "box", "cells", "rest", "cell"] "Least.go_on" (defScope zW) f cdv A outer s H E).nox (defBody zW) (uN yr wJ qP zr) := by
 refine rk hr fun hx => ?_
 have nd := vY.nd
 exact (qH (jV (DW.dt (ZS (wN qdP (qav (Jz (qj 0) c_Least_length)) qaw (by rfl) qev) (Qo (qf8 (OpD.low qhe) (qj 3) (Jz (qj 0) c_Least_length) qjE)))) (qT qcW) xG)
  (qH (jV (wN (uQ hx) (wY vH (by rfl) m_len (by decide +kernel) (qd (qj 1) qu)) qC (by rfl) QZ) (qH (ZW (qj 3) (qj 0) c_Least_length)
  (qH (ZW (ZZ (qj 2)) (qj 0) c_Least_boxes)
  (qT qcW))) xG)
  (qT (u5 hx (yX (wG F_boxes_from hr (by rfl) (qd (qj 1) (qd (wY (qgj hx) (by rfl) m_min (by decide +kernel) (qd (qj 1) qu)) qu)))) (qK nd) (qH (wg nd (wG F_cells_of hr (by rfl) (qd (qj 4) qu)))
  (qH (wg nd (wW (Wg hx) (by rfl) m_dict (by decide +kernel) (qd (qhR (jn (own := [("cell", 7)]) (ts := [7]) hx nd (qgc 1) (blkOk_by (own := [("cell", 7)]) (N := ["self", "left", "boxes", "length", "box", "cells", "rest", "cell"]) (sc := defScope zW) (by decide +kernel)) (fun _ _ _ _ _ => (qK nd)) (fun _ _ _ _ _ => (j9 (wN (vO (hx).blk) (qj 7) (qj 5) (by rfl) JS))) (fun _ _ _ _ _ => (zq (qd (qj 7) (qd Wf qu)))) (by decide))) qu)))
  (qT (jU (qc2 F_Least_go_on hr (qj 0) (qd (qj 6) (qd (qbd (qI wy (ZZ (qj 2)) (xm (qd (qj 4) qu)))) (qd (qI wy (qj 3) (wG F_length_around hr (by rfl) (qd (qj 5) (qd (qav (Jz (qj 0) c_Least_measure)) qu)))) qu))))))))))))
abbrev zE : Stmt := topS 8
theorem vz : FnScope ["room", "measure", "least", "cell"] ["room", "measure"] (defScope zE) := ⟨rfl, rfl, rfl, by decide +kernel, rfl, by decide +kernel, by decide +kernel⟩
theorem Yk {yq wJ wL : FS} (F_cut_length : Fn P w K mg base "cut_length" k ["room", "boxes", "measure"] yq) (F_Least_go_on : Mt P w K mg base "Least" "go_on" k ["self", "left", "boxes", "length"] wJ) {k_Least : Nat} (hk_Least : k_Least + 1 ≤ k) (M_Least : Mkn P w K mg base "Least" k_Least ["self", "measure"] wL) (c_Least_boxes : ObF K "Least" "boxes") (m_dict : mg "dict" = none)
 (hr : Room k (A.deeper (envOfC "least_length" (defScope zE) s.heap.objs.size f cdv))) :
 DSs (cxOf CX0 P w K mg base ["room", "measure", "least", "cell"] "least_length" (defScope zE) f cdv A outer s H E).nox (defBody zE) (jY yq wJ wL) := by
 refine rk hr fun hx => ?_
 have nd := vz.nd
 exact (qH (wg nd (qjv M_Least ((hr).mono hk_Least) (by rfl) (qd (qj 1) qu)))
  (qH (jU (qc2 F_Least_go_on hr (qj 2) (qd (wW (Wg hx) (by rfl) m_dict (by decide +kernel) (qd (jn (own := [("cell", 3)]) (ts := [3]) hx nd (yX (qj 0)) (blkOk_by (own := [("cell", 3)]) (N := ["room", "measure", "least", "cell"]) (sc := defScope zE) (by decide +kernel)) (fun _ _ _ _ _ => (qK nd)) (fun _ _ _ _ _ => xH) (fun _ _ _ _ _ => (zq (qd (qj 3) (qd Wf qu)))) (by decide)) qu)) (qd (qbd (xm qu)) (qd qC qu)))))
  (qT (zJ (zq (qd (wG F_cut_length hr (by rfl) (qd (qj 0) (qd (qav (Jz (qj 2) c_Least_boxes)) (qd (qj 1) qu)))) (qd (qav (Jz (qj 2) c_Least_boxes)) qu)))))))
abbrev yZ : Stmt := topS 10
theorem Wm : FnScope ["_law_script", "_law_k", "_law_cell", "_law_digits"] ["_law_script", "_law_k"] (defScope yZ) := ⟨rfl, rfl, rfl, by decide +kernel, rfl, by decide +kernel, by decide +kernel⟩
theorem Vp (m_abs : mg "abs" = none) (m_int : mg "int" = none) (m_len : mg "len" = none)
 (hr : Room k (A.deeper (envOfC "_law_tape" (defScope yZ) s.heap.objs.size f cdv))) :
 DSs (cxOf CX0 P w K mg base ["_law_script", "_law_k", "_law_cell", "_law_digits"] "_law_tape" (defScope yZ) f cdv A outer s H E).nox (defBody yZ) uI := by
 refine rk hr fun hx => ?_
 have nd := Wm.nd
 exact (qH (wg nd qC)
  (qH (jV (wN (Ja hx) (qj 1) (wY vH (by rfl) m_len (by decide +kernel) (qd (qj 0) qu)) (by rfl) qbm) (qT (wg nd (wj hx (qj 0) (qj 1)))) xG)
  (qH (wg nd (qI vD (wY qeZ (by rfl) m_abs (by decide +kernel) (qd (qj 2) qu)) (wW JN (by rfl) m_int (by decide +kernel) (qd (u9 qhe (wY qeZ (by rfl) m_abs (by decide +kernel) (qd (qj 2) qu)) (qI qhc qC qC) (by rfl)) qu))))
  (qT (zJ (xm (qd (qj 3) (qd (qI jQ (qI vD (qI jQ (qI wy (qI wy (qj 2) (qI vD qC (qj 1))) qC) qC) qC) qC) qu))))))))
abbrev xf : Stmt := topS 11
theorem Wq : FnScope ["_law_tape_here", "_law_many", "_law_found", "_law_once"] ["_law_tape_here", "_law_many"] (defScope xf) := ⟨rfl, rfl, rfl, by decide +kernel, rfl, by decide +kernel, by decide +kernel⟩
theorem Vs
 (hr : Room k (A.deeper (envOfC "_law_draw" (defScope xf) s.heap.objs.size f cdv))) :
 DSs (cxOf CX0 P w K mg base ["_law_tape_here", "_law_many", "_law_found", "_law_once"] "_law_draw" (defScope xf) f cdv A outer s H E).nox (defBody xf) uL := by
 refine rk hr fun hx => ?_
 have nd := Wq.nd
 exact (qH (jV (wN Jb (wj hx (qj 0) qC) qC (by rfl) Vz) (qH (wg nd (qI jQ (wj hx (qj 0) qC) (qj 1)))
  (qH (qeW hx (qI qae (wj hx (qj 0) qC) (qj 1)) (qj 0) qC)
  (qT (zJ (qj 2))))) xG)
  (qH (qeW hx (qI jQ (qI wy (qI vD (wj hx (qj 0) qC) qC) qC) qC) (qj 0) qC)
  (qH (wg nd (qI jQ (qI vD (wj hx (qj 0) qC) (qI wy (qI jQ (wj hx (qj 0) qC) qC) qC)) qC))
  (qT (zJ (qI jQ (qI jQ (qI vD (qj 3) (qI wy (qI jQ (qj 3) qC) qC)) qC) (qj 1)))))))
abbrev ym : Stmt := topS 12
theorem Qw : FnScope ["_law_x", "_law_y", "_law_wide", "_law_high", "_law_found", "_law_k", "_law_j"] ["_law_x", "_law_y", "_law_wide", "_law_high"] (defScope ym) := ⟨rfl, rfl, rfl, by decide +kernel, rfl, by decide +kernel, by decide +kernel⟩
theorem JF (m_range : mg "range" = none)
 (hr : Room k (A.deeper (envOfC "_law_cells" (defScope ym) s.heap.objs.size f cdv))) :
 DSs (cxOf CX0 P w K mg base ["_law_x", "_law_y", "_law_wide", "_law_high", "_law_found", "_law_k", "_law_j"] "_law_cells" (defScope ym) f cdv A outer s H E).nox (defBody ym) vp := by
 refine rk hr fun hx => ?_
 have nd := Qw.nd
 exact (qH (wg nd (xm qu))
  (qH (u5 hx (xX (qj 2) m_range) (qK nd) (qT (jU (Z0 (qj 4) (jn (own := [("_law_j", 6)]) (ts := [6]) hx nd (xX (qj 3) m_range) (blkOk_by (own := [("_law_j", 6)]) (N := ["_law_x", "_law_y", "_law_wide", "_law_high", "_law_found", "_law_k", "_law_j"]) (sc := defScope ym) (by decide +kernel)) (fun _ _ _ _ _ => (qK nd)) (fun _ _ _ _ _ => xH) (fun _ _ _ _ _ => (zq (qd (qI wy (qj 0) (qj 5)) (qd (qI wy (qj 1) (qj 6)) qu)))) (by decide))))))
  (qT (zJ (qj 4)))))
abbrev wu : Stmt := topS 13
theorem Qv : FnScope ["_law_tape_here", "_law_wide", "_law_high", "_law_way", "_law_every", "_law_there", "_law_turn", "_law_x", "_law_y", "_law_more", "_law_put", "_law_tall", "_law_cell"] ["_law_tape_here", "_law_wide", "_law_high"] (defScope wu) := ⟨rfl, rfl, rfl, by decide +kernel, rfl, by decide +kernel, by decide +kernel⟩
theorem JD {qD qJ : FS} (F__law_draw : Fn P w K mg base "_law_draw" k ["_law_tape_here", "_law_many"] qD) (F__law_cells : Fn P w K mg base "_law_cells" k ["_law_x", "_law_y", "_law_wide", "_law_high"] qJ) (m_range : mg "range" = none)
 (hr : Room k (A.deeper (envOfC "_law_shape" (defScope wu) s.heap.objs.size f cdv))) :
 DSs (cxOf CX0 P w K mg base ["_law_tape_here", "_law_wide", "_law_high", "_law_way", "_law_every", "_law_there", "_law_turn", "_law_x", "_law_y", "_law_more", "_law_put", "_law_tall", "_law_cell"] "_law_shape" (defScope wu) f cdv A outer s H E).nox (defBody wu) (vm qD qJ) := by
 refine rk hr fun hx => ?_
 have nd := Qv.nd
 exact (qH (wg nd (wG F__law_draw hr (by rfl) (qd (qj 0) (qd qC qu))))
  (qH (wg nd (wG F__law_cells hr (by rfl) (qd qC (qd qC (qd (qj 1) (qd (qj 2) qu))))))
  (qH (jV (wN (Ja hx) (qj 3) qC (by rfl) qbm) (qT (zJ (jn (own := [("_law_cell", 12)]) (ts := [12]) hx nd (yX (qj 4)) (blkOk_by (own := [("_law_cell", 12)]) (N := ["_law_tape_here", "_law_wide", "_law_high", "_law_way", "_law_every", "_law_there", "_law_turn", "_law_x", "_law_y", "_law_more", "_law_put", "_law_tall", "_law_cell"]) (sc := defScope wu) (by decide +kernel)) (fun _ _ _ _ _ => (qK nd)) (fun _ _ _ _ _ => (j9 (wN Jb (wG F__law_draw hr (by rfl) (qd (qj 0) (qd qC qu))) (qI jQ (qj 3) qC) (by rfl) Vz))) (fun _ _ _ _ _ => (qj 12)) (by decide)))) xG)
  (qH (jV (wN (Ja hx) (qj 3) qC (by rfl) qbm) (qH (wg nd qhU)
  (qH (u5 hx (xX (qI wy qC (wG F__law_draw hr (by rfl) (qd (qj 0) (qd qC qu)))) m_range) (qK nd) (qH (ZV hx nd (by decide) (qd (wG F__law_draw hr (by rfl) (qd (qj 0) (qd (qj 1) qu))) (qd (wG F__law_draw hr (by rfl) (qd (qj 0) (qd (qj 2) qu))) qu)))
  (qH (wg nd (wG F__law_cells hr (by rfl) (qd (qj 7) (qd (qj 8) (qd (qI wy qC (wG F__law_draw hr (by rfl) (qd (qj 0) (qd (qI jj (qj 1) (qj 7)) qu)))) (qd (qI wy qC (wG F__law_draw hr (by rfl) (qd (qj 0) (qd (qI jj (qj 2) (qj 8)) qu)))) qu))))))
  (qH (wg nd (qju (u9 (uQ hx) (qj 6) qC (by rfl)) (YB (u9 Jb (wG F__law_draw hr (by rfl) (qd (qj 0) (qd qC qu))) qC (by rfl)))))
  (qT (jU (qc0 hx (qj 5) (qd (jn (own := [("_law_cell", 12)]) (ts := [12]) hx nd (yX (qj 9)) (blkOk_by (own := [("_law_cell", 12)]) (N := ["_law_tape_here", "_law_wide", "_law_high", "_law_way", "_law_every", "_law_there", "_law_turn", "_law_x", "_law_y", "_law_more", "_law_put", "_law_tall", "_law_cell"]) (sc := defScope wu) (by decide +kernel)) (fun _ _ _ _ _ => (qK nd)) (fun _ _ _ _ _ => xH) (fun _ _ _ _ _ => (zq (qd (qj 12) (qd (qj 10) qu)))) (by decide)) qu))))))))
  (qT (zJ (jn (own := [("_law_cell", 12)]) (ts := [12]) hx nd (yX (qj 4)) (blkOk_by (own := [("_law_cell", 12)]) (N := ["_law_tape_here", "_law_wide", "_law_high", "_law_way", "_law_every", "_law_there", "_law_turn", "_law_x", "_law_y", "_law_more", "_law_put", "_law_tall", "_law_cell"]) (sc := defScope wu) (by decide +kernel)) (fun _ _ _ _ _ => (qK nd)) (fun _ _ _ _ _ => (j9 (Ww (qhS (hx).blk (qj 5) (qd (qj 12) (qd Wf qu)))))) (fun _ _ _ _ _ => (qj 12)) (by decide)))))) xG)
  (qH (jV (wN (uQ hx) (qj 3) qC (by rfl) QZ) (qT (zJ (jn (own := [("_law_cell", 12)]) (ts := [12]) hx nd (yX (qj 4)) (blkOk_by (own := [("_law_cell", 12)]) (N := ["_law_tape_here", "_law_wide", "_law_high", "_law_way", "_law_every", "_law_there", "_law_turn", "_law_x", "_law_y", "_law_more", "_law_put", "_law_tall", "_law_cell"]) (sc := defScope wu) (by decide +kernel)) (fun _ _ _ _ _ => (qK nd)) (fun _ _ _ _ _ => (j9 (wN Jb (wG F__law_draw hr (by rfl) (qd (qj 0) (qd qC qu))) qC (by rfl) Vz))) (fun _ _ _ _ _ => (qj 12)) (by decide)))) xG)
  (qH (jV (wN (uQ hx) (qj 3) qC (by rfl) QZ) (qH (wg nd (jn (own := [("_law_x", 7)]) (ts := [7]) hx nd (xX (qj 1) m_range) (blkOk_by (own := [("_law_x", 7)]) (N := ["_law_tape_here", "_law_wide", "_law_high", "_law_way", "_law_every", "_law_there", "_law_turn", "_law_x", "_law_y", "_law_more", "_law_put", "_law_tall", "_law_cell"]) (sc := defScope wu) (by decide +kernel)) (fun _ _ _ _ _ => (qK nd)) (fun _ _ _ _ _ => xH) (fun _ _ _ _ _ => (qI wy qC (wG F__law_draw hr (by rfl) (qd (qj 0) (qd (qj 2) qu))))) (by decide)))
  (qT (zJ (jn (own := [("_law_cell", 12)]) (ts := [12]) hx nd (yX (qj 4)) (blkOk_by (own := [("_law_cell", 12)]) (N := ["_law_tape_here", "_law_wide", "_law_high", "_law_way", "_law_every", "_law_there", "_law_turn", "_law_x", "_law_y", "_law_more", "_law_put", "_law_tall", "_law_cell"]) (sc := defScope wu) (by decide +kernel)) (fun _ _ _ _ _ => (qK nd)) (fun _ _ _ _ _ => (j9 (wN (Ja (hx).blk) (wj (hx).blk (qj 12) qC) (wj (hx).blk (xm (qd (wj (hx).blk (qj 11) (wj (hx).blk (qj 12) qC)) (qd qC qu))) (qI vD (qI jQ (wj (hx).blk (qj 12) qC) qC) (wG F__law_draw hr (by rfl) (qd (qj 0) (qd qC qu))))) (by rfl) qbm))) (fun _ _ _ _ _ => (qj 12)) (by decide))))) xG)
  (qH (jV (wN (uQ hx) (qj 3) qC (by rfl) QZ) (qT (zJ (jn (own := [("_law_cell", 12)]) (ts := [12]) hx nd (yX (qj 4)) (blkOk_by (own := [("_law_cell", 12)]) (N := ["_law_tape_here", "_law_wide", "_law_high", "_law_way", "_law_every", "_law_there", "_law_turn", "_law_x", "_law_y", "_law_more", "_law_put", "_law_tall", "_law_cell"]) (sc := defScope wu) (by decide +kernel)) (fun _ _ _ _ _ => (qK nd)) (fun _ _ _ _ _ => (j9 (DW.dt (qeg (wN (uQ (hx).blk) (qI jQ (wj (hx).blk (qj 12) qC) qC) qC (by rfl) QZ) (qeg (wN (uQ (hx).blk) (qI jQ (wj (hx).blk (qj 12) qC) qC) qC (by rfl) QZ) (qcU (wN (uQ (hx).blk) (wG F__law_draw hr (by rfl) (qd (qj 0) (qd qC qu))) qC (by rfl) QZ))))))) (fun _ _ _ _ _ => (qj 12)) (by decide)))) xG)
  (qT (zJ (jn (own := [("_law_cell", 12)]) (ts := [12]) hx nd (yX (qj 4)) (blkOk_by (own := [("_law_cell", 12)]) (N := ["_law_tape_here", "_law_wide", "_law_high", "_law_way", "_law_every", "_law_there", "_law_turn", "_law_x", "_law_y", "_law_more", "_law_put", "_law_tall", "_law_cell"]) (sc := defScope wu) (by decide +kernel)) (fun _ _ _ _ _ => (qK nd)) (fun _ _ _ _ _ => (j9 (DW.dt (qeg (wN (uQ (hx).blk) (qI jQ (qI wy (wj (hx).blk (qj 12) qC) (wj (hx).blk (qj 12) qC)) qC) qC (by rfl) QZ) (qcU (wN (uQ (hx).blk) (wG F__law_draw hr (by rfl) (qd (qj 0) (qd qC qu))) qC (by rfl) QZ)))))) (fun _ _ _ _ _ => (qj 12)) (by decide)))))))))))
abbrev yK : Stmt := topS 14
theorem Wo : FnScope ["_law_tape_here", "_law_great", "_law_wide", "_law_high", "_law_cells_here", "_law_far", "_law_x", "_law_y"] ["_law_tape_here", "_law_great"] (defScope yK) := ⟨rfl, rfl, rfl, by decide +kernel, rfl, by decide +kernel, by decide +kernel⟩
theorem Vr {qD qJ yt : FS} (F__law_draw : Fn P w K mg base "_law_draw" k ["_law_tape_here", "_law_many"] qD) (F__law_cells : Fn P w K mg base "_law_cells" k ["_law_x", "_law_y", "_law_wide", "_law_high"] qJ) (F__law_shape : Fn P w K mg base "_law_shape" k ["_law_tape_here", "_law_wide", "_law_high"] yt) (m_sorted : mg "sorted" = none) (m_tuple : mg "tuple" = none)
 (hr : Room k (A.deeper (envOfC "_law_room" (defScope yK) s.heap.objs.size f cdv))) :
 DSs (cxOf CX0 P w K mg base ["_law_tape_here", "_law_great", "_law_wide", "_law_high", "_law_cells_here", "_law_far", "_law_x", "_law_y"] "_law_room" (defScope yK) f cdv A outer s H E).nox (defBody yK) (Qe qD qJ yt) := by
 refine rk hr fun hx => ?_
 have nd := Wo.nd
 exact (qH (ZV hx nd (by decide) (qd (qI wy qC (wG F__law_draw hr (by rfl) (qd (qj 0) (qd qC qu)))) (qd (qI wy qC (wG F__law_draw hr (by rfl) (qd (qj 0) (qd qC qu)))) qu)))
  (qH (jV (Ww (qj 1)) (qT (ZV hx nd (by decide) (qd (qI wy qC (wG F__law_draw hr (by rfl) (qd (qj 0) (qd qC qu)))) (qd (qI wy qC (wG F__law_draw hr (by rfl) (qd (qj 0) (qd qC qu)))) qu)))) xG)
  (qH (wg nd (wG F__law_shape hr (by rfl) (qd (qj 0) (qd (qj 2) (qd (qj 3) qu)))))
  (qH (jV (DW.dt (ZS (wN (uQ hx) (qj 4) (xm qu) (by rfl) QZ) (Qo (wN Jb (wG F__law_draw hr (by rfl) (qd (qj 0) (qd qC qu))) qC (by rfl) Vz)))) (qT (wg nd (wG F__law_cells hr (by rfl) (qd qC (qd qC (qd (qj 2) (qd (qj 3) qu))))))) xG)
  (qH (wg nd (xm (qd qC (qd qC qu))))
  (qH (jV (wN (uQ hx) (wG F__law_draw hr (by rfl) (qd (qj 0) (qd qC qu))) qC (by rfl) QZ) (qT (wg nd (wj hx (xm (qd (xm (qd (wG F__law_draw hr (by rfl) (qd (qj 0) (qd qC qu))) (qd (wG F__law_draw hr (by rfl) (qd (qj 0) (qd qC qu))) qu))) (qd (xm (qd (qI jj qC (qj 2)) (qd (qI jj qC (qj 3)) qu))) qu))) (wG F__law_draw hr (by rfl) (qd (qj 0) (qd qC qu)))))) xG)
  (qT (zJ (wW uU (by rfl) m_tuple (by decide +kernel) (qd (wY (JM hx) (by rfl) m_sorted (by decide +kernel) (qd (jn (own := [("_law_x", 6), ("_law_y", 7)]) (ts := [6, 7]) hx nd (yX (qj 4)) (blkOk_by (own := [("_law_x", 6), ("_law_y", 7)]) (N := ["_law_tape_here", "_law_great", "_law_wide", "_law_high", "_law_cells_here", "_law_far", "_law_x", "_law_y"]) (sc := defScope yK) (by decide +kernel)) (fun _ _ _ _ _ => (u6 (hx).blk (wC (qK nd) (wC (qK nd) jw)))) (fun _ _ _ _ _ => xH) (fun _ _ _ _ _ => (zq (qd (qI wy (qj 6) (wj (hx).blk (qj 5) qC)) (qd (qI wy (qj 7) (wj (hx).blk (qj 5) qC)) qu)))) (by decide)) qu)) qu))))))))))
abbrev zQ : Stmt := topS 15
theorem vW : FnScope ["_law_tape_here", "_law_most", "_law_room_here", "_law_left", "_law_turn"] ["_law_tape_here", "_law_most"] (defScope zQ) := ⟨rfl, rfl, rfl, by decide +kernel, rfl, by decide +kernel, by decide +kernel⟩
theorem Xo {qD yN : FS} (F__law_draw : Fn P w K mg base "_law_draw" k ["_law_tape_here", "_law_many"] qD) (F__law_room : Fn P w K mg base "_law_room" k ["_law_tape_here", "_law_great"] yN) (m_len : mg "len" = none) (m_range : mg "range" = none) (m_sorted : mg "sorted" = none) (m_tuple : mg "tuple" = none) (m_list : mg "list" = none)
 (hr : Room k (A.deeper (envOfC "_law_lesser" (defScope zQ) s.heap.objs.size f cdv))) :
 DSs (cxOf CX0 P w K mg base ["_law_tape_here", "_law_most", "_law_room_here", "_law_left", "_law_turn"] "_law_lesser" (defScope zQ) f cdv A outer s H E).nox (defBody zQ) (uK qD yN) := by
 refine rk hr fun hx => ?_
 have nd := vW.nd
 exact (qH (wg nd (wG F__law_room hr (by rfl) (qd (qj 0) (qd Wf qu))))
  (qH (jV (DW.dt (ZS (wN Jb (wY vH (by rfl) m_len (by decide +kernel) (qd (qj 2) qu)) (qj 1) (by rfl) Vz) (Qo (wN (uQ hx) (wG F__law_draw hr (by rfl) (qd (qj 0) (qd qC qu))) qC (by rfl) QZ)))) (qH (wg nd (wW qgm (by rfl) m_list (by decide +kernel) (qd (qj 2) qu)))
  (qT (zJ (wW uU (by rfl) m_tuple (by decide +kernel) (qd (wY (JM hx) (by rfl) m_sorted (by decide +kernel) (qd (jn (own := [("_law_turn", 4)]) (ts := [4]) hx nd (xX (qj 1) m_range) (blkOk_by (own := [("_law_turn", 4)]) (N := ["_law_tape_here", "_law_most", "_law_room_here", "_law_left", "_law_turn"]) (sc := defScope zQ) (by decide +kernel)) (fun _ _ _ _ _ => (qK nd)) (fun _ _ _ _ _ => xH) (fun _ _ _ _ _ => (qau (qj 3) (qd (wG F__law_draw hr (by rfl) (qd (qj 0) (qd (wY vH (by rfl) m_len (by decide +kernel) (qd (qj 3) qu)) qu))) qu))) (by decide)) qu)) qu))))) xG)
  (qT (zJ (qeh (qj 2) qga (qf9 (qj 1)))))))
abbrev xT : Stmt := topS 16
theorem Zq : FnScope ["_law_box", "_law_cell"] ["_law_box", "_law_cell"] (defScope xT) := ⟨rfl, rfl, rfl, by decide +kernel, rfl, by decide +kernel, by decide +kernel⟩
theorem qbf
 (hr : Room k (A.deeper (envOfC "_law_has" (defScope xT) s.heap.objs.size f cdv))) :
 DSs (cxOf CX0 P w K mg base ["_law_box", "_law_cell"] "_law_has" (defScope xT) f cdv A outer s H E).nox (defBody xT) Q6 := by
 refine rk hr fun hx => ?_
 have nd := Zq.nd
 exact (qT (zJ (YC (qay qfy (Ja hx) qC (qI jj (wj hx (qj 1) qC) (wj hx (qj 0) qC)) (wj hx (qj 0) qC)) (YB (qay qfy (Ja hx) qC (qI jj (wj hx (qj 1) qC) (wj hx (qj 0) qC)) (wj hx (qj 0) qC))))))
abbrev wR : Stmt := topS 17
theorem uW : FnScope ["_law_there", "_law_x", "_law_y", "_law_found", "_law_most", "_law_wide", "_law_tall", "_law_high"] ["_law_there", "_law_x", "_law_y"] (defScope wR) := ⟨rfl, rfl, rfl, by decide +kernel, rfl, by decide +kernel, by decide +kernel⟩
theorem Z4 (m_range : mg "range" = none)
 (hr : Room k (A.deeper (envOfC "_law_boxes_at" (defScope wR) s.heap.objs.size f cdv))) :
 DSs (cxOf CX0 P w K mg base ["_law_there", "_law_x", "_law_y", "_law_found", "_law_most", "_law_wide", "_law_tall", "_law_high"] "_law_boxes_at" (defScope wR) f cdv A outer s H E).nox (defBody wR) jL := by
 refine rk hr fun hx => ?_
 have nd := uW.nd
 exact (qH (wg nd (xm qu))
  (qH (Wx (zq (qd qC (qd qC qu))) (u6 hx (wC (qK nd) (wC (qK nd) jw))))
  (qH (QT (wN Jb (qj 4) qC (by rfl) Vz) (qH (wg nd qC)
  (qH (QT (DW.dt (ZS (wN (Ja hx) (qj 6) (qj 4) (by rfl) qbm) (Qo (wN (qfz hx) (zq (qd (qI wy (qj 1) (qj 5)) (qd (qI wy (qj 2) (qj 6)) qu))) (qj 0) (by rfl) JS)))) (qT (wg nd (qI wy (qj 6) qC))))
  (qH (Wx (zq (qd (qj 6) (qd (qI wy (qj 5) qC) qu))) (u6 hx (wC (qK nd) (wC (qK nd) jw))))
  (qT (jU (Z0 (qj 3) (jn (own := [("_law_high", 7)]) (ts := [7]) hx nd (ZX qC (qI wy (qj 6) qC) m_range) (blkOk_by (own := [("_law_high", 7)]) (N := ["_law_there", "_law_x", "_law_y", "_law_found", "_law_most", "_law_wide", "_law_tall", "_law_high"]) (sc := defScope wR) (by decide +kernel)) (fun _ _ _ _ _ => (qK nd)) (fun _ _ _ _ _ => xH) (fun _ _ _ _ _ => (zq (qd (qj 1) (qd (qj 2) (qd (qj 5) (qd (qj 7) qu)))))) (by decide)))))))))
  (qT (zJ (qj 3))))))
abbrev zU : Stmt := topS 18
theorem vX : FnScope ["_law_cells_here", "_law_measure", "_law_there", "_law_total", "_law_x", "_law_y", "_law_high", "_law_wide", "_law_cell"] ["_law_cells_here", "_law_measure"] (defScope zU) := ⟨rfl, rfl, rfl, by decide +kernel, rfl, by decide +kernel, by decide +kernel⟩
theorem Xp (m_int : mg "int" = none) (m_dict : mg "dict" = none)
 (hr : Room k (A.deeper (envOfC "_law_around" (defScope zU) s.heap.objs.size f cdv))) :
 DSs (cxOf CX0 P w K mg base ["_law_cells_here", "_law_measure", "_law_there", "_law_total", "_law_x", "_law_y", "_law_high", "_law_wide", "_law_cell"] "_law_around" (defScope zU) f cdv A outer s H E).nox (defBody zU) uM := by
 refine rk hr fun hx => ?_
 have nd := vX.nd
 exact (qH (wg nd (wW (Wg hx) (by rfl) m_dict (by decide +kernel) (qd (jn (own := [("_law_cell", 8)]) (ts := [8]) hx nd (yX (ZZ (qj 0))) (blkOk_by (own := [("_law_cell", 8)]) (N := ["_law_cells_here", "_law_measure", "_law_there", "_law_total", "_law_x", "_law_y", "_law_high", "_law_wide", "_law_cell"]) (sc := defScope zU) (by decide +kernel)) (fun _ _ _ _ _ => (qK nd)) (fun _ _ _ _ _ => xH) (fun _ _ _ _ _ => (zq (qd (qj 8) (qd Wf qu)))) (by decide)) qu)))
  (qH (wg nd qC)
  (qH (u5 hx (yX (ZZ (qj 0))) (u6 hx (wC (qK nd) (wC (qK nd) jw))) (qH (ZV hx nd (by decide) (qd (wj hx (wj hx (qj 1) qC) (qj 5)) (qd (wj hx (wj hx (qj 1) qC) (qj 4)) qu)))
  (qH (wg nd (qI wy (qI wy (qj 3) (qI vD (qj 6) (wW JN (by rfl) m_int (by decide +kernel) (qd (u9 (vO hx) (zq (qd (qI jj (qj 4) qC) (qd (qj 5) qu))) (qj 2) (by rfl)) qu)))) (qI vD (qj 6) (wW JN (by rfl) m_int (by decide +kernel) (qd (u9 (vO hx) (zq (qd (qI wy (qj 4) qC) (qd (qj 5) qu))) (qj 2) (by rfl)) qu)))))
  (qT (wg nd (qI wy (qI wy (qj 3) (qI vD (qj 7) (wW JN (by rfl) m_int (by decide +kernel) (qd (u9 (vO hx) (zq (qd (qj 4) (qd (qI jj (qj 5) qC) qu))) (qj 2) (by rfl)) qu)))) (qI vD (qj 7) (wW JN (by rfl) m_int (by decide +kernel) (qd (u9 (vO hx) (zq (qd (qj 4) (qd (qI wy (qj 5) qC) qu))) (qj 2) (by rfl)) qu)))))))))
  (qT (zJ (qj 3))))))
abbrev zF : Stmt := topS 19
theorem vU : FnScope ["_law_room_here", "_law_found", "_law_rows", "_law_at", "_law_box", "_law_rest", "_law_cell"] ["_law_room_here"] (defScope zF) := ⟨rfl, rfl, rfl, by decide +kernel, rfl, by decide +kernel, by decide +kernel⟩
theorem Xn {qR zA : FS} (F__law_boxes_at : Fn P w K mg base "_law_boxes_at" k ["_law_there", "_law_x", "_law_y"] qR) (F__law_has : Fn P w K mg base "_law_has" k ["_law_box", "_law_cell"] zA) (m_sorted : mg "sorted" = none) (m_len : mg "len" = none) (m_dict : mg "dict" = none) (m_tuple : mg "tuple" = none)
 (hr : Room k (A.deeper (envOfC "_law_states" (defScope zF) s.heap.objs.size f cdv))) :
 DSs (cxOf CX0 P w K mg base ["_law_room_here", "_law_found", "_law_rows", "_law_at", "_law_box", "_law_rest", "_law_cell"] "_law_states" (defScope zF) f cdv A outer s H E).nox (defBody zF) (uJ qR zA) := by
 refine rk hr fun hx => ?_
 have nd := vU.nd
 exact (qH (ZV hx nd (by decide) (qd (qax hx (qj 0) Wf) (qd (xm (qd (qj 0) qu)) qu)))
  (qH (wg nd qC)
  (qH (QT (wN (Ja hx) (qj 3) (wY vH (by rfl) m_len (by decide +kernel) (qd (qj 2) qu)) (by rfl) qbm) (qH (u5 hx (yX (wG F__law_boxes_at hr (by rfl) (qd (wW (Wg hx) (by rfl) m_dict (by decide +kernel) (qd (jn (own := [("_law_cell", 6)]) (ts := [6]) hx nd (yX (wj hx (qj 2) (qj 3))) (blkOk_by (own := [("_law_cell", 6)]) (N := ["_law_room_here", "_law_found", "_law_rows", "_law_at", "_law_box", "_law_rest", "_law_cell"]) (sc := defScope zF) (by decide +kernel)) (fun _ _ _ _ _ => (qK nd)) (fun _ _ _ _ _ => xH) (fun _ _ _ _ _ => (zq (qd (qj 6) (qd Wf qu)))) (by decide)) qu)) (qd (wj hx (wj hx (wj hx (qj 2) (qj 3)) qC) qC) (qd (wj hx (wj hx (wj hx (qj 2) (qj 3)) qC) qC) qu))))) (qK nd) (qH (wg nd (wW uU (by rfl) m_tuple (by decide +kernel) (qd (jn (own := [("_law_cell", 6)]) (ts := [6]) hx nd (yX (wj hx (qj 2) (qj 3))) (blkOk_by (own := [("_law_cell", 6)]) (N := ["_law_room_here", "_law_found", "_law_rows", "_law_at", "_law_box", "_law_rest", "_law_cell"]) (sc := defScope zF) (by decide +kernel)) (fun _ _ _ _ _ => (qK nd)) (fun _ _ _ _ _ => (j9 (qcV (Ww (wG F__law_has hr (by rfl) (qd (qj 4) (qd (qj 6) qu))))))) (fun _ _ _ _ _ => (qj 6)) (by decide)) qu)))
  (qH (jV (DW.dt (ZS (wN (qfx hx) (qj 5) (qj 1) (by rfl) qh2) (Qo (wN (qdO hx) (qj 5) (zq qu) (by rfl) qeu)))) (qT (jU (QV (qj 2) (qj 5)))) xG)
  (qT (qcX hx Wf (qj 1) (qj 5))))))
  (qT (wg nd (qI wy (qj 3) qC)))))
  (qT (zJ (qbc hx (qj 2) m_sorted m_len))))))
abbrev wA : Stmt := topS 20
theorem uv : FnScope ["_law_room_here", "_law_measure", "_law_best", "_law_left", "_law_some", "_law_box", "_law_more", "_law_behind", "_law_cell"] ["_law_room_here", "_law_measure"] (defScope wA) := ⟨rfl, rfl, rfl, by decide +kernel, rfl, by decide +kernel, by decide +kernel⟩
theorem WM {zX qR qZ qJ zA : FS} (F__law_states : Fn P w K mg base "_law_states" k ["_law_room_here"] zX) (F__law_boxes_at : Fn P w K mg base "_law_boxes_at" k ["_law_there", "_law_x", "_law_y"] qR) (F__law_around : Fn P w K mg base "_law_around" k ["_law_cells_here", "_law_measure"] qZ) (F__law_cells : Fn P w K mg base "_law_cells" k ["_law_x", "_law_y", "_law_wide", "_law_high"] qJ) (F__law_has : Fn P w K mg base "_law_has" k ["_law_box", "_law_cell"] zA) (m_min : mg "min" = none) (m_dict : mg "dict" = none) (m_tuple : mg "tuple" = none)
 (hr : Room k (A.deeper (envOfC "_law_least_due" (defScope wA) s.heap.objs.size f cdv))) :
 DSs (cxOf CX0 P w K mg base ["_law_room_here", "_law_measure", "_law_best", "_law_left", "_law_some", "_law_box", "_law_more", "_law_behind", "_law_cell"] "_law_least_due" (defScope wA) f cdv A outer s H E).nox (defBody wA) (jr zX qR qZ qJ zA) := by
 refine rk hr fun hx => ?_
 have nd := uv.nd
 exact (qH (wg nd (qax hx (zq qu) (qhT (zq (qd qC (qd (xm qu) qu))))))
  (qH (u5 hx (yX (qjw (wN (qdO hx) (qj 0) (zq qu) (by rfl) qeu) (wG F__law_states hr (by rfl) (qd (qj 0) qu)) (xm qu))) (qK nd) (qH (wg nd (xm qu))
  (qH (u5 hx (yX (wG F__law_boxes_at hr (by rfl) (qd (wW (Wg hx) (by rfl) m_dict (by decide +kernel) (qd (jn (own := [("_law_cell", 8)]) (ts := [8]) hx nd (yX (qj 3)) (blkOk_by (own := [("_law_cell", 8)]) (N := ["_law_room_here", "_law_measure", "_law_best", "_law_left", "_law_some", "_law_box", "_law_more", "_law_behind", "_law_cell"]) (sc := defScope wA) (by decide +kernel)) (fun _ _ _ _ _ => (qK nd)) (fun _ _ _ _ _ => xH) (fun _ _ _ _ _ => (zq (qd (qj 8) (qd Wf qu)))) (by decide)) qu)) (qd (wj hx (wj hx (qj 3) qC) qC) (qd (wj hx (wj hx (qj 3) qC) qC) qu))))) (qK nd) (qH (Wx (qc3 hx (qj 2) (wW uU (by rfl) m_tuple (by decide +kernel) (qd (jn (own := [("_law_cell", 8)]) (ts := [8]) hx nd (yX (qj 3)) (blkOk_by (own := [("_law_cell", 8)]) (N := ["_law_room_here", "_law_measure", "_law_best", "_law_left", "_law_some", "_law_box", "_law_more", "_law_behind", "_law_cell"]) (sc := defScope wA) (by decide +kernel)) (fun _ _ _ _ _ => (qK nd)) (fun _ _ _ _ _ => (j9 (qcV (Ww (wG F__law_has hr (by rfl) (qd (qj 5) (qd (qj 8) qu))))))) (fun _ _ _ _ _ => (qj 8)) (by decide)) qu))) (u6 hx (wC (qK nd) (wC (qK nd) jw))))
  (qT (jU (QV (qj 4) (zq (qd (qI wy (qj 6) (wG F__law_around hr (by rfl) (qd (qbd (wG F__law_cells hr (by rfl) (qd (wj hx (qj 5) qC) (qd (wj hx (qj 5) qC) (qd (wj hx (qj 5) qC) (qd (wj hx (qj 5) qC) qu)))))) (qd (qj 1) qu)))) (qd (qbd (qI wy (xm (qd (qj 5) qu)) (ZZ (qj 7)))) qu))))))))
  (qT (qcX hx (wY (qgk hx) (by rfl) m_min (by decide +kernel) (qd (qj 4) qu)) (qj 2) (qj 3))))))
  (qT (zJ (qc3 hx (qj 2) (qj 0))))))
abbrev yJ : Stmt := topS 21
theorem Wn : FnScope ["_law_found", "_law_due", "_law_one", "_law_other"] ["_law_found", "_law_due"] (defScope yJ) := ⟨rfl, rfl, rfl, by decide +kernel, rfl, by decide +kernel, by decide +kernel⟩
theorem Vq {zu : FS} (F__law_same : Fn P w K mg base "_law_same" k ["_law_found", "_law_due"] zu) (m_isinstance : mg "isinstance" = none) (m_bool : mg "bool" = none) (m_int : mg "int" = none) (m_str : mg "str" = none) (m_list : mg "list" = none) (m_tuple : mg "tuple" = none) (m_zip : mg "zip" = none) (m_all : mg "all" = none) (m_len : mg "len" = none)
 (hr : Room k (A.deeper (envOfC "_law_same" (defScope yJ) s.heap.objs.size f cdv))) :
 DSs (cxOf CX0 P w K mg base ["_law_found", "_law_due", "_law_one", "_law_other"] "_law_same" (defScope yJ) f cdv A outer s H E).nox (defBody yJ) (Qc zu) := by
 refine rk hr fun hx => ?_
 have nd := Wn.nd
 exact (qH (jV (wN qhd (qj 1) qaw (by rfl) qjD) (qT (zJ (u9 qhd (qj 0) qaw (by rfl)))) xG)
  (qH (jV (Ww (qgf Ul YS (qj 1) m_isinstance m_list m_tuple (by rfl) (by rfl))) (qH (jV (DW.dt (qeg (wN (qdO hx) (v5 Ul (qj 0) m_isinstance m_list (by rfl)) (v5 Ul (qj 1) m_isinstance m_list (by rfl)) (by rfl) qeu) (qcU (wN (qdO hx) (v5 YS (qj 0) m_isinstance m_tuple (by rfl)) (v5 YS (qj 1) m_isinstance m_tuple (by rfl)) (by rfl) qeu)))) (qT (zJ Wf)) xG)
  (qT (zJ (YC (u9 (uQ hx) (wY vH (by rfl) m_len (by decide +kernel) (qd (qj 0) qu)) (wY vH (by rfl) m_len (by decide +kernel) (qd (qj 1) qu)) (by rfl)) (YB (wY (qhX hx) (by rfl) m_all (by decide +kernel) (qd (jn (own := [("_law_one", 2), ("_law_other", 3)]) (ts := [2, 3]) hx nd (qhP (qj 0) (qj 1) m_zip) (blkOk_by (own := [("_law_one", 2), ("_law_other", 3)]) (N := ["_law_found", "_law_due", "_law_one", "_law_other"]) (sc := defScope yJ) (by decide +kernel)) (fun _ _ _ _ _ => (u6 (hx).blk (wC (qK nd) (wC (qK nd) jw)))) (fun _ _ _ _ _ => xH) (fun _ _ _ _ _ => (wG F__law_same hr (by rfl) (qd (qj 2) (qd (qj 3) qu)))) (by decide)) qu))))))) xG)
  (qH (jV (Ww (v5 Um (qj 1) m_isinstance m_bool (by rfl))) (qT (zJ (YC (v5 Um (qj 0) m_isinstance m_bool (by rfl)) (YB (u9 (uQ hx) (qj 0) (qj 1) (by rfl)))))) xG)
  (qH (jV (Ww (v5 qeC (qj 1) m_isinstance m_str (by rfl))) (qT (zJ (YC (v5 qeC (qj 0) m_isinstance m_str (by rfl)) (YB (u9 (uQ hx) (qj 0) (qj 1) (by rfl)))))) xG)
  (qT (zJ (YC (v5 qgW (qj 0) m_isinstance m_int (by rfl)) (YC (qgd (v5 Um (qj 0) m_isinstance m_bool (by rfl))) (YB (u9 (uQ hx) (qj 0) (qj 1) (by rfl)))))))))))
abbrev zb : Stmt := topS 22
theorem uo : FnScope ["_law_tape_here", "_law_wide", "_law_high", "_law_x", "_law_y", "_law_cells_here", "_law_turn"] ["_law_tape_here"] (defScope zb) := ⟨rfl, rfl, rfl, by decide +kernel, rfl, by decide +kernel, by decide +kernel⟩
theorem WL {qD qJ zY : FS} (F__law_draw : Fn P w K mg base "_law_draw" k ["_law_tape_here", "_law_many"] qD) (F__law_cells : Fn P w K mg base "_law_cells" k ["_law_x", "_law_y", "_law_wide", "_law_high"] qJ) (F__law_lesser : Fn P w K mg base "_law_lesser" k ["_law_tape_here", "_law_most"] zY) (m_tuple : mg "tuple" = none) (m_len : mg "len" = none) (m_min : mg "min" = none) (m_range : mg "range" = none)
 (hr : Room k (A.deeper (envOfC "_law_like_room" (defScope zb) s.heap.objs.size f cdv))) :
 DSs (cxOf CX0 P w K mg base ["_law_tape_here", "_law_wide", "_law_high", "_law_x", "_law_y", "_law_cells_here", "_law_turn"] "_law_like_room" (defScope zb) f cdv A outer s H E).nox (defBody zb) (jo qD qJ zY) := by
 refine rk hr fun hx => ?_
 have nd := uo.nd
 exact (qH (jV (wN (uQ hx) (wG F__law_draw hr (by rfl) (qd (qj 0) (qd qC qu))) qC (by rfl) QZ) (qT (zJ (wG F__law_lesser hr (by rfl) (qd (qj 0) (qd qC qu))))) xG)
  (qH (wg nd (qI wy qC (wG F__law_draw hr (by rfl) (qd (qj 0) (qd qC qu)))))
  (qH (wg nd (qI wy qC (wG F__law_draw hr (by rfl) (qd (qj 0) (qd (qI qae qC (qj 1)) qu)))))
  (qH (ZV hx nd (by decide) (qd (wG F__law_draw hr (by rfl) (qd (qj 0) (qd qC qu))) (qd (wG F__law_draw hr (by rfl) (qd (qj 0) (qd qC qu))) qu)))
  (qH (wg nd (wG F__law_cells hr (by rfl) (qd (qj 3) (qd (qj 4) (qd (qj 1) (qd (qj 2) qu))))))
  (qH (u5 hx (xX (wY (qc6 hx) (by rfl) m_min (by decide +kernel) (qd (qI jj (wY vH (by rfl) m_len (by decide +kernel) (qd (qj 5) qu)) qC) (qd (wG F__law_draw hr (by rfl) (qd (qj 0) (qd qC qu))) qu))) m_range) (qK nd) (qT (jU (qau (qj 5) (qd (wG F__law_draw hr (by rfl) (qd (qj 0) (qd (wY vH (by rfl) m_len (by decide +kernel) (qd (qj 5) qu)) qu))) qu)))))
  (qT (zJ (wW uU (by rfl) m_tuple (by decide +kernel) (qd (qj 5) qu))))))))))
abbrev qW : Stmt := topS 23
theorem jy : FnScope ["_law_tape_here", "_law_room_here", "_law_one", "_law_other", "_law_found", "_law_side", "_law_most", "_law_k", "_law_cell"] ["_law_tape_here", "_law_room_here"] (defScope qW) := ⟨rfl, rfl, rfl, by decide +kernel, rfl, by decide +kernel, by decide +kernel⟩
theorem Qp {qD : FS} (F__law_draw : Fn P w K mg base "_law_draw" k ["_law_tape_here", "_law_many"] qD) (m_tuple : mg "tuple" = none) (m_range : mg "range" = none) (m_max : mg "max" = none)
 (hr : Room k (A.deeper (envOfC "_law_like_measure" (defScope qW) s.heap.objs.size f cdv))) :
 DSs (cxOf CX0 P w K mg base ["_law_tape_here", "_law_room_here", "_law_one", "_law_other", "_law_found", "_law_side", "_law_most", "_law_k", "_law_cell"] "_law_like_measure" (defScope qW) f cdv A outer s H E).nox (defBody qW) (xP qD) := by
 refine rk hr fun hx => ?_
 have nd := jy.nd
 exact (qH (Wx (zq (qd (qI wy qC (wG F__law_draw hr (by rfl) (qd (qj 0) (qd qC qu)))) (qd (qI wy qC (wG F__law_draw hr (by rfl) (qd (qj 0) (qd qC qu)))) qu))) (u6 hx (wC (qK nd) (wC (qK nd) jw))))
  (qH (jV (wN (uQ hx) (wG F__law_draw hr (by rfl) (qd (qj 0) (qd qC qu))) qC (by rfl) QZ) (qT (wg nd (qj 2))) xG)
  (qH (wg nd (xm qu))
  (qH (u5 hx (xX qC m_range) (qK nd) (qH (wg nd (wY (qgl hx) (by rfl) m_max (by decide +kernel) (qd (qI wy (jn (own := [("_law_cell", 8)]) (ts := [8]) hx nd (yX (qj 1)) (blkOk_by (own := [("_law_cell", 8)]) (N := ["_law_tape_here", "_law_room_here", "_law_one", "_law_other", "_law_found", "_law_side", "_law_most", "_law_k", "_law_cell"]) (sc := defScope qW) (by decide +kernel)) (fun _ _ _ _ _ => (qK nd)) (fun _ _ _ _ _ => xH) (fun _ _ _ _ _ => (wj (hx).blk (qj 8) (qj 5))) (by decide)) (xm (qd qC qu))) qu)))
  (qT (jU (QV (qj 4) (qbd (jn (own := [("_law_k", 7)]) (ts := [7]) hx nd (xX (qI wy (qj 6) qC) m_range) (blkOk_by (own := [("_law_k", 7)]) (N := ["_law_tape_here", "_law_room_here", "_law_one", "_law_other", "_law_found", "_law_side", "_law_most", "_law_k", "_law_cell"]) (sc := defScope qW) (by decide +kernel)) (fun _ _ _ _ _ => (qK nd)) (fun _ _ _ _ _ => xH) (fun _ _ _ _ _ => (wj (hx).blk (xm (qd (qj 2) (qd (qj 3) qu))) (qI jQ (qj 7) qC))) (by decide))))))))
  (qT (zJ (wW uU (by rfl) m_tuple (by decide +kernel) (qd (qj 4) qu))))))))
abbrev Zr : Stmt := topS 24
theorem qeH : FnScope ["_law_script", "_law_k", "_law_tape_here", "_law_room_here", "_law_measure", "_law_shuts", "_law_boxes"] ["_law_script"] (defScope Zr) := ⟨rfl, rfl, rfl, by decide +kernel, rfl, by decide +kernel, by decide +kernel⟩
theorem qjx {zu zH qZ wI qY wH yM : FS} (F__law_same : Fn P w K mg base "_law_same" k ["_law_found", "_law_due"] zu) (F_least_length : Fn P w K mg base "least_length" k ["room", "measure"] zH) (F__law_around : Fn P w K mg base "_law_around" k ["_law_cells_here", "_law_measure"] qZ) (F__law_least_due : Fn P w K mg base "_law_least_due" k ["_law_room_here", "_law_measure"] wI) (F__law_like_measure : Fn P w K mg base "_law_like_measure" k ["_law_tape_here", "_law_room_here"] qY) (F__law_like_room : Fn P w K mg base "_law_like_room" k ["_law_tape_here"] wH) (F__law_tape : Fn P w K mg base "_law_tape" k ["_law_script", "_law_k"] yM) (m_len : mg "len" = none) (m_min : mg "min" = none) (m_range : mg "range" = none)
 (hr : Room k (A.deeper (envOfC "law" (defScope Zr) s.heap.objs.size f cdv))) :
 DSs (cxOf CX0 P w K mg base ["_law_script", "_law_k", "_law_tape_here", "_law_room_here", "_law_measure", "_law_shuts", "_law_boxes"] "law" (defScope Zr) f cdv A outer s H E).nox (defBody Zr) (qfg zu zH qZ wI qY wH yM) := by
 refine rk hr fun hx => ?_
 have nd := qeH.nd
 exact (qH (u5 hx (xX (qI wy qC (wY (qc6 hx) (by rfl) m_min (by decide +kernel) (qd qC (qd (wY vH (by rfl) m_len (by decide +kernel) (qd (qj 0) qu)) qu)))) m_range) (qK nd) (qH (wg nd (wG F__law_tape hr (by rfl) (qd (qj 0) (qd (qj 1) qu))))
  (qH (wg nd (wG F__law_like_room hr (by rfl) (qd (qj 2) qu)))
  (qH (wg nd (wG F__law_like_measure hr (by rfl) (qd (qj 2) (qd (qj 3) qu))))
  (qH (Wx (wG F__law_least_due hr (by rfl) (qd (qj 3) (qd (qj 4) qu))) (u6 hx (wC (qK nd) (wC (qK nd) jw))))
  (qT (jV (qcV (Ww (wG F__law_same hr (by rfl) (qd (qc1 (wG F_least_length hr (by rfl) (qd (qj 3) (qd (qj 4) qu)))) (qd (qc1 (zq (qd (qI qae (qI jj (qj 5) (wG F__law_around hr (by rfl) (qd (qj 3) (qd (qj 4) qu)))) qC) (qd (ZZ (qj 6)) qu)))) qu))))) (qT (zJ Wf)) xG)))))))
  (qT (zJ Wf)))
end
end K33
namespace K33
open PySem PySem.Spec PyProof.Rows L2 BX TX COM BC
theorem Ue : ∀ ds Q, zu.wp ds Q → (vf 4).wp ds Q := fun ds Q h => by
 obtain ⟨⟨x, y⟩, kr, rfl, ⟨hxy, hs, h⟩, q⟩ := h
 have hxy : x = y := hxy
 subst hxy
 exact ⟨x, rfl, hs, q true h⟩
section
theorem yw {P : Program} {w : World} {K : PySem.W.Frag} {mg : Str → Option Value} {base : Heap} {x y : Str} {st : Stmt} {f : Addr} {fd : FuncData} {ps : List Str} {k : Nat} {S : FS} (F : Fun K y y st f fd) (ok : FnOk P w K mg base CX0 k f fd ps (spOf K S)) (hm : mg x = some (.ref f)) (hb : Binds K fd ps []) (mo : Wj S) : Fn P w K mg base x k ps S :=
 ⟨⟨f, fd, ok, hm, F.kp, hb⟩, mo⟩
theorem xM {P : Program} {w : World} {K : PySem.W.Frag} {mg : Str → Option Value} {base : Heap} {x : Str} {ps : List Str} {j k : Nat} {S : FS} (F : Fn P w K mg base x j ps S) (h : j ≤ k) : Fn P w K mg base x k ps S :=
 let ⟨f, fd, a, b⟩ := F.ex; ⟨⟨f, fd, a.mono h, b⟩, F.mono⟩
theorem qjh {P : Program} {w : World} {K : PySem.W.Frag} {mg : Str → Option Value} {base : Heap} {n x : Str} {ps : List Str} {j k : Nat} {S : FS} (F : Mt P w K mg base n x j ps S) (h : j ≤ k) : Mt P w K mg base n x k ps S :=
 let ⟨C, f, fd, a, b, c, d, e⟩ := F.ex; ⟨⟨C, f, fd, a, b, c, d.mono h, e⟩, F.mono⟩
theorem sp_law {K : PySem.W.Frag} {H : Hp} {a : Addr} {ns : List Int} (hs : SqL K H a (ns.map V.int)) {E : XK} : spOf K JX [.ref a] H (fun v _ => v = .bl true) E := by
 have ri : ∀ ns : List Int, Reps K H 2 (ns.map D.int) (ns.map V.int) [] := fun ns => by
  induction ns with
  | nil => exact .nil
  | cons n ns ih => exact .cons (f := []) (g := []) (.int n) ih fun z => by cases z
 have rp : ∃ g, Rep K H 2 (.lst (ns.map D.int)) (.ref a) g := by
  rcases hs with (h | ⟨o, h⟩) | h
  ·exact ⟨_, .lst h (ri ns) fun z => by cases z⟩
  ·exact ⟨_, .lstF (Nat.le_refl _) (.inl ⟨o, h⟩) (ri ns)⟩
  ·exact ⟨_, .lstF (Nat.le_refl _) (.inr h) (ri ns)⟩
 obtain ⟨g, rp⟩ := rp
 refine ⟨rfl, [.lst (ns.map .int)], fun _ => g, rfl, ⟨fun i d m e => ?_, fun i j d m d' m' hij e1 e2 => ?_, rfl⟩, ns, fun b => b = true, rfl, qjl ns rfl, ?_⟩
 ·match i, e with
  | 0, e => cases e; exact ⟨_, rfl, rp⟩
  | i + 1, e => simp [penv, JX, mkS] at e
 ·match i, j, e1, e2 with
  | 0, 0, _, _ => exact absurd rfl hij
  | 0, j + 1, _, e2 => simp [penv, JX, mkS] at e2
  | i + 1, _, e1, _ => simp [penv, JX, mkS] at e1
 ·intro b hb v H' f' g' _ _ r _ _ _
  subst hb
  cases r
  rfl
end
set_option maxHeartbeats 0 in
theorem qh7 {l : PySem.W.OpenLaw} {w : World} {K : PySem.W.Frag} {h : Heap} {mg : Str → Option Value} {fa f1 f2 f3 f4 f5 f6 f7 f8 f9 f10 f11 f12 f13 f14 f15 f16 f17 f18 f19 f20 f21 f22 f23 : Addr} (X : K.In h) (G : h.Ns mainGlobals mg) (hfa : mg "law" = some (.ref fa))
 {od1 an1 od2 an2 od3 an3 od4 an4 od5 an5 od6 an6 od7 an7 od8 an8 od9 an9 od10 an10 od11 an11 od12 an12 od13 an13 od14 an14 od15 an15 od16 an16 od17 an17 od18 an18 od19 an19 od20 an20 od21 an21 od22 an22 od23 an23 : Option Addr} {sl1 sl2 sl3 sl4 sl5 sl6 sl7 sl8 sl9 sl10 sl11 sl12 sl13 sl14 sl15 sl16 sl17 sl18 sl19 sl20 sl21 sl22 sl23 : Array (Option Value)} {oc1 kV1 dc1 pm1 cd1 ct1 oc2 kV2 dc2 pm2 cd2 ct2 oc3 kV3 dc3 pm3 cd3 ct3 oc4 kV4 dc4 pm4 cd4 ct4 oc5 kV5 dc5 pm5 cd5 ct5 oc6 kV6 dc6 pm6 cd6 ct6 oc7 kV7 dc7 pm7 cd7 ct7 oc8 kV8 dc8 pm8 cd8 ct8 oc9 kV9 dc9 pm9 cd9 ct9 oc10 kV10 dc10 pm10 cd10 ct10 oc11 kV11 dc11 pm11 cd11 ct11 oc12 kV12 dc12 pm12 cd12 ct12 oc13 kV13 dc13 pm13 cd13 ct13 oc14 kV14 dc14 pm14 cd14 ct14 oc15 kV15 dc15 pm15 cd15 ct15 oc16 kV16 dc16 pm16 cd16 ct16 oc17 kV17 dc17 pm17 cd17 ct17 oc18 kV18 dc18 pm18 cd18 ct18 oc19 kV19 dc19 pm19 cd19 ct19 oc20 kV20 dc20 pm20 cd20 ct20 oc21 kV21 dc21 pm21 cd21 ct21 oc22 kV22 dc22 pm22 cd22 ct22 oc23 kV23 dc23 pm23 cd23 ct23 : Value}
 {CLeast : Addr} (qLeasta : PySem.W.nsIn K mainGlobals "Least" = some (some (.ref CLeast))) (qLeastp : PySem.W.plainGet K CLeast Str.empty = true) (qLeastd : PySem.W.hasDictIn K CLeast = true) (qLeasto : PySem.W.plainOver K CLeast = true) (qLeasts : PySem.W.findIn K (.ref CLeast) "__setattr__" = some (some (.builtin "object.__setattr__"))) (qLeastm : PySem.W.makesIn K CLeast = true) (qLeastk : PySem.W.keepIn K (.ref CLeast) = true)
 (nc_Least_boxes : PySem.W.findIn K (.ref CLeast) "boxes" = some none)
 (nc_Least_length : PySem.W.findIn K (.ref CLeast) "length" = some none)
 (nc_Least_measure : PySem.W.findIn K (.ref CLeast) "measure" = some none)
 (a1 : PySem.W.nsIn K mainGlobals "cells_of" = some (some (.ref f1))) (l1 : K.lookup f1 = some ⟨oc1, od1, .func (PySem.W.fnOf "cells_of" "cells_of" (defArgs xq) (defBody xq) (defScope xq) .none kV1 dc1 pm1 an1 cd1 ct1), sl1⟩) (c1 : PySem.W.codeIn K cd1 "cells_of" = true) (k1 : PySem.W.keepIn K (.ref f1) = true)
 (a2 : PySem.W.nsIn K mainGlobals "sides_beside" = some (some (.ref f2))) (l2 : K.lookup f2 = some ⟨oc2, od2, .func (PySem.W.fnOf "sides_beside" "sides_beside" (defArgs yc) (defBody yc) (defScope yc) .none kV2 dc2 pm2 an2 cd2 ct2), sl2⟩) (c2 : PySem.W.codeIn K cd2 "sides_beside" = true) (k2 : PySem.W.keepIn K (.ref f2) = true)
 (a3 : PySem.W.nsIn K mainGlobals "length_around" = some (some (.ref f3))) (l3 : K.lookup f3 = some ⟨oc3, od3, .func (PySem.W.fnOf "length_around" "length_around" (defArgs wF) (defBody wF) (defScope wF) .none kV3 dc3 pm3 an3 cd3 ct3), sl3⟩) (c3 : PySem.W.codeIn K cd3 "length_around" = true) (k3 : PySem.W.keepIn K (.ref f3) = true)
 (a4 : PySem.W.nsIn K mainGlobals "cut_length" = some (some (.ref f4))) (l4 : K.lookup f4 = some ⟨oc4, od4, .func (PySem.W.fnOf "cut_length" "cut_length" (defArgs yj) (defBody yj) (defScope yj) .none kV4 dc4 pm4 an4 cd4 ct4), sl4⟩) (c4 : PySem.W.codeIn K cd4 "cut_length" = true) (k4 : PySem.W.keepIn K (.ref f4) = true)
 (a5 : PySem.W.nsIn K mainGlobals "boxes_from" = some (some (.ref f5))) (l5 : K.lookup f5 = some ⟨oc5, od5, .func (PySem.W.fnOf "boxes_from" "boxes_from" (defArgs yG) (defBody yG) (defScope yG) .none kV5 dc5 pm5 an5 cd5 ct5), sl5⟩) (c5 : PySem.W.codeIn K cd5 "boxes_from" = true) (k5 : PySem.W.keepIn K (.ref f5) = true)
 (a6 : PySem.W.findIn K (.ref CLeast) "__init__" = some (some (.ref f6))) (i6 : PySem.W.isFn K (.ref f6) = true) (l6 : K.lookup f6 = some ⟨oc6, od6, .func (PySem.W.fnOf "__init__" "Least.__init__" (defArgs zf) (defBody zf) (defScope zf) .none kV6 dc6 pm6 an6 cd6 ct6), sl6⟩) (c6 : PySem.W.codeIn K cd6 "Least.__init__" = true) (k6 : PySem.W.keepIn K (.ref f6) = true)
 (a7 : PySem.W.findIn K (.ref CLeast) "go_on" = some (some (.ref f7))) (i7 : PySem.W.isFn K (.ref f7) = true) (l7 : K.lookup f7 = some ⟨oc7, od7, .func (PySem.W.fnOf "go_on" "Least.go_on" (defArgs zW) (defBody zW) (defScope zW) .none kV7 dc7 pm7 an7 cd7 ct7), sl7⟩) (c7 : PySem.W.codeIn K cd7 "Least.go_on" = true) (k7 : PySem.W.keepIn K (.ref f7) = true)
 (a8 : PySem.W.nsIn K mainGlobals "least_length" = some (some (.ref f8))) (l8 : K.lookup f8 = some ⟨oc8, od8, .func (PySem.W.fnOf "least_length" "least_length" (defArgs zE) (defBody zE) (defScope zE) .none kV8 dc8 pm8 an8 cd8 ct8), sl8⟩) (c8 : PySem.W.codeIn K cd8 "least_length" = true) (k8 : PySem.W.keepIn K (.ref f8) = true)
 (a9 : PySem.W.nsIn K mainGlobals "_law_tape" = some (some (.ref f9))) (l9 : K.lookup f9 = some ⟨oc9, od9, .func (PySem.W.fnOf "_law_tape" "_law_tape" (defArgs yZ) (defBody yZ) (defScope yZ) .none kV9 dc9 pm9 an9 cd9 ct9), sl9⟩) (c9 : PySem.W.codeIn K cd9 "_law_tape" = true) (k9 : PySem.W.keepIn K (.ref f9) = true)
 (a10 : PySem.W.nsIn K mainGlobals "_law_draw" = some (some (.ref f10))) (l10 : K.lookup f10 = some ⟨oc10, od10, .func (PySem.W.fnOf "_law_draw" "_law_draw" (defArgs xf) (defBody xf) (defScope xf) .none kV10 dc10 pm10 an10 cd10 ct10), sl10⟩) (c10 : PySem.W.codeIn K cd10 "_law_draw" = true) (k10 : PySem.W.keepIn K (.ref f10) = true)
 (a11 : PySem.W.nsIn K mainGlobals "_law_cells" = some (some (.ref f11))) (l11 : K.lookup f11 = some ⟨oc11, od11, .func (PySem.W.fnOf "_law_cells" "_law_cells" (defArgs ym) (defBody ym) (defScope ym) .none kV11 dc11 pm11 an11 cd11 ct11), sl11⟩) (c11 : PySem.W.codeIn K cd11 "_law_cells" = true) (k11 : PySem.W.keepIn K (.ref f11) = true)
 (a12 : PySem.W.nsIn K mainGlobals "_law_shape" = some (some (.ref f12))) (l12 : K.lookup f12 = some ⟨oc12, od12, .func (PySem.W.fnOf "_law_shape" "_law_shape" (defArgs wu) (defBody wu) (defScope wu) .none kV12 dc12 pm12 an12 cd12 ct12), sl12⟩) (c12 : PySem.W.codeIn K cd12 "_law_shape" = true) (k12 : PySem.W.keepIn K (.ref f12) = true)
 (a13 : PySem.W.nsIn K mainGlobals "_law_room" = some (some (.ref f13))) (l13 : K.lookup f13 = some ⟨oc13, od13, .func (PySem.W.fnOf "_law_room" "_law_room" (defArgs yK) (defBody yK) (defScope yK) .none kV13 dc13 pm13 an13 cd13 ct13), sl13⟩) (c13 : PySem.W.codeIn K cd13 "_law_room" = true) (k13 : PySem.W.keepIn K (.ref f13) = true)
 (a14 : PySem.W.nsIn K mainGlobals "_law_lesser" = some (some (.ref f14))) (l14 : K.lookup f14 = some ⟨oc14, od14, .func (PySem.W.fnOf "_law_lesser" "_law_lesser" (defArgs zQ) (defBody zQ) (defScope zQ) .none kV14 dc14 pm14 an14 cd14 ct14), sl14⟩) (c14 : PySem.W.codeIn K cd14 "_law_lesser" = true) (k14 : PySem.W.keepIn K (.ref f14) = true)
 (a15 : PySem.W.nsIn K mainGlobals "_law_has" = some (some (.ref f15))) (l15 : K.lookup f15 = some ⟨oc15, od15, .func (PySem.W.fnOf "_law_has" "_law_has" (defArgs xT) (defBody xT) (defScope xT) .none kV15 dc15 pm15 an15 cd15 ct15), sl15⟩) (c15 : PySem.W.codeIn K cd15 "_law_has" = true) (k15 : PySem.W.keepIn K (.ref f15) = true)
 (a16 : PySem.W.nsIn K mainGlobals "_law_boxes_at" = some (some (.ref f16))) (l16 : K.lookup f16 = some ⟨oc16, od16, .func (PySem.W.fnOf "_law_boxes_at" "_law_boxes_at" (defArgs wR) (defBody wR) (defScope wR) .none kV16 dc16 pm16 an16 cd16 ct16), sl16⟩) (c16 : PySem.W.codeIn K cd16 "_law_boxes_at" = true) (k16 : PySem.W.keepIn K (.ref f16) = true)
 (a17 : PySem.W.nsIn K mainGlobals "_law_around" = some (some (.ref f17))) (l17 : K.lookup f17 = some ⟨oc17, od17, .func (PySem.W.fnOf "_law_around" "_law_around" (defArgs zU) (defBody zU) (defScope zU) .none kV17 dc17 pm17 an17 cd17 ct17), sl17⟩) (c17 : PySem.W.codeIn K cd17 "_law_around" = true) (k17 : PySem.W.keepIn K (.ref f17) = true)
 (a18 : PySem.W.nsIn K mainGlobals "_law_states" = some (some (.ref f18))) (l18 : K.lookup f18 = some ⟨oc18, od18, .func (PySem.W.fnOf "_law_states" "_law_states" (defArgs zF) (defBody zF) (defScope zF) .none kV18 dc18 pm18 an18 cd18 ct18), sl18⟩) (c18 : PySem.W.codeIn K cd18 "_law_states" = true) (k18 : PySem.W.keepIn K (.ref f18) = true)
 (a19 : PySem.W.nsIn K mainGlobals "_law_least_due" = some (some (.ref f19))) (l19 : K.lookup f19 = some ⟨oc19, od19, .func (PySem.W.fnOf "_law_least_due" "_law_least_due" (defArgs wA) (defBody wA) (defScope wA) .none kV19 dc19 pm19 an19 cd19 ct19), sl19⟩) (c19 : PySem.W.codeIn K cd19 "_law_least_due" = true) (k19 : PySem.W.keepIn K (.ref f19) = true)
 (a20 : PySem.W.nsIn K mainGlobals "_law_same" = some (some (.ref f20))) (l20 : K.lookup f20 = some ⟨oc20, od20, .func (PySem.W.fnOf "_law_same" "_law_same" (defArgs yJ) (defBody yJ) (defScope yJ) .none kV20 dc20 pm20 an20 cd20 ct20), sl20⟩) (c20 : PySem.W.codeIn K cd20 "_law_same" = true) (k20 : PySem.W.keepIn K (.ref f20) = true)
 (a21 : PySem.W.nsIn K mainGlobals "_law_like_room" = some (some (.ref f21))) (l21 : K.lookup f21 = some ⟨oc21, od21, .func (PySem.W.fnOf "_law_like_room" "_law_like_room" (defArgs zb) (defBody zb) (defScope zb) .none kV21 dc21 pm21 an21 cd21 ct21), sl21⟩) (c21 : PySem.W.codeIn K cd21 "_law_like_room" = true) (k21 : PySem.W.keepIn K (.ref f21) = true)
 (a22 : PySem.W.nsIn K mainGlobals "_law_like_measure" = some (some (.ref f22))) (l22 : K.lookup f22 = some ⟨oc22, od22, .func (PySem.W.fnOf "_law_like_measure" "_law_like_measure" (defArgs qW) (defBody qW) (defScope qW) .none kV22 dc22 pm22 an22 cd22 ct22), sl22⟩) (c22 : PySem.W.codeIn K cd22 "_law_like_measure" = true) (k22 : PySem.W.keepIn K (.ref f22) = true)
 (a23 : PySem.W.nsIn K mainGlobals "law" = some (some (.ref f23))) (l23 : K.lookup f23 = some ⟨oc23, od23, .func (PySem.W.fnOf "law" "law" (defArgs Zr) (defBody Zr) (defScope Zr) .none kV23 dc23 pm23 an23 cd23 ct23), sl23⟩) (c23 : PySem.W.codeIn K cd23 "law" = true) (k23 : PySem.W.keepIn K (.ref f23) = true)
 (z1 : PySem.W.nsIn K mainGlobals "tuple" = some none)
 (z2 : PySem.W.nsIn K mainGlobals "range" = some none)
 (z3 : PySem.W.nsIn K mainGlobals "sum" = some none)
 (z4 : PySem.W.nsIn K mainGlobals "dict" = some none)
 (z5 : PySem.W.nsIn K mainGlobals "len" = some none)
 (z6 : PySem.W.nsIn K mainGlobals "min" = some none)
 (z7 : PySem.W.nsIn K mainGlobals "abs" = some none)
 (z8 : PySem.W.nsIn K mainGlobals "int" = some none)
 (z9 : PySem.W.nsIn K mainGlobals "sorted" = some none)
 (z10 : PySem.W.nsIn K mainGlobals "list" = some none)
 (z11 : PySem.W.nsIn K mainGlobals "isinstance" = some none)
 (z12 : PySem.W.nsIn K mainGlobals "bool" = some none)
 (z13 : PySem.W.nsIn K mainGlobals "str" = some none)
 (z14 : PySem.W.nsIn K mainGlobals "zip" = some none)
 (z15 : PySem.W.nsIn K mainGlobals "all" = some none)
 (z16 : PySem.W.nsIn K mainGlobals "max" = some none)
 : ∃ fd : FuncData, (∀ (s : Shared) (v : Value), BindsTo s fd ⟨[v], []⟩ [("_law_script", v)]) ∧ ∀ base : Heap, K.In base → base.Ns mainGlobals mg → FnOk l.prog w K mg base CX0 44 fa fd ["_law_script"] (spOf K JX) := by
 have e := hfa.symm.trans (PySem.W.mg_of X G a23)
 cases e
 have U1 := fun_mk (st := xq) l1 c1 k1
 have U2 := fun_mk (st := yc) l2 c2 k2
 have U3 := fun_mk (st := wF) l3 c3 k3
 have U4 := fun_mk (st := yj) l4 c4 k4
 have U5 := fun_mk (st := yG) l5 c5 k5
 have U6 := fun_mk (st := zf) l6 c6 k6
 have U7 := fun_mk (st := zW) l7 c7 k7
 have U8 := fun_mk (st := zE) l8 c8 k8
 have U9 := fun_mk (st := yZ) l9 c9 k9
 have U10 := fun_mk (st := xf) l10 c10 k10
 have U11 := fun_mk (st := ym) l11 c11 k11
 have U12 := fun_mk (st := wu) l12 c12 k12
 have U13 := fun_mk (st := yK) l13 c13 k13
 have U14 := fun_mk (st := zQ) l14 c14 k14
 have U15 := fun_mk (st := xT) l15 c15 k15
 have U16 := fun_mk (st := wR) l16 c16 k16
 have U17 := fun_mk (st := zU) l17 c17 k17
 have U18 := fun_mk (st := zF) l18 c18 k18
 have U19 := fun_mk (st := wA) l19 c19 k19
 have U20 := fun_mk (st := yJ) l20 c20 k20
 have U21 := fun_mk (st := zb) l21 c21 k21
 have U22 := fun_mk (st := qW) l22 c22 k22
 have U23 := fun_mk (st := Zr) l23 c23 k23
 have b1 := U1.binds (ps := ["box"]) fun _ _ _ _ _ _ us hl => match us, hl with | [_], _ => rfl
 have b2 := U2.binds (ps := ["measure", "cell"]) fun _ _ _ _ _ _ us hl => match us, hl with | [_, _], _ => rfl
 have b3 := U3.binds (ps := ["cells", "measure"]) fun _ _ _ _ _ _ us hl => match us, hl with | [_, _], _ => rfl
 have b4 := U4.binds (ps := ["room", "boxes", "measure"]) fun _ _ _ _ _ _ us hl => match us, hl with | [_, _, _], _ => rfl
 have b5 := U5.binds (ps := ["left", "cell"]) fun _ _ _ _ _ _ us hl => match us, hl with | [_, _], _ => rfl
 have b6 := U6.binds (ps := ["self", "measure"]) fun _ _ _ _ _ _ us hl => match us, hl with | [_, _], _ => rfl
 have b7 := U7.binds (ps := ["self", "left", "boxes", "length"]) fun _ _ _ _ _ _ us hl => match us, hl with | [_, _, _, _], _ => rfl
 have b8 := U8.binds (ps := ["room", "measure"]) fun _ _ _ _ _ _ us hl => match us, hl with | [_, _], _ => rfl
 have b9 := U9.binds (ps := ["_law_script", "_law_k"]) fun _ _ _ _ _ _ us hl => match us, hl with | [_, _], _ => rfl
 have b10 := U10.binds (ps := ["_law_tape_here", "_law_many"]) fun _ _ _ _ _ _ us hl => match us, hl with | [_, _], _ => rfl
 have b11 := U11.binds (ps := ["_law_x", "_law_y", "_law_wide", "_law_high"]) fun _ _ _ _ _ _ us hl => match us, hl with | [_, _, _, _], _ => rfl
 have b12 := U12.binds (ps := ["_law_tape_here", "_law_wide", "_law_high"]) fun _ _ _ _ _ _ us hl => match us, hl with | [_, _, _], _ => rfl
 have b13 := U13.binds (ps := ["_law_tape_here", "_law_great"]) fun _ _ _ _ _ _ us hl => match us, hl with | [_, _], _ => rfl
 have b14 := U14.binds (ps := ["_law_tape_here", "_law_most"]) fun _ _ _ _ _ _ us hl => match us, hl with | [_, _], _ => rfl
 have b15 := U15.binds (ps := ["_law_box", "_law_cell"]) fun _ _ _ _ _ _ us hl => match us, hl with | [_, _], _ => rfl
 have b16 := U16.binds (ps := ["_law_there", "_law_x", "_law_y"]) fun _ _ _ _ _ _ us hl => match us, hl with | [_, _, _], _ => rfl
 have b17 := U17.binds (ps := ["_law_cells_here", "_law_measure"]) fun _ _ _ _ _ _ us hl => match us, hl with | [_, _], _ => rfl
 have b18 := U18.binds (ps := ["_law_room_here"]) fun _ _ _ _ _ _ us hl => match us, hl with | [_], _ => rfl
 have b19 := U19.binds (ps := ["_law_room_here", "_law_measure"]) fun _ _ _ _ _ _ us hl => match us, hl with | [_, _], _ => rfl
 have b20 := U20.binds (ps := ["_law_found", "_law_due"]) fun _ _ _ _ _ _ us hl => match us, hl with | [_, _], _ => rfl
 have b21 := U21.binds (ps := ["_law_tape_here"]) fun _ _ _ _ _ _ us hl => match us, hl with | [_], _ => rfl
 have b22 := U22.binds (ps := ["_law_tape_here", "_law_room_here"]) fun _ _ _ _ _ _ us hl => match us, hl with | [_, _], _ => rfl
 have b23 := U23.binds (ps := ["_law_script"]) fun _ _ _ _ _ _ us hl => match us, hl with | [_], _ => rfl
 have C_Least : Cls K CLeast := ⟨qLeastp, qLeastd, qLeasto, qLeasts⟩
 have c_Least_boxes : ObF K "Least" "boxes" := fun C e => by
  have e := Option.some.inj (Option.some.inj (qLeasta.symm.trans e))
  cases e
  exact ⟨C_Least, nc_Least_boxes⟩
 have c_Least_length : ObF K "Least" "length" := fun C e => by
  have e := Option.some.inj (Option.some.inj (qLeasta.symm.trans e))
  cases e
  exact ⟨C_Least, nc_Least_length⟩
 have c_Least_measure : ObF K "Least" "measure" := fun C e => by
  have e := Option.some.inj (Option.some.inj (qLeasta.symm.trans e))
  cases e
  exact ⟨C_Least, nc_Least_measure⟩
 have m_tuple := PySem.W.mg_none_of X G z1
 have m_range := PySem.W.mg_none_of X G z2
 have m_sum := PySem.W.mg_none_of X G z3
 have m_dict := PySem.W.mg_none_of X G z4
 have m_len := PySem.W.mg_none_of X G z5
 have m_min := PySem.W.mg_none_of X G z6
 have m_abs := PySem.W.mg_none_of X G z7
 have m_int := PySem.W.mg_none_of X G z8
 have m_sorted := PySem.W.mg_none_of X G z9
 have m_list := PySem.W.mg_none_of X G z10
 have m_isinstance := PySem.W.mg_none_of X G z11
 have m_bool := PySem.W.mg_none_of X G z12
 have m_str := PySem.W.mg_none_of X G z13
 have m_zip := PySem.W.mg_none_of X G z14
 have m_all := PySem.W.mg_none_of X G z15
 have m_max := PySem.W.mg_none_of X G z16
 refine ⟨PySem.W.fnOf "law" "law" (defArgs Zr) (defBody Zr) (defScope Zr) .none kV23 dc23 pm23 an23 cd23 ct23, fun s v => .of_eq rfl, fun base _ _ => ?_⟩
 have F_cells_of : Fn l.prog w K mg base "cells_of" 1 ["box"] zr := yw U1 (yh (k := 0) (S := zr) U1 Zo rfl (by decide) (fun _ _ _ _ _ _ hr => qbe m_tuple m_range hr) qa1) (PySem.W.mg_of X G a1) b1 zp
 have F_sides_beside : Fn l.prog w K mg base "sides_beside" 1 ["measure", "cell"] zG := yw U2 (yh (k := 0) (S := zG) U2 vq rfl (by decide) (fun _ _ _ _ _ _ hr => Yj  hr) Z9) (PySem.W.mg_of X G a2) b2 zp
 have F_length_around : Fn l.prog w K mg base "length_around" 2 ["cells", "measure"] qP := yw U3 (yh (k := 1) (S := qP) U3 uV rfl (by decide) (fun _ _ _ _ _ _ hr => Z3 (xM F_sides_beside (by decide : 1 ≤ 1)) m_sum m_dict hr) Za) (PySem.W.mg_of X G a3) b3 zp
 have F_cut_length : Fn l.prog w K mg base "cut_length" 3 ["room", "boxes", "measure"] yq := yw U4 (yh (k := 2) (S := yq) U4 Qt rfl (by decide) (fun _ _ _ _ _ _ hr => JB (xM F_length_around (by decide : 2 ≤ 2)) (xM F_cells_of (by decide : 1 ≤ 2)) m_sum hr) XH) (PySem.W.mg_of X G a4) b4 zp
 have F_boxes_from : Fn l.prog w K mg base "boxes_from" 1 ["left", "cell"] yr := yw U5 (yh (k := 0) (S := yr) U5 Qu rfl (by decide) (fun _ _ _ _ _ _ hr => JC m_len hr) XJ) (PySem.W.mg_of X G a5) b5 zp
 have M_Least : Mkn l.prog w K mg base "Least" 1 ["self", "measure"] wL := ⟨⟨_, _, _, qLeasta, PySem.W.mg_of X G qLeasta, ⟨qLeastm, a6, i6, qLeastk⟩, (yh (k := 0) (S := wL) U6 ux rfl (by decide) (fun _ _ _ _ _ _ hr => WN c_Least_boxes c_Least_length c_Least_measure hr) WF), b6⟩, zp⟩
 have F_Least_go_on : Mt l.prog w K mg base "Least" "go_on" 42 ["self", "left", "boxes", "length"] wJ := by
  have allN : ∀ n : Nat, Mt l.prog w K mg base "Least" "go_on" (2 + n) ["self", "left", "boxes", "length"] (xN n) := by
   intro n
   induction n with
   | zero => exact ⟨⟨_, _, _, qLeasta, C_Least, ⟨a7, i7, k7⟩, ⟨fun vs H Q E h => h.1, fun A outer s H args us vs Q E _ _ _ _ h => by obtain ⟨_, _, _, _, _, h⟩ := h; exact (YH h).elim⟩, b7⟩, QH 0⟩
   | succ n F => exact ⟨⟨_, _, _, qLeasta, C_Least, ⟨a7, i7, k7⟩, (yh (k := 2 + n) U7 vY rfl (by show ∀ m ∈ [Md.io, Md.io, Md.ro, Md.cst], m ≠ .own ∧ m ≠ .lk; decide) (fun _ _ _ _ _ _ hr => Xq (xM F_boxes_from (by omega)) F (xM F_length_around (by omega)) (xM F_cells_of (by omega)) c_Least_measure c_Least_boxes c_Least_length m_min m_dict m_len hr) (YQ n)), b7⟩, QH (n + 1)⟩
  exact allN 40
 have F_least_length : Fn l.prog w K mg base "least_length" 43 ["room", "measure"] zH := yw U8 (yh (k := 42) (S := zH) U8 vz rfl (by decide) (fun _ _ _ _ _ _ hr => Yk (xM F_cut_length (by decide : 3 ≤ 42)) (qjh F_Least_go_on (by decide : 42 ≤ 42)) (by decide : 1 + 1 ≤ 42) M_Least c_Least_boxes m_dict hr) Yb) (PySem.W.mg_of X G a8) b8 zp
 have F__law_tape : Fn l.prog w K mg base "_law_tape" 1 ["_law_script", "_law_k"] yM := yw U9 (yh (k := 0) (S := yM) U9 Wm rfl (by decide) (fun _ _ _ _ _ _ hr => Vp m_abs m_int m_len hr) Ug) (PySem.W.mg_of X G a9) b9 zp
 have F__law_draw : Fn l.prog w K mg base "_law_draw" 1 ["_law_tape_here", "_law_many"] qD := yw U10 (yh (k := 0) (S := qD) U10 Wq rfl (by decide) (fun _ _ _ _ _ _ hr => Vs  hr) Ui) (PySem.W.mg_of X G a10) b10 zp
 have F__law_cells : Fn l.prog w K mg base "_law_cells" 1 ["_law_x", "_law_y", "_law_wide", "_law_high"] qJ := yw U11 (yh (k := 0) (S := qJ) U11 Qw rfl (by decide) (fun _ _ _ _ _ _ hr => JF m_range hr) XN) (PySem.W.mg_of X G a11) b11 zp
 have F__law_shape : Fn l.prog w K mg base "_law_shape" 2 ["_law_tape_here", "_law_wide", "_law_high"] yt := yw U12 (yh (k := 1) (S := yt) U12 Qv rfl (by decide) (fun _ _ _ _ _ _ hr => JD (xM F__law_draw (by decide : 1 ≤ 1)) (xM F__law_cells (by decide : 1 ≤ 1)) m_range hr) XM) (PySem.W.mg_of X G a12) b12 zp
 have F__law_room : Fn l.prog w K mg base "_law_room" 3 ["_law_tape_here", "_law_great"] yN := yw U13 (yh (k := 2) (S := yN) U13 Wo rfl (by decide) (fun _ _ _ _ _ _ hr => Vr (xM F__law_draw (by decide : 1 ≤ 2)) (xM F__law_cells (by decide : 1 ≤ 2)) (xM F__law_shape (by decide : 2 ≤ 2)) m_sorted m_tuple hr) Uh) (PySem.W.mg_of X G a13) b13 zp
 have F__law_lesser : Fn l.prog w K mg base "_law_lesser" 4 ["_law_tape_here", "_law_most"] zY := yw U14 (yh (k := 3) (S := zY) U14 vW rfl (by decide) (fun _ _ _ _ _ _ hr => Xo (xM F__law_draw (by decide : 1 ≤ 3)) (xM F__law_room (by decide : 3 ≤ 3)) m_len m_range m_sorted m_tuple m_list hr) YL) (PySem.W.mg_of X G a14) b14 zp
 have F__law_has : Fn l.prog w K mg base "_law_has" 1 ["_law_box", "_law_cell"] zA := yw U15 (yh (k := 0) (S := zA) U15 Zq rfl (by decide) (fun _ _ _ _ _ _ hr => qbf  hr) qa2) (PySem.W.mg_of X G a15) b15 zp
 have F__law_boxes_at : Fn l.prog w K mg base "_law_boxes_at" 1 ["_law_there", "_law_x", "_law_y"] qR := yw U16 (yh (k := 0) (S := qR) U16 uW rfl (by decide) (fun _ _ _ _ _ _ hr => Z4 m_range hr) Zb) (PySem.W.mg_of X G a16) b16 zp
 have F__law_around : Fn l.prog w K mg base "_law_around" 1 ["_law_cells_here", "_law_measure"] qZ := yw U17 (yh (k := 0) (S := qZ) U17 vX rfl (by decide) (fun _ _ _ _ _ _ hr => Xp m_int m_dict hr) YM) (PySem.W.mg_of X G a17) b17 zp
 have F__law_states : Fn l.prog w K mg base "_law_states" 2 ["_law_room_here"] zX := yw U18 (yh (k := 1) (S := zX) U18 vU rfl (by decide) (fun _ _ _ _ _ _ hr => Xn (xM F__law_boxes_at (by decide : 1 ≤ 1)) (xM F__law_has (by decide : 1 ≤ 1)) m_sorted m_len m_dict m_tuple hr) YK) (PySem.W.mg_of X G a18) b18 zp
 have F__law_least_due : Fn l.prog w K mg base "_law_least_due" 3 ["_law_room_here", "_law_measure"] wI := yw U19 (yh (k := 2) (S := wI) U19 uv rfl (by decide) (fun _ _ _ _ _ _ hr => WM (xM F__law_states (by decide : 2 ≤ 2)) (xM F__law_boxes_at (by decide : 1 ≤ 2)) (xM F__law_around (by decide : 1 ≤ 2)) (xM F__law_cells (by decide : 1 ≤ 2)) (xM F__law_has (by decide : 1 ≤ 2)) m_min m_dict m_tuple hr) WD) (PySem.W.mg_of X G a19) b19 zp
 have F__law_same : Fn l.prog w K mg base "_law_same" 4 ["_law_found", "_law_due"] (vf 4) := by
  have allN : ∀ n : Nat, Fn l.prog w K mg base "_law_same" (0 + n) ["_law_found", "_law_due"] (vf n) := by
   intro n
   induction n with
   | zero => exact yw U20 ⟨fun vs H Q E h => h.1, fun A outer s H args us vs Q E _ _ _ _ h => by obtain ⟨_, _, _, _, _, d, _, z, _⟩ := h; exact z.elim⟩ (PySem.W.mg_of X G a20) b20 (qeQ 0)
   | succ n F => exact yw U20 (yh (k := 0 + n) U20 Wn rfl (by show ∀ m ∈ [Md.cst, Md.cst], m ≠ .own ∧ m ≠ .lk; decide) (fun _ _ _ _ _ _ hr => Vq F m_isinstance m_bool m_int m_str m_list m_tuple m_zip m_all m_len hr) (qh4 n)) (PySem.W.mg_of X G a20) b20 (qeQ (n + 1))
  exact allN 4
 have F__law_same := qhK (S' := zu) F__law_same rfl (Ue) zp
 have F__law_like_room : Fn l.prog w K mg base "_law_like_room" 5 ["_law_tape_here"] wH := yw U21 (yh (k := 4) (S := wH) U21 uo rfl (by decide) (fun _ _ _ _ _ _ hr => WL (xM F__law_draw (by decide : 1 ≤ 4)) (xM F__law_cells (by decide : 1 ≤ 4)) (xM F__law_lesser (by decide : 4 ≤ 4)) m_tuple m_len m_min m_range hr) Wz) (PySem.W.mg_of X G a21) b21 zp
 have F__law_like_measure : Fn l.prog w K mg base "_law_like_measure" 2 ["_law_tape_here", "_law_room_here"] qY := yw U22 (yh (k := 1) (S := qY) U22 jy rfl (by decide) (fun _ _ _ _ _ _ hr => Qp (xM F__law_draw (by decide : 1 ≤ 1)) m_tuple m_range m_max hr) v9) (PySem.W.mg_of X G a22) b22 zp
 exact yh (k := 43) (S := JX) U23 qeH rfl (by decide) (fun _ _ _ _ _ _ hr => qjx (xM F__law_same (by decide : 4 ≤ 43)) (xM F_least_length (by decide : 43 ≤ 43)) (xM F__law_around (by decide : 1 ≤ 43)) (xM F__law_least_due (by decide : 3 ≤ 43)) (xM F__law_like_measure (by decide : 2 ≤ 43)) (xM F__law_like_room (by decide : 5 ≤ 43)) (xM F__law_tape (by decide : 1 ≤ 43)) m_len m_min m_range hr) qiW
end K33
open PySem PySem.W PyProof.Rows
set_option maxRecDepth 100000 in
set_option maxHeartbeats 0 in
theorem PySem.Challenge.cw_boxcut_k33_the_first_of_the_least_holds : PySem.Challenge.rw_boxcut_k33_the_first_of_the_least.Holds := by
 w_on; o_law; k_head; (case hw => w_witness2)
 k_fill
 refine L2.walk_of (l := PySem.Challenge.rw_boxcut_k33_the_first_of_the_least) (n := 63) (k := 44) (x := "_law_script") (CX := fun _ => L2.CX0) (sp := fun w => BX.spOf _ K33.JX) rfl (by decide) rfl ⟨rfl, by decide, by decide⟩ (fun w h Y => PySem.W.kIn_of Y) ?F (fun _ _ a ns hl _ hS => K33.sp_law hS) (fun _ _ _ _ _ z => z)
 case F =>
  intro w mg fa h KX G hmg
  refine' K33.qh7 KX G hmg ?qLeasta ?qLeastp ?qLeastd ?qLeasto ?qLeasts ?qLeastm ?qLeastk ?nc_Least_boxes ?nc_Least_length ?nc_Least_measure ?a1 ?l1 ?c1 ?k1 ?a2 ?l2 ?c2 ?k2 ?a3 ?l3 ?c3 ?k3 ?a4 ?l4 ?c4 ?k4 ?a5 ?l5 ?c5 ?k5 ?a6 ?i6 ?l6 ?c6 ?k6 ?a7 ?i7 ?l7 ?c7 ?k7 ?a8 ?l8 ?c8 ?k8 ?a9 ?l9 ?c9 ?k9 ?a10 ?l10 ?c10 ?k10 ?a11 ?l11 ?c11 ?k11 ?a12 ?l12 ?c12 ?k12 ?a13 ?l13 ?c13 ?k13 ?a14 ?l14 ?c14 ?k14 ?a15 ?l15 ?c15 ?k15 ?a16 ?l16 ?c16 ?k16 ?a17 ?l17 ?c17 ?k17 ?a18 ?l18 ?c18 ?k18 ?a19 ?l19 ?c19 ?k19 ?a20 ?l20 ?c20 ?k20 ?a21 ?l21 ?c21 ?k21 ?a22 ?l22 ?c22 ?k22 ?a23 ?l23 ?c23 ?k23 ?z1 ?z2 ?z3 ?z4 ?z5 ?z6 ?z7 ?z8 ?z9 ?z10 ?z11 ?z12 ?z13 ?z14 ?z15 ?z16
  (case qLeasta => k_is)
  (case qLeastp => k_is)
  (case qLeastd => k_is)
  (case qLeasto => k_is)
  (case qLeasts => k_is)
  (case qLeastm => k_is)
  (case qLeastk => k_is)
  (case nc_Least_boxes => k_is)
  (case nc_Least_length => k_is)
  (case nc_Least_measure => k_is)
  (case a1 => k_is)
  (case l1 => k_is)
  (case c1 => k_is)
  (case k1 => k_is)
  (case a2 => k_is)
  (case l2 => k_is)
  (case c2 => k_is)
  (case k2 => k_is)
  (case a3 => k_is)
  (case l3 => k_is)
  (case c3 => k_is)
  (case k3 => k_is)
  (case a4 => k_is)
  (case l4 => k_is)
  (case c4 => k_is)
  (case k4 => k_is)
  (case a5 => k_is)
  (case l5 => k_is)
  (case c5 => k_is)
  (case k5 => k_is)
  (case a6 => k_is)
  (case i6 => k_is)
  (case l6 => k_is)
  (case c6 => k_is)
  (case k6 => k_is)
  (case a7 => k_is)
  (case i7 => k_is)
  (case l7 => k_is)
  (case c7 => k_is)
  (case k7 => k_is)
  (case a8 => k_is)
  (case l8 => k_is)
  (case c8 => k_is)
  (case k8 => k_is)
  (case a9 => k_is)
  (case l9 => k_is)
  (case c9 => k_is)
  (case k9 => k_is)
  (case a10 => k_is)
  (case l10 => k_is)
  (case c10 => k_is)
  (case k10 => k_is)
  (case a11 => k_is)
  (case l11 => k_is)
  (case c11 => k_is)
  (case k11 => k_is)
  (case a12 => k_is)
  (case l12 => k_is)
  (case c12 => k_is)
  (case k12 => k_is)
  (case a13 => k_is)
  (case l13 => k_is)
  (case c13 => k_is)
  (case k13 => k_is)
  (case a14 => k_is)
  (case l14 => k_is)
  (case c14 => k_is)
  (case k14 => k_is)
  (case a15 => k_is)
  (case l15 => k_is)
  (case c15 => k_is)
  (case k15 => k_is)
  (case a16 => k_is)
  (case l16 => k_is)
  (case c16 => k_is)
  (case k16 => k_is)
  (case a17 => k_is)
  (case l17 => k_is)
  (case c17 => k_is)
  (case k17 => k_is)
  (case a18 => k_is)
  (case l18 => k_is)
  (case c18 => k_is)
  (case k18 => k_is)
  (case a19 => k_is)
  (case l19 => k_is)
  (case c19 => k_is)
  (case k19 => k_is)
  (case a20 => k_is)
  (case l20 => k_is)
  (case c20 => k_is)
  (case k20 => k_is)
  (case a21 => k_is)
  (case l21 => k_is)
  (case c21 => k_is)
  (case k21 => k_is)
  (case a22 => k_is)
  (case l22 => k_is)
  (case c22 => k_is)
  (case k22 => k_is)
  (case a23 => k_is)
  (case l23 => k_is)
  (case c23 => k_is)
  (case k23 => k_is)
  (case z1 => k_is)
  (case z2 => k_is)
  (case z3 => k_is)
  (case z4 => k_is)
  (case z5 => k_is)
  (case z6 => k_is)
  (case z7 => k_is)
  (case z8 => k_is)
  (case z9 => k_is)
  (case z10 => k_is)
  (case z11 => k_is)
  (case z12 => k_is)
  (case z13 => k_is)
  (case z14 => k_is)
  (case z15 => k_is)
  (case z16 => k_is)
