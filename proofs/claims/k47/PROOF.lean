import PyProof.Rows.All
import Wide.All
import OpenK.AllK
import Wide.FinOn
import HandS.ForMost
import HandS.TupAny
import HandS.TupLe
import HandS.Deep
import HandS.IsInst
import PyProof.P3In
import HandS.Flow
import HandS.SortOrd
import HandS.TupSets
import HandS.Conv
import HandS.TupLen
import HandS.Small
import HandS.Zip
import KE.KDictPairs
import HandS.DictTup
import HandS.Rev
import KE.DatumOrd
import KE.DatumIndex
import KE.KDictWalk
import KE.KDictDisplayH
import KE.KEqDict
import HandS.Iter
import KE.SortData
import HandS.SetFor
import HandS.SortInts
import HandS.Strs
import PyProof.ListRange
import HandS.Text
import PyProof.StrOps2
import KE.GoesMore
import PyProof.EnumFor
import HandS.RaiseMore
import HandS.Style
import HandS.More
import KE.GoesZip
import KE.GoesEnum
import KE.KDictOf
import KE.KDictCopyH
import PyProof.AutoSeq1
import HandS.DictSubView
import PySem.Challenge.RW_boxcut_k47_two_sites
set_option Elab.async false
set_option linter.all false
set_option maxRecDepth 100000
namespace BX
open PySem PySem.Spec PyProof.Rows L2
inductive NK where
 | num (i : Int) | tup (l : List NK)
mutual
def NK.beq : NK → NK → Bool
 | .num i, .num j => decide (i = j)
 | .tup l, .tup m => NK.beqL l m
 | _, _ => false
def NK.beqL : List NK → List NK → Bool
 | [], [] => true
 | a :: l, b :: m => NK.beq a b && NK.beqL l m
 | _, _ => false
end
mutual
theorem NK.beq_eq : ∀ a b : NK, NK.beq a b = true ↔ a = b
 | .num i, .num j => by rw [NK.beq, decide_eq_true_eq, NK.num.injEq]
 | .tup l, .tup m => by rw [NK.beq, NK.tup.injEq]; exact NK.beqL_eq l m
 | .num i, .tup m => by simp [NK.beq]
 | .tup l, .num j => by simp [NK.beq]
theorem NK.beqL_eq : ∀ l m : List NK, NK.beqL l m = true ↔ l = m
 | [], [] => by simp [NK.beqL]
 | a :: l, b :: m => by rw [NK.beqL, Bool.and_eq_true, NK.beq_eq a b, NK.beqL_eq l m, List.cons.injEq]
 | [], b :: m => by simp [NK.beqL]
 | a :: l, [] => by simp [NK.beqL]
end
instance : DecidableEq NK := fun a b => decidable_of_iff _ (NK.beq_eq a b)
inductive D where
 | non | bl (b : Bool) | int (i : Int) | str (s : Str)
 | tup (xs : List D) | lst (xs : List D)
 | dT (kvs : List (List Key × D)) | dK (kvs : List (Key × D))
 | dF (kvs : List (List Key × D))
 | lF (xs : List D)
 | ob (n : Str) (fs : List (Str × D))
 | ex (n : Str) (fs : List (Str × Int))
 | dN (kvs : List (NK × D))
mutual
def D.imm : D → Bool
 | .non => true
 | .bl _ => true
 | .int _ => true
 | .str _ => true
 | .tup xs => immL xs
 | .lst _ => false
 | .dT _ => false
 | .dK _ => false
 | .dF _ => false
 | .lF xs => immL xs
 | .ob _ _ => false
 | .ex _ _ => false
 | .dN _ => false
def immL : List D → Bool
 | [] => true
 | d :: ds => d.imm && immL ds
end
theorem Xe : ∀ {ds : List D}, (∀ d ∈ ds, d.imm = true) → immL ds = true
 | [], _ => by rw [immL]
 | d :: ds, h => by rw [immL, h d (List.mem_cons_self ..), Xe fun x hx => h x (List.mem_cons_of_mem _ hx)]; rfl
theorem W3 : ∀ {ds : List D}, immL ds = true → ∀ d ∈ ds, d.imm = true
 | [], _, d, h => by simp at h
 | x :: ds, e, d, h => by
   rw [immL, Bool.and_eq_true] at e
   rcases List.mem_cons.mp h with rfl | h
   ·exact e.1
   ·exact W3 e.2 d h
mutual
def qei : NK → Int
 | .num i => hashInt i
 | .tup l => reduceHash (Builtin.Tuple.tupleHashOf (qb7 l))
def qb7 : List NK → List Int
 | [] => []
 | k :: l => qei k :: qb7 l
end
mutual
def qgY : NK → Nat
 | .num _ => 0
 | .tup l => qej l + 1
def qej : List NK → Nat
 | [] => 0
 | k :: l => max (qgY k) (qej l)
end
mutual
def NkV (H : Hp) : NK → V → Prop
 | .num i, v => v = .int i
 | .tup l, v => ∃ a vs, v = .ref a ∧ H a = some (.tup vs) ∧ NkVs H l vs
def NkVs (H : Hp) : List NK → List V → Prop
 | [], vs => vs = []
 | k :: l, vs => ∃ v ws, vs = v :: ws ∧ NkV H k v ∧ NkVs H l ws
end
mutual
def nkD : NK → D
 | .num i => .int i
 | .tup l => .tup (nkDs l)
def nkDs : List NK → List D
 | [] => []
 | k :: l => nkD k :: nkDs l
end
def qiN (p : NK × Addr × Value) : DictEntry := { hash := qei p.1, key := .ref p.2.1, val := p.2.2 }
def NdP (a : Addr) (xs : List (NK × Addr × V)) (h : Heap) : Prop := (xs.length ≤ sizeLine ∧ (a == sysModules) = false ∧ (xs.map (·.1)).Nodup) ∧ ∃ ys, Paired (fun p q => p.1 = q.1 ∧ p.2.1 = q.2.1 ∧ L2.RelV p.2.2 q.2.2) xs ys ∧ ∃ o es ep, h.get? a = some o ∧ o.ExactDict ∧ o.data = .dict es ep ∧ es.toList = ys.map qiN
def NdO (a : Addr) (xs : List (NK × Addr × V)) : HO := .ext (NdP a xs)
noncomputable def Mu : HO → Bool
 | .lst _ => true
 | .dT _ => true
 | .dK _ => true
 | .ins _ _ _ => true
 | .ext p => @decide (∃ a xs, p = NdP a xs) (Classical.propDecidable _)
 | _ => false
theorem qiP {a : Addr} {xs : List (NK × Addr × V)} : Mu (NdO a xs) = true := @decide_eq_true _ (Classical.propDecidable _) ⟨a, xs, rfl⟩
def SqLF (K : PySem.W.Frag) (H : Hp) (a : Addr) (xs : List V) : Prop :=
 (∃ o, H a = some (.frz o (.lst xs))) ∨
  ∃ (o : Obj) (its : Array Value) (n : Nat), K.lookup a = some o ∧ o.cls = .type "list" ∧ o.dict = none ∧ o.data = .seq its n ∧ its.size ≤ sizeLine ∧ Vals xs its.toList
def SqTK (K : PySem.W.Frag) (a : Addr) (xs : List V) : Prop :=
 ∃ (o : Obj) (its : Array Value) (n : Nat), K.lookup a = some o ∧ o.cls = .type "tuple" ∧ o.data = .seq its n ∧ its.size ≤ sizeLine ∧ Vals xs its.toList
theorem SqLF.sq {K : PySem.W.Frag} {H : Hp} {a : Addr} {xs : List V} (h : SqLF K H a xs) : SqL K H a xs := by
 rcases h with ⟨o, h⟩ | h
 ·exact .inl (.inr ⟨o, h⟩)
 ·exact .inr h
theorem SqTK.sq {K : PySem.W.Frag} {H : Hp} {a : Addr} {xs : List V} (h : SqTK K a xs) : SqT K H a xs := .inr h
def EO (cls : Value) (d : Option Addr) (a : Addr) : HO := .ext fun h => ∃ (oe : Obj) (vs : Array Value), h.get? a = some oe ∧ (oe.cls = cls ∧ oe.dict = d) ∧ oe.data = .fields vs
theorem qiQ {cls : Value} {d : Option Addr} {a : Addr} : Mu (EO cls d a) = false := @decide_eq_false _ (Classical.propDecidable _) (by
 rintro ⟨b, xs, e⟩
 have at0 : (⟨Array.replicate (a + 1) { cls := cls, dict := d, data := .fields #[] }, {}⟩ : Heap).get? a = some { cls := cls, dict := d, data := .fields #[] } := by
  unfold Heap.get?
  rw [show ((Array.replicate (a + 1) ({ cls := cls, dict := d, data := .fields #[] } : Obj)) : Array Obj)[a]? = some { cls := cls, dict := d, data := .fields #[] } by simp]
 have h0 : NdP b xs ⟨Array.replicate (a + 1) { cls := cls, dict := d, data := .fields #[] }, {}⟩ := by
  rw [← e]
  exact ⟨_, _, at0, ⟨rfl, rfl⟩, rfl⟩
 obtain ⟨_, ys, _, o, es, ep, h1, _, h2, _⟩ := h0
 unfold Heap.get? at h1
 split at h1
 ·cases h1
 ·rename_i x y
  rw [Array.getElem?_replicate] at h1
  split at h1
  ·cases h1
   cases h2
  ·cases h1)
def xdV (fs : List (Str × Int)) : List (Str × V) := fs.map fun p => (p.1, V.int p.2)
mutual
inductive Rep (K : PySem.W.Frag) (H : Hp) (lv : Nat) : D → V → List Addr → Prop
 | non : Rep K H lv .non .non []
 | bl (b : Bool) : Rep K H lv (.bl b) (.bl b) []
 | int (i : Int) : Rep K H lv (.int i) (.int i) []
 | str (s : Str) : Rep K H lv (.str s) (.str s) []
 | tup {a : Addr} {vs : List V} {ds : List D} {f : List Addr} : H a = some (.tup vs) → Reps K H lv ds vs f → Rep K H lv (.tup ds) (.ref a) f
 | tupK {a : Addr} {vs : List V} {ds : List D} {f : List Addr} : 2 ≤ lv → SqTK K a vs → Reps K H lv ds vs f → Rep K H lv (.tup ds) (.ref a) f
 | lst {a : Addr} {vs : List V} {ds : List D} {f : List Addr} : H a = some (.lst vs) → Reps K H lv ds vs f → (lv = 0 → a ∉ f) → Rep K H lv (.lst ds) (.ref a) (a :: f)
 | lstF {a : Addr} {vs : List V} {ds : List D} {f : List Addr} : 2 ≤ lv → SqLF K H a vs → Reps K H lv ds vs f → Rep K H lv (.lst ds) (.ref a) f
 | dT {a : Addr} {hs : List (List Key × V)} {kvs : List (List Key × D)} {f : List Addr} : H a = some (.dT hs) → hs.map (·.1) = kvs.map (·.1) → (kvs.map (·.1)).Nodup → Reps K H lv (kvs.map (·.2)) (hs.map (·.2)) f → (lv = 0 → a ∉ f) → Rep K H lv (.dT kvs) (.ref a) (a :: f)
 | dTF {a : Addr} {o : Obj} {hs : List (List Key × V)} {kvs : List (List Key × D)} {f : List Addr} : 2 ≤ lv → H a = some (.frz o (.dT hs)) → hs.map (·.1) = kvs.map (·.1) → (kvs.map (·.1)).Nodup → Reps K H lv (kvs.map (·.2)) (hs.map (·.2)) f → Rep K H lv (.dT kvs) (.ref a) f
 | dF {a : Addr} {o : Obj} {hs : List (List Key × V)} {kvs : List (List Key × D)} : H a = some (.frz o (.dT hs)) → hs.map (·.1) = kvs.map (·.1) → (kvs.map (·.1)).Nodup → Reps K H lv (kvs.map (·.2)) (hs.map (·.2)) [] → Rep K H lv (.dF kvs) (.ref a) []
 | lF {a : Addr} {o : Obj} {vs : List V} {ds : List D} {f : List Addr} : H a = some (.frz o (.lst vs)) → Reps K H lv ds vs f → Rep K H lv (.lF ds) (.ref a) f
 | ob {a C dx : Addr} {n : Str} {hs : List (Str × V)} {fs : List (Str × D)} {f : List Addr} : H a = some (.ins C dx hs) → PySem.W.nsIn K mainGlobals n = some (some (.ref C)) → hs.map (·.1) = fs.map (·.1) → Reps K H lv (fs.map (·.2)) (hs.map (·.2)) f → (lv = 0 → a ∉ f) → Rep K H lv (.ob n fs) (.ref a) (a :: f)
 | ex {a C : Addr} {d : Option Addr} {n : Str} {fs : List (Str × Int)} : H a = some (EO (.ref C) d a) → PySem.W.nsIn K mainGlobals n = some (some (.ref C)) → (∀ x, d = some x → H x = some (.xd (xdV fs))) → (d = none → fs = []) → Rep K H lv (.ex n fs) (.ref a) []
 | dK {a : Addr} {hs : List (Key × V)} {kvs : List (Key × D)} {f : List Addr} : H a = some (.dK hs) → hs.map (·.1) = kvs.map (·.1) → (kvs.map (·.1)).Nodup → Reps K H lv (kvs.map (·.2)) (hs.map (·.2)) f → (lv = 0 → a ∉ f) → Rep K H lv (.dK kvs) (.ref a) (a :: f)
 | dN {a : Addr} {xs : List (NK × Addr × V)} {kvs : List (NK × D)} {f : List Addr} : H a = some (NdO a xs) → xs.map (·.1) = kvs.map (·.1) → (kvs.map (·.1)).Nodup → (∀ x ∈ xs, NkV H x.1 (.ref x.2.1) ∧ qgY x.1 ≤ 8) → Reps K H lv (kvs.map (·.2)) (xs.map (·.2.2)) f → (lv = 0 → a ∉ f) → Rep K H lv (.dN kvs) (.ref a) (a :: f)
inductive Reps (K : PySem.W.Frag) (H : Hp) (lv : Nat) : List D → List V → List Addr → Prop
 | nil : Reps K H lv [] [] []
 | cons {d : D} {v : V} {f : List Addr} {ds : List D} {vs : List V} {g : List Addr} : Rep K H lv d v f → Reps K H lv ds vs g → (lv = 0 → ∀ b ∈ f, b ∉ g) → Reps K H lv (d :: ds) (v :: vs) (f ++ g)
end
section
variable {K : PySem.W.Frag} {H H' : Hp} {lv lv' : Nat}
theorem SqLF.keep {a : Addr} {vs : List V} (h : SqLF K H a vs) (k : ∀ o, H a = some o → Mu o = false → H' a = some o) : SqLF K H' a vs := by
 rcases h with ⟨o, h⟩ | h
 ·exact .inl ⟨o, k _ h rfl⟩
 ·exact .inr h
mutual
theorem NkV.keep : ∀ {k : NK} {v : V}, NkV H k v → (∀ b o, H b = some o → Mu o = false → H' b = some o) → NkV H' k v
 | .num i, v, h, _ => by rw [NkV] at h ⊢; exact h
 | .tup l, v, h, k => by
   rw [NkV] at h ⊢
   obtain ⟨a, vs, e, ha, r⟩ := h
   exact ⟨a, vs, e, k _ _ ha rfl, NkVs.keep r k⟩
theorem NkVs.keep : ∀ {l : List NK} {vs : List V}, NkVs H l vs → (∀ b o, H b = some o → Mu o = false → H' b = some o) → NkVs H' l vs
 | [], vs, h, _ => by rw [NkVs] at h ⊢; exact h
 | x :: l, vs, h, k => by
   rw [NkVs] at h ⊢
   obtain ⟨v, ws, e, r, t⟩ := h
   exact ⟨v, ws, e, NkV.keep r k, NkVs.keep t k⟩
end
mutual
theorem Rep.keep : ∀ {d : D} {v : V} {f : List Addr}, Rep K H lv d v f → (∀ b o, H b = some o → (b ∈ f ∨ Mu o = false) → H' b = some o) → Rep K H' lv d v f
 | _, _, _, .non, _ => .non
 | _, _, _, .bl b, _ => .bl b
 | _, _, _, .int i, _ => .int i
 | _, _, _, .str s, _ => .str s
 | _, _, _, .tup h r, k => .tup (k _ _ h (.inr rfl)) (Reps.keep r k)
 | _, _, _, .tupK l h r, k => .tupK l h (Reps.keep r k)
 | _, _, _, .lst h r n, k => .lst (k _ _ h (.inl (List.mem_cons_self ..))) (Reps.keep r fun b o e c => k b o e (c.imp_left fun z => List.mem_cons_of_mem _ z)) n
 | _, _, _, .lstF l h r, k => .lstF l (h.keep fun o e m => k _ _ e (.inr m)) (Reps.keep r k)
 | _, _, _, .dT h e nd r n, k => .dT (k _ _ h (.inl (List.mem_cons_self ..))) e nd (Reps.keep r fun b o e c => k b o e (c.imp_left fun z => List.mem_cons_of_mem _ z)) n
 | _, _, _, .dTF l h e nd r, k => .dTF l (k _ _ h (.inr rfl)) e nd (Reps.keep r k)
 | _, _, _, .dF h e nd r, k => .dF (k _ _ h (.inr rfl)) e nd (Reps.keep r k)
 | _, _, _, .lF h r, k => .lF (k _ _ h (.inr rfl)) (Reps.keep r k)
 | _, _, _, .ob h c e r n, k => .ob (k _ _ h (.inl (List.mem_cons_self ..))) c e (Reps.keep r fun b o e c => k b o e (c.imp_left fun z => List.mem_cons_of_mem _ z)) n
 | _, _, _, .ex h c e z, k => .ex (k _ _ h (.inr qiQ)) c (fun x hx => k _ _ (e x hx) (.inr rfl)) z
 | _, _, _, .dN h e nd kk r n, k => .dN (k _ _ h (.inl (List.mem_cons_self ..))) e nd (fun x hx => ⟨(kk x hx).1.keep fun b o e m => k b o e (.inr m), (kk x hx).2⟩) (Reps.keep r fun b o e c => k b o e (c.imp_left fun z => List.mem_cons_of_mem _ z)) n
 | _, _, _, .dK h e nd r n, k => .dK (k _ _ h (.inl (List.mem_cons_self ..))) e nd (Reps.keep r fun b o e c => k b o e (c.imp_left fun z => List.mem_cons_of_mem _ z)) n
theorem Reps.keep : ∀ {ds : List D} {vs : List V} {f : List Addr}, Reps K H lv ds vs f → (∀ b o, H b = some o → (b ∈ f ∨ Mu o = false) → H' b = some o) → Reps K H' lv ds vs f
 | _, _, _, .nil, _ => .nil
 | _, _, _, .cons r t n, k => .cons (Rep.keep r fun b o e c => k b o e (c.imp_left fun z => List.mem_append_left _ z)) (Reps.keep t fun b o e c => k b o e (c.imp_left fun z => List.mem_append_right _ z)) n
end
mutual
theorem Rep.dom : ∀ {d : D} {v : V} {f : List Addr}, Rep K H lv d v f → ∀ b ∈ f, ∃ o, H b = some o ∧ Mu o = true
 | _, _, _, .tup h r, b, hb => Reps.dom r b hb
 | _, _, _, .tupK l h r, b, hb => Reps.dom r b hb
 | _, _, _, .lst h r n, b, hb => by
   rcases List.mem_cons.mp hb with rfl | hb
   ·exact ⟨_, h, rfl⟩
   ·exact Reps.dom r b hb
 | _, _, _, .lstF l h r, b, hb => Reps.dom r b hb
 | _, _, _, .dT h e nd r n, b, hb => by
   rcases List.mem_cons.mp hb with rfl | hb
   ·exact ⟨_, h, rfl⟩
   ·exact Reps.dom r b hb
 | _, _, _, .dTF l h e nd r, b, hb => Reps.dom r b hb
 | _, _, _, .dF h e nd r, b, hb => by simp at hb
 | _, _, _, .ex h c e z, b, hb => by simp at hb
 | _, _, _, .dN h e nd kk r n, b, hb => by
   rcases List.mem_cons.mp hb with rfl | hb
   ·exact ⟨_, h, qiP⟩
   ·exact Reps.dom r b hb
 | _, _, _, .lF h r, b, hb => Reps.dom r b hb
 | _, _, _, .ob h c e r n, b, hb => by
   rcases List.mem_cons.mp hb with rfl | hb
   ·exact ⟨_, h, rfl⟩
   ·exact Reps.dom r b hb
 | _, _, _, .dK h e nd r n, b, hb => by
   rcases List.mem_cons.mp hb with rfl | hb
   ·exact ⟨_, h, rfl⟩
   ·exact Reps.dom r b hb
theorem Reps.dom : ∀ {ds : List D} {vs : List V} {f : List Addr}, Reps K H lv ds vs f → ∀ b ∈ f, ∃ o, H b = some o ∧ Mu o = true
 | _, _, _, .cons r t n, b, hb => by
   rcases List.mem_append.mp hb with hb | hb
   ·exact Rep.dom r b hb
   ·exact Reps.dom t b hb
end
mutual
theorem Rep.up : ∀ {d : D} {v : V} {f : List Addr}, Rep K H lv d v f → lv ≤ lv' → Rep K H lv' d v f
 | _, _, _, .non, _ => .non
 | _, _, _, .bl b, _ => .bl b
 | _, _, _, .int i, _ => .int i
 | _, _, _, .str s, _ => .str s
 | _, _, _, .tup h r, k => .tup h (Reps.up r k)
 | _, _, _, .tupK l h r, k => .tupK (Nat.le_trans l k) h (Reps.up r k)
 | _, _, _, .lst h r n, k => .lst h (Reps.up r k) fun e => n (by omega)
 | _, _, _, .lstF l h r, k => .lstF (Nat.le_trans l k) h (Reps.up r k)
 | _, _, _, .dT h e nd r n, k => .dT h e nd (Reps.up r k) fun e => n (by omega)
 | _, _, _, .dTF l h e nd r, k => .dTF (Nat.le_trans l k) h e nd (Reps.up r k)
 | _, _, _, .dF h e nd r, k => .dF h e nd (Reps.up r k)
 | _, _, _, .lF h r, k => .lF h (Reps.up r k)
 | _, _, _, .ob h c e r n, k => .ob h c e (Reps.up r k) fun e => n (by omega)
 | _, _, _, .ex h c e z, k => .ex h c e z
 | _, _, _, .dN h e nd kk r n, k => .dN h e nd kk (Reps.up r k) fun e => n (by omega)
 | _, _, _, .dK h e nd r n, k => .dK h e nd (Reps.up r k) fun e => n (by omega)
theorem Reps.up : ∀ {ds : List D} {vs : List V} {f : List Addr}, Reps K H lv ds vs f → lv ≤ lv' → Reps K H lv' ds vs f
 | _, _, _, .nil, _ => .nil
 | _, _, _, .cons r t n, k => .cons (Rep.up r k) (Reps.up t k) fun e => n (by omega)
end
mutual
theorem Rep.imm : ∀ {d : D} {v : V} {f : List Addr}, Rep K H lv d v f → lv ≤ 1 → d.imm = true → f = [] ∧ Rep K H 0 d v []
 | _, _, _, .non, _, _ => ⟨rfl, .non⟩
 | _, _, _, .bl b, _, _ => ⟨rfl, .bl b⟩
 | _, _, _, .int i, _, _ => ⟨rfl, .int i⟩
 | _, _, _, .str s, _, _ => ⟨rfl, .str s⟩
 | _, _, _, .tup h r, l, e => by
   rw [D.imm] at e
   obtain ⟨rfl, r'⟩ := Reps.imm r l e
   exact ⟨rfl, .tup h r'⟩
 | _, _, _, .tupK l h r, k, _ => absurd l (by omega)
 | _, _, _, .lst h r n, _, e => by rw [D.imm] at e; cases e
 | _, _, _, .lstF l h r, _, e => by rw [D.imm] at e; cases e
 | _, _, _, .dT h e' nd r n, _, e => by rw [D.imm] at e; cases e
 | _, _, _, .dTF l h e' nd r, _, e => by rw [D.imm] at e; cases e
 | _, _, _, .dF h e' nd r, _, e => by rw [D.imm] at e; cases e
 | _, _, _, .ob h c e' r n, _, e => by rw [D.imm] at e; cases e
 | _, _, _, .lF h r, l, e => by
   rw [D.imm] at e
   obtain ⟨rfl, r'⟩ := Reps.imm r l e
   exact ⟨rfl, .lF h r'⟩
 | _, _, _, .ex h c e' z, _, e => by rw [D.imm] at e; cases e
 | _, _, _, .dN h e' nd kk r n, _, e => by rw [D.imm] at e; cases e
 | _, _, _, .dK h e' nd r n, _, e => by rw [D.imm] at e; cases e
theorem Reps.imm : ∀ {ds : List D} {vs : List V} {f : List Addr}, Reps K H lv ds vs f → lv ≤ 1 → immL ds = true → f = [] ∧ Reps K H 0 ds vs []
 | _, _, _, .nil, _, _ => ⟨rfl, .nil⟩
 | _, _, _, .cons r t n, l, e => by
   rw [immL, Bool.and_eq_true] at e
   obtain ⟨rfl, r'⟩ := Rep.imm r l e.1
   obtain ⟨rfl, t'⟩ := Reps.imm t l e.2
   exact ⟨rfl, .cons (f := []) (g := []) r' t' (fun _ b hb => by simp at hb)⟩
end
theorem Reps.len : ∀ {ds : List D} {vs : List V} {f : List Addr}, Reps K H lv ds vs f → ds.length = vs.length
 | _, _, _, .nil => rfl
 | _, _, _, .cons _ t _ => by rw [List.length_cons, List.length_cons, t.len]
theorem Reps.get : ∀ {ds : List D} {vs : List V} {f : List Addr} {i : Nat} {d : D}, Reps K H lv ds vs f → ds[i]? = some d → ∃ v g, vs[i]? = some v ∧ Rep K H lv d v g ∧ ∀ b ∈ g, b ∈ f
 | _, _, _, 0, _, .cons r t _, e => by
   cases e
   exact ⟨_, _, rfl, r, fun b hb => List.mem_append_left _ hb⟩
 | _, _, _, i + 1, _, .cons r t _, e => by
   obtain ⟨v, g, h1, h2, h3⟩ := t.get (i := i) (by simpa using e)
   exact ⟨v, g, by simpa using h1, h2, fun b hb => List.mem_append_right _ (h3 b hb)⟩
theorem Reps.append : ∀ {ds es : List D} {vs ws : List V} {f g : List Addr}, Reps K H lv ds vs f → Reps K H lv es ws g → (lv = 0 → ∀ b ∈ f, b ∉ g) → Reps K H lv (ds ++ es) (vs ++ ws) (f ++ g)
 | _, _, _, _, _, _, .nil, q, _ => q
 | _, es, _, ws, _, g, .cons (f := f1) (g := g1) (ds := ds) (vs := vs) r t n, q, k => by
   rw [List.cons_append, List.cons_append, List.append_assoc]
   refine .cons r (Reps.append t q fun e b hb => k e b (List.mem_append_right _ hb)) fun e b hb z => ?_
   rcases List.mem_append.mp z with z | z
   ·exact n e b hb z
   ·exact k e b (List.mem_append_left _ hb) z
theorem Reps.one {d : D} {v : V} {f : List Addr} (r : Rep K H lv d v f) : Reps K H lv [d] [v] f := by
 have := Reps.cons (g := []) r .nil (fun _ b _ z => by simp at z)
 rwa [List.append_nil] at this
theorem Rep.tupleSq {ds : List D} {v : V} {f : List Addr} (r : Rep K H lv (.tup ds) v f) : ∃ a vs, v = .ref a ∧ SqT K H a vs ∧ Reps K H lv ds vs f := by
 cases r with
 | tup h r => exact ⟨_, _, rfl, .inl (.inl h), r⟩
 | tupK l h r => exact ⟨_, _, rfl, h.sq, r⟩
theorem Rep.tupleAt {ds : List D} {v : V} {f : List Addr} (r : Rep K H lv (.tup ds) v f) (l : lv ≤ 1) : ∃ a vs, v = .ref a ∧ H a = some (.tup vs) ∧ Reps K H lv ds vs f := by
 cases r with
 | tup h r => exact ⟨_, _, rfl, h, r⟩
 | tupK l' h r => exact absurd l' (by omega)
theorem Rep.lFSq {ds : List D} {v : V} {f : List Addr} (r : Rep K H lv (.lF ds) v f) : ∃ a vs, v = .ref a ∧ SqL K H a vs ∧ Reps K H lv ds vs f ∧ SqLF K H a vs := by
 cases r with
 | lF h r => exact ⟨_, _, rfl, .inl (.inr ⟨_, h⟩), r, .inl ⟨_, h⟩⟩
theorem Rep.listSq {ds : List D} {v : V} {f : List Addr} (r : Rep K H lv (.lst ds) v f) : ∃ a vs g, v = .ref a ∧ SqL K H a vs ∧ Reps K H lv ds vs g ∧ (∀ b ∈ g, b ∈ f) ∧ (H a = some (.lst vs) ∧ a ∈ f ∨ SqLF K H a vs) := by
 cases r with
 | lst h r n => exact ⟨_, _, _, rfl, .inl (.inl h), r, fun b hb => List.mem_cons_of_mem _ hb, .inl ⟨h, List.mem_cons_self ..⟩⟩
 | lstF l h r => exact ⟨_, _, _, rfl, h.sq, r, fun b hb => hb, .inr h⟩
theorem Rep.listAt {ds : List D} {v : V} {f : List Addr} (r : Rep K H 0 (.lst ds) v f) : ∃ a vs g, v = .ref a ∧ H a = some (.lst vs) ∧ Reps K H 0 ds vs g ∧ f = a :: g ∧ a ∉ g := by
 cases r with
 | lst h r n => exact ⟨_, _, _, rfl, h, r, rfl, n rfl⟩
 | lstF l h r => exact absurd l (by omega)
theorem Rep.dTAt {kvs : List (List Key × D)} {v : V} {f : List Addr} (r : Rep K H lv (.dT kvs) v f) (l : lv ≤ 1 := by omega) : ∃ a hs g, v = .ref a ∧ H a = some (.dT hs) ∧ hs.map (·.1) = kvs.map (·.1) ∧ (kvs.map (·.1)).Nodup ∧ Reps K H lv (kvs.map (·.2)) (hs.map (·.2)) g ∧ f = a :: g ∧ (lv = 0 → a ∉ g) := by
 cases r with
 | dT h e nd r n => exact ⟨_, _, _, rfl, h, e, nd, r, rfl, n⟩
 | dTF l' h e nd r => exact absurd l' (by omega)
mutual
theorem NkV.rep : ∀ {k : NK} {v : V}, NkV H k v → Rep K H lv (nkD k) v []
 | .num i, v, h => by
   rw [NkV] at h; rw [nkD, h]; exact .int i
 | .tup l, v, h => by
   rw [NkV] at h
   obtain ⟨a, vs, rfl, ha, r⟩ := h
   rw [nkD]; exact .tup ha (NkVs.rep r)
theorem NkVs.rep : ∀ {l : List NK} {vs : List V}, NkVs H l vs → Reps K H lv (nkDs l) vs []
 | [], vs, h => by
   rw [NkVs] at h; rw [nkDs, h]; exact .nil
 | k :: l, vs, h => by
   rw [NkVs] at h
   obtain ⟨v, ws, rfl, r, t⟩ := h
   rw [nkDs]
   exact .cons (f := []) (g := []) (NkV.rep r) (NkVs.rep t) fun _ b hb => by simp at hb
end
theorem Rep.listAt1 {ds : List D} {v : V} {f : List Addr} (r : Rep K H lv (.lst ds) v f) (l : lv ≤ 1) : ∃ a vs g, v = .ref a ∧ H a = some (.lst vs) ∧ Reps K H lv ds vs g ∧ f = a :: g := by
 cases r with
 | lst h r n => exact ⟨_, _, _, rfl, h, r, rfl⟩
 | lstF l' h r => exact absurd l' (by omega)
theorem Rep.nonV {v : V} {f : List Addr} (r : Rep K H lv .non v f) : v = .non ∧ f = [] := by cases r; exact ⟨rfl, rfl⟩
theorem Rep.intV {i : Int} {v : V} {f : List Addr} (r : Rep K H lv (.int i) v f) : v = .int i ∧ f = [] := by cases r; exact ⟨rfl, rfl⟩
theorem Rep.blV {i : Bool} {v : V} {f : List Addr} (r : Rep K H lv (.bl i) v f) : v = .bl i ∧ f = [] := by cases r; exact ⟨rfl, rfl⟩
theorem Rep.int0 {i : Int} {v : V} {f : List Addr} (r : Rep K H lv (.int i) v f) : Rep K H 0 (.int i) v [] := by cases r; exact .int i
theorem Rep.bl0 {i : Bool} {v : V} {f : List Addr} (r : Rep K H lv (.bl i) v f) : Rep K H 0 (.bl i) v [] := by cases r; exact .bl i
theorem Rep.str0 {i : Str} {v : V} {f : List Addr} (r : Rep K H lv (.str i) v f) : Rep K H 0 (.str i) v [] := by cases r; exact .str i
theorem Rep.non0 {v : V} {f : List Addr} (r : Rep K H lv .non v f) : Rep K H 0 .non v [] := by cases r; exact .non
theorem Rep.strV {i : Str} {v : V} {f : List Addr} (r : Rep K H lv (.str i) v f) : v = .str i ∧ f = [] := by cases r; exact ⟨rfl, rfl⟩
end
inductive Md where
 | own | io | lk | ro | cst
 deriving DecidableEq
def Md.lv : Md → Nat
 | .own => 0
 | .io => 0
 | .lk => 0
 | .ro => 1
 | .cst => 2
def Md.rd : Md → Bool
 | .own => false
 | .io => false
 | .lk => true
 | .ro => true
 | .cst => true
abbrev En := List (Option (D × Md))
abbrev FA := Nat → List Addr
def W (env : En) (f : FA) (b : Addr) : Prop := ∃ i d m, env[i]? = some (some (d, m)) ∧ m.rd = false ∧ b ∈ f i
def L0 (env : En) (f : FA) (b : Addr) : Prop := ∃ i d m, env[i]? = some (some (d, m)) ∧ m.lv = 0 ∧ b ∈ f i
def Ro (env : En) (f : FA) (b : Addr) : Prop := ∃ i d m, env[i]? = some (some (d, m)) ∧ m.lv ≠ 0 ∧ b ∈ f i
theorem Md.lv_of {m : Md} (h : m.rd = false) : m.lv = 0 := by cases m <;> first | rfl | (cases h)
theorem Md.rd_of {m : Md} (h : m.lv ≠ 0) : m.rd = true := by cases m <;> first | rfl | exact absurd rfl h
theorem W.l0 {env : En} {f : FA} {b : Addr} (h : W env f b) : L0 env f b := let ⟨i, d, m, e, r, hb⟩ := h; ⟨i, d, m, e, Md.lv_of r, hb⟩
structure Abs (K : PySem.W.Frag) (σ : L2.St) (H : Hp) (env : En) (f : FA) : Prop where
 rep : ∀ i d m, env[i]? = some (some (d, m)) → ∃ v, σ[i]? = some (some v) ∧ Rep K H m.lv d v (f i)
 dis : ∀ i j d m d' m', i ≠ j → env[i]? = some (some (d, m)) → env[j]? = some (some (d', m')) → m.lv = 0 → ∀ b ∈ f i, b ∉ f j
 len : env.length = σ.length
inductive R where
 | tmp (d : D)
 | ro (c : Bool) (d : D)
 | sl (i : Nat)
def clv : Bool → Nat
 | false => 1
 | true => 2
inductive ResOk (K : PySem.W.Frag) (σ : L2.St) (H : Hp) (env : En) (f : FA) : R → V → List Addr → Prop
 | tmp {d : D} {v : V} {g : List Addr} : Rep K H 0 d v g → (∀ b ∈ g, ¬ L0 env f b ∧ ¬ Ro env f b) → ResOk K σ H env f (.tmp d) v g
 | ro {c : Bool} {d : D} {v : V} {g : List Addr} : Rep K H (clv c) d v g → (∀ b ∈ g, Ro env f b) → ResOk K σ H env f (.ro c d) v []
 | sl {i : Nat} {v : V} {d : D} {m : Md} : σ[i]? = some (some v) → env[i]? = some (some (d, m)) → m.lv = 0 → ResOk K σ H env f (.sl i) v []
structure Stp (H : Hp) (env : En) (f : FA) (G : List Addr) (H' : Hp) (env' : En) (f' : FA) (G' : List Addr) : Prop where
 same : ∀ b o, H b = some o → (Mu o = false ∨ (¬ W env f b ∧ b ∉ G)) → H' b = some o
 own : ∀ b, (W env' f' b ∨ b ∈ G') → (W env f b ∨ b ∈ G ∨ H b = none)
structure Kp (env : En) (f : FA) (env' : En) (f' : FA) : Prop where
 modes : env'.map (Option.map Prod.snd) = env.map (Option.map Prod.snd)
 ros : ∀ j d m, env[j]? = some (some (d, m)) → m.rd = true → env'[j]? = some (some (d, m)) ∧ f' j = f j
section
variable {K : PySem.W.Frag} {σ : L2.St} {H H1 H2 : Hp} {env env1 env2 : En} {f f1 f2 : FA} {G G1 G2 : List Addr}
theorem Stp.refl : Stp H env f G H env f G := ⟨fun _ _ h _ => h, fun _ h => h.elim .inl fun z => .inr (.inl z)⟩
theorem Stp.trans (a : Stp H env f G H1 env1 f1 G1) (b : Stp H1 env1 f1 G1 H2 env2 f2 G2) : Stp H env f G H2 env2 f2 G2 where
 same := fun c o h q => by
  have h1 := a.same c o h q
  rcases q with q | q
  ·exact b.same c o h1 (.inl q)
  ·refine b.same c o h1 (.inr ⟨fun z => ?_, fun z => ?_⟩)
   ·rcases a.own c (.inl z) with z | z | z
    ·exact q.1 z
    ·exact q.2 z
    ·rw [h] at z; cases z
   ·rcases a.own c (.inr z) with z | z | z
    ·exact q.1 z
    ·exact q.2 z
    ·rw [h] at z; cases z
 own := fun c q => by
  rcases b.own c q with z | z | z
  ·exact a.own c (.inl z)
  ·exact a.own c (.inr z)
  ·by_cases hw : W env f c
   ·exact .inl hw
   ·by_cases hg : c ∈ G
    ·exact .inr (.inl hg)
    ·refine .inr (.inr ?_)
     cases e : H c with
     | none => rfl
     | some o =>
       have := a.same c o e (.inr ⟨hw, hg⟩)
       rw [z] at this; cases this
theorem Stp.frame (a : Stp H env f [] H1 env1 f1 G1) (P : List Addr) : Stp H env f P H1 env1 f1 (P ++ G1) :=
 ⟨fun b o h q => a.same b o h (q.imp_right fun z => ⟨z.1, by simp⟩), fun b q => by
  rcases q with q | q
  ·rcases a.own b (.inl q) with z | z | z
   ·exact .inl z
   ·simp at z
   ·exact .inr (.inr z)
  ·rcases List.mem_append.mp q with z | z
   ·exact .inr (.inl z)
   ·rcases a.own b (.inr z) with z | z | z
    ·exact .inl z
    ·simp at z
    ·exact .inr (.inr z)⟩
theorem Stp.drop (a : Stp H env f G H1 env1 f1 G1) {G2 : List Addr} (h : ∀ b ∈ G2, b ∈ G1) : Stp H env f G H1 env1 f1 G2 :=
 ⟨a.same, fun b q => a.own b (q.imp_right (h b))⟩
theorem Stp.more (a : Stp H env f G H1 env1 f1 G1) {G2 : List Addr} (h : ∀ b ∈ G, b ∈ G2) : Stp H env f G2 H1 env1 f1 G1 :=
 ⟨fun b o e q => a.same b o e (q.imp_right fun z => ⟨z.1, fun y => z.2 (h b y)⟩), fun b q => (a.own b q).imp_right fun z => z.imp_left (h b)⟩
theorem Kp.refl : Kp env f env f := ⟨rfl, fun _ _ _ h _ => ⟨h, rfl⟩⟩
theorem Kp.trans (a : Kp env f env1 f1) (b : Kp env1 f1 env2 f2) : Kp env f env2 f2 :=
 ⟨b.modes.trans a.modes, fun j d m h r => let ⟨h1, e1⟩ := a.ros j d m h r; let ⟨h2, e2⟩ := b.ros j d m h1 r; ⟨h2, e2.trans e1⟩⟩
theorem Kp.slot (a : Kp env f env1 f1) {i : Nat} {d : D} {m : Md} (h : env[i]? = some (some (d, m))) : ∃ d', env1[i]? = some (some (d', m)) := by
 have e := congrArg (fun l => l[i]?) a.modes
 simp only [List.getElem?_map, h, Option.map_some] at e
 cases q : env1[i]? with
 | none => rw [q] at e; cases e
 | some o =>
   rw [q] at e
   cases o with
   | none => cases e
   | some p => obtain ⟨d', m'⟩ := p; simp only [Option.map_some, Option.some.injEq] at e; subst e; exact ⟨d', rfl⟩
theorem Kp.slot' (a : Kp env f env1 f1) {i : Nat} {d : D} {m : Md} (h : env1[i]? = some (some (d, m))) : ∃ d', env[i]? = some (some (d', m)) := by
 have e := congrArg (fun l => l[i]?) a.modes
 simp only [List.getElem?_map, h, Option.map_some] at e
 cases q : env[i]? with
 | none => rw [q] at e; cases e
 | some o =>
   rw [q] at e
   cases o with
   | none => cases e
   | some p => obtain ⟨d', m'⟩ := p; simp only [Option.map_some, Option.some.injEq] at e; subst e; exact ⟨d', rfl⟩
theorem Kp.ro (a : Kp env f env1 f1) {b : Addr} (h : Ro env f b) : Ro env1 f1 b := by
 obtain ⟨i, d, m, e, r, hb⟩ := h
 obtain ⟨e1, e2⟩ := a.ros i d m e (Md.rd_of r)
 exact ⟨i, d, m, e1, r, by rw [e2]; exact hb⟩
theorem Kp.ro' (a : Kp env f env1 f1) {b : Addr} (h : Ro env1 f1 b) : Ro env f b := by
 obtain ⟨i, d, m, e, r, hb⟩ := h
 obtain ⟨d', e'⟩ := a.slot' e
 obtain ⟨e1, e2⟩ := a.ros i d' m e' (Md.rd_of r)
 rw [e2] at hb
 exact ⟨i, d', m, e', r, hb⟩
theorem Kp.l0 (a : Kp env f env1 f1) {b : Addr} (h : L0 env1 f1 b) : W env1 f1 b ∨ L0 env f b := by
 obtain ⟨i, d, m, e, r, hb⟩ := h
 cases hm : m.rd with
 | false => exact .inl ⟨i, d, m, e, hm, hb⟩
 | true =>
   obtain ⟨d', e'⟩ := a.slot' e
   obtain ⟨e1, e2⟩ := a.ros i d' m e' hm
   rw [e2] at hb
   exact .inr ⟨i, d', m, e', r, hb⟩
theorem Abs.rdom (A : Abs K σ H env f) {b : Addr} (h : Ro env f b) : ∃ o, H b = some o ∧ Mu o = true := by
 obtain ⟨i, d, m, e, r, hb⟩ := h
 obtain ⟨v, _, rp⟩ := A.rep i d m e
 exact rp.dom b hb
theorem Abs.ldom (A : Abs K σ H env f) {b : Addr} (h : L0 env f b) : ∃ o, H b = some o ∧ Mu o = true := by
 obtain ⟨i, d, m, e, r, hb⟩ := h
 obtain ⟨v, _, rp⟩ := A.rep i d m e
 exact rp.dom b hb
theorem Abs.apart (A : Abs K σ H env f) {b : Addr} (h : L0 env f b) : ¬ Ro env f b := by
 rintro ⟨j, d', m', e', r', hb'⟩
 obtain ⟨i, d, m, e, r, hb⟩ := h
 refine A.dis i j d m d' m' (fun z => ?_) e e' r b hb hb'
 subst z
 rw [e] at e'; cases e'
 exact r' r
theorem ResOk.dom {r : R} {v : V} {g : List Addr} (h : ResOk K σ H env f r v g) : ∀ b ∈ g, ∃ o, H b = some o ∧ Mu o = true := by
 cases h with
 | tmp r _ => exact r.dom
 | ro _ _ => intro b hb; simp at hb
 | sl _ _ _ => intro b hb; simp at hb
theorem ResOk.wait {r : R} {v : V} {g : List Addr} (h : ResOk K σ H env f r v g) (A : Abs K σ H env f) (s : Stp H env f [] H1 env1 f1 G1) (k : Kp env f env1 f1) :
 ResOk K σ H1 env1 f1 r v g ∧ ∀ b ∈ g, b ∉ G1 := by
 cases h with
 | tmp r n =>
   refine ⟨.tmp (r.keep fun b o e q => ?_) fun b hb => ⟨fun z => ?_, fun z => ?_⟩, fun b hb z => ?_⟩
   ·rcases q with q | q
    ·exact s.same b o e (.inr ⟨fun z => (n b q).1 z.l0, by simp⟩)
    ·exact s.same b o e (.inl q)
   ·obtain ⟨o, ho, _⟩ := r.dom b hb
    rcases k.l0 z with z | z
    ·rcases s.own b (.inl z) with z | z | z
     ·exact (n b hb).1 z.l0
     ·simp at z
     ·rw [ho] at z; cases z
    ·exact (n b hb).1 z
   ·exact (n b hb).2 (k.ro' z)
   ·obtain ⟨o, ho, _⟩ := r.dom b hb
    rcases s.own b (.inr z) with z | z | z
    ·exact (n b hb).1 z.l0
    ·simp at z
    ·rw [ho] at z; cases z
 | ro r n =>
   refine ⟨.ro (r.keep fun b o e q => ?_) fun b hb => k.ro (n b hb), fun b hb => by simp at hb⟩
   rcases q with q | q
   ·exact s.same b o e (.inr ⟨fun z => A.apart z.l0 (n b q), by simp⟩)
   ·exact s.same b o e (.inl q)
 | sl e1 e2 hm =>
   obtain ⟨d', e3⟩ := k.slot e2
   exact ⟨.sl e1 e3 hm, fun b hb => by simp at hb⟩
end
end BX
namespace BX
open PySem PySem.Spec PyProof.Rows L2
abbrev XE := En → (R → En → Prop) → Prop
abbrev XT := En → (Bool → En → Prop) → Prop
abbrev XA := En → (List R → En → Prop) → Prop
def xV (t : XE) : Prop := ∀ env Q Q', (∀ r e, Q r e → Q' r e) → t env Q → t env Q'
def Vj (t : XT) : Prop := ∀ env Q Q', (∀ r e, Q r e → Q' r e) → t env Q → t env Q'
def vM (t : XA) : Prop := ∀ env Q Q', (∀ r e, Q r e → Q' r e) → t env Q → t env Q'
def qa9 (K : PySem.W.Frag) (σ : L2.St) (H : Hp) (env : En) (f : FA) (Q : VK) : R → En → Prop := fun r env' => ∀ v H' f' g, Abs K σ H' env' f' → ResOk K σ H' env' f' r v g → Stp H env f [] H' env' f' g → Kp env f env' f' → Q v H'
def jx (K : PySem.W.Frag) (t : XE) : TE := fun σ H Q => ∃ env f, Abs K σ H env f ∧ t env (qa9 K σ H env f Q)
def liftT (K : PySem.W.Frag) (t : XT) : TT := fun σ H Q => ∃ env f, Abs K σ H env f ∧ t env fun b env' => ∀ H' f', Abs K σ H' env' f' → Stp H env f [] H' env' f' [] → Kp env f env' f' → Q b H'
inductive ResOks (K : PySem.W.Frag) (σ : L2.St) (H : Hp) (env : En) (f : FA) : List R → List V → List Addr → Prop
 | nil : ResOks K σ H env f [] [] []
 | cons {r : R} {v : V} {g : List Addr} {rs : List R} {vs : List V} {gs : List Addr} : ResOk K σ H env f r v g → ResOks K σ H env f rs vs gs → (∀ b ∈ g, b ∉ gs) → ResOks K σ H env f (r :: rs) (v :: vs) (g ++ gs)
def Uw (K : PySem.W.Frag) (t : XA) : TA := fun σ H Q => ∃ env f, Abs K σ H env f ∧ t env fun rs env' => ∀ vs H' f' gs, Abs K σ H' env' f' → ResOks K σ H' env' f' rs vs gs → Stp H env f [] H' env' f' gs → Kp env f env' f' → Q vs H'
structure DE (X : Cx) (e : Expr) (t : XE) : Prop where
 run : PE X e (jx X.K t)
 mono : xV t
structure DT (X : Cx) (e : Expr) (t : XT) : Prop where
 run : PT X e (liftT X.K t)
 mono : Vj t
structure DW (X : Cx) (e : Expr) (t : XT) : Prop where
 run : PW X e (liftT X.K t)
 mono : Vj t
structure DA (X : Cx) (es : List Expr) (t : XA) : Prop where
 run : PA X es (Uw X.K t)
 mono : vM t
theorem PE.imp {X : Cx} {e : Expr} {t u : TE} (h : PE X e t) (k : ∀ σ H Q, u σ H Q → t σ H Q) : PE X e u := ⟨fun pins s σ H Q I q => h.run pins s σ H Q I (k _ _ _ q)⟩
theorem PT.imp {X : Cx} {e : Expr} {t u : TT} (h : PT X e t) (k : ∀ σ H Q, u σ H Q → t σ H Q) : PT X e u := ⟨fun pins s σ H Q I q => h.run pins s σ H Q I (k _ _ _ q)⟩
theorem PW.imp {X : Cx} {e : Expr} {t u : TT} (h : PW X e t) (k : ∀ σ H Q, u σ H Q → t σ H Q) : PW X e u := ⟨fun wh pins s σ H Q I q => h.run wh pins s σ H Q I (k _ _ _ q)⟩
theorem PA.imp {X : Cx} {e : List Expr} {t u : TA} (h : PA X e t) (k : ∀ σ H Q, u σ H Q → t σ H Q) : PA X e u := ⟨fun pos pins s σ H Q I q => h.run pos pins s σ H Q I (k _ _ _ q)⟩
def Md.okL : Md → Nat → Bool
 | .own, _ => true
 | .io, _ => true
 | .lk, _ => true
 | .ro, 0 => false
 | .ro, _ + 1 => true
 | .cst, 0 => false
 | .cst, 1 => false
 | .cst, _ + 2 => true
def roOk : Bool → Nat → Bool
 | false, 0 => false
 | false, _ + 1 => true
 | true, 0 => false
 | true, 1 => false
 | true, _ + 2 => true
theorem Md.okL_le {m : Md} {L : Nat} (h : m.okL L = true) : m.lv ≤ L := by
 cases m with
 | own => exact Nat.zero_le _
 | io => exact Nat.zero_le _
 | lk => exact Nat.zero_le _
 | ro => cases L with
   | zero => cases h
   | succ n => exact Nat.succ_le_succ (Nat.zero_le _)
 | cst => match L, h with
   | n + 2, _ => exact Nat.le_add_left 2 n
theorem qbL {c : Bool} {L : Nat} (h : roOk c L = true) : clv c ≤ L := by
 match c, L, h with
 | false, n + 1, _ => exact Nat.le_add_left 1 n
 | true, n + 2, _ => exact Nat.le_add_left 2 n
def R.data (L : Nat) (env : En) : R → Option D
 | .tmp d => some d
 | .ro c d => match roOk c L with
   | true => some d
   | false => none
 | .sl i => match env[i]? with
   | some (some (d, m)) => match m.okL L with
     | true => some d
     | false => none
   | _ => none
def rd (L : Nat) (r : R) (env : En) (k : D → Prop) : Prop := match r.data L env with
 | some d => k d
 | none => False
def stor (r : R) (env : En) (k : D → Prop) : Prop := match r with
 | .tmp d => k d
 | r => rd 1 r env fun d => d.imm = true ∧ k d
def mkRo (c : Bool) (d : D) : R := match d with
 | .int i => .tmp (.int i)
 | .bl i => .tmp (.bl i)
 | .str i => .tmp (.str i)
 | .non => .tmp .non
 | d => .ro c d
def elem (r : R) (d : D) (k : R → Prop) : Prop := match r with
 | .tmp _ => k (.tmp d)
 | .ro c _ => k (mkRo c d)
 | .sl _ => d.imm = true ∧ k (.tmp d)
theorem qO {L : Nat} {r : R} {env : En} {k k' : D → Prop} (h : ∀ d, k d → k' d) (q : rd L r env k) : rd L r env k' := by
 unfold rd at q ⊢
 cases e : r.data L env with
 | none => rw [e] at q; exact q
 | some d => rw [e] at q; exact h _ q
theorem uo {r : R} {env : En} {k k' : D → Prop} (h : ∀ d, k d → k' d) (q : stor r env k) : stor r env k' := by
 cases r with
 | tmp d => exact h _ q
 | ro c d => exact qO (fun d z => ⟨z.1, h _ z.2⟩) q
 | sl i => exact qO (fun d z => ⟨z.1, h _ z.2⟩) q
theorem qcB {r : R} {d : D} {k k' : R → Prop} (h : ∀ d, k d → k' d) (q : elem r d k) : elem r d k' := by
 cases r with
 | tmp _ => exact h _ q
 | ro c _ => exact h _ q
 | sl _ => exact ⟨q.1, h _ q.2⟩
structure Ext (H H' : Hp) (g : List Addr) : Prop where
 same : ∀ b o, H b = some o → H' b = some o
 new : ∀ b ∈ g, H b = none
theorem Ext.refl {H : Hp} : Ext H H [] := ⟨fun _ _ h => h, fun b hb => by simp at hb⟩
theorem Ext.upd {H : Hp} {p : Addr} {o : HO} (h : H p = none) : Ext H (L2.upd H p o) [p] := ⟨fun b u e => by rw [upd_ne (ne_of_none e h)]; exact e, fun b hb => by rw [List.mem_singleton.mp hb]; exact h⟩
theorem Ext.drop {H H' : Hp} {g g' : List Addr} (e : Ext H H' g) (h : ∀ b ∈ g', b ∈ g) : Ext H H' g' := ⟨e.same, fun b hb => e.new b (h b hb)⟩
theorem Stp.new {H H1 H2 : Hp} {env e1 : En} {f f1 : FA} {G G1 g : List Addr} (S : Stp H env f G H1 e1 f1 G1) (x : Ext H1 H2 g) : Stp H env f G H2 e1 f1 (g ++ G1) :=
 S.trans ⟨fun b o h _ => x.same b o h, fun b q => q.elim .inl fun z => (List.mem_append.mp z).elim (fun y => .inr (.inr (x.new b y))) fun y => .inr (.inl y)⟩
section
variable {K : PySem.W.Frag} {σ : L2.St} {H H1 H2 H' : Hp} {env e1 e2 : En} {f f1 f2 : FA} {G g : List Addr} {r : R} {v z : V} {d : D}
theorem yO {L : Nat} {k : D → Prop} (A : Abs K σ H env f) (h : ResOk K σ H env f r v g) (q : rd L r env k) : ∃ d g', Rep K H L d v g' ∧ k d := by
 cases h with
 | tmp r _ => exact ⟨_, _, r.up (Nat.zero_le _), q⟩
 | @ro c d _ _ r _ =>
   unfold rd R.data at q
   cases e : roOk c L with
   | false => simp only [e] at q
   | true => simp only [e] at q; exact ⟨_, _, r.up (qbL e), q⟩
 | @sl i _ d m h1 h2 hm =>
   obtain ⟨v', h3, rp⟩ := A.rep _ _ _ h2
   rw [h1] at h3; cases h3
   unfold rd R.data at q
   simp only [h2] at q
   cases e : m.okL L with
   | false => simp only [e] at q
   | true => simp only [e] at q; exact ⟨_, _, rp.up (Md.okL_le e), q⟩
theorem Q3 {k : D → Prop} (A : Abs K σ H env f) (h : ResOk K σ H env f r v g) (q : stor r env k) : ∃ d, Rep K H 0 d v g ∧ k d ∧ (∀ b ∈ g, ¬ L0 env f b ∧ ¬ Ro env f b) := by
 cases r with
 | tmp d => cases h with
   | tmp r n => exact ⟨d, r, q, n⟩
 | ro c d =>
   obtain ⟨d', g', rp, e, q⟩ := yO A h q
   obtain ⟨rfl, rp'⟩ := rp.imm (Nat.le_refl _) e
   cases h
   exact ⟨d', rp', q, fun b hb => by simp at hb⟩
 | sl i =>
   obtain ⟨d', g', rp, e, q⟩ := yO A h q
   obtain ⟨rfl, rp'⟩ := rp.imm (Nat.le_refl _) e
   cases h
   exact ⟨d', rp', q, fun b hb => by simp at hb⟩
theorem Abs.ext (A : Abs K σ H env f) (e : ∀ b o, H b = some o → H' b = some o) : Abs K σ H' env f :=
 ⟨fun i d m h => let ⟨v, h1, r⟩ := A.rep i d m h; ⟨v, h1, r.keep fun b o q _ => e b o q⟩, A.dis, A.len⟩
theorem vI (A : Abs K σ H2 e2 f2) (S : Stp H env f [] H2 e2 f2 G) (x : Ext H2 H' g) (r : Rep K H' 0 d z g) :
 Abs K σ H' e2 f2 ∧ ResOk K σ H' e2 f2 (.tmp d) z g ∧ Stp H env f [] H' e2 f2 g := by
 refine ⟨A.ext x.same, .tmp r fun b hb => ⟨fun w => ?_, fun w => ?_⟩, S.trans ⟨fun b o h _ => x.same b o h, fun b q => ?_⟩⟩
 ·obtain ⟨o, ho, _⟩ := A.ldom w
  rw [x.new b hb] at ho; cases ho
 ·obtain ⟨o, ho, _⟩ := A.rdom w
  rw [x.new b hb] at ho; cases ho
 ·rcases q with q | q
  ·exact .inl q
  ·exact .inr (.inr (x.new b q))
theorem qav {ta tb : XE} {C : R → R → En → Prop} (ma : xV ta) (mb : xV tb) (A : Abs K σ H env f) (q : ta env fun r1 e1 => tb e1 fun r2 e2 => C r1 r2 e2) :
 jx K ta σ H fun x H1 => jx K tb σ H1 fun y H2 => ∃ r1 r2 e2 f2 g1 g2, Abs K σ H2 e2 f2 ∧ ResOk K σ H2 e2 f2 r1 x g1 ∧ ResOk K σ H2 e2 f2 r2 y g2 ∧ (∀ b ∈ g1, b ∉ g2) ∧ Stp H env f [] H2 e2 f2 (g1 ++ g2) ∧ Kp env f e2 f2 ∧ C r1 r2 e2 := by
 refine ⟨env, f, A, ma _ _ _ (fun r1 e1 q1 => ?_) q⟩
 intro x H1 f1 g1 A1 R1 S1 K1
 refine ⟨e1, f1, A1, mb _ _ _ (fun r2 e2 q2 => ?_) q1⟩
 intro y H2 f2 g2 A2 R2 S2 K2
 obtain ⟨R1', n⟩ := R1.wait A1 S2 K2
 exact ⟨r1, r2, e2, f2, g1, g2, A2, R1', R2, n, S1.trans (S2.frame g1), K1.trans K2, q2⟩
end
def dVar (i : Nat) : XE := fun env Q => match env[i]? with
 | some (some (.int z, _)) => Q (.tmp (.int z)) env
 | some (some (.bl z, _)) => Q (.tmp (.bl z)) env
 | some (some (.str z, _)) => Q (.tmp (.str z)) env
 | some (some (.non, _)) => Q (.tmp .non) env
 | some (some (.dF kvs, .own)) => Q (.ro true (.dT kvs)) env
 | some (some (d, .ro)) => Q (.ro false d) env
 | some (some (d, .cst)) => Q (.ro true d) env
 | some (some (_, .own)) => Q (.sl i) env
 | some (some (_, .io)) => Q (.sl i) env
 | some (some (_, .lk)) => Q (.sl i) env
 | _ => False
def dC (d : D) : XE := fun env Q => Q (.tmp d) env
def dG (d : D) : XE := fun env Q => Q (mkRo true d) env
section
variable {X : Cx}
theorem qm {P : Addr → Prop} : ∀ b ∈ ([] : List Addr), P b := fun b hb => by simp at hb
theorem Rep.frz2 {K : PySem.W.Frag} {H : Hp} {lv : Nat} {kvs : List (List Key × D)} {v : V} {g : List Addr} (r : Rep K H lv (.dF kvs) v g) (l : lv ≤ 2) : Rep K H 2 (.dT kvs) v [] := by
 cases r with
 | dF h e nd r => exact .dTF (Nat.le_refl _) h e nd (r.up l)
theorem qd (i : Nat) {x : Str} {pos : Pos} (hN : X.N[i]? = some x := by rfl) (hv : Vis X.env.scope x := by first | exact Or.inl rfl | exact Or.inr (Or.inl rfl) | exact Or.inr (Or.inr rfl)) (hd : (x == ("__debug__" : Str)) = false := by decide)
 (hcd : (x == ("__classdict__" : Str)) = false := by decide) : DE X (.Name x pos) (dVar i) := by
 refine ⟨PE.imp (pe_var hN hv hd hcd) fun σ H Q q => ?_, fun env Q Q' h q => ?_⟩
 ·obtain ⟨env, f, A, q⟩ := q
  unfold dVar at q
  split at q
  all_goals first
   | exact q.elim
   | (rename_i e
      obtain ⟨v, h1, rp⟩ := A.rep _ _ _ e
      refine ⟨v, h1, ?_⟩
      first
       | exact q v H f _ A (.tmp rp.int0 qm) .refl .refl
       | exact q v H f _ A (.tmp rp.bl0 qm) .refl .refl
       | exact q v H f _ A (.tmp rp.str0 qm) .refl .refl
       | exact q v H f _ A (.tmp rp.non0 qm) .refl .refl
       | exact q v H f _ A (.ro (rp.frz2 (Nat.zero_le _)) qm) .refl .refl
       | exact q v H f _ A (.ro rp fun b hb => ⟨_, _, _, e, by decide, hb⟩) .refl .refl
       | exact q v H f _ A (.sl h1 e rfl) .refl .refl)
 ·unfold dVar at q ⊢
  split at q <;> first | exact q.elim | exact h _ _ q
theorem qC {i j pos} : DE X (.Constant (.int i) j pos) (dC (.int i)) :=
 ⟨PE.imp pe_int fun σ H Q ⟨env, f, A, q⟩ => q _ H f _ A (.tmp (.int i) qm) .refl .refl, fun env Q Q' h q => h _ _ q⟩
theorem UJ {i j pos} : DE X (.Constant (.bool i) j pos) (dC (.bl i)) :=
 ⟨PE.imp pe_bl fun σ H Q ⟨env, f, A, q⟩ => q _ H f _ A (.tmp (.bl i) qm) .refl .refl, fun env Q Q' h q => h _ _ q⟩
theorem j5 {i j pos} : DE X (.Constant (.str i) j pos) (dC (.str i)) :=
 ⟨PE.imp pe_str fun σ H Q ⟨env, f, A, q⟩ => q _ H f _ A (.tmp (.str i) qm) .refl .refl, fun env Q Q' h q => h _ _ q⟩
theorem qaj {j pos} : DE X (.Constant .none j pos) (dC .non) :=
 ⟨PE.imp pe_non fun σ H Q ⟨env, f, A, q⟩ => q _ H f _ A (.tmp .non qm) .refl .refl, fun env Q Q' h q => h _ _ q⟩
def rOp (K : PySem.W.Frag) (L : Nat) (op : D → D → (D → Prop) → Prop) : R2 := fun x y H Q => ∃ d1 d2 g1 g2, Rep K H L d1 x g1 ∧ Rep K H L d2 y g2 ∧ op d1 d2 fun d => ∀ z H' g, Rep K H' 0 d z g → Ext H H' g → Q z H'
def Xw (op : D → D → (D → Prop) → Prop) : Prop := ∀ d1 d2 k k', (∀ d, k d → k' d) → op d1 d2 k → op d1 d2 k'
structure OpD (X : Cx) (fn : Value → Value → Sem Value) (L : Nat) (op : D → D → (D → Prop) → Prop) : Prop where
 run : OpR X fn (rOp X.K L op)
 mono : Xw op
def dBin (L : Nat) (op : D → D → (D → Prop) → Prop) (ta tb : XE) : XE := fun env Q => ta env fun r1 e1 => tb e1 fun r2 e2 => rd L r1 e2 fun d1 => rd L r2 e2 fun d2 => op d1 d2 fun d => Q (.tmp d) e2
theorem ZW {L : Nat} {op : D → D → (D → Prop) → Prop} {ta tb : XE} (ho : Xw op) (ha : xV ta) (hb : xV tb) : xV (dBin L op ta tb) := fun env Q Q' h q =>
 ha _ _ _ (fun r1 e1 q => hb _ _ _ (fun r2 e2 q => qO (fun d1 q => qO (fun d2 q => ho _ _ _ _ (fun d q => h _ _ q) q) q) q) q) q
theorem ZX {K : PySem.W.Frag} {L : Nat} {op : D → D → (D → Prop) → Prop} {ta tb : XE} (ho : Xw op) (ha : xV ta) (hb : xV tb) {σ : L2.St} {H : Hp} {Q : VK} (q : jx K (dBin L op ta tb) σ H Q) :
 tOp (rOp K L op) (jx K ta) (jx K tb) σ H Q := by
 obtain ⟨env, f, A, q⟩ := q
 have h := qav (C := fun r1 r2 e2 => rd L r1 e2 fun d1 => rd L r2 e2 fun d2 => op d1 d2 fun d => _) ha hb A q
 obtain ⟨env1, f1, A1, q1⟩ := h
 refine ⟨env1, f1, A1, ha _ _ _ (fun r1 e1 z => ?_) q1⟩
 intro x H1 f1 g1 a b c d
 obtain ⟨env2, f2, A2, q2⟩ := z x H1 f1 g1 a b c d
 refine ⟨env2, f2, A2, hb _ _ _ (fun r2 e2 z => ?_) q2⟩
 intro y H2 f2 g2 a b c d
 obtain ⟨r1, r2, e2, f2, g1, g2, A2, R1, R2, n, S, Kk, q3⟩ := z y H2 f2 g2 a b c d
 obtain ⟨d1, g1', rp1, q3⟩ := yO A2 R1 q3
 obtain ⟨d2, g2', rp2, q3⟩ := yO A2 R2 q3
 refine ⟨d1, d2, g1', g2', rp1, rp2, ho _ _ _ _ (fun dd q4 => ?_) q3⟩
 intro z H' g rp x
 obtain ⟨A3, R3, S3⟩ := vI A2 S x rp
 exact q4 z H' f2 g A3 R3 S3 Kk
variable {a b c : Expr} {ta tb tc : XE} {pos : Pos} {L : Nat} {op' : D → D → (D → Prop) → Prop}
theorem qK {op : Operator} (ho : OpD X (binaryOp op) L op') (ha : DE X a ta) (hb : DE X b tb) : DE X (.BinOp a op b pos) (dBin L op' ta tb) :=
 ⟨PE.imp (pe_op ho.run ha.run hb.run) fun σ H Q q => ZX ho.mono ha.mono hb.mono q, ZW ho.mono ha.mono hb.mono⟩
theorem QK {op : CmpOp} (ho : OpD X (compareOp op) L op') (ha : DE X a ta) (hb : DE X b tb) (hm : behindInMarks op b = false) : DE X (.Compare a [op] [b] pos) (dBin L op' ta tb) :=
 ⟨PE.imp (pe_cmpR ho.run ha.run hb.run hm) fun σ H Q q => ZX ho.mono ha.mono hb.mono q, ZW ho.mono ha.mono hb.mono⟩
end
end BX
namespace BX
open PySem PySem.Spec PyProof.Rows L2
structure Ok (X : Cx) : Prop where
 calm : X.calm = true
 un : X.A.units + 100 < cLine
mutual
def D.py : D → PyData
 | .non => .none
 | .bl b => .bool b
 | .int i => .int i
 | .str s => .str s
 | .tup xs => .tuple (pyL xs)
 | .lst xs => .list (pyL xs)
 | .dT _ => .dict []
 | .dK _ => .dict []
 | .dF _ => .dict []
 | .lF xs => .list (pyL xs)
 | .ob _ _ => .dict []
 | .ex _ _ => .dict []
 | .dN _ => .dict []
def pyL : List D → List PyData
 | [] => []
 | d :: ds => d.py :: pyL ds
end
def deq (a b : D) : Bool := PyData.eqv a.py b.py
def eqOk (a : D) : Bool := SeqAt.shaped a.py
section
variable {K : PySem.W.Frag} {H : Hp} {lv : Nat}
mutual
theorem Rep.dp : ∀ {d : D} {v : V} {f : List Addr}, Rep K H lv d v f → d.py.canLay0 = true → Dp K H v d.py
 | _, _, _, .non, _ => by rw [D.py]; exact .non
 | _, _, _, .bl b, _ => by rw [D.py]; exact .bl b
 | _, _, _, .int i, _ => by rw [D.py]; exact .int i
 | _, _, _, .str s, _ => by rw [D.py]; exact .str s
 | _, _, _, .tup h r, e => by
   rw [D.py] at e ⊢
   exact .tup (.inl (.inl h)) (Reps.dp r (by simpa [PyData.canLay0] using e))
 | _, _, _, .tupK l h r, e => by
   rw [D.py] at e ⊢
   exact .tup h.sq (Reps.dp r (by simpa [PyData.canLay0] using e))
 | _, _, _, .lst h r n, e => by
   rw [D.py] at e ⊢
   exact .lst (.inl (.inl h)) (Reps.dp r (by simpa [PyData.canLay0] using e))
 | _, _, _, .lstF l h r, e => by
   rw [D.py] at e ⊢
   exact .lst h.sq (Reps.dp r (by simpa [PyData.canLay0] using e))
 | _, _, _, .dT h e' nd r n, e => by rw [D.py] at e; simp [PyData.canLay0] at e
 | _, _, _, .dTF l h e' nd r, e => by rw [D.py] at e; simp [PyData.canLay0] at e
 | _, _, _, .dF h e' nd r, e => by rw [D.py] at e; simp [PyData.canLay0] at e
 | _, _, _, .ob h c e' r n, e => by rw [D.py] at e; simp [PyData.canLay0] at e
 | _, _, _, .lF h r, e => by
   rw [D.py] at e ⊢
   exact .lst (.inl (.inr ⟨_, h⟩)) (Reps.dp r (by simpa [PyData.canLay0] using e))
 | _, _, _, .dK h e' nd r n, e => by rw [D.py] at e; simp [PyData.canLay0] at e
theorem Reps.dp : ∀ {ds : List D} {vs : List V} {f : List Addr}, Reps K H lv ds vs f → PyData.canLayAll0 (pyL ds) = true → DpAll K H vs (pyL ds)
 | _, _, _, .nil, _ => by rw [pyL]; exact .nil
 | _, _, _, .cons r t n, e => by
   rw [pyL] at e ⊢
   rw [PyData.canLayAll0, Bool.and_eq_true] at e
   have e' := e
   exact .cons (Rep.dp r e'.1) (Reps.dp t e'.2)
end
theorem Rep.eqd {d : D} {v : V} {f : List Addr} (r : Rep K H lv d v f) (e : eqOk d = true) : Dp K H v d.py ∧ SeqAt.shaped d.py = true := ⟨r.dp (SeqAt.canLay_of_shaped e), e⟩
end
abbrev OP := D → D → (D → Prop) → Prop
def opEq : OP := fun a b k => eqOk a = true ∧ eqOk b = true ∧ k (.bl (deq a b))
def opNe : OP := fun a b k => eqOk a = true ∧ eqOk b = true ∧ k (.bl (!deq a b))
def X7 (g : Int → Int → D) : OP := fun a b k => match a, b with
 | .int i, .int j => k (g i j)
 | _, _ => False
def Wt (C : Int → Int → Prop) (g : Int → Int → D) : OP := fun a b k => match a, b with
 | .int i, .int j => C i j ∧ k (g i j)
 | _, _ => False
def yu : OP := fun a b k => match a, b with
 | .int i, .int j => k (.int (i + j))
 | .str i, .str j => i.length + j.length ≤ sizeLine ∧ k (.str (i ++ j))
 | .lst xs, .lst ys => immL xs = true ∧ immL ys = true ∧ xs.length + ys.length ≤ sizeLine ∧ k (.lst (xs ++ ys))
 | .tup xs, .tup ys => immL xs = true ∧ immL ys = true ∧ xs.length + ys.length ≤ sizeLine ∧ k (.tup (xs ++ ys))
 | .lF xs, .lst ys => immL xs = true ∧ immL ys = true ∧ xs.length + ys.length ≤ sizeLine ∧ k (.lst (xs ++ ys))
 | .lst xs, .lF ys => immL xs = true ∧ immL ys = true ∧ xs.length + ys.length ≤ sizeLine ∧ k (.lst (xs ++ ys))
 | .lF xs, .lF ys => immL xs = true ∧ immL ys = true ∧ xs.length + ys.length ≤ sizeLine ∧ k (.lst (xs ++ ys))
 | _, _ => False
def Q8 : OP := fun a b k => match a, b with
 | .int i, .int j => IntMulOk i j ∧ k (.int (i * j))
 | .lst xs, .int j => immL xs = true ∧ -(2 ^ 63) ≤ j ∧ j < 2 ^ 63 ∧ xs.length * j.toNat ≤ sizeLine ∧ k (.lst (List.replicate j.toNat xs).flatten)
 | _, _ => False
abbrev vG : OP := X7 fun i j => .int (i - j)
abbrev Qw : OP := Wt (fun _ j => 0 < j) fun i j => .int (i % j)
abbrev qgI : OP := Wt CDiv fun i j => .int (i / j)
abbrev qgH : OP := Wt CPow fun i j => .int (i ^ j.toNat)
abbrev opGt : OP := X7 fun i j => .bl (decide (j < i))
abbrev opGe : OP := X7 fun i j => .bl (decide (j ≤ i))
def intL : List D → Option (List Int)
 | [] => some []
 | .int i :: ds => (intL ds).map (i :: ·)
 | _ :: _ => none
def opLt : OP := fun a b k => match a, b with
 | .int i, .int j => k (.bl (decide (i < j)))
 | .tup xs, .tup ys => match intL xs, intL ys with
   | some ns, some ms => k (.bl (HT.lexLt ns ms))
   | _, _ => False
 | _, _ => False
def isNon : D → Bool
 | .non => true
 | _ => false
def opIs : OP := fun a b k => match a, b with
 | a, .non => k (.bl (isNon a))
 | .bl i, .bl j => k (.bl (decide (i = j)))
 | _, _ => False
def uP : OP := fun a b k => match a, b with
 | a, .non => k (.bl (!isNon a))
 | .bl i, .bl j => k (.bl (!decide (i = j)))
 | _, _ => False
def dKey : D → Option Key
 | .int i => some (.inl i)
 | .str s => some (.inr s)
 | _ => none
def xJ : List D → Option (List Key)
 | [] => some []
 | d :: ds => match dKey d, xJ ds with
   | some k, some ks => some (k :: ks)
   | _, _ => none
def hasT (kvs : List (List Key × D)) (k : List Key) : Bool := kvs.any fun p => decide (p.1 = k)
def hasK (kvs : List (Key × D)) (k : Key) : Bool := kvs.any fun p => decide (p.1 = k)
def findIn (a : D) : List D → Bool
 | [] => false
 | d :: ds => deq d a || findIn a ds
def Qx (n : Bool) : OP := fun a b k => match b with
 | .dT kvs => match a with
   | .tup ds => match xJ ds with
     | some ks => k (.bl (n != hasT kvs ks))
     | none => False
   | _ => False
 | .dK kvs => match dKey a with
   | some ky => k (.bl (n != hasK kvs ky))
   | none => False
 | .lst ds => eqOk a = true ∧ eqOk (.lst ds) = true ∧ k (.bl (n != findIn a ds))
 | .lF ds => eqOk a = true ∧ eqOk (.lF ds) = true ∧ k (.bl (n != findIn a ds))
 | .tup ds => eqOk a = true ∧ eqOk (.tup ds) = true ∧ k (.bl (n != findIn a ds))
 | .str s => match a with
   | .str t => k (.bl (n != !(Builtin.Str.occurrences s t 0 s.length 1).isEmpty))
   | _ => False
 | _ => False
abbrev opIn := Qx false
abbrev Y5 := Qx true
section
variable {K : PySem.W.Frag} {H : Hp} {lv : Nat}
theorem Reps.intL : ∀ {ds : List D} {vs : List V} {f : List Addr} {ns : List Int}, Reps K H lv ds vs f → BX.intL ds = some ns → vs = ns.map V.int
 | _, _, _, _, .nil, e => by
   rw [BX.intL] at e; cases e; rfl
 | _, _, _, ns, .cons (d := d) (ds := ds) r t _, e => by
   cases r with
   | int i =>
     rw [BX.intL] at e
     obtain ⟨ms, h1, h2⟩ := Option.map_eq_some_iff.mp e
     subst h2
     rw [Reps.intL t h1]
     rfl
   | _ => rw [BX.intL] at e <;> first | (cases e) | (intro i z; cases z)
theorem Rep.dKey {d : D} {v : V} {f : List Addr} {k : Key} (r : Rep K H lv d v f) (e : BX.dKey d = some k) : v = kV k := by
 cases r with
 | int i => rw [BX.dKey] at e; cases e; rfl
 | str s => rw [BX.dKey] at e; cases e; rfl
 | _ => rw [BX.dKey] at e <;> first | (cases e) | (intro i z; cases z)
theorem Reps.xJ : ∀ {ds : List D} {vs : List V} {f : List Addr} {ks : List Key}, Reps K H lv ds vs f → BX.xJ ds = some ks → vs = ks.map kV
 | _, _, _, _, .nil, e => by
   rw [BX.xJ] at e; cases e; rfl
 | _, _, _, ns, .cons (d := d) (ds := ds) r t _, e => by
   rw [BX.xJ] at e
   split at e
   ·rename_i k ks h1 h2
    cases e
    rw [r.dKey h1, Reps.xJ t h2]
    rfl
   ·cases e
end
section
variable {κ : Type} [DecidableEq κ]
theorem YB : ∀ {hs : List (κ × V)} {kvs : List (κ × D)} {k : κ}, hs.map (·.1) = kvs.map (·.1) → (valV hs k).isSome = kvs.any fun p => decide (p.1 = k)
 | [], [], _, _ => rfl
 | [], _ :: _, _, e => by simp at e
 | _ :: _, [], _, e => by simp at e
 | p :: hs, q :: kvs, k, e => by
   rw [List.map_cons, List.map_cons, List.cons.injEq] at e
   rw [List.any_cons, ← e.1]
   by_cases h : p.1 = k
   ·rw [valV_pos h, decide_eq_true h]; rfl
   ·rw [valV_neg h, decide_eq_false h, Bool.false_or]; exact YB e.2
end
theorem jE (a : D) : ∀ ds : List D, findIn a ds = (pyL ds).any fun z => PyData.eqv z a.py
 | [] => by rw [pyL]; rfl
 | d :: ds => by rw [pyL, List.any_cons, findIn, jE a ds]; rfl
section
variable {X : Cx}
theorem OpD.mk' {fn : Value → Value → Sem Value} {L : Nat} {op : OP} (run : ∀ (pins : List (Addr × Obj)) (s : Shared) (σ : L2.St) (H : Hp) (x y : V) (v u : Value) (Q : VK) (d1 d2 : D) (g1 g2 : List Addr), Inv X pins σ H s → RelV x v → RelV y u →
 Rep X.K H L d1 x g1 → Rep X.K H L d2 y g2 → (op d1 d2 fun d => ∀ z H' g, Rep X.K H' 0 d z g → Ext H H' g → Q z H') → wpAny (model X.prog X.w) X.A (fn v u) (EP X pins σ Q) X.xe s) (mono : Xw op) : OpD X fn L op :=
 ⟨fun pins s σ H x y v u Q I rx ry ⟨d1, d2, g1, g2, r1, r2, q⟩ => run pins s σ H x y v u Q d1 d2 g1 g2 I rx ry r1 r2 q, mono⟩
theorem qdA {g : Int → Int → D} : Xw (X7 g) := fun a b k k' h q => by
 unfold X7 at q ⊢
 split at q
 ·exact h _ q
 ·exact q.elim
theorem qcb {C : Int → Int → Prop} {g : Int → Int → D} : Xw (Wt C g) := fun a b k k' h q => by
 unfold Wt at q ⊢
 split at q
 ·exact ⟨q.1, h _ q.2⟩
 ·exact q.elim
theorem qbZ {fn : Value → Value → Sem Value} {g : Int → Int → D} {gv : Int → Int → V} (h : OpR X fn (rI0 gv)) (hg : ∀ i j H, Rep X.K H 0 (g i j) (gv i j) []) : OpD X fn 2 (X7 g) := .mk' (fun pins s σ H x y v u Q d1 d2 g1 g2 I rx ry r1 r2 q => by
 unfold X7 at q
 split at q
 ·obtain ⟨rfl, _⟩ := r1.intV
  obtain ⟨rfl, _⟩ := r2.intV
  exact h pins s σ H _ _ v u Q I rx ry ⟨_, _, rfl, rfl, q _ _ [] (hg _ _ _) .refl⟩
 ·exact q.elim) qdA
theorem Ut {fn : Value → Value → Sem Value} {C : Int → Int → Prop} {g : Int → Int → D} {gv : Int → Int → V} (h : OpR X fn (rI C gv)) (hg : ∀ i j H, Rep X.K H 0 (g i j) (gv i j) []) : OpD X fn 2 (Wt C g) := .mk' (fun pins s σ H x y v u Q d1 d2 g1 g2 I rx ry r1 r2 q => by
 unfold Wt at q
 split at q
 ·obtain ⟨rfl, _⟩ := r1.intV
  obtain ⟨rfl, _⟩ := r2.intV
  exact h pins s σ H _ _ v u Q I rx ry ⟨_, _, rfl, rfl, q.1, q.2 _ _ [] (hg _ _ _) .refl⟩
 ·exact q.elim) qcb
theorem jL : OpD X (binaryOp .Sub) 2 vG := qbZ op_sub fun _ _ _ => .int _
theorem vf : OpD X (binaryOp .Mod) 2 Qw := Ut op_mod fun _ _ _ => .int _
theorem qgO : OpD X (binaryOp .FloorDiv) 2 qgI := Ut op_fdiv fun _ _ _ => .int _
theorem qgL : OpD X (binaryOp .Pow) 2 qgH := Ut op_pow fun _ _ _ => .int _
theorem qgN : OpD X (compareOp .Gt) 2 opGt := qbZ op_gt fun _ _ _ => .bl _
theorem qiJ : OpD X (compareOp .GtE) 2 opGe := qbZ op_ge fun _ _ _ => .bl _
theorem vW {H : Hp} {p : Addr} {ds : List D} {vs : List V} (h : H p = none) (r : Reps X.K H 0 ds vs []) : Rep X.K (L2.upd H p (.lst vs)) 0 (.lst ds) (.ref p) [p] :=
 .lst upd_same (r.keep fun b o e _ => (Ext.upd h).same b o e) (fun _ => by simp)
theorem YF {H : Hp} {p : Addr} {ds : List D} {vs : List V} {f : List Addr} (h : H p = none) (r : Reps X.K H 0 ds vs f) : Rep X.K (L2.upd H p (.tup vs)) 0 (.tup ds) (.ref p) f :=
 .tup upd_same (r.keep fun b o e _ => (Ext.upd h).same b o e)
theorem Ext.updT {H : Hp} {p : Addr} {o : HO} (h : H p = none) : Ext H (L2.upd H p o) [] := (Ext.upd h).drop qm
def LsF (H : Hp) (a : Addr) (vs : List V) : Prop := H a = some (.lst vs) ∨ ∃ o, H a = some (.frz o (.lst vs))
theorem LsF.at {pins : List (Addr × Obj)} {s : Shared} {σ : L2.St} {H : Hp} {a : Addr} {vs : List V} (I : Inv X pins σ H s) (h : LsF H a vs) : ∃ (its : List Value) (n : Nat), Vals vs its ∧ s.heap.get? a = some { cls := .type "list", data := .seq its.toArray n } := by
 rcases h with h | ⟨o, h⟩
 ·obtain ⟨_, its, n, r, e⟩ := I.hok a _ h
  exact ⟨its, n, r, e⟩
 ·obtain ⟨_, _, its, n, r, e⟩ := I.hok a _ h
  exact ⟨its, n, r, e⟩
theorem Rep.lFLs {K : PySem.W.Frag} {H : Hp} {lv : Nat} {ds : List D} {v : V} {f : List Addr} (r : Rep K H lv (.lF ds) v f) : ∃ a vs, v = .ref a ∧ LsF H a vs ∧ Reps K H lv ds vs f := by
 cases r with
 | lF h r => exact ⟨_, _, rfl, .inr ⟨_, h⟩, r⟩
theorem Xo {pins : List (Addr × Obj)} {s : Shared} {σ : L2.St} {H : Hp} {a b : Addr} {v u : Value} {Q : VK} {vs ws : List V} {xs ys : List D} {f g : List Addr} (I : Inv X pins σ H s) (rx : RelV (.ref a) v) (ry : RelV (.ref b) u) (ha : LsF H a vs) (hb : LsF H b ws)
 (ra : Reps X.K H 1 xs vs f) (rb : Reps X.K H 1 ys ws g) (i1 : immL xs = true) (i2 : immL ys = true) (z : xs.length + ys.length ≤ sizeLine) (q : ∀ z H' g, Rep X.K H' 0 (.lst (xs ++ ys)) z g → Ext H H' g → Q z H') : wpAny (model X.prog X.w) X.A (binaryOp .Add v u) (EP X pins σ Q) X.xe s := by
 obtain ⟨_, ra'⟩ := ra.imm (Nat.le_refl _) i1
 obtain ⟨_, rb'⟩ := rb.imm (Nat.le_refl _) i2
 cases rx
 cases ry
 obtain ⟨i, n, r1, p1⟩ := ha.at I
 obtain ⟨j, m, r2, p2⟩ := hb.at I
 have l1 := r1.length
 have l2 := r2.length
 have l3 := ra.len
 have l4 := rb.len
 refine PySem.P.add_list p1 p2 ?_ (by simp only [List.size_toArray]; omega)
 have e : i.toArray ++ j.toArray = (i ++ j).toArray := by simp
 rw [e]
 exact ⟨.ref _, _, I.lnew (t' := s.toks) (r1.append r2) (by rw [List.length_append]; omega), rfl, q _ _ _ (vW I.fresh (ra'.append rb' fun _ b hb => by simp at hb)) (.upd I.fresh)⟩
theorem zK : OpD X (binaryOp .Add) 1 yu := .mk' (fun pins s σ H x y v u Q d1 d2 g1 g2 I rx ry r1 r2 q => by
 unfold yu at q
 split at q
 ·obtain ⟨rfl, _⟩ := r1.intV
  obtain ⟨rfl, _⟩ := r2.intV
  exact op_add pins s σ H _ _ v u Q I rx ry ⟨_, _, rfl, rfl, q _ _ [] (.int _) .refl⟩
 ·obtain ⟨rfl, _⟩ := r1.strV
  obtain ⟨rfl, _⟩ := r2.strV
  exact op_add_str pins s σ H _ _ v u Q I rx ry ⟨_, _, rfl, rfl, q.1, q.2 _ _ [] (.str _) .refl⟩
 ·obtain ⟨i1, i2, z, q⟩ := q
  obtain ⟨a, vs, ga, rfl, ha, ra, _⟩ := r1.listAt1 (Nat.le_refl _)
  obtain ⟨b, ws, gb, rfl, hb, rb, _⟩ := r2.listAt1 (Nat.le_refl _)
  obtain ⟨_, ra'⟩ := ra.imm (Nat.le_refl _) i1
  obtain ⟨_, rb'⟩ := rb.imm (Nat.le_refl _) i2
  refine op_cat pins s σ H _ _ v u Q I rx ry ⟨_, _, _, _, rfl, rfl, ha, hb, by rw [← ra.len, ← rb.len]; exact z, fun p hp => q _ _ _ (vW hp (ra'.append rb' fun _ b hb => by simp at hb)) (.upd hp)⟩
 ·obtain ⟨i1, i2, z, q⟩ := q
  obtain ⟨a, vs, rfl, ha, ra⟩ := r1.tupleSq
  obtain ⟨b, ws, rfl, hb, rb⟩ := r2.tupleSq
  obtain ⟨_, ra'⟩ := ra.imm (Nat.le_refl _) i1
  obtain ⟨_, rb'⟩ := rb.imm (Nat.le_refl _) i2
  refine op_catA pins s σ H _ _ v u Q I rx ry ⟨_, _, _, _, rfl, rfl, ha, hb, by rw [← ra.len, ← rb.len]; exact z, fun e => ?_, fun _ e => ?_, fun e1 e2 p hp => q _ _ _ (YF hp (ra'.append rb' fun _ b hb => by simp at hb)) (.updT hp)⟩
  ·subst e
   have : _ = [] := List.eq_nil_of_length_eq_zero (ra.len.trans rfl)
   subst this
   exact q _ _ [] (r2.imm (Nat.le_refl _) (by rw [D.imm]; exact i2)).2 .refl
  ·subst e
   have : _ = [] := List.eq_nil_of_length_eq_zero (rb.len.trans rfl)
   subst this
   rw [List.append_nil] at q
   exact q _ _ [] (r1.imm (Nat.le_refl _) (by rw [D.imm]; exact i1)).2 .refl
 ·obtain ⟨i1, i2, z, q⟩ := q
  obtain ⟨a, vs, rfl, ha, ra⟩ := r1.lFLs
  obtain ⟨b, ws, gb, rfl, hb, rb, _⟩ := r2.listAt1 (Nat.le_refl _)
  exact Xo I rx ry ha (.inl hb) ra rb i1 i2 z q
 ·obtain ⟨i1, i2, z, q⟩ := q
  obtain ⟨a, vs, ga, rfl, ha, ra, _⟩ := r1.listAt1 (Nat.le_refl _)
  obtain ⟨b, ws, rfl, hb, rb⟩ := r2.lFLs
  exact Xo I rx ry (.inl ha) hb ra rb i1 i2 z q
 ·obtain ⟨i1, i2, z, q⟩ := q
  obtain ⟨a, vs, rfl, ha, ra⟩ := r1.lFLs
  obtain ⟨b, ws, rfl, hb, rb⟩ := r2.lFLs
  exact Xo I rx ry ha hb ra rb i1 i2 z q
 ·exact q.elim) (fun a b k k' h q => by
 unfold yu at q ⊢
 split at q
 ·exact h _ q
 ·exact ⟨q.1, h _ q.2⟩
 ·exact ⟨q.1, q.2.1, q.2.2.1, h _ q.2.2.2⟩
 ·exact ⟨q.1, q.2.1, q.2.2.1, h _ q.2.2.2⟩
 ·exact ⟨q.1, q.2.1, q.2.2.1, h _ q.2.2.2⟩
 ·exact ⟨q.1, q.2.1, q.2.2.1, h _ q.2.2.2⟩
 ·exact ⟨q.1, q.2.1, q.2.2.1, h _ q.2.2.2⟩
 ·exact q.elim)
theorem qe6 : OpR X (binaryOp .Mult) (rI IntMulOk fun i j => .int (i * j)) := opI fun _ _ _ _ _ _ _ hc q => mul_int q hc
theorem VB {K : PySem.W.Frag} {H : Hp} {ds : List D} {vs : List V} (r : Reps K H 0 ds vs []) : ∀ n : Nat, Reps K H 0 (List.replicate n ds).flatten (List.replicate n vs).flatten []
 | 0 => by
   rw [List.replicate_zero, List.replicate_zero]; exact .nil
 | n + 1 => by
   rw [List.replicate_succ, List.replicate_succ, List.flatten_cons, List.flatten_cons]
   exact r.append (f := []) (g := []) (VB r n) fun _ b hb => by simp at hb
theorem Zx : OpD X (binaryOp .Mult) 1 Q8 := .mk' (fun pins s σ H x y v u Q d1 d2 g1 g2 I rx ry r1 r2 q => by
 unfold Q8 at q
 split at q
 ·obtain ⟨rfl, _⟩ := r1.intV
  obtain ⟨rfl, _⟩ := r2.intV
  exact qe6 pins s σ H _ _ v u Q I rx ry ⟨_, _, rfl, rfl, q.1, q.2 _ _ [] (.int _) .refl⟩
 ·obtain ⟨i1, z1, z2, z3, q⟩ := q
  obtain ⟨a, vs, ga, rfl, ha, ra, _⟩ := r1.listAt1 (Nat.le_refl _)
  obtain ⟨rfl, _⟩ := r2.intV
  obtain ⟨_, ra'⟩ := ra.imm (Nat.le_refl _) i1
  exact op_rep pins s σ H _ _ v u Q I rx ry ⟨_, _, _, rfl, rfl, ha, z1, z2, by rw [← ra.len]; exact z3, fun p hp => q _ _ _ (vW hp (VB ra' _)) (.upd hp)⟩
 ·exact q.elim) (fun a b k k' h q => by
 unfold Q8 at q ⊢
 split at q
 ·exact ⟨q.1, h _ q.2⟩
 ·exact ⟨q.1, q.2.1, q.2.2.1, q.2.2.2.1, h _ q.2.2.2.2⟩
 ·exact q.elim)
variable (hx : Ok X)
include hx
theorem Wz : OpD X (compareOp .Eq) 2 opEq := .mk' (fun pins s σ H x y v u Q d1 d2 g1 g2 I rx ry r1 r2 q => by
 obtain ⟨a1, b1⟩ := r1.eqd q.1
 obtain ⟨a2, b2⟩ := r2.eqd q.2.1
 exact op_eqD (by have := hx.un; omega) pins s σ H _ _ v u Q I rx ry ⟨_, _, a1, a2, b1, b2, q.2.2 _ _ [] (.bl _) .refl⟩) (fun a b k k' h q => ⟨q.1, q.2.1, h _ q.2.2⟩)
theorem Z7 : OpD X (compareOp .NotEq) 2 opNe := .mk' (fun pins s σ H x y v u Q d1 d2 g1 g2 I rx ry r1 r2 q => by
 obtain ⟨a1, b1⟩ := r1.eqd q.1
 obtain ⟨a2, b2⟩ := r2.eqd q.2.1
 exact op_neD (by have := hx.un; omega) pins s σ H _ _ v u Q I rx ry ⟨_, _, a1, a2, b1, b2, q.2.2 _ _ [] (.bl _) .refl⟩) (fun a b k k' h q => ⟨q.1, q.2.1, h _ q.2.2⟩)
theorem qiI : OpD X (compareOp .Lt) 2 opLt := .mk' (fun pins s σ H x y v u Q d1 d2 g1 g2 I rx ry r1 r2 q => by
 unfold opLt at q
 split at q
 ·obtain ⟨rfl, _⟩ := r1.intV
  obtain ⟨rfl, _⟩ := r2.intV
  exact op_lt pins s σ H _ _ v u Q I rx ry ⟨_, _, rfl, rfl, q _ _ [] (.bl _) .refl⟩
 ·split at q
  ·rename_i e1 e2
   obtain ⟨a, vs, rfl, ha, ra⟩ := r1.tupleSq
   obtain ⟨b, ws, rfl, hb, rb⟩ := r2.tupleSq
   rw [ra.intL e1] at ha
   rw [rb.intL e2] at hb
   exact op_ltT (by have := hx.un; omega) pins s σ H _ _ v u Q I rx ry ⟨_, _, _, _, rfl, rfl, ha, hb, q _ _ [] (.bl _) .refl⟩
  ·exact q.elim
 ·exact q.elim) (fun a b k k' h q => by
 unfold opLt at q ⊢
 split at q
 ·exact h _ q
 ·split at q
  ·simp only [*] <;> exact h _ q
  ·exact q.elim
 ·exact q.elim)
omit hx in
theorem Rep.isNon {K : PySem.W.Frag} {H : Hp} {lv : Nat} {d : D} {v : V} {f : List Addr} (r : Rep K H lv d v f) : decide (v = .non) = BX.isNon d := by
 cases r <;> simp [BX.isNon]
omit hx in
theorem qgM : OpD X (compareOp .Is) 2 opIs := .mk' (fun pins s σ H x y v u Q d1 d2 g1 g2 I rx ry r1 r2 q => by
 unfold opIs at q
 split at q
 ·obtain ⟨rfl, _⟩ := r2.nonV
  exact op_isN pins s σ H _ _ v u Q I rx ry ⟨rfl, by rw [r1.isNon]; exact q _ _ [] (.bl _) .refl⟩
 ·obtain ⟨rfl, _⟩ := r1.blV
  obtain ⟨rfl, _⟩ := r2.blV
  exact op_is_bl pins s σ H _ _ v u Q I rx ry ⟨_, _, rfl, rfl, q _ _ [] (.bl _) .refl⟩
 ·exact q.elim) (fun a b k k' h q => by
 unfold opIs at q ⊢
 split at q
 ·exact h _ q
 ·exact h _ q
 ·exact q.elim)
omit hx in
theorem qcc {n : Bool} : Xw (Qx n) := fun a b k k' h q => by
 unfold Qx at q ⊢
 split at q
 ·split at q
  ·split at q
   ·simp only [*] <;> exact h _ q
   ·exact q.elim
  ·exact q.elim
 ·split at q
  ·simp only [*] <;> exact h _ q
  ·exact q.elim
 ·exact ⟨q.1, q.2.1, h _ q.2.2⟩
 ·exact ⟨q.1, q.2.1, h _ q.2.2⟩
 ·exact ⟨q.1, q.2.1, h _ q.2.2⟩
 ·split at q
  ·exact h _ q
  ·exact q.elim
 ·exact q.elim
theorem qeq {n : Bool} {pins : List (Addr × Obj)} {s : Shared} {σ : L2.St} {H : Hp} {x y : V} {v u : Value} {Q : VK} {d1 d2 : D} {g1 g2 : List Addr} (I : Inv X pins σ H s) (rx : RelV x v) (ry : RelV y u) (r1 : Rep X.K H 1 d1 x g1) (r2 : Rep X.K H 1 d2 y g2)
 (q : Qx n d1 d2 fun d => ∀ z H' g, Rep X.K H' 0 d z g → Ext H H' g → Q z H') : wpAny (model X.prog X.w) X.A (compareOp (if n then .NotIn else .In) v u) (EP X pins σ Q) X.xe s := by
 have hu := hx.un
 unfold Qx at q
 split at q
 ·rename_i kvs
  split at q
  ·rename_i ds
   split at q
   ·rename_i ks e
    obtain ⟨a, vs, rfl, ha, ra⟩ := r1.tupleAt (Nat.le_refl _)
    rw [ra.xJ e] at ha
    cases r2 with
    | @dT b hs kvs f hb he nd r nn =>
      cases ry
      have q' := q (.bl (n != hasT kvs ks)) H [] (.bl _) .refl
      have e2 := YB (k := ks) he
      cases n with
      | false => exact d_in (by omega) I (DGet.t hb ha) rx fun s' I' => ⟨.bl _, H, I', rfl, by rw [e2]; simpa [hasT] using q'⟩
      | true => exact d_notIn (by omega) I (DGet.t hb ha) rx fun s' I' => ⟨.bl _, H, I', rfl, by rw [e2]; simpa [hasT] using q'⟩
    | dTF l _ _ _ _ => exact absurd l (by omega)
   ·exact q.elim
  ·exact q.elim
 ·rename_i kvs
  split at q
  ·rename_i ky e
   obtain rfl := r1.dKey e
   cases r2 with
   | @dK b hs kvs f hb he nd r nn =>
     cases ry
     have q' := q (.bl (n != hasK kvs ky)) H [] (.bl _) .refl
     have e2 := YB (k := ky) he
     cases n with
     | false => exact d_in (by omega) I (DGet.k hb) rx fun s' I' => ⟨.bl _, H, I', rfl, by rw [e2]; simpa [hasK] using q'⟩
     | true => exact d_notIn (by omega) I (DGet.k hb) rx fun s' I' => ⟨.bl _, H, I', rfl, by rw [e2]; simpa [hasK] using q'⟩
  ·exact q.elim
 ·rename_i ds
  obtain ⟨a1, b1⟩ := r1.eqd q.1
  obtain ⟨a2, b2⟩ := r2.eqd q.2.1
  have q' := q.2.2 _ _ [] (.bl _) .refl
  rw [D.py] at a2 b2
  cases n with
  | false => exact op_inD (by omega) pins s σ H _ _ v u Q I rx ry ⟨_, _, a1, a2, b1, b2, by rw [jE] at q'; simpa using q'⟩
  | true => exact op_notInD (by omega) pins s σ H _ _ v u Q I rx ry ⟨_, _, a1, a2, b1, b2, by rw [jE] at q'; simpa using q'⟩
 ·rename_i ds
  obtain ⟨a1, b1⟩ := r1.eqd q.1
  obtain ⟨a2, b2⟩ := r2.eqd q.2.1
  have q' := q.2.2 _ _ [] (.bl _) .refl
  rw [D.py] at a2 b2
  cases n with
  | false => exact op_inD (by omega) pins s σ H _ _ v u Q I rx ry ⟨_, _, a1, a2, b1, b2, by rw [jE] at q'; simpa using q'⟩
  | true => exact op_notInD (by omega) pins s σ H _ _ v u Q I rx ry ⟨_, _, a1, a2, b1, b2, by rw [jE] at q'; simpa using q'⟩
 ·rename_i ds
  obtain ⟨a1, b1⟩ := r1.eqd q.1
  obtain ⟨a2, b2⟩ := r2.eqd q.2.1
  have q' := q.2.2 _ _ [] (.bl _) .refl
  rw [D.py] at a2 b2
  rw [jE] at q'
  obtain ⟨as, t1⟩ := Dp.reads I _ x v a1 rx
  obtain ⟨bs, t2⟩ := Dp.reads I _ y u a2 ry
  have hu2 : X.A.units + 65 < cLine := by omega
  cases n with
  | false => exact SeqAt.in_tuple_reads t2 t1 (SeqAt.canLay_of_shaped b2) (SeqAt.canLay_of_shaped b1) (room_in_shaped b1 hu2) ⟨.bl _, H, I, rfl, by simpa using q'⟩
  | true => exact SeqAt.notIn_tuple_reads t2 t1 (SeqAt.canLay_of_shaped b2) (SeqAt.canLay_of_shaped b1) (room_in_shaped b1 hu2) ⟨.bl _, H, I, rfl, by simpa using q'⟩
 ·split at q
  ·obtain ⟨rfl, _⟩ := r1.strV
   obtain ⟨rfl, _⟩ := r2.strV
   have q' := q _ _ [] (.bl _) .refl
   cases n with
   | false => exact op_in_str pins s σ H _ _ v u Q I rx ry ⟨_, _, rfl, rfl, by simpa using q'⟩
   | true => exact op_notin_str pins s σ H _ _ v u Q I rx ry ⟨_, _, rfl, rfl, by simpa using q'⟩
  ·exact q.elim
 ·exact q.elim
theorem qb0 : OpD X (compareOp .In) 1 opIn := .mk' (fun pins s σ H x y v u Q d1 d2 g1 g2 I rx ry r1 r2 q => qeq (n := false) hx I rx ry r1 r2 q) qcc
theorem qdv : OpD X (compareOp .NotIn) 1 Y5 := .mk' (fun pins s σ H x y v u Q d1 d2 g1 g2 I rx ry r1 r2 q => qeq (n := true) hx I rx ry r1 r2 q) qcc
end
end BX
namespace BX
open PySem PySem.Spec PyProof.Rows L2
def tru (d : D) (k : Bool → Prop) : Prop := match d with
 | .non => k false
 | .bl b => k b
 | .int i => k (i != 0)
 | .str s => s.length ≤ sizeLine ∧ k ((s.length : Int) != 0)
 | .lst xs => k (!xs.isEmpty)
 | .tup xs => k (!xs.isEmpty)
 | .dK kvs => k (!kvs.isEmpty)
 | .dT _ => False
 | .dF _ => False
 | .lF xs => k (!xs.isEmpty)
 | .ob _ _ => False
 | .ex _ _ => False
 | .dN _ => False
theorem Qn {d : D} {k k' : Bool → Prop} (h : ∀ b, k b → k' b) (q : tru d k) : tru d k' := by
 cases d with
 | str s => exact ⟨q.1, h _ q.2⟩
 | dT _ => exact q.elim
 | dF _ => exact q.elim
 | ob _ _ => exact q.elim
 | ex _ _ => exact q.elim
 | dN _ => exact q.elim
 | _ => exact h _ q
section
variable {K : PySem.W.Frag} {H : Hp} {lv : Nat}
theorem jd {α β : Type} {xs : List α} {ys : List β} (h : xs.length = ys.length) : xs.isEmpty = ys.isEmpty := by
 cases xs <;> cases ys <;> simp at h ⊢
theorem Rep.tru {d : D} {v : V} {f : List Addr} {k : Bool → Prop} (r : Rep K H lv d v f) (q : BX.tru d k) : ∃ b, TruV K v H b ∧ k b := by
 cases r with
 | non => exact ⟨false, rfl, q⟩
 | bl b => exact ⟨b, rfl, q⟩
 | int i => exact ⟨_, rfl, q⟩
 | str s => exact ⟨_, ⟨q.1, rfl⟩, q.2⟩
 | tup h r => exact ⟨_, .inr (.inl ⟨_, .inl (.inl h), by rw [jd r.len]⟩), q⟩
 | tupK l h r => exact ⟨_, .inr (.inl ⟨_, h.sq, by rw [jd r.len]⟩), q⟩
 | lst h r n => exact ⟨_, .inl ⟨_, .inl (.inl h), by rw [jd r.len]⟩, q⟩
 | lstF l h r => exact ⟨_, .inl ⟨_, h.sq, by rw [jd r.len]⟩, q⟩
 | dT h e nd r n => exact q.elim
 | dTF l h e nd r => exact q.elim
 | dF h e nd r => exact q.elim
 | ob h c e r n => exact q.elim
 | ex h c e z => exact q.elim
 | dN h e nd kk r n => exact q.elim
 | lF h r => exact ⟨_, .inl ⟨_, .inl (.inr ⟨_, h⟩), by rw [jd r.len]⟩, q⟩
 | @dK a hs kvs f h e nd r n => exact ⟨_, .inr (.inr ⟨_, h, by rw [jd (xs := kvs) (ys := hs) (by have := congrArg List.length e; simpa using this.symm)]⟩), q⟩
end
def xVal (t : XE) : XT := fun env Q => t env fun r e => rd 2 r e fun d => tru d fun b => Q b e
def xAnd (t u : XT) : XT := fun env Q => t env fun b e => (b = true → u e Q) ∧ (b = false → Q false e)
def xOr (t u : XT) : XT := fun env Q => t env fun b e => (b = true → Q true e) ∧ (b = false → u e Q)
def xNot (t : XT) : XT := fun env Q => t env fun b e => Q (!b) e
def dAnd (t u : XE) : XE := fun env Q => t env fun r e => rd 2 r e fun d => tru d fun b => (b = true → u e Q) ∧ (b = false → Q r e)
def dOr (t u : XE) : XE := fun env Q => t env fun r e => rd 2 r e fun d => tru d fun b => (b = true → Q r e) ∧ (b = false → u e Q)
def dNot (t : XT) : XE := fun env Q => t env fun b e => Q (.tmp (.bl (!b))) e
def dIf (c : XT) (t u : XE) : XE := fun env Q => c env fun b e => (b = true → t e Q) ∧ (b = false → u e Q)
theorem Zj {K : PySem.W.Frag} {σ : L2.St} {H H1 : Hp} {env e1 : En} {f f1 : FA} {Q : VK} {t : XE} {Q' : R → En → Prop} (S : Stp H env f [] H1 e1 f1 []) (Kk : Kp env f e1 f1) (mt : xV t) (A1 : Abs K σ H1 e1 f1) (q : t e1 Q')
 (h : ∀ r e2, Q' r e2 → ∀ v H' f' g, Abs K σ H' e2 f' → ResOk K σ H' e2 f' r v g → Stp H env f [] H' e2 f' g → Kp env f e2 f' → Q v H') : jx K t σ H1 Q :=
 ⟨e1, f1, A1, mt _ _ _ (fun r e2 q2 v H' f' g A2 R2 S2 K2 => h r e2 q2 v H' f' g A2 R2 (S.trans S2) (Kk.trans K2)) q⟩
theorem Yg {K : PySem.W.Frag} {σ : L2.St} {H H1 : Hp} {env e1 : En} {f f1 : FA} {Q : Bool → Hp → Prop} {t : XT} {Q' : Bool → En → Prop} (S : Stp H env f [] H1 e1 f1 []) (Kk : Kp env f e1 f1) (mt : Vj t) (A1 : Abs K σ H1 e1 f1) (q : t e1 Q')
 (h : ∀ r e2, Q' r e2 → ∀ H' f', Abs K σ H' e2 f' → Stp H env f [] H' e2 f' [] → Kp env f e2 f' → Q r H') : liftT K t σ H1 Q :=
 ⟨e1, f1, A1, mt _ _ _ (fun r e2 q2 H' f' A2 S2 K2 => h r e2 q2 H' f' A2 (S.trans S2) (Kk.trans K2)) q⟩
section
variable {X : Cx} {a b c : Expr} {rest : List Expr} {ta tb : XE} {uA uB : XT} {pos : Pos}
theorem DW.dt {e : Expr} {t : XT} (h : DW X e t) : DT X e t := ⟨h.run.pt, h.mono⟩
theorem qaf (ha : DE X a ta) (he : ∀ whole, isTrue a X.env whole = (do let v ← whole; standAt a.pos; holding [v] (truthy v)) := by intro _; rfl) : DT X a (xVal ta) := by
 refine ⟨PT.imp (pt_truth ha.run he) fun σ H Q q => ?_, fun env Q Q' h q => ha.mono _ _ _ (fun r e q => qO (fun d q => Qn (fun b q => h _ _ q) q) q) q⟩
 obtain ⟨env, f, A, q⟩ := q
 refine ⟨env, f, A, ha.mono _ _ _ (fun r e q => ?_) q⟩
 intro v H' f' g A' R' S' K'
 obtain ⟨d, g', rp, q⟩ := yO A' R' q
 obtain ⟨b, hb, q⟩ := rp.tru q
 exact ⟨b, hb, q H' f' A' (S'.drop (fun _ z => by simp at z)) K'⟩
theorem yX {op : CmpOp} {L : Nat} {op' : OP} (ho : OpD X (compareOp op) L op') (ha : DE X a ta) (hb : DE X b tb) (hm : behindInMarks op b = false) (hbl : ∀ d1 d2 k, op' d1 d2 k → op' d1 d2 fun d => (∃ b, d = .bl b) ∧ k d) : DT X (.Compare a [op] [b] pos) (xVal (dBin L op' ta tb)) := by
 have md := ZW ho.mono ha.mono hb.mono (L := L)
 refine ⟨PT.imp (pt_cmpR ho.run ha.run hb.run hm) fun σ H Q q => ?_, fun env Q Q' h q => md _ _ _ (fun r e q => qO (fun d q => Qn (fun b q => h _ _ q) q) q) q⟩
 obtain ⟨env, f, A, q⟩ := q
 show tOp (rOp X.K L op') (jx X.K ta) (jx X.K tb) σ H fun x H' => ∃ k, x = .bl k ∧ Q k H'
 refine ZX ho.mono ha.mono hb.mono ⟨env, f, A, ?_⟩
 unfold xVal at q
 have q2 : dBin L op' ta tb env fun r e => (∃ b, r = .tmp (.bl b)) ∧ rd 2 r e fun d => tru d fun b => ∀ (H' : Hp) (f' : FA), Abs X.K σ H' e f' → Stp H env f [] H' e f' [] → Kp env f e f' → Q b H' := by
  unfold dBin at q ⊢
  refine ha.mono _ _ _ (fun r1 e1 q => hb.mono _ _ _ (fun r2 e2 q => qO (fun d1 q => qO (fun d2 q => ?_) q) q) q) q
  refine ho.mono _ _ _ _ (fun d q => ?_) (hbl _ _ _ q)
  obtain ⟨⟨b, rfl⟩, q⟩ := q
  exact ⟨⟨b, rfl⟩, q⟩
 refine md _ _ _ (fun r e q => ?_) q2
 obtain ⟨⟨b, rfl⟩, q⟩ := q
 intro v H' f' g A' R' S' K'
 cases R' with
 | tmp rp n => cases rp with
   | bl => exact ⟨b, rfl, q H' f' A' (S'.drop (fun _ z => by simp at z)) K'⟩
theorem qcC (ha : DT X a uA) : DW X (.BoolOp .And [a] pos) uA := ⟨pw_and1 ha.run, ha.mono⟩
theorem qhh (ha : DT X a uA) : DW X (.BoolOp .Or [a] pos) uA := ⟨pw_or1 ha.run, ha.mono⟩
theorem qet (ha : DT X a uA) (hb : DW X (.BoolOp .And (b :: rest) pos) uB) : DW X (.BoolOp .And (a :: b :: rest) pos) (xAnd uA uB) := by
 refine ⟨PW.imp (pw_and ha.run hb.run) fun σ H Q q => ?_, fun env Q Q' h q => ha.mono _ _ _ (fun b e q => ⟨fun z => hb.mono _ _ _ h (q.1 z), fun z => h _ _ (q.2 z)⟩) q⟩
 obtain ⟨env, f, A, q⟩ := q
 refine ⟨env, f, A, ha.mono _ _ _ (fun b e q => ?_) q⟩
 intro H' f' A' S' K'
 cases b with
 | true =>
   rw [if_pos rfl]
   exact Yg S' K' hb.mono A' (q.1 rfl) fun r e2 q => q
 | false =>
   rw [if_neg Bool.false_ne_true]
   exact q.2 rfl H' f' A' S' K'
theorem qi4 (ha : DT X a uA) (hb : DW X (.BoolOp .Or (b :: rest) pos) uB) : DW X (.BoolOp .Or (a :: b :: rest) pos) (xOr uA uB) := by
 refine ⟨PW.imp (pw_or ha.run hb.run) fun σ H Q q => ?_, fun env Q Q' h q => ha.mono _ _ _ (fun b e q => ⟨fun z => h _ _ (q.1 z), fun z => hb.mono _ _ _ h (q.2 z)⟩) q⟩
 obtain ⟨env, f, A, q⟩ := q
 refine ⟨env, f, A, ha.mono _ _ _ (fun b e q => ?_) q⟩
 intro H' f' A' S' K'
 cases b with
 | false =>
   rw [if_neg Bool.false_ne_true]
   exact Yg S' K' hb.mono A' (q.2 rfl) fun r e2 q => q
 | true =>
   rw [if_pos rfl]
   exact q.1 rfl H' f' A' S' K'
theorem qhj (ha : DT X a uA) : DT X (.UnaryOp .Not a pos) (xNot uA) :=
 ⟨PT.imp (pt_not ha.run) fun σ H Q q => q, fun env Q Q' h q => ha.mono _ _ _ (fun b e q => h _ _ q) q⟩
theorem Jt {op} {t : XE} (h : DE X a t) : DE X (.BoolOp op [a] pos) t := ⟨pe_one h.run, h.mono⟩
theorem Yu (ha : DE X a ta) (hb : DE X (.BoolOp .And (b :: rest) pos) tb) : DE X (.BoolOp .And (a :: b :: rest) pos) (dAnd ta tb) := by
 refine ⟨PE.imp (pe_andT ha.run hb.run) fun σ H Q q => ?_, fun env Q Q' h q => ha.mono _ _ _ (fun r e q => qO (fun d q => Qn (fun b q => ⟨fun z => hb.mono _ _ _ h (q.1 z), fun z => h _ _ (q.2 z)⟩) q) q) q⟩
 obtain ⟨env, f, A, q⟩ := q
 refine ⟨env, f, A, ha.mono _ _ _ (fun r e q => ?_) q⟩
 intro v H' f' g A' R' S' K'
 obtain ⟨d, g', rp, q⟩ := yO A' R' q
 obtain ⟨b, hb', q⟩ := rp.tru q
 refine ⟨b, hb', ?_⟩
 cases b with
 | true =>
   rw [if_pos rfl]
   exact Zj (S'.drop (fun _ z => by simp at z)) K' hb.mono A' (q.1 rfl) fun r e2 q => q
 | false =>
   rw [if_neg Bool.false_ne_true]
   exact q.2 rfl v H' f' g A' R' S' K'
theorem qho {c : Expr} (hc : DT X c uA) (ha : DE X a ta) (hb : DE X b tb) : DE X (.IfExp c a b pos) (dIf uA ta tb) := by
 refine ⟨PE.imp (pe_ifExp hc.run ha.run hb.run) fun σ H Q q => ?_, fun env Q Q' h q => hc.mono _ _ _ (fun b e q => ⟨fun z => ha.mono _ _ _ h (q.1 z), fun z => hb.mono _ _ _ h (q.2 z)⟩) q⟩
 obtain ⟨env, f, A, q⟩ := q
 refine ⟨env, f, A, hc.mono _ _ _ (fun b e q => ?_) q⟩
 intro H' f' A' S' K'
 cases b with
 | true =>
   rw [if_pos rfl]
   exact Zj S' K' ha.mono A' (q.1 rfl) fun r e2 q => q
 | false =>
   rw [if_neg Bool.false_ne_true]
   exact Zj S' K' hb.mono A' (q.2 rfl) fun r e2 q => q
end
def aNil : XA := fun env Q => Q [] env
def ql (t : XE) (u : XA) : XA := fun env Q => t env fun r e => u e fun rs e2 => Q (r :: rs) e2
def jo : List R → En → (List D → Prop) → Prop
 | [], _, k => k []
 | r :: rs, env, k => stor r env fun d => jo rs env fun ds => k (d :: ds)
def jr (L : Nat) : List R → En → (List D → Prop) → Prop
 | [], _, k => k []
 | r :: rs, env, k => rd L r env fun d => jr L rs env fun ds => k (d :: ds)
theorem uv : ∀ {rs : List R} {env : En} {k k' : List D → Prop}, (∀ d, k d → k' d) → jo rs env k → jo rs env k'
 | [], _, _, _, h, q => h _ q
 | r :: rs, _, _, _, h, q => uo (fun d q => uv (fun ds q => h _ q) q) q
theorem jC {L : Nat} : ∀ {rs : List R} {env : En} {k k' : List D → Prop}, (∀ d, k d → k' d) → jr L rs env k → jr L rs env k'
 | [], _, _, _, h, q => h _ q
 | r :: rs, _, _, _, h, q => qO (fun d q => jC (fun ds q => h _ q) q) q
section
variable {K : PySem.W.Frag} {σ : L2.St} {H H1 H' : Hp} {env e1 : En} {f f1 : FA} {G1 : List Addr}
theorem ResOks.dom : ∀ {rs : List R} {vs : List V} {gs : List Addr}, ResOks K σ H env f rs vs gs → ∀ b ∈ gs, ∃ o, H b = some o ∧ Mu o = true
 | _, _, _, .cons h t _, b, hb => by
   rcases List.mem_append.mp hb with hb | hb
   ·exact h.dom b hb
   ·exact ResOks.dom t b hb
theorem Qo : ∀ {rs : List R} {vs : List V} {gs : List Addr} {k : List D → Prop}, Abs K σ H env f → ResOks K σ H env f rs vs gs → jo rs env k → ∃ ds, Reps K H 0 ds vs gs ∧ k ds ∧ (∀ b ∈ gs, ¬ L0 env f b ∧ ¬ Ro env f b)
 | _, _, _, _, A, .nil, q => ⟨[], .nil, q, fun b hb => by simp at hb⟩
 | _, _, _, _, A, .cons h t n, q => by
   obtain ⟨d, rp, q, n1⟩ := Q3 A h q
   obtain ⟨ds, rps, q, n2⟩ := Qo A t q
   exact ⟨d :: ds, .cons rp rps fun _ b hb => n b hb, q, fun b hb => (List.mem_append.mp hb).elim (n1 b) (n2 b)⟩
theorem VD {L : Nat} (hL : 0 < L) : ∀ {rs : List R} {vs : List V} {gs : List Addr} {k : List D → Prop}, Abs K σ H env f → ResOks K σ H env f rs vs gs → jr L rs env k → ∃ ds g, Reps K H L ds vs g ∧ k ds
 | _, _, _, _, A, .nil, q => ⟨[], [], .nil, q⟩
 | _, _, _, _, A, .cons h t n, q => by
   obtain ⟨d, g, rp, q⟩ := yO A h q
   obtain ⟨ds, gs, rps, q⟩ := VD hL A t q
   exact ⟨d :: ds, _, .cons rp rps (fun e => by omega), q⟩
end
section
variable {X : Cx} {e : Expr} {es : List Expr} {t : XE} {u : XA} {pos : Pos}
theorem qp : DA X [] aNil :=
 ⟨PA.imp pa_nil fun σ H Q ⟨env, f, A, q⟩ => q [] H f [] A .nil .refl .refl, fun env Q Q' h q => h _ _ q⟩
theorem qb (ha : DE X e t) (hr : DA X es u) (hs : starEach (e :: es) X.env = (false, eval e X.env) :: starEach es X.env := by rfl) : DA X (e :: es) (ql t u) := by
 refine ⟨PA.imp (pa_cons ha.run hr.run hs) fun σ H Q q => ?_, fun env Q Q' h q => ha.mono _ _ _ (fun r e q => hr.mono _ _ _ (fun rs e2 q => h _ _ q) q) q⟩
 obtain ⟨env, f, A, q⟩ := q
 refine ⟨env, f, A, ha.mono _ _ _ (fun r1 e1 q => ?_) q⟩
 intro x H1 f1 g1 A1 R1 S1 K1
 refine ⟨e1, f1, A1, hr.mono _ _ _ (fun rs e2 q => ?_) q⟩
 intro vs H2 f2 gs A2 R2 S2 K2
 obtain ⟨R1', n⟩ := R1.wait A1 S2 K2
 exact q (x :: vs) H2 f2 (g1 ++ gs) A2 (.cons R1' R2 n) (S1.trans (S2.frame g1)) (K1.trans K2)
def dTup (u : XA) : XE := fun env Q => u env fun rs e => rs.length ≤ 1000 ∧ jo rs e fun ds => Q (.tmp (.tup ds)) e
def dLst (u : XA) : XE := fun env Q => u env fun rs e => rs.length ≤ 1000 ∧ jo rs e fun ds => Q (.tmp (.lst ds)) e
theorem ResOks.len {K : PySem.W.Frag} {σ : L2.St} {H : Hp} {env : En} {f : FA} : ∀ {rs : List R} {vs : List V} {gs : List Addr}, ResOks K σ H env f rs vs gs → rs.length = vs.length
 | _, _, _, .nil => rfl
 | _, _, _, .cons _ t _ => by rw [List.length_cons, List.length_cons, t.len]
theorem V4 {n : Nat} (h : n ≤ 1000) : n ≤ sizeLine := Nat.le_of_lt (small1000 h)
theorem Stp.ext {H H1 H2 : Hp} {env e1 : En} {f f1 : FA} {G G1 : List Addr} (S : Stp H env f G H1 e1 f1 G1) (x : ∀ b o, H1 b = some o → H2 b = some o) : Stp H env f G H2 e1 f1 G1 :=
 S.trans ⟨fun b o h _ => x b o h, fun b q => q.elim .inl fun z => .inr (.inl z)⟩
theorem zf {x1} (ha : DA X es u) : DE X (.Tuple es x1 pos) (dTup u) := by
 refine ⟨PE.imp (pe_tup ha.run) fun σ H Q q => ?_, fun env Q Q' h q => ha.mono _ _ _ (fun r e q => ⟨q.1, uv (fun ds q => h _ _ q) q.2⟩) q⟩
 obtain ⟨env, f, A, q⟩ := q
 refine ⟨env, f, A, ha.mono _ _ _ (fun rs e q => ?_) q⟩
 intro vs H1 f1 gs A1 R1 S1 K1
 obtain ⟨ds, rp, q', n⟩ := Qo A1 R1 q.2
 refine ⟨by rw [← R1.len]; exact V4 q.1, fun p hp => ?_⟩
 have x : Ext H1 (L2.upd H1 p (.tup vs)) [] := .updT hp
 refine q' _ _ f1 gs (A1.ext x.same) (.tmp (YF hp rp) n) (S1.ext x.same) K1
theorem xf (ha : DA X es u) : DE X (.List es pos) (dLst u) := by
 refine ⟨PE.imp (pe_lst ha.run) fun σ H Q q => ?_, fun env Q Q' h q => ha.mono _ _ _ (fun r e q => ⟨q.1, uv (fun ds q => h _ _ q) q.2⟩) q⟩
 obtain ⟨env, f, A, q⟩ := q
 refine ⟨env, f, A, ha.mono _ _ _ (fun rs e q => ?_) q⟩
 intro vs H1 f1 gs A1 R1 S1 K1
 obtain ⟨ds, rp, q', n⟩ := Qo A1 R1 q.2
 refine ⟨by rw [← R1.len]; exact V4 q.1, fun p hp => ?_⟩
 have x : Ext H1 (L2.upd H1 p (.lst vs)) [p] := .upd hp
 have pg : p ∉ gs := fun z => by
  obtain ⟨o, ho, _⟩ := rp.dom p z
  rw [hp] at ho; cases ho
 refine q' _ _ f1 (p :: gs) (A1.ext x.same) (.tmp (.lst upd_same (rp.keep fun b o e _ => x.same b o e) fun _ => pg) fun b hb => ?_) (S1.new x) K1
 rcases List.mem_cons.mp hb with rfl | hb
 ·refine ⟨fun z => ?_, fun z => ?_⟩
  ·obtain ⟨o, ho, _⟩ := A1.ldom z
   rw [hp] at ho; cases ho
  ·obtain ⟨o, ho, _⟩ := A1.rdom z
   rw [hp] at ho; cases ho
 ·exact n b hb
end
section
variable {K : PySem.W.Frag} {σ : L2.St} {H H' : Hp} {env : En} {f : FA} {G G' g' : List Addr} {i : Nat} {d d' : D} {m : Md} {v : V}
def fset (f : FA) (i : Nat) (g : List Addr) : FA := fun j => if j = i then g else f j
theorem qN {f : FA} {i : Nat} {g : List Addr} : fset f i g i = g := if_pos rfl
theorem qH {f : FA} {i j : Nat} {g : List Addr} (h : j ≠ i) : fset f i g j = f j := if_neg h
theorem wL {x : Option (D × Md)} (h : i < env.length) : (env.set i x)[i]? = some x := List.getElem?_set_self h
theorem qL {x : Option (D × Md)} {j : Nat} (h : j ≠ i) : (env.set i x)[j]? = env[j]? := List.getElem?_set_ne (Ne.symm h)
theorem Abs.mut (A : Abs K σ H env f) (e : env[i]? = some (some (d, m))) (hm : m.rd = false) (hv : σ[i]? = some (some v))
 (same : ∀ b o, H b = some o → b ∉ f i → H' b = some o) (r : Rep K H' m.lv d' v g') (sub : ∀ b ∈ g', b ∈ f i ∨ b ∈ G ∨ H b = none) (hG : ∀ b ∈ G, ¬ L0 env f b ∧ ¬ Ro env f b)
 (hG' : ∀ b ∈ G', (b ∈ f i ∨ b ∈ G ∨ H b = none) ∧ b ∉ g') :
 Abs K σ H' (env.set i (some (d', m))) (fset f i g') ∧ Stp H env f G H' (env.set i (some (d', m))) (fset f i g') G' ∧ Kp env f (env.set i (some (d', m))) (fset f i g') ∧
  (∀ b ∈ G', ¬ L0 (env.set i (some (d', m))) (fset f i g') b ∧ ¬ Ro (env.set i (some (d', m))) (fset f i g') b) := by
 have hi : i < env.length := (List.getElem?_eq_some_iff.mp e).1
 have hdom : ∀ j d m, env[j]? = some (some (d, m)) → ∀ b ∈ f j, ∃ o, H b = some o ∧ Mu o = true := fun j d m h b hb => by
  obtain ⟨v, _, rp⟩ := A.rep j d m h
  exact rp.dom b hb
 have get : ∀ {j : Nat} {d1 : D} {m1 : Md}, (env.set i (some (d', m)))[j]? = some (some (d1, m1)) → j ≠ i → env[j]? = some (some (d1, m1)) := fun {j d1 m1} h hj => by rwa [qL hj] at h
 have ati : ∀ {d1 : D} {m1 : Md}, (env.set i (some (d', m)))[i]? = some (some (d1, m1)) → d1 = d' ∧ m1 = m := fun {d1 m1} h => by
  rw [wL hi] at h
  cases h
  exact ⟨rfl, rfl⟩
 have out : ∀ {j : Nat} {d1 : D} {m1 : Md}, j ≠ i → env[j]? = some (some (d1, m1)) → ∀ b, (b ∈ f i ∨ b ∈ G ∨ H b = none) → b ∉ f j := fun {j d1 m1} hj h b q z => by
  rcases q with q | q | q
  ·exact A.dis i j d m d1 m1 (Ne.symm hj) e h (Md.lv_of hm) b q z
  ·by_cases hr : m1.lv = 0
   ·exact (hG b q).1 ⟨j, d1, m1, h, hr, z⟩
   ·exact (hG b q).2 ⟨j, d1, m1, h, hr, z⟩
  ·obtain ⟨o, ho, _⟩ := hdom j d1 m1 h b z
   rw [q] at ho; cases ho
 have wsub : ∀ b, (b ∈ f i ∨ b ∈ G ∨ H b = none) → (W env f b ∨ b ∈ G ∨ H b = none) := fun b q => q.imp_left fun z => ⟨i, d, m, e, hm, z⟩
 refine ⟨⟨fun j d1 m1 h => ?_, fun j k d1 m1 d2 m2 hjk h1 h2 hr b hb z => ?_, by rw [List.length_set]; exact A.len⟩, ⟨fun b o h q => ?_, fun b q => ?_⟩, ⟨?_, fun j d1 m1 h hr => ?_⟩, fun b hb => ⟨?_, ?_⟩⟩
 ·by_cases hj : j = i
  ·subst hj
   obtain ⟨rfl, rfl⟩ := ati h
   exact ⟨v, hv, by rw [qN]; exact r⟩
  ·have h' := get h hj
   obtain ⟨w, h3, rp⟩ := A.rep j d1 m1 h'
   refine ⟨w, h3, ?_⟩
   rw [qH hj]
   refine rp.keep fun b o hb q => same b o hb fun z => ?_
   rcases q with q | q
   ·exact A.dis i j d m d1 m1 (Ne.symm hj) e h' (Md.lv_of hm) b z q
   ·obtain ⟨o', ho', mo⟩ := hdom i d m e b z
    rw [hb] at ho'; cases ho'
    rw [q] at mo; cases mo
 ·by_cases hj : j = i
  ·subst hj
   rw [qN] at hb
   rw [qH (Ne.symm hjk)] at z
   exact out (Ne.symm hjk) (get h2 (Ne.symm hjk)) b (sub b hb) z
  ·rw [qH hj] at hb
   by_cases hk : k = i
   ·subst hk
    rw [qN] at z
    exact out hj (get h1 hj) b (sub b z) hb
   ·rw [qH hk] at z
    exact A.dis j k d1 m1 d2 m2 hjk (get h1 hj) (get h2 hk) hr b hb z
 ·refine same b o h fun z => ?_
  rcases q with q | q
  ·obtain ⟨o', ho', mo⟩ := hdom i d m e b z
   rw [h] at ho'; cases ho'
   rw [q] at mo; cases mo
  ·exact q.1 ⟨i, d, m, e, hm, z⟩
 ·rcases q with ⟨j, d1, m1, h, hr, hb⟩ | q
  ·by_cases hj : j = i
   ·subst hj
    rw [qN] at hb
    exact wsub b (sub b hb)
   ·rw [qH hj] at hb
    exact .inl ⟨j, d1, m1, get h hj, hr, hb⟩
  ·exact wsub b (hG' b q).1
 ·rw [List.map_set]
  apply List.ext_getElem?
  intro j
  by_cases hj : j = i
  ·subst hj
   rw [List.getElem?_set_self (by simpa using hi), List.getElem?_map, e]
   rfl
  ·rw [List.getElem?_set_ne (Ne.symm hj)]
 ·have hj : j ≠ i := fun z => by
   subst z
   rw [e] at h; cases h
   rw [hm] at hr; cases hr
  exact ⟨by rw [qL hj]; exact h, qH hj⟩
 ·rintro ⟨j, d1, m1, h, hr, z⟩
  by_cases hj : j = i
  ·subst hj
   rw [qN] at z
   exact (hG' b hb).2 z
  ·rw [qH hj] at z
   exact out hj (get h hj) b (hG' b hb).1 z
 ·rintro ⟨j, d1, m1, h, hr, z⟩
  by_cases hj : j = i
  ·subst hj
   rw [qN] at z
   exact (hG' b hb).2 z
  ·rw [qH hj] at z
   exact out hj (get h hj) b (hG' b hb).1 z
def chg (r : R) (env : En) (k : Nat → D → Md → Prop) : Prop := match r with
 | .sl i => match env[i]? with
   | some (some (d, .own)) => k i d .own
   | some (some (d, .io)) => k i d .io
   | _ => False
 | _ => False
theorem Xm {r : R} {env : En} {k k' : Nat → D → Md → Prop} (h : ∀ i d m, k i d m → k' i d m) (q : chg r env k) : chg r env k' := by
 unfold chg at q ⊢
 split at q
 ·split at q
  ·simp only [*] <;> exact h _ _ _ q
  ·simp only [*] <;> exact h _ _ _ q
  ·exact q.elim
 ·exact q.elim
theorem qcU {r : R} {v : V} {g : List Addr} {k : Nat → D → Md → Prop} (A : Abs K σ H env f) (h : ResOk K σ H env f r v g) (q : chg r env k) :
 ∃ i d m, env[i]? = some (some (d, m)) ∧ m.rd = false ∧ m.lv = 0 ∧ σ[i]? = some (some v) ∧ Rep K H 0 d v (f i) ∧ g = [] ∧ k i d m := by
 unfold chg at q
 split at q
 ·rename_i i
  cases h with
  | sl h1 h2 hm =>
    obtain ⟨w, h3, rp⟩ := A.rep _ _ _ h2
    rw [h1] at h3; cases h3
    split at q
    ·rename_i e
     rw [h2] at e; cases e
     exact ⟨_, _, _, h2, rfl, rfl, h1, rp, rfl, q⟩
    ·rename_i e
     rw [h2] at e; cases e
     exact ⟨_, _, _, h2, rfl, rfl, h1, rp, rfl, q⟩
    ·exact q.elim
 ·exact q.elim
end
end BX
namespace BX
open PySem PySem.Spec PyProof.Rows L2
def Qz (kvs : List (List Key × D)) (k : List Key) : Option D := (kvs.find? fun p => decide (p.1 = k)).map (·.2)
def qiS (kvs : List (Key × D)) (k : Key) : Option D := (kvs.find? fun p => decide (p.1 = k)).map (·.2)
def ixd (d1 d2 : D) (k : D → Prop) : Prop := match d1 with
 | .lst ds => match d2 with
   | .int i => match atI ds i with
     | some d => k d
     | none => False
   | _ => False
 | .lF ds => match d2 with
   | .int i => match atI ds i with
     | some d => k d
     | none => False
   | _ => False
 | .tup ds => match d2 with
   | .int i => match atI ds i with
     | some d => k d
     | none => False
   | _ => False
 | .str s => match d2 with
   | .int i => s.length ≤ sizeLine ∧ match atI s.cps.toList i with
     | some c => k (.str ⟨#[c]⟩)
     | none => False
   | _ => False
 | .dT kvs => match d2 with
   | .tup ds => match xJ ds with
     | some ks => match Qz kvs ks with
       | some d => k d
       | none => False
     | none => False
   | _ => False
 | .dK kvs => match dKey d2 with
   | some ky => match qiS kvs ky with
     | some d => k d
     | none => False
   | none => False
 | .dF kvs => match d2 with
   | .tup ds => match xJ ds with
     | some ks => match Qz kvs ks with
       | some d => k d
       | none => False
     | none => False
   | _ => False
 | _ => False
theorem V8 {d1 d2 : D} {k k' : D → Prop} (h : ∀ d, k d → k' d) (q : ixd d1 d2 k) : ixd d1 d2 k' := by
 unfold ixd at q ⊢
 split at q
 ·split at q
  ·split at q
   ·simp only [*] <;> exact h _ q
   ·exact q.elim
  ·exact q.elim
 ·split at q
  ·split at q
   ·simp only [*] <;> exact h _ q
   ·exact q.elim
  ·exact q.elim
 ·split at q
  ·split at q
   ·simp only [*] <;> exact h _ q
   ·exact q.elim
  ·exact q.elim
 ·split at q
  ·refine ⟨q.1, ?_⟩
   replace q := q.2
   split at q
   ·simp only [*] <;> exact h _ q
   ·exact q.elim
  ·exact q.elim
 ·split at q
  ·split at q
   ·split at q
    ·simp only [*] <;> exact h _ q
    ·exact q.elim
   ·exact q.elim
  ·exact q.elim
 ·split at q
  ·split at q
   ·simp only [*] <;> exact h _ q
   ·exact q.elim
  ·exact q.elim
 ·split at q
  ·split at q
   ·split at q
    ·simp only [*] <;> exact h _ q
    ·exact q.elim
   ·exact q.elim
  ·exact q.elim
 ·exact q.elim
def Part (K : PySem.W.Frag) (H : Hp) (d1 : D) (x : V) (d : D) (z : V) : Prop := ∀ lv f, Rep K H lv d1 x f → ∃ g, Rep K H lv d z g ∧ ∀ b ∈ g, b ∈ f
def rIxd (K : PySem.W.Frag) : R2 := fun x y H Q => ∃ d1 d2 g1 g2, Rep K H 2 d1 x g1 ∧ Rep K H 1 d2 y g2 ∧ ixd d1 d2 fun d => ∀ z, Part K H d1 x d z → Q z H
theorem Qe {α β : Type} {xs : List α} {ys : List β} {i : Int} {a : α} (hl : xs.length = ys.length) (h : atI xs i = some a) : ∃ (j : Nat) (b : β), xs[j]? = some a ∧ ys[j]? = some b ∧ atI ys i = some b := by
 unfold atI at h ⊢
 rw [← hl]
 cases e : ixN xs.length i with
 | none => rw [e] at h; cases h
 | some j =>
   rw [e] at h
   have h' : xs[j]? = some a := h
   have hj := (List.getElem?_eq_some_iff.mp h').1
   exact ⟨j, ys[j]'(by omega), h', List.getElem?_eq_getElem (by omega), List.getElem?_eq_getElem (by omega)⟩
section
variable {κ : Type} [DecidableEq κ]
theorem jg : ∀ {hs : List (κ × V)} {kvs : List (κ × D)} {k : κ} {d : D}, hs.map (·.1) = kvs.map (·.1) → (kvs.find? fun p => decide (p.1 = k)).map (·.2) = some d →
 ∃ (j : Nat) (z : V), (kvs.map (·.2))[j]? = some d ∧ (hs.map (·.2))[j]? = some z ∧ valV hs k = some z
 | [], [], _, _, _, e => by simp at e
 | [], _ :: _, _, _, e, _ => by simp at e
 | _ :: _, [], _, _, e, _ => by simp at e
 | p :: hs, q :: kvs, k, d, e, h => by
   rw [List.map_cons, List.map_cons, List.cons.injEq] at e
   by_cases hk : q.1 = k
   ·rw [List.find?_cons, decide_eq_true hk] at h
    cases h
    exact ⟨0, p.2, rfl, rfl, valV_pos (e.1.trans hk)⟩
   ·rw [List.find?_cons, decide_eq_false hk] at h
    obtain ⟨j, z, h1, h2, h3⟩ := jg e.2 h
    exact ⟨j + 1, z, by simpa using h1, by simpa using h2, by rw [valV_neg (fun z => hk (e.1.symm.trans z))]; exact h3⟩
theorem XF : ∀ {hs : List (κ × V)} {kvs : List (κ × D)} {k : κ}, hs.map (·.1) = kvs.map (·.1) → (kvs.find? fun p => decide (p.1 = k)).map (·.2) = none → valV hs k = none
 | [], [], _, _, e => rfl
 | [], _ :: _, _, e, _ => by simp at e
 | _ :: _, [], _, e, _ => by simp at e
 | p :: hs, q :: kvs, k, e, h => by
   rw [List.map_cons, List.map_cons, List.cons.injEq] at e
   by_cases hk : q.1 = k
   ·rw [List.find?_cons, decide_eq_true hk] at h
    cases h
   ·rw [List.find?_cons, decide_eq_false hk] at h
    rw [valV_neg (fun z => hk (e.1.symm.trans z))]
    exact XF e.2 h
end
section
variable {prog : Program} {w : World} {A : Around} {E : Value → Shared → Prop} {s : Shared}
theorem Uk {value slice : Expr} {o i : Value} {T id : String} {Q : Value → Shared → Prop} (hT : s.TypeIs o T)
 (hl : typeLookup (.type T) "__getitem__" = pure (some (.builtin id))) (h : wpAny (model prog w) A (getItem o i) Q E s)
 (hs : subscripted slice false o i = operate [o, i] (getItem o i)) : wpAny (model prog w) A (subscriptTail value slice o i) Q E s := by
 unfold subscriptTail
 refine wpAny_bind ?_
 rw [getitemInPython_of_ne hT.not_modules]
 refine wpAny_bind (wpAny_specialOf hT hl ?_)
 have fin : wpAny (model prog w) A (subscripted slice false o i) (fun r s₃ => wpAny (model prog w) A (letTemporaryGo value o r >>= fun _ => pure r) Q E s₃) E s := by
  rw [hs]
  exact wpAny_operating (wpAny_mono h (fun r s₃ h₃ => wpAny_bind (wpAny_letTemporaryGo (wpAny_pure h₃))) fun _ _ x => x)
 first
  | exact wpAny_pure (wpAny_bind fin)
  | exact wpAny_bind (wpAny_pure (wpAny_bind fin))
  | exact wpAny_bind fin
end
section
variable {X : Cx}
theorem Xc (hx : Ok X) {value slice : Expr} {pins : List (Addr × Obj)} {s : Shared} {σ : L2.St} {H : Hp} {a : Addr} {y v : V} {u : Value} {Q : VK} (I : Inv X pins σ H s) (ry : RelV y u) (g : DGet H a y (some v)) (q : Q v H)
 (hs : subscripted slice false (.ref a) u = operate [.ref a, u] (getItem (.ref a) u)) : wpAny (model X.prog X.w) X.A (subscriptTail value slice (.ref a) u) (EP X pins σ Q) X.xe s :=
 Uk (dict_typeIs I g) PySem.F.slot_dict_getitem.lookup (d_getItem (by have := hx.un; omega) I g ry fun w' s3 I3 rw' => ⟨v, H, I3, rw', q⟩) hs
theorem qfp (hx : Ok X) : IxR X (rIxd X.K) := by
 intro value slice pins s σ H x y v u Q I rx ry h hs
 obtain ⟨d1, d2, g1, g2, r1, r2, q⟩ := h
 unfold ixd at q
 split at q
 ·rename_i ds
  split at q
  ·rename_i i
   split at q
   ·rename_i d e
    obtain ⟨a, vs, g, rfl, ha, ra, _, _⟩ := r1.listSq
    obtain ⟨rfl, _⟩ := r2.intV
    obtain ⟨j, z, e1, e2, e3⟩ := Qe ra.len e
    refine ix_list value slice pins s σ H _ _ v u Q I rx ry ⟨a, vs, i, z, rfl, rfl, ha, e3, q z fun lv f rp => ?_⟩ hs
    obtain ⟨a', vs', g', h1, ha', ra', hsub, _⟩ := rp.listSq
    cases h1
    have := I.list_inj ha ha'
    subst this
    obtain ⟨z', g2, e4, rz, hg⟩ := ra'.get e1
    rw [e2] at e4; cases e4
    exact ⟨g2, rz, fun b hb => hsub b (hg b hb)⟩
   ·exact q.elim
  ·exact q.elim
 ·rename_i ds
  split at q
  ·rename_i i
   split at q
   ·rename_i d e
    obtain ⟨a, vs, rfl, ha, ra, _⟩ := r1.lFSq
    obtain ⟨rfl, _⟩ := r2.intV
    obtain ⟨j, z, e1, e2, e3⟩ := Qe ra.len e
    refine ix_list value slice pins s σ H _ _ v u Q I rx ry ⟨a, vs, i, z, rfl, rfl, ha, e3, q z fun lv f rp => ?_⟩ hs
    obtain ⟨a', vs', h1, ha', ra', _⟩ := rp.lFSq
    cases h1
    have := I.list_inj ha ha'
    subst this
    obtain ⟨z', g2, e4, rz, hg⟩ := ra'.get e1
    rw [e2] at e4; cases e4
    exact ⟨g2, rz, hg⟩
   ·exact q.elim
  ·exact q.elim
 ·rename_i ds
  split at q
  ·rename_i i
   split at q
   ·rename_i d e
    obtain ⟨a, vs, rfl, ha, ra⟩ := r1.tupleSq
    obtain ⟨rfl, _⟩ := r2.intV
    obtain ⟨j, z, e1, e2, e3⟩ := Qe ra.len e
    refine ix_tup value slice pins s σ H _ _ v u Q I rx ry ⟨a, vs, i, z, rfl, rfl, ha, e3, q z fun lv f rp => ?_⟩ hs
    obtain ⟨a', vs', h1, ha', ra'⟩ := rp.tupleSq
    cases h1
    have := I.tuple_inj ha ha'
    subst this
    obtain ⟨z', g2, e4, rz, hg⟩ := ra'.get e1
    rw [e2] at e4; cases e4
    exact ⟨g2, rz, hg⟩
   ·exact q.elim
  ·exact q.elim
 ·rename_i t
  split at q
  ·rename_i i
   obtain ⟨hl, q⟩ := q
   split at q
   ·rename_i c e
    obtain ⟨rfl, _⟩ := r1.strV
    obtain ⟨rfl, _⟩ := r2.intV
    exact ix_str value slice pins s σ H _ _ v u Q I rx ry ⟨t, i, c, rfl, rfl, hl, e, q _ fun lv f rp => ⟨[], .str _, qm⟩⟩ hs
   ·exact q.elim
  ·exact q.elim
 ·rename_i kvs
  split at q
  ·rename_i ds
   split at q
   ·rename_i ks e
    split at q
    ·rename_i d ed
     obtain ⟨b, ws, rfl, hb, rb⟩ := r2.tupleAt (Nat.le_refl _)
     rw [rb.xJ e] at hb
     cases r1 with
     | @dT a hs' kvs f ha he nd r nn =>
       cases rx
       obtain ⟨j, z, e1, e2, e3⟩ := jg he ed
       refine Xc hx I ry (by rw [← e3]; exact DGet.t ha hb) (q z fun lv f rp => ?_) hs
       cases rp with
       | dT ha' he' nd' r' nn' =>
         rw [ha] at ha'; cases ha'
         obtain ⟨z', g2, e4, rz, hg⟩ := r'.get e1
         rw [e2] at e4; cases e4
         exact ⟨g2, rz, fun b hb => List.mem_cons_of_mem _ (hg b hb)⟩
       | dTF l' ha' he' nd' r' => rw [ha] at ha'; cases ha'
     | @dTF a o hs' kvs f l ha he nd r =>
       cases rx
       obtain ⟨j, z, e1, e2, e3⟩ := jg he ed
       refine Xc hx I ry (by rw [← e3]; exact .inr ⟨_, _, _, .inr ⟨o, ha⟩, rfl, hb, rfl⟩) (q z fun lv f rp => ?_) hs
       cases rp with
       | dT ha' he' nd' r' nn' => rw [ha] at ha'; cases ha'
       | dTF l' ha' he' nd' r' =>
         rw [ha] at ha'; cases ha'
         obtain ⟨z', g2, e4, rz, hg⟩ := r'.get e1
         rw [e2] at e4; cases e4
         exact ⟨g2, rz, hg⟩
    ·exact q.elim
   ·exact q.elim
  ·exact q.elim
 ·rename_i kvs
  split at q
  ·rename_i ky e
   split at q
   ·rename_i d ed
    obtain rfl := r2.dKey e
    cases r1 with
    | @dK a hs' kvs f ha he nd r nn =>
      cases rx
      obtain ⟨j, z, e1, e2, e3⟩ := jg he ed
      refine Xc hx I ry (by rw [← e3]; exact DGet.k ha) (q z fun lv f rp => ?_) hs
      cases rp with
      | dK ha' he' nd' r' nn' =>
        rw [ha] at ha'; cases ha'
        obtain ⟨z', g2, e4, rz, hg⟩ := r'.get e1
        rw [e2] at e4; cases e4
        exact ⟨g2, rz, fun b hb => List.mem_cons_of_mem _ (hg b hb)⟩
   ·exact q.elim
  ·exact q.elim
 ·rename_i kvs
  split at q
  ·rename_i ds
   split at q
   ·rename_i ks e
    split at q
    ·rename_i d ed
     obtain ⟨b, ws, rfl, hb, rb⟩ := r2.tupleAt (Nat.le_refl _)
     rw [rb.xJ e] at hb
     cases r1 with
     | @dF a o hs' kvs ha he nd r =>
       cases rx
       obtain ⟨j, z, e1, e2, e3⟩ := jg he ed
       refine Xc hx I ry (by rw [← e3]; exact .inr ⟨_, _, _, .inr ⟨o, ha⟩, rfl, hb, rfl⟩) (q z fun lv f rp => ?_) hs
       cases rp with
       | dF ha' he' nd' r' =>
         rw [ha] at ha'; cases ha'
         obtain ⟨z', g2, e4, rz, hg⟩ := r'.get e1
         rw [e2] at e4; cases e4
         exact ⟨g2, rz, hg⟩
    ·exact q.elim
   ·exact q.elim
  ·exact q.elim
 ·exact q.elim
end
section
variable {K : PySem.W.Frag} {σ : L2.St} {H : Hp} {env : En} {f : FA}
theorem qdL {d : D} {z : V} {g : List Addr} {lv : Nat} {c : Bool} {k : R → Prop} (r : Rep K H (clv c) d z g) (n : ∀ b ∈ g, Ro env f b) (q : k (mkRo c d)) : ∃ r' g2, ResOk K σ H env f r' z g2 ∧ (∀ b ∈ g2, b ∈ ([] : List Addr)) ∧ k r' := by
 cases d with
 | int i => exact ⟨_, [], .tmp r.int0 qm, qm, q⟩
 | bl i => exact ⟨_, [], .tmp r.bl0 qm, qm, q⟩
 | str i => exact ⟨_, [], .tmp r.str0 qm, qm, q⟩
 | non => exact ⟨_, [], .tmp r.non0 qm, qm, q⟩
 | _ => exact ⟨_, [], .ro r n, qm, q⟩
theorem qeY {L : Nat} {r : R} {x : V} {g : List Addr} {k : D → Prop} (A : Abs K σ H env f) (h : ResOk K σ H env f r x g) (q : rd L r env k) :
 ∃ d1 g', Rep K H L d1 x g' ∧ k d1 ∧ ∀ (d : D) (z : V) (k' : R → Prop), Part K H d1 x d z → elem r d k' → ∃ r' g2, ResOk K σ H env f r' z g2 ∧ (∀ b ∈ g2, b ∈ g) ∧ k' r' := by
 cases h with
 | @tmp d1 _ _ r n =>
   refine ⟨d1, g, r.up (Nat.zero_le _), q, fun d z k' p e => ?_⟩
   obtain ⟨g2, rz, hg⟩ := p 0 g r
   exact ⟨_, g2, .tmp rz fun b hb => n b (hg b hb), hg, e⟩
 | @ro c d1 _ g0 r n =>
   unfold rd R.data at q
   cases e : roOk c L with
   | false => simp only [e] at q
   | true =>
     simp only [e] at q
     refine ⟨d1, g0, r.up (qbL e), q, fun d z k' p e => ?_⟩
     obtain ⟨g2, rz, hg⟩ := p _ _ r
     exact qdL (lv := 0) rz (fun b hb => n b (hg b hb)) e
 | @sl i _ d1 m h1 h2 hm =>
   obtain ⟨v', h3, rp⟩ := A.rep _ _ _ h2
   rw [h1] at h3; cases h3
   unfold rd R.data at q
   simp only [h2] at q
   cases e : m.okL L with
   | false => simp only [e] at q
   | true =>
     simp only [e] at q
     refine ⟨d1, _, rp.up (Md.okL_le e), q, fun d z k' p e => ?_⟩
     obtain ⟨g2, rz, hg⟩ := p _ _ rp
     obtain ⟨rfl, rz0⟩ := rz.imm (by rw [hm]; exact Nat.zero_le _) e.1
     exact ⟨_, [], .tmp rz0 qm, qm, e.2⟩
end
def dIdx (ta tb : XE) : XE := fun env Q => ta env fun r1 e1 => tb e1 fun r2 e2 => rd 2 r1 e2 fun d1 => rd 1 r2 e2 fun d2 => ixd d1 d2 fun d => elem r1 d fun r => Q r e2
section
variable {X : Cx} {a b c : Expr} {ta tb : XE} {pos : Pos}
theorem qU (hx : Ok X) (ha : DE X a ta) (hb : DE X b tb) (hs : PlainIx b := by intro _ _; rfl) : DE X (.Subscript a b pos) (dIdx ta tb) := by
 refine ⟨PE.imp (pe_ix (qfp hx) ha.run hb.run hs) fun σ H Q q => ?_, fun env Q Q' h q => ha.mono _ _ _ (fun r1 e1 q => hb.mono _ _ _ (fun r2 e2 q => qO (fun d1 q => qO (fun d2 q => V8 (fun d q => qcB (fun r q => h _ _ q) q) q) q) q) q) q⟩
 obtain ⟨env, f, A, q⟩ := q
 have h := qav (C := fun r1 r2 e2 => rd 2 r1 e2 fun d1 => rd 1 r2 e2 fun d2 => ixd d1 d2 fun d => _) ha.mono hb.mono A q
 obtain ⟨env1, f1, A1, q1⟩ := h
 refine ⟨env1, f1, A1, ha.mono _ _ _ (fun r1 e1 z => ?_) q1⟩
 intro x H1 f1 g1 a b c d
 obtain ⟨env2, f2, A2, q2⟩ := z x H1 f1 g1 a b c d
 refine ⟨env2, f2, A2, hb.mono _ _ _ (fun r2 e2 z => ?_) q2⟩
 intro y H2 f2 g2 a b c d
 obtain ⟨r1, r2, e2, f2, g1, g2, A2, R1, R2, n, S, Kk, q3⟩ := z y H2 f2 g2 a b c d
 obtain ⟨d1, g1', rp1, q3, pr⟩ := qeY A2 R1 q3
 obtain ⟨d2, g2', rp2, q3⟩ := yO A2 R2 q3
 refine ⟨d1, d2, g1', g2', rp1, rp2, V8 (fun dd q4 => ?_) q3⟩
 intro z p
 obtain ⟨r', g3, R3, hg, q5⟩ := pr _ _ _ p q4
 exact q5 z H2 f2 g3 A2 R3 (S.drop fun b hb => List.mem_append_left _ (hg b hb)) Kk
end
abbrev OPn := List D → (D → Prop) → Prop
def rOpn (K : PySem.W.Frag) (L : Nat) (op : OPn) : List V → Hp → VK → Prop := fun vs H Q => ∃ ds g, Reps K H L ds vs g ∧ op ds fun d => ∀ z H' g, Rep K H' 0 d z g → Ext H H' g → Q z H'
def qbb (op : OPn) : Prop := ∀ ds k k', (∀ d, k d → k' d) → op ds k → op ds k'
structure CallD (X : Cx) (fn : Value) (L : Nat) (op : OPn) : Prop where
 run : CallR X fn (rOpn X.K L op)
 mono : qbb op
 pos : 0 < L
def dCall (L : Nat) (op : OPn) (u : XA) : XE := fun env Q => u env fun rs e => jr L rs e fun ds => op ds fun d => Q (.tmp d) e
section
variable {X : Cx} {x : Str} {p pos : Pos} {e : Expr} {es : List Expr} {u : XA} {id T : String} {L : Nat} {op : OPn}
theorem Yw (mo : qbb op) (mu : vM u) : xV (dCall L op u) := fun env Q Q' h q => mu _ _ _ (fun rs e q => jC (fun ds q => mo _ _ _ (fun d q => h _ _ q) q) q) q
theorem Yx {K : PySem.W.Frag} (hL : 0 < L) (mo : qbb op) (mu : vM u) {σ : L2.St} {H : Hp} {Q : VK} (q : jx K (dCall L op u) σ H Q) : tCB (rOpn K L op) (Uw K u) σ H Q := by
 obtain ⟨env, f, A, q⟩ := q
 refine ⟨env, f, A, mu _ _ _ (fun rs e q => ?_) q⟩
 intro vs H1 f1 gs A1 R1 S1 K1
 obtain ⟨ds, g, rp, q⟩ := VD hL A1 R1 q
 refine ⟨ds, g, rp, mo _ _ _ (fun d q => ?_) q⟩
 intro z H' g' rz x
 obtain ⟨A3, R3, S3⟩ := vI A1 S1 x rz
 exact q z H' f1 g' A3 R3 S3 K1
theorem zq (hc : CallD X (.builtin id) L op) (hg : Gl X x) (hm : X.mg x = none) (hv : bootBuiltins x = some (.builtin id)) (ha : DA X (e :: es) u) (hn : x ≠ "__name__" := by decide) (hdb : (x == ("__debug__" : Str)) = false := by decide)
 (he : starEach (e :: es) X.env = (false, eval e X.env) :: starEach es X.env := by rfl) (hpl : (backTo pos (starEach es X.env)).any (·.1) = false := by rfl) : DE X (.Call (.Name x p) (e :: es) [] pos) (dCall L op u) :=
 ⟨PE.imp (pe_callB hc.run hg hm hv ha.run hn hdb he hpl) fun σ H Q q => Yx hc.pos hc.mono ha.mono q, Yw hc.mono ha.mono⟩
theorem yI (hc : CallD X (.type T) L op) (hg : Gl X x) (hm : X.mg x = none) (hv : bootBuiltins x = some (.type T)) (ha : DA X (e :: es) u) (hn : x ≠ "__name__" := by decide) (hdb : (x == ("__debug__" : Str)) = false := by decide)
 (he : starEach (e :: es) X.env = (false, eval e X.env) :: starEach es X.env := by rfl) (hpl : (backTo pos (starEach es X.env)).any (·.1) = false := by rfl) : DE X (.Call (.Name x p) (e :: es) [] pos) (dCall L op u) :=
 ⟨PE.imp (pe_callTy hc.run hg hm hv ha.run hn hdb he hpl) fun σ H Q q => Yx hc.pos hc.mono ha.mono q, Yw hc.mono ha.mono⟩
theorem CallD.mk' {fn : Value} (hL : 0 < L) (run : ∀ (pins : List (Addr × Obj)) (s : Shared) (σ : L2.St) (H : Hp) (xs : List V) (us : List Value) (Q : VK) (ds : List D) (g : List Addr), Inv X pins σ H s → Vals xs us → Reps X.K H L ds xs g →
 (op ds fun d => ∀ z H' g, Rep X.K H' 0 d z g → Ext H H' g → Q z H') → wpAny (model X.prog X.w) X.A (call fn us) (EP X pins σ Q) X.xe s) (mono : qbb op) : CallD X fn L op :=
 ⟨fun pins s σ H xs us Q I rs ⟨ds, g, r, q⟩ => run pins s σ H xs us Q ds g I rs r q, mono, hL⟩
end
def op1 (h : D → (D → Prop) → Prop) : OPn := fun ds k => match ds with
 | [d] => h d k
 | _ => False
def op2 (h : D → D → (D → Prop) → Prop) : OPn := fun ds k => match ds with
 | [d, e] => h d e k
 | _ => False
theorem qg0 {h : D → (D → Prop) → Prop} (m : ∀ d k k', (∀ x, k x → k' x) → h d k → h d k') : qbb (op1 h) := fun ds k k' w q => by
 unfold op1 at q ⊢
 split at q
 ·exact m _ _ _ w q
 ·exact q.elim
theorem qgZ {h : D → D → (D → Prop) → Prop} (m : ∀ d e k k', (∀ x, k x → k' x) → h d e k → h d e k') : qbb (op2 h) := fun ds k k' w q => by
 unfold op2 at q ⊢
 split at q
 ·exact m _ _ _ _ w q
 ·exact q.elim
theorem Xp {X : Cx} {fn : Value} {L : Nat} {h : D → (D → Prop) → Prop} (hL : 0 < L) (run : ∀ (pins : List (Addr × Obj)) (s : Shared) (σ : L2.St) (H : Hp) (x : V) (us : List Value) (Q : VK) (d : D) (g : List Addr), Inv X pins σ H s → Vals [x] us → Rep X.K H L d x g →
 (h d fun d => ∀ z H' g, Rep X.K H' 0 d z g → Ext H H' g → Q z H') → wpAny (model X.prog X.w) X.A (call fn us) (EP X pins σ Q) X.xe s) (m : ∀ d k k', (∀ x, k x → k' x) → h d k → h d k') : CallD X fn L (op1 h) :=
 .mk' hL (fun pins s σ H xs us Q ds g I rs r q => by
  unfold op1 at q
  split at q
  ·cases r with
   | cons r1 t _ => cases t; exact run pins s σ H _ us Q _ _ I rs r1 q
  ·exact q.elim) (qg0 m)
theorem call2 {X : Cx} {fn : Value} {L : Nat} {h : D → D → (D → Prop) → Prop} (hL : 0 < L) (run : ∀ (pins : List (Addr × Obj)) (s : Shared) (σ : L2.St) (H : Hp) (x y : V) (us : List Value) (Q : VK) (d e : D) (g g2 : List Addr), Inv X pins σ H s → Vals [x, y] us → Rep X.K H L d x g → Rep X.K H L e y g2 →
 (h d e fun d => ∀ z H' g, Rep X.K H' 0 d z g → Ext H H' g → Q z H') → wpAny (model X.prog X.w) X.A (call fn us) (EP X pins σ Q) X.xe s) (m : ∀ d e k k', (∀ x, k x → k' x) → h d e k → h d e k') : CallD X fn L (op2 h) :=
 .mk' hL (fun pins s σ H xs us Q ds g I rs r q => by
  unfold op2 at q
  split at q
  ·cases r with
   | cons r1 t _ => cases t with
     | cons r2 t _ => cases t; exact run pins s σ H _ _ us Q _ _ _ _ I rs r1 r2 q
  ·exact q.elim) (qgZ m)
def bLen (d : D) (k : D → Prop) : Prop := match d with
 | .lst xs => k (.int xs.length)
 | .lF xs => k (.int xs.length)
 | .tup xs => k (.int xs.length)
 | .str s => s.length ≤ sizeLine ∧ k (.int s.length)
 | .dK kvs => k (.int kvs.length)
 | .dT kvs => k (.int kvs.length)
 | _ => False
def bAbs (d : D) (k : D → Prop) : Prop := match d with
 | .int i => k (.int (if i < 0 then -i else i))
 | _ => False
def bInt (d : D) (k : D → Prop) : Prop := match d with
 | .int i => k (.int i)
 | .bl b => k (.int (if b then 1 else 0))
 | _ => False
def JK (a b : D) (k : D → Prop) : Prop := match a, b with
 | .int i, .int j => k (.int (if j < i then j else i))
 | _, _ => False
def qjc (a b : D) (k : D → Prop) : Prop := match a, b with
 | .int i, .int j => k (.int (if j > i then j else i))
 | _, _ => False
def vg (d : D) (k : D → Prop) : Prop := match d with
 | .lst xs => immL xs = true ∧ k (.tup xs)
 | .lF xs => immL xs = true ∧ k (.tup xs)
 | .tup xs => immL xs = true ∧ k (.tup xs)
 | _ => False
def qhE (d : D) (k : D → Prop) : Prop := match d with
 | .lst xs => immL xs = true ∧ k (.lst xs)
 | .lF xs => immL xs = true ∧ k (.lst xs)
 | .tup xs => immL xs = true ∧ k (.lst xs)
 | _ => False
def bools : List D → Option (List Bool)
 | [] => some []
 | .bl b :: ds => (bools ds).map (b :: ·)
 | _ :: _ => none
def bAll (d : D) (k : D → Prop) : Prop := match d with
 | .lst xs => match bools xs with
   | some bs => k (.bl (bs.all id))
   | none => False
 | _ => False
def bAny (d : D) (k : D → Prop) : Prop := match d with
 | .lst xs => match bools xs with
   | some bs => k (.bl (bs.any id))
   | none => False
 | _ => False
def bSum (d : D) (k : D → Prop) : Prop := match d with
 | .lst xs => match intL xs with
   | some ns => k (.int ns.sum)
   | none => False
 | _ => False
theorem Reps.bools {K : PySem.W.Frag} {H : Hp} {lv : Nat} : ∀ {ds : List D} {vs : List V} {f : List Addr} {ns : List Bool}, Reps K H lv ds vs f → BX.bools ds = some ns → vs = ns.map V.bl
 | _, _, _, _, .nil, e => by
   rw [BX.bools] at e; cases e; rfl
 | _, _, _, ns, .cons (d := d) (ds := ds) r t _, e => by
   cases r with
   | bl i =>
     rw [BX.bools] at e
     obtain ⟨ms, h1, h2⟩ := Option.map_eq_some_iff.mp e
     subst h2
     rw [Reps.bools t h1]
     rfl
   | _ => rw [BX.bools] at e <;> first | (cases e) | (intro i z; cases z)
section
variable {X : Cx} (hx : Ok X)
theorem qez : CallD X (.builtin "abs") 2 (op1 bAbs) := Xp (by decide) (fun pins s σ H x us Q d g I rs r q => by
 unfold bAbs at q
 split at q
 ·obtain ⟨rfl, _⟩ := r.intV
  exact call_abs pins s σ H _ us Q I rs ⟨_, rfl, q _ _ [] (.int _) .refl⟩
 ·exact q.elim) (fun d k k' h q => by
 unfold bAbs at q ⊢
 split at q
 ·exact h _ q
 ·exact q.elim)
theorem qcY : CallD X (.type "int") 2 (op1 bInt) := Xp (by decide) (fun pins s σ H x us Q d g I rs r q => by
 unfold bInt at q
 split at q
 ·obtain ⟨rfl, _⟩ := r.intV
  exact call_int1 pins s σ H _ us Q I rs (.inl ⟨_, rfl, q _ _ [] (.int _) .refl⟩)
 ·obtain ⟨rfl, _⟩ := r.blV
  exact call_int1 pins s σ H _ us Q I rs (.inr ⟨_, rfl, q _ _ [] (.int _) .refl⟩)
 ·exact q.elim) (fun d k k' h q => by
 unfold bInt at q ⊢
 split at q
 ·exact h _ q
 ·exact h _ q
 ·exact q.elim)
include hx in
theorem Vf : CallD X (.builtin "min") 2 (op2 JK) := call2 (by decide) (fun pins s σ H x y us Q d e g g2 I rs r r2 q => by
 unfold JK at q
 split at q
 ·obtain ⟨rfl, _⟩ := r.intV
  obtain ⟨rfl, _⟩ := r2.intV
  exact call_min2 hx.calm pins s σ H _ us Q I rs ⟨_, _, rfl, q _ _ [] (.int _) .refl⟩
 ·exact q.elim) (fun d e k k' h q => by
 unfold JK at q ⊢
 split at q
 ·exact h _ q
 ·exact q.elim)
theorem QR : CallD X (.type "tuple") 1 (op1 vg) := Xp (by decide) (fun pins s σ H x us Q d g I rs r q => by
 unfold vg at q
 split at q
 ·obtain ⟨a, vs, g', rfl, hs, rr, _, _⟩ := r.listSq
  obtain ⟨rfl, r0⟩ := rr.imm (Nat.le_refl _) q.1
  exact call_tuple_of pins s σ H _ us Q I rs ⟨_, _, rfl, .inl ⟨hs, fun l hl => q.2 _ _ _ (YF hl r0) (.updT hl)⟩⟩
 ·obtain ⟨a, vs, rfl, hs, rr, _⟩ := r.lFSq
  obtain ⟨rfl, r0⟩ := rr.imm (Nat.le_refl _) q.1
  exact call_tuple_of pins s σ H _ us Q I rs ⟨_, _, rfl, .inl ⟨hs, fun l hl => q.2 _ _ _ (YF hl r0) (.updT hl)⟩⟩
 ·obtain ⟨rfl, r0⟩ := r.imm (Nat.le_refl _) (by rw [D.imm]; exact q.1)
  obtain ⟨a, vs, rfl, hs, rr⟩ := r.tupleSq
  exact call_tuple_of pins s σ H _ us Q I rs ⟨_, _, rfl, .inr ⟨hs, q.2 _ _ _ r0 .refl⟩⟩
 ·exact q.elim) (fun d k k' h q => by
 unfold vg at q ⊢
 split at q
 ·exact ⟨q.1, h _ q.2⟩
 ·exact ⟨q.1, h _ q.2⟩
 ·exact ⟨q.1, h _ q.2⟩
 ·exact q.elim)
include hx in
theorem qhu : CallD X (.builtin "all") 2 (op1 bAll) := Xp (by decide) (fun pins s σ H x us Q d g I rs r q => by
 unfold bAll at q
 split at q
 ·split at q
  ·rename_i e
   obtain ⟨a, vs, g', rfl, hs, rr, _, _⟩ := r.listSq
   rw [rr.bools e] at hs
   exact cr_all hx.calm pins s σ H _ us Q I rs ⟨_, _, rfl, hs, q _ _ [] (.bl _) .refl⟩
  ·exact q.elim
 ·exact q.elim) (fun d k k' h q => by
 unfold bAll at q ⊢
 split at q
 ·split at q
  ·simp only [*] <;> exact h _ q
  ·exact q.elim
 ·exact q.elim)
include hx in
theorem qht : CallD X (.builtin "sum") 2 (op1 bSum) := Xp (by decide) (fun pins s σ H x us Q d g I rs r q => by
 unfold bSum at q
 split at q
 ·split at q
  ·rename_i e
   obtain ⟨a, vs, g', rfl, hs, rr, _, _⟩ := r.listSq
   rw [rr.intL e] at hs
   exact cr_sum hx.calm pins s σ H _ us Q I rs ⟨_, _, rfl, hs, q _ _ [] (.int _) .refl⟩
  ·exact q.elim
 ·exact q.elim) (fun d k k' h q => by
 unfold bSum at q ⊢
 split at q
 ·split at q
  ·simp only [*] <;> exact h _ q
  ·exact q.elim
 ·exact q.elim)
end
end BX
namespace BX
open PySem PySem.Spec PyProof.Rows L2
section
variable {K : PySem.W.Frag} {σ : L2.St} {H H1 H2 H' : Hp} {env e1 e2 : En} {f f1 f2 : FA} {G G' g g' gs fp' : List Addr} {i : Nat} {d d' : D} {m : Md} {v x : V}
theorem Vi {ta : XE} {u : XA} {C : R → List R → En → Prop} {B : R → En → Prop} (ma : xV ta) (mu : vM u) (A : Abs K σ H env f) (q : ta env fun r1 e1 => B r1 e1 ∧ u e1 fun rs e2 => C r1 rs e2) :
 jx K ta σ H fun x H1 => (∃ r1 e1 f1 g1, Abs K σ H1 e1 f1 ∧ ResOk K σ H1 e1 f1 r1 x g1 ∧ B r1 e1) ∧ Uw K u σ H1 fun vs H2 => ∃ r1 rs e2 f2 g1 gs, Abs K σ H2 e2 f2 ∧ ResOk K σ H2 e2 f2 r1 x g1 ∧ ResOks K σ H2 e2 f2 rs vs gs ∧ (∀ b ∈ g1, b ∉ gs) ∧
  Stp H env f [] H2 e2 f2 (g1 ++ gs) ∧ Kp env f e2 f2 ∧ C r1 rs e2 := by
 refine ⟨env, f, A, ma _ _ _ (fun r1 e1 q1 => ?_) q⟩
 intro x H1 f1 g1 A1 R1 S1 K1
 refine ⟨⟨r1, e1, f1, g1, A1, R1, q1.1⟩, e1, f1, A1, mu _ _ _ (fun rs e2 q2 => ?_) q1.2⟩
 intro vs H2 f2 gs A2 R2 S2 K2
 obtain ⟨R1', n⟩ := R1.wait A1 S2 K2
 exact ⟨r1, rs, e2, f2, g1, gs, A2, R1', R2, n, S1.trans (S2.frame g1), K1.trans K2, q2⟩
theorem ZG {ys : List D} {ws vs : List V} {a : Addr} {fp : List Addr} (A : Abs K σ H env f) (e : env[i]? = some (some (d, m))) (hm : m.rd = false) (hl : m.lv = 0) (hv : σ[i]? = some (some (.ref a)))
 (ha : H a = some (.lst vs)) (hf : f i = a :: fp) (nfp : a ∉ fp) (r : Reps K H 0 ys ws fp') (sub : ∀ b ∈ fp', b ∈ fp ∨ b ∈ G) (hG : ∀ b ∈ G, ¬ L0 env f b ∧ ¬ Ro env f b) (hG' : ∀ b ∈ G', (b ∈ fp ∨ b ∈ G) ∧ b ∉ fp') :
 Abs K σ (upd H a (.lst ws)) (env.set i (some (.lst ys, m))) (fset f i (a :: fp')) ∧ Stp H env f G (upd H a (.lst ws)) (env.set i (some (.lst ys, m))) (fset f i (a :: fp')) G' ∧ Kp env f (env.set i (some (.lst ys, m))) (fset f i (a :: fp')) ∧
  (∀ b ∈ G', ¬ L0 (env.set i (some (.lst ys, m))) (fset f i (a :: fp')) b ∧ ¬ Ro (env.set i (some (.lst ys, m))) (fset f i (a :: fp')) b) := by
 have aG : a ∉ G := fun z => (hG a z).1 ⟨i, d, m, e, hl, by rw [hf]; exact List.mem_cons_self ..⟩
 have afp' : a ∉ fp' := fun z => (sub a z).elim nfp aG
 refine A.mut e hm hv (fun b o hb n => ?_) ?_ (fun b hb => ?_) hG fun b hb => ⟨?_, fun z => ?_⟩
 ·have : b ≠ a := fun z => n (by rw [hf, z]; exact List.mem_cons_self ..)
  rw [upd_ne this]; exact hb
 ·rw [hl]
  refine .lst upd_same (r.keep fun b o hb q => ?_) fun _ => afp'
  have : b ≠ a := fun z => by
   subst z
   rcases q with q | q
   ·exact afp' q
   ·rw [ha] at hb; cases hb; cases q
  rw [upd_ne this]; exact hb
 ·rcases List.mem_cons.mp hb with rfl | hb
  ·exact .inl (by rw [hf]; exact List.mem_cons_self ..)
  ·rcases sub b hb with z | z
   ·exact .inl (by rw [hf]; exact List.mem_cons_of_mem _ z)
   ·exact .inr (.inl z)
 ·rcases (hG' b hb).1 with z | z
  ·exact .inl (by rw [hf]; exact List.mem_cons_of_mem _ z)
  ·exact .inr (.inl z)
 ·rcases List.mem_cons.mp z with rfl | z
  ·exact (hG' b hb).1.elim nfp aG
  ·exact (hG' b hb).2 z
theorem qal {kvs : List (List Key × D)} {hs : List (List Key × V)} {ho : HO} {a : Addr} {fp : List Addr} (A : Abs K σ H env f) (e : env[i]? = some (some (d, m))) (hm : m.rd = false) (hl : m.lv = 0) (hv : σ[i]? = some (some (.ref a)))
 (ha : H a = some ho) (mo : Mu ho = true) (hf : f i = a :: fp) (nfp : a ∉ fp) (ek : hs.map (·.1) = kvs.map (·.1)) (nd : (kvs.map (·.1)).Nodup) (r : Reps K H 0 (kvs.map (·.2)) (hs.map (·.2)) fp') (sub : ∀ b ∈ fp', b ∈ fp ∨ b ∈ G) (hG : ∀ b ∈ G, ¬ L0 env f b ∧ ¬ Ro env f b)
 (hG' : ∀ b ∈ G', (b ∈ fp ∨ b ∈ G) ∧ b ∉ fp') :
 Abs K σ (upd H a (.dT hs)) (env.set i (some (.dT kvs, m))) (fset f i (a :: fp')) ∧ Stp H env f G (upd H a (.dT hs)) (env.set i (some (.dT kvs, m))) (fset f i (a :: fp')) G' ∧ Kp env f (env.set i (some (.dT kvs, m))) (fset f i (a :: fp')) ∧
  (∀ b ∈ G', ¬ L0 (env.set i (some (.dT kvs, m))) (fset f i (a :: fp')) b ∧ ¬ Ro (env.set i (some (.dT kvs, m))) (fset f i (a :: fp')) b) := by
 have aG : a ∉ G := fun z => (hG a z).1 ⟨i, d, m, e, hl, by rw [hf]; exact List.mem_cons_self ..⟩
 have afp' : a ∉ fp' := fun z => (sub a z).elim nfp aG
 refine A.mut e hm hv (fun b o hb n => ?_) ?_ (fun b hb => ?_) hG fun b hb => ⟨?_, fun z => ?_⟩
 ·have : b ≠ a := fun z => n (by rw [hf, z]; exact List.mem_cons_self ..)
  rw [upd_ne this]; exact hb
 ·rw [hl]
  refine .dT upd_same ek nd (r.keep fun b o hb q => ?_) fun _ => afp'
  have : b ≠ a := fun z => by
   subst z
   rcases q with q | q
   ·exact afp' q
   ·rw [ha] at hb; cases hb; rw [mo] at q; cases q
  rw [upd_ne this]; exact hb
 ·rcases List.mem_cons.mp hb with rfl | hb
  ·exact .inl (by rw [hf]; exact List.mem_cons_self ..)
  ·rcases sub b hb with z | z
   ·exact .inl (by rw [hf]; exact List.mem_cons_of_mem _ z)
   ·exact .inr (.inl z)
 ·rcases (hG' b hb).1 with z | z
  ·exact .inl (by rw [hf]; exact List.mem_cons_of_mem _ z)
  ·exact .inr (.inl z)
 ·rcases List.mem_cons.mp z with rfl | z
  ·exact (hG' b hb).1.elim nfp aG
  ·exact (hG' b hb).2 z
end
def D.isLst : D → Bool
 | .lst _ => true
 | _ => false
def D.isDic : D → Bool
 | .dT _ => true
 | .dK _ => true
 | _ => false
def chgL (r : R) (env : En) (k : Nat → List D → Md → Prop) : Prop := chg r env fun i d m => match d with
 | .lst xs => k i xs m
 | _ => False
theorem QM {r : R} {env : En} {k k' : Nat → List D → Md → Prop} (h : ∀ i d m, k i d m → k' i d m) (q : chgL r env k) : chgL r env k' := Xm (fun i d m q => by
 split at q
 ·exact h _ _ _ q
 ·exact q.elim) q
theorem Xn {K : PySem.W.Frag} {σ : L2.St} {H : Hp} {env : En} {f : FA} {r : R} {v : V} {g : List Addr} {k : Nat → List D → Md → Prop} (A : Abs K σ H env f) (h : ResOk K σ H env f r v g) (q : chgL r env k) :
 ∃ i xs m a vs fp, v = .ref a ∧ env[i]? = some (some (.lst xs, m)) ∧ m.rd = false ∧ m.lv = 0 ∧ σ[i]? = some (some (.ref a)) ∧ H a = some (.lst vs) ∧ Reps K H 0 xs vs fp ∧ f i = a :: fp ∧ a ∉ fp ∧ g = [] ∧ k i xs m := by
 obtain ⟨i, d, m, e, hm, hl, hv, rp, rfl, q⟩ := qcU A h q
 split at q
 ·obtain ⟨a, vs, fp, rfl, ha, rr, hf, n⟩ := rp.listAt
  exact ⟨i, _, m, a, vs, fp, rfl, e, hm, hl, hv, ha, rr, hf, n, rfl, q⟩
 ·exact q.elim
def chgT (r : R) (env : En) (k : Nat → List (List Key × D) → Md → Prop) : Prop := chg r env fun i d m => match d with
 | .dT xs => k i xs m
 | _ => False
theorem ZZ {r : R} {env : En} {k k' : Nat → List (List Key × D) → Md → Prop} (h : ∀ i d m, k i d m → k' i d m) (q : chgT r env k) : chgT r env k' := Xm (fun i d m q => by
 split at q
 ·exact h _ _ _ q
 ·exact q.elim) q
theorem qcV {K : PySem.W.Frag} {σ : L2.St} {H : Hp} {env : En} {f : FA} {r : R} {v : V} {g : List Addr} {k : Nat → List (List Key × D) → Md → Prop} (A : Abs K σ H env f) (h : ResOk K σ H env f r v g) (q : chgT r env k) :
 ∃ i xs m a hs fp, v = .ref a ∧ env[i]? = some (some (.dT xs, m)) ∧ m.rd = false ∧ m.lv = 0 ∧ σ[i]? = some (some (.ref a)) ∧ H a = some (.dT hs) ∧ hs.map (·.1) = xs.map (·.1) ∧ (xs.map (·.1)).Nodup ∧ Reps K H 0 (xs.map (·.2)) (hs.map (·.2)) fp ∧ f i = a :: fp ∧ a ∉ fp ∧ g = [] ∧ k i xs m := by
 obtain ⟨i, d, m, e, hm, hl, hv, rp, rfl, q⟩ := qcU A h q
 split at q
 ·obtain ⟨a, hs, fp, rfl, ha, ek, nd, rr, hf, n⟩ := rp.dTAt
  exact ⟨i, _, m, a, hs, fp, rfl, e, hm, hl, hv, ha, ek, nd, rr, hf, n rfl, rfl, q⟩
 ·exact q.elim
def one (rs : List R) (k : R → Prop) : Prop := match rs with
 | [r] => k r
 | _ => False
abbrev B1 := R → R → En → (R → En → Prop) → Prop
def dM1 (isT : D → Bool) (B : B1) (ta te : XE) : XE := fun env Q => ta env fun r1 e1 => (rd 2 r1 e1 fun d => isT d = true) ∧ te e1 fun r2 e2 => B r1 r2 e2 Q
structure M1Ok (X : Cx) (T : String) (isT : D → Bool) (rr : V → List V → Hp → VK → Prop) (B : B1) : Prop where
 ty : ∀ (H : Hp) (d : D) (x : V) (g : List Addr), Rep X.K H 2 d x g → isT d = true → tyV X.K T x H
 run : ∀ (σ : L2.St) (H : Hp) (e : En) (f : FA) (r1 r2 : R) (x y : V) (g1 g2 : List Addr) (QQ : R → En → Prop) (Q : VK), Abs X.K σ H e f → ResOk X.K σ H e f r1 x g1 → ResOk X.K σ H e f r2 y g2 → (∀ b ∈ g1, b ∉ g2) → B r1 r2 e QQ →
  (∀ v H' e' f' r' g', Abs X.K σ H' e' f' → ResOk X.K σ H' e' f' r' v g' → Stp H e f (g1 ++ g2) H' e' f' g' → Kp e f e' f' → QQ r' e' → Q v H') → rr x [y] H Q
 mono : ∀ r1 r2 e Q Q', (∀ r e, Q r e → Q' r e) → B r1 r2 e Q → B r1 r2 e Q'
section
variable {X : Cx} {o e : Expr} {ta te : XE} {cpos apos : Pos} {T id : String} {name : Str} {isT : D → Bool} {rr : V → List V → Hp → VK → Prop} {B : B1}
theorem qhn (ok : M1Ok X T isT rr B) (pa : PlainAttrs T) (slot : Slot T name id) (hty : typeOf (.builtin id) = pure (.type "method_descriptor")) (hm : MtR X id rr) (ho : DE X o ta) (he : DE X e te) (hbase : attributeBase o name X.env (eval o X.env) = eval o X.env := by rfl)
 (hfew : ((backTo cpos (starEach [e] X.env)).all (fun x => !x.1) && (backToKw cpos (keywordEach [] X.env)).all (fun x => x.1.isSome)
  && decide (([e] : List Expr).length + ([] : List Keyword).length + (if ([] : List Keyword).isEmpty then 0 else 1) < 30)) = true := by rfl)
 (hline : (apos.endLine == cpos.line) = true := by rfl) (hs : starEach [e] X.env = (false, eval e X.env) :: starEach [] X.env := by rfl) (hplain : (backTo cpos (starEach [] X.env)).any (·.1) = false := by rfl) :
 DE X (.Call (.Attribute o name apos) [e] [] cpos) (dM1 isT B ta te) := by
 have ha := qb he qp hs
 refine ⟨PE.imp (pe_bm pa slot hty hm ho.run ha.run hbase hfew hline hs hplain) fun σ H Q q => ?_, fun env Q Q' h q => ?_⟩
 ·obtain ⟨env, f, A, q⟩ := q
  have h := Vi (B := fun r1 e1 => rd 2 r1 e1 fun d => isT d = true) (C := fun r1 rs e2 => one rs fun r2 => B r1 r2 e2 (qa9 X.K σ H env f Q)) ho.mono ha.mono A q
  obtain ⟨env1, f1, A1, q1⟩ := h
  refine ⟨env1, f1, A1, ho.mono _ _ _ (fun r1 e1 z => ?_) q1⟩
  intro x H1 f1 g1 a b c d
  obtain ⟨⟨r0, e0, f0, g0, A0, R0, B0⟩, env2, f2, A2, q2⟩ := z x H1 f1 g1 a b c d
  obtain ⟨d0, g00, rp0, B0⟩ := yO A0 R0 B0
  refine ⟨ok.ty _ _ _ _ rp0 B0, env2, f2, A2, ha.mono _ _ _ (fun rs e2 z => ?_) q2⟩
  intro vs H2 f2 g2 a b c d
  obtain ⟨r1, rs, e2, f2, g1, gs, A2, R1, R2, n, S, Kk, q3⟩ := z vs H2 f2 g2 a b c d
  cases R2 with
  | nil => exact q3.elim
  | @cons r2 y g _ _ gs R2 Rt nd =>
    cases Rt with
    | cons _ _ _ => exact q3.elim
    | nil =>
      rw [List.append_nil] at S n
      exact ok.run σ H2 e2 f2 r1 r2 x y g1 g _ Q A2 R1 R2 n q3 fun v H' e' f' r' g' A' R' S' K' q => q v H' f' g' A' R' (S.trans S') (Kk.trans K')
 ·exact ho.mono _ _ _ (fun r1 e1 q => ⟨q.1, he.mono _ _ _ (fun r2 e2 q => ok.mono _ _ _ _ _ h q) q.2⟩) q
end
theorem Vq {K : PySem.W.Frag} (H : Hp) (d : D) (x : V) (g : List Addr) (rp : Rep K H 2 d x g) (e : d.isLst = true) : tyV K "list" x H := by
 cases rp with
 | lst h1 r n => exact .inl ⟨rfl, _, .inl (.inl h1)⟩
 | lstF l h1 r => exact .inl ⟨rfl, _, h1.sq⟩
 | _ => cases e
theorem qd2 {K : PySem.W.Frag} (H : Hp) (d : D) (x : V) (g : List Addr) (rp : Rep K H 1 d x g) (e : d.isDic = true) : tyV K "dict" x H := by
 cases rp with
 | dT h1 _ _ r n => exact .inr (.inr (.inl ⟨rfl, .inr ⟨_, h1⟩⟩))
 | dTF l _ _ _ _ => exact absurd l (by omega)
 | dK h1 _ _ r n => exact .inr (.inr (.inl ⟨rfl, .inl ⟨_, h1⟩⟩))
 | _ => cases e
def bAppend : B1 := fun r1 r2 e Q => stor r2 e fun d => chgL r1 e fun i xs m => xs.length < sizeLine ∧ Q (.tmp .non) (e.set i (some (.lst (xs ++ [d]), m)))
def YJ (r : R) (env : En) (k : List D → Prop) : Prop := match r with
 | .tmp (.lst ys) => k ys
 | r => rd 1 r env fun d => match d with
   | .lst ys => immL ys = true ∧ k ys
   | _ => False
def uY : B1 := fun r1 r2 e Q => YJ r2 e fun ys => chgL r1 e fun i xs m => xs.length + ys.length ≤ sizeLine ∧ Q (.tmp .non) (e.set i (some (.lst (xs ++ ys), m)))
theorem qaQ {r : R} {env : En} {k k' : List D → Prop} (h : ∀ d, k d → k' d) (q : YJ r env k) : YJ r env k' := by
 unfold YJ at q ⊢
 split at q
 ·exact h _ q
 ·refine qO (fun d q => ?_) q
  split at q
  ·exact ⟨q.1, h _ q.2⟩
  ·exact q.elim
theorem qdo {K : PySem.W.Frag} {σ : L2.St} {H : Hp} {env : En} {f : FA} {r : R} {v : V} {g : List Addr} {k : List D → Prop} (A : Abs K σ H env f) (h : ResOk K σ H env f r v g) (q : YJ r env k) :
 ∃ ys b ws gy, v = .ref b ∧ H b = some (.lst ws) ∧ Reps K H 0 ys ws gy ∧ k ys ∧ (∀ b ∈ gy, b ∈ g ∧ ¬ L0 env f b ∧ ¬ Ro env f b) := by
 unfold YJ at q
 split at q
 ·cases h with
  | tmp rp n =>
    obtain ⟨b, ws, gy, rfl, hb, rr, rfl, _⟩ := rp.listAt
    exact ⟨_, b, ws, gy, rfl, hb, rr, q, fun b hb => ⟨List.mem_cons_of_mem _ hb, n b (List.mem_cons_of_mem _ hb)⟩⟩
 ·obtain ⟨d, g', rp, q⟩ := yO A h q
  split at q
  ·obtain ⟨b, ws, gy, rfl, hb, rr, _⟩ := rp.listAt1 (Nat.le_refl _)
   obtain ⟨rfl, r0⟩ := rr.imm (Nat.le_refl _) q.1
   exact ⟨_, b, ws, [], rfl, hb, r0, q.2, fun b hb => by simp at hb⟩
  ·exact q.elim
section
variable {X : Cx}
theorem m_append : M1Ok X "list" D.isLst rAppend bAppend where
 ty := Vq
 mono := fun r1 r2 e Q Q' h q => uo (fun d q => QM (fun i xs m q => ⟨q.1, h _ _ q.2⟩) q) q
 run := fun σ H e f r1 r2 x y g1 g2 QQ Q A R1 R2 n q k => by
  obtain ⟨d, rd1, q, nn⟩ := Q3 A R2 q
  obtain ⟨i, xs, m, a, ws, fp, rfl, e, hm, hl, hv, hH, rr, hf, nfp, rfl, hz, q⟩ := Xn A R1 q
  have dj : ∀ b ∈ fp, b ∉ g2 := fun b hb z => (nn b z).1 ⟨i, _, m, e, hl, by rw [hf]; exact List.mem_cons_of_mem _ hb⟩
  obtain ⟨A3, S3, K3, _⟩ := ZG (G := [] ++ g2) (G' := []) A e hm hl hv hH hf nfp (rr.append (.one rd1) (fun _ b hb z => dj b hb z)) (fun b hb => (List.mem_append.mp hb).imp_right fun z => by simpa using z) (fun b hb => nn b (by simpa using hb)) qm
  exact ⟨a, ws, y, rfl, rfl, hH, by rw [← rr.len]; exact hz, k _ _ _ _ _ [] A3 (.tmp .non qm) S3 K3 q⟩
theorem m_extend : M1Ok X "list" D.isLst rExtend uY where
 ty := Vq
 mono := fun r1 r2 e Q Q' h q => qaQ (fun d q => QM (fun i xs m q => ⟨q.1, h _ _ q.2⟩) q) q
 run := fun σ H e f r1 r2 x y g1 g2 QQ Q A R1 R2 n q k => by
  obtain ⟨ys, b, zs, gy, rfl, hb, rb, q, nn⟩ := qdo A R2 q
  obtain ⟨i, xs, m, a, ws, fp, rfl, e, hm, hl, hv, hH, rr, hf, nfp, rfl, hz, q⟩ := Xn A R1 q
  have dj : ∀ b ∈ fp, b ∉ gy := fun b hb z => (nn b z).2.1 ⟨i, _, m, e, hl, by rw [hf]; exact List.mem_cons_of_mem _ hb⟩
  obtain ⟨A3, S3, K3, _⟩ := ZG (G := gy) (G' := []) A e hm hl hv hH hf nfp (rr.append rb (fun _ b hb z => dj b hb z)) (fun b hb => List.mem_append.mp hb) (fun b hb => (nn b hb).2) qm
  exact ⟨a, b, ws, zs, rfl, rfl, hH, hb, by rw [← rr.len, ← rb.len]; exact hz, k _ _ _ _ _ [] A3 (.tmp .non qm) (S3.more fun b hb => by simpa using (nn b hb).1) K3 q⟩
variable {o e : Expr} {ta te : XE} {cpos apos : Pos}
theorem QL (ho : DE X o ta) (he : DE X e te) (hbase : attributeBase o "append" X.env (eval o X.env) = eval o X.env := by rfl)
 (hfew : ((backTo cpos (starEach [e] X.env)).all (fun x => !x.1) && (backToKw cpos (keywordEach [] X.env)).all (fun x => x.1.isSome)
  && decide (([e] : List Expr).length + ([] : List Keyword).length + (if ([] : List Keyword).isEmpty then 0 else 1) < 30)) = true := by rfl)
 (hline : (apos.endLine == cpos.line) = true := by rfl) (hs : starEach [e] X.env = (false, eval e X.env) :: starEach [] X.env := by rfl) (hplain : (backTo cpos (starEach [] X.env)).any (·.1) = false := by rfl) :
 DE X (.Call (.Attribute o "append" apos) [e] [] cpos) (dM1 D.isLst bAppend ta te) :=
 qhn m_append PySem.F.plainAttrs_list PySem.F.slot_list_append PySem.F.type_list_append mt_append ho he hbase hfew hline hs hplain
theorem QJ (ho : DE X o ta) (he : DE X e te) (hbase : attributeBase o "extend" X.env (eval o X.env) = eval o X.env := by rfl)
 (hfew : ((backTo cpos (starEach [e] X.env)).all (fun x => !x.1) && (backToKw cpos (keywordEach [] X.env)).all (fun x => x.1.isSome)
  && decide (([e] : List Expr).length + ([] : List Keyword).length + (if ([] : List Keyword).isEmpty then 0 else 1) < 30)) = true := by rfl)
 (hline : (apos.endLine == cpos.line) = true := by rfl) (hs : starEach [e] X.env = (false, eval e X.env) :: starEach [] X.env := by rfl) (hplain : (backTo cpos (starEach [] X.env)).any (·.1) = false := by rfl) :
 DE X (.Call (.Attribute o "extend" apos) [e] [] cpos) (dM1 D.isLst uY ta te) :=
 qhn m_extend PySem.F.plainAttrs_list PySem.F.slot_list_extend PySem.F.type_list_extend mt_extend ho he hbase hfew hline hs hplain
end
structure FS where
 ms : List Md
 wp : List D → (D → List D → Prop) → Prop
def Wg (S : FS) : Prop := ∀ ds Q Q', (∀ d es, Q d es → Q' d es) → S.wp ds Q → S.wp ds Q'
def penv (ms : List Md) (ds : List D) : En := List.zipWith (fun d m => some (d, m)) ds ms
def spOf (K : PySem.W.Frag) (S : FS) : Sp := fun vs H Q _ => vs.length = S.ms.length ∧ ∃ ds f, ds.length = S.ms.length ∧ Abs K (vs.map some) H (penv S.ms ds) f ∧
 S.wp ds fun d ds' => ∀ v H' f' g, ds'.length = S.ms.length → Abs K (vs.map some) H' (penv S.ms ds') f' → Rep K H' 0 d v g → (∀ b ∈ g, ¬ L0 (penv S.ms ds') f' b ∧ ¬ Ro (penv S.ms ds') f' b) →
  Stp H (penv S.ms ds) f [] H' (penv S.ms ds') f' g → Kp (penv S.ms ds) f (penv S.ms ds') f' → Q v H'
def Z6 (m : Md) (r : R) (env : En) : Bool := match m with
 | .own => false
 | .lk => false
 | .io => match r with
   | .tmp _ => true
   | .sl i => match env[i]? with
     | some (some (_, .own)) => true
     | some (some (_, .io)) => true
     | _ => false
   | .ro _ _ => false
 | .ro => match r with
   | .tmp _ => true
   | .sl _ => true
   | .ro c _ => !c
 | .cst => true
def zG : List Md → List R → En → Bool
 | [], [], _ => true
 | m :: ms, r :: rs, env => Z6 m r env && zG ms rs env
 | _, _, _ => false
def isSl (i : Nat) : R → Bool
 | .sl j => j == i
 | _ => false
def apart (ms : List Md) (rs : List R) : Bool := (List.range rs.length).all fun p => (List.range rs.length).all fun q => p == q || match ms[p]?, rs[p]?, rs[q]? with
 | some m, some (.sl i), some (.sl j) => m.rd || i != j
 | _, _, _ => true
def wF : List Md → List R → Nat → Option Nat
 | m :: ms, r :: rs, i => match !m.rd && isSl i r with
   | true => some 0
   | false => (wF ms rs i).map (· + 1)
 | _, _, _ => none
def JH (ms : List Md) (rs : List R) (ds : List D) (i : Nat) (x : Option (D × Md)) : Option (D × Md) := match wF ms rs i with
 | some p => match ds[p]?, x with
   | some d, some (_, m) => some (d, m)
   | _, x => x
 | none => x
def putB (ms : List Md) (rs : List R) (ds : List D) : Nat → En → En
 | _, [] => []
 | i, x :: xs => JH ms rs ds i x :: putB ms rs ds (i + 1) xs
def dFn (S : FS) (u : XA) : XE := fun env Q => u env fun rs e => zG S.ms rs e = true ∧ apart S.ms rs = true ∧ jr 2 rs e fun ds => S.wp ds fun d ds' => Q (.tmp d) (putB S.ms rs ds' 0 e)
theorem WR {ms : List Md} {rs : List R} {ds : List D} : ∀ (k : Nat) (env : En) (i : Nat), (putB ms rs ds k env)[i]? = (env[i]?).map (JH ms rs ds (k + i))
 | k, [], i => by rw [putB]; rfl
 | k, x :: xs, 0 => by rw [putB]; rfl
 | k, x :: xs, i + 1 => by
   rw [putB, List.getElem?_cons_succ, List.getElem?_cons_succ, WR (k + 1) xs i]
   rw [show k + 1 + i = k + (i + 1) by omega]
theorem VH {ms : List Md} {rs : List R} {ds : List D} : ∀ (k : Nat) (env : En), (putB ms rs ds k env).length = env.length
 | k, [] => by rw [putB]
 | k, x :: xs => by rw [putB, List.length_cons, List.length_cons, VH (k + 1) xs]
theorem jh : ∀ {ms : List Md} {rs : List R} {i p : Nat}, wF ms rs i = some p → ∃ m, ms[p]? = some m ∧ m.rd = false ∧ rs[p]? = some (.sl i)
 | [], _, _, _, h => by rw [wF] at h <;> first | (cases h) | (intros; contradiction)
 | _ :: _, [], _, _, h => by rw [wF] at h <;> first | (cases h) | (intros; contradiction)
 | m :: ms, r :: rs, i, p, h => by
   rw [wF] at h
   split at h
   ·rename_i e
    cases h
    rw [Bool.and_eq_true] at e
    refine ⟨m, rfl, by cases hm : m.rd <;> simp [hm] at e ⊢, ?_⟩
    cases r with
    | sl j => have := eq_of_beq (show (j == i) = true from e.2); subst this; rfl
    | _ => cases e.2
   ·cases h' : wF ms rs i with
    | none => rw [h'] at h; cases h
    | some q =>
      rw [h'] at h; cases h
      obtain ⟨m', a, b, c⟩ := jh h'
      exact ⟨m', by simpa using a, b, by simpa using c⟩
theorem Wh : ∀ {ms : List Md} {rs : List R} {i p : Nat} {m : Md}, wF ms rs i = none → ms[p]? = some m → m.rd = false → rs[p]? = some (.sl i) → False
 | [], _, _, _, _, _, h, _, _ => by simp at h
 | _ :: _, [], _, _, _, _, _, _, h => by simp at h
 | m :: ms, r :: rs, i, 0, m', h, h1, h2, h3 => by
   cases h1; cases h3
   rw [wF] at h
   simp [h2, isSl] at h
 | m :: ms, r :: rs, i, p + 1, m', h, h1, h2, h3 => by
   rw [wF] at h
   split at h
   ·cases h
   ·exact Wh (p := p) (by cases h' : wF ms rs i with
     | none => rfl
     | some q => rw [h'] at h; cases h) (by simpa using h1) h2 (by simpa using h3)
theorem qc5 {ms : List Md} {rs : List R} (h : apart ms rs = true) {p q i : Nat} {m : Md} (hpq : p ≠ q) (h1 : ms[p]? = some m) (h2 : m.rd = false) (h3 : rs[p]? = some (.sl i)) (h4 : rs[q]? = some (.sl i)) : False := by
 unfold apart at h
 rw [List.all_eq_true] at h
 have a := h p (List.mem_range.mpr (List.getElem?_eq_some_iff.mp h3).1)
 rw [List.all_eq_true] at a
 have b := a q (List.mem_range.mpr (List.getElem?_eq_some_iff.mp h4).1)
 simp [h1, h2, h3, h4, hpq] at b
theorem zp {ms : List Md} {ds : List D} {p : Nat} {d : D} {m : Md} : (penv ms ds)[p]? = some (some (d, m)) ↔ ds[p]? = some d ∧ ms[p]? = some m := by
 unfold penv
 rw [List.getElem?_zipWith]
 cases h1 : ds[p]? <;> cases h2 : ms[p]? <;> simp
theorem Y0 {ms : List Md} {ds : List D} (h : ds.length = ms.length) : (penv ms ds).length = ms.length := by
 unfold penv
 rw [List.length_zipWith, h, Nat.min_self]
section
variable {K : PySem.W.Frag} {σ : L2.St} {H : Hp} {env : En} {f : FA}
theorem ResOks.get : ∀ {rs : List R} {vs : List V} {gs : List Addr}, ResOks K σ H env f rs vs gs → ∃ ga : Nat → List Addr, (∀ (p : Nat) (r : R), rs[p]? = some r → ∃ v, vs[p]? = some v ∧ ResOk K σ H env f r v (ga p) ∧ ∀ b ∈ ga p, b ∈ gs) ∧
 ∀ p q, p < rs.length → q < rs.length → p ≠ q → ∀ b ∈ ga p, b ∉ ga q
 | _, _, _, .nil => ⟨fun _ => [], fun p r h => by simp at h, fun p q h => by simp at h⟩
 | _, _, _, .cons (r := r) (v := v) (g := g) (rs := rs) (vs := vs) (gs := gs) h t n => by
   obtain ⟨ga, h1, h2⟩ := ResOks.get t
   refine ⟨fun p => match p with
    | 0 => g
    | p + 1 => ga p, fun p r' e => ?_, fun p q hp hq hpq b hb hb' => ?_⟩
   ·cases p with
    | zero => cases e; exact ⟨v, rfl, h, fun b hb => List.mem_append_left _ hb⟩
    | succ p =>
      obtain ⟨v', e1, e2, e3⟩ := h1 p r' (by simpa using e)
      exact ⟨v', by simpa using e1, e2, fun b hb => List.mem_append_right _ (e3 b hb)⟩
   ·have inn : ∀ p, p < rs.length → ∀ b ∈ ga p, b ∈ gs := fun p hp b hb => by
     obtain ⟨v', _, _, e3⟩ := h1 p _ (List.getElem?_eq_getElem hp)
     exact e3 b hb
    cases p with
    | zero => cases q with
      | zero => exact hpq rfl
      | succ q => exact n b hb (inn q (by simpa using hq) b hb')
    | succ p => cases q with
      | zero => exact n b hb' (inn p (by simpa using hp) b hb)
      | succ q => exact h2 p q (by simpa using hp) (by simpa using hq) (by omega) b hb hb'
theorem Ym {L : Nat} : ∀ {rs : List R} {k : List D → Prop}, jr L rs env k → ∃ ds : List D, rs.map (R.data L env) = ds.map some ∧ k ds
 | [], _, q => ⟨[], rfl, q⟩
 | r :: rs, k, q => by
   have q' : rd L r env fun d => jr L rs env fun ds => k (d :: ds) := q
   unfold rd at q'
   cases e : r.data L env with
   | none => rw [e] at q'; exact q'.elim
   | some d =>
     rw [e] at q'
     obtain ⟨ds, h1, h2⟩ := Ym q'
     exact ⟨d :: ds, by rw [List.map_cons, List.map_cons, e, h1], h2⟩
theorem Yn : ∀ {ms : List Md} {rs : List R}, zG ms rs env = true → ms.length = rs.length ∧ ∀ (p : Nat) (m : Md) (r : R), ms[p]? = some m → rs[p]? = some r → Z6 m r env = true
 | [], [], _ => ⟨rfl, fun p m r h => by simp at h⟩
 | [], _ :: _, h => by rw [zG] at h <;> first | (cases h) | (intros; contradiction)
 | _ :: _, [], h => by rw [zG] at h <;> first | (cases h) | (intros; contradiction)
 | m :: ms, r :: rs, h => by
   rw [zG, Bool.and_eq_true] at h
   obtain ⟨e1, e2⟩ := Yn h.2
   refine ⟨by rw [List.length_cons, List.length_cons, e1], fun p m' r' h1 h2 => ?_⟩
   cases p with
   | zero => cases h1; cases h2; exact h.1
   | succ p => exact e2 p m' r' (by simpa using h1) (by simpa using h2)
theorem Xf {rs : List R} {vs : List V} {gs : List Addr} {S : FS} (A : Abs K σ H env f) (Rs : ResOks K σ H env f rs vs gs) (ok : zG S.ms rs env = true) (ap : apart S.ms rs = true) {k : List D → Prop} (q : jr 2 rs env k) :
 ∃ ds fa, ds.length = S.ms.length ∧ vs.length = S.ms.length ∧ Abs K (vs.map some) H (penv S.ms ds) fa ∧ k ds ∧
  ∀ v d H' f' g ds', ds'.length = S.ms.length → Abs K (vs.map some) H' (penv S.ms ds') f' → Rep K H' 0 d v g → (∀ b ∈ g, ¬ L0 (penv S.ms ds') f' b ∧ ¬ Ro (penv S.ms ds') f' b) → Stp H (penv S.ms ds) fa [] H' (penv S.ms ds') f' g → Kp (penv S.ms ds) fa (penv S.ms ds') f' →
   ∃ f2, Abs K σ H' (putB S.ms rs ds' 0 env) f2 ∧ ResOk K σ H' (putB S.ms rs ds' 0 env) f2 (.tmp d) v g ∧ Stp H env f gs H' (putB S.ms rs ds' 0 env) f2 g ∧ Kp env f (putB S.ms rs ds' 0 env) f2 := by
 obtain ⟨ds, hds, q⟩ := Ym q
 obtain ⟨hlen, hok⟩ := Yn ok
 obtain ⟨ga, hga, hgd⟩ := Rs.get
 have ld : ds.length = rs.length := by have := congrArg List.length hds; simpa using this.symm
 have lv := Rs.len
 have dat : ∀ (p : Nat) (r : R), rs[p]? = some r → ∃ d, ds[p]? = some d ∧ r.data 2 env = some d := fun p r h => by
  have e := congrArg (fun l => l[p]?) hds
  simp only [List.getElem?_map, h, Option.map_some] at e
  cases e2 : ds[p]? with
  | none => rw [e2] at e; cases e
  | some d => rw [e2] at e; exact ⟨d, rfl, Option.some.inj e⟩
 have ex : ∀ p : Nat, ∃ fp : List Addr, ∀ (m : Md) (r : R), S.ms[p]? = some m → rs[p]? = some r → ∃ v d, vs[p]? = some v ∧ ds[p]? = some d ∧ Rep K H m.lv d v fp ∧
  ((∃ d', r = .tmp d' ∧ fp = ga p) ∨ (m.rd = true ∧ ∀ b ∈ fp, Ro env f b) ∨ ∃ i m', r = .sl i ∧ fp = f i ∧ env[i]? = some (some (d, m')) ∧ (m.rd = false → m'.rd = false) ∧ m'.lv = 0 ∧ σ[i]? = some (some v)) := fun p => by
  cases hm : S.ms[p]? with
  | none => exact ⟨[], fun m r h => by cases h⟩
  | some m =>
    cases hr : rs[p]? with
    | none => exact ⟨[], fun m r _ h => by cases h⟩
    | some r =>
      obtain ⟨v, hv, R1, _⟩ := hga p r hr
      obtain ⟨d, hd, dd⟩ := dat p r hr
      have o := hok p m r hm hr
      generalize hgp : ga p = gp at R1
      cases R1 with
      | @tmp d' _ _ rp n =>
        cases dd
        refine ⟨gp, fun m1 r1 e1 e2 => ?_⟩
        cases e1; cases e2
        exact ⟨v, _, hv, hd, rp.up (Nat.zero_le _), .inl ⟨_, rfl, rfl⟩⟩
      | @ro c d' _ g0 rp n =>
        refine ⟨g0, fun m1 r1 e1 e2 => ?_⟩
        cases e1; cases e2
        have dd' : d' = d := by
         unfold R.data at dd
         cases e : roOk c 2 with
         | false => simp only [e] at dd; cases dd
         | true => simp only [e] at dd; exact Option.some.inj dd
        subst dd'
        refine ⟨v, d', hv, hd, rp.up ?_, .inr (.inl ⟨?_, n⟩)⟩
        ·cases m <;> cases c <;> first | exact Nat.le_refl _ | exact Nat.le_succ _ | (cases o)
        ·cases m <;> first | rfl | (cases o)
      | @sl i _ d' m' h1 h2 l0 =>
        refine ⟨f i, fun m1 r1 e1 e2 => ?_⟩
        cases e1; cases e2
        obtain ⟨w, h4, rp⟩ := A.rep i d' m' h2
        rw [h1] at h4; cases h4
        have dd' : d' = d := by
         unfold R.data at dd
         simp only [h2] at dd
         cases e : m'.okL 2 with
         | false => simp only [e] at dd; cases dd
         | true => simp only [e] at dd; exact Option.some.inj dd
        subst dd'
        refine ⟨v, d', hv, hd, rp.up (by rw [l0]; exact Nat.zero_le _), .inr (.inr ⟨i, m', rfl, rfl, h2, fun hr0 => ?_, l0, h1⟩)⟩
        cases m with
        | own => cases o
        | lk => cases o
        | io =>
          simp only [Z6, h2] at o
          cases m' <;> first | rfl | (cases o; done)
        | ro => cases hr0
        | cst => cases hr0
 obtain ⟨fa, hfa⟩ := Classical.axiomOfChoice ex
 have lm : S.ms.length = rs.length := hlen
 have rsAt : ∀ {p : Nat} {m : Md}, S.ms[p]? = some m → ∃ r, rs[p]? = some r := fun {p m} h => ⟨_, List.getElem?_eq_getElem (by have := (List.getElem?_eq_some_iff.mp h).1; omega)⟩
 have cw : ∀ {p : Nat} {m : Md}, S.ms[p]? = some m → m.rd = false → (∃ d', rs[p]? = some (.tmp d') ∧ fa p = ga p) ∨ ∃ i d m', rs[p]? = some (.sl i) ∧ fa p = f i ∧ env[i]? = some (some (d, m')) ∧ m'.rd = false := fun {p m} hm hr => by
  obtain ⟨r, hr'⟩ := rsAt hm
  obtain ⟨v, d, h1, h2, h3, h4⟩ := hfa p m r hm hr'
  rcases h4 with ⟨d', rfl, e⟩ | ⟨e, _⟩ | ⟨i, m', rfl, e, e2, e3, _⟩
  ·exact .inl ⟨d', hr', e⟩
  ·rw [hr] at e; cases e
  ·exact .inr ⟨i, d, m', hr', e, e2, e3 hr⟩
 have gaFree : ∀ {p : Nat} {d' : D}, rs[p]? = some (.tmp d') → ∀ b ∈ ga p, (¬ L0 env f b ∧ ¬ Ro env f b) ∧ b ∈ gs := fun {p d'} h b hb => by
  obtain ⟨v, _, R1, hs⟩ := hga p _ h
  cases R1 with
  | tmp rp n => exact ⟨n b hb, hs b hb⟩
 have A0 : Abs K (vs.map some) H (penv S.ms ds) fa := by
  refine ⟨fun p d m h => ?_, fun p q d m d' m' hpq h1 h2 hr b hb hb' => ?_, by rw [Y0 (by omega), List.length_map]; omega⟩
  ·obtain ⟨hd, hm⟩ := zp.mp h
   obtain ⟨r, hr⟩ := rsAt hm
   obtain ⟨v, d', h1, h2, h3, _⟩ := hfa p m r hm hr
   rw [hd] at h2; cases h2
   exact ⟨v, by rw [List.getElem?_map, h1]; rfl, h3⟩
  ·obtain ⟨hd1, hm1⟩ := zp.mp h1
   obtain ⟨hd2, hm2⟩ := zp.mp h2
   replace hr : m.rd = false := by
    obtain ⟨r0, hr0⟩ := rsAt hm1
    have o := hok p m r0 hm1 hr0
    cases m <;> first | rfl | (cases hr; done) | (cases o; done)
   obtain ⟨r2, hr2⟩ := rsAt hm2
   obtain ⟨v2, d2, _, _, _, h5⟩ := hfa q m' r2 hm2 hr2
   rcases cw hm1 hr with ⟨d0, e1, e2⟩ | ⟨i, d0, m0, e1, e2, e3, e4⟩
   ·rw [e2] at hb
    obtain ⟨⟨nw, nr⟩, _⟩ := gaFree e1 b hb
    rcases h5 with ⟨d3, rfl, e5⟩ | ⟨_, e5⟩ | ⟨j, m3, rfl, e5, e6, e7, e8, _⟩
    ·rw [e5] at hb'
     exact hgd p q (List.getElem?_eq_some_iff.mp e1).1 (List.getElem?_eq_some_iff.mp hr2).1 hpq b hb hb'
    ·exact nr (e5 b hb')
    ·rw [e5] at hb'
     exact nw ⟨j, _, _, e6, e8, hb'⟩
   ·rw [e2] at hb
    rcases h5 with ⟨d3, rfl, e5⟩ | ⟨_, e5⟩ | ⟨j, m3, rfl, e5, e6, e7, e8, _⟩
    ·rw [e5] at hb'
     exact (gaFree hr2 b hb').1.1 ⟨i, _, _, e3, Md.lv_of e4, hb⟩
    ·exact A.apart ⟨i, _, _, e3, Md.lv_of e4, hb⟩ (e5 b hb')
    ·rw [e5] at hb'
     by_cases hij : i = j
     ·subst hij
      exact qc5 ap hpq hm1 hr e1 hr2
     ·exact A.dis i j _ _ _ _ hij e3 e6 (Md.lv_of e4) b hb hb'
 refine ⟨ds, fa, by omega, by omega, A0, q, fun v d H' f' g ds' l' A1 rv ng S1 K1 => ?_⟩
 have cwW : ∀ b, W (penv S.ms ds) fa b → (W env f b ∨ b ∈ gs) ∧ ∀ i d1 m1, env[i]? = some (some (d1, m1)) → wF S.ms rs i = none → b ∉ f i := fun b ⟨p, d1, m1, h1, h2, h3⟩ => by
  obtain ⟨hd1, hm1⟩ := zp.mp h1
  rcases cw hm1 h2 with ⟨d0, e1, e2⟩ | ⟨i, d0, m0, e1, e2, e3, e4⟩
  ·rw [e2] at h3
   obtain ⟨⟨nw, nr⟩, hs⟩ := gaFree e1 b h3
   refine ⟨.inr hs, fun j d2 m2 h4 _ z => ?_⟩
   by_cases hm2 : m2.lv = 0
   ·exact nw ⟨j, d2, m2, h4, hm2, z⟩
   ·exact nr ⟨j, d2, m2, h4, hm2, z⟩
  ·rw [e2] at h3
   refine ⟨.inl ⟨i, d0, m0, e3, e4, h3⟩, fun j d2 m2 h4 h5 z => ?_⟩
   by_cases hij : i = j
   ·subst hij
    exact Wh h5 hm1 h2 e1
   ·exact A.dis i j _ _ _ _ hij e3 h4 (Md.lv_of e4) b h3 z
 have far : ∀ b, (W (penv S.ms ds') f' b ∨ b ∈ g) → (W env f b ∨ b ∈ gs ∨ H b = none) ∧ ∀ i d1 m1, env[i]? = some (some (d1, m1)) → wF S.ms rs i = none → b ∉ f i := fun b h => by
  rcases S1.own b h with z | z | z
  ·obtain ⟨z1, z2⟩ := cwW b z
   exact ⟨z1.imp_right .inl, z2⟩
  ·simp at z
  ·refine ⟨.inr (.inr z), fun i d1 m1 h1 _ hb => ?_⟩
   obtain ⟨w, _, rp⟩ := A.rep i d1 m1 h1
   obtain ⟨o, ho, _⟩ := rp.dom b hb
   rw [z] at ho; cases ho
 have slot : ∀ {i : Nat} {d1 : D} {m1 : Md}, (putB S.ms rs ds' 0 env)[i]? = some (some (d1, m1)) →
  (wF S.ms rs i = none ∧ env[i]? = some (some (d1, m1))) ∨ ∃ p m d0 v, wF S.ms rs i = some p ∧ S.ms[p]? = some m ∧ m.rd = false ∧ ds'[p]? = some d1 ∧ env[i]? = some (some (d0, m1)) ∧ m1.rd = false ∧ m1.lv = 0 ∧ vs[p]? = some v ∧ σ[i]? = some (some v) := fun {i d1 m1} h => by
  rw [WR, Nat.zero_add] at h
  cases hp : wF S.ms rs i with
  | none =>
    left
    refine ⟨rfl, ?_⟩
    cases he : env[i]? with
    | none => rw [he] at h; cases h
    | some x =>
      rw [he] at h
      simp only [Option.map_some, JH, hp] at h
      exact h
  | some p =>
    right
    obtain ⟨m, hm, hr, hs⟩ := jh hp
    obtain ⟨v, d0, h1, h2, h3, h4⟩ := hfa p m _ hm hs
    rcases h4 with ⟨d', e, _⟩ | ⟨e, _⟩ | ⟨j, m', e, e1, e2, e3, e4, e5⟩
    ·cases e
    ·rw [hr] at e; cases e
    ·cases e
     have hp' : p < ds'.length := by have := (List.getElem?_eq_some_iff.mp hm).1; omega
     rw [e2, Option.map_some] at h
     simp only [JH, hp, List.getElem?_eq_getElem hp'] at h
     cases h
     exact ⟨p, m, d0, v, rfl, hm, hr, List.getElem?_eq_getElem hp', e2, e3 hr, e4, h1, e5⟩
 have f2n : ∀ {i : Nat}, wF S.ms rs i = none → (match wF S.ms rs i with | some p => f' p | none => f i) = f i := fun {i} h => by rw [h]
 have f2s : ∀ {i p : Nat}, wF S.ms rs i = some p → (match wF S.ms rs i with | some p => f' p | none => f i) = f' p := fun {i p} h => by rw [h]
 refine ⟨fun i => match wF S.ms rs i with | some p => f' p | none => f i, ⟨fun i d1 m1 h => ?_, fun i j d1 m1 d2 m2 hij h1 h2 hr b hb hb' => ?_, by rw [VH]; exact A.len⟩, .tmp rv fun b hb => ⟨?_, ?_⟩, ⟨fun b o h qq => ?_, fun b qq => ?_⟩, ⟨?_, fun j d1 m1 h hr => ?_⟩⟩
 ·rcases slot h with ⟨hn, he⟩ | ⟨p, m, d0, v, hp, hm, hr, hd, he, e3, e4, hv, hs⟩
  ·obtain ⟨w, h1, rp⟩ := A.rep i d1 m1 he
   refine ⟨w, h1, ?_⟩
   simp only [f2n hn]
   refine rp.keep fun b o hb qq => S1.same b o hb ?_
   rcases qq with qq | qq
   ·exact .inr ⟨fun z => (cwW b z).2 i d1 m1 he hn qq, by simp⟩
   ·exact .inl qq
  ·obtain ⟨w, h1, rp⟩ := A1.rep p d1 m (zp.mpr ⟨hd, hm⟩)
   rw [List.getElem?_map, hv] at h1
   cases h1
   refine ⟨v, hs, ?_⟩
   simp only [f2s hp]
   have : m.lv = 0 := by cases m <;> first | rfl | (cases hr)
   rw [e4, ← this]
   exact rp
 ·rcases slot h1 with ⟨hn, he⟩ | ⟨p, m, d0, v, hp, hm, hr1, hd, he, e3, e4, hv, hs⟩
  ·simp only [f2n hn] at hb
   rcases slot h2 with ⟨hn2, he2⟩ | ⟨p2, m', d02, v2, hp2, hm2, hr2, hd2, he2, e32, e42, hv2, hs2⟩
   ·simp only [f2n hn2] at hb'
    exact A.dis i j _ _ _ _ hij he he2 hr b hb hb'
   ·simp only [f2s hp2] at hb'
    exact (far b (.inl ⟨p2, d2, m', zp.mpr ⟨hd2, hm2⟩, hr2, hb'⟩)).2 i _ _ he hn hb
  ·simp only [f2s hp] at hb
   rcases slot h2 with ⟨hn2, he2⟩ | ⟨p2, m', d02, v2, hp2, hm2, hr2, hd2, he2, e32, e42, hv2, hs2⟩
   ·simp only [f2n hn2] at hb'
    exact (far b (.inl ⟨p, d1, m, zp.mpr ⟨hd, hm⟩, hr1, hb⟩)).2 j _ _ he2 hn2 hb'
   ·simp only [f2s hp2] at hb'
    have hpp : p ≠ p2 := fun z => by
     subst z
     obtain ⟨_, _, _, z1⟩ := jh hp
     obtain ⟨_, _, _, z2⟩ := jh hp2
     rw [z1] at z2; cases z2
     exact hij rfl
    exact A1.dis p p2 _ _ _ _ hpp (zp.mpr ⟨hd, hm⟩) (zp.mpr ⟨hd2, hm2⟩) (Md.lv_of hr1) b hb hb'
 ·rintro ⟨i, d1, m1, h, hr, z⟩
  rcases slot h with ⟨hn, he⟩ | ⟨p, m, d0, v, hp, hm, hr1, hd, he, e3, e4, hv, hs⟩
  ·simp only [f2n hn] at z
   exact (far b (.inr hb)).2 i _ _ he hn z
  ·simp only [f2s hp] at z
   exact (ng b hb).1 ⟨p, d1, m, zp.mpr ⟨hd, hm⟩, Md.lv_of hr1, z⟩
 ·rintro ⟨i, d1, m1, h, hr, z⟩
  rcases slot h with ⟨hn, he⟩ | ⟨p, m, d0, v, hp, hm, hr1, hd, he, e3, e4, hv, hs⟩
  ·simp only [f2n hn] at z
   exact (far b (.inr hb)).2 i _ _ he hn z
  ·exact absurd e4 hr
 ·refine S1.same b o h ?_
  rcases qq with qq | qq
  ·exact .inl qq
  ·exact .inr ⟨fun z => (cwW b z).1.elim qq.1 qq.2, by simp⟩
 ·rcases qq with ⟨i, d1, m1, h, hr, hb⟩ | qq
  ·rcases slot h with ⟨hn, he⟩ | ⟨p, m, d0, v, hp, hm, hr1, hd, he, e3, e4, hv, hs⟩
   ·simp only [f2n hn] at hb
    exact .inl ⟨i, d1, m1, he, hr, hb⟩
   ·simp only [f2s hp] at hb
    exact (far b (.inl ⟨p, d1, m, zp.mpr ⟨hd, hm⟩, hr1, hb⟩)).1
  ·exact (far b (.inr qq)).1
 ·apply List.ext_getElem?
  intro i
  rw [List.getElem?_map, List.getElem?_map, WR, Nat.zero_add, Option.map_map]
  cases he : env[i]? with
  | none => rfl
  | some x =>
    simp only [Option.map_some, Function.comp, Option.some.injEq]
    unfold JH
    cases hp : wF S.ms rs i with
    | none => rfl
    | some p =>
      cases hd : ds'[p]? <;> cases x <;> simp [hd]
 ·have hn : wF S.ms rs j = none := by
   cases hp : wF S.ms rs j with
   | none => rfl
   | some p =>
     obtain ⟨m, hm, hr1, hs⟩ := jh hp
     rcases cw hm hr1 with ⟨d', e, _⟩ | ⟨i, d0, m0, e1, e2, e3, e4⟩
     ·rw [hs] at e; cases e
     ·rw [hs] at e1; cases e1
      rw [h] at e3; cases e3
      rw [hr] at e4; cases e4
  refine ⟨?_, f2n hn⟩
  rw [WR, Nat.zero_add, h]
  simp only [Option.map_some, JH, hn]
end
section
variable {X : Cx} {k : Nat} {fd : FuncData} {ps : List Str} {ds : List Value} {x : Str} {p pos : Pos} {e : Expr} {es : List Expr} {u : XA} {S : FS}
structure Fn (P : Program) (w : World) (K : PySem.W.Frag) (mg : Str → Option Value) (base : Heap) (x : Str) (k : Nat) (ps : List Str) (S : FS) : Prop where
 ex : ∃ f fd, FnOk P w K mg base CX0 k f fd ps (spOf K S) ∧ mg x = some (.ref f) ∧ PySem.W.keepIn K (.ref f) = true ∧ Binds K fd ps []
 mono : Wg S
theorem yP (F : Fn X.prog X.w X.K X.mg X.base x k ps S) (hr : Room k X.A) (hg : Gl X x) (ha : DA X (e :: es) u) (hdb : (x == ("__debug__" : Str)) = false := by decide)
 (he : starEach (e :: es) X.env = (false, eval e X.env) :: starEach es X.env := by rfl) (hpl : (backTo pos (starEach es X.env)).any (·.1) = false := by rfl) : DE X (.Call (.Name x p) (e :: es) [] pos) (dFn S u) := by
 obtain ⟨f, fd, hF, hm, hk, hb⟩ := F.ex
 refine ⟨PE.imp (pe_call hF hr hg hm hk hb .nil pass0 ha.run hdb he hpl) fun σ H Q q => ?_, fun env Q Q' h q => ha.mono _ _ _ (fun rs e q => ⟨q.1, q.2.1, jC (fun ds q => F.mono _ _ _ (fun d es q => h _ _ q) q) q.2.2⟩) q⟩
 obtain ⟨env, f, A, q⟩ := q
 refine ⟨env, f, A, ha.mono _ _ _ (fun rs e q => ?_) q⟩
 intro vs H1 f1 gs A1 R1 S1 K1
 obtain ⟨o1, o2, q⟩ := q
 obtain ⟨ds, fa, l1, l2, Aa, q, back⟩ := Xf A1 R1 o1 o2 q
 rw [List.append_nil]
 refine ⟨l2, ds, fa, l1, Aa, F.mono _ _ _ (fun d ds' q => ?_) q⟩
 intro v H' f' g l' A' rv ng S' K'
 obtain ⟨f2, A2, R2, S2, K2⟩ := back v d H' f' g ds' l' A' rv ng S' K'
 exact q v H' f2 g A2 R2 (S1.trans S2) (K1.trans K2)
end
end BX
namespace BX
open PySem PySem.Spec PyProof.Rows L2
abbrev XS := En → (En → Prop) → (D → En → Prop) → Prop
abbrev XG := R → En → (En → Prop) → Prop
abbrev XGs := Option Bool → List D → En → (En → Prop) → Prop
structure Kq (σ : L2.St) (env : En) (f : FA) (σ' : L2.St) (env' : En) (f' : FA) : Prop where
 io : ∀ (i : Nat) (d : D), env[i]? = some (some (d, Md.io)) → σ'[i]? = σ[i]? ∧ ∃ d', env'[i]? = some (some (d', Md.io))
 lk : ∀ (i : Nat) (d : D), env[i]? = some (some (d, Md.lk)) → σ'[i]? = σ[i]? ∧ env'[i]? = some (some (d, Md.lk)) ∧ f' i = f i
 lkr : ∀ (i : Nat) (d : D), env'[i]? = some (some (d, Md.lk)) → env[i]? = some (some (d, Md.lk))
theorem Kq.refl {σ : L2.St} {env : En} {f : FA} : Kq σ env f σ env f := ⟨fun i d h => ⟨rfl, d, h⟩, fun i d h => ⟨rfl, h, rfl⟩, fun i d h => h⟩
theorem Kq.trans {σ σ1 σ2 : L2.St} {env e1 e2 : En} {f f1 f2 : FA} (a : Kq σ env f σ1 e1 f1) (b : Kq σ1 e1 f1 σ2 e2 f2) : Kq σ env f σ2 e2 f2 :=
 ⟨fun i d h => let ⟨x, d1, h1⟩ := a.io i d h; let ⟨y, d2, h2⟩ := b.io i d1 h1; ⟨y.trans x, d2, h2⟩, fun i d h => let ⟨x, h1, z1⟩ := a.lk i d h; let ⟨y, h2, z2⟩ := b.lk i d h1; ⟨y.trans x, h2, z2.trans z1⟩, fun i d h => a.lkr i d (b.lkr i d h)⟩
theorem Kp.kq {σ : L2.St} {env e1 : En} {f f1 : FA} (a : Kp env f e1 f1) : Kq σ env f σ e1 f1 :=
 ⟨fun i d h => ⟨rfl, a.slot h⟩, fun i d h => ⟨rfl, a.ros i d .lk h rfl⟩, fun i d h => by
  obtain ⟨d', h'⟩ := a.slot' h
  have := (a.ros i d' .lk h' rfl).1
  rw [h] at this; cases this
  exact h'⟩
def qa8 (K : PySem.W.Frag) (σ : L2.St) (H : Hp) (env : En) (f : FA) (P : L2.St → Hp → Prop) : En → Prop := fun env' => ∀ σ' H' f', Abs K σ' H' env' f' → Stp H env f [] H' env' f' [] → Kq σ env f σ' env' f' → P σ' H'
def JP (K : PySem.W.Frag) (σ : L2.St) (H : Hp) (env : En) (f : FA) (P : VK) : D → En → Prop := fun d env' => ∀ v σ' H' f' g, Abs K σ' H' env' f' → Rep K H' 0 d v g → (∀ b ∈ g, ∀ i d m, env'[i]? = some (some (d, m)) → (m = .io ∨ m = .lk) → b ∉ f' i) → Stp H env f [] H' env' f' g → Kq σ env f σ' env' f' → P v H'
def qch (K : PySem.W.Frag) (t : XS) : TS := fun D σ H => ∃ env f, Abs K σ H env f ∧ t env (qa8 K σ H env f D.nx) (JP K σ H env f D.rt)
def qba (t : XS) : Prop := ∀ env nx nx' rt rt', (∀ e, nx e → nx' e) → (∀ d e, rt d e → rt' d e) → t env nx rt → t env nx' rt'
structure DS (X : Cx) (st : Stmt) (t : XS) : Prop where
 run : PS X st (qch X.K t)
 mono : qba t
structure DSs (X : Cx) (st : List Stmt) (t : XS) : Prop where
 run : PSs X st (qch X.K t)
 mono : qba t
theorem PS.imp {X : Cx} {e : Stmt} {t u : TS} (h : PS X e t) (k : ∀ D σ H, u D σ H → t D σ H) : PS X e u := ⟨fun pins s σ H D I q => h.run pins s σ H D I (k _ _ _ q)⟩
theorem PSs.imp {X : Cx} {e : List Stmt} {t u : TS} (h : PSs X e t) (k : ∀ D σ H, u D σ H → t D σ H) : PSs X e u := ⟨fun pins s σ H D I q => h.run pins s σ H D I (k _ _ _ q)⟩
def sNil : XS := fun env nx _ => nx env
def sSeq (t u : XS) : XS := fun env nx rt => t env (fun e => u e nx rt) rt
def Qa (t : XE) : XS := fun env nx _ => t env fun _ e => nx e
def retR (r : R) (env : En) (k : D → Prop) : Prop := match r with
 | .tmp d => k d
 | .ro c d => c = false ∧ d.imm = true ∧ k d
 | .sl i => match env[i]? with
   | some (some (d, m)) => (match m with
     | .own => True
     | _ => d.imm = true) ∧ k d
   | _ => False
def sRet (t : XE) : XS := fun env _ rt => t env fun r e => retR r e fun d => rt d e
def qiD : XS := fun env _ rt => rt .non env
def sIf (c : XT) (t u : XS) : XS := fun env nx rt => c env fun b e => (b = true → t e nx rt) ∧ (b = false → u e nx rt)
def qgw : XS := fun _ _ _ => False
theorem qbO {r : R} {env : En} {k k' : D → Prop} (h : ∀ d, k d → k' d) (q : retR r env k) : retR r env k' := by
 cases r with
 | tmp d => exact h _ q
 | ro c d => exact ⟨q.1, q.2.1, h _ q.2.2⟩
 | sl i =>
   unfold retR at q ⊢
   dsimp only at q ⊢
   cases e : env[i]? with
   | none => rw [e] at q; exact q.elim
   | some x => cases x with
     | none => rw [e] at q; exact q.elim
     | some p => rw [e] at q; exact ⟨q.1, h _ q.2⟩
section
variable {K : PySem.W.Frag} {σ σ' : L2.St} {H H1 H' : Hp} {env e1 e2 : En} {f f1 f2 : FA} {G g : List Addr}
theorem qa8.after {P : L2.St → Hp → Prop} {σ1 : L2.St} (S : Stp H env f [] H1 e1 f1 []) (k : Kq σ env f σ1 e1 f1) {e : En} (q : qa8 K σ H env f P e) : qa8 K σ1 H1 e1 f1 P e := fun σ' H' f' A' S' K' => q σ' H' f' A' (S.trans S') (k.trans K')
theorem JP.after {P : VK} {σ1 : L2.St} (S : Stp H env f [] H1 e1 f1 []) (k : Kq σ env f σ1 e1 f1) {d : D} {e : En} (q : JP K σ H env f P d e) : JP K σ1 H1 e1 f1 P d e := fun v σ' H' f' g A' R' n S' K' => q v σ' H' f' g A' R' n (S.trans S') (k.trans K')
theorem Zi {t : XS} {D : Ends} {σ1 : L2.St} (m : qba t) (S : Stp H env f [] H1 e1 f1 []) (k : Kq σ env f σ1 e1 f1) (A1 : Abs K σ1 H1 e1 f1) (q : t e1 (qa8 K σ H env f D.nx) (JP K σ H env f D.rt)) : qch K t D σ1 H1 :=
 ⟨e1, f1, A1, m _ _ _ _ _ (fun e q => q.after S k) (fun d e q => q.after S k) q⟩
theorem qeT {r : R} {v : V} {k : D → Prop} (A : Abs K σ H env f) (h : ResOk K σ H env f r v g) (q : retR r env k) : ∃ d g', Rep K H 0 d v g' ∧ k d ∧ (∀ b ∈ g', b ∈ g ∨ W env f b) ∧ ∀ b ∈ g', ∀ i d m, env[i]? = some (some (d, m)) → (m = .io ∨ m = .lk) → b ∉ f i := by
 unfold retR at q
 split at q
 ·cases h with
  | tmp r n => exact ⟨_, g, r, q, fun b hb => .inl hb, fun b hb i d m e em z => (n b hb).1 ⟨i, d, m, e, by rcases em with em | em <;> subst em <;> rfl, z⟩⟩
 ·obtain ⟨rfl, im, q⟩ := q
  cases h with
  | ro r n =>
    obtain ⟨_, r0⟩ := r.imm (Nat.le_refl _) im
    exact ⟨_, [], r0, q, fun b hb => by simp at hb, fun b hb => by simp at hb⟩
 ·cases h with
  | sl h1 h2 h3 =>
    obtain ⟨w, h4, rp⟩ := A.rep _ _ _ h2
    rw [h1] at h4; cases h4
    rw [h3] at rp
    simp only [h2] at q
    obtain ⟨q1, q⟩ := q
    split at q1
    ·refine ⟨_, _, rp, q, fun b hb => .inr ⟨_, _, _, h2, rfl, hb⟩, fun b hb i d m e em z => ?_⟩
     refine A.dis _ _ _ _ _ _ (fun y => ?_) h2 e rfl b hb z
     subst y
     rw [h2] at e; cases e
     rcases em with em | em <;> cases em
    ·obtain ⟨_, r0⟩ := rp.imm (Nat.zero_le _) q1
     exact ⟨_, [], r0, q, fun b hb => by simp at hb, fun b hb => by simp at hb⟩
end
section
variable {X : Cx} {st : Stmt} {rest : List Stmt} {t u : XS} {e : Expr} {te : XE} {pos : Pos}
theorem jj : DSs X [] sNil := ⟨PSs.imp pss_nil fun D σ H ⟨env, f, A, q⟩ => q σ H f A .refl .refl, fun env nx nx' rt rt' h _ q => h _ q⟩
theorem qG (h1 : DS X st t) (h2 : DSs X rest u) : DSs X (st :: rest) (sSeq t u) := by
 refine ⟨PSs.imp (pss_cons h1.run h2.run) fun D σ H q => ?_, fun env nx nx' rt rt' h h' q => h1.mono _ _ _ _ _ (fun e q => h2.mono _ _ _ _ _ h h' q) h' q⟩
 obtain ⟨env, f, A, q⟩ := q
 refine ⟨env, f, A, h1.mono _ _ _ _ _ (fun e q => ?_) (fun d e q => q) q⟩
 intro σ1 H1 f1 A1 S1 K1
 exact Zi h2.mono S1 K1 A1 q
theorem qM (h1 : DS X st t) : DSs X [st] t := ⟨PSs.imp (pss_one h1.run) fun D σ H q => q, h1.mono⟩
theorem jt (he : DE X e te) (hs : swapsWith e none pos.line X.env = pure false := by rfl) : DS X (.Expr e pos) (Qa te) := by
 refine ⟨PS.imp (ps_expr he.run hs) fun D σ H q => ?_, fun env nx nx' rt rt' h _ q => he.mono _ _ _ (fun r e q => h _ q) q⟩
 obtain ⟨env, f, A, q⟩ := q
 refine ⟨env, f, A, he.mono _ _ _ (fun r e1 q => ?_) q⟩
 intro v H1 f1 g A1 R1 S1 K1
 exact q σ H1 f1 A1 (S1.drop (fun _ z => by simp at z)) K1.kq
theorem wA (he : DE X e te) : DS X (.Return (some e) pos) (sRet te) := by
 refine ⟨PS.imp (ps_ret he.run) fun D σ H q => ?_, fun env nx nx' rt rt' h h' q => he.mono _ _ _ (fun r e q => qbO (fun d q => h' _ _ q) q) q⟩
 obtain ⟨env, f, A, q⟩ := q
 refine ⟨env, f, A, he.mono _ _ _ (fun r e1 q => ?_) q⟩
 intro v H1 f1 g A1 R1 S1 K1
 obtain ⟨d, g', rp, q, h1, h2⟩ := qeT A1 R1 q
 refine q v σ H1 f1 g' A1 rp h2 ⟨S1.same, fun b qq => ?_⟩ K1.kq
 rcases qq with qq | qq
 ·exact S1.own b (.inl qq)
 ·rcases h1 b qq with z | z
  ·exact S1.own b (.inr z)
  ·exact S1.own b (.inl z)
theorem vm {c : Expr} {a b : List Stmt} {tc : XT} (hc : DT X c tc) (ha : DSs X a t) (hb : DSs X b u) : DS X (.If c a b pos) (sIf tc t u) := by
 refine ⟨PS.imp (ps_if hc.run ha.run hb.run) fun D σ H q => ?_, fun env nx nx' rt rt' h h' q => hc.mono _ _ _ (fun b e q => ⟨fun z => ha.mono _ _ _ _ _ h h' (q.1 z), fun z => hb.mono _ _ _ _ _ h h' (q.2 z)⟩) q⟩
 obtain ⟨env, f, A, q⟩ := q
 refine ⟨env, f, A, hc.mono _ _ _ (fun b e1 q => ?_) q⟩
 intro H1 f1 A1 S1 K1
 cases b with
 | true => rw [if_pos rfl]; exact Zi ha.mono S1 K1.kq A1 (q.1 rfl)
 | false => rw [if_neg Bool.false_ne_true]; exact Zi hb.mono S1 K1.kq A1 (q.2 rfl)
end
inductive SrcOk (K : PySem.W.Frag) (σ : L2.St) (H : Hp) (env : En) (f : FA) : R → V → List Addr → Prop
 | tmp {d : D} {v : V} {g : List Addr} : Rep K H 0 d v g → (∀ b ∈ g, ¬ L0 env f b ∧ ¬ Ro env f b) → SrcOk K σ H env f (.tmp d) v g
 | ro {c : Bool} {d : D} {v : V} {g : List Addr} : Rep K H (clv c) d v g → (∀ b ∈ g, ¬ L0 env f b) → SrcOk K σ H env f (.ro c d) v []
 | sl {i : Nat} {v : V} {d : D} {m : Md} : σ[i]? = some (some v) → env[i]? = some (some (d, m)) → m.lv = 0 → SrcOk K σ H env f (.sl i) v []
theorem ResOk.src {K : PySem.W.Frag} {σ : L2.St} {H : Hp} {env : En} {f : FA} {r : R} {v : V} {g : List Addr} (A : Abs K σ H env f) (h : ResOk K σ H env f r v g) : SrcOk K σ H env f r v g := by
 cases h with
 | tmp r n => exact .tmp r n
 | ro r n => exact .ro r fun b hb z => A.apart z (n b hb)
 | sl a b c => exact .sl a b c
def setOk (env : En) (i : Nat) : Bool := match env[i]? with
 | some (some (_, .io)) => false
 | some (some (_, .lk)) => false
 | some _ => true
 | none => false
def roMd : Bool → Md
 | false => .ro
 | true => .cst
def gN (i : Nat) : XG := fun r env k => setOk env i = true ∧ match r with
 | .tmp d => k (env.set i (some (d, .own)))
 | .ro c d => k (env.set i (some (d, roMd c)))
 | .sl j => match env[j]? with
   | some (some (d, _)) => d.imm = true ∧ k (env.set i (some (d, .own)))
   | _ => False
def Vk (t : XG) : Prop := ∀ r env k k', (∀ e, k e → k' e) → t r env k → t r env k'
def qhK (t : XGs) : Prop := ∀ kd ds env k k', (∀ e, k e → k' e) → t kd ds env k → t kd ds env k'
def R.isRo : R → Bool
 | .ro _ _ => true
 | _ => false
def Same (ts : List Nat) (σ : L2.St) (env : En) (f : FA) (σ' : L2.St) (env' : En) (f' : FA) : Prop := σ'.length = σ.length ∧ env'.length = env.length ∧ ∀ j, j ∉ ts → σ'[j]? = σ[j]? ∧ env'[j]? = env[j]? ∧ f' j = f j
def qfX (K : PySem.W.Frag) (σ : L2.St) (H : Hp) (env : En) (f : FA) (g : List Addr) (rk : Bool) (ts : List Nat) (P : L2.St → Hp → Prop) : En → Prop := fun env' => ∀ σ' f', Abs K σ' H env' f' → Stp H env f g H env' f' [] → Kq σ env f σ' env' f' →
 (∀ b, L0 env' f' b → L0 env f b ∨ b ∈ g) → (rk = false → ∀ b, Ro env' f' b → Ro env f b) → Same ts σ env f σ' env' f' → P σ' H
def qfm (K : PySem.W.Frag) (ts : List Nat) (t : XG) : TG := fun v σ H Q => ∃ env f r g, Abs K σ H env f ∧ SrcOk K σ H env f r v g ∧ t r env (qfX K σ H env f g r.isRo ts Q)
inductive KOk (K : PySem.W.Frag) (H : Hp) (env : En) (f : FA) : Option Bool → List D → List V → List Addr → Prop
 | tmp {ds : List D} {vs : List V} {g : List Addr} : Reps K H 0 ds vs g → (∀ b ∈ g, ¬ L0 env f b ∧ ¬ Ro env f b) → KOk K H env f none ds vs g
 | ro {c : Bool} {ds : List D} {vs : List V} {g : List Addr} : Reps K H (clv c) ds vs g → (∀ b ∈ g, ¬ L0 env f b) → KOk K H env f (some c) ds vs []
def mkI (kd : Option Bool) (d : D) : R := match kd with
 | none => .tmp d
 | some c => mkRo c d
def qen (K : PySem.W.Frag) (ts : List Nat) (t : XGs) : TGs := fun vs σ H Q => ∃ env f kd ds g, Abs K σ H env f ∧ KOk K H env f kd ds vs g ∧ t kd ds env (qfX K σ H env f g kd.isSome ts Q)
structure DG (X : Cx) (e : Expr) (ts : List Nat) (t : XG) : Prop where
 run : PG X e (qfm X.K ts t)
 mono : Vk t
structure DGs (X : Cx) (e : List Expr) (ts : List Nat) (t : XGs) : Prop where
 run : PGs X e (qen X.K ts t)
 mono : qhK t
theorem PG.imp {X : Cx} {e : Expr} {t u : TG} (h : PG X e t) (k : ∀ v σ H Q, u v σ H Q → t v σ H Q) : PG X e u := ⟨fun pins s σ H v w Q I r q => h.run pins s σ H v w Q I r (k _ _ _ _ q)⟩
theorem PGs.imp {X : Cx} {e : List Expr} {t u : TGs} (h : PGs X e t) (k : ∀ v σ H Q, u v σ H Q → t v σ H Q) : PGs X e u := ⟨fun pins s σ H v w Q I r q => h.run pins s σ H v w Q I r (k _ _ _ _ q)⟩
def Qc : XGs := fun _ ds env k => match ds with
 | [] => k env
 | _ => False
def za (g : XG) (gs : XGs) : XGs := fun kd ds env k => match ds with
 | d :: ds => g (mkI kd d) env fun e => gs kd ds e k
 | [] => False
def kdOf (r : R) (xs : List D) (k : Option Bool → Prop) : Prop := match r with
 | .tmp _ => k none
 | .ro c _ => k (some c)
 | .sl _ => immL xs = true ∧ k none
def gT (n : Nat) (gs : XGs) : XG := fun r env k => rd 2 r env fun d => match d with
 | .tup xs => xs.length = n ∧ kdOf r xs fun kd => gs kd xs env k
 | _ => False
section
variable {K : PySem.W.Frag} {σ : L2.St} {H : Hp} {env : En} {f : FA} {g : List Addr} {i : Nat} {r : R} {v : V} {d : D}
theorem qdq (h : setOk env i = true) : i < env.length := by
 unfold setOk at h
 cases e : env[i]? with
 | none => rw [e] at h; cases h
 | some x => exact (List.getElem?_eq_some_iff.mp e).1
theorem Vv (h : setOk env i = true) {m : Md} (e : env[i]? = some (some (d, m))) : m ≠ .io ∧ m ≠ .lk := by
 unfold setOk at h
 rw [e] at h
 cases m <;> first | (cases h; done) | exact ⟨(fun z => nomatch z), (fun z => nomatch z)⟩
theorem Abs.put (A : Abs K σ H env f) (so : setOk env i = true) {m : Md} (rp : Rep K H m.lv d v g) (hm : m ≠ .io ∧ m ≠ .lk) (h0 : m.lv = 0 → ∀ b ∈ g, ¬ L0 env f b ∧ ¬ Ro env f b) (h1 : ∀ b ∈ g, ¬ L0 env f b) {G : List Addr} (hG : m.lv = 0 → ∀ b ∈ g, b ∈ G) :
 Abs K (σ.set i (some v)) H (env.set i (some (d, m))) (fset f i g) ∧ Stp H env f G H (env.set i (some (d, m))) (fset f i g) [] ∧ Kq σ env f (σ.set i (some v)) (env.set i (some (d, m))) (fset f i g) ∧
  (∀ b, L0 (env.set i (some (d, m))) (fset f i g) b → L0 env f b ∨ b ∈ G) ∧ (m.lv = 0 → ∀ b, Ro (env.set i (some (d, m))) (fset f i g) b → Ro env f b) ∧ Same [i] σ env f (σ.set i (some v)) (env.set i (some (d, m))) (fset f i g) := by
 have hi := qdq so
 have hσ : i < σ.length := by rw [← A.len]; exact hi
 have ati : ∀ {d1 : D} {m1 : Md}, (env.set i (some (d, m)))[i]? = some (some (d1, m1)) → d1 = d ∧ m1 = m := fun {d1 m1} h => by
  rw [wL hi] at h; cases h; exact ⟨rfl, rfl⟩
 have get : ∀ {j : Nat} {d1 : D} {m1 : Md}, j ≠ i → (env.set i (some (d, m)))[j]? = some (some (d1, m1)) → env[j]? = some (some (d1, m1)) := fun {j d1 m1} hj h => by rwa [qL hj] at h
 refine ⟨⟨fun j d1 m1 h => ?_, fun j k d1 m1 d2 m2 hjk e1 e2 hl b hb z => ?_, by rw [List.length_set, List.length_set]; exact A.len⟩, ⟨fun b o h _ => h, fun b q => ?_⟩, ⟨fun j d1 h => ?_, fun j d1 h => ?_, fun j d1 h => ?_⟩, fun b q => ?_, fun hl b q => ?_, by rw [List.length_set], by rw [List.length_set], fun j hj => ?_⟩
 ·by_cases hj : j = i
  ·subst hj
   obtain ⟨rfl, rfl⟩ := ati h
   exact ⟨v, List.getElem?_set_self hσ, by rw [qN]; exact rp⟩
  ·obtain ⟨w, h2, h3⟩ := A.rep j d1 m1 (get hj h)
   exact ⟨w, by rw [List.getElem?_set_ne (Ne.symm hj)]; exact h2, by rw [qH hj]; exact h3⟩
 ·by_cases hj : j = i
  ·subst hj
   obtain ⟨rfl, rfl⟩ := ati e1
   rw [qN] at hb
   rw [qH (Ne.symm hjk)] at z
   have e3 := get (Ne.symm hjk) e2
   by_cases hl2 : m2.lv = 0
   ·exact (h0 hl b hb).1 ⟨k, d2, m2, e3, hl2, z⟩
   ·exact (h0 hl b hb).2 ⟨k, d2, m2, e3, hl2, z⟩
  ·rw [qH hj] at hb
   have e3 := get hj e1
   by_cases hk : k = i
   ·subst hk
    rw [qN] at z
    exact h1 b z ⟨j, d1, m1, e3, hl, hb⟩
   ·rw [qH hk] at z
    exact A.dis j k d1 m1 d2 m2 hjk e3 (get hk e2) hl b hb z
 ·rcases q with ⟨j, d1, m1, h, hr, hb⟩ | q
  ·by_cases hj : j = i
   ·subst hj
    obtain ⟨rfl, rfl⟩ := ati h
    rw [qN] at hb
    exact .inr (.inl (hG (Md.lv_of hr) b hb))
   ·rw [qH hj] at hb
    exact .inl ⟨j, d1, m1, get hj h, hr, hb⟩
  ·simp at q
 ·have hj : j ≠ i := fun z => by subst z; exact (Vv so h).1 rfl
  exact ⟨List.getElem?_set_ne (Ne.symm hj), d1, by rw [qL hj]; exact h⟩
 ·have hj : j ≠ i := fun z => by subst z; exact (Vv so h).2 rfl
  exact ⟨List.getElem?_set_ne (Ne.symm hj), by rw [qL hj]; exact h, qH hj⟩
 ·by_cases hj : j = i
  ·subst hj
   obtain ⟨_, z⟩ := ati h
   exact absurd z.symm hm.2
  ·exact get hj h
 ·obtain ⟨j, d1, m1, h, hr, hb⟩ := q
  by_cases hj : j = i
  ·subst hj
   obtain ⟨rfl, rfl⟩ := ati h
   rw [qN] at hb
   exact .inr (hG hr b hb)
  ·rw [qH hj] at hb
   exact .inl ⟨j, d1, m1, get hj h, hr, hb⟩
 ·obtain ⟨j, d1, m1, h, hr, hb⟩ := q
  by_cases hj : j = i
  ·subst hj
   obtain ⟨rfl, rfl⟩ := ati h
   exact absurd hl hr
  ·rw [qH hj] at hb
   exact ⟨j, d1, m1, get hj h, hr, hb⟩
 ·have hj' : j ≠ i := fun z => hj (by rw [z]; exact List.mem_cons_self ..)
  exact ⟨List.getElem?_set_ne (Ne.symm hj'), qL hj', qH hj'⟩
theorem qfx {k : En → Prop} (A : Abs K σ H env f) (h : SrcOk K σ H env f r v g) (q : gN i r env k) : ∃ env' f', k env' ∧ Abs K (σ.set i (some v)) H env' f' ∧ Stp H env f g H env' f' [] ∧ Kq σ env f (σ.set i (some v)) env' f' ∧
 (∀ b, L0 env' f' b → L0 env f b ∨ b ∈ g) ∧ (r.isRo = false → ∀ b, Ro env' f' b → Ro env f b) ∧ Same [i] σ env f (σ.set i (some v)) env' f' := by
 obtain ⟨so, q⟩ := q
 cases h with
 | tmp rp n =>
   obtain ⟨a, b, c, d, e, z⟩ := A.put (m := .own) (G := g) so rp ⟨(fun z => nomatch z), (fun z => nomatch z)⟩ (fun _ => n) (fun b hb => (n b hb).1) fun _ b hb => hb
   exact ⟨_, _, q, a, b, c, d, fun _ => e rfl, z⟩
 | @ro c _ _ _ rp n =>
   obtain ⟨a, b, c, d, e, z⟩ := A.put (m := roMd c) (G := []) so (by cases c <;> exact rp) (by cases c <;> exact ⟨(fun z => nomatch z), (fun z => nomatch z)⟩) (fun z => by cases c <;> cases z) n (fun z => by cases c <;> cases z)
   exact ⟨_, _, q, a, b, c, d, (fun z => nomatch z), z⟩
 | sl h1 h2 h3 =>
   simp only [h2] at q
   obtain ⟨w, h4, rp⟩ := A.rep _ _ _ h2
   rw [h1] at h4; cases h4
   obtain ⟨_, r0⟩ := rp.imm (by rw [h3]; exact Nat.zero_le _) q.1
   obtain ⟨a, b, c, d, e, z⟩ := A.put (m := .own) (G := []) so r0 ⟨(fun z => nomatch z), (fun z => nomatch z)⟩ (fun _ b hb => by simp at hb) (fun b hb => by simp at hb) fun _ b hb => hb
   exact ⟨_, _, q.2, a, b, c, d, fun _ => e rfl, z⟩
end
section
variable {X : Cx} {pos : Pos}
theorem qJ {i : Nat} {x : Str} (hN : X.N.Nodup) (hi : X.N[i]? = some x := by rfl) (hx : Loc X.env.scope x := by first | exact .inl rfl | exact .inr rfl) (hf : X.fn x = true ∨ X.env.scope.names.lookup x = some .local := by first | exact .inl rfl | exact .inr rfl | assumption) : DG X (.Name x pos) [i] (gN i) := by
 refine ⟨PG.imp (pg_name hN hi hx hf) fun v σ H Q q => ?_, fun r env k k' h q => ?_⟩
 ·obtain ⟨env, f, r, g, A, R1, q⟩ := q
  obtain ⟨env', f', q, A', S', K', L', O', M'⟩ := qfx A R1 q
  exact q _ f' A' S' K' L' O' M'
 ·obtain ⟨so, q⟩ := q
  refine ⟨so, ?_⟩
  cases r with
  | tmp d => exact h _ q
  | ro c d => exact h _ q
  | sl j =>
    dsimp only at q ⊢
    cases e : env[j]? with
    | none => rw [e] at q; exact q.elim
    | some x => cases x with
      | none => rw [e] at q; exact q.elim
      | some p => rw [e] at q; exact ⟨q.1, h _ q.2⟩
end
end BX
namespace BX
open PySem PySem.Spec PyProof.Rows L2
section
variable {K : PySem.W.Frag} {σ σ' : L2.St} {H : Hp} {env e1 : En} {f f1 : FA} {g g1 g2 : List Addr}
theorem qeM {kd : Option Bool} {d : D} {v : V} {ds : List D} {vs : List V} (h : KOk K H env f kd (d :: ds) (v :: vs) g) : ∃ g1 g2, SrcOk K σ H env f (mkI kd d) v g1 ∧ KOk K H env f kd ds vs g2 ∧ (∀ b ∈ g1, b ∈ g) ∧ (∀ b ∈ g2, b ∈ g ∧ b ∉ g1) ∧ (kd.isSome = false → (mkI kd d).isRo = false) := by
 cases h with
 | tmp r n => cases r with
   | cons r t nd => exact ⟨_, _, .tmp r fun b hb => n b (List.mem_append_left _ hb), .tmp t fun b hb => n b (List.mem_append_right _ hb), fun b hb => List.mem_append_left _ hb, fun b hb => ⟨List.mem_append_right _ hb, fun z => nd rfl b z hb⟩, fun _ => rfl⟩
 | @ro c _ _ g0 r n => cases r with
   | @cons _ _ gf _ _ gg r t nd =>
     have n1 : ∀ b ∈ gf, ¬ L0 env f b := fun b hb => n b (List.mem_append_left _ hb)
     have k2 : KOk K H env f (some c) ds vs [] := KOk.ro t fun b hb => n b (List.mem_append_right _ hb)
     have s : SrcOk K σ H env f (mkRo c d) v [] := by
      cases d with
      | int i => exact .tmp r.int0 qm
      | bl i => exact .tmp r.bl0 qm
      | str i => exact .tmp r.str0 qm
      | non => exact .tmp r.non0 qm
      | _ => exact .ro r n1
     exact ⟨[], [], s, k2, fun b hb => hb, fun b hb => by simp at hb, (fun z => nomatch z)⟩
theorem KOk.wait {kd : Option Bool} {ds : List D} {vs : List V} {G : List Addr} (h : KOk K H env f kd ds vs g2) (A1 : Abs K σ' H e1 f1) (L : ∀ b, L0 e1 f1 b → L0 env f b ∨ b ∈ G) (nG : ∀ b ∈ g2, b ∉ G) (hG : kd.isSome = true → ∀ b ∈ G, False) (O : kd.isSome = false → ∀ b, Ro e1 f1 b → Ro env f b) : KOk K H e1 f1 kd ds vs g2 := by
 cases h with
 | tmp r n => exact .tmp r fun b hb => ⟨fun z => (L b z).elim (n b hb).1 (nG b hb), fun z => (n b hb).2 (O rfl b z)⟩
 | ro r n => exact .ro r fun b hb z => (L b z).elim (n b hb) (hG rfl b)
theorem KOk.ro_nil {kd : Option Bool} {ds : List D} {vs : List V} (h : KOk K H env f kd ds vs g) (e : kd.isSome = true) : g = [] := by
 cases h with
 | tmp r n => cases e
 | ro r n => rfl
end
section
variable {X : Cx} {pos : Pos}
theorem jR : DGs X [] [] Qc := by
 refine ⟨PGs.imp pgs_nil fun vs σ H Q q => ?_, fun kd ds env k k' h q => ?_⟩
 ·obtain ⟨env, f, kd, ds, g, A, k, q⟩ := q
  cases ds with
  | cons _ _ => exact q.elim
  | nil =>
    cases k with
    | tmp r n => cases r; exact ⟨rfl, q σ f A .refl .refl (fun b z => .inl z) (fun _ b z => z) ⟨rfl, rfl, fun _ _ => ⟨rfl, rfl, rfl⟩⟩⟩
    | ro r n => cases r; exact ⟨rfl, q σ f A .refl .refl (fun b z => .inl z) (fun _ b z => z) ⟨rfl, rfl, fun _ _ => ⟨rfl, rfl, rfl⟩⟩⟩
 ·cases ds with
  | cons _ _ => exact q.elim
  | nil => exact h _ q
theorem qX {e : Expr} {es : List Expr} {t : XG} {u : XGs} {ts us : List Nat} (h1 : DG X e ts t) (h2 : DGs X es us u) (hs : (assignEach (e :: es) X.env).map (·.2) = assign e X.env :: (assignEach es X.env).map (·.2) := by rfl) : DGs X (e :: es) (ts ++ us) (za t u) := by
 refine ⟨PGs.imp (pgs_cons h1.run h2.run hs) fun vs σ H Q q => ?_, fun kd ds env k k' h q => ?_⟩
 ·obtain ⟨env, f, kd, ds, g, A, k, q⟩ := q
  cases ds with
  | nil => exact q.elim
  | cons d ds =>
    have hv : ∃ v vr, vs = v :: vr := by
     cases k with
     | tmp r n => cases r; exact ⟨_, _, rfl⟩
     | ro r n => cases r; exact ⟨_, _, rfl⟩
    obtain ⟨v, vr, rfl⟩ := hv
    obtain ⟨g1, g2, s1, k2, i1, i2, hr⟩ := qeM (σ := σ) k
    refine ⟨v, vr, rfl, env, f, _, g1, A, s1, h1.mono _ _ _ _ (fun e1 q => ?_) q⟩
    intro σ1 f1 A1 S1 K1 L1 O1 M1
    refine ⟨e1, f1, kd, ds, g2, A1, k2.wait A1 L1 (fun b hb z => (i2 b hb).2 z) (fun e b hb => by
     have := i1 b hb
     rw [k.ro_nil e] at this
     simp at this) (fun e => O1 (hr e)), h2.mono _ _ _ _ _ (fun e2 q => ?_) q⟩
    intro σ2 f2 A2 S2 K2 L2' O2 M2
    refine q σ2 f2 A2 ?_ (K1.trans K2) (fun b z => ?_) (fun e b z => O1 (hr e) b (O2 e b z)) ⟨M2.1.trans M1.1, M2.2.1.trans M1.2.1, fun j hj => ?_⟩
    ·refine ⟨fun b o h _ => h, fun b z => ?_⟩
     rcases S2.own b z with z | z | z
     ·rcases S1.own b (.inl z) with z | z | z
      ·exact .inl z
      ·exact .inr (.inl (i1 b z))
      ·exact .inr (.inr z)
     ·exact .inr (.inl (i2 b z).1)
     ·exact .inr (.inr z)
    ·rcases L2' b z with z | z
     ·exact (L1 b z).imp_right (i1 b)
     ·exact .inr (i2 b z).1
    ·obtain ⟨a1, a2, a3⟩ := M1.2.2 j fun z => hj (List.mem_append_left _ z)
     obtain ⟨b1, b2, b3⟩ := M2.2.2 j fun z => hj (List.mem_append_right _ z)
     exact ⟨b1.trans a1, b2.trans a2, b3.trans a3⟩
 ·cases ds with
  | nil => exact q.elim
  | cons d ds => exact h1.mono _ _ _ _ (fun e q => h2.mono _ _ _ _ _ h q) q
theorem vJ {es : List Expr} {k : Nat} {t : XGs} {n : Nat} {ts : List Nat} (hx : Ok X) (h : DGs X es ts t) (hn : (assignEach es X.env).length = n := by rfl) (hst : (assignEach es X.env).findIdx? (·.1) = none := by rfl) : DG X (.Tuple es k pos) ts (gT n t) := by
 refine ⟨PG.imp (pg_tup hx.calm h.run hn hst) fun v σ H Q q => ?_, fun r env k k' w q => ?_⟩
 ·obtain ⟨env, f, r, g, A, s, q⟩ := q
  have go : ∀ {lv : Nat} {xs : List D} {gg : List Addr}, Rep X.K H lv (.tup xs) v gg → xs.length = n → (∀ vs, Reps X.K H lv xs vs gg → ∃ kd g', KOk X.K H env f kd xs vs g' ∧ (∀ b ∈ g', b ∈ g) ∧ (r.isRo = false → kd.isSome = false) ∧ t kd xs env (qfX X.K σ H env f g r.isRo ts Q)) →
   ∃ a xs, v = .ref a ∧ SqT X.K H a xs ∧ xs.length = n ∧ qen X.K ts t xs σ H Q := fun {lv xs gg} rp hl k => by
   obtain ⟨a, vs, rfl, ha, rr⟩ := rp.tupleSq
   obtain ⟨kd, g', kk, hg', hro, q⟩ := k vs rr
   refine ⟨a, vs, rfl, ha, by rw [← rr.len]; exact hl, env, f, kd, xs, g', A, kk, h.mono _ _ _ _ _ (fun e1 q => ?_) q⟩
   intro σ1 f1 A1 S1 K1 L1 O1 M1
   exact q σ1 f1 A1 (S1.more hg') K1 (fun b z => (L1 b z).imp_right (hg' b)) (fun e => O1 (hro e)) M1
  unfold gT rd at q
  cases s with
  | @tmp d _ _ rp nn =>
    simp only [R.data] at q
    cases d with
    | tup xs => exact go rp q.1 fun vs rr => ⟨none, g, .tmp rr nn, fun b hb => hb, fun _ => rfl, q.2⟩
    | _ => exact q.elim
  | @ro c d _ g0 rp nn =>
    unfold R.data at q
    cases e : roOk c 2 with
    | false => simp only [e] at q
    | true =>
      simp only [e] at q
      cases d with
      | tup xs => exact go rp q.1 fun vs rr => ⟨some c, [], .ro rr nn, fun b hb => hb, (fun z => nomatch z), q.2⟩
      | _ => exact q.elim
  | @sl i _ d m h1 h2 h3 =>
    obtain ⟨w, h4, rp⟩ := A.rep _ _ _ h2
    rw [h1] at h4; cases h4
    unfold R.data at q
    simp only [h2] at q
    cases e : m.okL 2 with
    | false => simp only [e] at q
    | true =>
      simp only [e] at q
      cases d with
      | tup xs =>
        refine go rp q.1 fun vs rr => ?_
        obtain ⟨_, r0⟩ := rr.imm (by rw [h3]; exact Nat.zero_le _) q.2.1
        exact ⟨none, [], .tmp r0 qm, fun b hb => hb, fun _ => rfl, q.2.2⟩
      | _ => exact q.elim
 ·refine qO (fun d q => ?_) q
  cases d with
  | tup xs =>
    refine ⟨q.1, ?_⟩
    cases r with
    | tmp _ => exact h.mono _ _ _ _ _ w q.2
    | ro c _ => exact h.mono _ _ _ _ _ w q.2
    | sl _ => exact ⟨q.2.1, h.mono _ _ _ _ _ w q.2.2⟩
  | _ => exact q.elim
def sAsg (t : XE) (g : XG) : XS := fun env nx _ => t env fun r e => g r e nx
theorem Xv {K : PySem.W.Frag} {te : XE} {g : XG} {ts : List Nat} (m1 : xV te) (m2 : Vk g) {D : Ends} {σ : L2.St} {H : Hp} (q : qch K (sAsg te g) D σ H) : tAsg (jx K te) (qfm K ts g) D σ H := by
 obtain ⟨env, f, A, q⟩ := q
 refine ⟨env, f, A, m1 _ _ _ (fun r e1 q => ?_) q⟩
 intro v H1 f1 g1 A1 R1 S1 K1
 refine ⟨e1, f1, r, g1, A1, R1.src A1, m2 _ _ _ _ (fun e2 q => ?_) q⟩
 intro σ2 f2 A2 S2 K2 _ _ _
 exact q σ2 H1 f2 A2 (S1.trans S2) (K1.kq.trans K2)
theorem Zv {te : XE} {g : XG} (m1 : xV te) (m2 : Vk g) : qba (sAsg te g) := fun env nx nx' rt rt' h _ q => m1 _ _ _ (fun r e q => m2 _ _ _ _ h q) q
theorem ZM {tg e : Expr} {te : XE} {g : XG} {ts : List Nat} (he : DE X e te) (hg : DG X tg ts g) (hs : swapsWithSole [tg] e pos.line X.env = pure false := by rfl) (hw : swappedStores [tg] e X.env = pure none := by rfl)
 (h1 : (assignEach [tg] X.env).map (·.2) = [assign tg X.env] := by rfl) : DS X (.Assign [tg] e pos) (sAsg te g) :=
 ⟨PS.imp (ps_asg he.run hg.run hs hw h1) fun D σ H q => Xv he.mono hg.mono q, Zv he.mono hg.mono⟩
theorem yZ {i : Nat} {x : Str} {e : Expr} {te : XE} {pos' : Pos} (hN : X.N.Nodup) (he : DE X e te) (hi : X.N[i]? = some x := by rfl) (hx : Loc X.env.scope x := by first | exact .inl rfl | exact .inr rfl) (hs : swapsWith e (some (.Name x pos')) pos.line X.env = pure false := by rfl)
 (hf : X.fn x = true ∨ X.env.scope.names.lookup x = some .local := by first | exact .inl rfl | exact .inr rfl | assumption) : DS X (.Assign [.Name x pos'] e pos) (sAsg te (gN i)) := by
 have dg : DG X (.Name x pos') [i] (gN i) := qJ hN hi hx hf
 refine ⟨PS.imp (ps_set hN hi hx he.run hs hf) fun D σ H q => ?_, Zv he.mono dg.mono⟩
 have h := Xv (ts := [i]) he.mono dg.mono q
 obtain ⟨env, f, A, h⟩ := h
 refine ⟨env, f, A, he.mono _ _ _ (fun r e1 q => ?_) h⟩
 intro v H1 f1 g1 A1 R1 S1 K1
 obtain ⟨env2, f2, r2, g2, A2, R2, q2⟩ := q v H1 f1 g1 A1 R1 S1 K1
 obtain ⟨env', f', q, A', S', K', L', O', M'⟩ := qfx A2 R2 q2
 exact q _ f' A' S' K' L' O' M'
end
end BX
namespace BX
open PySem PySem.Spec PyProof.Rows L2
abbrev Lok := Option (Nat × Md)
abbrev XI := En → (List D → Option Bool → Lok → En → Prop) → Prop
def qfZ (t : XI) : Prop := ∀ env k k', (∀ ds kd lk e, k ds kd lk e → k' ds kd lk e) → t env k → t env k'
def Near (H0 : Hp) (P : List Addr) (H : Hp) : Prop := ∀ b o, H0 b = some o → (b ∈ P ∨ Mu o = false) → H b = some o
def Item (K : PySem.W.Frag) (H : Hp) (P : List Addr) (kd : Option Bool) (d : D) (x : V) : Prop := match kd with
 | none => Rep K H 0 d x []
 | some c => ∃ g, Rep K H (clv c) d x g ∧ ∀ b ∈ g, b ∈ P
structure Wk (K : PySem.W.Frag) (J : It) (ds : List D) (kd : Option Bool) (H0 : Hp) (P : List Addr) : Prop where
 go : ∀ i H, Near H0 P H → i < ds.length → J.go i H
 stop : ∀ i H, Near H0 P H → ds.length ≤ i → J.stop i H
 yld : ∀ (i : Nat) (H : Hp) (x : V) (H' : Hp) (d : D), Near H0 P H → ds[i]? = some d → J.yld i H x H' → (∀ b o, H b = some o → H' b = some o) ∧ Item K H' P kd d x
inductive Lk (env : En) : Lok → En → Prop
 | none : Lk env none env
 | some {i : Nat} {d : D} {m : Md} : env[i]? = some (some (d, m)) → m.lv = 0 → Lk env (some (i, m)) (env.set i (some (d, .lk)))
def qhJ (K : PySem.W.Frag) (σ : L2.St) (H : Hp) (env : En) (f : FA) (R : It → Hp → Prop) : List D → Option Bool → Lok → En → Prop := fun ds kd lk e1 =>
 ∀ J H1 f1 P env', Abs K σ H1 env' f1 → Stp H env f [] H1 env' f1 [] → Kp env f env' f1 → Lk env' lk e1 → Wk K J ds kd H1 P → (∀ b ∈ P, (∃ o, H1 b = some o) ∧ ¬ W e1 f1 b) → (kd.isSome = true → ∀ b ∈ P, ¬ L0 e1 f1 b) → R J H1
def qg6 (K : PySem.W.Frag) (t : XI) : TI := fun σ H R => ∃ env f, Abs K σ H env f ∧ t env (qhJ K σ H env f R)
structure DI (X : Cx) (tg it : Expr) (t : XI) : Prop where
 run : PI X tg it (qg6 X.K t)
 mono : qfZ t
theorem PI.imp {X : Cx} {tg it : Expr} {t u : TI} (h : PI X tg it t) (k : ∀ σ H R, u σ H R → t σ H R) : PI X tg it u := ⟨fun pins s σ H R I q => h.run pins s σ H R I (k _ _ _ q)⟩
def thaw (lk : Lok) (env : En) (k : En → Prop) : Prop := match lk with
 | none => k env
 | some (i, m) => match env[i]? with
   | some (some (d, .lk)) => k (env.set i (some (d, m)))
   | _ => False
theorem Ze {lk : Lok} {env : En} {k k' : En → Prop} (h : ∀ e, k e → k' e) (q : thaw lk env k) : thaw lk env k' := by
 unfold thaw at q ⊢
 split at q
 ·exact h _ q
 ·split at q
  ·simp only [*] <;> exact h _ q
  ·exact q.elim
def forL (g : XG) (tb : XS) (kd : Option Bool) : List D → XS
 | [], env, nx, _ => nx env
 | d :: ds, env, nx, rt => g (mkI kd d) env fun e1 => tb e1 (fun e2 => forL g tb kd ds e2 nx rt) rt
def sFor (it : XI) (g : XG) (tb : XS) : XS := fun env nx rt => it env fun ds kd lk e1 => forL g tb kd ds e1 (fun e2 => thaw lk e2 nx) (fun d e2 => thaw lk e2 fun e3 => rt d e3)
theorem Jl {g : XG} {tb : XS} {kd : Option Bool} (mg : Vk g) (mb : qba tb) : ∀ ds : List D, qba (forL g tb kd ds)
 | [], env, nx, nx', rt, rt', h, h', q => h _ q
 | d :: ds, env, nx, nx', rt, rt', h, h', q => mg _ _ _ _ (fun e1 q => mb _ _ _ _ _ (fun e2 q => Jl mg mb ds _ _ _ _ _ h h' q) h' q) q
section
variable {K : PySem.W.Frag} {σ σ' : L2.St} {H H1 H' : Hp} {env env' e1 e2 : En} {f f1 f2 : FA} {lk : Lok}
theorem Q6 {i : Nat} {d : D} {m m' : Md} (A : Abs K σ H env f) (e : env[i]? = some (some (d, m))) (h : m.lv = 0) (h' : m'.lv = 0) : Abs K σ H (env.set i (some (d, m'))) f := by
 have hi : i < env.length := (List.getElem?_eq_some_iff.mp e).1
 have get : ∀ {j : Nat} {d1 : D} {m1 : Md}, (env.set i (some (d, m')))[j]? = some (some (d1, m1)) → ∃ m2, env[j]? = some (some (d1, m2)) ∧ m2.lv = m1.lv := fun {j d1 m1} q => by
  by_cases hj : j = i
  ·subst hj
   rw [wL hi] at q; cases q
   exact ⟨m, e, h.trans h'.symm⟩
  ·rw [qL hj] at q
   exact ⟨m1, q, rfl⟩
 refine ⟨fun j d1 m1 q => ?_, fun j k d1 m1 d2 m2 hjk q1 q2 hl => ?_, by rw [List.length_set]; exact A.len⟩
 ·obtain ⟨m2, q', hm⟩ := get q
  rw [← hm]
  exact A.rep j d1 m2 q'
 ·obtain ⟨m3, q3, hm3⟩ := get q1
  obtain ⟨m4, q4, hm4⟩ := get q2
  exact A.dis j k d1 m3 d2 m4 hjk q3 q4 (hm3.trans hl)
theorem Lk.abs (h : Lk env lk e1) (A : Abs K σ H env f) : Abs K σ H e1 f := by
 cases h with
 | none => exact A
 | some e l => exact Q6 A e l rfl
theorem Lk.w (h : Lk env lk e1) {b : Addr} (w : W e1 f b) : W env f b := by
 cases h with
 | none => exact w
 | @some i d m e l =>
   obtain ⟨j, d1, m1, q, hr, hb⟩ := w
   have hi : i < env.length := (List.getElem?_eq_some_iff.mp e).1
   by_cases hj : j = i
   ·subst hj
    rw [wL hi] at q; cases q; cases hr
   ·rw [qL hj] at q
    exact ⟨j, d1, m1, q, hr, hb⟩
theorem Ui {k : En → Prop} (L : Lk env lk e1) (A : Abs K σ' H' e2 f2) (S : Stp H1 e1 f1 [] H' e2 f2 G) (Kk : Kq σ e1 f1 σ' e2 f2) (q : thaw lk e2 k) :
 ∃ e3, k e3 ∧ Abs K σ' H' e3 f2 ∧ Stp H1 env f1 [] H' e3 f2 G ∧ Kq σ env f1 σ' e3 f2 ∧ ∀ (i : Nat) (d : D) (m : Md), e3[i]? = some (some (d, m)) → (m = .io ∨ m = .lk) → ∃ m', e2[i]? = some (some (d, m')) ∧ (m' = .io ∨ m' = .lk) := by
 cases L with
 | none => exact ⟨e2, q, A, S, Kk, fun i d m e h => ⟨m, e, h⟩⟩
 | @some i d m e l =>
   have hi : i < env.length := (List.getElem?_eq_some_iff.mp e).1
   have he1 : (env.set i (some (d, Md.lk)))[i]? = some (some (d, Md.lk)) := wL hi
   obtain ⟨hσ, he2, hf⟩ := Kk.lk i d he1
   have hi2 : i < e2.length := (List.getElem?_eq_some_iff.mp he2).1
   simp only [thaw, he2] at q
   refine ⟨_, q, Q6 A he2 rfl l, ⟨fun b o h z => ?_, fun b z => ?_⟩, ⟨fun j d1 h => ?_, fun j d1 h => ?_, fun j d1 h => ?_⟩, fun j d1 m1 h hm => ?_⟩
   ·refine S.same b o h (z.imp_right fun z => ⟨fun w => z.1 ((Lk.some e l : Lk env (some (i, m)) _).w w), z.2⟩)
   ·have inj : (W e2 f2 b ∨ b ∈ G) → (W env f1 b ∨ b ∈ ([] : List Addr) ∨ H1 b = none) := fun z => (S.own b z).imp_left fun w => (Lk.some e l : Lk env (some (i, m)) _).w w
    rcases z with ⟨j, d1, m1, q1, hr, hb⟩ | z
    ·by_cases hj : j = i
     ·subst hj
      rw [wL hi2] at q1; cases q1
      rw [hf] at hb
      exact .inl ⟨j, d, m, e, hr, hb⟩
     ·rw [qL hj] at q1
      exact inj (.inl ⟨j, d1, m1, q1, hr, hb⟩)
    ·exact inj (.inr z)
   ·by_cases hj : j = i
    ·subst hj
     rw [e] at h; cases h
     exact ⟨hσ, d, wL hi2⟩
    ·obtain ⟨a, d', b⟩ := Kk.io j d1 (by rw [qL hj]; exact h)
     exact ⟨a, d', by rw [qL hj]; exact b⟩
   ·by_cases hj : j = i
    ·subst hj
     rw [e] at h; cases h
     exact ⟨hσ, wL hi2, hf⟩
    ·obtain ⟨a, b, c⟩ := Kk.lk j d1 (by rw [qL hj]; exact h)
     exact ⟨a, by rw [qL hj]; exact b, c⟩
   ·by_cases hj : j = i
    ·subst hj
     rw [wL hi2] at h; cases h
     exact e
    ·rw [qL hj] at h
     have := Kk.lkr j d1 h
     rwa [qL hj] at this
   ·by_cases hj : j = i
    ·subst hj
     rw [wL hi2] at h; cases h
     exact ⟨.lk, he2, .inr rfl⟩
    ·rw [qL hj] at h
     exact ⟨m1, h, hm⟩
theorem V9 {P : List Addr} {kd : Option Bool} {d : D} {x : V} (h : Item K H P kd d x) (n : kd.isSome = true → ∀ b ∈ P, ¬ L0 env f b) : SrcOk K σ H env f (mkI kd d) x [] := by
 cases kd with
 | none => exact .tmp h qm
 | some c =>
   obtain ⟨g, r, hg⟩ := h
   have n1 : ∀ b ∈ g, ¬ L0 env f b := fun b hb => n rfl b (hg b hb)
   show SrcOk K σ H env f (mkRo c d) x []
   cases d with
   | int i => exact .tmp r.int0 qm
   | bl i => exact .tmp r.bl0 qm
   | str i => exact .tmp r.str0 qm
   | non => exact .tmp r.non0 qm
   | _ => exact .ro r n1
end
section
variable {X : Cx} {tg it : Expr} {body : List Stmt} {ti : XI} {g : XG} {tb : XS} {pos : Pos} {ts : List Nat}
theorem vP (hx : Ok X) (hi : DI X tg it ti) (hg : DG X tg ts g) (hb : DSs X body tb) (hp : PassesOwn (model X.prog X.w) X.A X.env X.xe := by exact PassesOwn.never) (hs : ∀ x, foldedSetIterable it X.env x = pure x := by intro _; rfl) : DS X (.For tg it body [] pos) (sFor ti g tb) := by
 refine ⟨PS.imp (ps_for hp hx.calm hi.run hg.run hb.run hs) fun Dn σ H q => ?_, fun env nx nx' rt rt' h h' q => hi.mono _ _ _ (fun ds kd lk e q => Jl hg.mono hb.mono ds _ _ _ _ _ (fun e q => Ze (fun e q => h _ q) q) (fun d e q => Ze (fun e q => h' _ _ q) q) q) q⟩
 obtain ⟨env, f, A, q⟩ := q
 refine ⟨env, f, A, hi.mono _ _ _ (fun ds kd lk e1 q => ?_) q⟩
 intro J H1 f1 P env' A1 S1 K1 L Wa hP hPL
 have A1' := L.abs A1
 refine ⟨fun i m σ' H' => m = ds.length - i ∧ i ≤ ds.length ∧ ∃ e f', Abs X.K σ' H' e f' ∧ Stp H1 e1 f1 [] H' e f' [] ∧ Kq σ e1 f1 σ' e f' ∧
  forL g tb kd (ds.drop i) e (fun e2 => thaw lk e2 (qa8 X.K σ H env f Dn.nx)) (fun d e2 => thaw lk e2 fun e3 => JP X.K σ H env f Dn.rt d e3), ⟨ds.length, by simp, Nat.zero_le _, e1, f1, A1', .refl, .refl, q⟩, fun i m σ' H' w => ?_⟩
 obtain ⟨rfl, hi', e, f', A', S', K', q⟩ := w
 have near : Near H1 P H' := fun b o h z => S'.same b o h (by
  rcases z with z | z
  ·exact .inr ⟨(hP b z).2, by simp⟩
  ·exact .inl z)
 by_cases hlt : i < ds.length
 ·refine .inr ⟨Wa.go i H' near hlt, fun σ2 H2 => _, fun σ2 H2 n2 => ⟨ds.length - (i + 1), by omega, n2⟩, fun x H2 hy => ?_⟩
  obtain ⟨sm, itm⟩ := Wa.yld i H' x H2 ds[i] near (List.getElem?_eq_getElem hlt) hy
  rw [List.drop_eq_getElem_cons hlt] at q
  have nl : kd.isSome = true → ∀ b ∈ P, ¬ L0 e f' b := fun hk b hb z => by
   obtain ⟨j, d1, m1, h1, h2, h3⟩ := z
   cases hr : m1.rd with
   | false =>
     rcases S'.own b (.inl ⟨j, d1, m1, h1, hr, h3⟩) with z | z | z
     ·exact (hP b hb).2 z
     ·simp at z
     ·obtain ⟨o, ho⟩ := (hP b hb).1
      rw [z] at ho; cases ho
   | true =>
     have hm : m1 = .lk := by cases m1 <;> first | rfl | (cases hr; done) | (cases h2; done)
     subst hm
     have h4 := K'.lkr j d1 h1
     obtain ⟨_, _, h5⟩ := K'.lk j d1 h4
     rw [h5] at h3
     exact hPL hk b hb ⟨j, d1, .lk, h4, rfl, h3⟩
  refine ⟨e, f', mkI kd ds[i], [], A'.ext sm, V9 itm nl, hg.mono _ _ _ _ (fun e2 q2 => ?_) q⟩
  intro σ2 f2 A2 S2 K2 _ _ _
  have S3 : Stp H1 e1 f1 [] H2 e2 f2 [] := (S'.ext sm).trans S2
  have K3 := K'.trans K2
  refine ⟨e2, f2, A2, hb.mono _ _ _ _ _ (fun e3 q3 => ?_) (fun d e3 q3 => ?_) q2⟩
  ·intro σ3 H3 f3 A3 S4 K4
   exact ⟨rfl, hlt, e3, f3, A3, S3.trans S4, K3.trans K4, q3⟩
  ·intro v σ3 H3 f3 gg A3 rv nv S4 K4
   obtain ⟨e4, q4, A4, S5, K5, back⟩ := Ui L A3 (S3.trans S4) (K3.trans K4) q3
   exact q4 v σ3 H3 f3 gg A4 rv (fun b hb i d m h hm => by
    obtain ⟨m', h', hm'⟩ := back i d m h hm
    exact nv b hb i d m' h' hm') (S1.trans S5) (K1.kq.trans K5)
 ·have hie : i = ds.length := by omega
  subst hie
  rw [List.drop_length] at q
  obtain ⟨e3, q3, A3, S3, K3, _⟩ := Ui L A' S' K' q
  exact .inl ⟨Wa.stop _ _ near (Nat.le_refl _), q3 σ' H' f' A3 (S1.trans S3) (K1.kq.trans K3)⟩
end
def yo (r : R) (env : En) (k : Option Bool → Lok → En → Prop) (im : Bool) : Prop := match r with
 | .tmp _ => im = true ∧ k none none env
 | .ro c _ => k (some c) none env
 | .sl i => match env[i]? with
   | some (some (d, m)) => im = true ∧ k none (some (i, m)) (env.set i (some (d, .lk)))
   | _ => False
def iSeq (t : XE) : XI := fun env k => t env fun r e => rd 2 r e fun d => match d with
 | .lst xs => yo r e (fun kd lk e1 => k xs kd lk e1) (immL xs)
 | .lF xs => yo r e (fun kd lk e1 => k xs kd lk e1) (immL xs)
 | .tup xs => yo r e (fun kd lk e1 => k xs kd lk e1) (immL xs)
 | _ => False
def uW (t : XE) : XI := fun env k => t env fun r e => rd 2 r e fun d => match d with
 | .int j => -(2 ^ 62) ≤ j ∧ j < 2 ^ 62 ∧ k ((List.range j.toNat).map fun n => .int (n : Nat)) none none e
 | _ => False
def ZL (t u : XE) : XI := fun env k => t env fun r e => u e fun r2 e2 => rd 2 r e2 fun d => rd 2 r2 e2 fun d2 => match d, d2 with
 | .int i, .int j => (-(2 ^ 62) ≤ i ∧ i < 2 ^ 62 ∧ -(2 ^ 62) ≤ j ∧ j < 2 ^ 62) ∧ k ((List.range (j - i).toNat).map fun n => .int (i + (n : Nat))) none none e2
 | _, _ => False
theorem uV {r : R} {env : En} {k k' : Option Bool → Lok → En → Prop} {im : Bool} (h : ∀ kd lk e, k kd lk e → k' kd lk e) (q : yo r env k im) : yo r env k' im := by
 cases r with
 | tmp d => exact ⟨q.1, h _ _ _ q.2⟩
 | ro c d => exact h _ _ _ q
 | sl i =>
   unfold yo at q ⊢
   dsimp only at q ⊢
   cases e : env[i]? with
   | none => rw [e] at q; exact q.elim
   | some x => cases x with
     | none => rw [e] at q; exact q.elim
     | some p => rw [e] at q; exact ⟨q.1, h _ _ _ q.2⟩
section
variable {K : PySem.W.Frag} {H0 : Hp} {P : List Addr} {n : Nat}
theorem Vn {lo : Int} : Wk K (Itr lo n) ((List.range n).map fun k => .int (lo + (k : Nat))) none H0 [] where
 go := fun i H _ h => by show i < n; simpa using h
 stop := fun i H _ h => by show n ≤ i; simpa using h
 yld := fun i H x H' d _ h hy => by
  obtain ⟨rfl, rfl⟩ := hy
  refine ⟨fun b o h => h, ?_⟩
  rw [List.getElem?_map] at h
  cases e : (List.range n)[i]? with
  | none => rw [e] at h; cases h
  | some j =>
    rw [e] at h
    have hj : j = i := by
     obtain ⟨h1, h2⟩ := List.getElem?_eq_some_iff.mp e
     simpa using h2.symm
    subst hj
    cases h
    exact .int _
end
section
variable {X : Cx} {tg e e2 : Expr} {t u : XE} {p pos : Pos}
theorem uG (ha : DE X e t) (hm : X.mg "range" = none) (hg : Gl X "range" := by rfl) (hs : starEach [e] X.env = [(false, eval e X.env)] := by rfl) (hs' : starEach [e] X.env = (false, eval e X.env) :: starEach [] X.env := by rfl) : DI X tg (.Call (.Name "range" p) [e] [] pos) (uW t) := by
 refine ⟨PI.imp (pi_range1 hg hm (qb ha qp hs').run hs) fun σ H R q => ?_, fun env k k' h q => ha.mono _ _ _ (fun r e q => qO (fun d q => ?_) q) q⟩
 ·obtain ⟨env, f, A, q⟩ := q
  refine ⟨env, f, A, ha.mono _ _ _ (fun r1 e1 q => ?_) q⟩
  intro vs H1 f1 gs A1 R1 S1 K1
  cases R1 with
  | cons R1 Rt _ =>
    cases Rt
    obtain ⟨d, g', rp, q⟩ := yO A1 R1 q
    cases d with
    | int j =>
      obtain ⟨rfl, _⟩ := rp.intV
      refine ⟨j, rfl, q.1, q.2.1, q.2.2 _ H1 f1 [] e1 A1 (S1.drop fun _ z => by simp at z) K1 .none ?_ (fun b hb => by simp at hb) (fun _ b hb => by simp at hb)⟩
      have := Vn (K := X.K) (H0 := H1) (n := j.toNat) (lo := 0)
      simpa using this
    | _ => exact q.elim
 ·cases d with
  | int j => exact ⟨q.1, q.2.1, h _ _ _ _ q.2.2⟩
  | _ => exact q.elim
theorem Jr (ha : DE X e t) (hb : DE X e2 u) (hm : X.mg "range" = none) (hg : Gl X "range" := by rfl) (hs : starEach [e, e2] X.env = [(false, eval e X.env), (false, eval e2 X.env)] := by rfl) (hs2 : starEach [e2] X.env = [(false, eval e2 X.env)] := by rfl)
 (hs' : starEach [e, e2] X.env = (false, eval e X.env) :: starEach [e2] X.env := by rfl) (hs2' : starEach [e2] X.env = (false, eval e2 X.env) :: starEach [] X.env := by rfl) : DI X tg (.Call (.Name "range" p) [e, e2] [] pos) (ZL t u) := by
 refine ⟨PI.imp (pi_range2 hg hm (qb ha (qb hb qp hs2') hs').run hs hs2) fun σ H R q => ?_, fun env k k' h q => ha.mono _ _ _ (fun r e q => hb.mono _ _ _ (fun r2 e2 q => qO (fun d q => qO (fun d2 q => ?_) q) q) q) q⟩
 ·obtain ⟨env, f, A, q⟩ := q
  refine ⟨env, f, A, ha.mono _ _ _ (fun r1 e1 q => hb.mono _ _ _ (fun r2 e2 q => ?_) q) q⟩
  intro vs H1 f1 gs A1 R1 S1 K1
  cases R1 with
  | cons R1 Rt _ =>
    cases Rt with
    | cons R2 Rt _ =>
      cases Rt
      obtain ⟨d, g', rp, q⟩ := yO A1 R1 q
      obtain ⟨d2, g2', rp2, q⟩ := yO A1 R2 q
      split at q
      ·obtain ⟨rfl, _⟩ := rp.intV
       obtain ⟨rfl, _⟩ := rp2.intV
       exact ⟨_, _, rfl, q.1, q.2 _ H1 f1 [] e2 A1 (S1.drop fun _ z => by simp at z) K1 .none Vn (fun b hb => by simp at hb) (fun _ b hb => by simp at hb)⟩
      ·exact q.elim
 ·split at q
  ·exact ⟨q.1, h _ _ _ _ q.2⟩
  ·exact q.elim
end
section
variable {X : Cx} {tg e : Expr} {t : XE}
def qi3 (K : PySem.W.Frag) (tl : TE) : TI := fun σ H R => tl σ H fun x H1 => ∃ a xs, x = .ref a ∧ ((SqL K H1 a xs ∧ R (Itl K a) H1) ∨ (SqT K H1 a xs ∧ R (Itt K a) H1))
theorem qe1 {l : Expr} {tl : TE} (hl : PE X l tl) : PI X tg l (qi3 X.K tl) := by
 constructor
 intro pins s σ H R I h
 refine thn (hl.run pins s σ H _ I h) ?_
 rintro v s1 ⟨x, H1, I1, r1, a, xs, rfl, q⟩
 obtain rfl : v = Value.ref a := r1
 have fresh : ∀ b ∈ [s1.heap.objs.size], FpOk X pins H1 b := fun b hb => by
  rw [List.mem_singleton.mp hb]
  exact I1.fpOk (Nat.le_refl _) (I1.hok.fresh (Nat.le_refl _))
 have push : ∀ ob : Obj, Inv X pins σ H1 { s1 with heap := s1.heap.push ob } := fun ob => I1.kept (t' := s1.toks) fun b o z => Heap.get?_push_of_some _ z
 rcases q with ⟨hq, q⟩ | ⟨hq, q⟩
 ·obtain ⟨its, _, pl, _⟩ := I1.list hq
  exact wpAny_pyIter_list pl.isList ⟨_, [s1.heap.objs.size], _, _, H1, rfl, push _, turn_list a _, ⟨_, Heap.get?_push_size _ rfl, rfl, rfl⟩, fresh, q⟩
 ·obtain ⟨its, _, pl, _⟩ := I1.tuple hq
  exact wpAny_pyIter_tuple (show s1.heap.IsTuple a its.toArray from pl) ⟨_, [s1.heap.objs.size], _, _, H1, rfl, push _, turn_tuple a _, ⟨_, Heap.get?_push_size _ rfl, rfl, rfl⟩, fresh, q⟩
section
variable {K : PySem.W.Frag} {σ : L2.St} {H H1 : Hp} {env e1 e2 : En} {f f1 : FA} {g : List Addr} {r : R} {x : V} {ds : List D}
theorem Y8 {RR : It → Hp → Prop} {J : It} {d : D} (A : Abs K σ H1 e1 f1) (S : Stp H env f [] H1 e1 f1 g) (Kk : Kp env f e1 f1) (h : ResOk K σ H1 e1 f1 r x g) (im : Bool) (q : yo r e1 (fun kd lk e2 => qhJ K σ H env f RR ds kd lk e2) im)
 (wk : ∀ (lv : Nat) (gg : List Addr), Rep K H1 lv d x gg → (im = true → lv ≤ 1 → Wk K J ds none H1 gg) ∧ ∀ c, lv = clv c → Wk K J ds (some c) H1 gg)
 (dd : r.data 2 e1 = some d) : RR J H1 := by
 have S0 : Stp H env f [] H1 e1 f1 [] := S.drop fun _ z => by simp at z
 cases h with
 | @tmp d' _ _ rp n =>
   cases dd
   obtain ⟨hi, q⟩ := q
   exact q J H1 f1 g e1 A S0 Kk .none ((wk 0 g rp).1 hi (Nat.zero_le _)) (fun b hb => ⟨(rp.dom b hb).imp fun o z => z.1, fun w => (n b hb).1 w.l0⟩) (fun z => nomatch z)
 | @ro c d' _ g0 rp n =>
   have dd' : d' = d := by
    unfold BX.R.data at dd
    cases e : roOk c 2 with
    | false => simp only [e] at dd; cases dd
    | true => simp only [e] at dd; exact Option.some.inj dd
   subst dd'
   exact q J H1 f1 g0 e1 A S0 Kk .none ((wk _ g0 rp).2 c rfl) (fun b hb => ⟨(rp.dom b hb).imp fun o z => z.1, fun w => A.apart w.l0 (n b hb)⟩) (fun _ b hb z => A.apart z (n b hb))
 | @sl i _ d' m h1 h2 h3 =>
   obtain ⟨w, h4, rp⟩ := A.rep _ _ _ h2
   rw [h1] at h4; cases h4
   have dd' : d' = d := by
    unfold BX.R.data at dd
    simp only [h2] at dd
    cases e : m.okL 2 with
    | false => simp only [e] at dd; cases dd
    | true => simp only [e] at dd; exact Option.some.inj dd
   subst dd'
   unfold yo at q
   simp only [h2] at q
   obtain ⟨hi, q⟩ := q
   have L : Lk e1 (some (i, m)) (e1.set i (some (d', .lk))) := .some h2 h3
   refine q J H1 f1 (f1 i) e1 A S0 Kk L ((wk _ (f1 i) rp).1 hi (by rw [h3]; exact Nat.zero_le _)) (fun b hb => ⟨(rp.dom b hb).imp fun o z => z.1, fun w => ?_⟩) (fun z => nomatch z)
   obtain ⟨j, d1, m1, e3, hr, hb'⟩ := w
   have hi1 : i < e1.length := (List.getElem?_eq_some_iff.mp h2).1
   by_cases hj : j = i
   ·subst hj
    rw [wL hi1] at e3; cases e3; cases hr
   ·rw [qL hj] at e3
    exact A.dis i j _ _ _ _ (Ne.symm hj) h2 e3 h3 b hb hb'
theorem uQ {P : List Addr} {lv : Nat} {d : D} {gg : List Addr} (r : Rep K H1 lv d x gg) (n : Near H1 P H) (h : ∀ b ∈ gg, b ∈ P) : Rep K H lv d x gg := r.keep fun b o e z => n b o e (z.imp_left (h b))
theorem Wb {P gg : List Addr} {lv : Nat} {d : D} (r : Rep K H lv d x gg) (h : ∀ b ∈ gg, b ∈ P) : (lv ≤ 1 → d.imm = true → Item K H P none d x) ∧ ∀ c, lv = clv c → Item K H P (some c) d x :=
 ⟨fun l im => (r.imm l im).2, fun c e => ⟨gg, by rw [← e]; exact r, h⟩⟩
theorem qbt {lv : Nat} {a : Addr} {vs : List V} {gg P : List Addr} (hq : ∀ H, Near H1 P H → SqL K H a vs) (rr : Reps K H1 lv ds vs gg) (hg : ∀ b ∈ gg, b ∈ P) :
 (immL ds = true → lv ≤ 1 → Wk K (Itl K a) ds none H1 P) ∧ ∀ c, lv = clv c → Wk K (Itl K a) ds (some c) H1 P := by
 have it : ∀ (i : Nat) (H : Hp) (x : V) (H' : Hp) (d : D), Near H1 P H → ds[i]? = some d → (Itl K a).yld i H x H' → H' = H ∧ ∃ g, Rep K H lv d x g ∧ ∀ b ∈ g, b ∈ P := fun i H x H' d n e y => by
  obtain ⟨rfl, y⟩ := y
  obtain ⟨v, g, e1, r, hs⟩ := rr.get e
  have := y vs (hq _ n)
  rw [e1] at this; cases this
  exact ⟨rfl, g, uQ r n fun b hb => hg b (hs b hb), fun b hb => hg b (hs b hb)⟩
 have go : ∀ (i : Nat) (H : Hp), Near H1 P H → i < ds.length → (Itl K a).go i H := fun i H n h => ⟨vs, vs[i]'(by rw [← rr.len]; exact h), hq H n, List.getElem?_eq_getElem _⟩
 have st : ∀ (i : Nat) (H : Hp), Near H1 P H → ds.length ≤ i → (Itl K a).stop i H := fun i H n h => ⟨vs, hq H n, by rw [← rr.len]; exact h⟩
 refine ⟨fun im l => ⟨go, st, fun i H x H' d n e y => ?_⟩, fun c hc => ⟨go, st, fun i H x H' d n e y => ?_⟩⟩
 ·obtain ⟨rfl, g, r, hs⟩ := it i H x H' d n e y
  exact ⟨fun b o h => h, (Wb r hs).1 l (W3 im d (List.mem_of_getElem? e))⟩
 ·obtain ⟨rfl, g, r, hs⟩ := it i H x H' d n e y
  exact ⟨fun b o h => h, (Wb r hs).2 c hc⟩
theorem qeI {lv : Nat} {a : Addr} {vs : List V} {gg P : List Addr} (hq : ∀ H, Near H1 P H → SqT K H a vs) (rr : Reps K H1 lv ds vs gg) (hg : ∀ b ∈ gg, b ∈ P) :
 (immL ds = true → lv ≤ 1 → Wk K (Itt K a) ds none H1 P) ∧ ∀ c, lv = clv c → Wk K (Itt K a) ds (some c) H1 P := by
 have it : ∀ (i : Nat) (H : Hp) (x : V) (H' : Hp) (d : D), Near H1 P H → ds[i]? = some d → (Itt K a).yld i H x H' → H' = H ∧ ∃ g, Rep K H lv d x g ∧ ∀ b ∈ g, b ∈ P := fun i H x H' d n e y => by
  obtain ⟨rfl, y⟩ := y
  obtain ⟨v, g, e1, r, hs⟩ := rr.get e
  have := y vs (hq _ n)
  rw [e1] at this; cases this
  exact ⟨rfl, g, uQ r n fun b hb => hg b (hs b hb), fun b hb => hg b (hs b hb)⟩
 have go : ∀ (i : Nat) (H : Hp), Near H1 P H → i < ds.length → (Itt K a).go i H := fun i H n h => ⟨vs, vs[i]'(by rw [← rr.len]; exact h), hq H n, List.getElem?_eq_getElem _⟩
 have st : ∀ (i : Nat) (H : Hp), Near H1 P H → ds.length ≤ i → (Itt K a).stop i H := fun i H n h => ⟨vs, hq H n, by rw [← rr.len]; exact h⟩
 refine ⟨fun im l => ⟨go, st, fun i H x H' d n e y => ?_⟩, fun c hc => ⟨go, st, fun i H x H' d n e y => ?_⟩⟩
 ·obtain ⟨rfl, g, r, hs⟩ := it i H x H' d n e y
  exact ⟨fun b o h => h, (Wb r hs).1 l (W3 im d (List.mem_of_getElem? e))⟩
 ·obtain ⟨rfl, g, r, hs⟩ := it i H x H' d n e y
  exact ⟨fun b o h => h, (Wb r hs).2 c hc⟩
theorem uC {lv : Nat} {gg : List Addr} (r : Rep K H1 lv (.lst ds) x gg) : ∃ a vs g, x = .ref a ∧ SqL K H1 a vs ∧ (∀ H, Near H1 gg H → SqL K H a vs) ∧ Reps K H1 lv ds vs g ∧ ∀ b ∈ g, b ∈ gg := by
 obtain ⟨a, vs, g, rfl, h, rr, hs, z⟩ := r.listSq
 refine ⟨a, vs, g, rfl, h, fun H n => ?_, rr, hs⟩
 rcases z with ⟨z, zm⟩ | z
 ·exact .of (n a _ z (.inl zm))
 ·exact (z.keep fun o e m => n a o e (.inr m)).sq
theorem ZC {lv : Nat} {gg : List Addr} (r : Rep K H1 lv (.lF ds) x gg) : ∃ a vs, x = .ref a ∧ SqL K H1 a vs ∧ (∀ H, Near H1 gg H → SqL K H a vs) ∧ Reps K H1 lv ds vs gg := by
 obtain ⟨a, vs, rfl, h, rr, z⟩ := r.lFSq
 exact ⟨a, vs, rfl, h, fun H n => (z.keep fun o e m => n a o e (.inr m)).sq, rr⟩
theorem WW {lv : Nat} {gg : List Addr} (r : Rep K H1 lv (.tup ds) x gg) : ∃ a vs, x = .ref a ∧ SqT K H1 a vs ∧ (∀ H, Near H1 gg H → SqT K H a vs) ∧ Reps K H1 lv ds vs gg := by
 cases r with
 | tup h r => exact ⟨_, _, rfl, .of h, fun H n => .of (n _ _ h (.inr rfl)), r⟩
 | tupK l h r => exact ⟨_, _, rfl, h.sq, fun H n => h.sq, r⟩
theorem YT {L : Nat} {k : D → Prop} (q : rd L r env k) : ∃ d, r.data L env = some d ∧ k d := by
 unfold rd at q
 cases e : r.data L env with
 | none => rw [e] at q; exact q.elim
 | some d => rw [e] at q; exact ⟨d, rfl, q⟩
end
theorem jQ (ha : DE X e t) : DI X tg e (iSeq t) := by
 refine ⟨PI.imp (qe1 ha.run) fun σ H R q => ?_, fun env k k' h q => ha.mono _ _ _ (fun r e q => qO (fun d q => ?_) q) q⟩
 ·obtain ⟨env, f, A, q⟩ := q
  refine ⟨env, f, A, ha.mono _ _ _ (fun r1 e1 q => ?_) q⟩
  intro x H1 f1 g A1 R1 S1 K1
  obtain ⟨d, dd, q⟩ := YT q
  have rp0 : ∃ gg, Rep X.K H1 2 d x gg := by
   obtain ⟨d', gg, rp, hd⟩ := yO (L := 2) (k := fun d' => d' = d) A1 R1 (by unfold rd; rw [dd])
   subst hd
   exact ⟨gg, rp⟩
  obtain ⟨gg0, rp0⟩ := rp0
  cases d with
  | lst ds =>
    obtain ⟨a, vs, g1, rfl, hq, hn, rr, hs⟩ := uC rp0
    refine ⟨a, vs, rfl, .inl ⟨hq, Y8 A1 S1 K1 R1 (immL ds) q (fun lv gg z => ?_) dd⟩⟩
    obtain ⟨a', vs', g2, e1, hq', hn', rr', hs'⟩ := uC z
    cases e1
    exact qbt hn' rr' hs'
  | lF ds =>
    obtain ⟨a, vs, rfl, hq, hn, rr⟩ := ZC rp0
    refine ⟨a, vs, rfl, .inl ⟨hq, Y8 A1 S1 K1 R1 (immL ds) q (fun lv gg z => ?_) dd⟩⟩
    obtain ⟨a', vs', e1, hq', hn', rr'⟩ := ZC z
    cases e1
    exact qbt hn' rr' fun b hb => hb
  | tup ds =>
    obtain ⟨a, vs, rfl, hq, hn, rr⟩ := WW rp0
    refine ⟨a, vs, rfl, .inr ⟨hq, Y8 A1 S1 K1 R1 (immL ds) q (fun lv gg z => ?_) dd⟩⟩
    obtain ⟨a', vs', e1, hq', hn', rr'⟩ := WW z
    cases e1
    exact qeI hn' rr' fun b hb => hb
  | _ => exact q.elim
 ·cases d with
  | lst ds => exact uV (fun kd lk e q => h _ _ _ _ q) q
  | lF ds => exact uV (fun kd lk e q => h _ _ _ _ q) q
  | tup ds => exact uV (fun kd lk e q => h _ _ _ _ q) q
  | _ => exact q.elim
end
end BX
namespace BX
open PySem PySem.Spec PyProof.Rows L2
def wg : List Nat → En → En
 | [], env => env
 | v :: vs, env => (wg vs env).set v none
def uz : List Nat → En → En → En
 | [], _, env => env
 | v :: vs, e1, env => (uz vs e1 env).set v (e1.getD v none)
def lcL (g : XG) (tt : XT) (te : XE) (kd : Option Bool) (vs : List Nat) : List D → En → List D → (List D → En → Prop) → Prop
 | [], env, acc, k => k acc env
 | d :: ds, env, acc, k => g (mkI kd d) env fun e1 => tt e1 fun b e2 => (b = true → te e2 fun r e3 => stor r e3 fun dd => acc.length < sizeLine ∧ lcL g tt te kd vs ds (wg vs e3) (acc ++ [dd]) k) ∧ (b = false → lcL g tt te kd vs ds (wg vs e2) acc k)
def dLc (it : XI) (g : XG) (tt : XT) (te : XE) (vs : List Nat) : XE := fun env Q => it env fun ds kd lk e1 => (vs.all fun v => setOk e1 v) = true ∧ lcL g tt te kd vs ds (wg vs e1) [] fun acc e2 => thaw lk (uz vs e1 e2) fun e3 => Q (.tmp (.lst acc)) e3
def xYes : XT := fun env Q => Q true env
theorem Xb {g : XG} {tt : XT} {te : XE} {kd : Option Bool} {vs : List Nat} (mg : Vk g) (mt : Vj tt) (me : xV te) : ∀ (ds : List D) (env : En) (acc : List D) (k k' : List D → En → Prop), (∀ a e, k a e → k' a e) → lcL g tt te kd vs ds env acc k → lcL g tt te kd vs ds env acc k'
 | [], env, acc, k, k', h, q => h _ _ q
 | d :: ds, env, acc, k, k', h, q => mg _ _ _ _ (fun e1 q => mt _ _ _ (fun b e2 q => ⟨fun z => me _ _ _ (fun r e3 q => uo (fun dd q => ⟨q.1, Xb mg mt me ds _ _ _ _ h q.2⟩) q) (q.1 z), fun z => Xb mg mt me ds _ _ _ _ h (q.2 z)⟩) q) q
section
theorem uf (env : En) : ∀ vs : List Nat, (wg vs env).length = env.length
 | [] => rfl
 | v :: vs => by rw [wg, List.length_set, uf env vs]
theorem WN {env : En} {j : Nat} : ∀ {vs : List Nat}, j ∈ vs → j < env.length → (wg vs env)[j]? = some none
 | v :: vs, h, hj => by
   rw [wg]
   by_cases e : j = v
   ·subst e
    rw [List.getElem?_set_self (by rw [uf]; exact hj)]
   ·rw [List.getElem?_set_ne (Ne.symm e)]
    exact WN ((List.mem_cons.mp h).resolve_left e) hj
theorem ue {env : En} {j : Nat} : ∀ {vs : List Nat}, j ∉ vs → (wg vs env)[j]? = env[j]?
 | [], _ => rfl
 | v :: vs, h => by
   rw [wg, List.getElem?_set_ne (fun e => h (by rw [e]; exact List.mem_cons_self ..))]
   exact ue fun z => h (List.mem_cons_of_mem _ z)
theorem zb {env : En} {j : Nat} {vs : List Nat} {x : D × Md} (h : (wg vs env)[j]? = some (some x)) : j ∉ vs ∧ env[j]? = some (some x) := by
 by_cases hj : j ∈ vs
 ·have hl : j < env.length := by rw [← uf env vs]; exact (List.getElem?_eq_some_iff.mp h).1
  rw [WN hj hl] at h; cases h
 ·exact ⟨hj, by rw [← ue hj]; exact h⟩
theorem JX {σ : L2.St} {j : Nat} : ∀ {vs : List Nat}, j ∈ vs → j < σ.length → (wipe σ vs)[j]? = some none
 | v :: vs, h, hj => by
   rw [wipe]
   by_cases e : j = v
   ·subst e
    rw [List.getElem?_set_self (by rw [wipe_length]; exact hj)]
   ·rw [List.getElem?_set_ne (Ne.symm e)]
    exact JX ((List.mem_cons.mp h).resolve_left e) hj
theorem XC {σ σ2 : L2.St} {vs : List Nat} (hl : σ2.length = σ.length) (h : ∀ j, j ∉ vs → σ2[j]? = σ[j]?) : wipe σ2 vs = wipe σ vs := by
 apply List.ext_getElem?
 intro j
 by_cases hj : j ∈ vs
 ·by_cases hlt : j < σ.length
  ·rw [JX hj hlt, JX hj (by omega)]
  ·rw [List.getElem?_eq_none (by rw [wipe_length]; omega), List.getElem?_eq_none (by rw [wipe_length]; omega)]
 ·rw [wipe_out hj, wipe_out hj, h j hj]
theorem vD (e1 env : En) : ∀ vs : List Nat, (uz vs e1 env).length = env.length
 | [] => rfl
 | v :: vs => by rw [uz, List.length_set, vD e1 env vs]
theorem WQ {e1 env : En} {j : Nat} (hl : env.length = e1.length) : ∀ {vs : List Nat}, j ∈ vs → j < e1.length → (uz vs e1 env)[j]? = e1[j]?
 | v :: vs, h, hj => by
   rw [uz]
   by_cases e : j = v
   ·subst e
    rw [List.getElem?_set_self (by rw [vD]; omega), List.getD_eq_getElem?_getD, List.getElem?_eq_getElem hj]
    rfl
   ·rw [List.getElem?_set_ne (Ne.symm e)]
    exact WQ hl ((List.mem_cons.mp h).resolve_left e) hj
theorem Qu {e1 env : En} {j : Nat} : ∀ {vs : List Nat}, j ∉ vs → (uz vs e1 env)[j]? = env[j]?
 | [], _ => rfl
 | v :: vs, h => by
   rw [uz, List.getElem?_set_ne (fun e => h (by rw [e]; exact List.mem_cons_self ..))]
   exact Qu fun z => h (List.mem_cons_of_mem _ z)
end
section
variable {K : PySem.W.Frag} {σ σ' : L2.St} {H H1 H' : Hp} {env env' e1 e2 : En} {f f1 f2 : FA} {vs : List Nat} {G : List Addr}
theorem Vo (A : Abs K σ H env f) : Abs K (wipe σ vs) H (wg vs env) f := by
 refine ⟨fun i d m h => ?_, fun i j d m d' m' hij h1 h2 hl => A.dis i j d m d' m' hij (zb h1).2 (zb h2).2 hl, by rw [uf, wipe_length]; exact A.len⟩
 obtain ⟨hi, h'⟩ := zb h
 obtain ⟨v, h1, r⟩ := A.rep i d m h'
 exact ⟨v, by rw [wipe_out hi]; exact h1, r⟩
theorem Xz {b : Addr} (h : W (wg vs env) f b) : W env f b := let ⟨i, d, m, e, r, hb⟩ := h; ⟨i, d, m, (zb e).2, r, hb⟩
theorem JW {b : Addr} (h : L0 (wg vs env) f b) : L0 env f b := let ⟨i, d, m, e, r, hb⟩ := h; ⟨i, d, m, (zb e).2, r, hb⟩
theorem qbu {b : Addr} (h : Ro (wg vs env) f b) : Ro env f b := let ⟨i, d, m, e, r, hb⟩ := h; ⟨i, d, m, (zb e).2, r, hb⟩
theorem qeU {gs : List Addr} (A : Abs K σ H1 e1 f1) (ok : (vs.all fun v => setOk e1 v) = true) (A' : Abs K (wipe σ vs) H' e2 f2) (S : Stp H1 (wg vs e1) f1 [] H' e2 f2 gs) (Kk : Kp (wg vs e1) f1 e2 f2) (n : ∀ b ∈ gs, ¬ L0 e2 f2 b ∧ ¬ Ro e2 f2 b) :
 ∃ f3, Abs K σ H' (uz vs e1 e2) f3 ∧ Stp H1 e1 f1 [] H' (uz vs e1 e2) f3 gs ∧ Kp e1 f1 (uz vs e1 e2) f3 ∧ ∀ b ∈ gs, ¬ L0 (uz vs e1 e2) f3 b ∧ ¬ Ro (uz vs e1 e2) f3 b := by
 have hlen : e2.length = e1.length := by
  have := A'.len
  rw [wipe_length] at this
  have h2 := A.len
  omega
 have okm : ∀ v ∈ vs, setOk e1 v = true := List.all_eq_true.mp ok
 have inn : ∀ {j : Nat} {x : D × Md}, j ∈ vs → (uz vs e1 e2)[j]? = some (some x) → e1[j]? = some (some x) := fun {j x} hj h => by
  have := (List.getElem?_eq_some_iff.mp h).1
  rw [vD] at this
  rwa [WQ hlen hj (by omega)] at h
 have out : ∀ {j : Nat} {x : D × Md}, j ∉ vs → (uz vs e1 e2)[j]? = some (some x) → e2[j]? = some (some x) := fun {j x} hj h => by rwa [Qu hj] at h
 have frI : ∀ {j : Nat}, j ∈ vs → (if j ∈ vs then f1 j else f2 j) = f1 j := fun {j} h => if_pos h
 have frO : ∀ {j : Nat}, j ∉ vs → (if j ∈ vs then f1 j else f2 j) = f2 j := fun {j} h => if_neg h
 have hid : ∀ {j : Nat} {d : D} {m : Md}, j ∈ vs → e1[j]? = some (some (d, m)) → ∀ b ∈ f1 j, (∃ o, H1 b = some o ∧ Mu o = true) ∧ ((m.lv = 0) → ¬ L0 (wg vs e1) f1 b ∧ ¬ Ro (wg vs e1) f1 b) ∧ ¬ W (wg vs e1) f1 b := fun {j d m} hj h b hb => by
  obtain ⟨v, _, r⟩ := A.rep j d m h
  refine ⟨r.dom b hb, fun hl => ⟨?_, ?_⟩, ?_⟩
  ·rintro ⟨k, d2, m2, h2, h3, h4⟩
   obtain ⟨nk, h2'⟩ := zb h2
   exact A.dis j k _ _ _ _ (fun z => nk (z ▸ hj)) h h2' hl b hb h4
  ·rintro ⟨k, d2, m2, h2, h3, h4⟩
   obtain ⟨nk, h2'⟩ := zb h2
   exact A.dis j k _ _ _ _ (fun z => nk (z ▸ hj)) h h2' hl b hb h4
  ·rintro ⟨k, d2, m2, h2, h3, h4⟩
   obtain ⟨nk, h2'⟩ := zb h2
   exact A.dis k j _ _ _ _ (fun z => nk (z ▸ hj)) h2' h (Md.lv_of h3) b h4 hb
 have hid2 : ∀ {j : Nat} {d : D} {m : Md}, j ∈ vs → e1[j]? = some (some (d, m)) → ∀ b ∈ f1 j, ¬ (W e2 f2 b ∨ b ∈ gs) := fun {j d m} hj h b hb z => by
  obtain ⟨⟨o, ho, _⟩, _, h3⟩ := hid hj h b hb
  rcases S.own b z with z | z | z
  ·exact h3 z
  ·simp at z
  ·rw [ho] at z; cases z
 have l0out : ∀ b, L0 e2 f2 b → W e2 f2 b ∨ L0 (wg vs e1) f1 b := fun b h => Kk.l0 h
 refine ⟨fun j => if j ∈ vs then f1 j else f2 j, ⟨fun j d m h => ?_, fun j k d m d' m' hjk h1 h2 hl b hb z => ?_, by rw [vD, hlen]; exact A.len⟩, ⟨fun b o h z => ?_, fun b z => ?_⟩, ⟨?_, fun j d m h hr => ?_⟩, fun b hb => ⟨?_, ?_⟩⟩
 ·by_cases hj : j ∈ vs
  ·have h' := inn hj h
   obtain ⟨v, h3, r⟩ := A.rep j d m h'
   refine ⟨v, h3, ?_⟩
   simp only [frI hj]
   refine r.keep fun b o hb q => S.same b o hb ?_
   rcases q with q | q
   ·exact .inr ⟨(hid hj h' b q).2.2, by simp⟩
   ·exact .inl q
  ·obtain ⟨v, h3, r⟩ := A'.rep j d m (out hj h)
   refine ⟨v, by rw [wipe_out hj] at h3; exact h3, ?_⟩
   simp only [frO hj]
   exact r
 ·by_cases hj : j ∈ vs
  ·have h1' := inn hj h1
   simp only [frI hj] at hb
   by_cases hk : k ∈ vs
   ·simp only [frI hk] at z
    exact A.dis j k _ _ _ _ hjk h1' (inn hk h2) hl b hb z
   ·simp only [frO hk] at z
    have h2' := out hk h2
    obtain ⟨_, hh, _⟩ := hid hj h1' b hb
    by_cases hl2 : m'.lv = 0
    ·rcases l0out b ⟨k, d', m', h2', hl2, z⟩ with y | y
     ·exact hid2 hj h1' b hb (.inl y)
     ·exact (hh hl).1 y
    ·exact (hh hl).2 (Kk.ro' ⟨k, d', m', h2', hl2, z⟩)
  ·have h1' := out hj h1
   simp only [frO hj] at hb
   by_cases hk : k ∈ vs
   ·simp only [frI hk] at z
    have h2' := inn hk h2
    rcases l0out b ⟨j, d, m, h1', hl, hb⟩ with y | y
    ·exact hid2 hk h2' b z (.inl y)
    ·obtain ⟨i2, d2, m2, h5, h6, h7⟩ := y
     obtain ⟨nk, h5'⟩ := zb h5
     exact A.dis i2 k _ _ _ _ (fun w => nk (w ▸ hk)) h5' h2' h6 b h7 z
   ·simp only [frO hk] at z
    exact A'.dis j k _ _ _ _ hjk h1' (out hk h2) hl b hb z
 ·exact S.same b o h (z.imp_right fun z => ⟨fun w => z.1 (Xz w), by simp⟩)
 ·have inj : (W e2 f2 b ∨ b ∈ gs) → (W e1 f1 b ∨ b ∈ ([] : List Addr) ∨ H1 b = none) := fun z => (S.own b z).imp_left Xz
  rcases z with ⟨j, d, m, h, hr, hb⟩ | z
  ·by_cases hj : j ∈ vs
   ·simp only [frI hj] at hb
    exact .inl ⟨j, d, m, inn hj h, hr, hb⟩
   ·simp only [frO hj] at hb
    exact inj (.inl ⟨j, d, m, out hj h, hr, hb⟩)
  ·exact inj (.inr z)
 ·apply List.ext_getElem?
  intro j
  rw [List.getElem?_map, List.getElem?_map]
  by_cases hj : j ∈ vs
  ·by_cases hlt : j < e1.length
   ·rw [WQ hlen hj hlt]
   ·rw [List.getElem?_eq_none (by rw [vD]; omega), List.getElem?_eq_none (by omega)]
  ·rw [Qu hj]
   have := congrArg (fun l => l[j]?) Kk.modes
   simp only [List.getElem?_map] at this
   rw [this, ue hj]
 ·by_cases hj : j ∈ vs
  ·refine ⟨?_, frI hj⟩
   rw [WQ hlen hj (List.getElem?_eq_some_iff.mp h).1]
   exact h
  ·obtain ⟨h1, h2⟩ := Kk.ros j d m (by rw [ue hj]; exact h) hr
   exact ⟨by rw [Qu hj]; exact h1, (frO hj).trans h2⟩
 ·rintro ⟨j, d, m, h, hr, z⟩
  by_cases hj : j ∈ vs
  ·simp only [frI hj] at z
   exact hid2 hj (inn hj h) b z (.inr hb)
  ·simp only [frO hj] at z
   exact (n b hb).1 ⟨j, d, m, out hj h, hr, z⟩
 ·rintro ⟨j, d, m, h, hr, z⟩
  by_cases hj : j ∈ vs
  ·simp only [frI hj] at z
   exact hid2 hj (inn hj h) b z (.inr hb)
  ·simp only [frO hj] at z
   exact (n b hb).2 ⟨j, d, m, out hj h, hr, z⟩
end
section
variable {K : PySem.W.Frag} {σ σ' : L2.St} {H H1 H' : Hp} {env env' e1 e2 : En} {f f1 f2 : FA} {vs : List Nat} {G : List Addr} {lk : Lok}
theorem qdl {k : En → Prop} (L : Lk env lk e1) (A : Abs K σ H' e2 f2) (S : Stp H1 e1 f1 [] H' e2 f2 G) (Kk : Kp e1 f1 e2 f2) (n : ∀ b ∈ G, ¬ L0 e2 f2 b ∧ ¬ Ro e2 f2 b) (q : thaw lk e2 k) :
 ∃ e3, k e3 ∧ Abs K σ H' e3 f2 ∧ Stp H1 env f1 [] H' e3 f2 G ∧ Kp env f1 e3 f2 ∧ ∀ b ∈ G, ¬ L0 e3 f2 b ∧ ¬ Ro e3 f2 b := by
 obtain ⟨e3, q3, A3, S3, _, _⟩ := Ui (σ := σ) L A S Kk.kq q
 cases L with
 | none => exact ⟨e2, q, A, S, Kk, n⟩
 | @some i d m e l =>
   have hi : i < env.length := (List.getElem?_eq_some_iff.mp e).1
   have he1 : (env.set i (some (d, Md.lk)))[i]? = some (some (d, Md.lk)) := wL hi
   obtain ⟨he2, hf⟩ := Kk.ros i d .lk he1 rfl
   have hi2 : i < e2.length := (List.getElem?_eq_some_iff.mp he2).1
   have q' := q
   simp only [thaw, he2] at q'
   have A4 : Abs K σ H' (e2.set i (some (d, m))) f2 := Q6 A he2 rfl l
   have S4 : Stp H1 env f1 [] H' (e2.set i (some (d, m))) f2 G := by
    have LL : Lk env (some (i, m)) (env.set i (some (d, .lk))) := .some e l
    refine ⟨fun b o h z => S.same b o h (z.imp_right fun z => ⟨fun w => z.1 (LL.w w), z.2⟩), fun b z => ?_⟩
    have inj : (W e2 f2 b ∨ b ∈ G) → (W env f1 b ∨ b ∈ ([] : List Addr) ∨ H1 b = none) := fun z => (S.own b z).imp_left fun w => LL.w w
    rcases z with ⟨j, d1, m1, q1, hr, hb⟩ | z
    ·by_cases hj : j = i
     ·subst hj
      rw [wL hi2] at q1; cases q1
      rw [hf] at hb
      exact .inl ⟨j, d, m, e, hr, hb⟩
     ·rw [qL hj] at q1
      exact inj (.inl ⟨j, d1, m1, q1, hr, hb⟩)
    ·exact inj (.inr z)
   have back : ∀ {j : Nat} {d1 : D} {m1 : Md}, (e2.set i (some (d, m)))[j]? = some (some (d1, m1)) → ∃ m2, e2[j]? = some (some (d1, m2)) ∧ m2.lv = m1.lv := fun {j d1 m1} q => by
    by_cases hj : j = i
    ·subst hj
     rw [wL hi2] at q; cases q
     exact ⟨.lk, he2, l.symm⟩
    ·rw [qL hj] at q
     exact ⟨m1, q, rfl⟩
   refine ⟨_, q', A4, S4, ⟨?_, fun j d1 m1 h hr => ?_⟩, fun b hb => ⟨?_, ?_⟩⟩
   ·apply List.ext_getElem?
    intro j
    rw [List.getElem?_map, List.getElem?_map]
    by_cases hj : j = i
    ·subst hj
     rw [wL hi2, e]
     try rfl
    ·rw [qL hj]
     have := congrArg (fun l => l[j]?) Kk.modes
     simp only [List.getElem?_map] at this
     rw [this, qL hj]
   ·by_cases hj : j = i
    ·subst hj
     rw [e] at h; cases h
     exact ⟨wL hi2, hf⟩
    ·obtain ⟨a, b⟩ := Kk.ros j d1 m1 (by rw [qL hj]; exact h) hr
     exact ⟨by rw [qL hj]; exact a, b⟩
   ·rintro ⟨j, d1, m1, h, hr, z⟩
    obtain ⟨m2, h2, h3⟩ := back h
    exact (n b hb).1 ⟨j, d1, m2, h2, h3.trans hr, z⟩
   ·rintro ⟨j, d1, m1, h, hr, z⟩
    obtain ⟨m2, h2, h3⟩ := back h
    exact (n b hb).2 ⟨j, d1, m2, h2, by rw [h3]; exact hr, z⟩
theorem Abs.upd_free {Da : Addr} {o : HO} {vs0 : List V} (A : Abs K σ H env f) (hD : H Da = some (.lst vs0)) (n : ¬ L0 env f Da ∧ ¬ Ro env f Da) : Abs K σ (L2.upd H Da o) env f := by
 refine ⟨fun i d m h => ?_, A.dis, A.len⟩
 obtain ⟨v, h1, r⟩ := A.rep i d m h
 refine ⟨v, h1, r.keep fun b ob hb q => ?_⟩
 have : b ≠ Da := fun z => by
  subst z
  rcases q with q | q
  ·by_cases hl : m.lv = 0
   ·exact n.1 ⟨i, d, m, h, hl, q⟩
   ·exact n.2 ⟨i, d, m, h, hl, q⟩
  ·rw [hD] at hb; cases hb; cases q
 rw [upd_ne this]
 exact hb
theorem qcj {ti : XI} {g : XG} {tt : XT} {te : XE} {ts : List Nat} (hi : qfZ ti) (mg : Vk g) (mt : Vj tt) (me : xV te) (hts : ∀ t ∈ ts, t ∈ vs) {Q : VK} (q : jx K (dLc ti g tt te vs) σ H Q) :
 tLc (qg6 K ti) (qfm K ts g) (liftT K tt) (jx K te) vs σ H Q := by
 obtain ⟨env, f, A, q⟩ := q
 refine ⟨env, f, A, hi _ _ _ (fun ds kd lk e1 q => ?_) q⟩
 intro J H1 f1 P env' A1 S1 K1 L Wa hP hPL Da hDa
 have A1' := L.abs A1
 obtain ⟨ok, q⟩ := q
 refine ⟨fun i m H' => m = ds.length - i ∧ i ≤ ds.length ∧ ∃ e f' acc va ga, Abs K (wipe σ vs) H' e f' ∧ Stp H1 (wg vs e1) f1 [] H' e f' (Da :: ga) ∧ Kp (wg vs e1) f1 e f' ∧ H' Da = some (.lst va) ∧ Reps K H' 0 acc va ga ∧ Da ∉ ga ∧
  (∀ b ∈ Da :: ga, ¬ L0 e f' b ∧ ¬ Ro e f' b) ∧ lcL g tt te kd vs (ds.drop i) e acc (fun acc e2 => thaw lk (uz vs e1 e2) fun e3 => qa9 K σ H env f Q (.tmp (.lst acc)) e3),
  ⟨ds.length, by simp, Nat.zero_le _, wg vs e1, f1, [], [], [], (Vo A1').ext (Ext.upd hDa).same, (Stp.refl.new (Ext.upd hDa) : Stp H1 (wg vs e1) f1 [] _ _ _ ([Da] ++ [])), .refl, upd_same, .nil, by simp, fun b hb => ?_, q⟩, fun i m H' w => ?_⟩
 ·have hb' : b = Da := by simpa using hb
  subst hb'
  refine ⟨fun z => ?_, fun z => ?_⟩
  ·obtain ⟨o, ho, _⟩ := A1'.ldom (JW z)
   rw [hDa] at ho; cases ho
  ·obtain ⟨o, ho, _⟩ := A1'.rdom (qbu z)
   rw [hDa] at ho; cases ho
 obtain ⟨rfl, hi', e, f', acc, va, ga, A', S', K', hD, rg, nD, fr, q⟩ := w
 have near : Near H1 P H' := fun b o h z => S'.same b o h (by
  rcases z with z | z
  ·exact .inr ⟨fun w => (hP b z).2 (Xz w), by simp⟩
  ·exact .inl z)
 have gdom : ∀ b ∈ Da :: ga, ∃ o, H' b = some o := fun b hb => by
  rcases List.mem_cons.mp hb with rfl | hb
  ·exact ⟨_, hD⟩
  ·obtain ⟨o, ho, _⟩ := rg.dom b hb
   exact ⟨o, ho⟩
 by_cases hlt : i < ds.length
 ·refine .inr ⟨Wa.go i H' near hlt, fun H2 => _, fun H2 n2 => ⟨ds.length - (i + 1), by omega, n2⟩, fun x H2 hy => ?_⟩
  obtain ⟨sm, itm⟩ := Wa.yld i H' x H2 ds[i] near (List.getElem?_eq_getElem hlt) hy
  rw [List.drop_eq_getElem_cons hlt] at q
  have nl : kd.isSome = true → ∀ b ∈ P, ¬ L0 e f' b := fun hk b hb z => by
   rcases K'.l0 z with z | z
   ·rcases S'.own b (.inl z) with z | z | z
    ·exact (hP b hb).2 (Xz z)
    ·simp at z
    ·obtain ⟨o, ho⟩ := (hP b hb).1
     rw [z] at ho; cases ho
   ·exact hPL hk b hb (JW z)
  have A2' := A'.ext sm
  refine ⟨e, f', mkI kd ds[i], [], A2', V9 itm nl, mg _ _ _ _ (fun e2 q2 => ?_) q⟩
  intro σ2 f2 A2 S2 K2 _ _ M2
  have hw : wipe σ2 vs = wipe σ vs := (XC M2.1 fun j hj => (M2.2.2 j fun z => hj (hts j z)).1).trans (XC (wipe_length σ vs) fun j hj => wipe_out hj)
  have T2 : Stp H' e f' [] H2 e2 f2 [] := (Stp.refl.ext sm).trans S2
  have fin : ∀ {Hx : Hp} {ex : En} {fx : FA} {gx : List Addr}, Abs K σ2 Hx ex fx → Stp H' e f' [] Hx ex fx gx → Kp e2 f2 ex fx → Hx Da = some (.lst va) ∧ Reps K Hx 0 acc va ga ∧ (∀ b ∈ Da :: ga, b ∉ gx) ∧ (∀ b ∈ Da :: ga, ¬ L0 (wg vs ex) fx b ∧ ¬ Ro (wg vs ex) fx b) ∧
   Kp (wg vs e1) f1 (wg vs ex) fx ∧ Stp H1 (wg vs e1) f1 [] Hx (wg vs ex) fx ((Da :: ga) ++ gx) ∧ Abs K (wipe σ vs) Hx (wg vs ex) fx := fun {Hx ex fx gx} Ax T Kx => by
   have far : ∀ b ∈ Da :: ga, ¬ (W ex fx b ∨ b ∈ gx) := fun b hb z => by
    rcases T.own b z with z | z | z
    ·exact (fr b hb).1 z.l0
    ·simp at z
    ·obtain ⟨o, ho⟩ := gdom b hb
     rw [z] at ho; cases ho
   have at2 : ∀ {j : Nat} {d : D} {m : Md}, j ∉ vs → ex[j]? = some (some (d, m)) → m.rd = true → e[j]? = some (some (d, m)) ∧ fx j = f' j := fun {j d m} hj h hr => by
    obtain ⟨d', h2⟩ := Kx.slot' h
    obtain ⟨h3, h4⟩ := Kx.ros j d' m h2 hr
    rw [h] at h3; cases h3
    obtain ⟨_, h5, h6⟩ := M2.2.2 j fun z => hj (hts j z)
    exact ⟨by rw [← h5]; exact h2, h4.trans h6⟩
   refine ⟨T.same Da _ hD (.inr ⟨fun z => (fr Da (List.mem_cons_self ..)).1 z.l0, by simp⟩), rg.keep fun b o hb z => T.same b o hb ?_, fun b hb z => far b hb (.inr z), fun b hb => ⟨?_, ?_⟩, ⟨?_, fun j d m h hr => ?_⟩, ⟨fun b o h z => ?_, fun b z => ?_⟩, by rw [← hw]; exact Vo Ax⟩
   ·rcases z with z | z
    ·exact .inr ⟨fun w => (fr b (List.mem_cons_of_mem _ z)).1 w.l0, by simp⟩
    ·exact .inl z
   ·rintro ⟨j, d, m, h, hr, z⟩
    obtain ⟨hj, h'⟩ := zb h
    cases hm : m.rd with
    | false => exact far b hb (.inl ⟨j, d, m, h', hm, z⟩)
    | true =>
      obtain ⟨h2, h3⟩ := at2 hj h' hm
      rw [h3] at z
      exact (fr b hb).1 ⟨j, d, m, h2, hr, z⟩
   ·rintro ⟨j, d, m, h, hr, z⟩
    obtain ⟨hj, h'⟩ := zb h
    obtain ⟨h2, h3⟩ := at2 hj h' (Md.rd_of hr)
    rw [h3] at z
    exact (fr b hb).2 ⟨j, d, m, h2, hr, z⟩
   ·apply List.ext_getElem?
    intro j
    rw [List.getElem?_map, List.getElem?_map]
    have lx : ex.length = e1.length := by
     have a1 := Ax.len
     have a2 := A1'.len
     have a3 := M2.1
     rw [wipe_length] at a3
     omega
    by_cases hj : j ∈ vs
    ·by_cases hjl : j < e1.length
     ·rw [WN hj hjl, WN hj (by omega)]
     ·rw [List.getElem?_eq_none (by rw [uf]; omega), List.getElem?_eq_none (by rw [uf]; omega)]
    ·rw [ue hj]
     have m1 := congrArg (fun l => l[j]?) Kx.modes
     have m2 := congrArg (fun l => l[j]?) K'.modes
     simp only [List.getElem?_map] at m1 m2
     rw [m1, (M2.2.2 j fun z => hj (hts j z)).2.1, m2]
   ·obtain ⟨hj, h'⟩ := zb h
    obtain ⟨h1, h2⟩ := K'.ros j d m h hr
    obtain ⟨_, h5, h6⟩ := M2.2.2 j fun z => hj (hts j z)
    obtain ⟨h3, h4⟩ := Kx.ros j d m (by rw [h5]; exact h1) hr
    exact ⟨by rw [ue hj]; exact h3, h4.trans (h6.trans h2)⟩
   ·exact T.same b o (S'.same b o h z) (by
     rcases z with z | z
     ·exact .inl z
     ·refine .inr ⟨fun w => ?_, by simp⟩
      rcases S'.own b (.inl w) with y | y | y
      ·exact z.1 y
      ·simp at y
      ·rw [h] at y; cases y)
   ·have base : (W e f' b ∨ b ∈ ([] : List Addr) ∨ H' b = none) → (W (wg vs e1) f1 b ∨ b ∈ ([] : List Addr) ∨ H1 b = none) := fun y => by
     rcases y with y | y | y
     ·exact S'.own b (.inl y)
     ·simp at y
     ·by_cases hwb : W (wg vs e1) f1 b
      ·exact .inl hwb
      ·refine .inr (.inr ?_)
       cases ho : H1 b with
       | none => rfl
       | some o =>
         have := S'.same b o ho (.inr ⟨hwb, by simp⟩)
         rw [y] at this; cases this
    rcases z with z | z
    ·exact base (T.own b (.inl (Xz z)))
    ·rcases List.mem_append.mp z with z | z
     ·exact S'.own b (.inr z)
     ·exact base (T.own b (.inr z))
  refine ⟨hw, e2, f2, A2, mt _ _ _ (fun b e3 q3 => ?_) q2⟩
  intro H3 f3 A3 S3 K3
  cases b with
  | true =>
    rw [if_pos rfl]
    refine ⟨e3, f3, A3, me _ _ _ (fun r e4 q4 => ?_) (q3.1 rfl)⟩
    intro y H4 f4 g4 A4 R4 S4 K4
    obtain ⟨dd, rd1, ⟨hz, q4⟩, n4⟩ := Q3 A4 R4 q4
    obtain ⟨c1, c2, c3, c4, c5, c6, c7⟩ := fin A4 ((T2.trans S3).trans S4) (K3.trans K4)
    refine ⟨va, c1, by rw [← c2.len]; exact hz, rfl, hlt, wg vs e4, f4, acc ++ [dd], va ++ [y], ga ++ g4, c7.upd_free c1 (c4 Da (List.mem_cons_self ..)), ?_, c5, upd_same, ?_, ?_, fun b hb => ?_, q4⟩
    ·refine ⟨fun b o h z => ?_, fun b z => c6.own b (z.imp_right fun y => by simpa using y)⟩
     have : b ≠ Da := fun w => by subst w; rw [hDa] at h; cases h
     rw [upd_ne this]
     exact c6.same b o h z
    ·have both : Reps K H4 0 (acc ++ [dd]) (va ++ [y]) (ga ++ g4) := c2.append (.one rd1) fun _ b hb z => c3 b (List.mem_cons_of_mem _ hb) z
     refine both.keep fun b o hb z => ?_
     have : b ≠ Da := fun w => by
      subst w
      rcases z with z | z
      ·rcases List.mem_append.mp z with z | z
       ·exact nD z
       ·exact c3 b (List.mem_cons_self ..) z
      ·rw [c1] at hb; cases hb; cases z
     rw [upd_ne this]
     exact hb
    ·exact fun z => (List.mem_append.mp z).elim nD (c3 Da (List.mem_cons_self ..))
    ·rcases List.mem_cons.mp hb with rfl | hb
     ·exact c4 b (List.mem_cons_self ..)
     ·rcases List.mem_append.mp hb with hb | hb
      ·exact c4 b (List.mem_cons_of_mem _ hb)
      ·exact ⟨fun z => (n4 b hb).1 (JW z), fun z => (n4 b hb).2 (qbu z)⟩
  | false =>
    rw [if_neg Bool.false_ne_true]
    obtain ⟨c1, c2, c3, c4, c5, c6, c7⟩ := fin A3 (T2.trans S3) K3
    exact ⟨rfl, hlt, wg vs e3, f3, acc, va, ga, c7, c6.drop fun b hb => List.mem_append_left _ hb, c5, c1, c2, nD, c4, q3.2 rfl⟩
 ·have hie : i = ds.length := by omega
  subst hie
  rw [List.drop_length] at q
  obtain ⟨f3, A3, S3, K3, n3⟩ := qeU A1' ok A' S' K' fr
  obtain ⟨e4, q4, A4, S4, K4, n4⟩ := qdl L A3 S3 K3 n3 q
  exact .inl ⟨Wa.stop _ _ near (Nat.le_refl _), q4 (.ref Da) H' f3 (Da :: ga) A4 (.tmp (.lst hD rg fun _ => nD) n4) (S1.trans S4) (K1.trans K4)⟩
end
structure DTs (X : Cx) (ifs : List Expr) (t : XT) : Prop where
 run : PTs X ifs (liftT X.K t)
 mono : Vj t
theorem PTs.imp {X : Cx} {ifs : List Expr} {t u : TT} (h : PTs X ifs t) (k : ∀ σ H Q, u σ H Q → t σ H Q) : PTs X ifs u := ⟨fun pins s σ H Q I q => h.run pins s σ H Q I (k _ _ _ q)⟩
section
variable {X : Cx}
theorem j7 : DTs X [] xYes := ⟨PTs.imp pts_nil fun σ H Q ⟨env, f, A, q⟩ => q H f A .refl .refl, fun env Q Q' h q => h _ _ q⟩
theorem Wc {c : Expr} {t : XT} (h : DT X c t) : DTs X [c] t := ⟨pts_one h.run, h.mono⟩
theorem qam {ti : XI} {g : XG} {tt : XT} {te : XE} {vs : List Nat} (hi : qfZ ti) (mg : Vk g) (mt : Vj tt) (me : xV te) : xV (dLc ti g tt te vs) := fun env Q Q' h q =>
 hi _ _ _ (fun ds kd lk e1 q => ⟨q.1, Xb mg mt me ds _ _ _ _ (fun a e q => Ze (fun e q => h _ _ q) q) q.2⟩) q
variable {elt tg iter : Expr} {ifs : List Expr} {scope : Scope} {own : List (Str × Nat)} {pos : Pos} {ti : XI} {g : XG} {tt : XT} {te : XE} {ts : List Nat}
theorem WK (hx : Ok X) (hN : X.N.Nodup) (hi : DI X tg iter ti) (ok : BlkOk X.N X.env.scope scope own)
 (hg : ∀ (s : Shared) (H : Hp) (C : Addr) (cl : List (Str × Addr)) (fp : List Addr), DG (X.blk s H scope (compEnvC scope cl C X.env) fp) tg ts g) (ht : ∀ (s : Shared) (H : Hp) (C : Addr) (cl : List (Str × Addr)) (fp : List Addr), DTs (X.blk s H scope (compEnvC scope cl C X.env) fp) ifs tt)
 (he : ∀ (s : Shared) (H : Hp) (C : Addr) (cl : List (Str × Addr)) (fp : List Addr), DE (X.blk s H scope (compEnvC scope cl C X.env) fp) elt te) (hts : ∀ t ∈ ts, t ∈ own.map (·.2)) (hs : ∀ x, foldedSetIterable iter X.env x = pure x := by intro _; rfl) :
 DE X (.ListComp elt [⟨tg, iter, ifs, 0⟩] scope pos) (dLc ti g tt te (own.map (·.2))) :=
 have mg := (hg X.s_0 X.H_0 0 [] []).mono
 have mt := (ht X.s_0 X.H_0 0 [] []).mono
 have me := (he X.s_0 X.H_0 0 [] []).mono
 ⟨PE.imp (pe_lc hx.calm hN hi.run ok (fun s H C cl fp => (hg s H C cl fp).run) (fun s H C cl fp => (ht s H C cl fp).run) (fun s H C cl fp => (he s H C cl fp).run) hs) fun σ H Q q => qcj hi.mono mg mt me hts q, qam hi.mono mg mt me⟩
theorem W4 {i : Nat} {y : Str} {py spos : Pos} (hx : Ok X) (hN : X.N.Nodup) (hsw : swapsWith (.ListComp elt [⟨tg, iter, ifs, 0⟩] scope pos) (some (.Name y py)) spos.line X.env = pure true) (hi : DI X tg iter ti) (ok : BlkOk X.N X.env.scope scope own)
 (hg : ∀ (s : Shared) (H : Hp) (C : Addr) (cl : List (Str × Addr)) (fp : List Addr), DG (X.blk s H scope (compEnvC scope cl C X.env) fp) tg ts g) (ht : ∀ (s : Shared) (H : Hp) (C : Addr) (cl : List (Str × Addr)) (fp : List Addr), DTs (X.blk s H scope (compEnvC scope cl C X.env) fp) ifs tt)
 (he : ∀ (s : Shared) (H : Hp) (C : Addr) (cl : List (Str × Addr)) (fp : List Addr), DE (X.blk s H scope (compEnvC scope cl C X.env) fp) elt te) (hts : ∀ t ∈ ts, t ∈ own.map (·.2)) (hy : X.N[i]? = some y := by rfl) (hyl : X.env.scope.names.lookup y = some .local := by rfl)
 (hs : ∀ x, foldedSetIterable iter X.env x = pure x := by intro _; rfl) : DS X (.Assign [.Name y py] (.ListComp elt [⟨tg, iter, ifs, 0⟩] scope pos) spos) (sAsg (dLc ti g tt te (own.map (·.2))) (gN i)) := by
 have mg := (hg X.s_0 X.H_0 0 [] []).mono
 have mt := (ht X.s_0 X.H_0 0 [] []).mono
 have me := (he X.s_0 X.H_0 0 [] []).mono
 have dg : DG X (.Name y py) [i] (gN i) := qJ hN hy (.inl hyl) (.inr hyl)
 have md := qam (vs := own.map (·.2)) hi.mono mg mt me
 refine ⟨PS.imp (ps_setLc hx.calm hN hy hyl hsw hi.run ok (fun s H C cl fp => (hg s H C cl fp).run) (fun s H C cl fp => (ht s H C cl fp).run) (fun s H C cl fp => (he s H C cl fp).run) hs) fun Dn σ H q => qcj hi.mono mg mt me hts ?_, Zv md dg.mono⟩
 have h := Xv (ts := [i]) md dg.mono q
 obtain ⟨env, f, A, h⟩ := h
 refine ⟨env, f, A, md _ _ _ (fun r e1 q => ?_) h⟩
 intro v H1 f1 g1 A1 R1 S1 K1
 obtain ⟨env2, f2, r2, g2, A2, R2, q2⟩ := q v H1 f1 g1 A1 R1 S1 K1
 obtain ⟨env', f', q, A', S', K', L', O', M'⟩ := qfx A2 R2 q2
 exact q _ f' A' S' K' L' O' M'
end
section
variable {P : Program} {w : World} {K : PySem.W.Frag} {mg : Str → Option Value} {base : Heap}
def fill (n : Nat) : En := List.replicate n none
def Ye : List Md → List D → En → Option (List D)
 | [], [], _ => some []
 | .io :: ms, _ :: ds, x :: e => match x with
   | some (d, .io) => (Ye ms ds e).map (d :: ·)
   | _ => none
 | _ :: ms, d :: ds, _ :: e => (Ye ms ds e).map (d :: ·)
 | _, _, _ => none
def Back (ms : List Md) (ds ds' : List D) (e : En) : Prop := ds'.length = ms.length ∧ ∀ p : Nat, (ms[p]? = some Md.io → ∃ d : D, ds'[p]? = some d ∧ e[p]? = some (some (d, Md.io))) ∧ (ms[p]? ≠ some Md.io → ds'[p]? = ds[p]?)
theorem JG {m : Md} {ms : List Md} {d0 d1 : D} {ds ds' : List D} {x : Option (D × Md)} {e : En} (h : Back ms ds ds' e) (h1 : m = .io → x = some (d1, .io)) (h2 : m ≠ .io → d1 = d0) : Back (m :: ms) (d0 :: ds) (d1 :: ds') (x :: e) := by
 refine ⟨by rw [List.length_cons, List.length_cons, h.1], fun p => ?_⟩
 cases p with
 | zero => exact ⟨fun z => ⟨d1, rfl, by rw [List.getElem?_cons_zero, h1 (Option.some.inj z)]⟩, fun z => by rw [List.getElem?_cons_zero, List.getElem?_cons_zero, h2 fun y => z (by rw [List.getElem?_cons_zero, y])]⟩
 | succ p => simpa using h.2 p
theorem Xr : ∀ {ms : List Md} {ds : List D} {e : En} {ds' : List D}, ds.length = ms.length → Ye ms ds e = some ds' → Back ms ds ds' e
 | [], [], e, ds', _, h => by
   rw [Ye] at h; cases h
   exact ⟨rfl, fun p => ⟨fun z => by simp at z, fun _ => rfl⟩⟩
 | [], _ :: _, _, _, l, _ => by simp at l
 | _ :: _, [], _, _, l, _ => by simp at l
 | m :: ms, d :: ds, [], ds', _, h => by cases m <;> (rw [Ye] at h <;> first | (cases h; done) | (intros; contradiction))
 | m :: ms, d :: ds, x :: e, ds', l, h => by
   have l' : ds.length = ms.length := by simpa using l
   cases m with
   | io =>
     simp only [Ye] at h
     split at h
     ·cases h2 : Ye ms ds e with
      | none => rw [h2] at h; cases h
      | some r => rw [h2] at h; cases h; exact JG (Xr l' h2) (fun _ => rfl) fun z => absurd rfl z
     ·cases h
   | _ =>
     simp only [Ye] at h
     cases h2 : Ye ms ds e with
     | none => rw [h2] at h; cases h
     | some r => rw [h2] at h; cases h; exact JG (Xr l' h2) (fun z => nomatch z) fun _ => rfl
def outD (S : FS) (ds : List D) (Q : D → List D → Prop) (d : D) (e : En) : Prop := match Ye S.ms ds e with
 | some ds' => Q d ds'
 | none => False
def BodyOk (S : FS) (n : Nat) (t : XS) : Prop := ∀ ds Q, ds.length = S.ms.length → S.wp ds Q → t (penv S.ms ds ++ fill (n - S.ms.length)) (outD S ds Q .non) (outD S ds Q)
theorem Room.ok {X : Cx} {k : Nat} (hr : Room k X.A) (hc : X.calm = true := by rfl) : Ok X := ⟨hc, by have := hr.un; omega⟩
theorem qc1 {qual : Str} {st : Stmt} {f : Addr} {N ps : List Str} {S : FS} {t : XS} {cdv : Value} {A : Around} {outer : List PySem.Env} {s : Shared} {H : Hp} {E E' : XK} {vs : List V} {Q : VK} (Sc : FnScope N ps (defScope st)) (hms : S.ms.length = ps.length) (okm : ∀ m ∈ S.ms, m ≠ .own ∧ m ≠ .lk)
 (Dr : DSs (cxOf CX0 P w K mg base N qual (defScope st) f cdv A outer s H E).nox (defBody st) t) (body : BodyOk S N.length t) (h : spOf K S vs H Q E') : qch K t { nx := fun _ H' => Q .non H', rt := Q } (L2.start N vs) H := by
 obtain ⟨hl, ds, fa, hd, Ab, hw⟩ := h
 have hNl : S.ms.length ≤ N.length := by
  have := congrArg List.length Sc.pre
  rw [List.length_take] at this
  omega
 have pl := Y0 hd
 have A0 : Abs K (L2.start N vs) H (penv S.ms ds ++ fill (N.length - S.ms.length)) fa := by
  have inn : ∀ {i : Nat} {y : D × Md}, (penv S.ms ds ++ fill (N.length - S.ms.length))[i]? = some (some y) → (penv S.ms ds)[i]? = some (some y) := fun {i y} h => by
   by_cases hi : i < (penv S.ms ds).length
   ·rwa [List.getElem?_append_left hi] at h
   ·rw [List.getElem?_append_right (by omega)] at h
    unfold fill at h
    rw [List.getElem?_replicate] at h
    split at h <;> cases h
  refine ⟨fun i d m h => ?_, fun i j d m d' m' hij h1 h2 => Ab.dis i j d m d' m' hij (inn h1) (inn h2), by unfold L2.start fill; simp [pl, hl]⟩
  obtain ⟨v, h1, r⟩ := Ab.rep i d m (inn h)
  refine ⟨v, ?_, r⟩
  unfold L2.start
  rw [List.getElem?_append_left (List.getElem?_eq_some_iff.mp h1).1]
  exact h1
 have fin0 : ∀ (d : D) (e : En) (ds' : List D), Back S.ms ds ds' e → (∀ v H' f' g, ds'.length = S.ms.length → Abs K (vs.map some) H' (penv S.ms ds') f' → Rep K H' 0 d v g → (∀ b ∈ g, ¬ L0 (penv S.ms ds') f' b ∧ ¬ Ro (penv S.ms ds') f' b) → Stp H (penv S.ms ds) fa [] H' (penv S.ms ds') f' g → Kp (penv S.ms ds) fa (penv S.ms ds') f' → Q v H') →
  JP K (L2.start N vs) H (penv S.ms ds ++ fill (N.length - S.ms.length)) fa Q d e := fun d e ds' ⟨hl', hp⟩ q => by
  intro v σ' H' f' g A' rv nv S' K'
  have app : ∀ {i : Nat} {y : D × Md}, (penv S.ms ds)[i]? = some (some y) → (penv S.ms ds ++ fill (N.length - S.ms.length))[i]? = some (some y) := fun {i y} h => by
   rw [List.getElem?_append_left (List.getElem?_eq_some_iff.mp h).1]; exact h
  have appW : ∀ b, W (penv S.ms ds ++ fill (N.length - S.ms.length)) fa b → W (penv S.ms ds) fa b := fun b ⟨i, d1, m1, h1, h2, h3⟩ => by
   by_cases hi : i < (penv S.ms ds).length
   ·rw [List.getElem?_append_left hi] at h1
    exact ⟨i, d1, m1, h1, h2, h3⟩
   ·rw [List.getElem?_append_right (by omega)] at h1
    unfold fill at h1
    rw [List.getElem?_replicate] at h1
    split at h1 <;> cases h1
  have W0 : ∀ b, (W e f' b ∨ b ∈ g) → (W (penv S.ms ds) fa b ∨ H b = none) := fun b z => by
   rcases S'.own b z with z | z | z
   ·exact .inl (appW b z)
   ·simp at z
   ·exact .inr z
  have same : ∀ b o, H b = some o → (Mu o = false ∨ ¬ W (penv S.ms ds) fa b) → H' b = some o := fun b o h z => S'.same b o h (z.imp_right fun z => ⟨fun w => z (appW b w), by simp⟩)
  have par : ∀ {p : Nat} {d1 : D} {m1 : Md}, (penv S.ms ds')[p]? = some (some (d1, m1)) → (m1 = .io ∧ S.ms[p]? = some .io ∧ e[p]? = some (some (d1, .io)) ∧ ∃ v, vs[p]? = some v ∧ σ'[p]? = some (some v)) ∨ (m1 ≠ .io ∧ m1.lv ≠ 0 ∧ (penv S.ms ds)[p]? = some (some (d1, m1))) := fun {p d1 m1} h => by
   obtain ⟨h1, h2⟩ := zp.mp h
   by_cases hm : m1 = .io
   ·subst hm
    left
    obtain ⟨d2, e1, e2⟩ := (hp p).1 h2
    rw [h1] at e1; cases e1
    have hpl : p < ds.length := by have := (List.getElem?_eq_some_iff.mp h2).1; omega
    have h0 : (penv S.ms ds)[p]? = some (some (ds[p], Md.io)) := zp.mpr ⟨List.getElem?_eq_getElem hpl, h2⟩
    obtain ⟨hσ, _⟩ := K'.io p _ (app h0)
    obtain ⟨v, hv, _⟩ := Ab.rep p _ _ h0
    refine ⟨rfl, h2, e2, v, ?_, ?_⟩
    ·rw [List.getElem?_map] at hv
     cases hvp : vs[p]? with
     | none => rw [hvp] at hv; cases hv
     | some v' => rw [hvp] at hv; cases hv; rfl
    ·rw [hσ]
     unfold L2.start
     rw [List.getElem?_append_left (List.getElem?_eq_some_iff.mp hv).1]
     exact hv
   ·right
    have hne : S.ms[p]? ≠ some .io := fun z => by rw [h2] at z; cases z; exact hm rfl
    rw [(hp p).2 hne] at h1
    obtain ⟨n1, n2⟩ := okm m1 (List.mem_of_getElem? h2)
    refine ⟨hm, ?_, zp.mpr ⟨h1, h2⟩⟩
    cases m1 <;> first | exact absurd rfl n1 | exact absurd rfl n2 | exact absurd rfl hm | (intro z; cases z)
  have ff : ∀ p, (if S.ms[p]? = some Md.io then f' p else fa p) = (if S.ms[p]? = some Md.io then f' p else fa p) := fun _ => rfl
  have ro0 : ∀ {p : Nat} {d1 : D} {m1 : Md}, (penv S.ms ds)[p]? = some (some (d1, m1)) → ∀ b ∈ fa p, ∃ o, H b = some o ∧ Mu o = true := fun {p d1 m1} h b hb => by
   obtain ⟨v, _, r⟩ := Ab.rep p d1 m1 h
   exact r.dom b hb
  have roW : ∀ {p : Nat} {d1 : D} {m1 : Md}, m1.lv ≠ 0 → (penv S.ms ds)[p]? = some (some (d1, m1)) → ∀ b ∈ fa p, ¬ W (penv S.ms ds) fa b := fun {p d1 m1} hm h b hb ⟨j, d2, m2, h1, h2, h3⟩ => by
   refine Ab.dis j p d2 m2 d1 m1 (fun z => ?_) h1 h (Md.lv_of h2) b h3 hb
   subst z
   rw [h1] at h; cases h
   exact hm (Md.lv_of h2)
  have ioI : ∀ {p : Nat}, S.ms[p]? = some Md.io → (if S.ms[p]? = some Md.io then f' p else fa p) = f' p := fun {p} h => if_pos h
  have ioN : ∀ {p : Nat}, S.ms[p]? ≠ some Md.io → (if S.ms[p]? = some Md.io then f' p else fa p) = fa p := fun {p} h => if_neg h
  have nio : ∀ {p : Nat} {d1 : D} {m1 : Md}, m1 ≠ .io → (penv S.ms ds)[p]? = some (some (d1, m1)) → S.ms[p]? ≠ some Md.io := fun {p d1 m1} hm h z => by
   have := (zp.mp h).2
   rw [z] at this; cases this
   exact hm rfl
  have free : ∀ {p : Nat} {d1 : D} {m1 : Md}, m1.lv ≠ 0 → (penv S.ms ds)[p]? = some (some (d1, m1)) → ∀ b, (W e f' b ∨ b ∈ g) → b ∉ fa p := fun {p d1 m1} hm h b z hb => by
   rcases W0 b z with y | y
   ·exact roW hm h b hb y
   ·obtain ⟨o, ho, _⟩ := ro0 h b hb
    rw [y] at ho; cases ho
  refine q v H' (fun p => if S.ms[p]? = some Md.io then f' p else fa p) g hl' ⟨fun p d1 m1 h => ?_, fun p j d1 m1 d2 m2 hpj h1 h2 hl0 b hb z => ?_, by rw [Y0 hl', List.length_map]; omega⟩ rv (fun b hb => ⟨?_, ?_⟩) ⟨fun b o h z => same b o h (z.imp_right And.left), fun b z => ?_⟩ ⟨?_, fun j d1 m1 h hr => ?_⟩
  ·rcases par h with ⟨rfl, hm, he, v', hv, hσ⟩ | ⟨hm, hlv, h0⟩
   ·obtain ⟨v2, h3, r⟩ := A'.rep p d1 .io he
    rw [hσ] at h3; cases h3
    refine ⟨v', by rw [List.getElem?_map, hv]; rfl, ?_⟩
    simp only [ioI hm]
    exact r
   ·obtain ⟨v2, h3, r⟩ := Ab.rep p d1 m1 h0
    refine ⟨v2, h3, ?_⟩
    simp only [ioN (nio hm h0)]
    exact r.keep fun b o hb z => same b o hb (z.symm.imp_right fun z => roW hlv h0 b z)
  ·rcases par h1 with ⟨rfl, hm, he, _⟩ | ⟨hm, hlv, h0⟩
   ·simp only [ioI hm] at hb
    rcases par h2 with ⟨rfl, hm2, he2, _⟩ | ⟨hm2, hlv2, h02⟩
    ·simp only [ioI hm2] at z
     exact A'.dis p j _ _ _ _ hpj he he2 rfl b hb z
    ·simp only [ioN (nio hm2 h02)] at z
     exact free hlv2 h02 b (.inl ⟨p, d1, .io, he, rfl, hb⟩) z
   ·exact absurd hl0 hlv
  ·rintro ⟨p, d1, m1, h, hl0, z⟩
   rcases par h with ⟨rfl, hm, he, _⟩ | ⟨hm, hlv, h0⟩
   ·simp only [ioI hm] at z
    exact nv b hb p d1 .io he (.inl rfl) z
   ·exact absurd hl0 hlv
  ·rintro ⟨p, d1, m1, h, hl0, z⟩
   rcases par h with ⟨rfl, hm, he, _⟩ | ⟨hm, hlv, h0⟩
   ·exact hl0 rfl
   ·simp only [ioN (nio hm h0)] at z
    exact free hlv h0 b (.inr hb) z
  ·rcases z with ⟨p, d1, m1, h, hr, hb⟩ | z
   ·rcases par h with ⟨rfl, hm, he, _⟩ | ⟨hm, hlv, h0⟩
    ·simp only [ioI hm] at hb
     exact (W0 b (.inl ⟨p, d1, .io, he, rfl, hb⟩)).imp_right .inr
    ·exact absurd (Md.lv_of hr) hlv
   ·exact (W0 b (.inr z)).imp_right .inr
  ·apply List.ext_getElem?
   intro p
   rw [List.getElem?_map, List.getElem?_map]
   unfold penv
   rw [List.getElem?_zipWith, List.getElem?_zipWith]
   cases hm : S.ms[p]? with
   | none => cases ds[p]? <;> cases ds'[p]? <;> rfl
   | some m =>
     have hp1 : p < ds.length := by have := (List.getElem?_eq_some_iff.mp hm).1; omega
     have hp2 : p < ds'.length := by have := (List.getElem?_eq_some_iff.mp hm).1; omega
     rw [List.getElem?_eq_getElem hp1, List.getElem?_eq_getElem hp2]
     rfl
  ·obtain ⟨h1, h2⟩ := zp.mp h
   have hne : S.ms[j]? ≠ some .io := fun z => by rw [h2] at z; cases z; cases hr
   exact ⟨zp.mpr ⟨by rw [(hp j).2 hne]; exact h1, h2⟩, ioN hne⟩
 have fin : ∀ (d : D) (e : En), outD S ds (fun d ds' => ∀ v H' f' g, ds'.length = S.ms.length → Abs K (vs.map some) H' (penv S.ms ds') f' → Rep K H' 0 d v g → (∀ b ∈ g, ¬ L0 (penv S.ms ds') f' b ∧ ¬ Ro (penv S.ms ds') f' b) → Stp H (penv S.ms ds) fa [] H' (penv S.ms ds') f' g → Kp (penv S.ms ds) fa (penv S.ms ds') f' → Q v H') d e →
  JP K (L2.start N vs) H (penv S.ms ds ++ fill (N.length - S.ms.length)) fa Q d e := fun d e qq => by
  unfold outD at qq
  split at qq
  ·rename_i ds' hbk
   exact fin0 d e ds' (Xr hd hbk) qq
  ·exact qq.elim
 refine ⟨_, fa, A0, Dr.mono _ _ _ _ _ (fun e q => ?_) (fun d e q => fin d e q) (body ds _ hd hw)⟩
 intro σ' H' f' A' S' K'
 exact fin .non e q .non σ' H' f' [] A' .non (fun b hb => by simp at hb) S' K'
theorem wM {x qual : Str} {st : Stmt} {f : Addr} {fd : FuncData} {N ps : List Str} {k : Nat} {S : FS} {t : XS} (F : Fun K x qual st f fd) (Sc : FnScope N ps (defScope st)) (hms : S.ms.length = ps.length) (okm : ∀ m ∈ S.ms, m ≠ .own ∧ m ≠ .lk)
 (der : ∀ (cdv : Value) (A : Around) (outer : List PySem.Env) (s : Shared) (H : Hp) (E : XK), Room k (A.deeper (envOfC qual (defScope st) s.heap.objs.size f cdv)) → DSs (cxOf CX0 P w K mg base N qual (defScope st) f cdv A outer s H E).nox (defBody st) t) (body : BodyOk S N.length t) :
 FnOk P w K mg base CX0 (k + 1) f fd ps (spOf K S) := by
 refine F.ok Sc (fun vs H Q E h => by rw [h.1, hms]) (fun cdv A outer s H vs Q E hr h => ?_)
 have Dr := der cdv A outer s H E hr
 exact ⟨_, Dr.run, qc1 Sc hms okm Dr body h⟩
end
end BX
namespace BX
open PySem PySem.Spec PyProof.Rows L2
theorem Q9 : ∀ x y : List Int, HT.lexLt x y = true → HT.lexLt y x = false
 | [], [], h => rfl
 | [], _ :: _, h => rfl
 | _ :: _, [], h => by cases h
 | a :: x, b :: y, h => by
   rw [HT.lexLt_cons] at h ⊢
   by_cases e : a = b
   ·subst e
    rw [if_pos rfl] at h ⊢
    exact Q9 x y h
   ·rw [if_neg e] at h
    rw [if_neg (Ne.symm e)]
    have := of_decide_eq_true h
    exact decide_eq_false (by omega)
theorem Y9 : ∀ x y z : List Int, HT.lexLt y x = false → HT.lexLt z y = false → HT.lexLt z x = false
 | [], _, [], _, _ => rfl
 | [], _, _ :: _, _, _ => rfl
 | _ :: _, [], _, h, _ => by cases h
 | _ :: _, _ :: _, [], _, h => by cases h
 | a :: x, b :: y, c :: z, h1, h2 => by
   rw [HT.lexLt_cons] at h1 h2 ⊢
   by_cases e1 : b = a
   ·subst e1
    rw [if_pos rfl] at h1
    by_cases e2 : c = b
    ·subst e2
     rw [if_pos rfl] at h2 ⊢
     exact Y9 x y z h1 h2
    ·rw [if_neg e2] at h2 ⊢
     exact h2
   ·rw [if_neg e1] at h1
    have h1' := of_decide_eq_false h1
    by_cases e2 : c = b
    ·subst e2
     rw [if_neg e1]
     exact h1
    ·rw [if_neg e2] at h2
     have h2' := of_decide_eq_false h2
     rw [if_neg (by omega)]
     exact decide_eq_false (by omega)
theorem Jf : ∀ x y : List Int, HT.lexLt x y = false → HT.lexLt y x = false → x = y
 | [], [], _, _ => rfl
 | [], _ :: _, h, _ => by cases h
 | _ :: _, [], _, h => by cases h
 | a :: x, b :: y, h1, h2 => by
   rw [HT.lexLt_cons] at h1 h2
   by_cases e : a = b
   ·subst e
    rw [if_pos rfl] at h1 h2
    rw [Jf x y h1 h2]
   ·rw [if_neg e] at h1
    rw [if_neg (Ne.symm e)] at h2
    have h1' := of_decide_eq_false h1
    have h2' := of_decide_eq_false h2
    omega
def sortI (l : List (List Int)) : List (List Int) := l.mergeSort fun a b => !HT.lexLt b a
theorem sortI_perm (l : List (List Int)) : (sortI l).Perm l := List.mergeSort_perm _ _
theorem XQ (l : List (List Int)) : (sortI l).Pairwise fun a b => HT.lexLt b a = false := by
 have h := List.pairwise_mergeSort (le := fun a b : List Int => !HT.lexLt b a) (fun a b c h1 h2 => by
  simp only [Bool.not_eq_true'] at h1 h2 ⊢
  exact Y9 a b c h1 h2) (fun a b => by
  cases e : HT.lexLt b a with
  | false => rfl
  | true => simp [Q9 b a e]) l
 exact h.imp fun {a b} h => by simpa using h
theorem Q4 {l m : List (List Int)} (h : m.Pairwise fun a b => HT.lexLt b a = false) (p : m.Perm l) : m = sortI l :=
 List.Perm.eq_of_pairwise (le := fun a b => HT.lexLt b a = false) (fun a b _ _ h1 h2 => (Jf a b h2 h1)) h (XQ l) (p.trans (sortI_perm l).symm)
section
variable {prog : Program} {w : World} {A : Around} {E : Value → Shared → Prop} {s : Shared}
theorem lexW {b : Bool} {Q : Bool → Shared → Prop} : ∀ {xs ys : List Value} {ns ms : List Int} (i : Nat), IntsAre xs ns → IntsAre ys ms → Q (HT.lexLt ns ms) s → PySem.W.KatLex prog w A b (decide (ns.length < ms.length)) Q (xs.zip ys) i s
 | _, _, _, _, i, .nil, .nil, h => PySem.W.kat_nil h
 | _, _, _, _, i, .nil, .cons q u hy, h => PySem.W.kat_nil (by simpa [HT.lexLt_nil_cons] using h)
 | _, _, _, _, i, .cons p t hx, .nil, h => PySem.W.kat_nil (by simpa [HT.lexLt_cons_nil] using h)
 | _, _, _, _, i, .cons (vs := xs) (ns := ns) p t hx, .cons (vs := ys) (ns := ms) q u hy, h => by
   rw [HT.lexLt_cons] at h
   rw [show (decide ((p :: ns).length < (q :: ms).length)) = decide (ns.length < ms.length) by simp]
   show PySem.W.KatLex prog w A b _ Q ((Value.int p t, Value.int q u) :: xs.zip ys) i s
   refine PySem.W.kat_cons (wpAny_eqBool_int ?_)
   by_cases e : p = q
   ·subst e
    rw [beq_self_eq_true]
    rw [if_pos rfl] at h
    exact PySem.W.kat_yes (lexW (i + 1) hx hy h)
   ·rw [show (p == q) = false from beq_eq_false_iff_ne.mpr e]
    rw [if_neg e] at h
    exact PySem.W.kat_no (TS.oneLt_ints _ h)
theorem qcw {h : Heap} : ∀ vs : List Value, (∀ v ∈ vs, ∃ ns, TS.TupInts h v ns ∧ ns ≠ []) → ∃ fs, PySem.W.KatTups h vs fs ∧ fs.length = vs.length ∧ ∀ f, f ∈ fs → ∃ n t, f = Value.int n t
 | [], _ => ⟨[], PySem.W.KatTups.nil, rfl, fun f hf => by simp at hf⟩
 | v :: vs, x => by
   obtain ⟨fs, k, hl, hi⟩ := qcw vs fun u hu => x u (List.mem_cons_of_mem _ hu)
   obtain ⟨ns, ⟨a, xs, rfl, ⟨o, ho, hc, n, hdt⟩, i⟩, hn⟩ := x v (List.mem_cons_self ..)
   obtain ⟨xs⟩ := xs
   replace i : IntsAre xs ns := i
   cases i with
   | nil => exact absurd rfl hn
   | cons m t i =>
     refine ⟨.int m t :: fs, PySem.W.KatTups.cons ho hc hdt rfl k, by simp [hl], fun f hf => ?_⟩
     rcases List.mem_cons.mp hf with rfl | hf
     ·exact ⟨m, t, rfl⟩
     ·exact hi f hf
theorem swoW (k : Value → List Int) : SrtO.Swo fun v u => HT.lexLt (k v) (k u) := ⟨fun x y h => Q9 _ _ h, fun x y z h1 h2 => Y9 _ _ _ h1 h2⟩
theorem XN {a : Addr} {vs : List Value} (h0 : 0 < vs.length) (hp : ∀ v ∈ vs, ∃ ns, TS.TupInts s.heap v ns ∧ ns ≠ []) (ha : ∀ o, s.heap.get? a = some o → o.cls ≠ .type "tuple") :
 SrtO.SortableO prog w A s a vs fun v u => HT.lexLt (TS.intsOf s.heap v) (TS.intsOf s.heap u) := by
 intro h' keep
 have kp : ∀ b o, s.heap.get? b = some o → o.cls = .type "tuple" → h'.get? b = some o := fun b o e c => keep b o (fun z => by subst z; exact ha o e c) e
 have hp' : ∀ v ∈ vs, ∃ ns, TS.TupInts h' v ns ∧ ns ≠ [] := fun v hm => let ⟨ns, t, r⟩ := hp v hm; ⟨ns, t.keeps kp, r⟩
 obtain ⟨fs, h1, h2, h3⟩ := qcw vs hp'
 refine ⟨tuples' true, fun Q E hq => ?_, fun p q hm hm' => ?_⟩
 ·refine PySem.W.kat_kind (T := .type "int") h1 (by omega) (fun f hm => ?_) (by rfl) ?_
  ·obtain ⟨x, t, rfl⟩ := h3 f hm
   exact PySem.W.Looks.now
  ·have e : (Value.type "int" != Value.type "tuple") = true := by decide +kernel
   rw [e]
   exact hq
 ·obtain ⟨ns, t1, _⟩ := hp _ hm
  obtain ⟨ms, t2, _⟩ := hp _ hm'
  show wpAny (model prog w) A (keyLt' (tuples' true) p.1 q.1) (fun r s' => s' = _ ∧ r = HT.lexLt (TS.intsOf s.heap p.1) (TS.intsOf s.heap q.1)) (fun _ _ => False) _
  rw [t1.ints, t2.ints]
  obtain ⟨a1, xs, e1, ⟨o1, g1, c1, n1, d1⟩, i1⟩ := t1.keeps kp
  obtain ⟨a2, ys, e2, ⟨o2, g2, c2, n2, d2⟩, i2⟩ := t2.keeps kp
  rw [e1, e2]
  refine PySem.W.kat_lt g1 d1 g2 d2 ?_
  have l1 : xs.size = ns.length := by rw [← i1.length, Array.length_toList]
  have l2 : ys.size = ms.length := by rw [← i2.length, Array.length_toList]
  rw [l1, l2]
  exact lexW 0 i1 i2 ⟨rfl, rfl⟩
theorem Zm {l : Addr} {vs : List Value} {Q : Value → Shared → Prop} (hz : vs.length ≤ sizeLine)
 (hc : ∀ (A : Around) (E : Value → Shared → Prop) (Q : List Value → Shared → Prop), A.handled = none → (∀ (h' : Heap) (tk : Nat), (∀ b o, s.heap.get? b = some o → h'.get? b = some o) → Q vs { s with heap := h', toks := tk }) → wpAny (model prog w) A (collect (.ref l)) Q E s)
 (hh : A.handled = none) (hp : ∀ v ∈ vs, ∃ ns, TS.TupInts s.heap v ns ∧ ns ≠ [])
 (h : ∀ (out : List Value) (h1 h2 : Heap) (tk n : Nat), out.Perm vs → (out.map (TS.intsOf s.heap)) = sortI (vs.map (TS.intsOf s.heap)) → (∀ b o, s.heap.get? b = some o → h1.get? b = some o) → (∀ b o, h1.get? b = some o → h2.get? b = some o) → h2.get? h1.objs.size = some (seqObj "list" out.toArray n) → Q (.ref h1.objs.size) { s with heap := h2, toks := tk }) :
 wpAny (model prog w) A (call (.builtin "sorted") [.ref l]) Q E s := by
 refine Calls.call_function_entry kind_sorted plain_sorted entry_sorted (args_sorted1 _) ?_
 unfold Builtin.«sorted»
 refine wpAny_bind (m := checkCount "sorted" 1 1 _) (wpAny_pure ?_)
 refine wpAny_bind (hc A.in1 _ _ hh fun h' tk kp => ?_)
 refine wpAny_bind (wpAny_newList ?_ hz)
 have hoL : (h'.push (seqObj "list" vs.toArray 0)).get? h'.objs.size = some (seqObj "list" vs.toArray 0) := Heap.get?_push_size _ rfl
 show wpAny _ _ _ _ _ { s with heap := h'.push (seqObj "list" vs.toArray 0), toks := tk }
 have kp2 : ∀ b o, s.heap.get? b = some o → (h'.push (seqObj "list" vs.toArray 0)).get? b = some o := fun b o e => Heap.get?_push_of_some _ (kp b o e)
 have hp2 : ∀ v ∈ vs, ∃ ns, TS.TupInts (h'.push (seqObj "list" vs.toArray 0)) v ns ∧ ns ≠ [] := fun v hm => let ⟨ns, t, r⟩ := hp v hm; ⟨ns, t.keeps fun b o e _ => kp2 b o e, r⟩
 have same : ∀ v ∈ vs, TS.intsOf (h'.push (seqObj "list" vs.toArray 0)) v = TS.intsOf s.heap v := fun v hm => by
  obtain ⟨ns, t, _⟩ := hp v hm
  rw [t.ints, (t.keeps fun b o e _ => kp2 b o e).ints]
 refine wpAny_bind (wpAny_holding (wpAny_call_entry slot_list_sort ⟨_, hoL, rfl⟩ entry_list_sort (SrtO.list_sort_ord (s := { s with heap := h'.push (seqObj "list" vs.toArray 0), toks := tk }) (swoW (TS.intsOf (h'.push (seqObj "list" vs.toArray 0)))) hoL hz (fun h2 => ?_) fun out hs hb => ⟨_, rfl, ?_⟩) (args_list_sort _)))
 ·refine XN (s := { s with heap := h'.push (seqObj "list" vs.toArray 0), toks := tk }) (by omega) hp2 fun o e => ?_
  have e' : some o = some (seqObj "list" vs.toArray 0) := e.symm.trans hoL
  cases e'
  intro c
  exact absurd (Value.type.inj c) (by decide)
 ·obtain ⟨n, hn⟩ := PyProof.Rows.sortedHeap_at (vs := vs) (out := out.toArray) hoL
  have pm : out.Perm vs := hb.perm
  have hm : out.map (TS.intsOf (h'.push (seqObj "list" vs.toArray 0))) = out.map (TS.intsOf s.heap) := List.map_congr_left fun v hv => same v (pm.mem_iff.mp hv)
  refine wpAny_pure ⟨_, rfl, h out h' _ tk n pm ?_ kp (fun b o e => ?_) hn⟩
  ·refine Q4 ?_ (pm.map _)
   rw [← hm, List.pairwise_map]
   exact hs
  ·have hbb : b < h'.objs.size := Heap.lt_size e
   rw [PyProof.Rows.sortedHeap_old (Nat.ne_of_lt hbb) (by rw [size_push']; exact Nat.lt_succ_of_lt hbb)]
   exact Heap.get?_push_of_some _ e
end
def WD : List D → Option (List (List Int))
 | [] => some []
 | .tup xs :: ds => match intL xs, WD ds with
   | some (n :: ns), some r => some ((n :: ns) :: r)
   | _, _ => none
 | _ :: _ => none
def keyI : List Key → Option (List Int)
 | [] => some []
 | .inl i :: ks => (keyI ks).map (i :: ·)
 | .inr _ :: _ => none
def Jg : List (List Key × D) → Option (List (List Int))
 | [] => some []
 | p :: r => match keyI p.1, Jg r with
   | some (n :: ns), some l => some ((n :: ns) :: l)
   | _, _ => none
def tupI (ns : List Int) : D := .tup (ns.map .int)
def ju (d : D) (k : D → Prop) : Prop := match d with
 | .lst xs => match WD xs with
   | some l => k (.lst ((sortI l).map tupI))
   | none => False
 | .tup xs => match WD xs with
   | some l => k (.lst ((sortI l).map tupI))
   | none => False
 | .dT kvs => match Jg kvs with
   | some l => k (.lst ((sortI l).map tupI))
   | none => False
 | _ => False
section
variable {X : Cx} {pins : List (Addr × Obj)} {σ : L2.St} {H : Hp} {s : Shared}
theorem Qv {K : PySem.W.Frag} {H : Hp} : ∀ ns : List Int, Reps K H 0 (ns.map D.int) (ns.map V.int) []
 | [] => .nil
 | n :: ns => .cons (f := []) (g := []) (.int n) (Qv ns) (fun _ _ hb => by simp at hb)
def At (H : Hp) (x : V) (ns : List Int) : Prop := ∃ b, x = .ref b ∧ H b = some (.tup (ns.map V.int)) ∧ ns ≠ []
theorem QD {lv : Nat} : ∀ {ds : List D} {xs : List V} {f : List Addr} {l : List (List Int)}, lv ≤ 1 → Reps X.K H lv ds xs f → WD ds = some l → Paired (At H) xs l
 | _, _, _, _, _, .nil, e => by cases e; exact .nil
 | _, _, _, l, hl, .cons (d := d) (ds := ds) r t _, e => by
   cases d with
   | tup ys =>
     rw [WD] at e
     split at e
     ·rename_i n ns r' e1 e2
      cases e
      obtain ⟨a, vs, rfl, ha, rr⟩ := r.tupleAt hl
      rw [rr.intL e1] at ha
      exact .cons ⟨a, rfl, ha, by simp⟩ (QD hl t e2)
     ·cases e
   | _ => simp [WD] at e
theorem V7 : ∀ {ks : List Key} {ns : List Int}, keyI ks = some ns → ks.map kV = ns.map V.int
 | [], _, e => by cases e; rfl
 | .inl i :: ks, ns, e => by
   rw [keyI] at e
   cases h : keyI ks with
   | none => rw [h] at e; cases e
   | some r => rw [h] at e; cases e; rw [List.map_cons, List.map_cons, V7 h]; rfl
 | .inr _ :: _, _, e => by cases e
theorem qc3 : ∀ {xs : List V} {vs : List Value} {l : List (List Int)}, Inv X pins σ H s → Vals xs vs → Paired (At H) xs l → vs.map (TS.intsOf s.heap) = l ∧ xs = vs.map bkV ∧ ∀ v ∈ vs, (∃ a, v = Value.ref a) ∧ At H (bkV v) (TS.intsOf s.heap v) ∧ ∃ ns, TS.TupInts s.heap v ns ∧ ns ≠ []
 | _, _, _, I, .nil, .nil => ⟨rfl, rfl, fun v hv => by simp at hv⟩
 | _, _, _, I, .cons r t, .cons h p => by
   obtain ⟨h1, h2, h3⟩ := qc3 I t p
   obtain ⟨b, rfl, hb, hn⟩ := h
   cases r
   have ti := tupI_raw I (.of hb : SqT X.K H b _)
   refine ⟨by rw [List.map_cons, h1, ti.ints], by rw [List.map_cons, ← h2]; rfl, fun v hv => ?_⟩
   rcases List.mem_cons.mp hv with rfl | hv
   ·exact ⟨⟨_, rfl⟩, ⟨b, rfl, by rw [ti.ints]; exact hb, by rw [ti.ints]; exact hn⟩, _, ti, hn⟩
   ·exact h3 v hv
theorem Y4 {K : PySem.W.Frag} {h : Heap} : ∀ {out : List Value}, (∀ v ∈ out, At H (bkV v) (TS.intsOf h v)) → Reps K H 0 (out.map fun v => tupI (TS.intsOf h v)) (out.map bkV) []
 | [], _ => .nil
 | v :: out, hh => by
   obtain ⟨b, e, hb, _⟩ := hh v (List.mem_cons_self ..)
   refine .cons (f := []) (g := []) ?_ (Y4 fun u hu => hh u (List.mem_cons_of_mem _ hu)) (fun _ _ hb => by simp at hb)
   rw [e]
   exact .tup hb (Qv _)
theorem sorted_run {a : Addr} {xs : List V} {vs : List Value} {l : List (List Int)} {Q : VK} (hx : Ok X) (I : Inv X pins σ H s) (rv : Vals xs vs) (p : Paired (At H) xs l) (hz : vs.length ≤ sizeLine)
 (hc : ∀ (A : Around) (E : Value → Shared → Prop) (Q : List Value → Shared → Prop), A.handled = none → (∀ (h' : Heap) (tk : Nat), (∀ b o, s.heap.get? b = some o → h'.get? b = some o) → Q vs { s with heap := h', toks := tk }) → wpAny (model X.prog X.w) A (collect (.ref a)) Q E s)
 (q : ∀ z H' g, Rep X.K H' 0 (.lst ((sortI l).map tupI)) z g → Ext H H' g → Q z H') : wpAny (model X.prog X.w) X.A (call (.builtin "sorted") [.ref a]) (EP X pins σ Q) X.xe s := by
 obtain ⟨e1, e2, e3⟩ := qc3 I rv p
 refine Zm hz hc (I.ok.hd hx.calm) (fun v hv => (e3 v hv).2.2) fun out h1 h2 tk n pm hs k1 k2 hn => ?_
 have I1 : Inv X pins σ H { s with heap := h1, toks := tk } := I.kept k1
 have hf : H h1.objs.size = none := I1.hok.fresh (Nat.le_refl _)
 refine ⟨.ref h1.objs.size, upd H h1.objs.size (.lst (out.map bkV)), I1.laid (t' := tk) k2 (Nat.le_refl _) ?_, rfl, q _ _ _ (vW hf ?_) (Ext.upd hf)⟩
 ·exact ⟨by rw [List.length_map, pm.length_eq]; exact hz, out, n, bkV_vals fun u hu => (e3 u (pm.mem_iff.mp hu)).1, hn⟩
 ·rw [← e1, ← hs, List.map_map]
  exact Y4 fun v hv => (e3 v (pm.mem_iff.mp hv)).2.1
theorem V6 {kvs : List (List Key × D)} : ∀ {hs : List (List Key × V)} {bs : List Addr} {l : List (List Int)}, IsKeys H hs bs → hs.map (·.1) = kvs.map (·.1) → Jg kvs = some l → Paired (At H) (bs.map V.ref) l := by
 induction kvs with
 | nil =>
   intro hs bs l ik e1 e2
   cases hs with
   | nil => cases ik; cases e2; exact .nil
   | cons _ _ => simp at e1
 | cons kv kvs ih =>
   intro hs bs l ik e1 e2
   cases hs with
   | nil => simp at e1
   | cons h hs =>
     cases ik with
     | cons hb ik =>
       rw [List.map_cons, List.map_cons, List.cons.injEq] at e1
       rw [Jg] at e2
       split at e2
       ·rename_i n ns r q1 q2
        cases e2
        rw [e1.1, V7 q1] at hb
        exact .cons ⟨_, rfl, hb, by simp⟩ (ih ik e1.2 q2)
       ·cases e2
theorem Uv : ∀ (d : D) (k k' : D → Prop), (∀ x, k x → k' x) → ju d k → ju d k' := fun d k k' h q => by
 unfold ju at q ⊢
 split at q
 ·split at q
  ·simp only [*] <;> exact h _ q
  ·exact q.elim
 ·split at q
  ·simp only [*] <;> exact h _ q
  ·exact q.elim
 ·split at q
  ·simp only [*] <;> exact h _ q
  ·exact q.elim
 ·exact q.elim
theorem Jz (hx : Ok X) : CallD X (.builtin "sorted") 1 (op1 ju) := Xp (by decide) (fun pins s σ H x us Q d g I rs r q => by
 obtain ⟨u, rfl, rx⟩ := vals1 rs
 unfold ju at q
 split at q
 ·split at q
  ·rename_i xs l e
   obtain ⟨a, vs, g', rfl, ha, ra, _⟩ := r.listAt1 (Nat.le_refl _)
   cases rx
   obtain ⟨its, rv, pl, hz⟩ := I.list (.inl (.inl ha) : SqL X.K H a vs)
   obtain ⟨o, ho, hc, n, hd⟩ := pl.isList
   refine sorted_run hx I rv (QD (X := X) (Nat.le_refl _) ra e) (by rw [← rv.length]; exact hz) (fun A E Q hh k => ?_) q
   exact wpAny_collect_seq a (.inl rfl) ho hc hd (fun h' kk => by simpa using k h' s.toks kk) (by rw [List.size_toArray, ← rv.length]; exact hz)
  ·exact q.elim
 ·split at q
  ·rename_i xs l e
   obtain ⟨a, vs, rfl, ha, ra⟩ := r.tupleAt (Nat.le_refl _)
   cases rx
   obtain ⟨its, rv, pl, hz⟩ := I.tuple (.of ha : SqT X.K H a vs)
   obtain ⟨o, ho, hc, n, hd⟩ := pl
   refine sorted_run hx I rv (QD (X := X) (Nat.le_refl _) ra e) (by rw [← rv.length]; exact hz) (fun A E Q hh k => ?_) q
   exact wpAny_collect_seq a (.inr rfl) ho hc hd (fun h' kk => by simpa using k h' s.toks kk) (by rw [List.size_toArray, ← rv.length]; exact hz)
  ·exact q.elim
 ·split at q
  ·rename_i kvs l e
   cases r with
   | dTF l _ _ _ _ => exact absurd l (by omega)
   | @dT a hs kvs f ha he nd r nn =>
     cases rx
     obtain ⟨z, hss, ks, pr, o, es, ep, ho, hxx, hdt, hee, hn⟩ := (show ObjOk X.prog X.w H s.heap a (.dT hs) from I.hok a _ ha)
     have l1 : es.size = ks.length := size_of_entries hee
     have l2 : hs.length = ks.length := Paired.length pr
     refine sorted_run (xs := (ks.map fun x => x.2.1).map V.ref) (vs := (ks.map fun x => x.2.1).map Value.ref) hx I (vals_refs _) (V6 (isKeys_of pr) he e) (by rw [List.length_map, List.length_map]; omega) (fun A E Q hh k => ?_) q
     refine PySem.W.kdu_collect (A := A) (kdl_raw hss hxx hdt) hh ho (by omega) fun h' tk acc kp it => ?_
     have ea : acc.toList = (ks.map fun x => x.2.1).map Value.ref := by
      rw [List.map_map]
      apply List.ext_getElem?
      intro j
      have hl : acc.toList.length = ks.length := by rw [Array.length_toList, it.1]; exact l1
      cases hj : acc.toList[j]? with
      | none =>
        have h1 := List.getElem?_eq_none_iff.mp hj
        rw [List.getElem?_eq_none (by rw [List.length_map]; omega)]
      | some v =>
        obtain ⟨en, hen, hv⟩ := it.2 j v (by rw [← Array.getElem?_toList]; exact hj)
        have qe := entry_at hee j
        rw [hen] at qe
        rw [List.getElem?_map]
        cases hb : ks[j]? with
        | none => rw [hb] at qe; cases qe
        | some b =>
          rw [hb] at qe
          have e2 : en = entryOfKey (tupleKind (mixKind X.prog X.w)) b := Option.some.inj qe
          rw [hv, e2]
          rfl
     rw [ea]
     exact k h' tk kp
  ·exact q.elim
 ·exact q.elim) Uv
end
end BX
namespace BX
open PySem PySem.Spec PyProof.Rows L2
def D.ty : D → String
 | .non => "NoneType"
 | .bl _ => "bool"
 | .int _ => "int"
 | .str _ => "str"
 | .tup _ => "tuple"
 | .lst _ => "list"
 | .dT _ => "dict"
 | .dK _ => "dict"
 | .dF _ => "dict"
 | .lF _ => "list"
 | .ob _ _ => "list"
 | .ex _ _ => "list"
 | .dN _ => "list"
def isiB (T : String) (d : D) : Bool := d.ty == T || (d.ty == "bool" && T == "int")
def TyOk (T : String) : Prop := ∀ t ∈ ["NoneType", "bool", "int", "str", "tuple", "list", "dict"], kitB t T = some (t == T || (t == "bool" && T == "int"))
theorem D.ty_mem (d : D) : d.ty ∈ ["NoneType", "bool", "int", "str", "tuple", "list", "dict"] := by cases d <;> simp [D.ty]
theorem qgs : TyOk "int" := by unfold TyOk; decide +kernel
theorem Uh : TyOk "bool" := by unfold TyOk; decide +kernel
theorem qd3 : TyOk "str" := by unfold TyOk; decide +kernel
theorem YH : TyOk "tuple" := by unfold TyOk; decide +kernel
theorem Ug : TyOk "list" := by unfold TyOk; decide +kernel
def TyY (K : PySem.W.Frag) (H : Hp) (x : V) (t : Value) : Prop := TyX K H x t ∨ ∃ (a : Addr) (o : Obj) (kvs : List (List Key × V)), x = .ref a ∧ t = .type "dict" ∧ H a = some (.frz o (.dT kvs))
section
variable {X : Cx}
theorem TyY.kit {pins : List (Addr × Obj)} {σ : L2.St} {H : Hp} {s : Shared} {x : V} {u t : Value} (ty : TyY X.K H x t) (I : Inv X pins σ H s) (rx : RelV x u) : ∃ P : Heap → Prop, PySem.W.KitX X.K u t P ∧ P s.heap ∧ u ≠ .builtin "__main__.__loader__#opaque" := by
 rcases ty with ty | ⟨a, o, kvs, rfl, rfl, ha⟩
 ·exact kit_of I rx ty
 ·obtain rfl : u = .ref a := rx
  obtain ⟨_, _, _, _, o, _, _, g, z, _⟩ := dt_rd I.hok (.inr ⟨o, ha⟩)
  exact ⟨_, PySem.W.kitx_dict, ⟨o, g, z.1⟩, fun z => nomatch z⟩
def rIsY (K : PySem.W.Frag) : List V → Hp → VK → Prop := fun xs H Q => ∃ (x c : V) (t u : Value) (b : Bool), ClsV c u ∧ PySem.W.kitOne K t u = some b ∧ xs = [x, c] ∧ TyY K H x t ∧ Q (.bl b) H
def qiH (K : PySem.W.Frag) : List V → Hp → VK → Prop := fun xs H Q => ∃ (x : V) (tp : Addr) (cs : List V) (t : Value) (us : List Value) (b : Bool), Paired ClsV cs us ∧ PySem.W.kitAny K t us = some b ∧ H tp = some (.tup cs) ∧ xs = [x, .ref tp] ∧ TyY K H x t ∧ Q (.bl b) H
theorem qdT : CallR X (.builtin "isinstance") (rIsY X.K) := fun pins s σ H xs us Q I r ⟨x, c, t, u, b, k, e, l, ty, q⟩ => by
 subst l
 obtain ⟨u1, u2, rfl, r1, r2⟩ := vals2 r
 obtain ⟨P, Z, p, ne⟩ := ty.kit I r1
 rw [k.eq r2]
 exact PySem.W.kia_one Z I.kIn p e ne fun tk => ⟨.bl b, H, I.tok tk, rfl, q⟩
theorem qcZ : CallR X (.builtin "isinstance") (qiH X.K) := fun pins s σ H xs us Q I r ⟨x, tp, cs, t, ws, b, k, e, hT, l, ty, q⟩ => by
 subst l
 obtain ⟨u1, u2, rfl, r1, r2⟩ := vals2 r
 obtain rfl : u2 = Value.ref tp := r2
 obtain ⟨P, Z, p, ne⟩ := ty.kit I r1
 obtain ⟨_, its, rv, ⟨oc, od, dt, sl⟩, h1, h2, n, h3⟩ := (show ObjOk X.prog X.w H s.heap tp (.tup cs) from I.hok tp _ hT)
 obtain rfl := ClsV.all k rv
 simp only at h2 h3
 subst h2 h3
 exact PySem.W.kia_tup Z I.kIn p h1 e ne fun tk => ⟨.bl b, H, I.tok tk, rfl, q⟩
end
section
variable {K : PySem.W.Frag} {H : Hp} {lv : Nat}
def nob : D → Prop
 | .ob _ _ => False
 | .ex _ _ => False
 | .dN _ => False
 | _ => True
theorem Rep.tyX {d : D} {x : V} {g : List Addr} (r : Rep K H lv d x g) (hn : nob d) : TyY K H x (.type d.ty) := by
 cases r with
 | non => exact .inl <| .base .non
 | bl b => exact .inl <| .base (.bl b)
 | int b => exact .inl <| .base (.int b)
 | str b => exact .inl <| .base (.str b)
 | tup h r => exact .inl <| .base (.tup h)
 | tupK l h r => obtain ⟨o, its, n, e, c, _⟩ := h; exact .inl <| .kTuple e c
 | lst h r n => exact .inl <| .base (.lst h)
 | lstF l h r =>
   rcases h with ⟨o, h⟩ | ⟨o, its, n, e, c, _⟩
   ·exact .inl <| .base (.frz h)
   ·exact .inl <| .kList e c
 | dT h e nd r n => exact .inl <| .base (.dT h)
 | dTF l h e nd r => exact .inr ⟨_, _, _, rfl, rfl, h⟩
 | dF h e nd r => exact .inr ⟨_, _, _, rfl, rfl, h⟩
 | lF h r => exact .inl <| .base (.frz h)
 | ob h c e r n => exact hn.elim
 | ex h c e z => exact hn.elim
 | dN h e nd kk r n => exact hn.elim
 | dK h e nd r n => exact .inl <| .base (.dK h)
end
def xIsi (T : String) (t : XE) : XE := fun env Q => t env fun r e => rd 2 r e fun d => nob d ∧ Q (.tmp (.bl (isiB T d))) e
def qeF (T U : String) (t : XE) : XE := fun env Q => t env fun r e => rd 2 r e fun d => nob d ∧ Q (.tmp (.bl (isiB T d || isiB U d))) e
section
variable {X : Cx} {e : Expr} {t : XE} {p p2 p3 p4 pos : Pos} {T U : Str}
theorem vQ {T0 : String} (hk : TyOk T0) (he : DE X e t) (hm : X.mg "isinstance" = none) (hmT : X.mg T = none) (hT : bootBuiltins T = some (.type T0)) (hg : Gl X "isinstance" := by rfl) (hgT : Gl X T := by rfl)
 (hn : T ≠ "__name__" := by decide) (hd : (T == ("__debug__" : Str)) = false := by decide)
 (h1 : starEach [e, .Name T p2] X.env = (false, eval e X.env) :: starEach [.Name T p2] X.env := by rfl) (h2 : starEach [Expr.Name T p2] X.env = (false, eval (.Name T p2) X.env) :: starEach [] X.env := by rfl)
 (hpl : (backTo pos (starEach [Expr.Name T p2] X.env)).any (·.1) = false := by rfl) : DE X (.Call (.Name "isinstance" p) [e, .Name T p2] [] pos) (xIsi T0 t) := by
 refine ⟨PE.imp (pe_callB qdT hg hm (by rfl) (pa_cons he.run (pa_cons (pe_bltn (v := .ty T0) hgT hmT hT rfl hn hd) pa_nil h2) h1) (by decide) (by decide) h1 hpl) fun σ H Q q => ?_, fun env Q Q' h q => he.mono _ _ _ (fun r e q => qO (fun d q => ⟨q.1, h _ _ q.2⟩) q) q⟩
 obtain ⟨env, f, A, q⟩ := q
 refine ⟨env, f, A, he.mono _ _ _ (fun r e1 q => ?_) q⟩
 intro x H1 f1 g1 A1 R1 S1 K1
 obtain ⟨d, g', rp, q⟩ := yO A1 R1 q
 exact ⟨x, .ty T0, .type d.ty, .type T0, isiB T0 d, .ty T0, kit_ty (hk _ d.ty_mem), rfl, rp.tyX q.1, q.2 _ H1 f1 [] A1 (.tmp (.bl _) qm) (S1.drop fun _ z => by simp at z) K1⟩
theorem qfI {T0 U0 : String} {x1 : Nat} (hk : TyOk T0) (hk2 : TyOk U0) (he : DE X e t) (hm : X.mg "isinstance" = none) (hmT : X.mg T = none) (hmU : X.mg U = none) (hT : bootBuiltins T = some (.type T0)) (hU : bootBuiltins U = some (.type U0)) (hg : Gl X "isinstance" := by rfl) (hgT : Gl X T := by rfl) (hgU : Gl X U := by rfl)
 (hn : T ≠ "__name__" := by decide) (hd : (T == ("__debug__" : Str)) = false := by decide) (hn2 : U ≠ "__name__" := by decide) (hd2 : (U == ("__debug__" : Str)) = false := by decide)
 (h1 : starEach [e, .Tuple [.Name T p2, .Name U p3] x1 p4] X.env = (false, eval e X.env) :: starEach [.Tuple [.Name T p2, .Name U p3] x1 p4] X.env := by rfl)
 (h2 : starEach [Expr.Tuple [.Name T p2, .Name U p3] x1 p4] X.env = (false, eval (.Tuple [.Name T p2, .Name U p3] x1 p4) X.env) :: starEach [] X.env := by rfl)
 (h3 : starEach [Expr.Name T p2, .Name U p3] X.env = (false, eval (.Name T p2) X.env) :: starEach [.Name U p3] X.env := by rfl) (h4 : starEach [Expr.Name U p3] X.env = (false, eval (.Name U p3) X.env) :: starEach [] X.env := by rfl)
 (hpl : (backTo pos (starEach [Expr.Tuple [.Name T p2, .Name U p3] x1 p4] X.env)).any (·.1) = false := by rfl) : DE X (.Call (.Name "isinstance" p) [e, .Tuple [.Name T p2, .Name U p3] x1 p4] [] pos) (qeF T0 U0 t) := by
 refine ⟨PE.imp (pe_callB qcZ hg hm (by rfl) (pa_cons he.run (pa_cons (pe_tup (pa_cons (pe_bltn (v := .ty T0) hgT hmT hT rfl hn hd) (pa_cons (pe_bltn (v := .ty U0) hgU hmU hU rfl hn2 hd2) pa_nil h4) h3)) pa_nil h2) h1) (by decide) (by decide) h1 hpl) fun σ H Q q => ?_, fun env Q Q' h q => he.mono _ _ _ (fun r e q => qO (fun d q => ⟨q.1, h _ _ q.2⟩) q) q⟩
 obtain ⟨env, f, A, q⟩ := q
 refine ⟨env, f, A, he.mono _ _ _ (fun r e1 q => ?_) q⟩
 intro x H1 f1 g1 A1 R1 S1 K1
 obtain ⟨d, g', rp, q⟩ := yO A1 R1 q
 refine ⟨by show 2 ≤ sizeLine; decide, fun tp hf => ?_⟩
 have ex : Ext H1 (upd H1 tp (.tup [.ty T0, .ty U0])) [] := .updT hf
 obtain ⟨A3, R3, S3⟩ := vI A1 S1 ex (.bl (isiB T0 d || isiB U0 d))
 refine ⟨x, tp, [.ty T0, .ty U0], .type d.ty, [.type T0, .type U0], isiB T0 d || isiB U0 d, .cons (.ty T0) (.cons (.ty U0) .nil), ?_, upd_same, rfl, (rp.keep fun b o e _ => ex.same b o e).tyX q.1, q.2 _ _ f1 [] A3 R3 S3 K1⟩
 refine kitAny_cons (kit_ty (hk _ d.ty_mem)) (fun h => kitAny_cons (kit_ty (hk2 _ d.ty_mem)) (fun h2 => ?_) fun h2 => ?_) fun h => ?_
 ·rw [kitAny_nil]; unfold isiB; rw [h, h2]; rfl
 ·unfold isiB; rw [h2]; simp
 ·unfold isiB; rw [h]; rfl
theorem vR : CallD X (.builtin "len") 2 (op1 bLen) := Xp (by decide) (fun pins s σ H x us Q d g I rs r q => by
 unfold bLen at q
 split at q
 ·obtain ⟨a, vs, g', rfl, hs, rr, _, _⟩ := r.listSq
  exact call_len pins s σ H _ us Q I rs ⟨_, _, rfl, .inl ⟨vs, hs, rfl⟩, by rw [← rr.len]; exact q _ _ _ (.int _) .refl⟩
 ·obtain ⟨a, vs, rfl, hs, rr, _⟩ := r.lFSq
  exact call_len pins s σ H _ us Q I rs ⟨_, _, rfl, .inl ⟨vs, hs, rfl⟩, by rw [← rr.len]; exact q _ _ _ (.int _) .refl⟩
 ·obtain ⟨a, vs, rfl, hs, rr⟩ := r.tupleSq
  exact call_len pins s σ H _ us Q I rs ⟨_, _, rfl, .inr ⟨vs, hs, rfl⟩, by rw [← rr.len]; exact q _ _ _ (.int _) .refl⟩
 ·obtain ⟨rfl, _⟩ := r.strV
  exact call_len pins s σ H _ us Q I rs ⟨.str _, _, rfl, ⟨q.1, rfl⟩, q.2 _ _ _ (.int _) .refl⟩
 ·cases r with
  | @dK a hs kvs f ha he nd rr nn =>
    have hl := congrArg List.length he
    rw [List.length_map, List.length_map] at hl
    exact call_lenD pins s σ H _ us Q I rs ⟨_, _, rfl, ha, by rw [hl]; exact q _ _ _ (.int _) .refl⟩
 ·cases r with
  | @dT a hs kvs f ha he nd rr nn =>
    have hl := congrArg List.length he
    rw [List.length_map, List.length_map] at hl
    exact call_len_dT pins s σ H _ us Q I rs ⟨_, _, rfl, ha, by rw [hl]; exact q _ _ _ (.int _) .refl⟩
  | @dTF a o hs kvs f l ha he nd rr =>
    have hl := congrArg List.length he
    rw [List.length_map, List.length_map] at hl
    obtain ⟨u, rfl, rx⟩ := vals1 rs
    obtain rfl : u = .ref a := rx
    obtain ⟨z, hd, ys, rel, dd⟩ := dt_rd I.hok (.inr ⟨o, ha⟩)
    have hl2 : hs.length = ys.length := Paired.length rel
    refine call_len_dictH hd dd (by rw [← hl2]; rw [sizeLine_eq] at z; omega) ?_
    rw [← hl2, hl]
    exact ⟨.int _, H, I.tok _, ⟨_, rfl⟩, q _ _ _ (.int _) .refl⟩
 ·exact q.elim) (fun d k k' h q => by
 unfold bLen at q ⊢
 split at q
 ·exact h _ q
 ·exact h _ q
 ·exact h _ q
 ·exact ⟨q.1, h _ q.2⟩
 ·exact h _ q
 ·exact h _ q
 ·exact q.elim)
end
def blD (d : D) (k : Bool → Prop) : Prop := match d with
 | .bl b => k b
 | _ => False
def dChn (L : Nat) (op : OP) (L' : Nat) (op' : OP) (ta tb tc : XE) : XE := fun env Q => ta env fun r1 e1 => tb e1 fun r2 e2 => rd L r1 e2 fun d1 => rd L r2 e2 fun d2 => op d1 d2 fun d => blD d fun b =>
 (b = true → tc e2 fun r3 e3 => rd L' r2 e3 fun d2 => rd L' r3 e3 fun d3 => op' d2 d3 fun d => Q (.tmp d) e3) ∧ (b = false → Q (.tmp (.bl false)) e2)
section
variable {K : PySem.W.Frag} {σ : L2.St} {H H1 H' : Hp} {env e1 : En} {f f1 : FA} {g g1 : List Addr} {r : R} {v : V}
theorem ResOk.ext (h : ResOk K σ H env f r v g) (A : Abs K σ H env f) (x : ∀ b o, H b = some o → H' b = some o) : ResOk K σ H' env f r v g := by
 cases h with
 | tmp r n => exact .tmp (r.keep fun b o e _ => x b o e) n
 | ro r n => exact .ro (r.keep fun b o e _ => x b o e) n
 | sl e1 e2 hm => exact .sl e1 e2 hm
end
section
variable {X : Cx} {a b c : Expr} {ta tb tc : XE} {pos : Pos} {L L' : Nat} {op op' : OP} {o o' : CmpOp}
def BlOp (op : OP) : Prop := ∀ d1 d2 k, op d1 d2 k → op d1 d2 fun d => (∃ b, d = .bl b) ∧ k d
theorem qhA : BlOp opGt := fun d1 d2 k q => by cases d1 <;> cases d2 <;> first | exact q.elim | exact ⟨⟨_, rfl⟩, q⟩
theorem JF : BlOp opEq := fun d1 d2 k q => ⟨q.1, q.2.1, ⟨_, rfl⟩, q.2.2⟩
theorem JC : BlOp opNe := fun d1 d2 k q => ⟨q.1, q.2.1, ⟨_, rfl⟩, q.2.2⟩
theorem qja : BlOp opLt := fun d1 d2 k q => by
 unfold opLt at q ⊢
 split at q
 ·exact ⟨⟨_, rfl⟩, q⟩
 ·split at q
  ·simp only [*]; exact ⟨⟨_, rfl⟩, trivial⟩
  ·exact q.elim
 ·exact q.elim
theorem qjb : BlOp opIs := fun d1 d2 k q => by
 unfold opIs at q ⊢
 split at q
 ·exact ⟨⟨_, rfl⟩, q⟩
 ·exact ⟨⟨_, rfl⟩, q⟩
 ·exact q.elim
theorem JD {n : Bool} : BlOp (Qx n) := fun d1 d2 k q => by
 unfold Qx at q ⊢
 split at q
 ·split at q
  ·split at q
   ·simp only [*]; exact ⟨⟨_, rfl⟩, trivial⟩
   ·exact q.elim
  ·exact q.elim
 ·split at q
  ·simp only [*]; exact ⟨⟨_, rfl⟩, trivial⟩
  ·exact q.elim
 ·exact ⟨q.1, q.2.1, ⟨_, rfl⟩, q.2.2⟩
 ·exact ⟨q.1, q.2.1, ⟨_, rfl⟩, q.2.2⟩
 ·exact ⟨q.1, q.2.1, ⟨_, rfl⟩, q.2.2⟩
 ·split at q
  ·exact ⟨⟨_, rfl⟩, q⟩
  ·exact q.elim
 ·exact q.elim
end
end BX
namespace BX
open PySem PySem.Spec PyProof.Rows L2
section
variable {κ : Type} [DecidableEq κ] {K : PySem.W.Frag} {H : Hp}
def putD (k : κ) (d : D) : List (κ × D) → List (κ × D)
 | [] => [(k, d)]
 | p :: r => if p.1 = k then (p.1, d) :: r else p :: putD k d r
def putV (k : κ) (d : V) : List (κ × V) → List (κ × V)
 | [] => [(k, d)]
 | p :: r => if p.1 = k then (p.1, d) :: r else p :: putV k d r
theorem qbR (k : κ) (v : V) : ∀ hs : List (κ × V), (∀ p ∈ hs, p.1 ≠ k) → putV k v hs = hs ++ [(k, v)]
 | [], _ => rfl
 | p :: r, h => by
   rw [putV, if_neg (h p (List.mem_cons_self ..)), qbR k v r fun q hq => h q (List.mem_cons_of_mem _ hq)]
   rfl
theorem VF (k : κ) (v : V) : ∀ hs : List (κ × V), (hs.map (·.1)).Nodup → (∃ p ∈ hs, p.1 = k) → putV k v hs = hs.map fun kv => if kv.1 = k then (kv.1, v) else kv
 | [], _, h => by obtain ⟨p, h, _⟩ := h; simp at h
 | p :: r, nd, h => by
   rw [List.map_cons, List.nodup_cons] at nd
   rw [putV, List.map_cons]
   by_cases e : p.1 = k
   ·rw [if_pos e, if_pos e]
    congr 1
    have : ∀ q ∈ r, (if q.1 = k then (q.1, v) else q) = q := fun q hq => if_neg fun z => nd.1 (List.mem_map.mpr ⟨q, hq, z.trans e.symm⟩)
    rw [List.map_congr_left this, List.map_id']
   ·rw [if_neg e, if_neg e]
    congr 1
    obtain ⟨q, hq, hk⟩ := h
    rcases List.mem_cons.mp hq with rfl | hq
    ·exact absurd hk e
    ·exact VF k v r nd.2 ⟨q, hq, hk⟩
theorem qea {k : κ} {v : V} {hs : List (κ × V)} (nd : (hs.map (·.1)).Nodup) : putK hs k v = putV k v hs := by
 unfold putK
 split
 ·rename_i h
  rw [List.any_eq_true] at h
  obtain ⟨p, hp, e⟩ := h
  exact (VF k v hs nd ⟨p, hp, of_decide_eq_true e⟩).symm
 ·rename_i h
  refine (qbR k v hs fun p hp e => h ?_).symm
  rw [List.any_eq_true]
  exact ⟨p, hp, decide_eq_true e⟩
theorem YX (k : κ) (v : V) (d : D) : ∀ {hs : List (κ × V)} {kvs : List (κ × D)}, hs.map (·.1) = kvs.map (·.1) → (putV k v hs).map (·.1) = (putD k d kvs).map (·.1)
 | [], [], _ => rfl
 | [], _ :: _, e => by simp at e
 | _ :: _, [], e => by simp at e
 | p :: hs, q :: kvs, e => by
   rw [List.map_cons, List.map_cons, List.cons.injEq] at e
   rw [putV, putD]
   by_cases h : p.1 = k
   ·rw [if_pos h, if_pos (e.1 ▸ h), List.map_cons, List.map_cons, e.1, e.2]
   ·rw [if_neg h, if_neg (e.1 ▸ h), List.map_cons, List.map_cons, e.1, YX k v d e.2]
theorem VG {k : κ} {d : D} : ∀ {kvs : List (κ × D)} {x : κ}, x ∈ (putD k d kvs).map (·.1) → x = k ∨ x ∈ kvs.map (·.1)
 | [], x, h => .inl (by simpa [putD] using h)
 | p :: r, x, h => by
   rw [putD] at h
   split at h
   ·exact .inr (by simpa using h)
   ·rw [List.map_cons] at h ⊢
    rcases List.mem_cons.mp h with rfl | h
    ·exact .inr (List.mem_cons_self ..)
    ·exact (VG h).imp_right fun z => List.mem_cons_of_mem _ z
theorem Q7 {k : κ} {d : D} : ∀ {kvs : List (κ × D)}, (kvs.map (·.1)).Nodup → ((putD k d kvs).map (·.1)).Nodup
 | [], _ => by simp [putD]
 | p :: r, nd => by
   rw [putD]
   split
   ·exact nd
   ·rename_i h
    rw [List.map_cons, List.nodup_cons] at nd ⊢
    exact ⟨fun z => (VG z).elim h nd.1, Q7 nd.2⟩
theorem YW {k : κ} {d : D} {v : V} {g : List Addr} (r : Rep K H 0 d v g) : ∀ {kvs : List (κ × D)} {hs : List (κ × V)} {fp : List Addr}, hs.map (·.1) = kvs.map (·.1) → Reps K H 0 (kvs.map (·.2)) (hs.map (·.2)) fp → (∀ b ∈ fp, b ∉ g) →
 ∃ fp', Reps K H 0 ((putD k d kvs).map (·.2)) ((putV k v hs).map (·.2)) fp' ∧ ∀ b ∈ fp', b ∈ fp ∨ b ∈ g
 | [], [], _, _, .nil, _ => ⟨g, Reps.one r, fun b hb => .inr hb⟩
 | [], _ :: _, _, e, _, _ => by simp at e
 | _ :: _, [], _, e, _, _ => by simp at e
 | q :: kvs, p :: hs, fp, e, rr, dj => by
   rw [List.map_cons, List.map_cons, List.cons.injEq] at e
   rw [List.map_cons, List.map_cons] at rr
   cases rr with
   | @cons _ _ f1 _ _ f2 r1 rt n =>
     rw [putV, putD]
     by_cases h : p.1 = k
     ·rw [if_pos h, if_pos (e.1 ▸ h), List.map_cons, List.map_cons]
      exact ⟨g ++ f2, .cons r rt fun _ b hb z => dj b (List.mem_append_right _ z) hb, fun b hb => (List.mem_append.mp hb).elim .inr fun z => .inl (List.mem_append_right _ z)⟩
     ·rw [if_neg h, if_neg (e.1 ▸ h), List.map_cons, List.map_cons]
      obtain ⟨fp', r', s'⟩ := YW r e.2 rt fun b hb => dj b (List.mem_append_right _ hb)
      refine ⟨f1 ++ fp', .cons r1 r' fun _ b hb z => (s' b z).elim (n rfl b hb) (dj b (List.mem_append_left _ hb)), fun b hb => (List.mem_append.mp hb).elim (fun z => .inl (List.mem_append_left _ z)) fun z => (s' b z).imp_left fun y => List.mem_append_right _ y⟩
theorem Vu {d : D} {v : V} {g : List Addr} (r : Rep K H 0 d v g) : ∀ {ds : List D} {vs : List V} {fp : List Addr} (j : Nat), Reps K H 0 ds vs fp → (∀ b ∈ fp, b ∉ g) → ∃ fp', Reps K H 0 (ds.set j d) (vs.set j v) fp' ∧ ∀ b ∈ fp', b ∈ fp ∨ b ∈ g
 | _, _, _, _, .nil, _ => ⟨[], .nil, fun b hb => by simp at hb⟩
 | _, _, _, 0, .cons (g := f2) r1 rt n, dj => ⟨g ++ f2, .cons r rt fun _ b hb z => dj b (List.mem_append_right _ z) hb, fun b hb => (List.mem_append.mp hb).elim .inr fun z => .inl (List.mem_append_right _ z)⟩
 | _, _, _, j + 1, .cons (f := f1) (g := f2) r1 rt n, dj => by
   obtain ⟨fp', r', s'⟩ := Vu r j rt fun b hb => dj b (List.mem_append_right _ hb)
   exact ⟨f1 ++ fp', .cons r1 r' fun e b hb z => (s' b z).elim (n e b hb) (dj b (List.mem_append_left _ hb)), fun b hb => (List.mem_append.mp hb).elim (fun z => .inl (List.mem_append_left _ z)) fun z => (s' b z).imp_left fun y => List.mem_append_right _ y⟩
end
def putR (ro : R) (di d : D) (e : En) (nx : En → Prop) : Prop := chg ro e fun i dd m => match dd with
 | .lst xs => match di with
   | .int j => match ixN xs.length j with
     | some n => nx (e.set i (some (.lst (xs.set n d), m)))
     | none => False
   | _ => False
 | .dT kvs => match di with
   | .tup ks => match xJ ks with
     | some k => kvs.length < sizeLine ∧ nx (e.set i (some (.dT (putD k d kvs), m)))
     | none => False
   | _ => False
 | _ => False
def sPut (te to ti : XE) : XS := fun env nx _ => te env fun r e1 => to e1 fun ro e2 => ti e2 fun ri e3 => stor r e3 fun d => rd 1 ri e3 fun di => putR ro di d e3 nx
theorem qbS {ro : R} {di d : D} {e : En} {k k' : En → Prop} (h : ∀ e, k e → k' e) (q : putR ro di d e k) : putR ro di d e k' := Xm (fun i dd m q => by
 split at q
 ·split at q
  ·split at q
   ·simp only [*] <;> exact h _ q
   ·exact q.elim
  ·exact q.elim
 ·split at q
  ·split at q
   ·have q2 := h _ q.2
    simp only [*]
    first | exact ⟨trivial, trivial⟩ | exact ⟨q.1, trivial⟩ | exact trivial
   ·exact q.elim
  ·exact q.elim
 ·exact q.elim) q
section
variable {X : Cx} {o i e : Expr} {te to ti : XE} {pos tpos : Pos}
def qiG : TSet := fun o i v H Q => rSetL o i v H Q ∨ rSetD o i v H Q
theorem qbG (hx : Ok X) : PSet X qiG := fun pins s σ H o i v ov iv u Q I ro ri rv h => h.elim (set_list pins s σ H o i v ov iv u Q I ro ri rv) (set_dict (by have := hx.un; omega) pins s σ H o i v ov iv u Q I ro ri rv)
theorem qcD (hx : Ok X) (he : DE X e te) (ho : DE X o to) (hi : DE X i ti) (hs : swapsWithSole [.Subscript o i tpos] e pos.line X.env = pure false := by rfl) (hw : swappedStores [.Subscript o i tpos] e X.env = pure none := by rfl)
 (h1 : (assignEach [.Subscript o i tpos] X.env).map (·.2) = [assign (.Subscript o i tpos) X.env] := by rfl)
 (ha : ∀ v, assign (.Subscript o i tpos) X.env v = (do
  let ov ← holding [v] (eval o X.env)
  let iv ← holding [v, ov] (eval i X.env)
  standAt tpos
  holding [v, ov, iv] (setItem ov iv v)
  release [v, ov, iv] []) := by intro _; rfl) : DS X (.Assign [.Subscript o i tpos] e pos) (sPut te to ti) := by
 refine ⟨PS.imp (ps_asg he.run (pg_sub ho.run hi.run (qbG hx) ha) hs hw h1) fun D σ H q => ?_, fun env nx nx' rt rt' h h' q => he.mono _ _ _ (fun r e q => ho.mono _ _ _ (fun r e q => hi.mono _ _ _ (fun r e q => uo (fun d q => qO (fun d q => qbS h q) q) q) q) q) q⟩
 obtain ⟨env, f, A, q⟩ := q
 refine ⟨env, f, A, he.mono _ _ _ (fun r e1 q => ?_) q⟩
 intro v H1 f1 g1 A1 R1 S1 K1
 refine ⟨e1, f1, A1, ho.mono _ _ _ (fun ro e2 q => ?_) q⟩
 intro vo H2 f2 g2 A2 R2 S2 K2
 refine ⟨e2, f2, A2, hi.mono _ _ _ (fun ri e3 q => ?_) q⟩
 intro vi H3 f3 g3 A3 R3 S3 K3
 obtain ⟨R1', n1⟩ := R1.wait A1 S2 K2
 obtain ⟨R1'', n1'⟩ := R1'.wait A2 S3 K3
 obtain ⟨R2', n2⟩ := R2.wait A2 S3 K3
 have S : Stp H env f [] H3 e3 f3 g1 := ((S1.trans ((S2.drop (G2 := []) fun _ z => by simp at z).frame g1)).drop (G2 := g1) (fun b hb => by simpa using hb)).trans ((S3.drop (G2 := []) fun _ z => by simp at z).frame g1) |>.drop fun b hb => by simpa using hb
 have Kk := (K1.trans K2).trans K3
 obtain ⟨d, rd1, q, nn⟩ := Q3 A3 R1'' q
 obtain ⟨di, gi, rpi, q⟩ := yO A3 R3 q
 obtain ⟨n, dd, m, en, hm, hl, hv, rp, rfl, q⟩ := qcU A3 R2' q
 split at q
 ·obtain ⟨a, vs, fp, rfl, hH, rr, hf, nfp⟩ := rp.listAt
  split at q
  ·split at q
   ·rename_i m' hj
    obtain ⟨rfl, _⟩ := rpi.intV
    have dj : ∀ b ∈ fp, b ∉ g1 := fun b hb z => (nn b z).1 ⟨n, _, m, en, hl, by rw [hf]; exact List.mem_cons_of_mem _ hb⟩
    obtain ⟨fp', r', s'⟩ := Vu rd1 m' rr dj
    obtain ⟨A4, S4, K4, _⟩ := ZG (G := g1) (G' := []) A3 en hm hl hv hH hf nfp r' s' nn qm
    refine .inl ⟨a, vs, _, m', rfl, rfl, hH, by rw [← rr.len]; exact hj, q σ _ _ A4 (S.trans S4) (Kk.trans K4).kq⟩
   ·exact q.elim
  ·exact q.elim
 ·obtain ⟨a, hs, fp, rfl, hH, ek, nd, rr, hf, nfp⟩ := rp.dTAt
  split at q
  ·split at q
   ·rename_i k hk
    obtain ⟨b, ws, rfl, hb, rb⟩ := rpi.tupleAt (Nat.le_refl _)
    rw [rb.xJ hk] at hb
    have dj : ∀ b ∈ fp, b ∉ g1 := fun b hb z => (nn b z).1 ⟨n, _, m, en, hl, by rw [hf]; exact List.mem_cons_of_mem _ hb⟩
    obtain ⟨fp', r', s'⟩ := YW (k := k) rd1 ek rr dj
    have ndh : (hs.map (·.1)).Nodup := by rw [ek]; exact nd
    obtain ⟨A4, S4, K4, _⟩ := qal (G := g1) (G' := []) A3 en hm hl hv hH rfl hf (nfp rfl) (YX k v d ek) (Q7 nd) r' s' nn qm
    have hlen := congrArg List.length ek
    rw [List.length_map, List.length_map] at hlen
    refine .inr ⟨a, _, rfl, .t hH hb (by rw [hlen]; exact q.1), ?_⟩
    rw [qea ndh]
    exact q.2 σ _ _ A4 (S.trans S4) (Kk.trans K4).kq
   ·exact q.elim
  ·exact q.elim
 ·exact q.elim
end
end BX
namespace BX
open PySem PySem.Spec PyProof.Rows L2 RZ
def zc : R → Option Bool
 | .tmp _ => some false
 | .ro c _ => some c
 | .sl _ => none
def zipL (xs ys : List D) : List D := List.zipWith (fun x y => .tup [x, y]) xs ys
def zipS (r1 r2 : R) (d1 d2 : D) (e : En) (k : List D → Option Bool → Lok → En → Prop) : Prop := match zc r1, zc r2 with
 | some c, some c' => match d1, d2 with
   | .lst xs, .lst ys => k (zipL xs ys) (some (c || c')) none e
   | .tup xs, .tup ys => k (zipL xs ys) (some (c || c')) none e
   | _, _ => False
 | _, _ => False
def qft (t u : XE) : XI := fun env k => t env fun r1 e1 => u e1 fun r2 e2 => rd 2 r1 e2 fun d1 => rd 2 r2 e2 fun d2 => zipS r1 r2 d1 d2 e2 k
section
variable {K : PySem.W.Frag} {σ : L2.St} {H H1 : Hp} {env e1 : En} {f f1 : FA} {g : List Addr} {r : R} {x : V} {d : D}
theorem qer {c : Bool} (A : Abs K σ H1 e1 f1) (h : ResOk K σ H1 e1 f1 r x g) (hc : zc r = some c) (dd : r.data 2 e1 = some d) : ∃ gg, Rep K H1 (clv c) d x gg ∧ ∀ b ∈ gg, (∃ o, H1 b = some o) ∧ ¬ L0 e1 f1 b := by
 cases h with
 | @tmp d' _ _ rp n =>
   cases dd; cases hc
   exact ⟨g, rp.up (Nat.zero_le _), fun b hb => ⟨(rp.dom b hb).imp fun o z => z.1, (n b hb).1⟩⟩
 | @ro c' d' _ g0 rp n =>
   cases hc
   have dd' : d' = d := by
    unfold BX.R.data at dd
    cases e : roOk c 2 with
    | false => simp only [e] at dd; cases dd
    | true => simp only [e] at dd; exact Option.some.inj dd
   subst dd'
   exact ⟨g0, rp, fun b hb => ⟨(rp.dom b hb).imp fun o z => z.1, fun w => A.apart w (n b hb)⟩⟩
 | sl _ _ _ => cases hc
theorem WY {P Q : List Addr} {H : Hp} (n : Near H1 P H) (h : ∀ b ∈ Q, b ∈ P) : Near H1 Q H := fun b o e z => n b o e (z.imp_left (h b))
theorem qap (c c' : Bool) : clv c ≤ clv (c || c') ∧ clv c' ≤ clv (c || c') := by cases c <;> cases c' <;> decide
theorem Vl {xs ys : List D} {i : Nat} {d : D} (h : (zipL xs ys)[i]? = some d) : ∃ a b, xs[i]? = some a ∧ ys[i]? = some b ∧ d = .tup [a, b] := by
 unfold zipL at h
 rw [List.getElem?_zipWith] at h
 cases e1 : xs[i]? with
 | none => rw [e1] at h; cases h
 | some a =>
   cases e2 : ys[i]? with
   | none => rw [e1, e2] at h; cases h
   | some b => rw [e1, e2] at h; cases h; exact ⟨a, b, rfl, rfl, rfl⟩
theorem X5 {P g1 g2 : List Addr} {H : Hp} {c : Bool} {d1 d2 : D} {x y : V} {T : Addr} (hT : H T = none) (r1 : Rep K H (clv c) d1 x g1) (r2 : Rep K H (clv c) d2 y g2) (h1 : ∀ b ∈ g1, b ∈ P) (h2 : ∀ b ∈ g2, b ∈ P) :
 (∀ b o, H b = some o → (upd H T (.tup [x, y])) b = some o) ∧ Item K (upd H T (.tup [x, y])) P (some c) (.tup [d1, d2]) (.ref T) := by
 have kp : ∀ b o, H b = some o → (upd H T (.tup [x, y])) b = some o := (Ext.upd (o := .tup [x, y]) hT).same
 have hlv : clv c ≠ 0 := by cases c <;> decide
 refine ⟨kp, g1 ++ (g2 ++ []), .tup upd_same (.cons (r1.keep fun b o e _ => kp b o e) (.cons (r2.keep fun b o e _ => kp b o e) .nil fun z => absurd z hlv) fun z => absurd z hlv), fun b hb => ?_⟩
 rcases List.mem_append.mp hb with hb | hb
 ·exact h1 b hb
 ·rcases List.mem_append.mp hb with hb | hb
  ·exact h2 b hb
  ·simp at hb
variable {xs ys : List D} {vs ws : List V} {a b : Addr} {c c' : Bool} {g1 g2 P : List Addr}
theorem qeH (ha : ∀ H, Near H1 P H → SqL K H a vs) (hb : ∀ H, Near H1 P H → SqL K H b ws) (r1 : Reps K H1 (clv c) xs vs g1) (r2 : Reps K H1 (clv c') ys ws g2) (s1 : ∀ b ∈ g1, b ∈ P) (s2 : ∀ b ∈ g2, b ∈ P) : Wk K (Itz K a b) (zipL xs ys) (some (c || c')) H1 P where
 go := fun i H n h => by
  rw [zipL, List.length_zipWith] at h
  have l1 := r1.len; have l2 := r2.len
  exact ⟨vs, ws, vs[i]'(by omega), ws[i]'(by omega), ha H n, hb H n, List.getElem?_eq_getElem _, List.getElem?_eq_getElem _⟩
 stop := fun i H n h => by
  rw [zipL, List.length_zipWith] at h
  have l1 := r1.len; have l2 := r2.len
  exact ⟨vs, ws, ha H n, hb H n, by omega⟩
 yld := fun i H x H' d n e y => by
  obtain ⟨T, x', y', rfl, hT, rfl, hx, hy⟩ := y
  obtain ⟨d1, d2, e1, e2, rfl⟩ := Vl e
  obtain ⟨v1, h1, q1, rp1, t1⟩ := r1.get e1
  obtain ⟨v2, h2, q2, rp2, t2⟩ := r2.get e2
  have := hx vs (ha H n); rw [q1] at this; cases this
  have := hy ws (hb H n); rw [q2] at this; cases this
  exact X5 hT ((uQ rp1 n fun b hb => s1 b (t1 b hb)).up (qap c c').1) ((uQ rp2 n fun b hb => s2 b (t2 b hb)).up (qap c c').2) (fun b hb => s1 b (t1 b hb)) fun b hb => s2 b (t2 b hb)
theorem qeG (ha : ∀ H, Near H1 P H → SqT K H a vs) (hb : ∀ H, Near H1 P H → SqT K H b ws) (r1 : Reps K H1 (clv c) xs vs g1) (r2 : Reps K H1 (clv c') ys ws g2) (s1 : ∀ b ∈ g1, b ∈ P) (s2 : ∀ b ∈ g2, b ∈ P) : Wk K (ItzT K a b) (zipL xs ys) (some (c || c')) H1 P where
 go := fun i H n h => by
  rw [zipL, List.length_zipWith] at h
  have l1 := r1.len; have l2 := r2.len
  exact ⟨vs, ws, vs[i]'(by omega), ws[i]'(by omega), ha H n, hb H n, List.getElem?_eq_getElem _, List.getElem?_eq_getElem _⟩
 stop := fun i H n h => by
  rw [zipL, List.length_zipWith] at h
  have l1 := r1.len; have l2 := r2.len
  exact ⟨vs, ws, ha H n, hb H n, by omega⟩
 yld := fun i H x H' d n e y => by
  obtain ⟨T, x', y', rfl, hT, rfl, hx, hy⟩ := y
  obtain ⟨d1, d2, e1, e2, rfl⟩ := Vl e
  obtain ⟨v1, h1, q1, rp1, t1⟩ := r1.get e1
  obtain ⟨v2, h2, q2, rp2, t2⟩ := r2.get e2
  have := hx vs (ha H n); rw [q1] at this; cases this
  have := hy ws (hb H n); rw [q2] at this; cases this
  exact X5 hT ((uQ rp1 n fun b hb => s1 b (t1 b hb)).up (qap c c').1) ((uQ rp2 n fun b hb => s2 b (t2 b hb)).up (qap c c').2) (fun b hb => s1 b (t1 b hb)) fun b hb => s2 b (t2 b hb)
end
theorem qbc {r1 r2 : R} {d1 d2 : D} {e : En} {k k' : List D → Option Bool → Lok → En → Prop} (h : ∀ ds kd lk e, k ds kd lk e → k' ds kd lk e) (q : zipS r1 r2 d1 d2 e k) : zipS r1 r2 d1 d2 e k' := by
 unfold zipS at q ⊢
 revert q
 cases zc r1 with
 | none => exact id
 | some c => cases zc r2 with
   | none => exact id
   | some c' => cases d1 <;> cases d2 <;> first | exact id | exact fun q => h _ _ _ _ q
section
variable {X : Cx} {e e2 : Expr} {t u : XE} {p pos tpos : Pos} {elts : List Expr} {kk : Nat}
theorem qhl (ha : DE X e t) (hb : DE X e2 u) (hm : X.mg "zip" = none) (hg : Gl X "zip" := by rfl) (hs' : starEach [e, e2] X.env = (false, eval e X.env) :: starEach [e2] X.env := by rfl) (hs2' : starEach [e2] X.env = (false, eval e2 X.env) :: starEach [] X.env := by rfl)
 (hpl : (backTo pos (starEach [e2] X.env)).any (·.1) = false := by rfl) : DI X (.Tuple elts kk tpos) (.Call (.Name "zip" p) [e, e2] [] pos) (qft t u) := by
 refine ⟨PI.imp (pi_zipA hg hm (qb ha (qb hb qp hs2') hs').run hs' hpl) fun σ H R q => ?_, fun env k k' h q => ha.mono _ _ _ (fun r e q => hb.mono _ _ _ (fun r2 e2 q => qO (fun d q => qO (fun d2 q => ?_) q) q) q) q⟩
 ·obtain ⟨env, f, A, q⟩ := q
  refine ⟨env, f, A, ha.mono _ _ _ (fun r1 e1 q => hb.mono _ _ _ (fun r2 e2 q => ?_) q) q⟩
  intro vs H1 f1 gs A1 R1 S1 K1
  cases R1 with
  | cons R1 Rt _ =>
    cases Rt with
    | cons R2 Rt _ =>
      cases Rt
      obtain ⟨d1, dd1, q⟩ := YT q
      obtain ⟨d2, dd2, q⟩ := YT q
      unfold zipS at q
      split at q
      ·rename_i c c' hc hc'
       obtain ⟨gg1, rp1, n1⟩ := qer A1 R1 hc dd1
       obtain ⟨gg2, rp2, n2⟩ := qer A1 R2 hc' dd2
       have S0 := S1.drop (G2 := []) fun _ z => by simp at z
       have nn : ∀ b ∈ gg1 ++ gg2, (∃ o, H1 b = some o) ∧ ¬ L0 e2 f1 b := fun b hb => (List.mem_append.mp hb).elim (n1 b) (n2 b)
       have w1 : ∀ b ∈ gg1, b ∈ gg1 ++ gg2 := fun b hb => List.mem_append_left _ hb
       have w2 : ∀ b ∈ gg2, b ∈ gg1 ++ gg2 := fun b hb => List.mem_append_right _ hb
       split at q
       ·obtain ⟨a1, vs1, k1, rfl, hq1, hn1, rr1, hs1⟩ := uC rp1
        obtain ⟨a2, vs2, k2, rfl, hq2, hn2, rr2, hs2⟩ := uC rp2
        exact ⟨a1, a2, vs1, vs2, rfl, .inl ⟨hq1, hq2, q _ H1 f1 _ e2 A1 S0 K1 .none (qeH (fun H n => hn1 H (WY n w1)) (fun H n => hn2 H (WY n w2)) rr1 rr2 (fun b hb => w1 b (hs1 b hb)) fun b hb => w2 b (hs2 b hb)) (fun b hb => ⟨(nn b hb).1, fun w => (nn b hb).2 w.l0⟩) (fun _ b hb => (nn b hb).2)⟩⟩
       ·obtain ⟨a1, vs1, rfl, hq1, hn1, rr1⟩ := WW rp1
        obtain ⟨a2, vs2, rfl, hq2, hn2, rr2⟩ := WW rp2
        exact ⟨a1, a2, vs1, vs2, rfl, .inr ⟨hq1, hq2, q _ H1 f1 _ e2 A1 S0 K1 .none (qeG (fun H n => hn1 H (WY n w1)) (fun H n => hn2 H (WY n w2)) rr1 rr2 w1 w2) (fun b hb => ⟨(nn b hb).1, fun w => (nn b hb).2 w.l0⟩) (fun _ b hb => (nn b hb).2)⟩⟩
       ·exact q.elim
      ·exact q.elim
 ·exact qbc h q
end
end BX
namespace BX
open PySem PySem.Spec PyProof.Rows L2
def sPar (i j : Nat) (u : XA) : XS := fun env nx _ => u env fun rs e => jo rs e fun ds => match ds with
 | [d1, d2] => setOk e i = true ∧ setOk e j = true ∧ nx ((e.set i (some (d1, .own))).set j (some (d2, .own)))
 | _ => False
def intS (x : Option (Option (D × Md))) (k : Int → Prop) : Prop := match x with
 | some (some (.int z, _)) => k z
 | _ => False
def intD (d : D) (k : Int → Prop) : Prop := match d with
 | .int z => k z
 | _ => False
def sAug (g : Int → Int → Int) (i : Nat) (te : XE) : XS := fun env nx _ => intS env[i]? fun z => te env fun r e1 => rd 2 r e1 fun d => intD d fun w => setOk e1 i = true ∧ nx (e1.set i (some (.int (g z w), .own)))
def dNeg (t : XE) : XE := fun env Q => t env fun r e => rd 2 r e fun d => intD d fun z => Q (.tmp (.int (-z))) e
def qfL (t : XE) : XE := fun env Q => t env fun r e => rd 2 r e fun d => tru d fun b => Q (.tmp (.bl (!b))) e
theorem qcp {d : D} {k k' : Int → Prop} (h : ∀ z, k z → k' z) (q : intD d k) : intD d k' := by
 cases d <;> first | exact q.elim | exact h _ q
theorem qfr {d : D} {k : Int → Prop} (q : intD d k) : ∃ z, d = .int z ∧ k z := by
 cases d <;> first | exact q.elim | exact ⟨_, rfl, q⟩
section
variable {X : Cx} {e a b : Expr} {t te : XE} {u : XA} {x y : Str} {i j : Nat} {pos pos' px py pt pt2 : Pos} {kt k2 : Nat}
theorem Yt (ha : DE X a t) : DE X (.UnaryOp .USub a pos) (dNeg t) := by
 refine ⟨PE.imp (pe_un un_neg ha.run) fun σ H Q q => ?_, fun env Q Q' h q => ha.mono _ _ _ (fun r e q => qO (fun d q => qcp (fun z q => h _ _ q) q) q) q⟩
 obtain ⟨env, f, A, q⟩ := q
 refine ⟨env, f, A, ha.mono _ _ _ (fun r e1 q => ?_) q⟩
 intro v H1 f1 g1 A1 R1 S1 K1
 obtain ⟨d, g', rp, q⟩ := yO A1 R1 q
 obtain ⟨z, rfl, q⟩ := qfr q
 obtain ⟨rfl, _⟩ := rp.intV
 exact ⟨z, rfl, q _ H1 f1 [] A1 (.tmp (.int _) qm) (S1.drop fun _ z => by simp at z) K1⟩
theorem qfG (ha : DE X a t) : DE X (.UnaryOp .Not a pos) (qfL t) := by
 refine ⟨PE.imp (pe_notT ha.run) fun σ H Q q => ?_, fun env Q Q' h q => ha.mono _ _ _ (fun r e q => qO (fun d q => Qn (fun z q => h _ _ q) q) q) q⟩
 obtain ⟨env, f, A, q⟩ := q
 refine ⟨env, f, A, ha.mono _ _ _ (fun r e1 q => ?_) q⟩
 intro v H1 f1 g1 A1 R1 S1 K1
 obtain ⟨d, g', rp, q⟩ := yO A1 R1 q
 obtain ⟨b, ht, q⟩ := rp.tru q
 exact ⟨b, ht, q _ H1 f1 [] A1 (.tmp (.bl _) qm) (S1.drop fun _ z => by simp at z) K1⟩
theorem qcE (hx : Ok X) (hN : X.N.Nodup) (hij : i ≠ j) (ha : DA X [a, b] u) (hi : X.N[i]? = some x := by rfl) (hj : X.N[j]? = some y := by rfl) (hxl : X.env.scope.names.lookup x = some .local := by rfl) (hyl : X.env.scope.names.lookup y = some .local := by rfl)
 (hw : swappedStores [.Tuple [.Name x px, .Name y py] kt pt] (.Tuple [a, b] k2 pt2) X.env = pure (some [x, y]) := by rfl)
 (hs : swapsWithSole [.Tuple [.Name x px, .Name y py] kt pt] (.Tuple [a, b] k2 pt2) pos.line X.env = pure false := by rfl) : DS X (.Assign [.Tuple [.Name x px, .Name y py] kt pt] (.Tuple [a, b] k2 pt2) pos) (sPar i j u) := by
 refine ⟨PS.imp (ps_par hx.calm hN hi hj hij hxl hyl ha.run hw hs) fun D σ H q => ?_, fun env nx nx' rt rt' h _ q => ha.mono _ _ _ (fun rs e q => uv (fun ds q => ?_) q) q⟩
 ·obtain ⟨env, f, A, q⟩ := q
  refine ⟨env, f, A, ha.mono _ _ _ (fun rs e1 q => ?_) q⟩
  intro vs H1 f1 gs A1 R1 S1 K1
  obtain ⟨ds, rp, q, nn⟩ := Qo A1 R1 q
  match ds, q with
  | [d1, d2], q =>
    obtain ⟨so1, so2, q⟩ := q
    cases rp with
    | @cons _ v ga _ _ _ r1 rt n =>
      cases rt with
      | @cons _ w gb _ _ _ r2 rt n2 =>
        cases rt
        have nd : ∀ b ∈ ga, b ∉ gb := fun b hb z => n rfl b hb (List.mem_append_left _ z)
        obtain ⟨A2, S2, K2, L2', O2, _⟩ := A1.put (m := .own) (G := ga) so1 r1 ⟨(fun z => nomatch z), (fun z => nomatch z)⟩ (fun _ b hb => nn b (List.mem_append_left _ hb)) (fun b hb => (nn b (List.mem_append_left _ hb)).1) fun _ b hb => hb
        have so2' : setOk (e1.set i (some (d1, .own))) j = true := by
         unfold setOk at so2 ⊢
         rw [qL (Ne.symm hij)]
         exact so2
        have nb : ∀ b ∈ gb, ¬ L0 (e1.set i (some (d1, Md.own))) (fset f1 i ga) b ∧ ¬ Ro (e1.set i (some (d1, Md.own))) (fset f1 i ga) b := fun b hb => by
         have := nn b (List.mem_append_right _ (List.mem_append_left _ hb))
         exact ⟨fun z => (L2' b z).elim this.1 fun y => nd b y hb, fun z => this.2 (O2 rfl b z)⟩
        obtain ⟨A3, S3, K3, _⟩ := A2.put (m := .own) (G := gb) so2' r2 ⟨(fun z => nomatch z), (fun z => nomatch z)⟩ (fun _ => nb) (fun b hb => (nb b hb).1) fun _ b hb => hb
        refine ⟨v, w, rfl, q _ H1 _ A3 (S1.trans ⟨fun b o h _ => h, fun b z => ?_⟩) ((K1.kq.trans K2).trans K3)⟩
        rcases S3.own b z with z | z | z
        ·rcases S2.own b (.inl z) with z | z | z
         ·exact .inl z
         ·exact .inr (.inl (List.mem_append_left _ z))
         ·exact .inr (.inr z)
        ·exact .inr (.inl (List.mem_append_right _ (List.mem_append_left _ z)))
        ·exact .inr (.inr z)
  | [], q => exact q.elim
  | [_], q => exact q.elim
  | _ :: _ :: _ :: _, q => exact q.elim
 ·match ds, q with
  | [d1, d2], q => exact ⟨q.1, q.2.1, h _ q.2.2⟩
  | [], q => exact q.elim
  | [_], q => exact q.elim
  | _ :: _ :: _ :: _, q => exact q.elim
end
end BX
namespace BX
open PySem PySem.Spec PyProof.Rows L2
theorem Ok.blk {X : Cx} (h : Ok X) {s : Shared} {H : Hp} {scope : Scope} {cenv : Env} {fp : List Addr} : Ok (X.blk s H scope cenv fp) := ⟨h.calm, h.un⟩
section
variable {X : Cx} {pos : Pos}
theorem qcK : DE X (.Dict [] [] pos) (dC (.dT [])) := by
 refine ⟨PE.imp pe_dnewT fun σ H Q q => ?_, fun env Q Q' h q => h _ _ q⟩
 obtain ⟨env, f, A, q⟩ := q
 intro p hp
 have x : Ext H (L2.upd H p (.dT [])) [p] := .upd hp
 obtain ⟨A3, R3, S3⟩ := vI A .refl x (z := .ref p) (d := .dT []) (by
  have := Rep.dT (K := X.K) (H := L2.upd H p (.dT [])) (lv := 0) (a := p) (hs := []) (kvs := []) (f := []) upd_same rfl List.nodup_nil .nil (fun _ z => by simp at z)
  exact this)
 exact q _ _ f [p] A3 R3 S3 .refl
end
end BX
namespace BX
open PySem PySem.Spec PyProof.Rows L2
theorem qck {g : XG} {te : XE} {kd : Option Bool} {vs : List Nat} {k : List D → En → Prop} {E : En} (F : D → D) : ∀ (ds acc : List D), acc.length + ds.length ≤ sizeLine → k (acc ++ ds.map F) E →
 (∀ d ∈ ds, ∀ (c : Prop) (k1 : D → En → Prop), c → k1 (F d) E → g (mkI kd d) E fun e1 => te e1 fun r e3 => stor r e3 fun dd => c ∧ k1 dd (wg vs e3)) →
 lcL g xYes te kd vs ds E acc k
 | [], acc, hl, h, hs => by
   show k acc E
   simpa using h
 | d :: ds, acc, hl, h, hs => by
   rw [List.length_cons] at hl
   have q := hs d (List.mem_cons_self ..) (acc.length < sizeLine) (fun dd e => lcL g xYes te kd vs ds e (acc ++ [dd]) k) (by omega) (qck F ds (acc ++ [F d]) (by rw [List.length_append, List.length_singleton]; omega) (by simpa using h) fun d' hd' => hs d' (List.mem_cons_of_mem _ hd'))
   have e : (fun e1 => te e1 fun r e3 => stor r e3 fun dd => acc.length < sizeLine ∧ lcL g xYes te kd vs ds (wg vs e3) (acc ++ [dd]) k) = fun e1 => xYes e1 fun b e2 => (b = true → te e2 fun r e3 => stor r e3 fun dd => acc.length < sizeLine ∧ lcL g xYes te kd vs ds (wg vs e3) (acc ++ [dd]) k) ∧ (b = false → lcL g xYes te kd vs ds (wg vs e2) acc k) :=
    funext fun e1 => propext ⟨fun z => ⟨fun _ => z, fun z => nomatch z⟩, fun z => z.1 rfl⟩
   rw [e] at q
   exact q
theorem QC {α : Type} {g : XG} {tt : XT} {te : XE} {kd : Option Bool} {vs : List Nat} {k : List D → En → Prop} {E : En} (p : α → Bool) (F G : α → D) : ∀ (as : List α) (acc : List D), acc.length + as.length ≤ sizeLine → k (acc ++ (as.filter p).map F) E →
 (∀ a ∈ as, ∀ (c : Prop) (k1 : D → En → Prop) (k2 : En → Prop), c → (p a = true → k1 (F a) E) → (p a = false → k2 E) → g (mkI kd (G a)) E fun e1 => tt e1 fun b e2 => (b = true → te e2 fun r e3 => stor r e3 fun dd => c ∧ k1 dd (wg vs e3)) ∧ (b = false → k2 (wg vs e2))) →
 lcL g tt te kd vs (as.map G) E acc k
 | [], acc, hl, h, hs => by
   show k acc E
   simpa using h
 | a :: as, acc, hl, h, hs => by
   rw [List.length_cons] at hl
   refine hs a (List.mem_cons_self ..) (acc.length < sizeLine) (fun dd e => lcL g tt te kd vs (as.map G) e (acc ++ [dd]) k) (fun e => lcL g tt te kd vs (as.map G) e acc k) (by omega) (fun hp => ?_) (fun hp => ?_)
   ·refine QC p F G as (acc ++ [F a]) (by rw [List.length_append, List.length_singleton]; omega) ?_ fun a' ha' => hs a' (List.mem_cons_of_mem _ ha')
    rw [List.filter_cons_of_pos hp, List.map_cons] at h
    rw [List.append_assoc, List.singleton_append]
    exact h
   ·refine QC p F G as acc (by omega) ?_ fun a' ha' => hs a' (List.mem_cons_of_mem _ ha')
    rw [List.filter_cons_of_neg (by rw [hp]; decide)] at h
    exact h
theorem qdC {α : Type} {g : XG} {te : XE} {kd : Option Bool} {vs : List Nat} {k : List D → En → Prop} {E : En} (F G : α → D) (as : List α) (hl : as.length ≤ sizeLine) (h : k (as.map F) E)
 (hs : ∀ a ∈ as, ∀ (c : Prop) (k1 : D → En → Prop), c → k1 (F a) E → g (mkI kd (G a)) E fun e1 => te e1 fun r e3 => stor r e3 fun dd => c ∧ k1 dd (wg vs e3)) :
 lcL g xYes te kd vs (as.map G) E [] k := by
 refine QC (fun _ => true) F G as [] (by simpa using hl) (by rw [List.filter_eq_self.mpr (fun _ _ => rfl)]; exact h) fun a ha c k1 k2 hc h1 h2 => ?_
 have q := hs a ha c k1 hc (h1 rfl)
 have e : (fun e1 => te e1 fun r e3 => stor r e3 fun dd => c ∧ k1 dd (wg vs e3)) = fun e1 => xYes e1 fun b e2 => (b = true → te e2 fun r e3 => stor r e3 fun dd => c ∧ k1 dd (wg vs e3)) ∧ (b = false → k2 (wg vs e2)) :=
  funext fun e1 => propext ⟨fun z => ⟨fun _ => z, fun z => nomatch z⟩, fun z => z.1 rfl⟩
 rw [e] at q
 exact q
theorem qdG {α : Type} {F : α → D} (h : ∀ a, (F a).imm = true) (l : List α) : immL (l.map F) = true := Xe fun d hd => by
 obtain ⟨a, _, rfl⟩ := List.mem_map.mp hd
 exact h a
theorem Zo {t u : XS} {env : En} {nx : En → Prop} {rt : D → En → Prop} (I : En → Prop) (h1 : ∀ K : En → Prop, (∀ e, I e → K e) → t env K rt) (h2 : ∀ e, I e → u e nx rt) : sSeq t u env nx rt := h1 _ h2
theorem qdV {α : Type} {F : α → D} {xs : List α} {k : Nat} {a : α} (h : xs[k]? = some a) : atI (xs.map F) (k : Int) = some (F a) := atI_nat (by rw [List.getElem?_map, h]; rfl)
theorem ZF {i j : Int} (h1 : -(2 ^ 64) < i) (h2 : i < 2 ^ 64) : IntMulOk i j := CMul.ok (.inl ⟨h1, h2⟩)
theorem qca {i j : Int} (h1 : -(2 ^ 64) < j) (h2 : j < 2 ^ 64) : IntMulOk i j := CMul.ok (.inr ⟨h1, h2⟩)
theorem Yh : ∀ {ms : List Md} {rs : List R} {i : Nat}, (∀ m ∈ ms, m.rd = true) → wF ms rs i = none
 | [], _, _, _ => by unfold wF; rfl
 | _ :: _, [], _, _ => by unfold wF; rfl
 | m :: ms, r :: rs, i, h => by
   rw [wF, h m (List.mem_cons_self ..), Yh fun x hx => h x (List.mem_cons_of_mem _ hx)]
   rfl
theorem qbU {ms : List Md} {rs : List R} {ds : List D} (h : ∀ m ∈ ms, m.rd = true) : ∀ (k : Nat) (e : En), putB ms rs ds k e = e
 | _, [] => by rw [putB]
 | k, x :: xs => by rw [putB, qbU h (k + 1) xs, JH, Yh h]
theorem dFn2 {S : FS} {te tf : XE} {e : En} {Q : R → En → Prop} (hS : S.ms = [.cst, .cst]) : dFn S (ql te (ql tf aNil)) e Q = te e fun r e1 => tf e1 fun r2 e2 => rd 2 r e2 fun d => rd 2 r2 e2 fun d2 => S.wp [d, d2] fun d' _ => Q (.tmp d') e2 := by
 have h : ∀ m ∈ S.ms, m.rd = true := by rw [hS]; simp [Md.rd]
 unfold dFn ql aNil
 refine congrArg (te e) (funext fun r => funext fun e1 => congrArg (tf e1) (funext fun r2 => funext fun e2 => ?_))
 rw [hS] at h ⊢
 have e1' : zG [Md.cst, Md.cst] [r, r2] e2 = true := by cases r <;> cases r2 <;> rfl
 have e2' : apart [Md.cst, Md.cst] [r, r2] = true := by
  unfold apart
  rw [List.all_eq_true]
  intro p hp
  rw [List.all_eq_true]
  intro q hq
  have hp' : p < 2 := by simpa using hp
  have hq' : q < 2 := by simpa using hq
  match p, q, hp', hq' with
  | 0, 0, _, _ => rfl
  | 1, 1, _, _ => rfl
  | 0, 1, _, _ => cases r <;> cases r2 <;> rfl
  | 1, 0, _, _ => cases r <;> cases r2 <;> rfl
 simp only [e1', e2', true_and, qbU h]
 rfl
section
variable {env e : En} {i j n : Nat} {z : Int} {b c : Bool} {s t : Str} {d d1 d2 : D} {m : Md} {xs ys : List D} {kvs : List (List Key × D)} {kws : List (Key × D)} {k : D → Prop} {Q : R → En → Prop} {nx : En → Prop} {r : R} {x y : Option (D × Md)}
def varM (i : Nat) (m : Md) (d : D) (e : En) (Q : R → En → Prop) : Prop := match m with
 | .ro => Q (.ro false d) e
 | .cst => Q (.ro true d) e
 | .own => Q (.sl i) e
 | .io => Q (.sl i) e
 | .lk => Q (.sl i) e
def varS (i : Nat) (x : Option (Option (D × Md))) (e : En) (Q : R → En → Prop) : Prop := match x with
 | some (some (.int z, _)) => Q (.tmp (.int z)) e
 | some (some (.bl z, _)) => Q (.tmp (.bl z)) e
 | some (some (.str z, _)) => Q (.tmp (.str z)) e
 | some (some (.non, _)) => Q (.tmp .non) e
 | some (some (.dF kvs, .own)) => Q (.ro true (.dT kvs)) e
 | some (some (d, m)) => varM i m d e Q
 | _ => False
theorem xVar : dVar i env Q = varS i env[i]? env Q := by
 unfold dVar varS
 cases env[i]? with
 | none => rfl
 | some x => cases x with
   | none => rfl
   | some p =>
     obtain ⟨d, m⟩ := p
     cases d <;> cases m <;> rfl
def rdS (L : Nat) (x : Option (Option (D × Md))) (k : D → Prop) : Prop := match x with
 | some (some (d, m)) => match m.okL L with
   | true => k d
   | false => False
 | _ => False
theorem xRdS {L : Nat} : rd L (.sl i) e k = rdS L e[i]? k := by
 unfold rd rdS R.data
 dsimp only
 cases e[i]? with
 | none => rfl
 | some x => cases x with
   | none => rfl
   | some p =>
     obtain ⟨d, m⟩ := p
     cases h : m.okL L <;> simp only [h]
theorem xRd2 : rd 2 (.ro c d) e k = k d := by cases c <;> rfl
theorem qh0 : rdS 2 (some (some (d, m))) k = k d := by cases m <;> rfl
def qeL (d : D) (k : List D → Prop) : Prop := match d with
 | .lst ys => immL ys = true ∧ k ys
 | _ => False
theorem qeB {kk : List D → Prop} : YJ (.ro c d) e kk = rd 1 (.ro c d) e fun d => qeL d kk := rfl
theorem qeA {kk : List D → Prop} : YJ (.sl i) e kk = rd 1 (.sl i) e fun d => qeL d kk := rfl
def chgS (i : Nat) (x : Option (Option (D × Md))) (k : Nat → D → Md → Prop) : Prop := match x with
 | some (some (d, .own)) => k i d .own
 | some (some (d, .io)) => k i d .io
 | _ => False
def lstM (k : Nat → List D → Md → Prop) (i : Nat) (d : D) (m : Md) : Prop := match d with
 | .lst xs => k i xs m
 | _ => False
def dTM (k : Nat → List (List Key × D) → Md → Prop) (i : Nat) (d : D) (m : Md) : Prop := match d with
 | .dT xs => k i xs m
 | _ => False
def retS (x : Option (Option (D × Md))) (k : D → Prop) : Prop := match x with
 | some (some (d, m)) => (match m with
   | .own => True
   | _ => d.imm = true) ∧ k d
 | _ => False
theorem qhZ : retS (some (some (d, .own))) k = k d := by unfold retS; simp
def setS (x : Option (Option (D × Md))) : Bool := match x with
 | some (some (_, .io)) => false
 | some (some (_, .lk)) => false
 | some _ => true
 | none => false
def gNS (i : Nat) (x : Option (Option (D × Md))) (e : En) (k : En → Prop) : Prop := match x with
 | some (some (d, _)) => d.imm = true ∧ k (e.set i (some (d, .own)))
 | _ => False
def tupT (n : Nat) (gs : XGs) (r : R) (e : En) (k : En → Prop) (d : D) : Prop := match d with
 | .tup xs => xs.length = n ∧ kdOf r xs fun kd => gs kd xs e k
 | _ => False
def thS (i : Nat) (m : Md) (x : Option (Option (D × Md))) (e : En) (k : En → Prop) : Prop := match x with
 | some (some (d, .lk)) => k (e.set i (some (d, m)))
 | _ => False
def qg5 (i : Nat) (x : Option (Option (D × Md))) (e : En) (k : Option Bool → Lok → En → Prop) (im : Bool) : Prop := match x with
 | some (some (d, m)) => im = true ∧ k none (some (i, m)) (e.set i (some (d, .lk)))
 | _ => False
def seqS (d : D) (r : R) (e : En) (k : List D → Option Bool → Lok → En → Prop) : Prop := match d with
 | .lst xs => yo r e (fun kd lk e1 => k xs kd lk e1) (immL xs)
 | .lF xs => yo r e (fun kd lk e1 => k xs kd lk e1) (immL xs)
 | .tup xs => yo r e (fun kd lk e1 => k xs kd lk e1) (immL xs)
 | _ => False
def qgz (d : D) (e : En) (k : List D → Option Bool → Lok → En → Prop) : Prop := match d with
 | .int j => -(2 ^ 62) ≤ j ∧ j < 2 ^ 62 ∧ k ((List.range j.toNat).map fun n => .int (n : Nat)) none none e
 | _ => False
def qgy (d d2 : D) (e : En) (k : List D → Option Bool → Lok → En → Prop) : Prop := match d, d2 with
 | .int i, .int j => (-(2 ^ 62) ≤ i ∧ i < 2 ^ 62 ∧ -(2 ^ 62) ≤ j ∧ j < 2 ^ 62) ∧ k ((List.range (j - i).toNat).map fun n => .int (i + (n : Nat))) none none e
 | _, _ => False
def keyT (ds : List D) (k : List Key → Prop) : Prop := match xJ ds with
 | some ks => k ks
 | none => False
def optD (o : Option D) (k : D → Prop) : Prop := match o with
 | some d => k d
 | none => False
def qat (xs : List D) (k : List Bool → Prop) : Prop := match bools xs with
 | some bs => k bs
 | none => False
def qiY (xs : List D) (k : List Int → Prop) : Prop := match intL xs with
 | some bs => k bs
 | none => False
theorem qhS : varS i (some (some (.int z, m))) e Q = Q (.tmp (.int z)) e := rfl
theorem xVbl : varS i (some (some (.bl b, m))) e Q = Q (.tmp (.bl b)) e := rfl
theorem qhM : varS i (some (some (.str s, m))) e Q = Q (.tmp (.str s)) e := rfl
theorem qhN : varS i (some (some (.non, m))) e Q = Q (.tmp .non) e := rfl
theorem qhL : varS i (some (some (.tup xs, m))) e Q = varM i m (.tup xs) e Q := rfl
theorem qhR : varS i (some (some (.lst xs, m))) e Q = varM i m (.lst xs) e Q := rfl
theorem xVdT : varS i (some (some (.dT kvs, m))) e Q = varM i m (.dT kvs) e Q := rfl
theorem xVdK : varS i (some (some (.dK kws, m))) e Q = varM i m (.dK kws) e Q := rfl
theorem qhO : varM i .ro d e Q = Q (.ro false d) e := rfl
theorem qf2 : varM i .cst d e Q = Q (.ro true d) e := rfl
theorem qf1 : varM i .own d e Q = Q (.sl i) e := rfl
theorem qhQ : varM i .io d e Q = Q (.sl i) e := rfl
theorem qhP : varM i .lk d e Q = Q (.sl i) e := rfl
theorem xRdT : rd n (.tmp d) e k = k d := rfl
theorem qh1 : rd 1 (.ro false d) e k = k d := rfl
theorem qdf : rdS 1 (some (some (d, .own))) k = k d := rfl
theorem qeE : rdS 1 (some (some (d, .io))) k = k d := rfl
theorem qeD : rdS 1 (some (some (d, .lk))) k = k d := rfl
theorem qeC : rdS 1 (some (some (d, .ro))) k = k d := rfl
theorem xElT {kk : R → Prop} : elem (.tmp d1) d kk = kk (.tmp d) := rfl
theorem xElR {kk : R → Prop} : elem (.ro c d1) d kk = kk (mkRo c d) := rfl
theorem xElS {kk : R → Prop} : elem (.sl i) d kk = (d.imm = true ∧ kk (.tmp d)) := rfl
theorem qib : mkRo c (.int z) = .tmp (.int z) := rfl
theorem xMbl : mkRo c (.bl b) = .tmp (.bl b) := rfl
theorem qh8 : mkRo c (.str s) = .tmp (.str s) := rfl
theorem qh9 : mkRo c .non = .tmp .non := rfl
theorem qh7 : mkRo c (.tup xs) = .ro c (.tup xs) := rfl
theorem qia : mkRo c (.lst xs) = .ro c (.lst xs) := rfl
theorem xMdT : mkRo c (.dT kvs) = .ro c (.dT kvs) := rfl
theorem xMdK : mkRo c (.dK kws) = .ro c (.dK kws) := rfl
theorem xStT : stor (.tmp d) e k = k d := rfl
theorem xStR : stor (.ro c d) e k = rd 1 (.ro c d) e fun d => d.imm = true ∧ k d := rfl
theorem xStS : stor (.sl i) e k = rd 1 (.sl i) e fun d => d.imm = true ∧ k d := rfl
theorem xSeT {kk : List D → Prop} : YJ (.tmp (.lst ys)) e kk = kk ys := rfl
theorem xSmL {kk : List D → Prop} : qeL (.lst ys) kk = (immL ys = true ∧ kk ys) := rfl
theorem xChL {kk : Nat → List D → Md → Prop} : chgL (.sl i) e kk = chgS i e[i]? (lstM kk) := rfl
theorem xChT {kk : Nat → List (List Key × D) → Md → Prop} : chgT (.sl i) e kk = chgS i e[i]? (dTM kk) := rfl
theorem xChG {kk : Nat → D → Md → Prop} : chg (.sl i) e kk = chgS i e[i]? kk := rfl
theorem xCsO {kk : Nat → D → Md → Prop} : chgS i (some (some (d, .own))) kk = kk i d .own := rfl
theorem xCsI {kk : Nat → D → Md → Prop} : chgS i (some (some (d, .io))) kk = kk i d .io := rfl
theorem xLm {kk : Nat → List D → Md → Prop} : lstM kk i (.lst xs) m = kk i xs m := rfl
theorem xTm {kk : Nat → List (List Key × D) → Md → Prop} : dTM kk i (.dT kvs) m = kk i kvs m := rfl
theorem xReT : retR (.tmp d) e k = k d := rfl
theorem xReR : retR (.ro c d) e k = (c = false ∧ d.imm = true ∧ k d) := rfl
theorem xReS : retR (.sl i) e k = retS e[i]? k := rfl
theorem qhY : retS (some (some (d, .io))) k = (d.imm = true ∧ k d) := rfl
theorem qhX : retS (some (some (d, .lk))) k = (d.imm = true ∧ k d) := rfl
theorem qhW : retS (some (some (d, .ro))) k = (d.imm = true ∧ k d) := rfl
theorem qgb : retS (some (some (d, .cst))) k = (d.imm = true ∧ k d) := rfl
theorem qga : setOk e i = setS e[i]? := rfl
theorem xSn : setS (some none) = true := rfl
theorem qf8 : setS (some (some (d, .own))) = true := rfl
theorem qhV : setS (some (some (d, .ro))) = true := rfl
theorem qf9 : setS (some (some (d, .cst))) = true := rfl
theorem xGnT : gN i (.tmp d) e nx = (setS e[i]? = true ∧ nx (e.set i (some (d, .own)))) := rfl
theorem xGnR : gN i (.ro c d) e nx = (setS e[i]? = true ∧ nx (e.set i (some (d, roMd c)))) := rfl
theorem xGnS : gN i (.sl j) e nx = (setS e[i]? = true ∧ gNS i e[j]? e nx) := rfl
theorem xGns : gNS i (some (some (d, m))) e nx = (d.imm = true ∧ nx (e.set i (some (d, .own)))) := rfl
theorem xRmF : roMd false = .ro := rfl
theorem xRmT : roMd true = .cst := rfl
theorem xMkN : mkI none d = .tmp d := rfl
theorem xMkS : mkI (some c) d = mkRo c d := rfl
theorem xGT {gs : XGs} : gT n gs r e nx = rd 2 r e (tupT n gs r e nx) := rfl
theorem xTT {gs : XGs} : tupT n gs r e nx (.tup xs) = (xs.length = n ∧ kdOf r xs fun kd => gs kd xs e nx) := rfl
theorem xKdT {kk : Option Bool → Prop} : kdOf (.tmp d) xs kk = kk none := rfl
theorem xKdR {kk : Option Bool → Prop} : kdOf (.ro c d) xs kk = kk (some c) := rfl
theorem xKdS {kk : Option Bool → Prop} : kdOf (.sl i) xs kk = (immL xs = true ∧ kk none) := rfl
theorem xGsN {kd : Option Bool} : Qc kd [] e nx = nx e := rfl
theorem xGsC {kd : Option Bool} {g : XG} {gs : XGs} : za g gs kd (d :: xs) e nx = g (mkI kd d) e fun e => gs kd xs e nx := rfl
theorem xThN : thaw none e nx = nx e := rfl
theorem xThS : thaw (some (i, m)) e nx = thS i m e[i]? e nx := rfl
theorem xTs : thS i m (some (some (d, .lk))) e nx = nx (e.set i (some (d, m))) := rfl
theorem xLoT {kk : Option Bool → Lok → En → Prop} : yo (.tmp d) e kk b = (b = true ∧ kk none none e) := rfl
theorem xLoR {kk : Option Bool → Lok → En → Prop} : yo (.ro c d) e kk b = kk (some c) none e := rfl
theorem xLoS {kk : Option Bool → Lok → En → Prop} : yo (.sl i) e kk b = qg5 i e[i]? e kk b := rfl
theorem xLos {kk : Option Bool → Lok → En → Prop} : qg5 i (some (some (d, m))) e kk b = (b = true ∧ kk none (some (i, m)) (e.set i (some (d, .lk)))) := rfl
theorem xSeq {u : XE} {kk : List D → Option Bool → Lok → En → Prop} : iSeq u e kk = u e fun r e => rd 2 r e fun d => seqS d r e kk := rfl
theorem xSqL {kk : List D → Option Bool → Lok → En → Prop} : seqS (.lst xs) r e kk = yo r e (fun kd lk e1 => kk xs kd lk e1) (immL xs) := rfl
theorem xSqT {kk : List D → Option Bool → Lok → En → Prop} : seqS (.tup xs) r e kk = yo r e (fun kd lk e1 => kk xs kd lk e1) (immL xs) := rfl
theorem xR1 {u : XE} {kk : List D → Option Bool → Lok → En → Prop} : uW u e kk = u e fun r e => rd 2 r e fun d => qgz d e kk := rfl
theorem xR1i {kk : List D → Option Bool → Lok → En → Prop} : qgz (.int z) e kk = (-(2 ^ 62) ≤ z ∧ z < 2 ^ 62 ∧ kk ((List.range z.toNat).map fun n => .int (n : Nat)) none none e) := rfl
theorem xR2 {u v : XE} {kk : List D → Option Bool → Lok → En → Prop} : ZL u v e kk = u e fun r e => v e fun r2 e2 => rd 2 r e2 fun d => rd 2 r2 e2 fun d2 => qgy d d2 e2 kk := rfl
theorem xR2i {w : Int} {kk : List D → Option Bool → Lok → En → Prop} : qgy (.int z) (.int w) e kk = ((-(2 ^ 62) ≤ z ∧ z < 2 ^ 62 ∧ -(2 ^ 62) ≤ w ∧ w < 2 ^ 62) ∧ kk ((List.range (w - z).toNat).map fun n => .int (z + (n : Nat))) none none e) := rfl
theorem qit {w : Int} : yu (.int z) (.int w) k = k (.int (z + w)) := rfl
theorem qir : yu (.str s) (.str t) k = (s.length + t.length ≤ sizeLine ∧ k (.str (s ++ t))) := rfl
theorem qis : yu (.lst xs) (.lst ys) k = (immL xs = true ∧ immL ys = true ∧ xs.length + ys.length ≤ sizeLine ∧ k (.lst (xs ++ ys))) := rfl
theorem qiq : yu (.tup xs) (.tup ys) k = (immL xs = true ∧ immL ys = true ∧ xs.length + ys.length ≤ sizeLine ∧ k (.tup (xs ++ ys))) := rfl
theorem qh6 {w : Int} : Q8 (.int z) (.int w) k = (IntMulOk z w ∧ k (.int (z * w))) := rfl
theorem qh5 {w : Int} : Q8 (.lst xs) (.int w) k = (immL xs = true ∧ -(2 ^ 63) ≤ w ∧ w < 2 ^ 63 ∧ xs.length * w.toNat ≤ sizeLine ∧ k (.lst (List.replicate w.toNat xs).flatten)) := rfl
theorem xOpI {g : Int → Int → D} {w : Int} : X7 g (.int z) (.int w) k = k (g z w) := rfl
theorem xOpC {C : Int → Int → Prop} {g : Int → Int → D} {w : Int} : Wt C g (.int z) (.int w) k = (C z w ∧ k (g z w)) := rfl
theorem xLtI {w : Int} : opLt (.int z) (.int w) k = k (.bl (decide (z < w))) := rfl
theorem qf7 {kk : Bool → Prop} : tru (.int z) kk = kk (z != 0) := rfl
theorem qhU {kk : Bool → Prop} : tru (.bl b) kk = kk (b) := rfl
theorem qf6 {kk : Bool → Prop} : tru (.lst xs) kk = kk (!xs.isEmpty) := rfl
theorem qf3 {kk : Bool → Prop} : tru (.tup xs) kk = kk (!xs.isEmpty) := rfl
theorem qhT {kk : Bool → Prop} : tru (.dK kws) kk = kk (!kws.isEmpty) := rfl
theorem qf5 {kk : Bool → Prop} : tru .non kk = kk false := rfl
theorem qf4 {kk : Bool → Prop} : tru (.str s) kk = (s.length ≤ sizeLine ∧ kk ((s.length : Int) != 0)) := rfl
theorem qgh : opIs (.int z) .non k = k (.bl false) := rfl
theorem qgm : uP (.int z) .non k = k (.bl true) := rfl
theorem qig : opIs (.bl b) .non k = k (.bl false) := rfl
theorem qin : uP (.bl b) .non k = k (.bl true) := rfl
theorem qge : opIs (.str s) .non k = k (.bl false) := rfl
theorem qgj : uP (.str s) .non k = k (.bl true) := rfl
theorem qgd : opIs (.tup xs) .non k = k (.bl false) := rfl
theorem qgi : uP (.tup xs) .non k = k (.bl true) := rfl
theorem qgg : opIs (.lst xs) .non k = k (.bl false) := rfl
theorem qgl : uP (.lst xs) .non k = k (.bl true) := rfl
theorem qie : opIs (.dT kvs) .non k = k (.bl false) := rfl
theorem qil : uP (.dT kvs) .non k = k (.bl true) := rfl
theorem qif : opIs (.dK kws) .non k = k (.bl false) := rfl
theorem qim : uP (.dK kws) .non k = k (.bl true) := rfl
theorem qgf : opIs .non .non k = k (.bl true) := rfl
theorem qgk : uP .non .non k = k (.bl false) := rfl
theorem xIsB : opIs (.bl b) (.bl c) k = k (.bl (decide (b = c))) := rfl
theorem xInB : uP (.bl b) (.bl c) k = k (.bl (!decide (b = c))) := rfl
theorem xInT : Qx b (.tup xs) (.dT kvs) k = keyT xs fun ks => k (.bl (b != hasT kvs ks)) := rfl
theorem xInL : Qx b d (.lst xs) k = (eqOk d = true ∧ eqOk (.lst xs) = true ∧ k (.bl (b != findIn d xs))) := rfl
theorem qio : Qx b d (.tup xs) k = (eqOk d = true ∧ eqOk (.tup xs) = true ∧ k (.bl (b != findIn d xs))) := rfl
theorem xInS : Qx b (.str t) (.str s) k = k (.bl (b != !(Builtin.Str.occurrences s t 0 s.length 1).isEmpty)) := rfl
theorem xIxL : ixd (.lst xs) (.int z) k = optD (atI xs z) k := rfl
theorem xIxT : ixd (.tup xs) (.int z) k = optD (atI xs z) k := rfl
theorem xIxD : ixd (.dT kvs) (.tup xs) k = keyT xs fun ks => optD (Qz kvs ks) k := rfl
theorem xOp : optD (some d) k = k d := rfl
theorem xLnL : bLen (.lst xs) k = k (.int xs.length) := rfl
theorem xLnT : bLen (.tup xs) k = k (.int xs.length) := rfl
theorem xLnS : bLen (.str s) k = (s.length ≤ sizeLine ∧ k (.int s.length)) := rfl
theorem xLnD : bLen (.dT kvs) k = k (.int kvs.length) := rfl
theorem xLnK : bLen (.dK kws) k = k (.int kws.length) := rfl
theorem xAbs : bAbs (.int z) k = k (.int (if z < 0 then -z else z)) := rfl
theorem qii : bInt (.int z) k = k (.int z) := rfl
theorem qik : bInt (.bl b) k = k (.int (if b then 1 else 0)) := rfl
theorem xMin {w : Int} : JK (.int z) (.int w) k = k (.int (if w < z then w else z)) := rfl
theorem xMax {w : Int} : qjc (.int z) (.int w) k = k (.int (if w > z then w else z)) := rfl
theorem xTuL : vg (.lst xs) k = (immL xs = true ∧ k (.tup xs)) := rfl
theorem xTuT : vg (.tup xs) k = (immL xs = true ∧ k (.tup xs)) := rfl
theorem xLiL : qhE (.lst xs) k = (immL xs = true ∧ k (.lst xs)) := rfl
theorem xLiT : qhE (.tup xs) k = (immL xs = true ∧ k (.lst xs)) := rfl
theorem xAll : bAll (.lst xs) k = qat xs fun bs => k (.bl (bs.all id)) := rfl
theorem xAny : bAny (.lst xs) k = qat xs fun bs => k (.bl (bs.any id)) := rfl
theorem xSum : bSum (.lst xs) k = qiY xs fun bs => k (.int bs.sum) := rfl
theorem xOp1 {h : D → (D → Prop) → Prop} : op1 h [d] k = h d k := rfl
theorem xOp2 {h : D → D → (D → Prop) → Prop} : op2 h [d, d1] k = h d d1 k := rfl
theorem xIsl : D.isLst (.lst xs) = true := rfl
theorem xImI : D.imm (.int z) = true := by rw [D.imm]
theorem xImB : D.imm (.bl b) = true := by rw [D.imm]
theorem xImS : D.imm (.str s) = true := by rw [D.imm]
theorem xImN : D.imm .non = true := by rw [D.imm]
theorem xImT : D.imm (.tup xs) = immL xs := by rw [D.imm]
theorem xImC : immL (d :: xs) = (d.imm && immL xs) := by rw [immL]
theorem xImE : immL [] = true := by rw [immL]
theorem xSlN {kk : List D → Prop} : jo [] e kk = kk [] := rfl
theorem xSlC {rs : List R} {kk : List D → Prop} : jo (r :: rs) e kk = stor r e fun d => jo rs e fun ds => kk (d :: ds) := rfl
theorem xRaN {kk : List D → Prop} : jr n [] e kk = kk [] := rfl
theorem xRaC {rs : List R} {kk : List D → Prop} : jr n (r :: rs) e kk = rd n r e fun d => jr n rs e fun ds => kk (d :: ds) := rfl
def putM (di d : D) (e : En) (nx : En → Prop) (i : Nat) (dd : D) (m : Md) : Prop := match dd with
 | .lst xs => match di with
   | .int j => match ixN xs.length j with
     | some n => nx (e.set i (some (.lst (xs.set n d), m)))
     | none => False
   | _ => False
 | .dT kvs => match di with
   | .tup ks => match xJ ks with
     | some k => kvs.length < sizeLine ∧ nx (e.set i (some (.dT (putD k d kvs), m)))
     | none => False
   | _ => False
 | _ => False
def optN (o : Option Nat) (k : Nat → Prop) : Prop := match o with
 | some d => k d
 | none => False
def optL (o : Option (List (List Int))) (k : List (List Int) → Prop) : Prop := match o with
 | some d => k d
 | none => False
def okIo (x : Option (Option (D × Md))) : Bool := match x with
 | some (some (_, .own)) => true
 | some (some (_, .io)) => true
 | _ => false
theorem qih {kk : Int → Prop} : intS (some (some (.int z, m))) kk = kk z := rfl
theorem qij {kk : Int → Prop} : intD (.int z) kk = kk z := rfl
theorem xBlD {kk : Bool → Prop} : blD (.bl b) kk = kk b := rfl
theorem xPut : putR (.sl i) d1 d e nx = chgS i e[i]? (putM d1 d e nx) := rfl
theorem qh3 : putM (.int z) d e nx i (.lst xs) m = optN (ixN xs.length z) fun n => nx (e.set i (some (.lst (xs.set n d), m))) := rfl
theorem qh2 : putM (.tup ys) d e nx i (.dT kvs) m = keyT ys fun ks => kvs.length < sizeLine ∧ nx (e.set i (some (.dT (putD ks d kvs), m))) := rfl
theorem xOpN {kk : Nat → Prop} : optN (some n) kk = kk n := rfl
theorem xSoL : ju (.lst xs) k = optL (WD xs) fun l => k (.lst ((sortI l).map tupI)) := rfl
theorem xSoT : ju (.tup xs) k = optL (WD xs) fun l => k (.lst ((sortI l).map tupI)) := rfl
theorem xSoD : ju (.dT kvs) k = optL (Jg kvs) fun l => k (.lst ((sortI l).map tupI)) := rfl
theorem xAt0 {l : List D} : atI (d :: l) 0 = some d := atI_nat (j := 0) rfl
theorem xAt1 {l : List D} : atI (d :: d1 :: l) 1 = some d1 := atI_nat (j := 1) rfl
theorem xAt2 {l : List D} : atI (d :: d1 :: d2 :: l) 2 = some d2 := atI_nat (j := 2) rfl
theorem xAt3 {l : List D} {d3 : D} : atI (d :: d1 :: d2 :: d3 :: l) 3 = some d3 := atI_nat (j := 3) rfl
theorem xZiR {kk : List D → Option Bool → Lok → En → Prop} : zipS (.ro b d1) (.ro c d2) (.lst xs) (.lst ys) e kk = kk (zipL xs ys) (some (b || c)) none e := rfl
theorem xZiT {kk : List D → Option Bool → Lok → En → Prop} : zipS (.ro b d1) (.ro c d2) (.tup xs) (.tup ys) e kk = kk (zipL xs ys) (some (b || c)) none e := rfl
theorem qh4 : Z6 .io (.sl i) e = okIo e[i]? := rfl
theorem qgc : Z6 .io (.tmp d) e = true := rfl
theorem qbn : isiB "int" .non = false := by simp [isiB, D.ty]
theorem qde : isiB "int" (.bl b) = true := by simp [isiB, D.ty]
theorem qbp : isiB "int" (.int z) = true := by simp [isiB, D.ty]
theorem qbm : isiB "int" (.str s) = false := by simp [isiB, D.ty]
theorem qbl : isiB "int" (.tup xs) = false := by simp [isiB, D.ty]
theorem qbo : isiB "int" (.lst xs) = false := by simp [isiB, D.ty]
theorem qdc : isiB "int" (.dT kvs) = false := by simp [isiB, D.ty]
theorem qdd : isiB "int" (.dK kws) = false := by simp [isiB, D.ty]
theorem qaJ : isiB "bool" .non = false := by simp [isiB, D.ty]
theorem qbs : isiB "bool" (.bl b) = true := by simp [isiB, D.ty]
theorem qaL : isiB "bool" (.int z) = false := by simp [isiB, D.ty]
theorem qaI : isiB "bool" (.str s) = false := by simp [isiB, D.ty]
theorem qaH : isiB "bool" (.tup xs) = false := by simp [isiB, D.ty]
theorem qaK : isiB "bool" (.lst xs) = false := by simp [isiB, D.ty]
theorem qbq : isiB "bool" (.dT kvs) = false := by simp [isiB, D.ty]
theorem qbr : isiB "bool" (.dK kws) = false := by simp [isiB, D.ty]
theorem qbf : isiB "str" .non = false := by simp [isiB, D.ty]
theorem qdb : isiB "str" (.bl b) = false := by simp [isiB, D.ty]
theorem qbh : isiB "str" (.int z) = false := by simp [isiB, D.ty]
theorem qbe : isiB "str" (.str s) = true := by simp [isiB, D.ty]
theorem qbd : isiB "str" (.tup xs) = false := by simp [isiB, D.ty]
theorem qbg : isiB "str" (.lst xs) = false := by simp [isiB, D.ty]
theorem qc9 : isiB "str" (.dT kvs) = false := by simp [isiB, D.ty]
theorem qda : isiB "str" (.dK kws) = false := by simp [isiB, D.ty]
theorem JS : isiB "tuple" .non = false := by simp [isiB, D.ty]
theorem qaB : isiB "tuple" (.bl b) = false := by simp [isiB, D.ty]
theorem JV : isiB "tuple" (.int z) = false := by simp [isiB, D.ty]
theorem JR : isiB "tuple" (.str s) = false := by simp [isiB, D.ty]
theorem JQ : isiB "tuple" (.tup xs) = true := by simp [isiB, D.ty]
theorem JT : isiB "tuple" (.lst xs) = false := by simp [isiB, D.ty]
theorem qaz : isiB "tuple" (.dT kvs) = false := by simp [isiB, D.ty]
theorem qaA : isiB "tuple" (.dK kws) = false := by simp [isiB, D.ty]
theorem qaE : isiB "list" .non = false := by simp [isiB, D.ty]
theorem qbk : isiB "list" (.bl b) = false := by simp [isiB, D.ty]
theorem qaG : isiB "list" (.int z) = false := by simp [isiB, D.ty]
theorem qaD : isiB "list" (.str s) = false := by simp [isiB, D.ty]
theorem qaC : isiB "list" (.tup xs) = false := by simp [isiB, D.ty]
theorem qaF : isiB "list" (.lst xs) = true := by simp [isiB, D.ty]
theorem qbi : isiB "list" (.dT kvs) = false := by simp [isiB, D.ty]
theorem qbj : isiB "list" (.dK kws) = false := by simp [isiB, D.ty]
theorem qgo : eqOk (.int z) = true := rfl
theorem qip : eqOk (.bl b) = true := rfl
theorem qgn : eqOk .non = true := rfl
theorem xDqI {w : Int} : deq (.int z) (.int w) = decide (z = w) := by unfold deq; rw [D.py, D.py, PyData.eqv]; rfl
theorem xDqB : deq (.bl b) (.bl c) = decide (b = c) := by unfold deq; cases b <;> cases c <;> simp [D.py, PyData.eqv]
theorem xDqS : deq (.str s) (.str t) = (s == t) := by unfold deq; rw [D.py, D.py, PyData.eqv]
theorem xKe2 {w : Int} {kk : List Key → Prop} : keyT [.int z, .int w] kk = kk [.inl z, .inl w] := rfl
theorem xKe3 {w x3 : Int} {kk : List Key → Prop} : keyT [.int z, .int w, .int x3] kk = kk [.inl z, .inl w, .inl x3] := rfl
theorem xKe4 {w x3 x4 : Int} {kk : List Key → Prop} : keyT [.int z, .int w, .int x3, .int x4] kk = kk [.inl z, .inl w, .inl x3, .inl x4] := rfl
theorem qid {w x3 : Int} {kk : List Key → Prop} : keyT [.str s, .int w, .int x3] kk = kk [.inr s, .inl w, .inl x3] := rfl
theorem qic {w x3 x4 : Int} {kk : List Key → Prop} : keyT [.str s, .int w, .int x3, .int x4] kk = kk [.inr s, .inl w, .inl x3, .inl x4] := rfl
theorem xOkA : zG [] [] e = true := rfl
theorem xOkB {ms : List Md} {rs : List R} : zG (m :: ms) (r :: rs) e = (Z6 m r e && zG ms rs e) := rfl
theorem xOkC : Z6 .cst r e = true := rfl
theorem xIoO : okIo (some (some (d, .own))) = true := rfl
theorem xIoI : okIo (some (some (d, .io))) = true := rfl
end
end BX
namespace TX
open PySem PySem.Spec PyProof.Rows L2 BX
section
variable {α β γ δ κ : Type}
def eN (_ : Unit) : D := .non
def eA (d : D) : D := d
def eT1 (f : α → D) (p : α) : D := .tup [f p]
def eT2 (f : α → D) (g : β → D) (p : α × β) : D := .tup [f p.1, g p.2]
def eT3 (f : α → D) (g : β → D) (h : γ → D) (p : α × β × γ) : D := .tup [f p.1, g p.2.1, h p.2.2]
def eT4 (f : α → D) (g : β → D) (h : γ → D) (i : δ → D) (p : α × β × γ × δ) : D := .tup [f p.1, g p.2.1, h p.2.2.1, i p.2.2.2]
def eL (f : α → D) (l : List α) : D := .lst (l.map f)
def eV (f : α → D) (l : List α) : D := .tup (l.map f)
def eO (f : α → D) : Option α → D
 | none => .non
 | some a => f a
def eDT (kf : κ → List Key) (f : α → D) (l : List (κ × α)) : D := .dT (l.map fun p => (kf p.1, f p.2))
def eP (t : Int × Int) : D := .lst [.int t.1, .int t.2]
class Im (f : α → D) : Prop where
 im : ∀ a, (f a).imm = true
instance : Im D.int := ⟨fun _ => by rw [D.imm]⟩
instance : Im D.bl := ⟨fun _ => by rw [D.imm]⟩
instance : Im D.str := ⟨fun _ => by rw [D.imm]⟩
instance : Im eN := ⟨fun _ => by rw [eN, D.imm]⟩
instance {f : α → D} [hf : Im f] : Im (eT1 f) := ⟨fun p => by simp [eT1, D.imm, immL, hf.im]⟩
instance {f : α → D} {g : β → D} [hf : Im f] [hg : Im g] : Im (eT2 f g) := ⟨fun p => by simp [eT2, D.imm, immL, hf.im, hg.im]⟩
instance {f : α → D} {g : β → D} {h : γ → D} [hf : Im f] [hg : Im g] [hh : Im h] : Im (eT3 f g h) := ⟨fun p => by simp [eT3, D.imm, immL, hf.im, hg.im, hh.im]⟩
instance {f : α → D} {g : β → D} {h : γ → D} {i : δ → D} [hf : Im f] [hg : Im g] [hh : Im h] [hi : Im i] : Im (eT4 f g h i) := ⟨fun p => by simp [eT4, D.imm, immL, hf.im, hg.im, hh.im, hi.im]⟩
theorem imL {f : α → D} [hf : Im f] (l : List α) : immL (l.map f) = true := qdG hf.im l
instance {f : α → D} [hf : Im f] : Im (eV f) := ⟨fun p => by rw [eV, D.imm]; exact imL p⟩
instance {f : α → D} [hf : Im f] : Im (eO f) := ⟨fun p => by cases p with
 | none => rw [eO, D.imm]
 | some a => rw [eO]; exact hf.im a⟩
class Eqd [DecidableEq α] (f : α → D) (n : outParam Nat) : Prop where
 lay : ∀ a, PyData.canLay0 (f a).py = true ∧ PyData.depth (f a).py ≤ n
 eq : ∀ a b, PyData.eqv (f a).py (f b).py = decide (a = b)
end
abbrev aR (Q : R → En → Prop) (r : R) (e : En) : Prop := Q r e
abbrev aB (Q : Bool → En → Prop) (b : Bool) (e : En) : Prop := Q b e
abbrev aL (Q : List R → En → Prop) (rs : List R) (e : En) : Prop := Q rs e
abbrev aN (nx : En → Prop) (e : En) : Prop := nx e
abbrev aD (rt : D → En → Prop) (d : D) (e : En) : Prop := rt d e
abbrev aI (k : List D → Option Bool → Lok → En → Prop) (ds : List D) (kd : Option Bool) (lk : Lok) (e : En) : Prop := k ds kd lk e
abbrev aK (k : List D → En → Prop) (ds : List D) (e : En) : Prop := k ds e
def D.big : D → Bool
 | .int _ => false
 | .bl _ => false
 | .str _ => false
 | .non => false
 | .dF _ => false
 | _ => true
inductive Rv (e : En) : Nat → R → D → Prop
 | tmp {L : Nat} {d : D} : Rv e L (.tmp d) d
 | ro {L : Nat} {d : D} : Rv e (L + 1) (.ro false d) d
 | cst {L : Nat} {d : D} : Rv e (L + 2) (.ro true d) d
 | sl {L : Nat} {i : Nat} {d : D} {m : Md} : e[i]? = some (some (d, m)) → m.okL L = true → Rv e L (.sl i) d
section
variable {e : En} {L : Nat} {r r1 r2 : R} {d d1 d2 : D}
theorem Rv.rd (h : Rv e L r d) {k : D → Prop} (q : k d) : rd L r e k := by
 cases h with
 | tmp => exact q
 | ro => exact q
 | cst => exact q
 | sl h hm => unfold BX.rd R.data; simp only [h, hm]; exact q
theorem qgK {m : Md} {L : Nat} (h : m.okL L = true) : m.okL (L + 1) = true := by
 cases m <;> first | rfl | (cases L with
  | zero => first | exact h | cases h | rfl
  | succ n => cases n with
    | zero => first | exact h | cases h | rfl
    | succ n => rfl)
theorem Rv.up (h : Rv e 1 r d) : Rv e 2 r d := by
 cases h with
 | tmp => exact .tmp
 | ro => exact .ro
 | sl h hm => exact .sl h (qgK hm)
def St (e : En) (r : R) (d : D) : Prop := ∀ k : D → Prop, k d → stor r e k
theorem St.tmp : St e (.tmp d) d := fun k q => q
theorem St.of (h : Rv e 1 r d) (hi : d.imm = true) : St e r d := fun k q => by
 cases r with
 | tmp x => cases h; exact q
 | ro c x => exact h.rd ⟨hi, q⟩
 | sl i => exact h.rd ⟨hi, q⟩
inductive StL (e : En) : List R → List D → Prop
 | nil : StL e [] []
 | cons {r : R} {d : D} {rs : List R} {ds : List D} : St e r d → StL e rs ds → StL e (r :: rs) (d :: ds)
theorem StL.go : ∀ {rs : List R} {ds : List D}, StL e rs ds → ∀ {k : List D → Prop}, k ds → jo rs e k
 | _, _, .nil, k, q => q
 | _, _, .cons h t, k, q => h _ (t.go (k := fun ds => k (_ :: ds)) q)
inductive RvL (e : En) (L : Nat) : List R → List D → Prop
 | nil : RvL e L [] []
 | cons {r : R} {d : D} {rs : List R} {ds : List D} : Rv e L r d → RvL e L rs ds → RvL e L (r :: rs) (d :: ds)
theorem RvL.go : ∀ {rs : List R} {ds : List D}, RvL e L rs ds → ∀ {k : List D → Prop}, k ds → jr L rs e k
 | _, _, .nil, k, q => q
 | _, _, .cons h t, k, q => h.rd (t.go (k := fun ds => k (_ :: ds)) q)
end
end TX
namespace TX
open PySem PySem.Spec PyProof.Rows L2 BX
section
variable {e e1 e' : En} {L : Nat} {r r1 r2 : R} {d d1 d2 d3 : D} {Q : R → En → Prop} {QB : Bool → En → Prop} {QA : List R → En → Prop} {i j : Nat} {α β : Type}
def vr (e : En) (i : Nat) : Option R := match e[i]? with
 | some (some (.int z, _)) => some (.tmp (.int z))
 | some (some (.bl z, _)) => some (.tmp (.bl z))
 | some (some (.str z, _)) => some (.tmp (.str z))
 | some (some (.non, _)) => some (.tmp .non)
 | some (some (.dF kvs, .own)) => some (.ro true (.dT kvs))
 | some (some (d, .ro)) => some (.ro false d)
 | some (some (d, .cst)) => some (.ro true d)
 | some (some (_, .own)) => some (.sl i)
 | some (some (_, .io)) => some (.sl i)
 | some (some (_, .lk)) => some (.sl i)
 | _ => none
theorem qw (h0 : vr e i = some r) (q : aR Q r e) : dVar i e Q := by
 unfold vr at h0
 unfold dVar
 cases he : e[i]? with
 | none => rw [he] at h0; cases h0
 | some x => cases x with
   | none => rw [he] at h0; cases h0
   | some p =>
     obtain ⟨d, m⟩ := p
     rw [he] at h0
     cases d <;> first | (cases h0; exact q) | (cases m <;> (cases h0; exact q))
def D.isF : D → Bool
 | .dF _ => true
 | _ => false
theorem qhg {f : α → D} {o : Option α} (h : ∀ x, D.isF (f x) = false) : D.isF (eO f o) = false := by
 cases o with
 | none => rfl
 | some x => exact h x
theorem yt {m : Md} (h0 : e[i]? = some (some (d, m))) (hm : m.okL 1 = true) (q : ∀ r, Rv e 1 r d → aR Q r e) (hd : D.isF d = false := by first | rfl | exact qhg fun _ => rfl) : dVar i e Q := by
 have hs : Rv e 1 (.sl i) d := .sl h0 hm
 unfold dVar
 rw [h0]
 cases d <;> first | (cases hd; done) | exact q _ .tmp | (cases m <;> first | exact q _ .ro | (cases hm; done) | exact q _ hs)
theorem c_C (q : aR Q (.tmp d) e) : dC d e Q := q
def OpTo (op : OP) (d1 d2 d : D) : Prop := ∀ k : D → Prop, k d → op d1 d2 k
theorem wD {op : OP} {t u : XE} (q : t e fun r1 e1 => u e1 fun r2 e2 => rd L r1 e2 fun d1 => rd L r2 e2 fun d2 => op d1 d2 fun d => aR Q (.tmp d) e2) : dBin L op t u e Q := q
theorem wC {op : OP} (h1 : Rv e L r1 d1) (h2 : Rv e L r2 d2) (ho : OpTo op d1 d2 d) (q : aR Q (.tmp d) e) : rd L r1 e fun d1 => rd L r2 e fun d2 => op d1 d2 fun d => aR Q (.tmp d) e := h1.rd (h2.rd (ho (fun d => aR Q (.tmp d) e) q))
section
variable {a b : Int}
theorem zE : OpTo yu (.int a) (.int b) (.int (a + b)) := fun k q => q
theorem xr : OpTo vG (.int a) (.int b) (.int (a - b)) := fun k q => q
theorem qe5 (h : IntMulOk a b) : OpTo Q8 (.int a) (.int b) (.int (a * b)) := fun k q => ⟨h, q⟩
theorem Us (h : 0 < b) : OpTo Qw (.int a) (.int b) (.int (a % b)) := fun k q => ⟨h, q⟩
theorem qgG : OpTo opGt (.int a) (.int b) (.bl (decide (b < a))) := fun k q => q
end
theorem qe7 {f : α → D} [Im f] {a b : List α} (h : a.length + b.length ≤ sizeLine) : OpTo yu (eL f a) (eL f b) (eL f (a ++ b)) := fun k q => ⟨imL a, imL b, by simpa using h, by rw [← List.map_append]; exact q⟩
class Ints (f : α → D) (tl : outParam (α → List Int)) : Prop where
 isx : ∀ a, f a = .tup ((tl a).map .int)
 ne : ∀ a, tl a ≠ []
def tl2 (c : Int × Int) : List Int := [c.1, c.2]
def tl3 (c : Int × Int × Int) : List Int := [c.1, c.2.1, c.2.2]
def tl4 (c : Int × Int × Int × Int) : List Int := [c.1, c.2.1, c.2.2.1, c.2.2.2]
instance : Ints (eT2 D.int D.int) tl2 := ⟨fun _ => rfl, fun _ => by simp [tl2]⟩
instance : Ints (eT3 D.int D.int D.int) tl3 := ⟨fun _ => rfl, fun _ => by simp [tl3]⟩
instance : Ints (eT4 D.int D.int D.int D.int) tl4 := ⟨fun _ => rfl, fun _ => by simp [tl4]⟩
theorem ZK : ∀ l : List Int, intL (l.map .int) = some l
 | [] => rfl
 | i :: l => by rw [List.map_cons, BX.intL, ZK l]; rfl
section
variable [DecidableEq α] {f : α → D} {n : Nat} [hf : Eqd f n] {a b : α}
theorem Eqd.ok (hn : n ≤ 64) (a : α) : eqOk (f a) = true := by
 have := hf.lay a
 unfold eqOk SeqAt.shaped
 simp only [this.1, Bool.true_and, decide_eq_true_eq]
 omega
theorem op_eq (hn : n ≤ 64 := by decide) : OpTo opEq (f a) (f b) (.bl (decide (a = b))) := fun k q => ⟨Eqd.ok hn a, Eqd.ok hn b, by rw [deq, hf.eq]; exact q⟩
theorem op_ne (hn : n ≤ 64 := by decide) : OpTo opNe (f a) (f b) (.bl (!decide (a = b))) := fun k q => ⟨Eqd.ok hn a, Eqd.ok hn b, by rw [deq, hf.eq]; exact q⟩
end
end
end TX
namespace TX
open PySem PySem.Spec PyProof.Rows L2 BX
section
variable {α β γ δ κ : Type}
instance : Eqd D.int 0 := ⟨fun a => by simp [D.py, PyData.canLay0, PyData.depth], fun a b => by simp only [D.py, PyData.eqv]; by_cases h : a = b <;> simp [h]⟩
instance : Eqd D.bl 0 := ⟨fun a => by simp [D.py, PyData.canLay0, PyData.depth], fun a b => by cases a <;> cases b <;> simp [D.py, PyData.eqv]⟩
section
variable [DecidableEq α] [DecidableEq β] [DecidableEq γ] [DecidableEq δ] {f : α → D} {g : β → D} {h : γ → D} {i : δ → D} {n m k l : Nat}
instance [hf : Eqd f n] [hg : Eqd g m] : Eqd (eT2 f g) (n + m + 1) := ⟨fun a => by
 have h1 := hf.lay a.1; have h2 := hg.lay a.2
 simp only [eT2, D.py, pyL, PyData.canLay0, PyData.canLayAll0, PyData.depth, PyData.depthAll, h1.1, h2.1, Bool.and_self, Bool.true_and, true_and]
 omega, fun a b => by
 simp only [eT2, D.py, pyL, PyData.eqv, PyData.eqvAll, hf.eq, hg.eq, Bool.and_true, Prod.ext_iff, Bool.decide_and]⟩
instance [hf : Eqd f n] [hg : Eqd g m] [hh : Eqd h k] : Eqd (eT3 f g h) (n + m + k + 1) := ⟨fun a => by
 have h1 := hf.lay a.1; have h2 := hg.lay a.2.1; have h3 := hh.lay a.2.2
 simp only [eT3, D.py, pyL, PyData.canLay0, PyData.canLayAll0, PyData.depth, PyData.depthAll, h1.1, h2.1, h3.1, Bool.and_self, Bool.true_and, true_and]
 omega, fun a b => by
 simp only [eT3, D.py, pyL, PyData.eqv, PyData.eqvAll, hf.eq, hg.eq, hh.eq, Bool.and_true, Prod.ext_iff, Bool.decide_and]⟩
instance [hf : Eqd f n] [hg : Eqd g m] [hh : Eqd h k] [hi : Eqd i l] : Eqd (eT4 f g h i) (n + m + k + l + 1) := ⟨fun a => by
 have h1 := hf.lay a.1; have h2 := hg.lay a.2.1; have h3 := hh.lay a.2.2.1; have h4 := hi.lay a.2.2.2
 simp only [eT4, D.py, pyL, PyData.canLay0, PyData.canLayAll0, PyData.depth, PyData.depthAll, h1.1, h2.1, h3.1, h4.1, Bool.and_self, Bool.true_and, true_and]
 omega, fun a b => by
 simp only [eT4, D.py, pyL, PyData.eqv, PyData.eqvAll, hf.eq, hg.eq, hh.eq, hi.eq, Bool.and_true, Prod.ext_iff, Bool.decide_and]⟩
theorem Uz [hf : Eqd f n] : ∀ l : List α, PyData.canLayAll0 (pyL (l.map f)) = true ∧ PyData.depthAll (pyL (l.map f)) ≤ n
 | [] => by simp [pyL, PyData.canLayAll0, PyData.depthAll]
 | a :: l => by
   have h1 := hf.lay a; have h2 := Uz l
   simp only [List.map_cons, pyL, PyData.canLayAll0, PyData.depthAll, h1.1, h2.1, Bool.and_self, true_and]
   omega
theorem qcy [hf : Eqd f n] : ∀ l m : List α, PyData.eqvAll (pyL (l.map f)) (pyL (m.map f)) = decide (l = m)
 | [], [] => by simp [pyL, PyData.eqvAll]
 | [], b :: m => by simp [pyL, PyData.eqvAll]
 | a :: l, [] => by simp [pyL, PyData.eqvAll]
 | a :: l, b :: m => by
   have := qcy l m
   simp only [List.map_cons, pyL, PyData.eqvAll, hf.eq, this, List.cons.injEq, Bool.decide_and]
instance [hf : Eqd f n] : Eqd (eL f) (n + 1) := ⟨fun a => by
 have := Uz (f := f) a
 simp only [eL, D.py, PyData.canLay0, PyData.depth, this.1, true_and]; omega, fun a b => by simp only [eL, D.py, PyData.eqv, qcy]⟩
instance [hf : Eqd f n] : Eqd (eV f) (n + 1) := ⟨fun a => by
 have := Uz (f := f) a
 simp only [eV, D.py, PyData.canLay0, PyData.depth, this.1, true_and]; omega, fun a b => by simp only [eV, D.py, PyData.eqv, qcy]⟩
theorem Jp [hf : Eqd f n] (a : α) : ∀ l : List α, findIn (f a) (l.map f) = decide (a ∈ l)
 | [] => by simp [findIn]
 | b :: l => by
   rw [List.map_cons, findIn, Jp a l, deq, hf.eq]
   simp only [List.mem_cons]
   by_cases h1 : b = a
   ·subst h1; simp
   ·have h2 : ¬ a = b := fun z => h1 z.symm
    simp [h1, h2]
variable {e : En}
theorem qgF [hf : Eqd f n] {a : α} {l : List α} (hn : n + 1 ≤ 64 := by decide) : OpTo opIn (f a) (eV f l) (.bl (decide (a ∈ l))) := fun k q => by
 refine ⟨Eqd.ok (by omega) a, Eqd.ok (f := eV f) hn l, ?_⟩
 rw [Jp]; simpa using q
end
def hasA [DecidableEq κ] (l : List (κ × α)) (k : κ) : Bool := l.any fun p => decide (p.1 = k)
def getA [DecidableEq κ] (l : List (κ × α)) (k : κ) : Option α := (l.find? fun p => decide (p.1 = k)).map (·.2)
def putA [DecidableEq κ] (k : κ) (v : α) : List (κ × α) → List (κ × α)
 | [] => [(k, v)]
 | p :: r => if p.1 = k then (p.1, v) :: r else p :: putA k v r
class Kt (f : κ → D) (kf : outParam (κ → List Key)) : Prop where
 key : ∀ c, ∃ ds, f c = .tup ds ∧ xJ ds = some (kf c)
 inj : ∀ c d, kf c = kf d → c = d
class Kk (f : κ → D) (kf : outParam (κ → Key)) : Prop where
 key : ∀ c, dKey (f c) = some (kf c)
 inj : ∀ c d, kf c = kf d → c = d
instance : Kk D.int Sum.inl := ⟨fun _ => rfl, fun _ _ h => Sum.inl.inj h⟩
instance : Kk D.str Sum.inr := ⟨fun _ => rfl, fun _ _ h => Sum.inr.inj h⟩
def kf2 (k : α → Key) (l : β → Key) (p : α × β) : List Key := [k p.1, l p.2]
def kf3 (k : α → Key) (l : β → Key) (m : γ → Key) (p : α × β × γ) : List Key := [k p.1, l p.2.1, m p.2.2]
def kf4 (k : α → Key) (l : β → Key) (m : γ → Key) (o : δ → Key) (p : α × β × γ × δ) : List Key := [k p.1, l p.2.1, m p.2.2.1, o p.2.2.2]
instance {f : α → D} {g : β → D} {k : α → Key} {l : β → Key} [hf : Kk f k] [hg : Kk g l] : Kt (eT2 f g) (kf2 k l) := ⟨fun c => ⟨_, rfl, by simp [xJ, hf.key, hg.key, kf2]⟩, fun c d h => by
 simp only [kf2, List.cons.injEq, and_true] at h
 exact Prod.ext (hf.inj _ _ h.1) (hg.inj _ _ h.2)⟩
instance {f : α → D} {g : β → D} {h : γ → D} {k : α → Key} {l : β → Key} {m : γ → Key} [hf : Kk f k] [hg : Kk g l] [hh : Kk h m] : Kt (eT3 f g h) (kf3 k l m) := ⟨fun c => ⟨_, rfl, by simp [xJ, hf.key, hg.key, hh.key, kf3]⟩, fun c d h => by
 simp only [kf3, List.cons.injEq, and_true] at h
 exact Prod.ext (hf.inj _ _ h.1) (Prod.ext (hg.inj _ _ h.2.1) (hh.inj _ _ h.2.2))⟩
instance {f : α → D} {g : β → D} {h : γ → D} {i : δ → D} {k : α → Key} {l : β → Key} {m : γ → Key} {o : δ → Key} [hf : Kk f k] [hg : Kk g l] [hh : Kk h m] [hi : Kk i o] : Kt (eT4 f g h i) (kf4 k l m o) := ⟨fun c => ⟨_, rfl, by simp [xJ, hf.key, hg.key, hh.key, hi.key, kf4]⟩, fun c d h => by
 simp only [kf4, List.cons.injEq, and_true] at h
 exact Prod.ext (hf.inj _ _ h.1) (Prod.ext (hg.inj _ _ h.2.1) (Prod.ext (hh.inj _ _ h.2.2.1) (hi.inj _ _ h.2.2.2)))⟩
section
variable [DecidableEq κ] {c : κ → D} {kf : κ → List Key} [hk : Kt c kf] {f : α → D} {l : List (κ × α)} {k : κ} {v : α}
include hk in
theorem kinj {a b : κ} : kf a = kf b ↔ a = b := ⟨hk.inj a b, fun h => h ▸ rfl⟩
include hk in
theorem qcr : hasT (l.map fun p => (kf p.1, f p.2)) (kf k) = hasA l k := by
 unfold hasT hasA
 rw [List.any_map]
 congr 1
 funext p
 simp only [Function.comp, kinj (c := c)]
include hk in
theorem V3 : Qz (l.map fun p => (kf p.1, f p.2)) (kf k) = (getA l k).map f := by
 unfold Qz getA
 induction l with
 | nil => rfl
 | cons p l ih =>
   rw [List.map_cons, List.find?_cons, List.find?_cons]
   by_cases h : p.1 = k
   ·simp [h]
   ·have : ¬ kf p.1 = kf k := fun z => h (hk.inj _ _ z)
    simp only [h, this, decide_false]
    exact ih
include hk in
theorem qbT : putD (kf k) (f v) (l.map fun p => (kf p.1, f p.2)) = (putA k v l).map fun p => (kf p.1, f p.2) := by
 induction l with
 | nil => rfl
 | cons p l ih =>
   rw [List.map_cons, putD, putA]
   by_cases h : p.1 = k
   ·simp [h]
   ·have : ¬ kf p.1 = kf k := fun z => h (hk.inj _ _ z)
    rw [if_neg this, if_neg h, ih]; rfl
theorem VJ : OpTo opIn (c k) (eDT kf f l) (.bl (hasA l k)) := fun kk q => by
 obtain ⟨ds, h1, h2⟩ := hk.key k
 rw [h1]
 unfold eDT opIn Qx
 simp only [h2, qcr (c := c)]
 simpa using q
theorem qe4 : OpTo Y5 (c k) (eDT kf f l) (.bl (!hasA l k)) := fun kk q => by
 obtain ⟨ds, h1, h2⟩ := hk.key k
 rw [h1]
 unfold eDT Y5 Qx
 simp only [h2, qcr (c := c)]
 simpa using q
end
class Nn (f : α → D) : Prop where
 nn : ∀ a, BX.isNon (f a) = false
instance : Nn D.int := ⟨fun _ => rfl⟩
instance : Nn D.bl := ⟨fun _ => rfl⟩
instance : Nn D.str := ⟨fun _ => rfl⟩
instance {f : α → D} {g : β → D} : Nn (eT2 f g) := ⟨fun _ => rfl⟩
instance {f : α → D} {g : β → D} {h : γ → D} : Nn (eT3 f g h) := ⟨fun _ => rfl⟩
instance {f : α → D} {g : β → D} {h : γ → D} {i : δ → D} : Nn (eT4 f g h i) := ⟨fun _ => rfl⟩
instance {f : α → D} : Nn (eV f) := ⟨fun _ => rfl⟩
instance {f : α → D} : Nn (eL f) := ⟨fun _ => rfl⟩
end
end TX
namespace BX
open PySem PySem.Spec PyProof.Rows L2
structure Pr where
 at' : Addr
 kat : Addr
 key : List Key
 val : V
def putAll (kvs : List (List Key × V)) (l : List Pr) : List (List Key × V) := l.foldl (fun a x => putK a x.key x.val) kvs
section
variable {X : Cx} {pins : List (Addr × Obj)} {σ : L2.St} {H : Hp} {s : Shared}
inductive Trip (H : Hp) (h : Heap) : List Pr → List (List Key × Addr × Value) → Prop
 | nil : Trip H h [] []
 | cons {x : Pr} {u : Value} {l : List Pr} {ts : List (List Key × Addr × Value)} : RelV x.val u → IsTup h x.at' #[.ref x.kat, u] → H x.kat = some (.tup (x.key.map kV)) → Trip H h l ts → Trip H h (x :: l) ((x.key, x.kat, u) :: ts)
theorem Trip.len {h : Heap} : ∀ {l : List Pr} {ts : List (List Key × Addr × Value)}, Trip H h l ts → ts.length = l.length
 | _, _, .nil => rfl
 | _, _, .cons _ _ _ t => by rw [List.length_cons, List.length_cons, t.len]
theorem Trip.get {h : Heap} : ∀ {l : List Pr} {ts : List (List Key × Addr × Value)} {j : Nat} {t : List Key × Addr × Value}, Trip H h l ts → ts[j]? = some t → ∃ x, l[j]? = some x ∧ t.2.1 = x.kat ∧ IsTup h x.at' #[.ref t.2.1, t.2.2]
 | _, _, 0, _, .cons r i e t, q => by cases q; exact ⟨_, rfl, rfl, i⟩
 | _, _, j + 1, _, .cons r i e t, q => by simpa using t.get (j := j) (by simpa using q)
theorem Trip.all {h : Heap} {l : List Pr} {ts : List (List Key × Addr × Value)} (t : Trip H h l ts) : ∀ {kvs : List (List Key × V)} {xs : List (List Key × Addr × Value)}, KT H kvs xs → KT H (putAll kvs l) (storedAllH xs ts) := by
 induction t with
 | nil => intro kvs xs r; exact r
 | cons rv i e t ih =>
   intro kvs xs r
   exact ih (r.put _ e rv)
end
end BX
namespace BX
open PySem PySem.Spec PyProof.Rows L2
section
variable {X : Cx}
theorem qgB {H : Hp} {p : Addr} {hs : List (List Key × V)} {kvs : List (List Key × D)} (h : H p = none) (ek : hs.map (·.1) = kvs.map (·.1)) (nd : (kvs.map (·.1)).Nodup) (r : Reps X.K H 0 (kvs.map (·.2)) (hs.map (·.2)) []) : Rep X.K (upd H p (.dT hs)) 0 (.dT kvs) (.ref p) [p] :=
 .dT upd_same ek nd (r.keep fun b o e _ => by rw [upd_ne (ne_of_none e h)]; exact e) fun _ z => by simp at z
end
end BX
namespace TX
open PySem PySem.Spec PyProof.Rows L2 BX
section
variable {e e1 e' : En} {L : Nat} {r r1 r2 r' : R} {d d1 d2 d3 : D} {Q : R → En → Prop} {QB : Bool → En → Prop} {QA : List R → En → Prop} {i j : Nat} {α β γ κ : Type}
def qhI (d : D) (b : Bool) : Prop := ∀ k : Bool → Prop, k b → tru d k
theorem tr_b {b : Bool} : qhI (.bl b) b := fun k q => q
theorem j8 {t : XE} (q : t e fun r e => rd 2 r e fun d => tru d fun b => aB QB b e) : xVal t e QB := q
theorem j6 {b : Bool} (h : Rv e 2 r d) (ht : qhI d b) (q : aB QB b e) : rd 2 r e fun d => tru d fun b => aB QB b e := h.rd (ht (fun b => aB QB b e) q)
theorem qhy {t : XT} (q : t e fun b e => aB QB (!b) e) : xNot t e QB := q
theorem qc0 {t u : XT} (q : t e fun b e => (b = true → u e QB) ∧ (b = false → aB QB false e)) : xAnd t u e QB := q
theorem qfR {t u : XE} (q : t e fun r e => rd 2 r e fun d => tru d fun b => (b = true → u e Q) ∧ (b = false → aR Q r e)) : dAnd t u e Q := q
theorem qgQ {b : Bool} {k : Bool → Prop} (h : Rv e 2 r (.bl b)) (q : k b) : rd 2 r e fun d => tru d k := h.rd q
theorem qa6 {t : XE} (q : t e fun r e => rd 2 r e fun d => intD d fun z => aR Q (.tmp (.int (-z))) e) : dNeg t e Q := q
theorem qaW {a : Int} (h : Rv e 2 r (.int a)) (q : aR Q (.tmp (.int (-a))) e) : rd 2 r e fun d => intD d fun z => aR Q (.tmp (.int (-z))) e := h.rd q
theorem qu (q : aL QA [] e) : aNil e QA := q
theorem qj {t : XE} {u : XA} (q : t e fun r e => u e fun rs e2 => aL QA (r :: rs) e2) : ql t u e QA := q
theorem xK {u : XA} (q : u e fun rs e => rs.length ≤ 1000 ∧ jo rs e fun ds => aR Q (.tmp (.tup ds)) e) : dTup u e Q := q
theorem uH {u : XA} (q : u e fun rs e => rs.length ≤ 1000 ∧ jo rs e fun ds => aR Q (.tmp (.lst ds)) e) : dLst u e Q := q
theorem qdx {rs : List R} {ds : List D} (h : StL e rs ds) (q : aR Q (.tmp (.tup ds)) e) (hl : rs.length ≤ 1000 := by simp) : rs.length ≤ 1000 ∧ jo rs e fun ds => aR Q (.tmp (.tup ds)) e := ⟨hl, h.go (k := fun ds => aR Q (.tmp (.tup ds)) e) q⟩
theorem qiL {rs : List R} {ds : List D} (h : StL e rs ds) (q : aR Q (.tmp (.lst ds)) e) (hl : rs.length ≤ 1000 := by simp) : rs.length ≤ 1000 ∧ jo rs e fun ds => aR Q (.tmp (.lst ds)) e := ⟨hl, h.go (k := fun ds => aR Q (.tmp (.lst ds)) e) q⟩
def IxTo (d1 d2 d : D) : Prop := ∀ k : D → Prop, k d → ixd d1 d2 k
inductive ElTo : R → D → R → Prop
 | tmp {x d : D} : ElTo (.tmp x) d (.tmp d)
 | ro {c : Bool} {x d : D} {r : R} : mkRo c d = r → ElTo (.ro c x) d r
 | sl {i : Nat} {d : D} : d.imm = true → ElTo (.sl i) d (.tmp d)
theorem ElTo.go (h : ElTo r d r') {k : R → Prop} (q : k r') : elem r d k := by
 cases h with
 | tmp => exact q
 | ro h => subst h; exact q
 | sl h => exact ⟨h, q⟩
theorem ye {t u : XE} (q : t e fun r1 e1 => u e1 fun r2 e2 => rd 2 r1 e2 fun d1 => rd 1 r2 e2 fun d2 => ixd d1 d2 fun d => elem r1 d fun r => aR Q r e2) : dIdx t u e Q := q
theorem o_idx (h1 : Rv e 2 r1 d1) (h2 : Rv e 1 r2 d2) (hi : IxTo d1 d2 d) (hel : ElTo r1 d r') (q : aR Q r' e) : rd 2 r1 e fun d1 => rd 1 r2 e fun d2 => ixd d1 d2 fun d => elem r1 d fun r => aR Q r e :=
 h1.rd (h2.rd (hi (fun d => elem r1 d fun r => aR Q r e) (hel.go (k := fun r => aR Q r e) q)))
theorem ix_T {ds : List D} {i : Int} (h : atI ds i = some d) : IxTo (.tup ds) (.int i) d := fun k q => by unfold ixd; simp only [h]; exact q
theorem Qe {α : Type} {f : α → D} {l : List α} {i : Int} {a : α} (h : atI l i = some a) : atI (l.map f) i = some (f a) := by
 unfold atI at h ⊢
 rw [List.length_map]
 cases e : ixN l.length i with
 | none => rw [e] at h; cases h
 | some j =>
   rw [e] at h
   simp only [Option.bind_some] at h ⊢
   rw [List.getElem?_map, h]; rfl
theorem ix_L {f : α → D} {l : List α} {i : Int} {a : α} (h : atI l i = some a) : IxTo (eL f l) (.int i) (f a) := fun k q => by unfold eL ixd; simp only [Qe h]; exact q
theorem ix_V {f : α → D} {l : List α} {i : Int} {a : α} (h : atI l i = some a) : IxTo (eV f l) (.int i) (f a) := fun k q => by unfold eV ixd; simp only [Qe h]; exact q
def mkS {α κ : Type} (ms : List Md) (ia : α → List D) (w : α → (κ → Prop) → Prop) (fo : κ → D) (od : α → κ → List D) : FS := ⟨ms, fun ds Q => ∃ a k, ds = ia a ∧ w a k ∧ ∀ r, k r → Q (fo r) (od a r)⟩
theorem qW {α κ : Type} {ms : List Md} {ia : α → List D} {w : α → (κ → Prop) → Prop} {fo : κ → D} {od : α → κ → List D} : Wg (mkS ms ia w fo od) := fun ds Q Q' h ⟨a, k, e, w, q⟩ => ⟨a, k, e, w, fun r hr => h _ _ (q r hr)⟩
theorem c_fn {S : FS} {u : XA} (q : u e fun rs e => zG S.ms rs e = true ∧ apart S.ms rs = true ∧ jr 2 rs e fun ds => S.wp ds fun d ds' => aR Q (.tmp d) (putB S.ms rs ds' 0 e)) : dFn S u e Q := q
theorem x_call {α κ : Type} {ms : List Md} {ia : α → List D} {w : α → (κ → Prop) → Prop} {fo : κ → D} {od : α → κ → List D} {rs : List R} (a : α) (fe : κ → En) {k : κ → Prop} (h : w a k) (hr : RvL e 2 rs (ia a)) (h1 : zG ms rs e = true) (h2 : apart ms rs = true)
 (he : ∀ r, putB ms rs (od a r) 0 e = fe r) (q : ∀ r, k r → aR Q (.tmp (fo r)) (fe r)) :
 zG (mkS ms ia w fo od).ms rs e = true ∧ apart (mkS ms ia w fo od).ms rs = true ∧ jr 2 rs e fun ds => (mkS ms ia w fo od).wp ds fun d ds' => aR Q (.tmp d) (putB (mkS ms ia w fo od).ms rs ds' 0 e) :=
 ⟨h1, h2, hr.go (k := fun ds => (mkS ms ia w fo od).wp ds fun d ds' => aR Q (.tmp d) (putB (mkS ms ia w fo od).ms rs ds' 0 e)) ⟨a, k, rfl, h, fun r hk => by
  show aR Q _ (putB ms rs (od a r) 0 e)
  rw [he]; exact q r hk⟩⟩
theorem qZ : zG [] [] e = true := rfl
theorem qD {m : Md} {ms : List Md} {rs : List R} (h : Z6 m r e = true) (t : zG ms rs e = true) : zG (m :: ms) (r :: rs) e = true := by rw [zG, h, t]; rfl
theorem yU : Z6 .cst r e = true := rfl
theorem yr (h : Rv e 1 r d) : Z6 .ro r e = true := by cases h <;> rfl
theorem wY {ms : List Md} {rs : List R} (h : ms.all Md.rd = true) : apart ms rs = true := by
 unfold apart
 rw [List.all_eq_true]
 intro p _
 rw [List.all_eq_true]
 intro q _
 rw [Bool.or_eq_true]
 refine .inr ?_
 split
 ·rename_i m i j h1 h2 h3
  have := List.all_eq_true.mp h _ (List.mem_of_getElem? h1)
  rw [this]; rfl
 ·rfl
def OpN (op : OPn) (ds : List D) (d : D) : Prop := ∀ k : D → Prop, k d → op ds k
theorem xg {op : OPn} {u : XA} (q : u e fun rs e => jr L rs e fun ds => op ds fun d => aR Q (.tmp d) e) : dCall L op u e Q := q
theorem yV {op : OPn} {rs : List R} {ds : List D} (h : RvL e L rs ds) (ho : OpN op ds d) (q : aR Q (.tmp d) e) : jr L rs e fun ds => op ds fun d => aR Q (.tmp d) e := h.go (k := fun ds => op ds fun d => aR Q (.tmp d) e) (ho (fun d => aR Q (.tmp d) e) q)
def intB (b : Bool) : Int := if b then 1 else 0
section
variable {f : α → D} {l : List α} {a b : Int} {κf : κ → List Key} {κg : κ → Key} {m : List (κ × α)}
theorem ZD : OpN (op1 bLen) [eL f l] (.int l.length) := fun k q => by unfold op1 bLen eL; simpa using q
theorem qel {b : Bool} : OpN (op1 bInt) [.bl b] (.int (intB b)) := fun k q => q
theorem qb8 : OpN (op2 JK) [.int a, .int b] (.int (min a b)) := fun k q => by
 show k (.int (if b < a then b else a))
 have : (if b < a then b else a) = min a b := by split <;> omega
 rw [this]; exact q
theorem VR [Im f] : OpN (op1 vg) [eL f l] (eV f l) := fun k q => ⟨imL l, q⟩
theorem qiO {l : List Int} : OpN (op1 bSum) [eL .int l] (.int l.sum) := fun k q => by unfold op1 bSum eL; simp only [ZK]; exact q
def srt (tl : α → List Int) (l : List α) : List α := l.mergeSort fun a b => !HT.lexLt (tl b) (tl a)
theorem Jh {tl : α → List Int} [h : Ints f tl] : ∀ l : List α, WD (l.map f) = some (l.map tl)
 | [] => rfl
 | a :: l => by
   rw [List.map_cons, h.isx, WD, ZK, Jh l]
   have := h.ne a
   cases e : tl a with
   | nil => exact absurd e this
   | cons x xs => simp [e]
theorem sort_map {tl : α → List Int} [h : Ints f tl] (l : List α) : (sortI (l.map tl)).map tupI = (srt tl l).map f := by
 unfold sortI srt
 rw [← List.map_mergeSort (r := fun a b => !HT.lexLt (tl b) (tl a)) (s := fun a b => !HT.lexLt b a) (f := tl) (fun a _ b _ => rfl), List.map_map]
 exact List.map_congr_left fun a _ => (h.isx a).symm
class Ki (kf : κ → List Key) (tl : outParam (κ → List Int)) : Prop where
 ki : ∀ c, keyI (kf c) = some (tl c)
instance : Ki (kf2 (Sum.inl (α := Int)) Sum.inl) tl2 := ⟨fun _ => rfl⟩
instance : Ki (kf3 (Sum.inl (α := Int)) Sum.inl Sum.inl) tl3 := ⟨fun _ => rfl⟩
instance : Ki (kf4 (Sum.inl (α := Int)) Sum.inl Sum.inl Sum.inl) tl4 := ⟨fun _ => rfl⟩
theorem ZJ {c : κ → D} {kf : κ → List Key} {tl : κ → List Int} {f : α → D} [h : Ki kf tl] [hc : Ints c tl] : ∀ l : List (κ × α), Jg (l.map fun p => (kf p.1, f p.2)) = some (l.map fun p => tl p.1)
 | [] => rfl
 | p :: l => by
   rw [List.map_cons, Jg, ZJ (c := c) l]
   simp only [h.ki]
   have := hc.ne p.1
   cases e : tl p.1 with
   | nil => exact absurd e this
   | cons x xs => simp [e]
theorem V1 {c : κ → D} {kf : κ → List Key} {tl : κ → List Int} {m : List (κ × α)} [h : Ki kf tl] [hc : Ints c tl] : OpN (op1 ju) [eDT kf f m] (eL c (srt tl (m.map (·.1)))) := fun k q => by
 unfold op1 ju eDT
 have e : (m.map fun p => tl p.1) = (m.map (·.1)).map tl := by rw [List.map_map]; rfl
 simp only [ZJ (c := c), e, sort_map (f := c)]
 exact q
end
end
end TX
namespace TX
open PySem PySem.Spec PyProof.Rows L2 BX
section
variable {e e1 e' : En} {L : Nat} {r r1 r2 r' : R} {d d1 d2 d3 : D} {Q : R → En → Prop} {nx : En → Prop} {rt : D → En → Prop} {i j : Nat} {α β γ κ σ : Type} {kE : En → Prop}
def lt {α : Type} (v : α) (k : α → Prop) : Prop := k v
def forW {α σ : Type} : List α → σ → (α → σ → (σ → Prop) → Prop) → (σ → Prop) → Prop
 | [], s, _, k => k s
 | a :: as, s, body, k => body a s fun s' => forW as s' body k
def lcW {α β σ : Type} : List α → List β → σ → (α → σ → (Option β → σ → Prop) → Prop) → (List β → σ → Prop) → Prop
 | [], acc, s, _, k => k acc s
 | a :: as, acc, s, body, k => body a s fun o s' => lcW as (acc ++ o.toList) s' body k
def ifW {σ : Type} (b : Bool) (A B : (σ → Prop) → Prop) (k : σ → Prop) : Prop := (b = true → A k) ∧ (b = false → B k)
def ifP (b : Bool) (A B : Prop) : Prop := (b = true → A) ∧ (b = false → B)
def exW {α : Type} (o : Option α) (k : α → Prop) : Prop := ∃ a, o = some a ∧ k a
theorem wR {t u : XS} (q : t e (fun e => u e nx rt) rt) : sSeq t u e nx rt := q
theorem Z4 (q : aN nx e) : sNil e nx rt := q
theorem u9 {t : XE} (q : t e fun _ e => aN nx e) : Qa t e nx rt := q
theorem s_asg {t : XE} {g : XG} (q : t e fun r e => g r e nx) : sAsg t g e nx rt := q
theorem s_ret {t : XE} (q : t e fun r e => retR r e fun d => aD rt d e) : sRet t e nx rt := q
theorem xO (q : aD rt d e) : retR (.tmp d) e fun d => aD rt d e := q
theorem Y6 {m : Md} (h : e[i]? = some (some (d, .own))) (q : aD rt d e) : retR (.sl i) e fun d => aD rt d e := by
 unfold retR; simp only [h]; exact ⟨trivial, q⟩
theorem s_if {c : XT} {t u : XS} (q : c e fun b e => (b = true → t e nx rt) ∧ (b = false → u e nx rt)) : sIf c t u e nx rt := q
theorem Z8 {b : Bool} {A B G1 G2 : Prop} (h : ifP b A B) (h1 : b = true → A → G1) (h2 : b = false → B → G2) : (b = true → G1) ∧ (b = false → G2) := ⟨fun z => h1 z (h.1 z), fun z => h2 z (h.2 z)⟩
theorem qff {b : Bool} {A B : (σ → Prop) → Prop} {k : σ → Prop} {t u : XS} (sh : σ → En → Prop) (h : ifW b A B k)
 (h1 : b = true → ∀ (kk : σ → Prop) (nx' : En → Prop), (∀ s e, sh s e → kk s → nx' e) → A kk → t e nx' rt) (h2 : b = false → ∀ (kk : σ → Prop) (nx' : En → Prop), (∀ s e, sh s e → kk s → nx' e) → B kk → u e nx' rt) (hJ : ∀ s e, sh s e → k s → aN nx e) :
 (b = true → t e nx rt) ∧ (b = false → u e nx rt) := ⟨fun z => h1 z _ _ hJ (h.1 z), fun z => h2 z _ _ hJ (h.2 z)⟩
theorem g_N {f : α → D} {v : α} {P : α → Prop} (ee : α → En) (h : lt v P) (hs : setOk e i = true) (he : ∀ x, e.set i (some (f x, .own)) = ee x) (q : ∀ x, P x → aN kE (ee x)) : gN i (.tmp (f v)) e kE :=
 ⟨hs, by show aN kE _; rw [he]; exact q v h⟩
theorem g_n (hs : setOk e i = true) (he : e.set i (some (d, .own)) = e') (q : aN kE e') : gN i (.tmp d) e kE := ⟨hs, by subst he; exact q⟩
theorem g_T {n : Nat} {gs : XGs} {xs : List D} (hn : xs.length = n) (q : gs none xs e kE) : gT n gs (.tmp (.tup xs)) e kE := ⟨hn, q⟩
theorem qcs {n : Nat} {gs : XGs} {xs : List D} {c : Bool} (hn : xs.length = n) (q : gs (some c) xs e kE) : gT n gs (.ro c (.tup xs)) e kE := by
 unfold gT rd R.data; cases c <;> exact ⟨hn, q⟩
theorem yq {g : XG} {gs : XGs} {kd : Option Bool} {ds : List D} (q : g (mkI kd d) e fun e => gs kd ds e kE) : za g gs kd (d :: ds) e kE := q
theorem Yb {kd : Option Bool} (q : aN kE e) : Qc kd [] e kE := q
variable {kI : List D → Option Bool → Lok → En → Prop} {xs : List D}
theorem jV {t : XE} (q : t e fun r e => rd 2 r e fun d => match d with
 | .lst xs => yo r e (fun kd lk e1 => aI kI xs kd lk e1) (immL xs)
 | .lF xs => yo r e (fun kd lk e1 => aI kI xs kd lk e1) (immL xs)
 | .tup xs => yo r e (fun kd lk e1 => aI kI xs kd lk e1) (immL xs)
 | _ => False) : iSeq t e kI := q
abbrev seqK (e : En) (kI : List D → Option Bool → Lok → En → Prop) (r : R) (d : D) : Prop := match d with
 | .lst xs => yo r e (fun kd lk e1 => aI kI xs kd lk e1) (immL xs)
 | .lF xs => yo r e (fun kd lk e1 => aI kI xs kd lk e1) (immL xs)
 | .tup xs => yo r e (fun kd lk e1 => aI kI xs kd lk e1) (immL xs)
 | _ => False
theorem qgR {f : α → D} [Im f] {l : List α} (q : aI kI (l.map f) none none e) : (rd 2 (.tmp (eL f l)) e fun d => seqK e kI (.tmp (eL f l)) d) := ⟨imL l, q⟩
theorem VM {f : α → D} [Im f] {l : List α} (q : aI kI (l.map f) none none e) : (rd 2 (.tmp (eV f l)) e fun d => seqK e kI (.tmp (eV f l)) d) := ⟨imL l, q⟩
theorem qgS {f : α → D} {c : Bool} {l : List α} (q : aI kI (l.map f) (some c) none e) : (rd 2 (.ro c (eL f l)) e fun d => seqK e kI (.ro c (eL f l)) d) := by
 unfold rd R.data; cases c <;> exact q
theorem qdy {f : α → D} [Im f] {l : List α} {m : Md} (h : e[i]? = some (some (eL f l, m))) (hm : m.okL 2 = true) (he : e.set i (some (eL f l, .lk)) = e') (q : aI kI (l.map f) none (some (i, m)) e') : (rd 2 (.sl i) e fun d => seqK e kI (.sl i) d) := by
 subst he
 unfold rd R.data; simp only [h, hm]
 unfold eL at h ⊢
 simp only [seqK, yo, h]
 exact ⟨imL l, q⟩
def rng (a b : Int) : List Int := (List.range (b - a).toNat).map fun n => a + (n : Nat)
def Wf (a b : Int) : Prop := -(2 ^ 62) ≤ a ∧ a < 2 ^ 62 ∧ -(2 ^ 62) ≤ b ∧ b < 2 ^ 62
theorem qa5 {t : XE} (q : t e fun r e => rd 2 r e fun d => match d with
 | .int j => -(2 ^ 62) ≤ j ∧ j < 2 ^ 62 ∧ aI kI ((List.range j.toNat).map fun n => .int (n : Nat)) none none e
 | _ => False) : uW t e kI := q
theorem qaV {b : Int} (h : Wf 0 b) (q : aI kI ((rng 0 b).map D.int) none none e) : (rd 2 (.tmp (.int b)) e fun d => match d with
 | .int j => -(2 ^ 62) ≤ j ∧ j < 2 ^ 62 ∧ aI kI ((List.range j.toNat).map fun n => .int (n : Nat)) none none e
 | _ => False) := ⟨h.2.2.1, h.2.2.2, by
   have : (rng 0 b).map D.int = (List.range b.toNat).map fun n => .int (n : Nat) := by simp [rng]
   rw [← this]; exact q⟩
theorem qhx {t u : XE} (q : t e fun r e => u e fun r2 e2 => rd 2 r e2 fun d => rd 2 r2 e2 fun d2 => match d, d2 with
 | .int i, .int j => (-(2 ^ 62) ≤ i ∧ i < 2 ^ 62 ∧ -(2 ^ 62) ≤ j ∧ j < 2 ^ 62) ∧ aI kI ((List.range (j - i).toNat).map fun n => .int (i + (n : Nat))) none none e2
 | _, _ => False) : ZL t u e kI := q
theorem qgT {a b : Int} (h : Wf a b) (q : aI kI ((rng a b).map D.int) none none e) : (rd 2 (.tmp (.int a)) e fun d => rd 2 (.tmp (.int b)) e fun d2 => match d, d2 with
 | .int i, .int j => (-(2 ^ 62) ≤ i ∧ i < 2 ^ 62 ∧ -(2 ^ 62) ≤ j ∧ j < 2 ^ 62) ∧ aI kI ((List.range (j - i).toNat).map fun n => .int (i + (n : Nat))) none none e
 | _, _ => False) := ⟨h, by
   have : (rng a b).map D.int = (List.range (b - a).toNat).map fun n => .int (a + (n : Nat)) := by simp [rng]
   rw [← this]; exact q⟩
theorem Z5 {it : XI} {g : XG} {tb : XS} (q : it e fun ds kd lk e1 => forL g tb kd ds e1 (fun e2 => thaw lk e2 nx) (fun d e2 => thaw lk e2 fun e3 => aD rt d e3)) : sFor it g tb e nx rt := q
theorem Zy {g : XG} {tb : XS} {kd : Option Bool} {fI : α → D} {body : α → σ → (σ → Prop) → Prop} {k : σ → Prop} (sh : σ → En → Prop) :
 ∀ {l : List α} {s0 : σ} {e : En}, forW l s0 body k → sh s0 e →
 (∀ a, a ∈ l → ∀ s e, sh s e → ∀ (kk : σ → Prop) (nx' : En → Prop), (∀ s' e', sh s' e' → kk s' → nx' e') → body a s kk → g (mkI kd (fI a)) e fun e1 => tb e1 nx' rt) →
 (∀ s e, sh s e → k s → aN nx e) → forL g tb kd (l.map fI) e nx rt
 | [], s0, e, h, h0, hb, hn => hn _ _ h0 h
 | a :: l, s0, e, h, h0, hb, hn => hb a (List.mem_cons_self ..) s0 e h0 _ _ (fun s' e' hs hk => Zy sh hk hs (fun a ha => hb a (List.mem_cons_of_mem _ ha)) hn) h
theorem c_lc {it : XI} {g : XG} {tt : XT} {te : XE} {vs : List Nat} (q : it e fun ds kd lk e1 => (vs.all fun v => setOk e1 v) = true ∧ lcL g tt te kd vs ds (wg vs e1) [] fun acc e2 => thaw lk (uz vs e1 e2) fun e3 => aR Q (.tmp (.lst acc)) e3) : dLc it g tt te vs e Q := q
theorem qdU {A B : En → Prop} (q : A e) : xYes e fun b e2 => (b = true → A e2) ∧ (b = false → B e2) := ⟨fun _ => q, fun z => nomatch z⟩
theorem qgX {g : XG} {tt : XT} {te : XE} {kd : Option Bool} {vs : List Nat} {kk : List D → En → Prop} {fI : α → D} {fo : β → D} {l : List α} (p : α → Bool) (F : α → β) (hs : (vs.all fun v => setOk e1 v) = true) (hl : l.length ≤ sizeLine) (he : wg vs e1 = e)
 (hb : ∀ a ∈ l, ∀ (c : Prop) (k1 : D → En → Prop) (k2 : En → Prop), c → (p a = true → k1 (fo (F a)) e) → (p a = false → k2 e) → g (mkI kd (fI a)) e fun e1 => tt e1 fun b e2 => (b = true → te e2 fun r e3 => stor r e3 fun dd => c ∧ k1 dd (wg vs e3)) ∧ (b = false → k2 (wg vs e2)))
 (q : aK kk (((l.filter p).map F).map fo) e) : (vs.all fun v => setOk e1 v) = true ∧ lcL g tt te kd vs (l.map fI) (wg vs e1) [] kk := by
 refine ⟨hs, ?_⟩
 rw [he]
 exact QC p (fun a => fo (F a)) fI l [] (by simpa using hl) (by rw [List.map_map] at q; exact q) fun a ha c k1 k2 hc h1 h2 => hb a ha c k1 k2 hc h1 h2
theorem qb3 {g : XG} {te : XE} {kd : Option Bool} {vs : List Nat} {kk : List D → En → Prop} {fI : α → D} {fo : β → D} {l : List α} (F : α → β) (hs : (vs.all fun v => setOk e1 v) = true) (hl : l.length ≤ sizeLine) (he : wg vs e1 = e)
 (hb : ∀ a ∈ l, ∀ (c : Prop) (k1 : D → En → Prop), c → k1 (fo (F a)) e → g (mkI kd (fI a)) e fun e1 => te e1 fun r e3 => stor r e3 fun dd => c ∧ k1 dd (wg vs e3))
 (q : aK kk ((l.map F).map fo) e) : (vs.all fun v => setOk e1 v) = true ∧ lcL g xYes te kd vs (l.map fI) (wg vs e1) [] kk := by
 refine ⟨hs, ?_⟩
 rw [he]
 exact qdC (fun a => fo (F a)) fI l hl (by rw [List.map_map] at q; exact q) hb
theorem o_el {c : Prop} {k1 : D → En → Prop} {vs : List Nat} {E : En} (h : St e r d) (hc : c) (he : wg vs e = E) (q : k1 d E) : stor r e fun dd => c ∧ k1 dd (wg vs e) := h _ ⟨hc, by rw [he]; exact q⟩
theorem qdz {g : XG} {tt : XT} {te : XE} {kd : Option Bool} {vs : List Nat} {kk : List D → En → Prop} {fI : α → D} {fo : β → D} {body : α → σ → (Option β → σ → Prop) → Prop} {k : List β → σ → Prop} (sh : σ → En → Prop) {l : List α} {s0 : σ} (h : lcW l [] s0 body k) (hs : (vs.all fun v => setOk e1 v) = true) (hl : l.length ≤ sizeLine) (h0 : sh s0 (wg vs e1))
 (hb : ∀ a ∈ l, ∀ s e, sh s e → ∀ (w : Option β → σ → Prop) (c : Prop) (k1 : D → En → Prop) (k2 : En → Prop), c → (∀ b s' e', sh s' e' → w (some b) s' → k1 (fo b) e') → (∀ s' e', sh s' e' → w none s' → k2 e') → body a s w →
  g (mkI kd (fI a)) e fun e1 => tt e1 fun b e2 => (b = true → te e2 fun r e3 => stor r e3 fun dd => c ∧ k1 dd (wg vs e3)) ∧ (b = false → k2 (wg vs e2)))
 (hn : ∀ acc s e, sh s e → k acc s → aK kk (acc.map fo) e) : (vs.all fun v => setOk e1 v) = true ∧ lcL g tt te kd vs (l.map fI) (wg vs e1) [] kk := by
 refine ⟨hs, ?_⟩
 have main : ∀ (m : List α) (acc : List β) (s : σ) (e : En), (∀ a ∈ m, a ∈ l) → acc.length + m.length ≤ sizeLine → lcW m acc s body k → sh s e → lcL g tt te kd vs (m.map fI) e (acc.map fo) kk := by
  intro m
  induction m with
  | nil => intro acc s e _ _ h hs; exact hn _ _ _ hs h
  | cons a m ih =>
    intro acc s e hm hlen h hsh
    rw [List.length_cons] at hlen
    refine hb a (hm a (List.mem_cons_self ..)) s e hsh _ ((acc.map fo).length < sizeLine) (fun dd e => lcL g tt te kd vs (m.map fI) e (acc.map fo ++ [dd]) kk) (fun e => lcL g tt te kd vs (m.map fI) e (acc.map fo) kk) (by rw [List.length_map]; omega) (fun b s' e' hs' hw => ?_) (fun s' e' hs' hw => ?_) h
    ·have := ih (acc ++ [b]) s' e' (fun x hx => hm x (List.mem_cons_of_mem _ hx)) (by simp; omega) hw hs'
     rw [List.map_append] at this
     exact this
    ·have hw' : lcW m acc s' body k := by simpa using hw
     exact ih acc s' e' (fun x hx => hm x (List.mem_cons_of_mem _ hx)) (by omega) hw' hs'
 exact main l [] s0 _ (fun _ h => h) (by simpa using hl) h h0
theorem c_m1 {isT : D → Bool} {B : B1} {te : XE} {m : Md} (h : e[i]? = some (some (d, m))) (hb : D.big d = true) (hm : m = .own ∨ m = .io := by decide) (ht : isT d = true) (q : te e fun r2 e2 => B (.sl i) r2 e2 Q) : dM1 isT B (dVar i) te e Q := by
 unfold dM1 dVar
 rw [h]
 have key : (rd 2 (.sl i) e fun d => isT d = true) ∧ te e fun r2 e2 => B (.sl i) r2 e2 Q := ⟨by
  unfold rd R.data
  rcases hm with rfl | rfl <;> (simp only [h]; exact ht), q⟩
 rcases hm with rfl | rfl <;> cases d <;> first | (cases hb; done) | exact key
theorem WT {f : α → D} {l : List α} {v : α} {m : Md} {P : List α → Prop} (ee : List α → En) (h : lt (l ++ [v]) P) (hr : St e r (f v)) (h0 : e[i]? = some (some (eL f l, m))) (hl : l.length < sizeLine) (he : ∀ x, e.set i (some (eL f x, m)) = ee x) (q : ∀ x, P x → aR Q (.tmp .non) (ee x)) (hm : m = .own ∨ m = .io := by decide) : bAppend (.sl i) r e Q := by
 refine hr _ ?_
 have q := q _ h
 rw [← he] at q
 unfold eL at h0 q
 rw [List.map_append] at q
 unfold chgL chg
 rcases hm with rfl | rfl <;> (simp only [h0]; exact ⟨by simpa using hl, q⟩)
theorem Qy {f : α → D} {l ys : List α} {m : Md} {P : List α → Prop} (ee : List α → En) (h : lt (l ++ ys) P) (h0 : e[i]? = some (some (eL f l, m))) (hl : l.length + ys.length ≤ sizeLine) (he : ∀ x, e.set i (some (eL f x, m)) = ee x) (q : ∀ x, P x → aR Q (.tmp .non) (ee x)) (hm : m = .own ∨ m = .io := by decide) : uY (.sl i) (.tmp (eL f ys)) e Q := by
 have q := q _ h
 rw [← he] at q
 unfold eL at h0 q ⊢
 rw [List.map_append] at q
 rw [uY, xSeT]
 unfold chgL chg
 rcases hm with rfl | rfl <;> (simp only [h0]; exact ⟨by simpa using hl, q⟩)
theorem qiC {te to ti : XE} (q : te e fun r e1 => to e1 fun ro e2 => ti e2 fun ri e3 => stor r e3 fun d => rd 1 ri e3 fun di => putR ro di d e3 nx) : sPut te to ti e nx rt := q
theorem qfa [DecidableEq κ] {c : κ → D} {kf : κ → List Key} [hk : Kt c kf] {f : α → D} {l : List (κ × α)} {k : κ} {v : α} {m : Md} {ri : R} {P : List (κ × α) → Prop} (ee : List (κ × α) → En) (h : lt (putA k v l) P) (hr : St e r (f v)) (hi : Rv e 1 ri (c k)) (h0 : e[i]? = some (some (eDT kf f l, m))) (hl : l.length < sizeLine) (he : ∀ x, e.set i (some (eDT kf f x, m)) = ee x) (q : ∀ x, P x → aN nx (ee x)) (hm : m = .own ∨ m = .io := by decide) :
 stor r e fun d => rd 1 ri e fun di => putR (.sl i) di d e nx := by
 have q := q _ h
 rw [← he] at q
 refine hr _ (hi.rd ?_)
 obtain ⟨ds, h1, h2⟩ := hk.key k
 rw [h1]
 unfold eDT at h0 q
 rw [← qbT (c := c)] at q
 unfold putR chg
 rcases hm with rfl | rfl <;> (simp only [h0, h2]; exact ⟨by simpa using hl, q⟩)
theorem qeP {u : XA} (q : u e fun rs e => jo rs e fun ds => match ds with
 | [d1, d2] => setOk e i = true ∧ setOk e j = true ∧ aN nx ((e.set i (some (d1, .own))).set j (some (d2, .own)))
 | _ => False) : sPar i j u e nx rt := q
theorem qfc {f : α → D} {g : β → D} {v : α} {w : β} {P : α → β → Prop} (ee : α → β → En) (h1 : St e r1 (f v)) (h2 : St e r2 (g w)) (h : lt v fun x => lt w (P x)) (hs : setOk e i = true) (hs2 : setOk e j = true) (he : ∀ x y, (e.set i (some (f x, .own))).set j (some (g y, .own)) = ee x y) (q : ∀ x y, P x y → aN nx (ee x y)) :
 jo [r1, r2] e fun ds => match ds with
 | [d1, d2] => setOk e i = true ∧ setOk e j = true ∧ aN nx ((e.set i (some (d1, .own))).set j (some (d2, .own)))
 | _ => False := h1 _ (h2 _ ⟨hs, hs2, by rw [he]; exact q v w h⟩)
end
end TX
namespace TX
open PySem PySem.Spec PyProof.Rows L2 BX
section
variable {e e1 e' : En} {L : Nat} {r r1 r2 r' : R} {d d1 d2 d3 : D} {Q : R → En → Prop} {QB : Bool → En → Prop} {nx : En → Prop} {rt : D → En → Prop} {i j : Nat} {α β γ κ σ : Type} {kE : En → Prop}
theorem jk {t : XS} (he : e = e') (q : t e' nx rt) : t e nx rt := by rw [he]; exact q
theorem VL {m : Md} (h : e[i]? = some (some (d, .lk))) (he : e.set i (some (d, m)) = e') (q : aN kE e') : thaw (some (i, m)) e kE := by
 subst he; unfold thaw; simp only [h]; exact q
theorem wN (q : aN kE e) : thaw none e kE := q
theorem jN {lk : Lok} {vs : List Nat} (he : uz vs e1 e = e') (q : thaw lk e' kE) : thaw lk (uz vs e1 e) kE := by rw [he]; exact q
theorem all1 {v : Nat} (h : setOk e v = true) : (([v] : List Nat).all fun v => setOk e v) = true := by simp [h]
theorem all3 {v w x : Nat} (h : setOk e v = true) (h2 : setOk e w = true) (h3 : setOk e x = true) : (([v, w, x] : List Nat).all fun v => setOk e v) = true := by simp [h, h2, h3]
theorem qbJ {c : XT} {t u : XE} (q : sIf c (sRet t) (sRet u) e nx rt) : sRet (dIf c t u) e nx rt := q
theorem qfQ {kf : κ → List Key} {f : α → D} (q : aR Q (.tmp (eDT kf f [])) e) : dC (.dT []) e Q := q
theorem xH {rs : List R} (f : α → D) (l : List α) (h : StL e rs (l.map f)) (q : aR Q (.tmp (eL f l)) e) (hl : rs.length ≤ 1000 := by simp) : rs.length ≤ 1000 ∧ jo rs e fun ds => aR Q (.tmp (.lst ds)) e := qiL h q hl
theorem qeg {rs : List R} (f : α → D) (l : List α) (h : StL e rs (l.map f)) (q : aR Q (.tmp (eV f l)) e) (hl : rs.length ≤ 1000 := by simp) : rs.length ≤ 1000 ∧ jo rs e fun ds => aR Q (.tmp (.tup ds)) e := qdx h q hl
theorem yG (f : α → D) (g : β → D) (a : α) (b : β) (h : StL e [r1, r2] [f a, g b]) (q : aR Q (.tmp (eT2 f g (a, b))) e) : [r1, r2].length ≤ 1000 ∧ jo [r1, r2] e fun ds => aR Q (.tmp (.tup ds)) e := qdx h q
theorem qeh {r3 : R} (f : α → D) (g : β → D) (i : γ → D) (a : α) (b : β) (c : γ) (h : StL e [r1, r2, r3] [f a, g b, i c]) (q : aR Q (.tmp (eT3 f g i (a, b, c))) e) : [r1, r2, r3].length ≤ 1000 ∧ jo [r1, r2, r3] e fun ds => aR Q (.tmp (.tup ds)) e := qdx h q
theorem qb1 {r3 r4 : R} (f : α → D) (g : β → D) (i : γ → D) (j : κ → D) (a : α) (b : β) (c : γ) (k : κ) (h : StL e [r1, r2, r3, r4] [f a, g b, i c, j k]) (q : aR Q (.tmp (eT4 f g i j (a, b, c, k))) e) : [r1, r2, r3, r4].length ≤ 1000 ∧ jo [r1, r2, r3, r4] e fun ds => aR Q (.tmp (.tup ds)) e := qdx h q
section
variable {δ : Type} {f : α → D} {g : β → D} {h : γ → D} {i : δ → D}
theorem qdF {p : α × β} : IxTo (eT2 f g p) (.int 0) (f p.1) := ix_T (by rfl)
theorem qaX {p : α × β} : IxTo (eT2 f g p) (.int 1) (g p.2) := ix_T (by rfl)
theorem qiX {p : α × β × γ} : IxTo (eT3 f g h p) (.int 1) (g p.2.1) := ix_T (by rfl)
theorem qiW {p : α × β × γ} : IxTo (eT3 f g h p) (.int 2) (h p.2.2) := ix_T (by rfl)
theorem qiV {p : α × β × γ × δ} : IxTo (eT4 f g h i p) (.int 0) (f p.1) := ix_T (by rfl)
theorem qiU {p : α × β × γ × δ} : IxTo (eT4 f g h i p) (.int 1) (g p.2.1) := ix_T (by rfl)
theorem qg9 {p : α × β × γ × δ} : IxTo (eT4 f g h i p) (.int 2) (h p.2.2.1) := ix_T (by rfl)
theorem qg8 {p : α × β × γ × δ} : IxTo (eT4 f g h i p) (.int 3) (i p.2.2.2) := ix_T (by rfl)
end
theorem qb6 {b : Bool} {s0 : σ} {u : XT} {A : (Bool × σ → Prop) → Prop} {k : Bool × σ → Prop} (sh : σ → En → Prop) (h : ifW b A (fun kk => kk (false, s0)) k) (h0 : sh s0 e)
 (h1 : b = true → ∀ (kk : Bool × σ → Prop) (N : Bool → En → Prop), (∀ (v : Bool × σ) e, sh v.2 e → kk v → aB N v.1 e) → A kk → u e N) (hJ : ∀ (v : Bool × σ) e, sh v.2 e → k v → aB QB v.1 e) :
 (b = true → u e QB) ∧ (b = false → aB QB false e) := ⟨fun z => h1 z _ _ hJ (h.1 z), fun z => hJ (false, s0) _ h0 (h.2 z)⟩
theorem qfg {b : Bool} {s0 : σ} {u : XE} {A : (Bool × σ → Prop) → Prop} {k : Bool × σ → Prop} (sh : σ → En → Prop) (h : ifW b A (fun kk => kk (false, s0)) k) (h0 : sh s0 e)
 (h1 : b = true → ∀ (kk : Bool × σ → Prop) (N : R → En → Prop), (∀ (v : Bool × σ) e, sh v.2 e → kk v → aR N (.tmp (.bl v.1)) e) → A kk → u e N) (hJ : ∀ (v : Bool × σ) e, sh v.2 e → k v → aR Q (.tmp (.bl v.1)) e) :
 (b = true → u e Q) ∧ (b = false → aR Q (.tmp (.bl b)) e) := ⟨fun z => h1 z _ _ hJ (h.1 z), fun z => by
 have := hJ (false, s0) _ h0 (h.2 z)
 rw [z]; exact this⟩
theorem X8 {g : XG} {tt : XT} {te : XE} {kd : Option Bool} {vs : List Nat} {kk : List D → En → Prop} {fI : α → D} {fo : α → D} {l : List α} (p : α → Bool) (hs : (vs.all fun v => setOk e1 v) = true) (hl : l.length ≤ sizeLine) (he : wg vs e1 = e)
 (hb : ∀ a ∈ l, ∀ (c : Prop) (k1 : D → En → Prop) (k2 : En → Prop), c → (p a = true → k1 (fo a) e) → (p a = false → k2 e) → g (mkI kd (fI a)) e fun e1 => tt e1 fun b e2 => (b = true → te e2 fun r e3 => stor r e3 fun dd => c ∧ k1 dd (wg vs e3)) ∧ (b = false → k2 (wg vs e2)))
 (q : aK kk ((l.filter p).map fo) e) : (vs.all fun v => setOk e1 v) = true ∧ lcL g tt te kd vs (l.map fI) (wg vs e1) [] kk := qgX (fo := fo) p (fun a => a) hs hl he hb (by simpa using q)
theorem qau {S S' : FS} {n : Nat} {t : XS} (b : BodyOk S n t) (hm : S.ms = S'.ms) (hw : ∀ ds Q, S'.wp ds Q → S.wp ds Q) : BodyOk S' n t := by
 intro ds Q hl h
 have := b ds Q (by rw [hm]; exact hl) (hw ds Q h)
 have he : outD S ds Q = outD S' ds Q := funext fun d => funext fun e => by unfold outD; rw [hm]
 rw [hm, he] at this
 exact this
end
end TX
namespace BX
open PySem PySem.Spec PyProof.Rows L2
section
variable {K : PySem.W.Frag} {H : Hp}
theorem qeV : ∀ {xs : List D} {vs : List V}, vs.length = xs.length → (∀ (j : Nat) (d : D) (v : V), xs[j]? = some d → vs[j]? = some v → Rep K H 0 d v []) → Reps K H 0 xs vs []
 | [], [], _, _ => .nil
 | [], _ :: _, l, _ => by simp at l
 | _ :: _, [], l, _ => by simp at l
 | d :: xs, v :: vs, l, h => .cons (f := []) (g := []) (h 0 d v rfl rfl) (qeV (by simpa using l) fun j d v h1 h2 => h (j + 1) d v (by simpa using h1) (by simpa using h2)) (fun _ b hb => by simp at hb)
theorem Reps.nilAt {lv : Nat} : ∀ {xs : List D} {vs : List V} {f : List Addr}, Reps K H lv xs vs f → f = [] → ∀ (j : Nat) (d : D) (v : V), xs[j]? = some d → vs[j]? = some v → Rep K H lv d v []
 | _, _, _, .nil, _, j, d, v, h1, _ => by simp at h1
 | _, _, _, .cons (f := f) (g := g) r t _, e, j, d, v, h1, h2 => by
   obtain ⟨rfl, rfl⟩ := List.append_eq_nil_iff.mp e
   cases j with
   | zero => cases h1; cases h2; exact r
   | succ j => exact t.nilAt rfl j d v (by simpa using h1) (by simpa using h2)
end
abbrev Bn := R → List R → En → (R → En → Prop) → Prop
def dMn (isT : D → Bool) (B : Bn) (ta : XE) (u : XA) : XE := fun env Q => ta env fun r1 e1 => (rd 1 r1 e1 fun d => isT d = true) ∧ u e1 fun rs e2 => B r1 rs e2 Q
structure MnOk (X : Cx) (T : String) (isT : D → Bool) (rr : V → List V → Hp → VK → Prop) (B : Bn) : Prop where
 ty : ∀ (H : Hp) (d : D) (x : V) (g : List Addr), Rep X.K H 1 d x g → isT d = true → tyV X.K T x H
 run : ∀ (σ : L2.St) (H : Hp) (e : En) (f : FA) (r1 : R) (rs : List R) (x : V) (ys : List V) (g1 gs : List Addr) (QQ : R → En → Prop) (Q : VK), Abs X.K σ H e f → ResOk X.K σ H e f r1 x g1 → ResOks X.K σ H e f rs ys gs → (∀ b ∈ g1, b ∉ gs) → B r1 rs e QQ →
  (∀ v H' e' f' r' g', Abs X.K σ H' e' f' → ResOk X.K σ H' e' f' r' v g' → Stp H e f (g1 ++ gs) H' e' f' g' → Kp e f e' f' → QQ r' e' → Q v H') → rr x ys H Q
 mono : ∀ r1 rs e Q Q', (∀ r e, Q r e → Q' r e) → B r1 rs e Q → B r1 rs e Q'
section
variable {X : Cx} {o e : Expr} {es : List Expr} {ta : XE} {u : XA} {cpos apos : Pos} {T id : String} {name : Str} {isT : D → Bool} {rr : V → List V → Hp → VK → Prop} {B : Bn}
theorem qce (ok : MnOk X T isT rr B) (mo : xV ta) (mu : vM u) {σ : L2.St} {H : Hp} {Q : VK} (q : jx X.K (dMn isT B ta u) σ H Q) :
 jx X.K ta σ H fun x H1 => tyV X.K T x H1 ∧ Uw X.K u σ H1 fun ys H2 => rr x ys H2 Q := by
 obtain ⟨env, f, A, q⟩ := q
 have h := Vi (B := fun r1 e1 => rd 1 r1 e1 fun d => isT d = true) (C := fun r1 rs e2 => B r1 rs e2 (qa9 X.K σ H env f Q)) mo mu A q
 obtain ⟨env1, f1, A1, q1⟩ := h
 refine ⟨env1, f1, A1, mo _ _ _ (fun r1 e1 z => ?_) q1⟩
 intro x H1 f1 g1 a b c d
 obtain ⟨⟨r0, e0, f0, g0, A0, R0, B0⟩, env2, f2, A2, q2⟩ := z x H1 f1 g1 a b c d
 obtain ⟨d0, g00, rp0, B0⟩ := yO A0 R0 B0
 refine ⟨ok.ty _ _ _ _ rp0 B0, env2, f2, A2, mu _ _ _ (fun rs e2 z => ?_) q2⟩
 intro vs H2 f2 g2 a b c d
 obtain ⟨r1, rs, e2, f2, g1, gs, A2, R1, R2, n, S, Kk, q3⟩ := z vs H2 f2 g2 a b c d
 exact ok.run σ H2 e2 f2 r1 rs x vs g1 gs _ Q A2 R1 R2 n q3 fun v H' e' f' r' g' A' R' S' K' q => q v H' f' g' A' R' (S.trans S') (Kk.trans K')
theorem qcd (ok : MnOk X T isT rr B) (mo : xV ta) (mu : vM u) : xV (dMn isT B ta u) := fun env Q Q' h q => mo _ _ _ (fun r1 e1 q => ⟨q.1, mu _ _ _ (fun rs e2 q => ok.mono _ _ _ _ _ h q) q.2⟩) q
theorem qi5 (ok : MnOk X T isT rr B) (pa : PlainAttrs T) (slot : Slot T name id) (hty : typeOf (.builtin id) = pure (.type "method_descriptor")) (hm : MtR X id rr) (ho : DE X o ta) (ha : DA X (e :: es) u) (hbase : attributeBase o name X.env (eval o X.env) = eval o X.env := by rfl)
 (hfew : ((backTo cpos (starEach (e :: es) X.env)).all (fun x => !x.1) && (backToKw cpos (keywordEach [] X.env)).all (fun x => x.1.isSome)
  && decide ((e :: es).length + ([] : List Keyword).length + (if ([] : List Keyword).isEmpty then 0 else 1) < 30)) = true := by rfl)
 (hline : (apos.endLine == cpos.line) = true := by rfl) (hs : starEach (e :: es) X.env = (false, eval e X.env) :: starEach es X.env := by rfl) (hplain : (backTo cpos (starEach es X.env)).any (·.1) = false := by rfl) :
 DE X (.Call (.Attribute o name apos) (e :: es) [] cpos) (dMn isT B ta u) :=
 ⟨PE.imp (pe_bm pa slot hty hm ho.run ha.run hbase hfew hline hs hplain) fun σ H Q q => qce ok ho.mono ha.mono q, qcd ok ho.mono ha.mono⟩
theorem qhm (ok : MnOk X T isT rr B) (pa : PlainAttrs T) (slot : Slot T name id) (hty : typeOf (.builtin id) = pure (.type "method_descriptor")) (hm : MtR X id rr) (ho : DE X o ta) (hbase : attributeBase o name X.env (eval o X.env) = eval o X.env := by rfl) (hline : (apos.endLine == cpos.line) = true := by rfl) :
 DE X (.Call (.Attribute o name apos) [] [] cpos) (dMn isT B ta aNil) := by
 have mn : vM aNil := fun env Q Q' h q => h _ _ q
 refine ⟨PE.imp (pe_bm0 pa slot hty hm ho.run hbase hline) fun σ H Q q => ?_, qcd ok ho.mono mn⟩
 have h := qce ok ho.mono mn q
 obtain ⟨env, f, A, h⟩ := h
 refine ⟨env, f, A, ho.mono _ _ _ (fun r1 e1 z => ?_) h⟩
 intro x H1 f1 g1 a b c d
 obtain ⟨t, env2, f2, A2, q2⟩ := z x H1 f1 g1 a b c d
 exact ⟨t, q2 [] H1 f2 [] A2 .nil .refl .refl⟩
end
def bPop : Bn := fun r1 rs e Q => match rs with
 | [] => chgL r1 e fun i xs m => immL xs = true ∧ match xs[xs.length - 1]? with
   | some d => Q (.tmp d) (e.set i (some (.lst xs.dropLast, m)))
   | none => False
 | _ => False
section
variable {X : Cx}
theorem qiR : MnOk X "list" D.isLst rPop bPop where
 ty := fun H d x g rp e => Vq H d x g (rp.up (by omega)) e
 mono := fun r1 rs e Q Q' h q => by
  cases rs with
  | nil => exact QM (fun i xs m q => ⟨q.1, by have q2 := q.2; split at q2 <;> simp only [*] <;> first | exact h _ _ q2 | exact q2.elim⟩) q
  | cons _ _ => exact q.elim
 run := fun σ H e f r1 rs x ys g1 gs QQ Q A R1 R2 n q k => by
  cases rs with
  | cons _ _ => exact q.elim
  | nil =>
    cases R2
    obtain ⟨i, xs, m, a, ws, fp, rfl, e, hm, hl, hv, hH, rr, hf, nfp, rfl, him, q⟩ := Xn A R1 q
    obtain ⟨rfl, r0⟩ := rr.imm (Nat.zero_le _) him
    split at q
    ·rename_i d hd
     have hlen := rr.len
     obtain ⟨y, hy⟩ : ∃ y, ws[ws.length - 1]? = some y := by
      have h1 := (List.getElem?_eq_some_iff.mp hd).1
      exact ⟨_, List.getElem?_eq_getElem (by omega)⟩
     have ry : Rep X.K H 0 d y [] := r0.nilAt rfl (xs.length - 1) d y hd (by rw [hlen]; exact hy)
     have rw' : Reps X.K H 0 xs.dropLast ws.dropLast [] := qeV (by simp [hlen]) fun j d v h1 h2 => by
      rw [List.dropLast_eq_take, List.getElem?_take] at h1 h2
      split at h1
      ·split at h2
       ·exact r0.nilAt rfl j d v h1 h2
       ·cases h2
      ·cases h1
     obtain ⟨A3, S3, K3, _⟩ := ZG (G := []) (G' := []) A e hm hl hv hH hf nfp rw' (fun b hb => by simp at hb) (fun b hb => by simp at hb) qm
     have ry' : Rep X.K (upd H a (.lst ws.dropLast)) 0 d y [] := ry.keep fun b o hb q => by
      rcases q with q | q
      ·simp at q
      ·have : b ≠ a := fun z => by subst z; rw [hH] at hb; cases hb; cases q
       rw [upd_ne this]; exact hb
     exact ⟨a, ws, y, rfl, rfl, hH, hy, k _ _ _ _ _ [] A3 (.tmp ry' qm) S3 K3 q⟩
    ·exact q.elim
variable {o e e2 : Expr} {ta te tf : XE} {cpos apos : Pos}
end
end BX
namespace BX
open PySem PySem.Spec PyProof.Rows L2
section
variable {X : Cx}
theorem qdn {H : Hp} {e : En} {f : FA} {G : List Addr} : Stp H e f G H e f [] := ⟨fun b o h _ => h, fun b q => q.elim .inl fun z => by simp at z⟩
variable {o e : Expr} {es : List Expr} {ta te tf : XE} {u : XA} {cpos apos : Pos}
end
end BX
namespace BX
open PySem PySem.Spec PyProof.Rows L2 RT
end BX
namespace BX
open PySem PySem.Spec PyProof.Rows L2 RT L2.DX
section
variable {X : Cx}
def Yc (kvs : List (List Key × D)) (k : List Key) : List (List Key × D) := kvs.filter fun p => !decide (p.1 = k)
def qa7 : Bn := fun r1 rs e Q => match rs with
 | [r2, r3] => rd 1 r2 e fun d2 => rd 1 r3 e fun d3 => match d2 with
   | .tup ds => match xJ ds with
     | some ks => chgT r1 e fun i kvs m => immL (kvs.map (·.2)) = true ∧ d3.imm = true ∧ Q (.tmp ((Qz kvs ks).getD d3)) (e.set i (some (.dT (Yc kvs ks), m)))
     | none => False
   | _ => False
 | _ => False
theorem Jq {α : Type} {k : List Key} : ∀ {l : List (List Key × α)}, (l.find? fun p => decide (p.1 = k)) = none → l.filter (fun p => !decide (p.1 = k)) = l
 | [], _ => rfl
 | p :: l, h => by
   rw [List.find?_cons] at h
   by_cases e : p.1 = k
   ·simp [e] at h
   ·simp only [e, decide_false] at h
    rw [List.filter_cons_of_pos (by simp [e]), Jq h]
theorem qag {k : List Key} : ∀ {hs : List (List Key × V)}, dropK hs k = hs.filter fun p => !decide (p.1 = k) := fun {hs} => by
 unfold dropK
 congr 1
 funext p
 simp
theorem Xj {K : PySem.W.Frag} {H : Hp} {k : List Key} : ∀ {hs : List (List Key × V)} {kvs : List (List Key × D)}, hs.map (·.1) = kvs.map (·.1) → Reps K H 0 (kvs.map (·.2)) (hs.map (·.2)) [] →
 (hs.filter fun p => !decide (p.1 = k)).map (·.1) = (Yc kvs k).map (·.1) ∧ Reps K H 0 ((Yc kvs k).map (·.2)) ((hs.filter fun p => !decide (p.1 = k)).map (·.2)) []
 | [], [], _, _ => ⟨rfl, .nil⟩
 | [], _ :: _, e, _ => by simp at e
 | _ :: _, [], e, _ => by simp at e
 | p :: hs, q :: kvs, e, r => by
   rw [List.map_cons, List.map_cons, List.cons.injEq] at e
   rw [List.map_cons, List.map_cons] at r
   have r0 := r.nilAt rfl 0 q.2 p.2 rfl rfl
   have rt : Reps K H 0 (kvs.map (·.2)) (hs.map (·.2)) [] := qeV (by have := congrArg List.length e.2; simpa using this) fun j d v h1 h2 => r.nilAt rfl (j + 1) d v (by simpa using h1) (by simpa using h2)
   obtain ⟨h1, h2⟩ := Xj (k := k) e.2 rt
   unfold Yc at h1 h2 ⊢
   by_cases c : q.1 = k
   ·rw [List.filter_cons_of_neg (by simp [e.1, c]), List.filter_cons_of_neg (by simp [c])]
    exact ⟨h1, h2⟩
   ·rw [List.filter_cons_of_pos (by simp [e.1, c]), List.filter_cons_of_pos (by simp [c]), List.map_cons, List.map_cons, List.map_cons, List.map_cons]
    exact ⟨by rw [e.1, h1], .cons (f := []) (g := []) r0 h2 fun _ b hb => by simp at hb⟩
theorem qg1 : MnOk X "dict" D.isDic rPopT qa7 where
 ty := qd2
 mono := fun r1 rs e Q Q' h q => by
  unfold qa7 at q ⊢
  split at q
  ·refine qO (fun d2 q => qO (fun d3 q => ?_) q) q
   split at q
   ·split at q
    ·first
      | (simp only [*]; exact ZZ (fun i d m q => ⟨q.1, q.2.1, h _ _ q.2.2⟩) q)
      | exact ZZ (fun i d m q => ⟨q.1, q.2.1, h _ _ q.2.2⟩) q
    ·exact q.elim
   ·exact q.elim
  ·exact q.elim
 run := fun σ H e f r1 rs x ys g1 gs QQ Q A R1 R2 n q k => by
  unfold qa7 at q
  split at q
  ·cases R2 with
   | cons R2 Rt _ =>
     cases Rt with
     | cons R3 Rt _ =>
       cases Rt
       obtain ⟨d2, g2', p2, q⟩ := yO A R2 q
       obtain ⟨d3, g3', p3, q⟩ := yO A R3 q
       split at q
       ·split at q
        ·rename_i ds ks hk
         obtain ⟨b, vs, rfl, hb, rb⟩ := p2.tupleAt (Nat.le_refl _)
         rw [rb.xJ hk] at hb
         obtain ⟨i, kvs, m, a, hs, fp, rfl, e0, hm, hl, hv, hH, ek, nd, rk, hf, nfp, rfl, him, hi3, q⟩ := qcV A R1 q
         obtain ⟨rfl, rk⟩ := rk.imm (Nat.zero_le _) him
         obtain ⟨h1, h2⟩ := Xj (k := ks) ek rk
         have nd2 : ((Yc kvs ks).map (·.1)).Nodup := nd.sublist ((List.filter_sublist).map _)
         have p3' := (p3.imm (Nat.le_refl _) hi3).2
         refine ⟨a, hs, ks, b, _, rfl, rfl, hH, hb, fun v ev => ?_, fun en => ?_⟩
         ·obtain ⟨A3, S3, K3, _⟩ := qal (G := []) (G' := []) A e0 hm hl hv hH rfl hf nfp h1 nd2 h2 (fun b hb => by simp at hb) (fun b hb => by simp at hb) qm
          rw [← qag] at A3 S3
          have rv : ∃ d, Qz kvs ks = some d ∧ Rep X.K H 0 d v [] := by
           cases el : Qz kvs ks with
           | none => rw [XF (k := ks) ek el] at ev; cases ev
           | some d =>
             obtain ⟨j, z, e1, e2, e3⟩ := jg ek el
             rw [ev] at e3; cases e3
             exact ⟨d, rfl, rk.nilAt rfl j d _ e1 e2⟩
          obtain ⟨d, el, rv⟩ := rv
          rw [el] at q
          refine k _ _ _ _ _ [] A3 (.tmp (rv.keep fun b o hb q => ?_) qm) (S3.more fun b hb => by simp at hb) K3 q
          rcases q with q | q
          ·simp at q
          ·have : b ≠ a := fun z => by subst z; rw [hH] at hb; cases hb; cases q
           rw [upd_ne this]; exact hb
         ·have el : Qz kvs ks = none := by
           cases el : Qz kvs ks with
           | none => rfl
           | some d =>
             obtain ⟨j, z, e1, e2, e3⟩ := jg ek el
             rw [en] at e3; cases e3
          have ed : Yc kvs ks = kvs := by
           unfold Qz at el
           exact Jq (by simpa using el)
          rw [el, ed] at q
          have es : e.set i (some (.dT kvs, m)) = e := by
           have hi := (List.getElem?_eq_some_iff.mp e0)
           rw [← hi.2]
           exact List.set_getElem_self hi.1
          rw [es] at q
          exact k _ _ _ _ _ [] A (.tmp p3' qm) qdn .refl q
        ·exact q.elim
       ·exact q.elim
  ·exact q.elim
variable {o e : Expr} {es : List Expr} {ta te tf : XE} {u : XA} {cpos apos : Pos}
theorem qfF (hx : Ok X) (ho : DE X o ta) (ha : DA X (e :: es) u) (hbase : attributeBase o "pop" X.env (eval o X.env) = eval o X.env := by rfl)
 (hfew : ((backTo cpos (starEach (e :: es) X.env)).all (fun x => !x.1) && (backToKw cpos (keywordEach [] X.env)).all (fun x => x.1.isSome)
  && decide ((e :: es).length + ([] : List Keyword).length + (if ([] : List Keyword).isEmpty then 0 else 1) < 30)) = true := by rfl)
 (hline : (apos.endLine == cpos.line) = true := by rfl) (hs : starEach (e :: es) X.env = (false, eval e X.env) :: starEach es X.env := by rfl) (hplain : (backTo cpos (starEach es X.env)).any (·.1) = false := by rfl) :
 DE X (.Call (.Attribute o "pop" apos) (e :: es) [] cpos) (dMn D.isDic qa7 ta u) :=
 qi5 qg1 PySem.F.plainAttrs_dict PySem.F.slot_dict_pop PySem.F.type_dict_pop (mt_popT (by have := hx.un; omega)) ho ha hbase hfew hline hs hplain
end
end BX
namespace TX
open PySem PySem.Spec PyProof.Rows L2 BX
section
variable {e e1 e' : En} {L : Nat} {r r1 r2 r3 r' : R} {d d1 d2 d3 : D} {Q : R → En → Prop} {i j : Nat} {α β γ κ σ : Type} {kI : List D → Option Bool → Lok → En → Prop}
theorem c_mn {isT : D → Bool} {B : Bn} {u : XA} (h0 : vr e i = some r) (hr : Rv e 1 r d) (ht : isT d = true) (q : u e fun rs e2 => B r rs e2 Q) : dMn isT B (dVar i) u e Q := qw h0 ⟨hr.rd ht, q⟩
section
variable [DecidableEq κ] {c : κ → D} {kf : κ → List Key} [hk : Kt c kf] {f : α → D} [hf : Im f] {l : List (κ × α)} {k : κ} {v : α}
theorem Xd : ∀ l : List (κ × α), immL ((l.map fun p => (kf p.1, f p.2)).map (·.2)) = true := fun l => Xe fun d hd => by
 simp only [List.map_map, List.mem_map, Function.comp] at hd
 obtain ⟨p, _, rfl⟩ := hd
 exact hf.im _
def delA (k : κ) (l : List (κ × α)) : List (κ × α) := l.filter fun p => !decide (p.1 = k)
include hk in
theorem qah : Yc (l.map fun p => (kf p.1, f p.2)) (kf k) = (delA k l).map fun p => (kf p.1, f p.2) := by
 unfold Yc delA
 rw [List.filter_map]
 congr 1
 refine List.filter_congr fun p _ => ?_
 simp only [Function.comp, kinj (c := c)]
end
theorem qiK {f : α → D} [hf : Im f] {l : List α} {a : α} {m : Md} {P : List α → Prop} (ee : List α → En) (h : lt l.dropLast P) (ha : l.getLast? = some a) (h0 : e[i]? = some (some (eL f l, m))) (he : ∀ x, e.set i (some (eL f x, m)) = ee x) (q : ∀ x, P x → aR Q (.tmp (f a)) (ee x)) (hm : m = .own ∨ m = .io := by decide) : bPop (.sl i) [] e Q := by
 have q := q _ h
 rw [← he] at q
 unfold eL at h0 q
 rw [List.map_dropLast] at q
 have hl : (l.map f)[(l.map f).length - 1]? = some (f a) := by
  rw [List.length_map, List.getElem?_map, ← List.getLast?_eq_getElem?, ha]; rfl
 show chgL _ _ _
 unfold chgL chg
 rcases hm with rfl | rfl <;> (simp only [h0, hl]; exact ⟨imL l, q⟩)
end
end TX
namespace BX
open PySem PySem.Spec PyProof.Rows L2 RT L2.DX
end BX
namespace TX
open PySem PySem.Spec PyProof.Rows L2 BX
section
variable {e e1 e' : En} {L : Nat} {r r1 r2 r3 r' : R} {d d1 d2 d3 : D} {Q : R → En → Prop} {nx : En → Prop} {rt : D → En → Prop} {i j m : Nat} {α β γ κ σ : Type} {kI : List D → Option Bool → Lok → En → Prop}
theorem qbB {a : Str} (h : PyData.strOk a = true) : eqOk (.str a) = true := by
 unfold eqOk SeqAt.shaped
 simp [D.py, PyData.canLay0, PyData.depth, h]
theorem qee {a b : Str} (h1 : PyData.strOk a = true) (h2 : PyData.strOk b = true) : OpTo opEq (.str a) (.str b) (.bl (decide (a = b))) := fun k q => ⟨qbB h1, qbB h2, by
 have : deq (.str a) (.str b) = decide (a = b) := by
  unfold deq
  simp only [D.py, PyData.eqv]
  by_cases h : a = b
  ·subst h; simp
  ·simp [h]
 rw [this]; exact q⟩
theorem qed {a b : Str} (h1 : PyData.strOk a = true) (h2 : PyData.strOk b = true) : OpTo opNe (.str a) (.str b) (.bl (!decide (a = b))) := fun k q => ⟨qbB h1, qbB h2, by
 have : deq (.str a) (.str b) = decide (a = b) := by
  unfold deq
  simp only [D.py, PyData.eqv]
  by_cases h : a = b
  ·subst h; simp
  ·simp [h]
 rw [this]; exact q⟩
end
end TX
namespace BX
open PySem PySem.Spec PyProof.Rows L2
theorem qhd {P : Program} {w : World} {K : PySem.W.Frag} {mg : Str → Option Value} {base : Heap} {x : Str} {k : Nat} {ps : List Str} {S S' : FS} (F : Fn P w K mg base x k ps S) (hm : S.ms = S'.ms) (hw : ∀ ds Q, S'.wp ds Q → S.wp ds Q) (mo : Wg S') : Fn P w K mg base x k ps S' := by
 obtain ⟨f, fd, a, b⟩ := F.ex
 refine ⟨⟨f, fd, a.imp fun vs H Q E h => ?_, b⟩, mo⟩
 obtain ⟨h1, ds, f, h2, h3, h4⟩ := h
 unfold spOf
 rw [hm]
 exact ⟨h1, ds, f, h2, h3, hw _ _ h4⟩
end BX
namespace BX
open PySem PySem.Spec PyProof.Rows L2 RT PySem.W
theorem PO.imp {X : Cx} {e : Option Expr} {t u : L2.TO} (h : PO X e t) (k : ∀ σ H Q, u σ H Q → t σ H Q) : PO X e u := ⟨fun pins s σ H Q I q => h.run pins s σ H Q I (k _ _ _ q)⟩
end BX
namespace BX
open PySem PySem.Spec PyProof.Rows L2 RT L2.DX
def tFrz (t : TS) : TS := fun Dn σ H => ∃ d u, H d = some u ∧ Mut (some u) ∧ ∀ od, t Dn σ (L2.upd H d (.frz od u))
theorem qgE {X : Cx} {st : Stmt} {t : TS} (h : PS X st t) : PS X st (tFrz t) := ⟨fun pins s σ H Dn I ⟨d, u, hd, mu, hw⟩ => by
 obtain ⟨od, I1⟩ := I.lock hd mu
 exact h.run pins s σ _ Dn I1 (hw od)⟩
end BX
namespace BX
open PySem PySem.Spec PyProof.Rows L2 RT L2.DX
end BX
namespace TX
open PySem PySem.Spec PyProof.Rows L2 BX
section
variable {e e1 e' : En} {L : Nat} {r r1 r2 r3 r' : R} {d d1 d2 d3 : D} {Q : R → En → Prop} {QO : Option Int → En → Prop} {nx : En → Prop} {rt : D → En → Prop} {i j m : Nat} {α β γ κ σ : Type} {kI : List D → Option Bool → Lok → En → Prop}
def memB [DecidableEq α] (a : α) (l : List α) : Bool := decide (a ∈ l)
theorem je [DecidableEq α] {a : α} {l : List α} : memB a l = true ↔ a ∈ l := by unfold memB; exact decide_eq_true_iff
theorem Y7 [DecidableEq α] {a : α} {l : List α} : memB a l = false ↔ a ∉ l := by unfold memB; exact decide_eq_false_iff_not
end
end TX
namespace BX
open PySem PySem.Spec PyProof.Rows L2 RT L2.DX
def WF (ds : List D) : List D := ds.mapIdx fun i d => .tup [.int (i : Nat), d]
def qcq (t : XE) : XI := fun env k => t env fun r e => rd 2 r e fun d => match d with
 | .lst xs => yo r e (fun kd lk e1 => k (WF xs) kd lk e1) (immL xs)
 | _ => False
section
variable {K : PySem.W.Frag} {H1 : Hp} {ds : List D}
theorem qdg {lv : Nat} {a : Addr} {vs : List V} {gg P : List Addr} (hq : ∀ H, Near H1 P H → SqL K H a vs) (rr : Reps K H1 lv ds vs gg) (hg : ∀ b ∈ gg, b ∈ P) :
 (immL ds = true → lv ≤ 1 → Wk K (Ite K a) (WF ds) none H1 P) ∧ ∀ c, lv = clv c → Wk K (Ite K a) (WF ds) (some c) H1 P := by
 have el : (WF ds).length = vs.length := by rw [← rr.len]; simp [WF]
 have it : ∀ (i : Nat) (H : Hp) (x : V) (H' : Hp) (d : D), Near H1 P H → (WF ds)[i]? = some d → (Ite K a).yld i H x H' → (∀ b o, H b = some o → H' b = some o) ∧ (∃ d0, d0 ∈ ds ∧ d = .tup [.int (i : Nat), d0]) ∧ ∃ g, Rep K H' lv d x g ∧ ∀ b ∈ g, b ∈ P := fun i H x H' d n e y => by
  obtain ⟨T, x0, rfl, hT, rfl, hx⟩ := y
  unfold WF at e
  rw [List.getElem?_mapIdx] at e
  cases h : ds[i]? with
  | none => rw [h] at e; cases e
  | some d0 =>
    rw [h] at e
    cases e
    obtain ⟨v, g, e1, r, hs⟩ := rr.get h
    have := hx vs (hq _ n)
    rw [e1] at this; cases this
    have ex : Ext H (L2.upd H T (.tup [.int (i : Nat), x0])) [T] := .upd hT
    have r2 : Rep K (L2.upd H T (.tup [.int (i : Nat), x0])) lv d0 x0 g := (uQ r n fun b hb => hg b (hs b hb)).keep fun b o e _ => ex.same b o e
    refine ⟨ex.same, ⟨d0, List.mem_of_getElem? h, rfl⟩, g, ?_, fun b hb => hg b (hs b hb)⟩
    have r3 : Reps K (L2.upd H T (.tup [.int (i : Nat), x0])) lv [.int (i : Nat), d0] [.int (i : Nat), x0] ([] ++ (g ++ [])) := .cons (.int _) (.cons r2 .nil fun _ b _ z => by cases z) fun _ b z => by cases z
    rw [List.nil_append, List.append_nil] at r3
    exact .tup upd_same r3
 have go : ∀ (i : Nat) (H : Hp), Near H1 P H → i < (WF ds).length → (Ite K a).go i H := fun i H n h => ⟨vs, vs[i]'(by rw [← el]; exact h), hq H n, List.getElem?_eq_getElem _⟩
 have st : ∀ (i : Nat) (H : Hp), Near H1 P H → (WF ds).length ≤ i → (Ite K a).stop i H := fun i H n h => ⟨vs, hq H n, by rw [← el]; exact h⟩
 refine ⟨fun im l => ⟨go, st, fun i H x H' d n e y => ?_⟩, fun c hc => ⟨go, st, fun i H x H' d n e y => ?_⟩⟩
 ·obtain ⟨sm, ⟨d0, h0, rfl⟩, g, r, hs⟩ := it i H x H' d n e y
  refine ⟨sm, (Wb r hs).1 l ?_⟩
  rw [D.imm, immL, immL, immL, D.imm, W3 im d0 h0]; rfl
 ·obtain ⟨sm, _, g, r, hs⟩ := it i H x H' d n e y
  exact ⟨sm, (Wb r hs).2 c hc⟩
end
section
variable {X : Cx} {e : Expr} {t : XE} {p pos tpos : Pos} {elts : List Expr} {kk : Nat}
theorem qfD (ha : DE X e t) (hm : X.mg "enumerate" = none) (hg : Gl X "enumerate" := by rfl) (hs : starEach [e] X.env = [(false, eval e X.env)] := by rfl) : DI X (.Tuple elts kk tpos) (.Call (.Name "enumerate" p) [e] [] pos) (qcq t) := by
 refine ⟨PI.imp (pi_enum hg hm (pa_cons ha.run pa_nil hs) hs) fun σ H R q => ?_, fun env k k' h q => ha.mono _ _ _ (fun r e q => qO (fun d q => ?_) q) q⟩
 ·obtain ⟨env, f, A, q⟩ := q
  refine ⟨env, f, A, ha.mono _ _ _ (fun r1 e1 q => ?_) q⟩
  intro x H1 f1 g A1 R1 S1 K1
  obtain ⟨d, dd, q⟩ := YT q
  have rp0 : ∃ gg, Rep X.K H1 2 d x gg := by
   obtain ⟨d', gg, rp, hd⟩ := yO (L := 2) (k := fun d' => d' = d) A1 R1 (by unfold rd; rw [dd])
   subst hd
   exact ⟨gg, rp⟩
  obtain ⟨gg0, rp0⟩ := rp0
  cases d with
  | lst ds =>
    obtain ⟨a, vs, g1, rfl, hq, hn, rr, hs⟩ := uC rp0
    refine ⟨a, vs, rfl, hq, Y8 A1 S1 K1 R1 (immL ds) q (fun lv gg z => ?_) dd⟩
    obtain ⟨a', vs', g2, e1, hq', hn', rr', hs'⟩ := uC z
    cases e1
    exact qdg hn' rr' hs'
  | _ => exact q.elim
 ·cases d with
  | lst ds => exact uV (fun kd lk e q => h _ _ _ _ q) q
  | _ => exact q.elim
end
end BX
namespace TX
open PySem PySem.Spec PyProof.Rows L2 BX
def Xg {α : Type} (l : List α) : List (Int × α) := l.mapIdx fun i a => (((i : Nat) : Int), a)
theorem qcz {α : Type} {f : α → D} (l : List α) : WF (l.map f) = (Xg l).map (eT2 D.int f) := by
 unfold WF Xg
 refine List.ext_getElem? fun i => ?_
 rw [List.getElem?_mapIdx, List.getElem?_map, List.getElem?_map, List.getElem?_mapIdx]
 cases l[i]? <;> rfl
section
variable {e e1 e' : En} {r : R} {i j m : Nat} {α : Type} {kI : List D → Option Bool → Lok → En → Prop}
abbrev qhe (e : En) (kI : List D → Option Bool → Lok → En → Prop) (r : R) (d : D) : Prop := match d with
 | .lst xs => yo r e (fun kd lk e1 => aI kI (WF xs) kd lk e1) (immL xs)
 | _ => False
theorem qhz {t : XE} (q : t e fun r e => rd 2 r e fun d => qhe e kI r d) : qcq t e kI := q
theorem qiM {f : α → D} [Im f] {l : List α} (q : aI kI ((Xg l).map (eT2 D.int f)) none none e) : (rd 2 (.tmp (eL f l)) e fun d => qhe e kI (.tmp (eL f l)) d) := by
 rw [← qcz] at q
 exact ⟨imL l, q⟩
end
end TX
namespace BX
open PySem PySem.Spec PyProof.Rows L2 RT L2.DX
end BX
namespace TX
open PySem PySem.Spec PyProof.Rows L2 BX
section
variable {e e1 e' : En} {r r1 r2 r3 : R} {Q : R → En → Prop} {i : Nat} {α κ : Type} {n : Nat}
section
variable [DecidableEq κ] {c : κ → D} {kf : κ → List Key} [hk : Kt c kf] {f : α → D} [hf : Im f] {l : List (κ × α)} {k : κ}
theorem qgV {m : Md} {P : List (κ × α) → Prop} (ee : List (κ × α) → En) (h : lt (delA k l) P) (h2 : Rv e 1 r2 (c k)) (h3 : Rv e 1 r3 .non) (h0 : e[i]? = some (some (eDT kf f l, m))) (he : ∀ x, e.set i (some (eDT kf f x, m)) = ee x) (q : ∀ x, P x → aR Q (.tmp (eO f (getA l k))) (ee x)) (hm : m = .own ∨ m = .io := by decide) :
 qa7 (.sl i) [r2, r3] e Q := by
 have q := q _ h
 rw [← he] at q
 refine h2.rd (h3.rd ?_)
 obtain ⟨ds, e1, e2⟩ := hk.key k
 rw [e1]
 unfold eDT at h0 q
 rw [← qah (c := c)] at q
 simp only [e2]
 unfold chgT chg
 have el : (Qz (l.map fun p => (kf p.1, f p.2)) (kf k)).getD .non = eO f (getA l k) := by
  rw [V3 (c := c)]; cases getA l k <;> rfl
 rcases hm with rfl | rfl <;> (simp only [h0]; refine ⟨Xd l, by rw [D.imm], ?_⟩; rw [el]; exact q)
end
theorem qcx : ∀ {d : D}, BX.isNon d = false → PyData.eqv .none d.py = false ∧ PyData.eqv d.py .none = false := fun {d} h => by
 cases d <;> first | (cases h; done) | (constructor <;> simp [D.py, PyData.eqv])
instance [DecidableEq α] {f : α → D} [hf : Eqd f n] [hn : Nn f] : Eqd (eO f) n := ⟨fun a => by
 cases a with
 | none => exact ⟨by simp [eO, D.py, PyData.canLay0], by simp [eO, D.py, PyData.depth]⟩
 | some x => exact hf.lay x, fun a b => by
 cases a with
 | none => cases b with
   | none => simp [eO, D.py, PyData.eqv]
   | some y => rw [show (eO f none).py = .none by simp [eO, D.py], show (eO f (some y)) = f y from rfl, (qcx (hn.nn y)).1]; simp
 | some x => cases b with
   | none => rw [show (eO f none).py = .none by simp [eO, D.py], show (eO f (some x)) = f x from rfl, (qcx (hn.nn x)).2]; simp
   | some y => rw [show (eO f (some x)) = f x from rfl, show (eO f (some y)) = f y from rfl, hf.eq]; simp⟩
end
end TX
namespace BX
open PySem PySem.Spec PyProof.Rows L2
mutual
def D.pd : D → PyData
 | .non => .none
 | .bl b => .bool b
 | .int i => .int i
 | .str x => .str x
 | .tup xs => .tuple (pdL xs)
 | .lst xs => .list (pdL xs)
 | .dT _ => .none
 | .dK _ => .none
 | .dF _ => .none
 | .lF xs => .list (pdL xs)
 | .ob _ _ => .none
 | .ex _ _ => .none
 | .dN _ => .none
def pdL : List D → List PyData
 | [] => []
 | d :: ds => d.pd :: pdL ds
end
mutual
def D.ndc : D → Bool
 | .non => true
 | .bl _ => true
 | .int _ => true
 | .str _ => true
 | .tup xs => ndcL xs
 | .lst xs => ndcL xs
 | .dT _ => false
 | .dK _ => false
 | .dF _ => false
 | .lF xs => ndcL xs
 | .ob _ _ => false
 | .ex _ _ => false
 | .dN _ => false
def ndcL : List D → Bool
 | [] => true
 | d :: ds => d.ndc && ndcL ds
end
section
variable {X : Cx} {pins : List (Addr × Obj)} {σ : L2.St} {H : Hp} {s : Shared} {lv : Nat}
mutual
theorem Rep.reads (I : Inv X pins σ H s) : ∀ {d : D} {v : V} {f : List Addr} {u : Value}, Rep X.K H lv d v f → d.ndc = true → RelV v u → ∃ as, Reads s.heap u d.pd as
 | _, _, _, u, .non, _, r => by obtain rfl : u = .none := r; rw [D.pd]; exact ⟨_, .none⟩
 | _, _, _, u, .bl b, _, r => by obtain rfl : u = .bool b := r; rw [D.pd]; exact ⟨_, .bool b⟩
 | _, _, _, u, .int i, _, r => by obtain ⟨t, rfl⟩ : ∃ t, u = .int i t := r; rw [D.pd]; exact ⟨_, .int i t⟩
 | _, _, _, u, .str x, _, r => by obtain ⟨t, rfl⟩ : ∃ t, u = .str x t := r; rw [D.pd]; exact ⟨_, .str x t⟩
 | _, _, _, u, @Rep.tup _ _ _ a vs ds f h t, n, r => by
   obtain rfl : u = .ref a := r
   obtain ⟨its, rv, ⟨o, ho, hc, m, hd⟩, _⟩ := I.tuple (SqT.of h)
   rw [D.ndc] at n
   obtain ⟨as, ra⟩ := Reps.reads I t n rv
   rw [D.pd]
   exact ⟨as, .tuple ho hc hd (by simpa using ra)⟩
 | _, _, _, u, @Rep.tupK _ _ _ a vs ds f l h t, n, r => by
   obtain rfl : u = .ref a := r
   obtain ⟨its, rv, ⟨o, ho, hc, m, hd⟩, _⟩ := I.tuple h.sq
   rw [D.ndc] at n
   obtain ⟨as, ra⟩ := Reps.reads I t n rv
   rw [D.pd]
   exact ⟨as, .tuple ho hc hd (by simpa using ra)⟩
 | _, _, _, u, @Rep.lst _ _ _ a vs ds f h t m, n, r => by
   obtain rfl : u = .ref a := r
   obtain ⟨its, rv, ⟨o, m, ho, hc, _, hd⟩, _⟩ := I.list (SqL.of h)
   rw [D.ndc] at n
   obtain ⟨as, ra⟩ := Reps.reads I t n rv
   rw [D.pd]
   exact ⟨_, .list ho hc hd (by simpa using ra)⟩
 | _, _, _, u, @Rep.lstF _ _ _ a vs ds f l h t, n, r => by
   obtain rfl : u = .ref a := r
   obtain ⟨its, rv, ⟨o, m, ho, hc, _, hd⟩, _⟩ := I.list h.sq
   rw [D.ndc] at n
   obtain ⟨as, ra⟩ := Reps.reads I t n rv
   rw [D.pd]
   exact ⟨_, .list ho hc hd (by simpa using ra)⟩
 | _, _, _, _, .dT _ _ _ _ _, n, _ => by rw [D.ndc] at n; cases n
 | _, _, _, _, .dTF _ _ _ _ _, n, _ => by rw [D.ndc] at n; cases n
 | _, _, _, _, .dF _ _ _ _, n, _ => by rw [D.ndc] at n; cases n
 | _, _, _, _, .ob _ _ _ _ _, n, _ => by rw [D.ndc] at n; cases n
 | _, _, _, _, .ex _ _ _ _, n, _ => by rw [D.ndc] at n; cases n
 | _, _, _, _, .dN _ _ _ _ _ _, n, _ => by rw [D.ndc] at n; cases n
 | _, _, _, u, @Rep.lF _ _ _ a _ vs ds f h t, n, r => by
   obtain rfl : u = .ref a := r
   obtain ⟨its, rv, ⟨o, m, ho, hc, _, hd⟩, _⟩ := I.list (.inl (.inr ⟨_, h⟩) : SqL X.K H a vs)
   rw [D.ndc] at n
   obtain ⟨as, ra⟩ := Reps.reads I t n rv
   rw [D.pd]
   exact ⟨_, .list ho hc hd (by simpa using ra)⟩
 | _, _, _, _, .dK _ _ _ _ _, n, _ => by rw [D.ndc] at n; cases n
theorem Reps.reads (I : Inv X pins σ H s) : ∀ {ds : List D} {vs : List V} {f : List Addr} {us : List Value}, Reps X.K H lv ds vs f → ndcL ds = true → Vals vs us → ∃ as, ReadsAll s.heap us (pdL ds) as
 | _, _, _, _, .nil, _, .nil => by rw [pdL]; exact ⟨_, .nil⟩
 | _, _, _, _, .cons a t _, n, .cons r q => by
   rw [ndcL, Bool.and_eq_true] at n
   obtain ⟨as, h1⟩ := Rep.reads I a n.1 r
   obtain ⟨bs, h2⟩ := Reps.reads I t n.2 q
   rw [pdL]
   exact ⟨_, .cons h1 h2⟩
end
end
def strD (d : D) : Str := d.pd.shown
def ShOk (d : D) : Prop := d.ndc = true ∧ d.pd.showable = true ∧ d.pd.depth ≤ 90 ∧ d.pd.shown.length ≤ sizeLine
end BX
namespace BX
open PySem PySem.Spec PyProof.Rows L2
structure FnG (P : Program) (w : World) (K : PySem.W.Frag) (mg : Str → Option Value) (base : Heap) (k : Nat) (f : Addr) (fd : FuncData) (ps : List Str) (sp : Sp) : Prop where
 ar : ∀ vs H Q E, sp vs H Q E → vs.length = ps.length
 go : ∀ {A : Around} {fr : List PySem.Env} {s : Shared} {H : Hp} {args : Args} {us : List Value} {vs : List V} {Q : VK} {E : XK},
  Room k A → A.guards = some [] → Env0 P w K mg base A fr s H → BindsTo s fd args (ps.zip us) → Vals vs us → sp vs H Q E →
   codeAny (model P w) A (.call (.ref f) args) (CR CX0 fr P w H s Q E) s
section
variable {P : Program} {w : World} {K : PySem.W.Frag} {mg : Str → Option Value} {base : Heap} {k : Nat} {f : Addr} {fd : FuncData} {ps : List Str} {sp : Sp}
theorem FnG.of (F : FnOk P w K mg base CX0 k f fd ps sp) : FnG P w K mg base k f fd ps sp := ⟨F.len, fun hr _ e b v h => F.run _ _ _ _ _ _ _ _ _ hr e b v h⟩
theorem FnG.up {j : Nat} (F : FnG P w K mg base j f fd ps sp) (l : j ≤ k) : FnG P w K mg base k f fd ps sp := ⟨F.ar, fun hr g e b v h => F.go (hr.mono l) g e b v h⟩
theorem FnG.body {x qual : Str} {st : Stmt} {N : List Str} (U : Fun K x qual st f fd) (Sc : FnScope N ps (defScope st)) (ar : ∀ vs H Q E, sp vs H Q E → vs.length = ps.length)
 (hb : ∀ (cd : Value) (A : Around) (fr : List PySem.Env) (s : Shared) (H : Hp) (vs : List V) (Q : VK) (E : XK), Room k (A.deeper (envOfC qual (defScope st) s.heap.objs.size f cd)) → A.guards = some [] → sp vs H Q E →
  ∃ t, PSs (cxOf CX0 P w K mg base N qual (defScope st) f cd A fr s H E).nox (defBody st) t ∧ t { nx := fun _ H' => Q .non H', rt := Q } (L2.start N vs) H) : FnG P w K mg base (k + 1) f fd ps sp := by
 obtain ⟨oc, od, kV, doc, pm, an, cd, ct, sl, rfl, lk, hc⟩ := U.ex
 refine ⟨ar, ?_⟩
 intro A fr s H args us vs Q E hr hg e0 bd rv hs
 have inK : K.In s.heap := e0.mod.kin.keeps fun b o z => (e0.bs b o z).1
 have noL : s.heap.NoLimit := e0.mod.nolimit.keeps fun b o z => (e0.bs b o z).1
 have hk : ∀ y ∈ ps.zip us, (defScope st).names.lookup y.1 = some .local ∨
  ((defScope st).names.lookup y.1 = some .cell ∧ ((cellsFrom (s.heap.objs.size + 1) (defScope st).names []).lookup y.1).isSome = true) := by
  rintro ⟨n, v⟩ hy
  have hn := (List.of_mem_zip hy).1
  cases Sc.par n hn with
  | inl q => exact .inl q
  | inr q => exact .inr ⟨q, PySem.W.cellsFrom_some _ _ _ (.inl q)⟩
 refine codeAny_call_function hr.depth (inK _ _ lk) rfl Sc.co Sc.gen rfl (PySem.W.codeRec_of inK hc) (bd _ _ _ _ ?_)
 refine wpAny_newFunctionEnv_cells Sc.kind hk fun env he s1 x => ?_
 subst he
 refine ⟨noL.keeps x.toInCall.keep, codeAny_func ?_⟩
 obtain ⟨t, ht, hq⟩ := hb cd A fr s H vs Q E (hr.deeper _) hg hs
 have I : Inv (cxOf CX0 P w K mg base N qual (defScope st) f cd A fr s H E) [] (L2.start N vs) H s1 := inv_start Sc hr.hd e0 (ar _ _ _ _ hs) rv x
 have done : ∀ {τ : L2.St} {H' : Hp} {s' : Shared} {v : V} {u : Value}, Inv (cxOf CX0 P w K mg base N qual (defScope st) f cd A fr s H E) [] τ H' s' → RelV v u → Q v H' → CE fr P w H s Q u s' := by
  intro τ H' s' v u J r q
  exact ⟨v, H', J.os, J.bare, J.base, J.hok, r, q⟩
 refine wpAny_mono (ht.nox.run [] s1 (L2.start N vs) H _ I hq) (fun fl s' z => ?_) (fun _ _ z => z)
 cases fl with
 | next => obtain ⟨τ, H', J, q⟩ := z; exact done (v := .non) (u := .none) J rfl q
 | ret u => obtain ⟨v, τ, H', J, r, q⟩ := z; exact done J r q
 | brk => obtain ⟨_, _, _, q⟩ := z; exact q.elim
 | cont => obtain ⟨_, _, _, q⟩ := z; exact q.elim
end
section
variable {X : Cx} {k : Nat} {ps : List Str} {x : Str} {p pos : Pos} {e : Expr} {es : List Expr} {u : XA} {S : FS}
structure Fg (P : Program) (w : World) (K : PySem.W.Frag) (mg : Str → Option Value) (base : Heap) (x : Str) (k : Nat) (ps : List Str) (S : FS) : Prop where
 ex : ∃ f fd, FnG P w K mg base k f fd ps (spOf K S) ∧ mg x = some (.ref f) ∧ PySem.W.keepIn K (.ref f) = true ∧ Binds K fd ps []
 mono : Wg S
theorem Fg.up {P : Program} {w : World} {K : PySem.W.Frag} {mg : Str → Option Value} {base : Heap} {j : Nat} (F : Fg P w K mg base x j ps S) (l : j ≤ k) : Fg P w K mg base x k ps S :=
 let ⟨f, fd, a, b⟩ := F.ex; ⟨⟨f, fd, a.up l, b⟩, F.mono⟩
end
end BX
namespace BX
open PySem PySem.Spec PyProof.Rows L2
end BX
namespace BT
open PySem PySem.Spec PyProof.Rows L2
def stp : Nat → Nat → Nat
 | 0, i => i
 | k + 1, i => stp k i * 5 + 1
theorem Ul : ∀ a b i, stp (a + b) i = stp a (stp b i)
 | 0, b, i => by rw [Nat.zero_add]; rfl
 | a + 1, b, i => by
   rw [show a + 1 + b = (a + b) + 1 by omega]
   show stp (a + b) i * 5 + 1 = stp a (stp b i) * 5 + 1
   rw [Ul a b i]
theorem qbC : ∀ K : Nat, ∃ c d : Nat, ∀ i, stp (2 ^ K) i = (1 + 4 * 2 ^ K * c) * i + 2 ^ K * (1 + 2 * d)
 | 0 => ⟨1, 0, fun i => by show i * 5 + 1 = _; simp; omega⟩
 | K + 1 => by
   obtain ⟨c, d, h⟩ := qbC K
   refine ⟨c + 2 * 2 ^ K * c * c, d + 2 ^ K * c + 2 * d * 2 ^ K * c, fun i => ?_⟩
   rw [show 2 ^ (K + 1) = 2 ^ K + 2 ^ K by rw [Nat.pow_succ]; omega, Ul, h, h]
   generalize 2 ^ K = M
   grind
theorem half {M x j : Nat} (hM : 0 < M) (h : x % M = j % M) (n : x % (M * 2) ≠ j % (M * 2)) : (x + M) % (M * 2) = j % (M * 2) := by
 rw [Nat.mod_mul, Nat.mod_mul] at n
 rw [Nat.mod_mul, Nat.mod_mul, Nat.add_mod_right, Nat.add_div_right _ hM, h]
 rw [h] at n
 have a := Nat.mod_lt (x / M) (show 0 < 2 by decide)
 have b := Nat.mod_lt (j / M) (show 0 < 2 by decide)
 have c : x / M % 2 ≠ j / M % 2 := fun z => n (by rw [z])
 have e : (x / M + 1) % 2 = j / M % 2 := by omega
 rw [e]
theorem qbD : ∀ (K i j : Nat), ∃ k, k < 2 ^ K ∧ stp k i % 2 ^ K = j % 2 ^ K
 | 0, i, j => ⟨0, by decide, by simp [Nat.mod_one]⟩
 | K + 1, i, j => by
   obtain ⟨k, hk, e⟩ := qbD K i j
   obtain ⟨c, d, h⟩ := qbC K
   by_cases q : stp k i % 2 ^ (K + 1) = j % 2 ^ (K + 1)
   ·exact ⟨k, by rw [Nat.pow_succ]; omega, q⟩
   ·refine ⟨2 ^ K + k, by rw [Nat.pow_succ]; omega, ?_⟩
    rw [Ul, h]
    have e2 : (1 + 4 * 2 ^ K * c) * stp k i + 2 ^ K * (1 + 2 * d) = (stp k i + 2 ^ K) + 2 ^ (K + 1) * (2 * c * stp k i + d) := by
     rw [Nat.pow_succ]; generalize 2 ^ K = M; grind
    rw [e2, Nat.add_mul_mod_self_left, Nat.pow_succ]
    rw [Nat.pow_succ] at q
    exact half (Nat.pow_pos (by decide)) e q
def MG (m : Nat) : Prop := m = 7 ∨ m = 31 ∨ m = 127 ∨ m = 511 ∨ m = 2047 ∨ m = 8191
theorem MG.pow {m : Nat} (h : MG m) : ∃ K, m + 1 = 2 ^ K := by
 rcases h with rfl | rfl | rfl | rfl | rfl | rfl
 ·exact ⟨3, rfl⟩
 ·exact ⟨5, rfl⟩
 ·exact ⟨7, rfl⟩
 ·exact ⟨9, rfl⟩
 ·exact ⟨11, rfl⟩
 ·exact ⟨13, rfl⟩
theorem MG.odd {m : Nat} (h : MG m) : m % 2 = 1 := by rcases h with rfl | rfl | rfl | rfl | rfl | rfl <;> rfl
theorem MG.top {m : Nat} (h : MG m) : m ≤ 8191 := by rcases h with rfl | rfl | rfl | rfl | rfl | rfl <;> decide
theorem qci {m i : Nat} (hi : i ≤ m) : ∀ k, lcgI m i k = stp k i % (m + 1)
 | 0 => (Nat.mod_eq_of_lt (Nat.lt_succ_of_le hi)).symm
 | k + 1 => by
   show (lcgI m i k * 5 + 1) % (m + 1) = (stp k i * 5 + 1) % (m + 1)
   rw [qci hi k]
   simp [Nat.add_mod, Nat.mul_mod]
theorem MG.comes {m : Nat} (h : MG m) {i j : Nat} (hi : i ≤ m) (hj : j ≤ m) : ∃ k, k ≤ m ∧ lcgI m i k = j := by
 obtain ⟨K, e⟩ := h.pow
 obtain ⟨k, a, b⟩ := qbD K i j
 rw [← e] at a b
 refine ⟨k, by omega, ?_⟩
 rw [qci hi, b, Nat.mod_eq_of_lt (by omega)]
theorem MG.run {m : Nat} (hm : MG m) (h : Int) {j : Nat} (hj : j ≤ m) : ∃ n, n ≤ m + 12 ∧ runI m (SetTable.bits h) n = j := by
 obtain ⟨k, a, e⟩ := hm.comes (runI_le m (SetTable.bits h) 12) hj
 refine ⟨12 + k, by omega, ?_⟩
 rw [runI_tail (bits_lt h)]
 exact e
theorem qdZ {m : Nat} (h : Int) (k : Nat) : way m h k ≤ m := by
 have a : SetTable.bits h % (m + 1) ≤ m := Nat.le_of_lt_succ (Nat.mod_lt _ (Nat.succ_pos m))
 have b := (runEnd_bd a).1
 have c := (runEnd_bd a).2.1
 have start : (runAt m (SetTable.bits h % (m + 1)) (SetTable.bits h)).j + (runAt m (SetTable.bits h % (m + 1)) (SetTable.bits h)).more ≤ m := by
  dsimp only [runAt]
  omega
 have z := nth_in k _ start
 dsimp only [way]
 omega
theorem MG.way {m : Nat} (hm : MG m) (h : Int) {j : Nat} (hj : j ≤ m) : ∃ k, k < 10 * SetTable.turns m ∧ way m h k = j := by
 obtain ⟨n, a, e⟩ := hm.run h hj
 obtain ⟨k, b, e'⟩ := run_nth m (SetTable.bits h) n
 refine ⟨k, ?_, ?_⟩
 ·unfold SetTable.turns
  omega
 ·show (nth m _ k).j = j
  rw [e']
  exact e
structure Tb (t : SetTable) (hs : List Int) : Prop where
 ris : Ris t.place.toList
 dm : t.dummies = #[]
 sz : t.place.size = hs.length
 mg : MG t.mask
 back : ∀ (i : Nat) (h : Int) (j : Nat), hs[i]? = some h → t.place.toList[i]? = some j → ∃ k, way t.mask h k = j ∧ ∀ c, c < k → way t.mask h c ∈ t.place.toList
section
variable {t : SetTable} {hs : List Int}
def Hole (t : SetTable) (h : Int) (K : Nat) : Prop := way t.mask h K ∉ t.place.toList ∧ ∀ c, c < K → way t.mask h c ∈ t.place.toList
theorem Tb.hole (T : Tb t hs) (hl : hs.length ≤ t.mask) (h : Int) : ∃ K, K < 10 * SetTable.turns t.mask ∧ Hole t h K := by
 have few : t.place.toList.length < t.mask + 1 := by
  have := T.sz
  rw [Array.length_toList]
  omega
 obtain ⟨j, a, b⟩ := st_missing _ _ few
 obtain ⟨k, c, rfl⟩ := T.mg.way h (Nat.le_of_lt_succ a)
 obtain ⟨K, d, e, f⟩ := st_least (p := fun k => way t.mask h k ∉ t.place.toList) k b
 exact ⟨K, by omega, e, fun c' hc => Classical.not_not.mp (f c' hc)⟩
theorem Tb.ahead (T : Tb t hs) {h : Int} {K i j : Nat} (hK : Hole t h K) (hi : hs[i]? = some h) (hj : t.place.toList[i]? = some j) : ∃ k, k < K ∧ way t.mask h k = j := by
 obtain ⟨k, e, b⟩ := T.back i h j hi hj
 refine ⟨k, Nat.lt_of_not_le fun z => ?_, e⟩
 rcases Nat.lt_or_eq_of_le z with z | rfl
 ·exact hK.1 (b K z)
 ·exact hK.1 (e ▸ List.mem_of_getElem? hj)
theorem Tb.put (T : Tb t hs) {h : Int} {K p j : Nat} (hK : Hole t h K) (ej : way t.mask h K = j) (ep : SetTable.below t.place j = p) :
 p ≤ hs.length ∧ Tb (t.put j).1 (hs.take p ++ h :: hs.drop p) ∧ (t.put j).1.fill = hs.length + 1 := by
 have hK1 := hK.1
 have hK2 := hK.2
 rw [ej] at hK1
 have cut := (below_cut T.ris j).1
 rw [ep] at cut
 have pl : p ≤ t.place.toList.length := by rw [Array.length_toList]; exact cut
 have ph : p ≤ hs.length := by rw [← T.sz]; exact cut
 have place : (t.put j).1.place.toList = t.place.toList.take p ++ j :: t.place.toList.drop p := by rw [put_place, ep]
 have many : (t.put j).1.place.size = hs.length + 1 := by
  rw [← Array.length_toList, place, len_ins _ pl, Array.length_toList, T.sz]
 have old : ∀ {x : Nat}, x ∈ t.place.toList → x ∈ (t.put j).1.place.toList := by
  intro x hx
  rw [place, mem_ins]
  exact .inr hx
 have new : t.place[SetTable.below t.place j]? ≠ some j := by
  intro e
  rw [← Array.getElem?_toList] at e
  exact hK1 (List.mem_of_getElem? e)
 refine ⟨ph, ⟨ris_insert T.ris new, put_dm T.dm j, by rw [len_ins _ ph]; exact many, T.mg, ?_⟩, ?_⟩
 ·intro i h' j' e1 e2
  show ∃ k, way t.mask h' k = j' ∧ _
  rw [tins_get hs ph] at e1
  rw [place, tins_get _ pl] at e2
  by_cases c : i = p
  ·subst c
   simp only [Nat.lt_irrefl, if_false, if_true, Option.some.injEq] at e1 e2
   subst e1 e2
   exact ⟨K, ej, fun c hc => old (hK2 c hc)⟩
  ·obtain ⟨i', f1, f2⟩ : ∃ i', hs[i']? = some h' ∧ t.place.toList[i']? = some j' := by
    by_cases d : i < p
    ·rw [if_pos d] at e1 e2
     exact ⟨i, e1, e2⟩
    ·rw [if_neg d, if_neg c] at e1 e2
     exact ⟨i - 1, e1, e2⟩
   obtain ⟨k, e, b⟩ := T.back i' h' j' f1 f2
   exact ⟨k, e, fun c hc => old (b c hc)⟩
 ·show (t.put j).1.place.size + (t.put j).1.dummies.size = _
  rw [many, put_dm T.dm j]
  rfl
end
theorem qdD {m : Nat} (hm : MG m) (owner : Array (Option Nat)) (h : Int) {j : Nat} (hj : j ≤ m) (hf : oAt owner j = none) :
 ∃ K, SetTable.layClean.free m owner (SetTable.turns m) (SetTable.bits h % (m + 1)) (SetTable.bits h) = some (way m h K) ∧ oAt owner (way m h K) = none ∧ ∀ c, c < K → oAt owner (way m h c) ≠ none := by
 obtain ⟨n, a, e⟩ := hm.run h hj
 have at_n : way m h (off m (SetTable.bits h % (m + 1)) (SetTable.bits h) n) = j := by
  dsimp only [way]
  rw [nth_off, itL_run]
  exact e
 obtain ⟨K, b, c, d⟩ := st_least (p := fun k => oAt owner (way m h k) = none) _ (show oAt owner (way m h (off m (SetTable.bits h % (m + 1)) (SetTable.bits h) n)) = none by rw [at_n]; exact hf)
 have busy : ∀ k, k < K → (oAt owner (way m h k)).isNone = false := by
  intro k hk
  cases z : oAt owner (way m h k) with
  | none => exact absurd z (d k hk)
  | some _ => rfl
 refine ⟨K, ?_, c, d⟩
 apply free_spec m owner _ n _ _ K _ b busy
 ·show (oAt owner (way m h K)).isNone = true
  rw [c]; rfl
 ·unfold SetTable.turns; omega
theorem qe3 {m : Nat} (hm : MG m) {done : List Int} {owner : Array (Option Nat)} (W : Own m done owner) (hl : done.length ≤ m) (h : Int) :
 ∃ j, SetTable.layClean.free m owner (SetTable.turns m) (SetTable.bits h % (m + 1)) (SetTable.bits h) = some j ∧ Own m (done ++ [h]) (owner.setIfInBounds j (some done.length)) := by
 obtain ⟨ps, np, inp⟩ := W.ps
 obtain ⟨j0, a, b⟩ := st_missing ps (m + 1) (by omega)
 have fr : oAt owner j0 = none := Classical.byContradiction fun z => b (inp j0 (Nat.le_of_lt_succ a) z)
 obtain ⟨K, e, f, g⟩ := qdD hm owner h (Nat.le_of_lt_succ a) fr
 have top := qdZ (m := m) h K
 generalize ej : way m h K = j at e f top
 have inb : j < owner.size := by rw [W.sz]; omega
 have at_j := oAt_set_self (some done.length) inb
 have at_i : ∀ {i : Nat}, i ≠ j → oAt (owner.setIfInBounds j (some done.length)) i = oAt owner i := fun n => oAt_set_ne _ n
 have stays : ∀ {i : Nat}, oAt owner i ≠ none → oAt (owner.setIfInBounds j (some done.length)) i ≠ none := by
  intro i z
  by_cases c : i = j
  ·subst c; exact absurd f z
  ·rw [at_i c]; exact z
 have tail : (done ++ [h])[done.length]? = some h := by simp
 refine ⟨j, e, ?_⟩
 constructor
 ·rw [Array.size_setIfInBounds]; exact W.sz
 ·intro i k hi z
  by_cases c : i = j
  ·subst c
   rw [at_j] at z
   cases z
   exact ⟨h, K, tail, ej, fun c hc => stays (g c hc)⟩
  ·rw [at_i c] at z
   obtain ⟨h', K', p1, p2, p3⟩ := W.at_ i k hi z
   have lt : k < done.length := (List.getElem?_eq_some_iff.mp p1).1
   exact ⟨h', K', by rw [List.getElem?_append_left lt]; exact p1, p2, fun c hc => stays (p3 c hc)⟩
 ·intro k hk
  rw [List.length_append, List.length_singleton] at hk
  by_cases c : k = done.length
  ·subst c; exact ⟨j, top, at_j⟩
  ·obtain ⟨i, p1, p2⟩ := W.all k (by omega)
   refine ⟨i, p1, ?_⟩
   rw [at_i (fun z => by rw [z, f] at p2; cases p2)]
   exact p2
 ·refine ⟨j :: ps, by simp [np], fun i hi z => ?_⟩
  by_cases c : i = j
  ·subst c; exact .head _
  ·rw [at_i c] at z
   exact .tail _ (inp i hi z)
theorem qe2 {m : Nat} (hm : MG m) : ∀ (rest done : List Int) (owner : Array (Option Nat)), Own m done owner → done.length + rest.length ≤ m →
 ∃ o, rest.foldl (stepF m) (some (owner, done.length)) = some (o, (done ++ rest).length) ∧ Own m (done ++ rest) o := by
 intro rest
 induction rest with
 | nil => intro done owner W _; rw [List.append_nil]; exact ⟨owner, rfl, W⟩
 | cons h rest ih =>
   intro done owner W l
   rw [List.length_cons] at l
   obtain ⟨j, e, W'⟩ := qe3 hm W (by omega) h
   obtain ⟨o, f, g⟩ := ih (done ++ [h]) _ W' (by simp; omega)
   have ea : done ++ [h] ++ rest = done ++ h :: rest := by simp
   rw [ea] at f g
   refine ⟨o, ?_, g⟩
   rw [List.foldl_cons, stepF_some e]
   simpa using f
theorem qfn {m : Nat} (hm : MG m) {hs : Array Int} (l : hs.size ≤ m) : ∃ o, SetTable.layClean m hs = some o ∧ Own m hs.toList o := by
 obtain ⟨o, f, g⟩ := qe2 hm hs.toList [] _ (Own.init m) (by simpa using l)
 refine ⟨o, ?_, by simpa using g⟩
 rw [layClean_eq]
 have f' : hs.toList.foldl (stepF m) (some (Array.replicate (m + 1) none, 0)) = some (o, ([] ++ hs.toList).length) := f
 rw [f']
 rfl
theorem qbP (t : SetTable) {hs : Array Int} {wanted M : Nat} (hw : SetTable.sizeAbove wanted - 1 = M) (hM : MG M) (l : hs.size ≤ M) :
 ∃ t' order, t.relaid hs wanted = some (t', order) ∧ order.toList.Perm (List.range hs.size) ∧ Tb t' (order.toList.map fun i => hs.getD i 0) ∧ t'.mask = M ∧ t'.led = t.led := by
 obtain ⟨o, e, W⟩ := qfn hM l
 have mem : ∀ {j k : Nat}, (j, k) ∈ liveOf M o ↔ j ≤ M ∧ oAt o j = some k := mem_live W.sz
 have up : Ris (List.range (M + 1)) := by
  unfold Ris
  first | exact List.pairwise_lt_range | exact List.pairwise_lt_range _
 obtain ⟨r1, r2⟩ := ris_live (fun j => o.getD j none) (List.range (M + 1)) up
 have r1 : Ris ((liveOf M o).map (·.1)) := r1
 have nd : ((liveOf M o).map (·.1)).Nodup := List.Pairwise.imp (fun h => Nat.ne_of_lt h) r1
 have many : (liveOf M o).length = hs.size := by
  obtain ⟨ps, p1, p2⟩ := W.ps
  have le1 := nat_nodup_len _ ps nd (by
   intro x hx
   obtain ⟨⟨j, k⟩, hq, rfl⟩ := List.mem_map.mp hx
   obtain ⟨b1, b2⟩ := mem.mp hq
   exact p2 j b1 (by rw [b2]; simp))
  have le2 := nat_nodup_len (List.range hs.size) ((liveOf M o).map (·.2)) List.nodup_range (by
   intro k hk
   obtain ⟨j, b1, b2⟩ := W.all k (by simpa using hk)
   exact List.mem_map.mpr ⟨(j, k), mem.mpr ⟨b1, b2⟩, rfl⟩)
  simp only [List.length_map, List.length_range, Array.length_toList] at le1 le2 p1
  omega
 refine ⟨tabOf t M o, ((liveOf M o).map (·.2)).toArray, ?_, ?_, ⟨r1, rfl, ?_, hM, ?_⟩, rfl, rfl⟩
 ·rw [relaid_eq, hw, e]
  rfl
 ·refine perm_range hs.size _ ?_ fun k hk => ?_
  ·simpa using many
  ·obtain ⟨j, b1, b2⟩ := W.all k (by simpa using hk)
   exact List.mem_map.mpr ⟨(j, k), mem.mpr ⟨b1, b2⟩, rfl⟩
 ·show ((liveOf M o).map (·.1)).toArray.size = _
  simp
 ·intro i h j e1 e2
  have e1 : (((liveOf M o).map (·.2)).map fun i => hs.getD i 0)[i]? = some h := e1
  have e2 : ((liveOf M o).map (·.1))[i]? = some j := e2
  rw [List.getElem?_map] at e2
  rw [List.getElem?_map, List.getElem?_map] at e1
  obtain ⟨⟨j', k⟩, hq, rfl⟩ := Option.map_eq_some_iff.mp e2
  rw [hq] at e1
  have e1 : hs.getD k 0 = h := Option.some.inj e1
  obtain ⟨b1, b2⟩ := mem.mp (List.mem_of_getElem? hq)
  obtain ⟨h0, K, a1, a2, a3⟩ := W.at_ j' k b1 b2
  have e0 : hs.getD k 0 = h0 := by rw [Array.getD_eq_getD_getElem?, ← Array.getElem?_toList, a1]; rfl
  obtain rfl : h0 = h := e0.symm.trans e1
  refine ⟨K, a2, fun c hc => ?_⟩
  show way M h0 c ∈ (liveOf M o).map (·.1)
  obtain ⟨k2, z⟩ := Option.ne_none_iff_exists'.mp (a3 c hc)
  exact List.mem_map.mpr ⟨(way M h0 c, k2), mem.mpr ⟨qdZ _ _, z⟩, rfl⟩
theorem qfv {m n : Nat} (hm : MG m) (hr : n * 5 < m * 3) (full : (n + 1) * 5 ≥ m * 3) (few : n + 1 < 4096) :
 ∃ M, SetTable.sizeAbove (SetTable.grown (n + 1)) - 1 = M ∧ MG M ∧ SetTable.sizeAbove (SetTable.grown (n + 1)) ≤ 8192 ∧ (n + 1) * 5 < M * 3 := by
 rcases hm with rfl | rfl | rfl | rfl | rfl | rfl
 ·obtain rfl : n = 4 := by omega
  have e : SetTable.sizeAbove (SetTable.grown 5) = 32 := by decide +kernel
  exact ⟨31, by rw [e], .inr (.inl rfl), by rw [e]; decide, by decide⟩
 ·obtain rfl : n = 18 := by omega
  have e : SetTable.sizeAbove (SetTable.grown 19) = 128 := by decide +kernel
  exact ⟨127, by rw [e], .inr (.inr (.inl rfl)), by rw [e]; decide, by decide⟩
 ·obtain rfl : n = 76 := by omega
  have e : SetTable.sizeAbove (SetTable.grown 77) = 512 := by decide +kernel
  exact ⟨511, by rw [e], .inr (.inr (.inr (.inl rfl))), by rw [e]; decide, by decide⟩
 ·obtain rfl : n = 306 := by omega
  have e : SetTable.sizeAbove (SetTable.grown 307) = 2048 := by decide +kernel
  exact ⟨2047, by rw [e], .inr (.inr (.inr (.inr (.inl rfl)))), by rw [e]; decide, by decide⟩
 ·obtain rfl : n = 1228 := by omega
  have e : SetTable.sizeAbove (SetTable.grown 1229) = 8192 := by decide +kernel
  exact ⟨8191, by rw [e], .inr (.inr (.inr (.inr (.inr rfl)))), by rw [e]; decide, by decide⟩
 ·omega
end BT
namespace BT
open PySem PySem.Spec PyProof.Rows L2
structure Mild {P : Program} {w : World} {κ : Type} [DecidableEq κ] (HK : HeapKind P w κ) (byv : κ → Bool) : Prop where
 stay : ∀ {h h' : Heap} {k : κ} {a : Addr}, (∀ b o vs n, h.get? b = some o → o.data = .seq vs n → h'.get? b = some o) → HK.is h k a → HK.is h' k a
 rm : ∀ {A : Around}, A.units < cLine → HK.room A
 cls : ∀ {A : Around} {E : Value → Shared → Prop} {s : Shared} {k : κ} {b : Addr} {Q : Bool → Shared → Prop}, HK.is s.heap k b → Q false s → wpAny (model P w) A (ofAClassStatement 8 (.ref b)) Q E s
 val : ∀ {A : Around} {E : Value → Shared → Prop} {s : Shared} {k : κ} {b : Addr} {Q : Bool → Shared → Prop}, HK.is s.heap k b → Q (byv k) s → wpAny (model P w) A (hashByValue 8 (.ref b)) Q E s
section
variable {P : Program} {w : World} {κ : Type} [DecidableEq κ] {HK : HeapKind P w κ} {byv : κ → Bool}
def Q5 (HK : HeapKind P w κ) (L : List (Addr × κ)) : List (Int × Value) := L.map fun p => (HK.hash p.2, Value.ref p.1)
def hsh (HK : HeapKind P w κ) (L : List (Addr × κ)) : List Int := L.map fun p => HK.hash p.2
structure StG (HK : HeapKind P w κ) (h : Heap) (a : Addr) (L : List (Addr × κ)) (es : Array (Int × Value)) (ep : Nat) (t : SetTable) : Prop where
 ob : ∃ o, h.get? a = some o ∧ o.ExactSet ∧ o.data = .set es ep t
 row : es.toList = Q5 HK L
 tab : Tb t (hsh HK L)
 nd : (L.map (·.2)).Nodup
 mem : ∀ p ∈ L, HK.is h p.2 p.1
 led : w.params.followText "set-order" = true ∨ t.led = true
 room : L.length * 5 < t.mask * 3
 few : L.length < 4096
variable {A : Around} {E : Value → Shared → Prop} {s : Shared} {a : Addr} {L : List (Addr × κ)} {es : Array (Int × Value)} {ep : Nat} {t : SetTable}
theorem vH : (hsh HK L).length = L.length := List.length_map _
theorem uO (h : es.toList = Q5 HK L) : es.size = L.length := by
 have := congrArg List.length h
 unfold Q5 at this
 simpa using this
theorem StG.fits (R : StG HK s.heap a L es ep t) : t.fits es.size = true := by
 have a := R.tab.sz
 have b := uO R.row
 have c := R.room
 rw [vH] at a
 unfold SetTable.fits SetTable.fill
 rw [R.tab.dm, Bool.and_eq_true, beq_iff_eq, decide_eq_true_eq]
 refine ⟨by omega, ?_⟩
 show t.place.size + 0 ≤ t.mask
 omega
theorem StG.at_ (R : StG HK s.heap a L es ep t) {i : Nat} {p : Addr × κ} (h : L[i]? = some p) : es[i]? = some (HK.hash p.2, Value.ref p.1) := by
 have e : es.toList[i]? = _ := congrArg (·[i]?) R.row
 rw [Array.getElem?_toList] at e
 rw [e]
 unfold Q5
 simp [h]
theorem StG.whole (R : StG HK s.heap a L es ep t) : ¬ t.gaveWay = true := by
 unfold SetTable.gaveWay
 rw [R.tab.mg.odd]
 decide
abbrev pr (t : SetTable) (h : Int) (c : Nat) : SetTable.Probe := nth t.mask (runAt t.mask (SetTable.bits h % (t.mask + 1)) (SetTable.bits h)) c
theorem qeb (t : SetTable) (h : Int) (c q : Nat) : nth t.mask (pr t h c) q = pr t h (c + q) := (nth_add t.mask c _ q).symm
theorem Ja (m : Nat) : ∀ (n : Nat) (p : SetTable.Probe), p.dummy = none → (nth m p n).dummy = none
 | 0, _, h => h
 | n + 1, p, h => Ja m n (adv m p) (by unfold adv; split <;> exact h)
theorem Uq {hs : List Int} (T : Tb t hs) {h : Int} {K c : Nat} (hK : Hole t h K) (lt : K < 10 * SetTable.turns t.mask) (hc : c ≤ K) (f : Nat → Int) :
 (∃ q i, c ≤ q ∧ q < K ∧ t.place.toList[i]? = some (way t.mask h q) ∧ f i = h ∧ (∀ c' i', c ≤ c' → c' < q → t.place.toList[i']? = some (way t.mask h c') → f i' ≠ h) ∧
  t.probe f h (pr t h c) = some (.candidate (way t.mask h q) i (pr t h (q + 1)))) ∨
 ((∀ c' i', c ≤ c' → c' < K → t.place.toList[i']? = some (way t.mask h c') → f i' ≠ h) ∧ t.probe f h (pr t h c) = some (.empty (way t.mask h K) none)) := by
 have j_at : ∀ q, (nth t.mask (pr t h c) q).j = way t.mask h (c + q) := fun q => by rw [qeb]
 have all := go_spec t T.ris T.dm f h (10 * SetTable.turns t.mask) (K - c) (pr t h c) (Ja _ _ _ rfl) (by omega) (fun q hq => by rw [j_at]; exact hK.2 _ (by omega))
  (by rw [j_at, show c + (K - c) = K by omega]; exact hK.1)
 rcases all with ⟨q, i, l, e1, e2, e3, e4⟩ | ⟨e3, e4⟩
 ·refine .inl ⟨c + q, i, by omega, by omega, by rw [← j_at]; exact e1, e2, fun c' i' l1 l2 e => ?_, ?_⟩
  ·refine e3 (c' - c) i' (by omega) ?_
   rw [j_at, show c + (c' - c) = c' by omega]
   exact e
  ·rw [← j_at, show c + q + 1 = c + (q + 1) by omega, ← qeb]
   exact e4
 ·refine .inr ⟨fun c' i' l1 l2 e => ?_, ?_⟩
  ·refine e3 (c' - c) i' (by omega) ?_
   rw [j_at, show c + (c' - c) = c' by omega]
   exact e
  ·have e5 := j_at (K - c)
   rw [show c + (K - c) = K by omega] at e5
   rw [← e5]
   exact e4
theorem qgq (M : Mild HK byv) {k : κ} {b : Addr} {Q : Bool → Shared → Prop} (hk : HK.is s.heap k b) {ys : List Value} (hy : ∀ y ∈ ys, ∃ k' c, y = Value.ref c ∧ HK.is s.heap k' c) (h : Q false s) :
 wpAny (model P w) A (searchCouldBeSeen (.ref b) ys) Q E s := by
 unfold searchCouldBeSeen
 apply wpAny_bind
 refine wpAny_forIn_list _ (fun rest r s' => r.1 = none ∧ s' = s ∧ ∀ y ∈ rest, ∃ k' c, y = Value.ref c ∧ HK.is s.heap k' c) _ ?step ?fin _ _ ⟨rfl, rfl, hy⟩
 case step =>
  intro v rest r s' z
  obtain ⟨hr, rfl, all⟩ := z
  obtain ⟨k', c, rfl, hc⟩ := all v (.head _)
  have more := fun u hu => all u (.tail _ hu)
  dsimp only
  by_cases q : (b == c || (carriedByValue (.ref b) && carriedByValue (.ref c))) = true
  ·exact wp_if_pos q (wpAny_pure ⟨rfl, rfl, more⟩)
  ·refine wp_if_neg q (wpAny_bind (HK.quiet hk ?_))
   simp only [Bool.not_true, Bool.false_eq_true, if_false]
   refine wpAny_bind (HK.quiet hc ?_)
   simp only [Bool.not_true, Bool.false_eq_true, if_false]
   refine wpAny_bind (M.cls hk ?_)
   simp only [Bool.false_eq_true, if_false]
   refine wpAny_bind (M.cls hc ?_)
   simp only [Bool.false_eq_true, if_false]
   exact wpAny_pure ⟨rfl, rfl, more⟩
 case fin =>
  rintro ⟨r1, r2⟩ s' ⟨hr, rfl, _⟩
  have hr : r1 = none := hr
  subst hr
  exact wpAny_pure h
theorem qbI (M : Mild HK byv) (R : StG HK s.heap a L es ep t) {x : Addr} {k : κ} (hx : HK.is s.heap k x) (hu : A.units < cLine) {K : Nat} (lt : K < 10 * SetTable.turns t.mask) (hK : Hole t (HK.hash k) K)
 {Q : SetFound → Shared → Prop} (hin : k ∈ L.map (·.2) → Q (.there none) s) (hout : k ∉ L.map (·.2) → Q (.free (way t.mask (HK.hash k) K) false) s) :
 ∀ (f c : Nat) (from' : Option SetTable.Probe), from'.getD (t.probeStart (HK.hash k)) = pr t (HK.hash k) c → c ≤ K → K - c < f →
  (∀ (i : Nat) p, L[i]? = some p → p.2 = k → ∃ c', c ≤ c' ∧ c' < K ∧ t.place.toList[i]? = some (way t.mask (HK.hash k) c')) →
  wpAny (model P w) A (setSearchFrom a (.ref x) (HK.hash k) true f from') Q E s := by
 intro f
 induction f with
 | zero => intro c _ _ _ z; exact absurd z (Nat.not_lt_zero _)
 | succ f ih =>
   intro c from' hfrom hc hf ahead
   obtain ⟨o, ho, hex, hd⟩ := R.ob
   have hashAt : ∀ {i : Nat} {p : Addr × κ}, L[i]? = some p → (es[i]?.map (·.1)).getD 0 = HK.hash p.2 := fun h => by rw [R.at_ h]; rfl
   rw [setSearchFrom_succ]
   refine wpAny_bind (wpAny_setState_of ho hd R.fits ?_)
   dsimp only
   refine wp_if_neg R.whole ?_
   try refine wpAny_bind (wpAny_pure ?_)
   rw [hfrom]
   rcases Uq R.tab hK lt hc (fun i => (es[i]?.map (·.1)).getD 0) with ⟨q, i, l1, l2, hi, hh, no, met⟩ | ⟨no, met⟩
   ·rw [met]
    dsimp only
    have il : i < L.length := by
     have a := (List.getElem?_eq_some_iff.mp hi).1
     have b := R.tab.sz
     rw [vH] at b
     rw [Array.length_toList] at a
     omega
    obtain ⟨p, hp⟩ : ∃ p, L[i]? = some p := ⟨_, List.getElem?_eq_getElem il⟩
    have pin := List.mem_of_getElem? hp
    have live := slot_live R.tab.ris hi
    have go : wpAny (model P w) A (searchRest a (.ref x) (HK.hash k) true f es t (way t.mask (HK.hash k) q) i (pr t (HK.hash k) (q + 1))) Q E s := by
     unfold searchRest
     rw [R.at_ hp]
     dsimp only
     refine wpAny_bind (wpAny_holding (HK.eqBool (M.rm hu) (R.mem p pin) hx (wpAny_bind (wpAny_setState_of ho hd R.fits ?_))))
     dsimp only
     by_cases same : p.2 = k
     ·exact wp_if_pos (by simp [same]) (wpAny_pure (hin (List.mem_map.mpr ⟨p, pin, same⟩)))
     ·refine wp_if_neg (by simp [same]) ?_
      try refine wpAny_bind (wpAny_pure ?_)
      rw [sameMem]
      dsimp only
      simp only [if_true, live, R.at_ hp]
      refine wpAny_bind (wpAny_isSame_ref_self (wpAny_bind (wpAny_pure ?_)))
      simp only [if_true]
      refine wp_if_neg (by simp [same]) (ih (q + 1) _ rfl (by omega) (by omega) ?_)
      intro i0 p0 h0 e0
      obtain ⟨c', b1, b2, b3⟩ := ahead i0 p0 h0 e0
      have h1 : (fun i => (es[i]?.map (·.1)).getD 0) i0 = HK.hash k := (hashAt h0).trans (congrArg HK.hash e0)
      refine ⟨c', ?_, b2, b3⟩
      rcases Nat.lt_trichotomy c' q with z | z | z
      ·exact absurd h1 (no c' i0 b1 z b3)
      ·subst z
       have l0 := slot_live R.tab.ris b3
       rw [live] at l0
       injection l0 with l0
       subst l0
       rw [hp] at h0
       cases h0
       exact absurd e0 same
      ·exact z
    cases hl : t.led with
    | true =>
      refine wp_if_neg (by simp) ?_
      try refine wpAny_bind (wpAny_pure ?_)
      exact go
    | false =>
      refine wp_if_pos (by simp) (wpAny_bind (qgq M hx ?_ ?_))
      ·intro y hy
       obtain ⟨e, he, rfl⟩ := List.mem_map.mp hy
       have he : e ∈ es.toList := by simp at he; simpa using he.1
       rw [R.row] at he
       obtain ⟨p2, m2, rfl⟩ := List.mem_map.mp he
       exact ⟨p2.2, p2.1, rfl, R.mem p2 m2⟩
      ·refine wp_if_neg (by decide) ?_
       try refine wpAny_bind (wpAny_pure ?_)
       exact go
   ·rw [met]
    dsimp only
    refine wpAny_pure (hout fun z => ?_)
    obtain ⟨p0, m0, e0⟩ := List.mem_map.mp z
    obtain ⟨i0, h0⟩ := List.getElem?_of_mem m0
    obtain ⟨c', b1, b2, b3⟩ := ahead i0 p0 h0 e0
    exact no c' i0 b1 b2 b3 ((hashAt h0).trans (congrArg HK.hash e0))
theorem qaS (M : Mild HK byv) (R : StG HK s.heap a L es ep t) {x : Addr} {k : κ} (hx : HK.is s.heap k x) (hu : A.units < cLine) {Q : SetFound → Shared → Prop}
 (hin : k ∈ L.map (·.2) → Q (.there none) s) (hout : ∀ K, k ∉ L.map (·.2) → Hole t (HK.hash k) K → Q (.free (way t.mask (HK.hash k) K) false) s) :
 wpAny (model P w) A (setSearch a (.ref x) (HK.hash k) true) Q E s := by
 have room := R.room
 obtain ⟨K, lt, hK⟩ := R.tab.hole (by rw [vH]; omega) (HK.hash k)
 have small : 10 * SetTable.turns t.mask ≤ 82060 := by
  have := R.tab.mg.top
  unfold SetTable.turns
  omega
 unfold setSearch
 refine qbI M R hx hu lt hK hin (fun z => hout K z hK) 100000 0 none rfl (Nat.zero_le _) (by omega) ?_
 intro i p hp e
 have il : i < t.place.toList.length := by
  have a := (List.getElem?_eq_some_iff.mp hp).1
  have b := R.tab.sz
  rw [vH] at b
  rw [Array.length_toList]
  omega
 have hj := List.getElem?_eq_getElem il
 have hi : (hsh HK L)[i]? = some (HK.hash k) := by
  unfold hsh
  rw [List.getElem?_map, hp, ← e]
  rfl
 obtain ⟨c, b1, b2⟩ := R.tab.ahead hK hi hj
 exact ⟨c, Nat.zero_le _, b1, by rw [hj, b2]⟩
end
end BT
namespace BT
open PySem PySem.Spec PyProof.Rows L2
section
variable {P : Program} {w : World} {κ : Type} [DecidableEq κ] {HK : HeapKind P w κ} {byv : κ → Bool}
variable {A : Around} {E : Value → Shared → Prop} {s : Shared} {a : Addr} {L : List (Addr × κ)} {es : Array (Int × Value)} {ep : Nat} {t : SetTable}
theorem Mild.but (M : Mild HK byv) {h h' : Heap} {k : κ} {b : Addr} {o : Obj} (x : HK.is h k b) (ho : h.get? a = some o) (hd : o.data = .set es ep t) (hs : Heap.SameBut a h h') : HK.is h' k b := by
 refine M.stay (fun c oc vs n e d => ?_) x
 rw [hs.2 c (fun z => ?_)]
 ·exact e
 ·subst z
  rw [ho] at e
  cases e
  rw [hd] at d
  cases d
theorem Mild.grow (M : Mild HK byv) {h h' : Heap} {k : κ} {b : Addr} (x : HK.is h k b) (kp : ∀ c o, h.get? c = some o → h'.get? c = some o) : HK.is h' k b := M.stay (fun c o _ _ e _ => kp c o e) x
theorem reorder {ord : Array Nat} (hr : es.toList = Q5 HK L) (hp : ord.toList.Perm (List.range L.length)) :
 ∃ L', (ord.filterMap (es[·]?)).toList = Q5 HK L' ∧ L'.Perm L ∧ hsh HK L' = ord.toList.map fun i => (es.map (·.1)).getD i 0 := by
 have sz := uO hr
 have entry : ∀ {i : Nat} {p : Addr × κ}, L[i]? = some p → es[i]? = some (HK.hash p.2, Value.ref p.1) := by
  intro i p h
  have e : es.toList[i]? = _ := congrArg (·[i]?) hr
  rw [Array.getElem?_toList] at e
  rw [e]
  unfold Q5
  simp [h]
 refine ⟨ord.toList.filterMap (L[·]?), ?_, ?_, ?_⟩
 ·have both : ∀ l : List Nat, (∀ i ∈ l, i < L.length) → l.filterMap (es[·]?) = Q5 HK (l.filterMap (L[·]?)) := by
   intro l
   induction l with
   | nil => intro _; rfl
   | cons i l ih =>
     intro hl
     have hi := List.getElem?_eq_getElem (hl i (.head _))
     rw [List.filterMap_cons_some (entry hi), List.filterMap_cons_some hi, ih fun j hj => hl j (.tail _ hj)]
     rfl
  have e := both ord.toList fun i hi => List.mem_range.mp (hp.mem_iff.mp hi)
  rw [← e]
  simp
 ·have e : (List.range L.length).filterMap (L[·]?) = L := by
   apply List.ext_getElem?
   have pre : ∀ n, n ≤ L.length → (List.range n).filterMap (L[·]?) = L.take n := by
    intro n
    induction n with
    | zero => intro _; rfl
    | succ n ih =>
      intro hn
      have hi := List.getElem?_eq_getElem (show n < L.length from hn)
      rw [List.range_succ, List.filterMap_append, ih (Nat.le_of_lt hn), List.filterMap_cons_some hi, List.take_succ, hi]
      rfl
   intro i
   rw [pre _ (Nat.le_refl _), List.take_length]
  have q := hp.filterMap (L[·]?)
  rwa [e] at q
 ·have each : ∀ l : List Nat, (∀ i ∈ l, i < L.length) → hsh HK (l.filterMap (L[·]?)) = l.map fun i => (es.map (·.1)).getD i 0 := by
   intro l
   induction l with
   | nil => intro _; rfl
   | cons i l ih =>
     intro hl
     have hi := List.getElem?_eq_getElem (hl i (.head _))
     have z : (es.map (·.1)).getD i 0 = HK.hash (L[i]'(hl i (.head _))).2 := by
      simp [Array.getD_eq_getD_getElem?, entry hi]
     rw [List.filterMap_cons_some hi, List.map_cons, z, ← ih fun j hj => hl j (.tail _ hj)]
     rfl
  exact each _ fun i hi => List.mem_range.mp (hp.mem_iff.mp hi)
theorem qiF (M : Mild HK byv) {o : Obj} (ho : s.heap.get? a = some o) (hex : o.ExactSet) (hd : o.data = .set es ep t) (hr : es.toList = Q5 HK L) (sz : t.place.size = es.size) (dm : t.dummies = #[]) (fl : es.size ≤ t.mask)
 (nd : (L.map (·.2)).Nodup) (mem : ∀ p ∈ L, HK.is s.heap p.2 p.1) (ld : w.params.followText "set-order" = true ∨ t.led = true) (few : L.length < 4096) {wanted N : Nat}
 (hw : SetTable.sizeAbove wanted - 1 = N) (hN : MG N) (top : SetTable.sizeAbove wanted ≤ 8192) (rm : L.length * 5 < N * 3) {Q : Unit → Shared → Prop}
 (q : ∀ h' L' es' ep' t', Heap.SameBut a s.heap h' → StG HK h' a L' es' ep' t' → L'.Perm L → Q () { s with heap := h' }) : wpAny (model P w) A (setRelay a wanted) Q E s := by
 have hz := uO hr
 have fits : t.fits es.size = true := by
  unfold SetTable.fits SetTable.fill
  rw [dm, Bool.and_eq_true, beq_iff_eq, decide_eq_true_eq]
  refine ⟨sz, ?_⟩
  show t.place.size + 0 ≤ t.mask
  omega
 obtain ⟨t', ord, e, hp, T, em, el⟩ := qbP t (hs := es.map (·.1)) hw hN (by rw [Array.size_map]; omega)
 rw [Array.size_map, hz] at hp
 obtain ⟨L', r1, r2, r3⟩ := reorder hr hp
 rw [← r3] at T
 have z2 : (ord.filterMap (es[·]?)).size = es.size := by rw [uO r1, r2.length_eq, hz]
 rw [setRelay_eq]
 refine wpAny_bind (wpAny_setState_of ho hd fits ?_)
 dsimp only
 refine wp_if_neg (by rw [sizeLine_eq]; omega) ?_
 try refine wpAny_bind (wpAny_pure ?_)
 rw [e]
 dsimp only
 apply wpAny_bind
 refine wp_if_neg (by rw [z2]; simp) ?_
 try refine wpAny_bind (wpAny_pure ?_)
 apply wpAny_pure
 dsimp only
 have sb : Heap.SameBut a s.heap (s.heap.update a (Obj.putSet (ord.filterMap (es[·]?)) t')) := Heap.SameBut.update ..
 refine wpAny_storeSet_of ho hd (q _ L' (ord.filterMap (es[·]?)) (ep + 1) t' sb ?_ r2) (by rw [z2, hz, sizeLine_eq]; omega)
 constructor
 ·exact ⟨_, store_at ho hd, ⟨hex.1, hex.2.1, hex.2.2⟩, rfl⟩
 ·exact r1
 ·exact T
 ·exact (r2.map (·.2)).nodup_iff.mpr nd
 ·exact fun p m => M.but (mem p (r2.mem_iff.mp m)) ho hd sb
 ·rw [el]; exact ld
 ·rw [r2.length_eq, em]; exact rm
 ·rw [r2.length_eq]; exact few
theorem qfV (M : Mild HK byv) (R : StG HK s.heap a L es ep t) {x : Addr} {k : κ} (hx : HK.is s.heap k x) (hu : A.units < cLine) (few : L.length + 1 < 4096) {Q : Bool → Shared → Prop}
 (q : ∀ b h' L' es' ep' t', Heap.SameBut a s.heap h' → StG HK h' a L' es' ep' t' → (k ∈ L.map (·.2) → L' = L) → (k ∉ L.map (·.2) → L'.Perm ((x, k) :: L)) → Q b { s with heap := h' }) :
 wpAny (model P w) A (setAddHashed a (.ref x) (HK.hash k)) Q E s := by
 obtain ⟨o, ho, hex, hd⟩ := R.ob
 have sz := uO R.row
 have room := R.room
 unfold setAddHashed
 apply wpAny_holding
 rw [show (100000 : Nat) = 99999 + 1 from rfl, setAddHashedIn_succ]
 refine wpAny_bind (wpAny_setState_of ho hd R.fits ?_)
 dsimp only
 refine wp_if_neg (by simp [byScan, Value.scannable]) ?_
 try refine wpAny_bind (wpAny_pure ?_)
 refine wpAny_bind (qaS M R hx hu ?there ?hole)
 case there =>
  intro z
  dsimp only
  exact wpAny_pure (q false s.heap L es ep t (Heap.SameBut.refl a s.heap) R (fun _ => rfl) fun y => absurd z y)
 case hole =>
  intro K new hK
  dsimp only
  refine wpAny_bind (wpAny_setState_of ho hd R.fits ?_)
  dsimp only
  generalize ej : way t.mask (HK.hash k) K = j
  generalize epp : SetTable.below t.place j = p
  obtain ⟨lp, T, fill⟩ := R.tab.put hK ej epp
  have two : (t.put j).2 = p := epp
  have m1 : (t.put j).1.mask = t.mask := rfl
  have m2 : (t.put j).1.led = t.led := rfl
  generalize t.put j = pt at T fill two m1 m2 ⊢
  obtain ⟨t1, p1⟩ := pt
  dsimp only at T fill two m1 m2 ⊢
  subst two
  rw [vH] at lp
  have ins : (SetTable.insertAt es p1 (HK.hash k, Value.ref x)).toList = Q5 HK (L.take p1 ++ (x, k) :: L.drop p1) := by
   rw [SetTable.toList_insertAt, R.row]
   unfold Q5
   simp
  have hins : hsh HK (L.take p1 ++ (x, k) :: L.drop p1) = (hsh HK L).take p1 ++ HK.hash k :: (hsh HK L).drop p1 := by
   unfold hsh
   simp
  rw [← hins] at T
  have pm := put_perm L p1 (x, k)
  generalize L.take p1 ++ (x, k) :: L.drop p1 = L1 at ins T pm
  have l1 : L1.length = L.length + 1 := pm.length_eq
  have nd1 : (L1.map (·.2)).Nodup := (pm.map (·.2)).nodup_iff.mpr (List.nodup_cons.mpr ⟨new, R.nd⟩)
  have sz1 := uO ins
  generalize SetTable.insertAt es p1 (HK.hash k, Value.ref x) = es1 at ins sz1 ⊢
  have main : ∀ t2 : SetTable, t2.mask = t1.mask → t2.place = t1.place → t2.dummies = t1.dummies → t2.led = t1.led →
   wpAny (model P w) A (do
    storeSet a es1 t2
    if !false && t2.tooFull then setRelay a (SetTable.grown (es.size + 1))
    return true) Q E s := by
   intro t2 b1 b2 b3 b4
   have T2 : Tb t2 (hsh HK L1) := ⟨by rw [b2]; exact T.ris, by rw [b3]; exact T.dm, by rw [b2]; exact T.sz, by rw [b1]; exact T.mg, by rw [b1, b2]; exact T.back⟩
   have fill2 : t2.fill = L.length + 1 := by
    have : t2.fill = t1.fill := by unfold SetTable.fill; rw [b2, b3]
    rw [this, fill, vH]
   refine wpAny_bind (wpAny_storeSet_of ho hd ?_ (by rw [sz1, l1, sizeLine_eq]; omega))
   have sb : Heap.SameBut a s.heap (s.heap.update a (Obj.putSet es1 t2)) := Heap.SameBut.update ..
   have ho1 := store_at (es' := es1) (t' := t2) ho hd
   generalize s.heap.update a (Obj.putSet es1 t2) = h1 at sb ho1 ⊢
   have mem1 : ∀ p ∈ L1, HK.is h1 p.2 p.1 := by
    intro p hp
    rcases List.mem_cons.mp (pm.mem_iff.mp hp) with rfl | hp
    ·exact M.but hx ho hd sb
    ·exact M.but (R.mem p hp) ho hd sb
   have ld : w.params.followText "set-order" = true ∨ t2.led = true := by rw [b4, m2]; exact R.led
   have ex1 : ({ o with data := .set es1 (ep + 1) t2 } : Obj).ExactSet := ⟨hex.1, hex.2.1, hex.2.2⟩
   by_cases full : t2.tooFull = true
   ·have over := full
    unfold SetTable.tooFull at over
    rw [decide_eq_true_eq, fill2, b1, m1] at over
    obtain ⟨N, n1, n2, n3, n4⟩ := qfv R.tab.mg room over few
    have end' : wpAny (model P w) A (setRelay a (SetTable.grown (es.size + 1))) (fun _ s' => wpAny (model P w) A (pure true) Q E s') E { s with heap := h1 } := by
     rw [sz]
     refine qiF (s := { s with heap := h1 }) M ho1 ex1 rfl ins ?_ T2.dm ?_ nd1 mem1 ld (by omega) n1 n2 n3 (by rw [l1]; exact n4) ?_
     ·rw [T2.sz, vH, sz1]
     ·rw [b1, m1, sz1, l1]; omega
     ·intro h2 L2 es2 ep2 t3 sb2 R2 pm2
      exact wpAny_pure (q true h2 L2 es2 ep2 t3 (sb.trans sb2) R2 (fun z => absurd z new) fun _ => pm2.trans pm)
    first
     | (refine wpAny_bind ?_; refine wp_if_pos (by simp [full]) ?_; exact end')
     | (refine wp_if_pos (by simp [full]) ?_; refine wpAny_bind ?_; exact end')
   ·have under := full
    unfold SetTable.tooFull at under
    rw [decide_eq_true_eq, fill2, b1, m1] at under
    have fine : wpAny (model P w) A (pure true) Q E { s with heap := h1 } := by
     refine wpAny_pure (q true h1 L1 es1 (ep + 1) t2 sb ⟨⟨_, ho1, ex1, rfl⟩, ins, T2, nd1, mem1, ld, ?_, by omega⟩ (fun z => absurd z new) fun _ => pm)
     rw [l1, b1, m1]
     omega
    first
     | (refine wp_if_neg (by simp [full]) ?_; exact fine)
     | (refine wpAny_bind ?_; refine wp_if_neg (by simp [full]) ?_; refine wpAny_pure ?_; exact fine)
  cases hpl : t1.plain with
  | true =>
    simp only [if_true]
    refine wpAny_bind (M.val hx ?_)
    cases hb : byv k with
    | true => simp only [if_true]; exact main t1 rfl rfl rfl rfl
    | false => simp only [Bool.false_eq_true, if_false]; exact main { t1 with plain := false } rfl rfl rfl rfl
  | false =>
    simp only [Bool.false_eq_true, if_false]
    try refine wpAny_bind (wpAny_pure ?_)
    simp only [if_true]
    exact main t1 rfl rfl rfl rfl
end
end BT
namespace BT
open PySem PySem.Spec PyProof.Rows L2
section
variable {P : Program} {w : World} {κ : Type} [DecidableEq κ] {HK : HeapKind P w κ} {byv : κ → Bool}
variable {A : Around} {E : Value → Shared → Prop} {s : Shared}
structure Upto (ks : List (Addr × κ)) (i : Nat) (L : List (Addr × κ)) : Prop where
 sub : ∀ p ∈ L, p ∈ ks
 all : ∀ (j : Nat) p, j < i → ks[j]? = some p → p.2 ∈ L.map (·.2)
 nd : (L.map (·.2)).Nodup
 len : L.length ≤ i
theorem Upto.step {ks L L' : List (Addr × κ)} {i : Nat} {x : Addr × κ} (g : Upto ks i L) (h : ks[i]? = some x) (nd : (L'.map (·.2)).Nodup) (c1 : x.2 ∈ L.map (·.2) → L' = L) (c2 : x.2 ∉ L.map (·.2) → L'.Perm (x :: L)) : Upto ks (i + 1) L' := by
 by_cases m : x.2 ∈ L.map (·.2)
 ·obtain rfl := c1 m
  refine ⟨g.sub, fun j p hj e => ?_, nd, Nat.le_succ_of_le g.len⟩
  rcases Nat.lt_or_eq_of_le (Nat.le_of_lt_succ hj) with z | rfl
  ·exact g.all j p z e
  ·rw [h] at e; cases e; exact m
 ·have pm := c2 m
  refine ⟨fun p hp => ?_, fun j p hj e => ?_, nd, ?_⟩
  ·rcases List.mem_cons.mp (pm.mem_iff.mp hp) with rfl | z
   ·exact List.mem_of_getElem? h
   ·exact g.sub p z
  ·rw [(pm.map (·.2)).mem_iff, List.map_cons]
   rcases Nat.lt_or_eq_of_le (Nat.le_of_lt_succ hj) with z | rfl
   ·exact .tail _ (g.all j p z e)
   ·rw [h] at e; cases e; exact .head _
  ·rw [pm.length_eq]; exact Nat.succ_le_succ g.len
abbrev qcA (w : World) : SetTable := .fresh 0 0 (!w.params.followText "set-order")
abbrev xQ (w : World) : Obj := { cls := .type "set", dict := none, data := .set #[] 0 (qcA w) }
theorem StG.empty {h : Heap} {a : Addr} (ho : h.get? a = some (xQ w)) : StG HK h a [] #[] 0 (qcA w) := by
 have tb : Tb (qcA w) (hsh HK ([] : List (Addr × κ))) := ⟨List.Pairwise.nil, rfl, rfl, .inl rfl, fun i h j e => nomatch (show ([] : List Int)[i]? = some h from e)⟩
 refine ⟨⟨_, ho, ⟨rfl, rfl, rfl⟩, rfl⟩, rfl, tb, List.nodup_nil, (fun p hp => nomatch hp), ?_, by show 0 * 5 < 7 * 3; decide, by show 0 < 4096; decide⟩
 show (w.params.followText "set-order" = true ∨ (!w.params.followText "set-order") = true)
 cases w.params.followText "set-order" with
 | true => exact .inl rfl
 | false => exact .inr rfl
theorem StG.keep (M : Mild HK byv) {h h' : Heap} {a : Addr} {L : List (Addr × κ)} {es : Array (Int × Value)} {ep : Nat} {t : SetTable} (R : StG HK h a L es ep t) (ha : ∀ o, h.get? a = some o → h'.get? a = some o) (hm : ∀ p ∈ L, HK.is h' p.2 p.1) : StG HK h' a L es ep t := by
 obtain ⟨o, ho, r⟩ := R.ob
 exact { R with ob := ⟨o, ha o ho, r⟩, mem := hm }
theorem upd_loop (M : Mild HK byv) {I : Addr} {fp wr : List Addr} {G : Array GenState → Array GenState → Prop} {n : Nat} {Pv : Nat → Value → Prop} {St : Nat → Shared → Prop} {R : Result → Shared → Prop}
 (W : WalksS P w A.in1 I fp wr G n Pv St) (S : Addr) (hSf : S ∉ fp) (ks : List (Addr × κ)) (hn : n = ks.length) (few : ks.length < 4096) (hv : ∀ i v, Pv i v → ∃ p, ks[i]? = some p ∧ v = .ref p.1)
 (h0 : Heap) (hk : ∀ p ∈ ks, HK.is h0 p.2 p.1) (free : h0.get? S = none) (wfree : ∀ b ∈ wr, h0.get? b = none) (hu : A.in1.units < cLine) :
 ∀ (k i : Nat) (s : Shared), n - i = k → i ≤ n → St i s → (∀ b o, h0.get? b = some o → s.heap.get? b = some o) → (∃ L es ep t, StG HK s.heap S L es ep t ∧ Upto ks i L) →
  (∀ s' L es ep t, Moved (S :: wr) G s s' → StG HK s'.heap S L es ep t → Upto ks n L → (∀ b o, h0.get? b = some o → s'.heap.get? b = some o) → R (.ok (.ret .none)) s') →
  codeAny (model P w) A (.builtin "set.update.loop" ⟨[.ref S, .ref I], []⟩) R s := by
 have nw : S ∉ wr := fun h => hSf (W.sub _ h)
 have more : ∀ b ∈ wr, b ∈ S :: wr := fun b hb => .tail _ hb
 have still : ∀ {s s' : Shared}, Moved wr G s s' → (∀ b o, h0.get? b = some o → s.heap.get? b = some o) → ∀ b o, h0.get? b = some o → s'.heap.get? b = some o := by
  intro s s' hm kp b o e
  refine hm.heap b o (fun hb => ?_) (kp b o e)
  rw [wfree b hb] at e
  cases e
 intro k
 induction k with
 | zero =>
   intro i s hk' hi hst kp ⟨L, es, ep, t, hS, g⟩ hR
   obtain rfl : i = n := by omega
   refine codeAny_builtin F.entry_set_update_loop ?_
   rw [Around.under_plainId F.plain_set_update_loop _]
   show wpAny _ A.in1 (pyNext (.ref I) >>= _) _ _ s
   refine wpAny_bind (W.done s _ _ hst ?_)
   intro s' hm
   have kp' := still hm kp
   show wpAny _ A.in1 (ret Value.none) _ _ s'
   exact wpAny_pure (hR s' L es ep t (hm.mono more) (hS.keep M (fun o e => hm.heap S o nw e) fun p hp => M.grow (hk p (g.sub p hp)) kp') g kp')
 | succ k ih =>
   intro i s hk' hi hst kp ⟨L, es, ep, t, hS, g⟩ hR
   have lt : i < n := by omega
   refine codeAny_builtin F.entry_set_update_loop ?_
   rw [Around.under_plainId F.plain_set_update_loop _]
   show wpAny _ A.in1 (pyNext (.ref I) >>= _) _ _ s
   refine wpAny_bind (W.item i s _ _ lt hst ?_)
   intro v s' hP hst' hm
   obtain ⟨p, hp, rfl⟩ := hv i v hP
   have kp' := still hm kp
   have hS' : StG HK s'.heap S L es ep t := hS.keep M (fun o e => hm.heap S o nw e) fun q hq => M.grow (hk q (g.sub q hq)) kp'
   have hx : HK.is s'.heap p.2 p.1 := M.grow (hk p (List.mem_of_getElem? hp)) kp'
   show wpAny _ A.in1 (holding [Value.ref p.1] (setAdd S (.ref p.1)) >>= _) _ _ s'
   refine wpAny_bind (wpAny_holding ?_)
   unfold setAdd
   refine wpAny_holding (wpAny_bind (HK.pyHash (M.rm hu) hx ?_))
   refine qfV (s := { s' with toks := s'.toks + HK.draws p.2 }) M hS' hx hu (by have := g.len; omega) ?_
   intro b h' L' es' ep' t' sb hS2 c1 c2
   have g' : Upto ks (i + 1) L' := g.step hp hS2.nd c1 c2
   have kp2 : ∀ b o, h0.get? b = some o → h'.get? b = some o := by
    intro b o e
    rw [sb.2 b (fun z => by rw [z, free] at e; cases e)]
    exact kp' b o e
   refine wpAny_pure ⟨plainId_quiet F.plain_set_update_loop _, ih (i + 1) _ (by omega) lt (W.frame _ s' _ _ hst' (Nat.le_add_right _ _) ?_) kp2 ⟨L', es', ep', t', hS2, g'⟩ ?_⟩
   ·intro b hb o e
    rw [sb.2 b (fun h : b = S => hSf (h ▸ hb))]
    exact e
   ·intro s'' L2 es2 ep2 t2 hm'' hS'' g'' kp''
    refine hR s'' L2 es2 ep2 t2 (Moved.trans W.gtrans ((hm.mono more).then_heap (Nat.le_add_right _ _) ?_) hm'') hS'' g'' kp''
    intro b o hb e
    rw [sb.2 b (fun h : b = S => hb (h ▸ .head _))]
    exact e
set_option maxRecDepth 100000 in
set_option maxHeartbeats 3200000 in
theorem Uo (M : Mild HK byv) {l : Addr} {its : Array Value} (ks : List (Addr × κ)) {Q : Value → Shared → Prop} (hh : A.handled = none) (hl : s.heap.IsList l its) (hit : its.toList = ks.map fun p => Value.ref p.1)
 (hk : ∀ p ∈ ks, HK.is s.heap p.2 p.1) (few : ks.length < 4096) (hu : A.units + 3 < cLine)
 (q : ∀ (h' : Heap) (tk : Nat) L es ep t, StG HK h' s.heap.objs.size L es ep t → Upto ks ks.length L → (∀ b o, s.heap.get? b = some o → h'.get? b = some o) → Q (.ref s.heap.objs.size) { s with heap := h', toks := tk }) :
 wpAny (model P w) A (call (.type "set") [.ref l]) Q E s := by
 have sz : its.size = ks.length := by
  have e := congrArg List.length hit
  simpa using e
 obtain ⟨c, tl, hmro⟩ := F.called_set.mro
 have hmade := F.called_set.made
 have hsub := F.called_set.sub
 refine wpAny_call (codeAny_of_tree ?_)
 show wpAny _ _ (callAny (.type "set") _) _ _ _
 apply wpAny_pure
 refine ⟨Code.quiet_builtin _ (by decide +kernel), codeAny_builtin F.entry_type_call ?_⟩
 rw [Around.under_plain (weight_type_call_type "set" [.ref l] []) rfl]
 have h1 := F.called_set.notType
 have h2 := F.called_set.canCreate
 have hct := F.typeCall_set_1 (.ref l)
 repeat (any_goals (first | assumption | wp_step))
 refine codeAny_mono (code_set_led1 (.ref l) (E := E) (Q₁ := fun o s₁ => o = .ref s.heap.objs.size ∧ s₁ = { s with heap := s.heap.push (xQ w) }) ⟨rfl, rfl⟩) ?_
 intro r s₁ hr
 match r, hr with
 | .error e, hr => exact hr
 | .ok .next, hr => exact hr.elim
 | .ok .brk, hr => exact hr.elim
 | .ok .cont, hr => exact hr.elim
 | .ok (.ret o), hr =>
   obtain ⟨rfl, rfl⟩ := hr
   have at_S : (s.heap.push (xQ w)).get? s.heap.objs.size = some (xQ w) := Heap.get?_push_size _ rfl
   have hT : Shared.TypeIs { s with heap := s.heap.push (xQ w) } (.ref s.heap.objs.size) "set" := ⟨_, at_S, rfl⟩
   have hli := F.called_set.init.lookup
   have hbi := F.called_set.init.bind (.ref s.heap.objs.size)
   repeat (any_goals (first | assumption | wp_step))
   refine codeAny_mono (codeAny_call_builtin (R := wants (fun r s₂ => r = .none ∧ ∃ h' tk L es ep t, s₂ = { s with heap := h', toks := tk } ∧ StG HK h' s.heap.objs.size L es ep t ∧ Upto ks ks.length L ∧ (∀ b o, s.heap.get? b = some o → h'.get? b = some o)) E)
    F.called_set.init.plain F.entry_set_init (check_set_init_1 hT ?init)) ?fin
   case fin =>
    intro r₂ s₂ z
    match r₂, z with
    | .error e, z => exact z
    | .ok .next, z => exact z.elim
    | .ok .brk, z => exact z.elim
    | .ok .cont, z => exact z.elim
    | .ok (.ret r), z =>
      obtain ⟨rfl, h', tk, L, es, ep, t, rfl, z1, z2, z3⟩ := z
      repeat (any_goals (first | assumption | wp_step))
      exact q _ _ _ _ _ _ z1 z2 z3
   case init =>
    have lS : l < s.heap.objs.size := by
     obtain ⟨o, ho, _⟩ := hl
     exact Heap.lt_size ho
    have hlS : (s.heap.push (xQ w)).IsList l its := by
     obtain ⟨o, ho, r⟩ := hl
     exact ⟨o, Heap.get?_push_of_some _ ho, r⟩
    have size1 : (s.heap.push (xQ w)).objs.size = s.heap.objs.size + 1 := Heap.size_push ..
    have nothing : ∀ b, s.heap.objs.size ≤ b → s.heap.get? b = none := by
     intro b hb
     cases e : s.heap.get? b with
     | none => rfl
     | some o => exact absurd (Heap.lt_size e) (Nat.not_lt.mpr hb)
    obtain ⟨ol, hol, hcl, nl, hdl⟩ := id hl
    obtain ⟨ocls, odict, odata, oslots⟩ := ol
    simp only at hcl hdl
    subst hcl; subst hdl
    have hol' : (s.heap.push (xQ w)).get? l = some { cls := .type "list", dict := odict, data := .seq its nl, slots := oslots } := Heap.get?_push_of_some _ hol
    have hs1 := F.sub_list_set
    have hs2 := F.sub_list_frozenset
    have hs3 : (Value.type "list" == Value.type "dict") = false := by decide
    unfold Builtin.«set.__init__» noKeywords Builtin.Frozenset.updateFrom
    generalize hPI : pyIter = PI
    wp_walk
    subst hPI
    refine wpAny_pyIter_list hlS (wpAny_bind (wpAny_runValue ?_))
    have ne1 : l ≠ (s.heap.push (xQ w)).objs.size := by rw [size1]; exact Nat.ne_of_lt (Nat.lt_succ_of_lt lS)
    have ne2 : s.heap.objs.size ∉ [(s.heap.push (xQ w)).objs.size, l] := by
     rw [size1]
     simp only [List.mem_cons, List.not_mem_nil, or_false, not_or]
     exact ⟨Nat.ne_of_lt (Nat.lt_succ_self _), Nat.ne_of_gt lS⟩
    have val : ∀ (i : Nat) (v : Value), its[i]? = some v → ∃ p, ks[i]? = some p ∧ v = .ref p.1 := by
     intro i v e
     rw [← Array.getElem?_toList, hit, List.getElem?_map] at e
     obtain ⟨p, e1, e2⟩ := Option.map_eq_some_iff.mp e
     exact ⟨p, e1, e2.symm⟩
    refine upd_loop M ((Walks.list (show A.in1.in1.in1.handled = none by simp [hh]) _ l ne1 its).toS) s.heap.objs.size ne2 ks sz few val s.heap hk (nothing _ (Nat.le_refl _)) (fun b hb => nothing b ?low) hu
     (its.size - 0) 0 _ (by omega) (Nat.zero_le _) ⟨⟨_, Heap.get?_push_size _ rfl, rfl, rfl⟩, (hlS.push _)⟩ (fun b o e => Heap.get?_push_of_some _ (Heap.get?_push_of_some _ e)) ⟨[], #[], 0, _, StG.empty (Heap.get?_push_of_some _ at_S), ⟨(fun p hp => nomatch hp), fun j p hj _ => absurd hj (Nat.not_lt_zero _), List.nodup_nil, Nat.le_refl _⟩⟩ ?after
    case low =>
     rw [List.mem_singleton.mp hb, size1]
     exact Nat.le_succ _
    case after =>
     intro s' L es ep t hm hS' g' kp
     obtain ⟨h', g2, d', tk', os'⟩ := s'
     obtain rfl : g2 = s.gens := hm.gens
     obtain rfl : d' = s.drawn := hm.drawn
     obtain rfl : os' = s.os := hm.os
     show wpAny _ _ _ _ _ _
     refine wpAny_pure ?_
     show wpAny _ _ (ret Value.none) _ _ _
     rw [sz] at g'
     exact wpAny_pure ⟨rfl, h', tk', L, es, ep, t, rfl, hS', g', kp⟩
end
end BT
namespace BT
open PySem PySem.Spec PyProof.Rows L2
section
variable {P : Program} {w : World} {κ : Type} [DecidableEq κ] {HK : HeapKind P w κ} {byv : κ → Bool}
variable {A : Around} {E : Value → Shared → Prop} {s : Shared}
set_option maxRecDepth 100000 in
set_option maxHeartbeats 3200000 in
theorem XR (M : Mild HK byv) {l : Addr} {its : Array Value} (ks : List (Addr × κ)) {Q : Value → Shared → Prop} (hh : A.handled = none) (hl : s.heap.IsTuple l its) (hit : its.toList = ks.map fun p => Value.ref p.1)
 (hk : ∀ p ∈ ks, HK.is s.heap p.2 p.1) (few : ks.length < 4096) (hu : A.units + 3 < cLine)
 (q : ∀ (h' : Heap) (tk : Nat) L es ep t, StG HK h' s.heap.objs.size L es ep t → Upto ks ks.length L → (∀ b o, s.heap.get? b = some o → h'.get? b = some o) → Q (.ref s.heap.objs.size) { s with heap := h', toks := tk }) :
 wpAny (model P w) A (call (.type "set") [.ref l]) Q E s := by
 have sz : its.size = ks.length := by
  have e := congrArg List.length hit
  simpa using e
 obtain ⟨c, tl, hmro⟩ := F.called_set.mro
 have hmade := F.called_set.made
 have hsub := F.called_set.sub
 refine wpAny_call (codeAny_of_tree ?_)
 show wpAny _ _ (callAny (.type "set") _) _ _ _
 apply wpAny_pure
 refine ⟨Code.quiet_builtin _ (by decide +kernel), codeAny_builtin F.entry_type_call ?_⟩
 rw [Around.under_plain (weight_type_call_type "set" [.ref l] []) rfl]
 have h1 := F.called_set.notType
 have h2 := F.called_set.canCreate
 have hct := F.typeCall_set_1 (.ref l)
 repeat (any_goals (first | assumption | wp_step))
 refine codeAny_mono (code_set_led1 (.ref l) (E := E) (Q₁ := fun o s₁ => o = .ref s.heap.objs.size ∧ s₁ = { s with heap := s.heap.push (xQ w) }) ⟨rfl, rfl⟩) ?_
 intro r s₁ hr
 match r, hr with
 | .error e, hr => exact hr
 | .ok .next, hr => exact hr.elim
 | .ok .brk, hr => exact hr.elim
 | .ok .cont, hr => exact hr.elim
 | .ok (.ret o), hr =>
   obtain ⟨rfl, rfl⟩ := hr
   have at_S : (s.heap.push (xQ w)).get? s.heap.objs.size = some (xQ w) := Heap.get?_push_size _ rfl
   have hT : Shared.TypeIs { s with heap := s.heap.push (xQ w) } (.ref s.heap.objs.size) "set" := ⟨_, at_S, rfl⟩
   have hli := F.called_set.init.lookup
   have hbi := F.called_set.init.bind (.ref s.heap.objs.size)
   repeat (any_goals (first | assumption | wp_step))
   refine codeAny_mono (codeAny_call_builtin (R := wants (fun r s₂ => r = .none ∧ ∃ h' tk L es ep t, s₂ = { s with heap := h', toks := tk } ∧ StG HK h' s.heap.objs.size L es ep t ∧ Upto ks ks.length L ∧ (∀ b o, s.heap.get? b = some o → h'.get? b = some o)) E)
    F.called_set.init.plain F.entry_set_init (check_set_init_1 hT ?init)) ?fin
   case fin =>
    intro r₂ s₂ z
    match r₂, z with
    | .error e, z => exact z
    | .ok .next, z => exact z.elim
    | .ok .brk, z => exact z.elim
    | .ok .cont, z => exact z.elim
    | .ok (.ret r), z =>
      obtain ⟨rfl, h', tk, L, es, ep, t, rfl, z1, z2, z3⟩ := z
      repeat (any_goals (first | assumption | wp_step))
      exact q _ _ _ _ _ _ z1 z2 z3
   case init =>
    have lS : l < s.heap.objs.size := by
     obtain ⟨o, ho, _⟩ := hl
     exact Heap.lt_size ho
    have hlS : (s.heap.push (xQ w)).IsTuple l its := by
     obtain ⟨o, ho, r⟩ := hl
     exact ⟨o, Heap.get?_push_of_some _ ho, r⟩
    have size1 : (s.heap.push (xQ w)).objs.size = s.heap.objs.size + 1 := Heap.size_push ..
    have nothing : ∀ b, s.heap.objs.size ≤ b → s.heap.get? b = none := by
     intro b hb
     cases e : s.heap.get? b with
     | none => rfl
     | some o => exact absurd (Heap.lt_size e) (Nat.not_lt.mpr hb)
    obtain ⟨ol, hol, hcl, nl, hdl⟩ := id hl
    obtain ⟨ocls, odict, odata, oslots⟩ := ol
    simp only at hcl hdl
    subst hcl; subst hdl
    have hol' : (s.heap.push (xQ w)).get? l = some { cls := .type "tuple", dict := odict, data := .seq its nl, slots := oslots } := Heap.get?_push_of_some _ hol
    have hs1 := F.sub_tuple_set
    have hs2 := F.sub_tuple_frozenset
    have hs3 : (Value.type "tuple" == Value.type "dict") = false := by decide
    unfold Builtin.«set.__init__» noKeywords Builtin.Frozenset.updateFrom
    generalize hPI : pyIter = PI
    wp_walk
    subst hPI
    refine wpAny_pyIter_tuple hlS (wpAny_bind (wpAny_runValue ?_))
    have ne1 : l ≠ (s.heap.push (xQ w)).objs.size := by rw [size1]; exact Nat.ne_of_lt (Nat.lt_succ_of_lt lS)
    have ne2 : s.heap.objs.size ∉ [(s.heap.push (xQ w)).objs.size, l] := by
     rw [size1]
     simp only [List.mem_cons, List.not_mem_nil, or_false, not_or]
     exact ⟨Nat.ne_of_lt (Nat.lt_succ_self _), Nat.ne_of_gt lS⟩
    have val : ∀ (i : Nat) (v : Value), its[i]? = some v → ∃ p, ks[i]? = some p ∧ v = .ref p.1 := by
     intro i v e
     rw [← Array.getElem?_toList, hit, List.getElem?_map] at e
     obtain ⟨p, e1, e2⟩ := Option.map_eq_some_iff.mp e
     exact ⟨p, e1, e2.symm⟩
    refine upd_loop M ((Walks.tuple (show A.in1.in1.in1.handled = none by simp [hh]) _ l ne1 its).toS) s.heap.objs.size ne2 ks sz few val s.heap hk (nothing _ (Nat.le_refl _)) (fun b hb => nothing b ?low) hu
     (its.size - 0) 0 _ (by omega) (Nat.zero_le _) ⟨⟨_, Heap.get?_push_size _ rfl, rfl, rfl⟩, (hlS.push _)⟩ (fun b o e => Heap.get?_push_of_some _ (Heap.get?_push_of_some _ e)) ⟨[], #[], 0, _, StG.empty (Heap.get?_push_of_some _ at_S), ⟨(fun p hp => nomatch hp), fun j p hj _ => absurd hj (Nat.not_lt_zero _), List.nodup_nil, Nat.le_refl _⟩⟩ ?after
    case low =>
     rw [List.mem_singleton.mp hb, size1]
     exact Nat.le_succ _
    case after =>
     intro s' L es ep t hm hS' g' kp
     obtain ⟨h', g2, d', tk', os'⟩ := s'
     obtain rfl : g2 = s.gens := hm.gens
     obtain rfl : d' = s.drawn := hm.drawn
     obtain rfl : os' = s.os := hm.os
     show wpAny _ _ _ _ _ _
     refine wpAny_pure ?_
     show wpAny _ _ (ret Value.none) _ _ _
     rw [sz] at g'
     exact wpAny_pure ⟨rfl, h', tk', L, es, ep, t, rfl, hS', g', kp⟩
end
end BT
namespace BX
open PySem PySem.Spec PyProof.Rows L2 BT
def dd {α : Type} [DecidableEq α] : List α → List α
 | [] => []
 | x :: xs => if x ∈ dd xs then dd xs else x :: dd xs
section
variable {α : Type} [DecidableEq α]
theorem ZP {x : α} : ∀ {l : List α}, x ∈ dd l ↔ x ∈ l
 | [] => .rfl
 | y :: l => by
   rw [dd]
   split
   ·rename_i h
    rw [ZP, List.mem_cons]
    exact ⟨.inr, fun z => z.elim (fun e => e ▸ ZP.mp h) id⟩
   ·rw [List.mem_cons, List.mem_cons, ZP]
theorem W6 : ∀ l : List α, (dd l).Nodup
 | [] => List.nodup_nil
 | y :: l => by
   rw [dd]
   split
   ·exact W6 l
   ·rename_i h
    exact List.nodup_cons.mpr ⟨h, W6 l⟩
theorem qcL {l m : List α} (n : m.Nodup) (h : ∀ x, x ∈ m ↔ x ∈ l) : m.Perm (dd l) := (List.perm_ext_iff_of_nodup n (W6 l)).mpr fun x => by rw [h, ZP]
theorem qcM : ∀ l : List α, (dd l).length ≤ l.length
 | [] => Nat.le_refl _
 | y :: l => by
   have := qcM l
   rw [dd]
   split
   ·rw [List.length_cons]; omega
   ·rw [List.length_cons, List.length_cons]; omega
end
abbrev TM (P : Program) (w : World) : HeapKind P w (List Key) := tupleKind (mixKind P w)
def allInts (ks : List Key) : Bool := ks.all Sum.isLeft
section
variable {P : Program} {w : World} {A : Around} {E : Value → Shared → Prop} {s : Shared}
theorem Jd {ks : List Key} {vs : List Value} (h : ItemsAre (mixKind P w) ks vs) : ∀ v ∈ vs, (∃ i t, v = Value.int i t) ∨ ∃ x t, v = Value.str x t := by
 induction h with
 | nil => intro v hv; cases hv
 | cons h1 _ ih =>
   intro v hv
   cases hv with
   | head => rcases keyIs_shape h1 with ⟨i, t, _, e⟩ | ⟨x, t, _, e⟩
             ·exact .inl ⟨i, t, e⟩
             ·exact .inr ⟨x, t, e⟩
   | tail _ hv => exact ih v hv
theorem qdB {ks : List Key} {vs : List Value} (h : ItemsAre (mixKind P w) ks vs) : allInts ks = vs.all fun v => match v with | .int _ _ => true | _ => false := by
 induction h with
 | nil => rfl
 | cons h1 _ ih =>
   unfold allInts at ih ⊢
   rw [List.all_cons, List.all_cons, ih]
   rcases keyIs_shape h1 with ⟨i, t, rfl, rfl⟩ | ⟨x, t, rfl, rfl⟩ <;> rfl
theorem V2 : Mild (TM P w) allInts where
 stay := fun hk ⟨o, its, n, ho, hc, hd, hi⟩ => ⟨o, its, n, hk _ _ _ _ ho hd, hc, hd, hi⟩
 rm := fun h => h
 cls := by
  intro A E s k b Q hk hq
  have hT := IsTupleKey.typeIs hk
  obtain ⟨o, its, n, ho, _, hd, hi⟩ := hk
  unfold ofAClassStatement
  refine wpAny_bind (wpAny_typeOf hT ?_)
  dsimp only
  simp only [show (("tuple" : String) == "tuple") = true by decide, if_true, Bool.not_true, Bool.false_eq_true, if_false]
  try refine wpAny_bind (wpAny_pure ?_)
  try simp only [Bool.not_true, Bool.false_eq_true, if_false]
  show wpAny _ _ (seqItems? (.ref b) >>= _) _ _ s
  refine wpAny_bind (wpAny_seqItems ho hd ?_)
  dsimp only
  apply wpAny_bind
  show wpAny _ _ (forIn its _ _) _ _ s
  rw [← Array.forIn_toList]
  refine wpAny_forIn_list _ (fun rest r s' => r.1 = none ∧ s' = s ∧ ∀ v ∈ rest, (∃ i t, v = Value.int i t) ∨ ∃ x t, v = Value.str x t) _ ?turn ?fin _ _ ⟨rfl, rfl, Jd hi⟩
  case turn =>
   intro v rest r s' z
   obtain ⟨hr, rfl, all⟩ := z
   have more := fun u hu => all u (.tail _ hu)
   have no : ofAClassStatement 7 v = pure false := by
    rcases all v (.head _) with ⟨i, t, rfl⟩ | ⟨x, t, rfl⟩ <;> rfl
   rw [no]
   refine wpAny_bind (wpAny_pure ?_)
   simp only [Bool.false_eq_true, if_false]
   exact wpAny_pure ⟨rfl, rfl, more⟩
  case fin =>
   rintro ⟨r1, r2⟩ s' ⟨hr, rfl, _⟩
   have hr : r1 = none := hr
   subst hr
   exact wpAny_pure hq
 val := by
  intro A E s k b Q hk hq
  have hT := IsTupleKey.typeIs hk
  obtain ⟨o, its, n, ho, _, hd, hi⟩ := hk
  rw [qdB hi] at hq
  unfold hashByValue
  refine wpAny_bind (wpAny_specialOf hT F.slot_tuple_hash.lookup ?_)
  show wpAny _ _ (seqItems? (.ref b) >>= _) _ _ s
  refine wpAny_bind (wpAny_seqItems ho hd ?_)
  apply wpAny_bind
  show wpAny _ _ (forIn its _ _) _ _ s
  rw [← Array.forIn_toList]
  refine wpAny_forIn_list _ (fun rest r s' => r.1 = none ∧ s' = s ∧ (∀ v ∈ rest, (∃ i t, v = Value.int i t) ∨ ∃ x t, v = Value.str x t) ∧
   (its.toList.all fun v => match v with | .int _ _ => true | _ => false) = rest.all fun v => match v with | .int _ _ => true | _ => false) _ ?turn ?fin _ _ ⟨rfl, rfl, Jd hi, rfl⟩
  case turn =>
   intro v rest r s' z
   obtain ⟨hr, rfl, all, e⟩ := z
   rcases all v (.head _) with ⟨i, t, rfl⟩ | ⟨x, t, rfl⟩
   ·have yes : hashByValue 7 (.int i t) = pure true := rfl
    rw [yes]
    refine wpAny_bind (wpAny_pure ?_)
    simp only [Bool.not_true, Bool.false_eq_true, if_false]
    exact wpAny_pure ⟨rfl, rfl, fun u hu => all u (.tail _ hu), e⟩
   ·have no : hashByValue 7 (.str x t) = pure false := rfl
    rw [no]
    refine wpAny_bind (wpAny_pure ?_)
    simp only [Bool.not_false, if_true]
    refine wpAny_pure ?_
    rw [e] at hq
    exact wpAny_pure hq
  case fin =>
   rintro ⟨r1, r2⟩ s' ⟨hr, rfl, _, e⟩
   have hr : r1 = none := hr
   subst hr
   rw [e] at hq
   exact wpAny_pure hq
end
def qdY (P : Program) (w : World) (h : Heap) (a : Addr) (L : List (Addr × List Key)) : Prop :=
 ∃ (es : Array (Int × Value)) (ep : Nat) (t : SetTable), (∃ o, h.get? a = some o ∧ o.ExactSet ∧ o.data = .set es ep t) ∧ es.toList = Q5 (TM P w) L ∧ Tb t (hsh (TM P w) L) ∧ (L.map (·.2)).Nodup ∧
  (w.params.followText "set-order" = true ∨ t.led = true) ∧ L.length * 5 < t.mask * 3 ∧ L.length < 4096
def qdX (P : Program) (w : World) (a : Addr) (L : List (Addr × List Key)) : HO := .ext fun h => qdY P w h a L
theorem qdr {P : Program} {w : World} {H : Hp} {h : Heap} {a : Addr} {L : List (Addr × List Key)} (R : qdY P w h a L) : ObjOk P w H h a (qdX P w a L) := by
 refine ⟨R, ?_, fun h1 h2 p k => ?_⟩
 ·obtain ⟨es, ep, t, ⟨o, ho, _⟩, _⟩ := R
  exact ⟨o, ho⟩
 ·have p : qdY P w h1 a L := p
  obtain ⟨es, ep, t, ⟨o, ho, r⟩, q⟩ := p
  exact ⟨es, ep, t, ⟨o, k o ho, r⟩, q⟩
section
variable {X : Cx} {pins : List (Addr × Obj)} {σ : L2.St} {H : Hp} {s : Shared}
theorem isKey (I : Inv X pins σ H s) {b : Addr} {ks : List Key} (h : SqT X.K H b (ks.map kV)) : (TM X.prog X.w).is s.heap ks b := by
 obtain ⟨its, r, ⟨o, ho, hc, n, hd⟩, _⟩ := I.tuple h
 exact ⟨o, its.toArray, n, ho, hc, hd, by simpa using items_are r⟩
theorem YS : ∀ {ks : List (Addr × List Key)} {us : List Value}, Vals (ks.map fun p => V.ref p.1) us → us = ks.map fun p => Value.ref p.1
 | [], _, .nil => rfl
 | p :: ks, _, .cons r t => by cases r; rw [YS t]; rfl
def rSet (K : PySem.W.Frag) (P : Program) (w : World) : List V → Hp → VK → Prop := fun xs H Q => ∃ (l : Addr) (ks : List (Addr × List Key)), xs = [V.ref l] ∧ (SqL K H l (ks.map fun p => V.ref p.1) ∨ SqT K H l (ks.map fun p => V.ref p.1)) ∧
 (∀ p ∈ ks, SqT K H p.1 (p.2.map kV)) ∧ ks.length < 4096 ∧ ∀ a L, H a = none → Upto ks ks.length L → Q (.ref a) (upd H a (qdX P w a L))
theorem qhr (hx : Ok X) : CallR X (.type "set") (rSet X.K X.prog X.w) := by
 intro pins s σ H xs us Q I r h
 obtain ⟨l, ks, rfl, hl, hk, few, q⟩ := h
 rw [Vals.ref1 r]
 have hu := hx.un
 have hn : H s.heap.objs.size = none := I.hok.fresh (Nat.le_refl _)
 have kk : ∀ p ∈ ks, (TM X.prog X.w).is s.heap p.2 p.1 := fun p hp => isKey I (hk p hp)
 have fin : ∀ (h' : Heap) (tk : Nat) L es ep t, StG (TM X.prog X.w) h' s.heap.objs.size L es ep t → Upto ks ks.length L → (∀ b o, s.heap.get? b = some o → h'.get? b = some o) →
  EP X pins σ Q (.ref s.heap.objs.size) { s with heap := h', toks := tk } := by
  intro h' tk L es ep t R g kp
  exact ⟨.ref s.heap.objs.size, _, I.laid (t' := tk) kp (Nat.le_refl _) (qdr ⟨es, ep, t, R.ob, R.row, R.tab, R.nd, R.led, R.room, R.few⟩), rfl, q _ L hn g⟩
 rcases hl with hl | hl
 ·obtain ⟨its, rv, pl, _⟩ := I.list hl
  exact Uo V2 ks (I.ok.hd hx.calm) pl.isList (by simpa using YS rv) kk few (by omega) fin
 ·obtain ⟨its, rv, pl, _⟩ := I.tuple hl
  obtain ⟨o, ho, hc, n, hd⟩ := pl
  exact XR V2 ks (I.ok.hd hx.calm) ⟨o, ho, hc, n, hd⟩ (by simpa using YS rv) kk few (by omega) fin
end
section
variable {prog : Program} {w : World} {A : Around} {E : Value → Shared → Prop} {s : Shared}
theorem sorted_any {l : Addr} {vs : List Value} {Q : Value → Shared → Prop} (hz : vs.length ≤ sizeLine)
 (hc : ∀ (Q : List Value → Shared → Prop), (∀ s1 out, (∀ b o, s.heap.get? b = some o → s1.heap.get? b = some o) → s.heap.objs.size ≤ s1.heap.objs.size → s1.gens = s.gens → s1.os = s.os → out.Perm vs → Q out s1) → wpAny (model prog w) A.in1 (collect (.ref l)) Q E s)
 (hp : ∀ v ∈ vs, ∃ ns, TS.TupInts s.heap v ns ∧ ns ≠ [])
 (h : ∀ (out : List Value) (s1 : Shared) (h2 : Heap) (n : Nat), out.Perm vs → out.map (TS.intsOf s.heap) = sortI (vs.map (TS.intsOf s.heap)) → (∀ b o, s.heap.get? b = some o → s1.heap.get? b = some o) → s.heap.objs.size ≤ s1.heap.objs.size → s1.gens = s.gens → s1.os = s.os →
  (∀ b o, s1.heap.get? b = some o → h2.get? b = some o) → h2.get? s1.heap.objs.size = some (seqObj "list" out.toArray n) → Q (.ref s1.heap.objs.size) { s1 with heap := h2 }) :
 wpAny (model prog w) A (call (.builtin "sorted") [.ref l]) Q E s := by
 refine Calls.call_function_entry kind_sorted plain_sorted entry_sorted (args_sorted1 _) ?_
 unfold Builtin.«sorted»
 refine wpAny_bind (m := checkCount "sorted" 1 1 _) (wpAny_pure ?_)
 refine wpAny_bind (hc _ fun s1 ws kp up eg eo pw => ?_)
 have hz1 : ws.length ≤ sizeLine := by rw [pw.length_eq]; exact hz
 refine wpAny_bind (wpAny_newList ?_ hz1)
 have at_l : (s1.heap.push (seqObj "list" ws.toArray 0)).get? s1.heap.objs.size = some (seqObj "list" ws.toArray 0) := Heap.get?_push_size _ rfl
 have kp2 : ∀ b o, s.heap.get? b = some o → (s1.heap.push (seqObj "list" ws.toArray 0)).get? b = some o := fun b o e => Heap.get?_push_of_some _ (kp b o e)
 have tup2 : ∀ v ∈ ws, ∃ ns, TS.TupInts (s1.heap.push (seqObj "list" ws.toArray 0)) v ns ∧ ns ≠ [] := fun v hm => let ⟨ns, t, r⟩ := hp v (pw.mem_iff.mp hm); ⟨ns, t.keeps fun b o e _ => kp2 b o e, r⟩
 have same : ∀ v ∈ ws, TS.intsOf (s1.heap.push (seqObj "list" ws.toArray 0)) v = TS.intsOf s.heap v := fun v hm => by
  obtain ⟨ns, t, _⟩ := hp v (pw.mem_iff.mp hm)
  rw [t.ints, (t.keeps fun b o e _ => kp2 b o e).ints]
 refine wpAny_bind (wpAny_holding (wpAny_call_entry slot_list_sort ⟨_, at_l, rfl⟩ entry_list_sort (SrtO.list_sort_ord (s := { s1 with heap := s1.heap.push (seqObj "list" ws.toArray 0) }) (swoW (TS.intsOf (s1.heap.push (seqObj "list" ws.toArray 0)))) at_l hz1 (fun h2 => ?_) fun out hs hb => ⟨_, rfl, ?_⟩) (args_list_sort _)))
 ·refine XN (s := { s1 with heap := s1.heap.push (seqObj "list" ws.toArray 0) }) (by omega) tup2 fun o e => ?_
  have e' : some o = some (seqObj "list" ws.toArray 0) := e.symm.trans at_l
  cases e'
  intro c
  exact absurd (Value.type.inj c) (by decide)
 ·obtain ⟨n, hn⟩ := PyProof.Rows.sortedHeap_at (vs := ws) (out := out.toArray) at_l
  have pm : out.Perm ws := hb.perm
  have hm : out.map (TS.intsOf (s1.heap.push (seqObj "list" ws.toArray 0))) = out.map (TS.intsOf s.heap) := List.map_congr_left fun v hv => same v (pm.mem_iff.mp hv)
  refine wpAny_pure ⟨_, rfl, h out s1 _ n (pm.trans pw) ?_ kp up eg eo (fun b o e => ?_) hn⟩
  ·refine Q4 ?_ ((pm.trans pw).map _)
   rw [← hm, List.pairwise_map]
   exact hs
  ·have hbb : b < s1.heap.objs.size := Heap.lt_size e
   rw [PyProof.Rows.sortedHeap_old (Nat.ne_of_lt hbb) (by rw [size_push']; exact Nat.lt_succ_of_lt hbb)]
   exact Heap.get?_push_of_some _ e
end
section
variable {X : Cx} {pins : List (Addr × Obj)} {σ : L2.St} {H : Hp} {s : Shared}
def jP (ks : List Key) : List Int := ks.filterMap fun k => match k with | .inl i => some i | .inr _ => none
theorem jD (ns : List Int) : jP (ns.map Sum.inl) = ns := by
 induction ns with
 | nil => rfl
 | cons n ns ih => unfold jP at ih ⊢; rw [List.map_cons, List.filterMap_cons]; simp only [ih]
theorem qdR (hx : Ok X) : CallR X (.builtin "sorted") (fun xs H Q => ∃ a L, xs = [V.ref a] ∧ H a = some (qdX X.prog X.w a L) ∧ (∀ p ∈ L, ∃ ns : List Int, p.2 = ns.map Sum.inl ∧ ns ≠ [] ∧ H p.1 = some (.tup (ns.map V.int))) ∧
 ∀ z H' g, Rep X.K H' 0 (.lst ((sortI (L.map fun p => jP p.2)).map tupI)) z g → Ext H H' g → Q z H') := by
 intro pins s σ H xs us Q I r h
 obtain ⟨a, L, rfl, ha, hL, q⟩ := h
 rw [Vals.ref1 r]
 obtain ⟨es, ep, t, ⟨o, ho, ex, hd⟩, row, tab, nd, led, room, few⟩ : qdY X.prog X.w s.heap a L := (I.hok a _ ha).1
 have sz := uO row
 have fits : t.fits es.size = true := by
  have z := tab.sz
  rw [vH] at z
  unfold SetTable.fits SetTable.fill
  rw [tab.dm, Bool.and_eq_true, beq_iff_eq, decide_eq_true_eq]
  refine ⟨by omega, ?_⟩
  show t.place.size + 0 ≤ t.mask
  omega
 have vals : es.toList.map (·.2) = L.map fun p => Value.ref p.1 := by
  rw [row]
  unfold Q5
  rw [List.map_map]
  rfl
 have tup : ∀ p ∈ L, ∃ ns : List Int, p.2 = ns.map Sum.inl ∧ TS.TupInts s.heap (.ref p.1) ns ∧ ns ≠ [] := by
  intro p hp
  obtain ⟨ns, e1, e2, e3⟩ := hL p hp
  exact ⟨ns, e1, tupI_raw I (.of e3), e2⟩
 refine sorted_any (vs := L.map fun p => Value.ref p.1) (by rw [List.length_map, sizeLine_eq]; omega) (fun Q' q' => ?_) (fun v hv => ?_) fun out s1 h2 n pm hs k1 above g1 o1 k2 hn => ?_
 ·refine collect_set (I.ok.hd hx.calm) ⟨o, ho, ex.1, hd⟩ fits (by unfold scanBound; omega) tab.ris led fun s1 out k up g o p => q' s1 out k up g o ?_
  rw [← vals]
  exact p
 ·obtain ⟨p, hp, rfl⟩ := List.mem_map.mp hv
  obtain ⟨ns, _, t2, t3⟩ := tup p hp
  exact ⟨ns, t2, t3⟩
 ·have from' : ∀ v ∈ out, (∃ b, v = Value.ref b) ∧ At H (bkV v) (TS.intsOf s.heap v) := by
   intro v hv
   obtain ⟨p, hp, rfl⟩ := List.mem_map.mp (pm.mem_iff.mp hv)
   obtain ⟨ns, e1, e2, e3⟩ := hL p hp
   have ti := tupI_raw I (.of e3 : SqT X.K H p.1 _)
   exact ⟨⟨_, rfl⟩, p.1, rfl, by rw [ti.ints]; exact e3, by rw [ti.ints]; exact e2⟩
  have whole : (L.map fun p => Value.ref p.1).map (TS.intsOf s.heap) = L.map fun p => jP p.2 := by
   rw [List.map_map]
   refine List.map_congr_left fun p hp => ?_
   obtain ⟨ns, e1, t2, _⟩ := tup p hp
   show TS.intsOf s.heap (.ref p.1) = _
   rw [t2.ints, e1, jD]
  rw [whole] at hs
  have hlen : (out.map bkV).length ≤ sizeLine := by rw [List.length_map, pm.length_eq, List.length_map, sizeLine_eq]; omega
  have kk : ∀ b o, s.heap.get? b = some o → h2.get? b = some o := fun b o e => k2 b o (k1 b o e)
  have hn0 : H s1.heap.objs.size = none := I.hok.fresh above
  have J : Inv X pins σ (upd H s1.heap.objs.size (.lst (out.map bkV))) { s with heap := h2, gens := s1.gens, drawn := s1.drawn, toks := s1.toks } :=
   I.call (ch := []) (Un.laid kk above hn0) (I.hok.laid kk above ⟨hlen, out, n, bkV_vals fun u hu => (from' u hu).1, hn⟩) (by rw [g1]; exact I.bare) (fun _ z => nomatch z)
  have es : ({ s1 with heap := h2 } : Shared) = { s with heap := h2, gens := s1.gens, drawn := s1.drawn, toks := s1.toks } := by
   cases s1
   cases s
   cases o1
   rfl
  rw [es]
  refine ⟨.ref s1.heap.objs.size, _, J, rfl, q _ _ _ (vW hn0 ?_) (Ext.upd hn0)⟩
  rw [← hs, List.map_map]
  exact Y4 fun v hv => (from' v hv).2
end
end BX
namespace BX
open PySem PySem.Spec PyProof.Rows L2 BT
def qbH : D → Option (List (List Int))
 | .lst xs => WD xs
 | .tup xs => WD xs
 | _ => none
def jy (d : D) (k : D → Prop) : Prop := match qbH d with
 | some l => l.length < 4096 ∧ k (.lst ((sortI (dd l)).map tupI))
 | none => False
def W7 (t : XE) : XE := fun env Q => t env fun r e => rd 1 r e fun d => jy d fun d' => Q (.tmp d') e
theorem Xu {d : D} {k k' : D → Prop} (h : ∀ d, k d → k' d) (q : jy d k) : jy d k' := by
 unfold jy at q ⊢
 split at q
 ·exact ⟨q.1, h _ q.2⟩
 ·exact q.elim
section
variable {K : PySem.W.Frag} {H : Hp} {lv : Nat}
theorem qfT : ∀ {xs : List V} {l : List (List Int)}, Paired (At H) xs l → ∃ ks : List (Addr × List Key), xs = (ks.map fun p => V.ref p.1) ∧ ks.map (·.2) = l.map (·.map Sum.inl) ∧
 ∀ p ∈ ks, ∃ ns : List Int, p.2 = ns.map Sum.inl ∧ ns ≠ [] ∧ H p.1 = some (.tup (ns.map V.int))
 | _, _, .nil => ⟨[], rfl, rfl, fun p hp => nomatch hp⟩
 | _, _, .cons (b := ns) ⟨b, e, hb, hn⟩ t => by
   obtain ⟨ks, rfl, h2, h3⟩ := qfT t
   refine ⟨(b, ns.map Sum.inl) :: ks, by rw [e]; rfl, by rw [List.map_cons, List.map_cons, h2], fun p hp => ?_⟩
   rcases List.mem_cons.mp hp with rfl | hp
   ·exact ⟨ns, rfl, hn, hb⟩
   ·exact h3 p hp
theorem qg7 (ns : List Int) : (ns.map Sum.inl : List Key).map kV = ns.map V.int := by rw [List.map_map]; rfl
theorem qds {X : Cx} {d : D} {v : V} {f : List Addr} {l : List (List Int)} (hl : lv ≤ 1) (r : Rep X.K H lv d v f) (e : qbH d = some l) : ∃ (a : Addr) (ks : List (Addr × List Key)), v = .ref a ∧ (SqL X.K H a (ks.map fun p => V.ref p.1) ∨ SqT X.K H a (ks.map fun p => V.ref p.1)) ∧
 ks.map (·.2) = l.map (·.map Sum.inl) ∧ ∀ p ∈ ks, ∃ ns : List Int, p.2 = ns.map Sum.inl ∧ ns ≠ [] ∧ H p.1 = some (.tup (ns.map V.int)) := by
 cases d with
 | lst xs =>
   obtain ⟨a, vs, g', rfl, hs, rr, _, _⟩ := r.listSq
   obtain ⟨ks, rfl, h2, h3⟩ := qfT (QD hl rr e)
   exact ⟨a, ks, rfl, .inl hs, h2, h3⟩
 | tup xs =>
   obtain ⟨a, vs, rfl, hs, rr⟩ := r.tupleSq
   obtain ⟨ks, rfl, h2, h3⟩ := qfT (QD hl rr e)
   exact ⟨a, ks, rfl, .inr hs, h2, h3⟩
 | _ => simp [qbH] at e
theorem qby {ks L : List (Addr × List Key)} (u : Upto ks ks.length L) : (L.map (·.2)).Perm (dd (ks.map (·.2))) := by
 refine qcL u.nd fun k => ⟨fun h => ?_, fun h => ?_⟩
 ·obtain ⟨p, hp, rfl⟩ := List.mem_map.mp h
  exact List.mem_map.mpr ⟨p, u.sub p hp, rfl⟩
 ·obtain ⟨p, hp, rfl⟩ := List.mem_map.mp h
  obtain ⟨j, hj⟩ := List.getElem?_of_mem hp
  exact u.all j p (List.getElem?_eq_some_iff.mp hj).1 hj
theorem YL {l m : List (List Int)} (h : l.Perm m) : sortI l = sortI m := Q4 (XQ l) ((sortI_perm l).trans h)
theorem qbz {ks L : List (Addr × List Key)} {l : List (List Int)} (u : Upto ks ks.length L) (e : ks.map (·.2) = l.map (·.map Sum.inl)) (hL : ∀ p ∈ ks, ∃ ns : List Int, p.2 = ns.map Sum.inl) :
 (L.map fun p => jP p.2).Perm (dd l) := by
 have inj : (L.map fun p => jP p.2).map (·.map (Sum.inl : Int → Key)) = L.map (·.2) := by
  rw [List.map_map]
  refine List.map_congr_left fun p hp => ?_
  obtain ⟨ns, e⟩ := hL p (u.sub p hp)
  show (jP p.2).map Sum.inl = p.2
  rw [e, jD]
 have nd : (L.map fun p => jP p.2).Nodup := by
  have := u.nd
  rw [← inj] at this
  exact nodup_of_map this
 refine qcL nd fun ns => ?_
 have m1 : ns ∈ (L.map fun p => jP p.2) ↔ ns.map (Sum.inl : Int → Key) ∈ L.map (·.2) := by
  rw [← inj, List.mem_map (f := fun x : List Int => x.map (Sum.inl : Int → Key))]
  refine ⟨fun h => ⟨ns, h, rfl⟩, fun ⟨ms, h, e⟩ => ?_⟩
  have e2 := congrArg jP e
  rw [jD, jD] at e2
  rwa [← e2]
 rw [m1, (qby u).mem_iff, ZP, e, List.mem_map]
 refine ⟨fun ⟨ms, h, e⟩ => ?_, fun h => ⟨ns, h, rfl⟩⟩
 have e2 := congrArg jP e
 rw [jD, jD] at e2
 rwa [← e2]
end
section
variable {X : Cx} {e : Expr} {t : XE} {p p2 q pos : Pos}
theorem Ys (hx : Ok X) (he : DE X e t) (m1 : X.mg "sorted" = none) (m2 : X.mg "set" = none) (g1 : Gl X "sorted" := by rfl) (g2 : Gl X "set" := by rfl)
 (n1 : starEach [e] X.env = (false, eval e X.env) :: starEach [] X.env := by rfl) (n2 : starEach [Expr.Call (.Name "set" p2) [e] [] q] X.env = (false, eval (.Call (.Name "set" p2) [e] [] q) X.env) :: starEach [] X.env := by rfl)
 (b2 : bootBuiltins "set" = some (.type "set") := by decide +kernel) (b1 : bootBuiltins "sorted" = some (.builtin "sorted") := by decide +kernel) : DE X (.Call (.Name "sorted" p) [.Call (.Name "set" p2) [e] [] q] [] pos) (W7 t) := by
 refine ⟨PE.imp (pe_callB (qdR hx) g1 m1 b1 (pa_cons (pe_callTy (qhr hx) g2 m2 b2 (pa_cons he.run pa_nil n1) (by decide) (by decide) n1) pa_nil n2) (by decide) (by decide) n2) fun σ H Q q => ?_,
  fun env Q Q' h q => he.mono _ _ _ (fun r e q => qO (fun d q => Xu (fun d q => h _ _ q) q) q) q⟩
 obtain ⟨env, f, A, q⟩ := q
 refine ⟨env, f, A, he.mono _ _ _ (fun r e1 q => ?_) q⟩
 intro x H1 f1 g1 A1 R1 S1 K1
 obtain ⟨d, g', rp, q⟩ := yO A1 R1 q
 unfold jy at q
 split at q
 ·rename_i l e
  obtain ⟨a, ks, rfl, hs, h2, h3⟩ := qds (X := X) (Nat.le_refl 1) rp e
  have hl : ks.length = l.length := by
   have := congrArg List.length h2
   simpa using this
  have sq : ∀ p ∈ ks, SqT X.K H1 p.1 (p.2.map kV) := fun p hp => by
   obtain ⟨ns, e1, _, e3⟩ := h3 p hp
   rw [e1, qg7]
   exact .of e3
  refine ⟨a, ks, rfl, hs, sq, by rw [hl]; exact q.1, fun S L hf up => ⟨S, L, rfl, upd_same, fun p hp => ?_, fun z H' g rz ex => ?_⟩⟩
  ·obtain ⟨ns, e1, e2, e3⟩ := h3 p (up.sub p hp)
   refine ⟨ns, e1, e2, ?_⟩
   rw [upd_ne (fun z => by rw [z, hf] at e3; cases e3)]
   exact e3
  ·have ex1 : Ext H1 (L2.upd H1 S (qdX X.prog X.w S L)) [] := .updT hf
   have ex2 : Ext H1 H' g := ⟨fun b o h => ex.same b o (ex1.same b o h), fun b hb => by
    have := ex.new b hb
    by_cases z : b = S
    ·rw [z]; exact hf
    ·rwa [upd_ne z] at this⟩
   rw [YL (qbz up h2 fun p hp => let ⟨ns, e, _⟩ := h3 p hp; ⟨ns, e⟩)] at rz
   obtain ⟨A3, R3, S3⟩ := vI A1 S1 ex2 rz
   exact q.2 _ _ f1 g A3 R3 S3 K1
 ·exact q.elim
end
end BX
namespace BX
open PySem PySem.Spec PyProof.Rows L2
structure Sw (n k : Nat) (d : D) : Prop where
 nd : d.ndc = true
 sh : d.pd.showable = true
 dp : d.pd.depth ≤ k
 lv : d.pd.leavesShort 13 = true
 bk : d.pd.bulk ≤ n
 ok : ∀ c ∈ d.pd.shown.cps.toList, c < 1114112
theorem Sw.up {n k n' k' : Nat} {d : D} (h : Sw n k d) (a : n ≤ n') (b : k ≤ k') : Sw n' k' d := ⟨h.nd, h.sh, Nat.le_trans h.dp b, h.lv, Nat.le_trans h.bk a, h.ok⟩
theorem qbW : ∀ ds : List D, (pdL ds).length = ds.length
 | [] => by rw [pdL]; rfl
 | d :: ds => by rw [pdL, List.length_cons, List.length_cons, qbW ds]
theorem Sw.go {n k : Nat} {d : D} (h : Sw n k d) (hn : n ≤ 1000000) (hk : k ≤ 90) : ShOk d ∧ PyData.strOk (strD d) = true := by
 refine ⟨⟨h.nd, h.sh, Nat.le_trans h.dp hk, ?_⟩, ?_⟩
 ·have a := PyData.shown_le_bulk 13 (by decide) d.pd h.lv
  have b := h.bk
  rw [sizeLine_eq]
  omega
 ·unfold PyData.strOk strD
  rw [← Array.all_toList, List.all_eq_true]
  intro c hc
  exact decide_eq_true (h.ok c hc)
end BX
namespace TX
open PySem PySem.Spec PyProof.Rows L2 BX
section
variable {α : Type} [DecidableEq α] {f : α → D} {l : List α} {e : En} {r : R} {Q : R → En → Prop}
theorem qex {β : Type} [DecidableEq β] {g : α → β} (inj : ∀ a b, g a = g b → a = b) : ∀ l : List α, BX.dd (l.map g) = (BX.dd l).map g
 | [] => rfl
 | x :: l => by
   rw [List.map_cons, BX.dd, BX.dd, qex inj l]
   have m : g x ∈ (BX.dd l).map g ↔ x ∈ BX.dd l := by
    rw [List.mem_map]
    exact ⟨fun ⟨y, hy, e⟩ => inj _ _ e ▸ hy, fun h => ⟨x, h, rfl⟩⟩
   by_cases h : x ∈ BX.dd l
   ·rw [if_pos h, if_pos (m.mpr h)]
   ·rw [if_neg h, if_neg fun z => h (m.mp z), List.map_cons]
theorem JB {t : XE} (q : t e fun r e => rd 1 r e fun d => jy d fun d' => aR Q (.tmp d') e) : W7 t e Q := q
class Inj {α : Type} (tl : α → List Int) : Prop where
 inj : ∀ a b, tl a = tl b → a = b
instance : Inj tl2 := ⟨fun a b h => by simp only [tl2, List.cons.injEq, and_true] at h; exact Prod.ext h.1 h.2⟩
instance : Inj tl3 := ⟨fun a b h => by simp only [tl3, List.cons.injEq, and_true] at h; exact Prod.ext h.1 (Prod.ext h.2.1 h.2.2)⟩
instance : Inj tl4 := ⟨fun a b h => by simp only [tl4, List.cons.injEq, and_true] at h; exact Prod.ext h.1 (Prod.ext h.2.1 (Prod.ext h.2.2.1 h.2.2.2))⟩
theorem qaR {tl : α → List Int} [h : Ints f tl] [hi : Inj tl] {d : D} (hd : qbH d = some (l.map tl)) (hr : Rv e 1 r d) (few : l.length < 4096) (q : aR Q (.tmp (eL f (srt tl (BX.dd l)))) e) :
 rd 1 r e fun d => jy d fun d' => aR Q (.tmp d') e := by
 refine hr.rd ?_
 unfold jy
 simp only [hd]
 refine ⟨by rw [List.length_map]; exact few, ?_⟩
 rw [qex hi.inj, sort_map (f := f)]
 exact q
theorem Yo {tl : α → List Int} [h : Ints f tl] [hi : Inj tl] (hr : Rv e 1 r (eL f l)) (few : l.length < 4096) (q : aR Q (.tmp (eL f (srt tl (BX.dd l)))) e) :
 rd 1 r e fun d => jy d fun d' => aR Q (.tmp d') e := qaR (f := f) (d := eL f l) (show qbH (.lst (l.map f)) = _ from Jh l) hr few q
end
end TX
namespace BX
open PySem PySem.Spec PyProof.Rows L2 RT L2.DX
def qgD : V → List V → Hp → VK → Prop := fun x xs H Q => ∃ (a : Addr) (kvs : List (List L2.Key × V)) (k : List L2.Key) (b : Addr) (v : V), x = .ref a ∧ xs = [.ref b] ∧ H a = some (.dT kvs) ∧ H b = some (.tup (k.map kV)) ∧
 valV kvs k = some v ∧ Q v (L2.upd H a (.dT (dropK kvs k)))
section
variable {X : Cx}
theorem qfj (hu : X.A.units + 1 < cLine) : MtR X "dict.pop" qgD := by
 intro pins s σ H x xs v us Q I rx rxs h
 obtain ⟨a, kvs, k, b, v0, rfl, rfl, ha, hb, ev, q⟩ := h
 cases rx
 obtain ⟨u1, rfl, r1⟩ := vals1 rxs
 cases r1
 obtain ⟨z, hd, xs', rel, dd⟩ := dt_of I.hok ha
 have hz : xs'.length ≤ sizeLine := by rw [← Paired.length rel]; exact z
 have r := rel.val k
 rw [ev] at r
 cases hp : atKey xs' k with
 | none => rw [hp] at r; exact (show False from r).elim
 | some p =>
   rw [hp] at r
   refine call_pop_heap (knd := tupleKind (mixKind X.prog X.w)) (more := []) (.inl rfl) (PySem.F.args_dict_pop_2 _ _) (tupleKind_room_in1 hu) (key_of I.hok hb) hd dd hp (fun h' dd' hs => ?_) hz
   obtain ⟨o, es, ep, hq, h2, h3, h4, _, h5⟩ := dd'
   refine ⟨v0, _, d_write (ob := .dT (dropK kvs k)) I (by rw [ha]; exact True.intro) hs ⟨o, hq⟩ ⟨Nat.le_trans (dropK_le kvs k) z, hd, _, (KT_drop k rel).keeps (fun c ys ec => ?_), o, es, ep, hq, h2, h3, h4, h5⟩, r, q⟩
   rw [upd_ne (ne_of ec ha (fun z => nomatch z))]
   exact ec
def qc2 : Bn := fun r1 rs e Q => match rs with
 | [r2] => rd 1 r2 e fun d2 => match d2 with
   | .tup ds => match xJ ds with
     | some ks => chgT r1 e fun i kvs m => immL (kvs.map (·.2)) = true ∧ match Qz kvs ks with
       | some d => Q (.tmp d) (e.set i (some (.dT (Yc kvs ks), m)))
       | none => False
     | none => False
   | _ => False
 | _ => False
theorem qg3 : MnOk X "dict" D.isDic qgD qc2 where
 ty := qd2
 mono := fun r1 rs e Q Q' h q => by
  unfold qc2 at q ⊢
  split at q
  ·refine qO (fun d2 q => ?_) q
   split at q
   ·split at q
    ·rename_i ks hk
     first
      | simp only [hk]
      | skip
     refine ZZ (fun i d m q => ⟨q.1, ?_⟩) q
     have q2 := q.2
     split at q2
     ·rename_i d hl
      first
       | (simp only [hl]; exact h _ _ q2)
       | exact h _ _ q2
     ·exact q2.elim
    ·exact q.elim
   ·exact q.elim
  ·exact q.elim
 run := fun σ H e f r1 rs x ys g1 gs QQ Q A R1 R2 n q k => by
  unfold qc2 at q
  split at q
  ·cases R2 with
   | cons R2 Rt _ =>
     cases Rt
     obtain ⟨d2, g2', p2, q⟩ := yO A R2 q
     split at q
     ·split at q
      ·rename_i ds ks hk
       obtain ⟨b, vs, rfl, hb, rb⟩ := p2.tupleAt (Nat.le_refl _)
       rw [rb.xJ hk] at hb
       obtain ⟨i, kvs, m, a, hs, fp, rfl, e0, hm, hl, hv, hH, ek, nd, rk, hf, nfp, rfl, him, q⟩ := qcV A R1 q
       obtain ⟨rfl, rk⟩ := rk.imm (Nat.zero_le _) him
       obtain ⟨h1, h2⟩ := Xj (k := ks) ek rk
       have nd2 : ((Yc kvs ks).map (·.1)).Nodup := nd.sublist ((List.filter_sublist).map _)
       split at q
       ·rename_i d el
        obtain ⟨j, z, e1, e2, e3⟩ := jg ek el
        obtain ⟨A3, S3, K3, _⟩ := qal (G := []) (G' := []) A e0 hm hl hv hH rfl hf nfp h1 nd2 h2 (fun b hb => by simp at hb) (fun b hb => by simp at hb) qm
        rw [← qag] at A3 S3
        have rv : Rep X.K H 0 d z [] := rk.nilAt rfl j d z e1 e2
        refine ⟨a, hs, ks, b, z, rfl, rfl, hH, hb, e3, k _ _ _ _ _ [] A3 (.tmp (rv.keep fun b o hb q => ?_) qm) (S3.more fun b hb => by simp at hb) K3 q⟩
        rcases q with q | q
        ·simp at q
        ·have : b ≠ a := fun z => by subst z; rw [hH] at hb; cases hb; cases q
         rw [upd_ne this]; exact hb
       ·exact q.elim
      ·exact q.elim
     ·exact q.elim
  ·exact q.elim
variable {o e : Expr} {es : List Expr} {ta te : XE} {u : XA} {cpos apos : Pos}
end
end BX
namespace BX
open PySem PySem.Spec PyProof.Rows L2 RT L2.DX
end BX
namespace TX
open PySem PySem.Spec PyProof.Rows L2 BX
section
variable {e e' : En} {r r1 r2 : R} {Q : R → En → Prop} {kI : List D → Option Bool → Lok → En → Prop} {i : Nat} {α κ : Type} {c : κ → D} {kf : κ → List Key} [hk : Kt c kf] {f : α → D} {l : List (κ × α)}
theorem qgW [DecidableEq κ] [hf : Im f] {k : κ} {v : α} {m : Md} {P : List (κ × α) → Prop} (ee : List (κ × α) → En) (h : lt (delA k l) P) (hv : getA l k = some v) (h2 : Rv e 1 r2 (c k)) (h0 : e[i]? = some (some (eDT kf f l, m)))
 (he : ∀ x, e.set i (some (eDT kf f x, m)) = ee x) (q : ∀ x, P x → aR Q (.tmp (f v)) (ee x)) (hm : m = .own ∨ m = .io := by decide) : qc2 (.sl i) [r2] e Q := by
 have q := q _ h
 rw [← he] at q
 refine h2.rd ?_
 obtain ⟨ds, e1, e2⟩ := hk.key k
 rw [e1]
 unfold eDT at h0 q
 rw [← qah (c := c)] at q
 simp only [e2]
 unfold chgT chg
 have el : Qz (l.map fun p => (kf p.1, f p.2)) (kf k) = some (f v) := by
  rw [V3 (c := c), hv]; rfl
 rcases hm with rfl | rfl <;> (simp only [h0, el]; exact ⟨Xd l, q⟩)
end
end TX
namespace BX
open PySem PySem.Spec PyProof.Rows L2
def GR (K : PySem.W.Frag) (d : D) (u : Value) : Prop := ∃ v : V, RelV v u ∧ ∀ H, Rep K H 2 d v []
def GRs (K : PySem.W.Frag) (ds : List D) (us : List Value) : Prop := ∃ vs : List V, Vals vs us ∧ ∀ H, Reps K H 2 ds vs []
theorem Jk {K : PySem.W.Frag} (i : Str) (t : Tok) : GR K (.str i) (.str i t) := ⟨.str i, ⟨_, rfl⟩, fun _ => .str i⟩
theorem qfu {K : PySem.W.Frag} : GRs K [] [] := ⟨[], .nil, fun _ => .nil⟩
theorem QG {K : PySem.W.Frag} {d : D} {u : Value} {ds : List D} {us : List Value} (h : GR K d u) (t : GRs K ds us) : GRs K (d :: ds) (u :: us) := by
 obtain ⟨v, r, p⟩ := h
 obtain ⟨vs, rs, ps⟩ := t
 exact ⟨v :: vs, .cons r rs, fun H => .cons (f := []) (g := []) (p H) (ps H) fun z => by cases z⟩
theorem qhb {K : PySem.W.Frag} {a : Addr} {o : Obj} {its : Array Value} {n : Nat} {ds : List D} (l : K.lookup a = some o) (c : o.cls = .type "tuple") (e : o.data = .seq its n) (z : its.size ≤ sizeLine) (t : GRs K ds its.toList) : GR K (.tup ds) (.ref a) := by
 obtain ⟨vs, rs, ps⟩ := t
 exact ⟨.ref a, rfl, fun H => .tupK (Nat.le_refl _) ⟨o, its, n, l, c, e, z, rs⟩ (ps H)⟩
def Gv (K : PySem.W.Frag) (mg : Str → Option Value) (x : Str) (d : D) : Prop := ∃ u, mg x = some u ∧ GR K d u
theorem qfJ {X : Cx} {x : Str} {pos : Pos} {d : D} (hg : Gl X x) (h : Gv X.K X.mg x d) (hd : (x == ("__debug__" : Str)) = false := by decide) : DE X (.Name x pos) (dG d) := by
 obtain ⟨u, hm, v, rv, rp⟩ := h
 refine ⟨PE.imp (pe_glob hg hm rv hd) fun σ H Q q => ?_, fun env Q Q' h q => h _ _ q⟩
 obtain ⟨env, f, A, q⟩ := q
 have rp := rp H
 show Q v H
 have q : qa9 X.K σ H env f Q (mkRo true d) env := q
 cases d with
 | non => exact q v H f _ A (.tmp rp.non0 qm) .refl .refl
 | bl b => exact q v H f _ A (.tmp rp.bl0 qm) .refl .refl
 | int b => exact q v H f _ A (.tmp rp.int0 qm) .refl .refl
 | str b => exact q v H f _ A (.tmp rp.str0 qm) .refl .refl
 | tup ds => exact q v H f _ A (.ro rp qm) .refl .refl
 | lst ds => exact q v H f _ A (.ro rp qm) .refl .refl
 | dT ds => exact q v H f _ A (.ro rp qm) .refl .refl
 | dK ds => exact q v H f _ A (.ro rp qm) .refl .refl
 | dF ds => exact q v H f _ A (.ro rp qm) .refl .refl
 | lF ds => exact q v H f _ A (.ro rp qm) .refl .refl
 | ob n fs => exact q v H f _ A (.ro rp qm) .refl .refl
 | ex n fs => exact q v H f _ A (.ro rp qm) .refl .refl
 | dN kvs => exact q v H f _ A (.ro rp qm) .refl .refl
end BX
namespace BX
open PySem PySem.Spec PyProof.Rows L2 RT
end BX
namespace BX
open PySem PySem.Spec PyProof.Rows L2 RT PySem.W
end BX
namespace TX
open PySem PySem.Spec PyProof.Rows L2 BX
theorem c_GV {α : Type} {f : α → D} {xs : List α} {e : En} {Q : R → En → Prop} (q : aR Q (.ro true (eV f xs)) e) : dG (eV f xs) e Q := q
end TX
namespace BX
open PySem TX
def qf0 : Str := Str.ofString "across"
def qc7 : List Str := [Str.ofString "none", Str.ofString "outer", Str.ofString "", Str.ofString "inner", Str.ofString "within"]
abbrev Vg : D := eV D.str qc7
end BX
namespace BX
open PySem PySem.Spec PyProof.Rows L2
def dTmp (t : XE) : XE := fun env Q => t env fun r e => rd 1 r e fun d => d.imm = true ∧ Q (.tmp d) e
section
variable {X : Cx} {e : Expr} {t : XE}
theorem yH (h : DE X e t) : DE X e (dTmp t) := by
 refine ⟨PE.imp h.run fun σ H Q q => ?_, fun env Q Q' k q => h.mono _ _ _ (fun r e q => qO (fun d q => ⟨q.1, k _ _ q.2⟩) q) q⟩
 obtain ⟨env, f, A, q⟩ := q
 refine ⟨env, f, A, h.mono _ _ _ (fun r e1 q1 => ?_) q⟩
 intro v H' f' g A' R S Kk
 obtain ⟨d, g', rp, im, q2⟩ := yO A' R q1
 exact q2 v H' f' [] A' (.tmp (rp.imm (Nat.le_refl _) im).2 qm) (S.drop qm) Kk
end
end BX
namespace TX
open PySem PySem.Spec PyProof.Rows L2 BX
section
variable {e : En} {Q : R → En → Prop} {kI : List D → Option Bool → Lok → En → Prop}
theorem jU {t : XE} (q : t e fun r e => rd 1 r e fun d => d.imm = true ∧ aR Q (.tmp d) e) : dTmp t e Q := q
theorem jM {r : R} {d : D} (hr : Rv e 1 r d) (hi : d.imm = true) (q : aR Q (.tmp d) e) : rd 1 r e fun d => d.imm = true ∧ aR Q (.tmp d) e := hr.rd ⟨hi, q⟩
end
end TX
namespace BX
open PySem PySem.Spec PyProof.Rows L2 RT PySem.W
end BX
namespace BT
open PySem PySem.Spec PyProof.Rows L2
end BT
namespace BX
open PySem PySem.Spec PyProof.Rows L2 RT BT
end BX
namespace BX
open PySem PySem.Spec PyProof.Rows L2 RT
def RgO (a : Addr) (n : Int) : HO := .ext fun h => ∃ t u v, IsRange h a 0 n 1 t u v
theorem qgA {P : Program} {w : World} {H : Hp} {h : Heap} {a : Addr} {n : Int} (R : ∃ t u v, IsRange h a 0 n 1 t u v) : ObjOk P w H h a (RgO a n) := by
 refine ⟨R, ?_, fun h1 h2 p k => ?_⟩
 ·obtain ⟨t, u, v, R⟩ := R
  exact ⟨_, R⟩
 ·obtain ⟨t, u, v, R⟩ := (show ∃ t u v, IsRange h1 a 0 n 1 t u v from p)
  exact ⟨t, u, v, k _ R⟩
def upN (n : Int) : List Int := (List.range n.toNat).map fun k : Nat => (k : Int)
section
variable {X : Cx}
theorem qhs : CallR X (.type "range") (fun xs H Q => ∃ n, xs = [V.int n] ∧ ∀ a, H a = none → Q (.ref a) (upd H a (RgO a n))) := by
 intro pins s σ H xs us Q I r h
 obtain ⟨n, rfl, q⟩ := h
 cases r with
 | cons r1 r2 =>
   cases r2
   obtain ⟨t, rfl⟩ := r1
   refine call_range_1 ?_
   exact ⟨.ref s.heap.objs.size, _, I.laid (fun b o e => Heap.get?_push_of_some _ e) (Nat.le_refl _) (qgA ⟨_, _, _, IsRange.new ..⟩), rfl, q _ (I.hok.fresh (Nat.le_refl _))⟩
theorem qcT (hx : Ok X) : CallR X (.type "list") (fun xs H Q => ∃ a n, xs = [V.ref a] ∧ H a = some (RgO a n) ∧ 0 ≤ n ∧ n ≤ 2 ^ 24 ∧ ∀ p, H p = none → Q (.ref p) (upd H p (.lst ((upN n).map V.int)))) := by
 intro pins s σ H xs us Q I r h
 obtain ⟨a, n, rfl, ha, h0, h1, q⟩ := h
 rw [Vals.ref1 r]
 obtain ⟨t, u, v, R⟩ : ∃ t u v, IsRange s.heap a 0 n 1 t u v := (I.hok a _ ha).1
 refine call_list_range (n := n.toNat) (I.ok.hd hx.calm) R (small_one (by omega) (by omega) (by omega) (by omega)) (by rw [rangeSize_one]; split <;> omega) (by omega) fun h' tk acc' c' kp at_l it => ?_
 have vals : Vals ((upN n).map V.int) acc'.toList := by
  have sz : acc'.size = n.toNat := it.1
  have key : ∀ (m : Nat) (us : List Value), us.length = m → (∀ i v, us[i]? = some v → ∃ t, v = Value.int (i : Nat) t) → Vals ((List.range m).map fun k : Nat => V.int (k : Int)) us := by
   intro m
   induction m with
   | zero =>
     intro us hl _
     cases us with
     | nil => exact .nil
     | cons => cases hl
   | succ m ih =>
     intro us hl hv
     have hne : us ≠ [] := fun z => by subst z; cases hl
     have e := List.dropLast_concat_getLast hne
     rw [List.range_succ, List.map_append, ← e]
     refine Vals.append (ih _ (by rw [List.length_dropLast]; omega) fun i v hi => hv i v ?_) (.cons ?_ .nil)
     ·rw [List.getElem?_dropLast] at hi
      split at hi
      ·exact hi
      ·cases hi
     ·obtain ⟨t, ht⟩ := hv m (us.getLast hne) (by rw [List.getLast_eq_getElem, List.getElem?_eq_getElem (by omega)]; congr 2; omega)
      exact ⟨t, ht⟩
  unfold upN
  rw [List.map_map]
  refine key _ _ (by rw [Array.length_toList, sz]) fun i v e => ?_
  rw [Array.getElem?_toList] at e
  obtain ⟨t, ht⟩ := it.2 i v e
  exact ⟨t, by rw [ht]; congr 1; omega⟩
 refine ⟨.ref s.heap.objs.size, upd H s.heap.objs.size (.lst ((upN n).map V.int)), I.laid (t' := tk) kp (Nat.le_refl _) ⟨?_, acc'.toList, c', vals, ?_⟩, rfl, q _ (I.hok.fresh (Nat.le_refl _))⟩
 ·unfold upN
  rw [List.length_map, List.length_map, List.length_range, sizeLine_eq]
  omega
 ·simpa [seqObj] using at_l
end
def qcQ (t : XE) : XE := fun env Q => t env fun r e => rd 2 r e fun d => match d with
 | .int n => (0 ≤ n ∧ n ≤ 2 ^ 24) ∧ Q (.tmp (.lst ((upN n).map .int))) e
 | _ => False
section
variable {X : Cx} {e : Expr} {t : XE} {p p2 q pos : Pos}
theorem qdP (hx : Ok X) (he : DE X e t) (m1 : X.mg "list" = none) (m2 : X.mg "range" = none) (g1 : Gl X "list" := by rfl) (g2 : Gl X "range" := by rfl)
 (n1 : starEach [e] X.env = (false, eval e X.env) :: starEach [] X.env := by rfl) (n2 : starEach [Expr.Call (.Name "range" p2) [e] [] q] X.env = (false, eval (.Call (.Name "range" p2) [e] [] q) X.env) :: starEach [] X.env := by rfl)
 (b2 : bootBuiltins "range" = some (.type "range") := by decide +kernel) (b1 : bootBuiltins "list" = some (.type "list") := by decide +kernel) : DE X (.Call (.Name "list" p) [.Call (.Name "range" p2) [e] [] q] [] pos) (qcQ t) := by
 refine ⟨PE.imp (pe_callTy (qcT hx) g1 m1 b1 (pa_cons (pe_callTy qhs g2 m2 b2 (pa_cons he.run pa_nil n1) (by decide) (by decide) n1) pa_nil n2) (by decide) (by decide) n2) fun σ H Q q => ?_,
  fun env Q Q' h q => he.mono _ _ _ (fun r e q => qO (fun d q => by
   split at q
   ·exact ⟨q.1, h _ _ q.2⟩
   ·exact q.elim) q) q⟩
 obtain ⟨env, f, A, q⟩ := q
 refine ⟨env, f, A, he.mono _ _ _ (fun r e1 q => ?_) q⟩
 intro x H1 f1 g1 A1 R1 S1 K1
 obtain ⟨d, g', rp, q⟩ := yO A1 R1 q
 split at q
 ·rename_i n
  obtain ⟨rfl, _⟩ := rp.intV
  refine ⟨n, rfl, fun a hf => ⟨a, n, rfl, upd_same, q.1.1, q.1.2, fun b hb => ?_⟩⟩
  have ex1 : Ext H1 (L2.upd H1 a (RgO a n)) [] := .updT hf
  have ex2 : Ext (L2.upd H1 a (RgO a n)) (L2.upd (L2.upd H1 a (RgO a n)) b (.lst ((upN n).map V.int))) [b] := .upd hb
  have ex : Ext H1 (L2.upd (L2.upd H1 a (RgO a n)) b (.lst ((upN n).map V.int))) [b] := ⟨fun y o h => ex2.same y o (ex1.same y o h), fun y hy => by
   have := ex2.new y hy
   by_cases z : y = a
   ·rw [z]; exact hf
   ·rwa [upd_ne z] at this⟩
  obtain ⟨A3, R3, S3⟩ := vI A1 S1 ex (vW hb (Qv _))
  exact q.2 _ _ f1 [b] A3 R3 S3 K1
 ·exact q.elim
end
end BX
namespace TX
open PySem PySem.Spec PyProof.Rows L2 BX
section
variable {e : En} {r : R} {Q : R → En → Prop}
theorem qfP {t : XE} (q : t e fun r e => rd 2 r e fun d => match d with
 | .int n => (0 ≤ n ∧ n ≤ 2 ^ 24) ∧ aR Q (.tmp (.lst ((upN n).map .int))) e
 | _ => False) : qcQ t e Q := q
theorem qfe {n : Int} (hr : Rv e 2 r (.int n)) (h : 0 ≤ n ∧ n ≤ 2 ^ 24) (q : aR Q (.tmp (eL D.int (upN n))) e) : rd 2 r e fun d => match d with
 | .int n => (0 ≤ n ∧ n ≤ 2 ^ 24) ∧ aR Q (.tmp (.lst ((upN n).map .int))) e
 | _ => False := hr.rd ⟨h, q⟩
end
end TX
namespace BX
open PySem PySem.Spec PyProof.Rows L2 RT
def rdC (r : R) (k : D → Prop) : Prop := match r with
 | .ro _ d => k d
 | .tmp d => d.imm = true ∧ k d
 | .sl _ => False
end BX
namespace TX
open PySem PySem.Spec PyProof.Rows L2 BX
section
variable {e e' : En} {Q : R → En → Prop} {i : Nat} {r r1 r2 r' : R} {nx : En → Prop} {rt : D → En → Prop}
inductive Rc : R → D → Prop
 | ro {c : Bool} {d : D} : Rc (.ro c d) d
 | tmp {d : D} : d.imm = true → Rc (.tmp d) d
theorem Rc.go {d : D} (h : Rc r d) {k : D → Prop} (q : k d) : rdC r k := by
 cases h with
 | ro => exact q
 | tmp im => exact ⟨im, q⟩
end
end TX
namespace BX
open PySem PySem.Spec PyProof.Rows L2 RT
end BX
namespace TX
open PySem PySem.Spec PyProof.Rows L2 BX
end TX
namespace BX
open PySem PySem.Spec PyProof.Rows L2
end BX
namespace BX
open PySem PySem.Spec PyProof.Rows L2
end BX
namespace TX
open PySem PySem.Spec PyProof.Rows L2 BX
end TX
namespace BX
open PySem TX
end BX
namespace BX
open PySem PySem.Spec PyProof.Rows L2
def dFz (t : XE) : XE := fun env Q => t env fun r e => match r with
 | .tmp (.lst xs) => immL xs = true ∧ Q (.tmp (.lF xs)) e
 | _ => False
section
variable {K : PySem.W.Frag} {σ : L2.St} {H H1 : Hp} {env e1 : En} {f f1 : FA}
theorem qhc {xs : List D} {v : V} {g : List Addr} (A : Abs K σ H1 e1 f1) (R : ResOk K σ H1 e1 f1 (.tmp (.lst xs)) v g) (S : Stp H env f [] H1 e1 f1 g) (im : immL xs = true) :
 ∃ a vs, v = .ref a ∧ H1 a = some (.lst vs) ∧ ∀ od, Abs K σ (L2.upd H1 a (.frz od (.lst vs))) e1 f1 ∧ ResOk K σ (L2.upd H1 a (.frz od (.lst vs))) e1 f1 (.tmp (.lF xs)) v [] ∧ Stp H env f [] (L2.upd H1 a (.frz od (.lst vs))) e1 f1 [] := by
 cases R with
 | tmp rp n =>
   obtain ⟨a, vs, g', rfl, ha, rr, rfl, _⟩ := rp.listAt
   obtain ⟨rfl, r0⟩ := rr.imm (Nat.zero_le _) im
   have na := n a (List.mem_cons_self ..)
   have tk : ∀ (od : Obj) (b : Addr) (o : HO), b ≠ a → H1 b = some o → L2.upd H1 a (.frz od (.lst vs)) b = some o := fun od b o hb h => by rw [upd_ne hb]; exact h
   have mu : ∀ {b : Addr} {o : HO}, H1 b = some o → Mu o = false → b ≠ a := fun {b o} hb z y => by rw [y, ha] at hb; cases hb; cases z
   refine ⟨a, vs, rfl, ha, fun od => ⟨⟨fun i d m e => ?_, A.dis, A.len⟩, .tmp (.lF upd_same (r0.keep fun b o h z => ?_)) qm, ⟨fun b o h z => ?_, fun b z => ?_⟩⟩⟩
   ·obtain ⟨w, hw, r⟩ := A.rep i d m e
    refine ⟨w, hw, r.keep fun b o hb z => tk od b o ?_ hb⟩
    rcases z with z | z
    ·intro y
     subst y
     by_cases hl : m.lv = 0
     ·exact na.1 ⟨i, d, m, e, hl, z⟩
     ·exact na.2 ⟨i, d, m, e, hl, z⟩
    ·exact mu hb z
   ·rcases z with z | z
    ·simp at z
    ·exact tk od b o (mu h z) h
   ·have h1 := S.same b o h (z.imp_right fun y => ⟨y.1, by simp⟩)
    refine tk od b o (fun y => ?_) h1
    rcases z with z | z
    ·exact mu h1 z y
    ·rcases S.own b (.inr (by rw [y]; exact List.mem_cons_self ..)) with q | q | q
     ·exact z.1 q
     ·simp at q
     ·rw [h] at q; cases q
   ·rcases z with z | z
    ·exact S.own b (.inl z)
    ·simp at z
end
section
variable {X : Cx} {e : Expr} {t : XE}
theorem qfK (ha : DE X e t) : DE X e (dFz t) := by
 refine ⟨⟨fun pins s σ H Q I q => ?_⟩, fun env Q Q' h q => ha.mono _ _ _ (fun r e q => ?_) q⟩
 ·obtain ⟨env, f, A, q⟩ := q
  have go := ha.run.run pins s σ H (fun v H1 => ∃ a vs, v = .ref a ∧ H1 a = some (.lst vs) ∧ ∀ od, Q v (L2.upd H1 a (.frz od (.lst vs)))) I ⟨env, f, A, ha.mono _ _ _ (fun r e1 q => ?_) q⟩
  ·refine thn go fun u s1 ⟨x, H1, I1, rx, a, vs, ex, h1, q⟩ => ?_
   obtain ⟨od, I2⟩ := I1.lock h1 trivial
   exact ⟨x, _, I2, rx, q od⟩
  ·intro v H1 f1 g A1 R1 S1 K1
   cases r with
   | tmp d =>
     cases d with
     | lst xs =>
       obtain ⟨im, q⟩ := q
       obtain ⟨a, vs, rfl, ha, k⟩ := qhc A1 R1 S1 im
       refine ⟨a, vs, rfl, ha, fun od => ?_⟩
       obtain ⟨A2, R2, S2⟩ := k od
       exact q _ _ f1 [] A2 R2 S2 K1
     | _ => exact q.elim
   | _ => exact q.elim
 ·cases r with
  | tmp d =>
    cases d with
    | lst xs => exact ⟨q.1, h _ _ q.2⟩
    | _ => exact q.elim
  | _ => exact q.elim
end
end BX
namespace BX
open PySem PySem.Spec PyProof.Rows L2
def strJ : D → Str
 | .non => "None"
 | .bl b => if b then "True" else "False"
 | .int i => toString i
 | .str a => a
 | d => strD d
def ShJ : D → Prop
 | .non => True
 | .bl _ => True
 | .int i => i.natAbs.log2 < 1920
 | .str _ => True
 | .tup xs => ShOk (.tup xs)
 | .lF xs => ShOk (.lF xs)
 | _ => False
end BX
namespace COM
open PySem PySem.Spec PyProof.Rows L2 BX
local macro_rules
 | `(tactic| and_intros) => `(tactic| simp -implicitDefEqProofs only [sNil, sSeq, Qa, sRet, qiD, sIf, qgw, sAsg, dC, dG, dLst, dTup, aNil, ql, dBin, dAnd, dOr, dNot, dIf, xVal, xAnd, xOr, xNot, xYes, dIdx, dCall, dM1, bAppend, uY, wg, uz, opEq, opNe, sFor, dLc, dNeg, qfL, xIsi, qeF, nob, sPar, sAug, sPut, qft, dChn, eq_self, true_implies, decide_true, Bool.not_true, decide_false, putB, JH, wF, isSl, Md.rd, Option.map_none, Option.map_some, Bool.not_true, Bool.not_false, Bool.false_and, Bool.and_false, Nat.reduceBEq, Bool.or_true, Bool.true_or, Bool.or_false, Bool.false_or, Bool.or_self, xVar, xRdS, xRd2, qh0, qeB, qeA, qhZ, qhS, xVbl, qhM, qhN, qhL, qhR, xVdT, xVdK, qhO, qf2, qf1, qhQ, qhP, xRdT, qh1, qdf, qeE, qeD, qeC, xElT, xElR, xElS, qib, xMbl, qh8, qh9, qh7, qia, xMdT, xMdK, xStT, xStR, xStS, xSeT, xSmL, xChL, xChT, xChG, xCsO, xCsI, xLm, xTm, xReT, xReR, xReS, qhY, qhX, qhW, qgb, qga, xSn, qf8, qhV, qf9, xGnT, xGnR, xGnS, xGns, xRmF, xRmT, xMkN, xMkS, xGT, xTT, xKdT, xKdR, xKdS, xGsN, xGsC, xThN, xThS, xTs, xLoT, xLoR, xLoS, xLos, xSeq, xSqL, xSqT, xR1, xR1i, xR2, xR2i, qit, qir, qis, qiq, qh6, qh5, xOpI, xOpC, xLtI, qf7, qhU, qf6, qf3, qhT, qf5, qf4, qgh, qgm, qig, qin, qge, qgj, qgd, qgi, qgg, qgl, qie, qil, qif, qim, qgf, qgk, xIsB, xInB, xInT, xInL, qio, xInS, xIxL, xIxT, xIxD, xOp, xLnL, xLnT, xLnS, xLnD, xLnK, xAbs, qii, qik, xMin, xMax, xTuL, xTuT, xLiL, xLiT, xAll, xAny, xSum, xOp1, xOp2, xIsl, xImI, xImB, xImS, xImN, xImT, xImC, xImE, xSlN, xSlC, xRaN, xRaC, qih, qij, xBlD, xPut, qh3, qh2, xOpN, xSoL, xSoT, xSoD, xAt0, xAt1, xAt2, xAt3, xZiR, xZiT, qh4, qgc, qbn, qde, qbp, qbm, qbl, qbo, qdc, qdd, qaJ, qbs, qaL, qaI, qaH, qaK, qbq, qbr, qbf, qdb, qbh, qbe, qbd, qbg, qc9, qda, JS, qaB, JV, JR, JQ, JT, qaz, qaA, qaE, qbk, qaG, qaD, qaC, qaF, qbi, qbj, qgo, qip, qgn, xDqI, xDqB, xDqS, xKe2, xKe3, xKe4, qid, qic, xOkA, xOkB, xOkC, xIoO, xIoI, List.getElem?_cons_zero, List.getElem?_cons_succ, List.set_cons_zero, List.set_cons_succ, List.length_cons, List.length_nil, List.getD_cons_zero, List.getD_cons_succ, true_and, and_true, Bool.and_self, Bool.and_true, Bool.true_and, List.all_cons, List.all_nil, List.nil_append, List.cons_append, forall_const, Nat.reduceAdd, Nat.reduceLeDiff, Nat.reduceSub, Nat.reduceMul, reduceCtorEq, false_implies, penv, BX.fill, List.zipWith_cons_cons, List.zipWith_nil_left, List.zipWith_nil_right, List.replicate_succ, List.replicate_zero, Nat.zero_add])
def uK : XS :=
 (sSeq (sAsg (dC (.int 0)) (gN 2))
 (sSeq (sIf (xVal (dBin 2 opLt (dVar 1) (dCall 2 (op1 bLen) (ql (dVar 0) aNil)))) (sAsg (dIdx (dVar 0) (dVar 1)) (gN 2)) sNil)
 (sSeq (sAsg (dBin 1 Q8 (dCall 2 (op1 bAbs) (ql (dVar 2) aNil)) (dCall 2 (op1 bInt) (ql (dBin 2 opGe (dCall 2 (op1 bAbs) (ql (dVar 2) aNil)) (dBin 2 qgH (dC (.int 10)) (dC (.int 18)))) aNil))) (gN 3))
 (sRet (dLst (ql (dVar 3) (ql (dBin 2 Qw (dBin 1 Q8 (dBin 2 Qw (dBin 1 yu (dBin 1 yu (dVar 2) (dBin 1 Q8 (dC (.int 7919)) (dVar 1))) (dC (.int 1))) (dC (.int 2147483647))) (dC (.int 48271))) (dC (.int 2147483647))) aNil)))))))
def uM : XS :=
 (sSeq (sIf (xVal (dBin 2 opGt (dIdx (dVar 0) (dC (.int 0))) (dC (.int 0)))) (sSeq (sAsg (dBin 2 Qw (dIdx (dVar 0) (dC (.int 0))) (dVar 1)) (gN 2))
 (sSeq (sPut (dBin 2 qgI (dIdx (dVar 0) (dC (.int 0))) (dVar 1)) (dVar 0) (dC (.int 0)))
 (sRet (dVar 2)))) sNil)
 (sSeq (sPut (dBin 2 Qw (dBin 1 yu (dBin 1 Q8 (dIdx (dVar 0) (dC (.int 1))) (dC (.int 48271))) (dC (.int 12345))) (dC (.int 2147483647))) (dVar 0) (dC (.int 1)))
 (sSeq (sAsg (dBin 2 Qw (dBin 1 Q8 (dIdx (dVar 0) (dC (.int 1))) (dBin 1 yu (dBin 2 Qw (dIdx (dVar 0) (dC (.int 1))) (dC (.int 1009))) (dC (.int 3)))) (dC (.int 2147483629))) (gN 3))
 (sRet (dBin 2 Qw (dBin 2 Qw (dBin 1 Q8 (dVar 3) (dBin 1 yu (dBin 2 Qw (dVar 3) (dC (.int 997))) (dC (.int 5)))) (dC (.int 998244353))) (dVar 1))))))
def JM (a b : Int) : Prop := 0 ≤ a ∧ 0 ≤ b ∧ b < 2 ^ 31
def qax : FS := ⟨[.cst, .cst], fun ds Q => ∃ (ns : List Int) (k : Nat), ds = [.lst (ns.map .int), .int k] ∧ k ≤ 1000 ∧ ∀ a b, JM a b → Q (.lst [.int a, .int b]) ds⟩
theorem qhB : BodyOk qax 4 uK := by
 intro ds Q hl h
 obtain ⟨ns, k, rfl, hk, q⟩ := h
 generalize hrt : outD qax _ Q = rt
 generalize outD qax _ Q _ = nx
 have p62 : (2 : Int) ^ 62 = 4611686018427387904 := by decide
 have p63 : (2 : Int) ^ 63 = 9223372036854775808 := by decide
 have p31 : (2 : Int) ^ 31 = 2147483648 := by decide
 have p64 : (2 : Int) ^ 64 = 18446744073709551616 := by decide
 unfold uK
 refine Zo (fun e => e = [some (.lst (ns.map .int), .cst), some (.int k, .cst), some (.int 0, .own), none]) (fun K hK => ?_) ?_
 ·simp only [qax]
  and_intros
  exact hK _ rfl
 rintro _ rfl
 refine Zo (fun e => ∃ c : Int, e = [some (.lst (ns.map .int), .cst), some (.int k, .cst), some (.int c, .own), none]) (fun K hK => ?_) ?_
 ·and_intros
  refine ⟨fun h => ?_, fun _ => hK _ ⟨0, rfl⟩⟩
  have h' := of_decide_eq_true h
  rw [List.length_map] at h'
  have hlt : k < ns.length := by omega
  rw [qdV (List.getElem?_eq_getElem hlt)]
  and_intros
  exact hK _ ⟨_, rfl⟩
 rintro _ ⟨c, rfl⟩
 and_intros
 subst hrt
 refine ⟨by unfold CPow; decide, qca ?_ ?_, ZF (by omega) (by omega), by decide, qca (by omega) (by omega), by decide, ?_⟩
 ·split <;> omega
 ·split <;> omega
 ·refine q _ _ ⟨?_, ?_, ?_⟩
  ·split <;> split <;> omega
  ·omega
  ·omega
def qay : FS := ⟨[.io, .cst], fun ds Q => ∃ a b m : Int, ds = [.lst [.int a, .int b], .int m] ∧ JM a b ∧ (1 ≤ m ∧ m ≤ 1000000) ∧ ∀ r a' b', 0 ≤ r → r < m → JM a' b' → Q (.int r) [.lst [.int a', .int b'], .int m]⟩
theorem qhD : BodyOk qay 4 uM := by
 intro ds Q hl h
 obtain ⟨a, b, m, rfl, ⟨ha0, hb0, hb1⟩, ⟨hm0, hm1⟩, q⟩ := h
 have p63 : (2 : Int) ^ 63 = 9223372036854775808 := by decide
 have p31 : (2 : Int) ^ 31 = 2147483648 := by decide
 have p64 : (2 : Int) ^ 64 = 18446744073709551616 := by decide
 have out : ∀ (r a' b' : Int) (x2 x3 : Option (D × Md)), 0 ≤ r → r < m → JM a' b' → outD qay [.lst [.int a, .int b], .int m] Q (.int r) [some (.lst [.int a', .int b'], .io), some (.int m, .cst), x2, x3] := fun r a' b' x2 x3 h0 h1 h2 => q r a' b' h0 h1 h2
 generalize outD qay _ Q = rt at out ⊢
 generalize rt _ = nx
 have n0 : ixN 2 0 = some 0 := rfl
 have n1 : ixN 2 1 = some 1 := rfl
 unfold uM
 refine Zo (fun e => e = [some (.lst [.int a, .int b], .io), some (.int m, .cst), none, none]) (fun K hK => ?_) ?_
 ·simp only [qay]
  and_intros
  simp only [n0]
  and_intros
  refine ⟨fun h => ?_, fun h => hK _ rfl⟩
  simp only [decide_eq_true_eq] at h
  refine ⟨by omega, ⟨by omega, by omega⟩, out _ _ _ _ _ (Int.emod_nonneg _ (by omega)) (Int.emod_lt_of_pos _ (by omega)) ⟨Int.ediv_nonneg ha0 (by omega), hb0, hb1⟩⟩
 rintro _ rfl
 refine Zo (fun e => ∃ b : Int, 0 ≤ b ∧ b < 2 ^ 31 ∧ e = [some (.lst [.int a, .int b], .io), some (.int m, .cst), none, none]) (fun K hK => ?_) ?_
 ·and_intros
  simp only [n1]
  and_intros
  exact ⟨ZF (by omega) (by omega), by decide, hK _ ⟨_, Int.emod_nonneg _ (by decide), Int.lt_trans (Int.emod_lt_of_pos _ (by decide)) (by decide), rfl⟩⟩
 rintro _ ⟨b, hb0, hb1, rfl⟩
 refine Zo (fun e => ∃ c : Int, 0 ≤ c ∧ c < 2 ^ 31 ∧ e = [some (.lst [.int a, .int b], .io), some (.int m, .cst), none, some (.int c, .own)]) (fun K hK => ?_) ?_
 ·and_intros
  exact ⟨by decide, ZF (by omega) (by omega), by decide, hK _ ⟨_, Int.emod_nonneg _ (by decide), Int.lt_trans (Int.emod_lt_of_pos _ (by decide)) (by decide), rfl⟩⟩
 rintro _ ⟨c, hc0, hc1, rfl⟩
 and_intros
 exact ⟨by decide, ZF (by omega) (by omega), by decide, by omega, out _ _ _ _ _ (Int.emod_nonneg _ (by omega)) (Int.emod_lt_of_pos _ (by omega)) ⟨ha0, hb0, hb1⟩⟩
def vZ (wQ : FS) : XS :=
 (sSeq (sIf (xVal (dBin 2 opIs (dVar 1) (dC .non))) (sRet (dBin 2 opIs (dVar 0) (dC .non))) sNil)
 (sSeq (sIf (xVal (qeF "list" "tuple" (dVar 1))) (sSeq (sIf (xOr (xVal (dBin 2 opNe (xIsi "list" (dVar 0)) (xIsi "list" (dVar 1)))) (xVal (dBin 2 opNe (xIsi "tuple" (dVar 0)) (xIsi "tuple" (dVar 1))))) (sRet (dC (.bl false))) sNil)
 (sRet (dAnd (dBin 2 opEq (dCall 2 (op1 bLen) (ql (dVar 0) aNil)) (dCall 2 (op1 bLen) (ql (dVar 1) aNil))) (dCall 2 (op1 bAll) (ql (dLc (qft (dVar 0) (dVar 1)) (gT 2 (za (gN 2) (za (gN 3) Qc))) xYes (dFn wQ (ql (dVar 2) (ql (dVar 3) aNil))) [2, 3]) aNil))))) sNil)
 (sSeq (sIf (xVal (xIsi "bool" (dVar 1))) (sRet (dAnd (xIsi "bool" (dVar 0)) (dBin 2 opEq (dVar 0) (dVar 1)))) sNil)
 (sSeq (sIf (xVal (xIsi "str" (dVar 1))) (sRet (dAnd (xIsi "str" (dVar 0)) (dBin 2 opEq (dVar 0) (dVar 1)))) sNil)
 (sRet (dAnd (xIsi "int" (dVar 0)) (dAnd (qfL (xIsi "bool" (dVar 0))) (dBin 2 opEq (dVar 0) (dVar 1)))))))))
def xX : Nat → D → Prop
 | 0, _ => False
 | n + 1, d => match d with
   | .non => True
   | .bl _ => True
   | .int _ => True
   | .str s => eqOk (.str s) = true
   | .tup xs => xs.length ≤ 1000000 ∧ ∀ x ∈ xs, xX n x
   | .lst xs => xs.length ≤ 1000000 ∧ ∀ x ∈ xs, xX n x
   | _ => False
def vh (n : Nat) : FS := ⟨[.cst, .cst], fun ds Q => ∃ d, ds = [d, d] ∧ xX n d ∧ Q (.bl true) ds⟩
theorem qem (n : Nat) : Wg (vh n) := fun ds Q Q' h ⟨d, e, t, q⟩ => ⟨d, e, t, h _ _ q⟩
theorem qhC (n : Nat) : BodyOk (vh (n + 1)) 4 (vZ (vh n)) := by
 intro ds Q hl h
 obtain ⟨d, rfl, hd, q⟩ := h
 have out : ∀ (x2 x3 : Option (D × Md)), outD (vh (n + 1)) [d, d] Q (.bl true) [some (d, .cst), some (d, .cst), x2, x3] := fun x2 x3 => q
 generalize outD (vh (n + 1)) _ Q = rt at out ⊢
 generalize rt _ = nx
 unfold vZ
 simp only [show (vh (n + 1)).ms = [Md.cst, Md.cst] from rfl]
 have lcs : ∀ xs : List D, xs.length ≤ 1000000 → (∀ x ∈ xs, xX n x) → ∀ (e0 : En) (kk : List D → En → Prop), (e0 = [some (.tup xs, .cst), some (.tup xs, .cst), none, none] ∨ e0 = [some (.lst xs, .cst), some (.lst xs, .cst), none, none]) → kk (xs.map fun _ => .bl true) e0 →
  lcL (gT 2 (za (gN 2) (za (gN 3) Qc))) xYes (dFn (vh n) (ql (dVar 2) (ql (dVar 3) aNil))) (some true) [2, 3] (zipL xs xs) e0 [] kk := by
  intro xs hlen hx e0 kk he hk
  have e : zipL xs xs = xs.map fun x => .tup [x, x] := by
   clear hlen hx hk he
   induction xs with
   | nil => rfl
   | cons x xs ih => rw [List.map_cons, ← ih]; rfl
  rw [e]
  refine qck (fun _ => .bl true) _ _ ?_ ?_ ?_
  ·rw [List.length_map, sizeLine_eq]; simp; omega
  ·rw [List.map_map]; exact hk
  ·intro d hd c k1 hc h1
   obtain ⟨x, hxm, rfl⟩ := List.mem_map.mp hd
   have sx := hx x hxm
   rcases he with rfl | rfl
   ·and_intros
    cases n with
    | zero => exact sx.elim
    | succ n =>
      cases x with
      | dT _ => exact sx.elim
      | dK _ => exact sx.elim
      | dF _ => exact sx.elim
      | lF _ => exact sx.elim
      | ob _ _ => exact sx.elim
      | ex _ _ => exact sx.elim
      | dN _ => exact sx.elim
      | _ =>
        simp only [dFn2 (S := vh (n + 1)) rfl]
        and_intros
        exact ⟨_, rfl, sx, hc, h1⟩
   ·and_intros
    cases n with
    | zero => exact sx.elim
    | succ n =>
      cases x with
      | dT _ => exact sx.elim
      | dK _ => exact sx.elim
      | dF _ => exact sx.elim
      | lF _ => exact sx.elim
      | ob _ _ => exact sx.elim
      | ex _ _ => exact sx.elim
      | dN _ => exact sx.elim
      | _ =>
        simp only [dFn2 (S := vh (n + 1)) rfl]
        and_intros
        exact ⟨_, rfl, sx, hc, h1⟩
 have bt : ∀ xs : List D, bools (xs.map fun _ => D.bl true) = some (xs.map fun _ => true) := fun xs => by
  induction xs with
  | nil => rfl
  | cons x xs ih => rw [List.map_cons, bools, ih]; rfl
 have ba : ∀ xs : List D, (xs.map fun _ => true).all id = true := fun xs => by simp
 cases d with
 | non =>
   and_intros
   exact out _ _
 | bl b =>
   and_intros
   exact out _ _
 | int i =>
   and_intros
   exact out _ _
 | str s =>
   and_intros
   have he : eqOk (.str s) = true := hd
   simp only [he]
   and_intros
   have e : (s == s) = true := by first | exact beq_self_eq_true s | simp
   rw [e]
   exact out _ _
 | tup xs =>
   and_intros
   refine lcs xs hd.1 hd.2 _ _ (.inl rfl) ?_
   unfold qat
   rw [bt]
   and_intros
   rw [ba]
   exact out _ _
 | lst xs =>
   and_intros
   refine lcs xs hd.1 hd.2 _ _ (.inr rfl) ?_
   unfold qat
   rw [bt]
   and_intros
   rw [ba]
   exact out _ _
 | dT _ => exact hd.elim
 | dK _ => exact hd.elim
 | dF _ => exact hd.elim
 | lF _ => exact hd.elim
 | ob _ _ => exact hd.elim
 | ex _ _ => exact hd.elim
 | dN _ => exact hd.elim
end COM
namespace TX
open PySem PySem.Spec PyProof.Rows L2 BX
abbrev tC := Str × Int × Int × Int
abbrev zC : tC → D := eT4 D.str D.int D.int D.int
abbrev zB : Int × Int × Int × Int → D := eT4 D.int D.int D.int D.int
abbrev zP : Int × Int → D := eT2 D.int D.int
abbrev zk2 : Int × Int → List Key := kf2 Sum.inl Sum.inl
abbrev zk3 : Str × Int × Int → List Key := kf3 Sum.inr Sum.inl Sum.inl
abbrev zk4 : tC → List Key := kf4 Sum.inr Sum.inl Sum.inl Sum.inl
abbrev zD := eDT zk2 D.bl
abbrev zV := eV zP
abbrev zL := eL zP
abbrev zLC := eL zC
abbrev zO (d : D) : Option (D × Md) := some (d, .own)
abbrev zR (d : D) : Option (D × Md) := some (d, .ro)
abbrev zS (d : D) : Option (D × Md) := some (d, .cst)
theorem Rv.z {e : En} {L i : Nat} {d : D} {m : Md} (h : e[i]? = some (some (d, m)) := by rfl) (hm : m.okL L = true := by rfl) : Rv e L (.sl i) d := .sl h hm
end TX
namespace BC
open PySem PySem.Spec PyProof.Rows L2 BX TX COM
def TpOk (t : Int × Int) : Prop := JM t.1 t.2
def vU (script : List Int) (k : Int) (kr : Int × Int → Prop) : Prop := (0 ≤ k ∧ k ≤ 1000) ∧ ∀ t, TpOk t → kr t
def yh : FS := mkS (α := List Int × Int) (κ := Int × Int) [.cst, .cst] (fun a => [eL D.int a.1, D.int a.2]) (fun a => vU a.1 a.2) (fun r => eP r) fun a r => [eL D.int a.1, D.int a.2]
theorem J9 : BodyOk yh 4 uK := qau qhB rfl fun ds Q h => by
 obtain ⟨⟨ns, k⟩, kr, rfl, ⟨hk, h⟩, q⟩ := h
 refine ⟨ns, k.toNat, ?_, ?_, fun a b t => q (a, b) (h (a, b) t)⟩
 ·show [eL D.int ns, D.int k] = _
  have hk' : k = (k.toNat : Int) := by simp only at hk; omega
  rw [← hk']; rfl
 ·simp only at hk; omega
def qI (t : Int × Int) (m : Int) (kr : Int × (Int × Int) → Prop) : Prop := TpOk t ∧ (1 ≤ m ∧ m ≤ 1000000) ∧ ∀ r : Int × (Int × Int), 0 ≤ r.1 → r.1 < m → TpOk r.2 → kr r
def qF : FS := mkS (α := (Int × Int) × Int) (κ := Int × (Int × Int)) [.io, .cst] (fun a => [eP a.1, D.int a.2]) (fun a => qI a.1 a.2) (fun r => D.int r.1) fun a r => [eP r.2, D.int a.2]
theorem Ub : BodyOk qF 4 uM := qau qhD rfl fun ds Q h => by
 obtain ⟨⟨t, m⟩, kr, rfl, ⟨ht, hm, h⟩, q⟩ := h
 exact ⟨t.1, t.2, m, rfl, ht, hm, fun r a b h0 h1 h2 => q (r, (a, b)) (h (r, (a, b)) h0 h1 h2)⟩
def XD (n : Nat) (x y : D) (kr : Bool → Prop) : Prop := x = y ∧ xX n x ∧ kr true
end BC
namespace BC
open PySem PySem.Spec PyProof.Rows L2 BX TX COM
section
variable {α β σ : Type}
theorem qab {body : α → σ → (σ → Prop) → Prop} {k : σ → Prop} (I : List α → σ → Prop) : ∀ (l pre : List α) (s : σ), I pre s → (∀ (p : List α) (a : α) (q : List α) (s : σ) (kk : σ → Prop), pre ++ l = p ++ a :: q → I p s → (∀ s', I (p ++ [a]) s' → kk s') → body a s kk) → (∀ s, I (pre ++ l) s → k s) → forW l s body k
 | [], pre, s, h0, hs, hk => hk s (by simpa using h0)
 | a :: l, pre, s, h0, hs, hk => hs pre a l s _ rfl h0 fun s' h' => qab I l (pre ++ [a]) s' h' (fun p b q s kk e => hs p b q s kk (by rw [← e]; simp)) (fun s h => hk s (by simpa using h))
theorem jZ {body : α → σ → (σ → Prop) → Prop} {k : σ → Prop} (I : List α → σ → Prop) {l : List α} {s : σ} (h0 : I [] s) (hs : ∀ (p : List α) (a : α) (q : List α) (s : σ) (kk : σ → Prop), l = p ++ a :: q → I p s → (∀ s', I (p ++ [a]) s' → kk s') → body a s kk) (hk : ∀ s, I l s → k s) : forW l s body k :=
 qab I l [] s h0 (fun p a q s kk e => hs p a q s kk (by simpa using e)) (by simpa using hk)
theorem qdJ {body : α → σ → (σ → Prop) → Prop} {k : σ → Prop} (I : σ → Prop) {l : List α} {s : σ} (h0 : I s) (hs : ∀ a ∈ l, ∀ (s : σ) (kk : σ → Prop), I s → (∀ s', I s' → kk s') → body a s kk) (hk : ∀ s, I s → k s) : forW l s body k :=
 jZ (fun _ s => I s) h0 (fun p a q s kk e h hkk => hs a (by rw [e]; simp) s kk h hkk) hk
theorem qeo {body : α → σ → (Option β → σ → Prop) → Prop} {k : List β → σ → Prop} (F : α → Option β) : ∀ {l : List α} {acc : List β} {s : σ}, (∀ a ∈ l, ∀ (w : Option β → σ → Prop), w (F a) s → body a s w) → k (acc ++ l.filterMap F) s → lcW l acc s body k
 | [], acc, s, _, hk => by
   show k acc s
   simpa using hk
 | a :: l, acc, s, hs, hk => hs a (List.mem_cons_self ..) _ (qeo F (fun b hb => hs b (List.mem_cons_of_mem _ hb)) (by
   rw [List.append_assoc]
   have : (F a).toList ++ l.filterMap F = (a :: l).filterMap F := by
    rw [List.filterMap_cons]; cases F a <;> rfl
   rw [this]; exact hk))
theorem Xa {body : α → σ → (Option β → σ → Prop) → Prop} {k : List β → σ → Prop} (F : α → β) {l : List α} {s : σ} (hs : ∀ a ∈ l, ∀ (w : Option β → σ → Prop), w (some (F a)) s → body a s w) (hk : k (l.map F) s) : lcW l [] s body k :=
 qeo (fun a => some (F a)) hs (by
  have : l.filterMap (fun a => some (F a)) = l.map F := by
   induction l with
   | nil => rfl
   | cons a l ih => simp
  rw [this]; exact hk)
end
theorem qcf {a b x : Int} : x ∈ rng a b ↔ a ≤ x ∧ x < b := by
 unfold rng
 simp only [List.mem_map, List.mem_range]
 constructor
 ·rintro ⟨n, h1, rfl⟩; omega
 ·rintro ⟨h1, h2⟩; exact ⟨(x - a).toNat, by omega, by omega⟩
theorem jO {a b : Int} : (rng a b).length = (b - a).toNat := by simp [rng]
theorem Yl {a b : Int} (h1 : -1000000 ≤ a) (h2 : a ≤ 1000000) (h3 : -1000000 ≤ b) (h4 : b ≤ 1000000) : Wf a b := by
 unfold Wf; omega
theorem sz : sizeLine = 16777216 := sizeLine_eq
theorem qbM (a b : Int) : (rng a b).Pairwise (· < ·) := by
 unfold rng
 rw [List.pairwise_map]
 exact List.Pairwise.imp (R := fun a b : Nat => a < b) (fun {a b} h => by omega) List.pairwise_lt_range
def ltC (c d : Int × Int) : Prop := c.1 < d.1 ∨ (c.1 = d.1 ∧ c.2 < d.2)
instance (c d : Int × Int) : Decidable (ltC c d) := by unfold ltC; infer_instance
theorem qg4 {c d : Int × Int} (h : ltC c d) : c ≠ d := by
 rintro rfl
 unfold ltC at h
 omega
theorem Zk {l : List (Int × Int)} (h : l.Pairwise ltC) : l.Nodup := h.imp fun {a b} h => qg4 h
theorem qd5 {l m : List (Int × Int)} (h1 : l.Pairwise ltC) (h2 : m.Pairwise ltC) (h : ∀ c, c ∈ l ↔ c ∈ m) : l = m :=
 List.Perm.eq_of_pairwise (le := ltC) (fun a b _ _ x y => by unfold ltC at x y; omega) h1 h2 ((List.perm_ext_iff_of_nodup (Zk h1) (Zk h2)).mpr h)
theorem lex2 (a b : Int × Int) : HT.lexLt (tl2 a) (tl2 b) = decide (ltC a b) := by
 unfold tl2 ltC
 rw [HT.lexLt_cons]
 by_cases e : a.1 = b.1
 ·rw [if_pos e, HT.lexLt_cons]
  by_cases e2 : a.2 = b.2
  ·rw [if_pos e2, HT.lexLt]; simp [e, e2]
  ·rw [if_neg e2]; simp [e]
 ·rw [if_neg e]; simp [e]
end BC
namespace BC
open PySem PySem.Spec PyProof.Rows L2 BX TX COM
def vC : XS :=
 (sSeq (sAsg (dLst aNil) (gN 4))
 (sSeq (sFor (uW (dVar 2)) (gN 5) (Qa (dM1 D.isLst uY (dVar 4) (dLc (uW (dVar 3)) (gN 6) xYes (dTup (ql (dBin 1 yu (dVar 0) (dVar 5)) (ql (dBin 1 yu (dVar 1) (dVar 6)) aNil))) [6]))))
 (sRet (dVar 4))))
def jf (x : Int) (y : Int) (wide : Int) (high : Int) (kr : (List (Int × Int)) → Prop) : Prop :=
 lt (([] : List (Int × Int)) : (List (Int × Int))) fun found =>
 (Wf 0 wide) ∧
 forW (rng 0 wide) found (fun k' (found : (List (Int × Int))) kk2 => (Wf 0 high) ∧
 ((rng 0 high).length ≤ sizeLine) ∧
 (found.length + ((rng 0 high).map (fun j => ((x + k'), (y + j)))).length ≤ sizeLine) ∧
 lt (found ++ ((rng 0 high).map (fun j => ((x + k'), (y + j))))) fun found =>
 kk2 found) fun found =>
 kr found
def zA : FS := mkS (α := (Int × Int × Int × Int)) (κ := (List (Int × Int))) [.cst, .cst, .cst, .cst] (fun a => [D.int a.1, D.int a.2.1, D.int a.2.2.1, D.int a.2.2.2]) (fun a => jf a.1 a.2.1 a.2.2.1 a.2.2.2) (fun r => (eL (eT2 D.int D.int)) r) fun a r => [D.int a.1, D.int a.2.1, D.int a.2.2.1, D.int a.2.2.2]
theorem XM : BodyOk zA 7 vC := by
 intro ds Q hl h
 obtain ⟨⟨x, y, wide, high⟩, kr, rfl, h, q⟩ := h
 refine jk (e' := [_, _, _, _, _, _, _]) rfl ?_
 unfold vC
 unfold jf at h
 refine wR <| s_asg <| uH <| qu <| xH zP ([] : List (Int × Int)) .nil ?_
 refine g_N (f := zL) (fun found => [_, _, _, _, zO (zL found), _, _]) h rfl (fun _ => rfl) fun found h => ?_
 refine wR <| Z5 <| qa5 <| qw rfl ?_
 obtain ⟨p1, h⟩ := h
 refine qaV p1 ?_
 refine Zy (fI := D.int) (sh := fun (found : (List (Int × Int))) e => ∃ c5 : Option (D × Md), (setS (some c5) = true) ∧ e = [zS (D.int x), zS (D.int y), zS (D.int wide), zS (D.int high), zO (zL found), c5, none]) h ⟨_, rfl, rfl⟩ (fun k' ha found e hs kk2 nxkk2 hJ2 h => ?_) ?_
 ·skip
  obtain ⟨c5, hc5, rfl⟩ := hs
  refine g_n (e' := [_, _, _, _, _, _, _]) hc5 rfl (?_)
  refine u9 <| c_m1 (by rfl) (by rfl) (by decide) (by rfl) <| c_lc <| qa5 <| qw rfl ?_
  obtain ⟨p3, h⟩ := h
  refine qaV p3 ?_
  obtain ⟨p4, h⟩ := h
  refine qb3 (e := [_, _, _, _, _, _, _]) (fI := D.int) (fo := zP) (fun j => ((x + k'), (y + j))) (all1 rfl) p4 rfl (fun j ha c k1 hc h1 => ?_) ?_
  ·skip
   refine g_n (e' := [_, _, _, _, _, _, _]) rfl rfl (?_)
   refine xK <| qj <| wD <| qw rfl <| qw rfl <| wC .tmp .tmp zE <| qj <| wD <| qw rfl <| qw rfl <| wC .tmp .tmp zE <| qu <| yG D.int D.int (x + k') (y + j) (.cons .tmp (.cons .tmp .nil)) ?_
   exact o_el .tmp hc rfl h1
  refine jN (e' := [_, _, _, _, _, _, _]) rfl <| wN ?_
  obtain ⟨p5, h⟩ := h
  refine Qy (fun found => [_, _, _, _, zO (zL found), _, _]) h (by rfl) p5 (fun _ => rfl) fun found h => ?_
  exact hJ2 found _ ⟨_, rfl, rfl⟩ h
 rintro found e hs h
 obtain ⟨c5, hc5, rfl⟩ := hs
 refine wN <| s_ret <| qw rfl <| Y6 (m := .own) (by rfl) ?_
 exact q found h
end BC
namespace BC
open PySem PySem.Spec PyProof.Rows L2 BX TX COM
theorem uF {t : Int × Int} {m : Int} {kr : Int × (Int × Int) → Prop} (ht : TpOk t) (h1 : 1 ≤ m) (h2 : m ≤ 1000000) (h : ∀ (r : Int) (t' : Int × Int), 0 ≤ r → r < m → TpOk t' → kr (r, t')) : qI t m kr :=
 ⟨ht, ⟨h1, h2⟩, fun r a b c => h r.1 r.2 a b c⟩
def uE (x y w h : Int) : List (Int × Int) := (rng 0 w).flatMap fun i => (rng 0 h).map fun j => (x + i, y + j)
theorem xP {x y w h : Int} {c : Int × Int} : c ∈ uE x y w h ↔ (x ≤ c.1 ∧ c.1 < x + w) ∧ y ≤ c.2 ∧ c.2 < y + h := by
 unfold uE
 simp only [List.mem_flatMap, List.mem_map, qcf]
 constructor
 ·rintro ⟨i, hi, j, hj, rfl⟩; simp only; omega
 ·rintro ⟨h1, h2⟩
  exact ⟨c.1 - x, by omega, c.2 - y, by omega, Prod.ext (by simp only; omega) (by simp only; omega)⟩
theorem Ji (x y w h : Int) : (uE x y w h).Pairwise ltC := by
 unfold uE
 rw [List.pairwise_flatMap]
 refine ⟨fun i _ => ?_, (qbM 0 w).imp fun {i j} hij a ha b hb => ?_⟩
 ·rw [List.pairwise_map]
  exact (qbM 0 h).imp fun {a b} hab => .inr ⟨rfl, by simp only; omega⟩
 ·simp only [List.mem_map] at ha hb
  obtain ⟨_, _, rfl⟩ := ha
  obtain ⟨_, _, rfl⟩ := hb
  exact .inl (by simp only; omega)
theorem Jj {x y w h : Int} (h1 : 0 ≤ w) (h2 : 0 ≤ h) : ((uE x y w h).length : Int) = w * h := by
 have : (uE x y w h).length = w.toNat * h.toNat := by
  unfold uE
  simp [List.length_flatMap, jO, List.map_const', List.sum_replicate_nat]
 rw [this]
 obtain ⟨a, rfl⟩ := Int.eq_ofNat_of_zero_le h1
 obtain ⟨b, rfl⟩ := Int.eq_ofNat_of_zero_le h2
 simp
theorem qcW {x y w h : Int} {kr : List (Int × Int) → Prop} (h1 : 0 ≤ w) (h2 : w ≤ 1000) (h3 : 0 ≤ h) (h4 : h ≤ 1000) (hk : kr (uE x y w h)) : jf x y w h kr := by
 unfold jf
 simp only [lt]
 refine ⟨Yl (by omega) (by omega) (by omega) (by omega), jZ (fun p s => s = p.flatMap fun i => (rng 0 h).map fun j => (x + i, y + j)) rfl ?_ ?_⟩
 ·rintro p a q s kk e rfl hkk
  have hl : (p.flatMap fun i => (rng 0 h).map fun j => (x + i, y + j)).length ≤ 1000 * 1000 := by
   have : (p.flatMap fun i => (rng 0 h).map fun j => (x + i, y + j)).length = p.length * h.toNat := by
    simp [List.length_flatMap, jO, List.map_const', List.sum_replicate_nat]
   rw [this]
   have : p.length ≤ (rng 0 w).length := by rw [e]; simp
   rw [jO] at this
   exact Nat.mul_le_mul (by omega) (by omega)
  refine ⟨Yl (by omega) (by omega) (by omega) (by omega), ?_, ?_, hkk _ ?_⟩
  ·rw [jO, sz]; omega
  ·rw [List.length_map, jO, sz]; omega
  ·simp
 ·rintro s rfl
  exact hk
theorem qfw {x y w h : Int} (h1 : 0 ≤ w) (h2 : w ≤ 12) (h3 : 0 ≤ h) (h4 : h ≤ 12) : (uE x y w h).length ≤ 144 := by
 have := Jj (x := x) (y := y) h1 h3
 have : w * h ≤ 12 * 12 := Int.mul_le_mul h2 h4 h3 (by decide)
 omega
theorem WP (l : List (Int × Int)) : (srt tl2 l).Perm l := List.mergeSort_perm ..
theorem YK {l : List (Int × Int)} {c : Int × Int} : c ∈ srt tl2 l ↔ c ∈ l := (WP l).mem_iff
theorem qbE (l : List (Int × Int)) (hn : l.Nodup) : (srt tl2 l).Pairwise ltC := by
 have h1 : (srt tl2 l).Pairwise fun a b => (!HT.lexLt (tl2 b) (tl2 a)) = true := List.pairwise_mergeSort (fun a b c => by
  simp only [lex2, Bool.not_eq_true', decide_eq_false_iff_not]
  unfold ltC; omega) (fun a b => by
  simp only [lex2, Bool.or_eq_true, Bool.not_eq_true', decide_eq_false_iff_not]
  unfold ltC; omega) l
 have h2 : (srt tl2 l).Nodup := (WP l).nodup_iff.mpr hn
 refine (h1.and h2).imp fun {a b} h => ?_
 have h3 := h.1
 simp only [lex2, Bool.not_eq_true', decide_eq_false_iff_not] at h3
 have : a ≠ b := h.2
 have : ¬ (a.1 = b.1 ∧ a.2 = b.2) := fun z => this (Prod.ext z.1 z.2)
 unfold ltC at h3 ⊢
 omega
theorem qgt {ns : List Int} {k : Int} {kr : Int × Int → Prop} (h1 : 0 ≤ k) (h2 : k ≤ 1000) (h : ∀ t, TpOk t → kr t) : vU ns k kr := ⟨⟨h1, h2⟩, h⟩
end BC
namespace BC
open PySem PySem.Spec PyProof.Rows L2 BX TX COM
abbrev C2 := Int × Int
abbrev B4 := Int × Int × Int × Int
section
variable {κ α : Type} [DecidableEq κ]
theorem qaa {k c : κ} {v : α} : ∀ {l : List (κ × α)}, getA (putA k v l) c = if c = k then some v else getA l c
 | [] => by
   unfold getA putA
   by_cases h : c = k
   ·simp [h]
   ·have : ¬ k = c := fun z => h z.symm
    simp [h, this]
 | p :: l => by
   have ih := qaa (k := k) (c := c) (v := v) (l := l)
   unfold getA at ih ⊢
   rw [putA]
   by_cases h1 : p.1 = k
   ·rw [if_pos h1, List.find?_cons, List.find?_cons]
    by_cases h : c = k
    ·simp [h, h1]
    ·have : ¬ p.1 = c := fun z => h (by rw [← z]; exact h1)
     simp [h, this]
   ·rw [if_neg h1, List.find?_cons, List.find?_cons]
    by_cases h : p.1 = c
    ·have : ¬ c = k := fun z => h1 (by rw [h]; exact z)
     simp [h, this]
    ·simp only [h, decide_false]
     exact ih
theorem QF {k : κ} : ∀ {l : List (κ × α)}, hasA l k = (getA l k).isSome
 | [] => rfl
 | p :: l => by
   have ih := QF (k := k) (l := l)
   unfold hasA getA at ih ⊢
   rw [List.any_cons, List.find?_cons]
   by_cases h : p.1 = k
   ·simp [h]
   ·simp only [h, decide_false, Bool.false_or]
    exact ih
theorem Ux {k : κ} {v : α} : ∀ {m : List (κ × α)}, (putA k v m).length ≤ m.length + 1
 | [] => by simp [putA]
 | p :: m => by
   have := Ux (k := k) (v := v) (m := m)
   rw [putA]; split <;> simp <;> omega
end
section
variable {α β γ δ : Type} {f : α → D}
theorem qd7 {n : Nat} {i : Int} : xX (n + 1) (.int i) := trivial
theorem so_L {n : Nat} {l : List α} (h : l.length ≤ 1000000) (h2 : ∀ a ∈ l, xX n (f a)) : xX (n + 1) (eL f l) := ⟨by simpa using h, fun x hx => by
 obtain ⟨a, ha, rfl⟩ := List.mem_map.mp hx
 exact h2 a ha⟩
theorem qiB {g : β → D} {n : Nat} {p : α × β} (h1 : xX n (f p.1)) (h2 : xX n (g p.2)) : xX (n + 1) (eT2 f g p) := ⟨by simp, fun x hx => by
 simp at hx; rcases hx with rfl | rfl <;> assumption⟩
end
end BC
namespace TX
open PySem PySem.Spec PyProof.Rows L2 BX
abbrev J := {d : D // d.imm = true}
abbrev eJ (d : J) : D := d.1
instance : Im eJ := ⟨fun d => d.2⟩
def toJ {α : Type} (f : α → D) [Im f] (a : α) : J := ⟨f a, Im.im a⟩
abbrev eF {α : Type} (f : α → D) (l : List α) : D := .lF (l.map f)
instance {α : Type} {f : α → D} [hf : Im f] : Im (eF f) := ⟨fun l => by rw [eF, D.imm]; exact imL l⟩
abbrev eX {α : Type} (f : α → D) (p : Bool × List α) : D := match p.1 with
 | true => eV f p.2
 | false => eF f p.2
instance {α : Type} {f : α → D} [hf : Im f] : Im (eX f) := ⟨fun p => by
 obtain ⟨b, l⟩ := p
 cases b
 ·exact Im.im (f := eF f) l
 ·exact Im.im (f := eV f) l⟩
def exV {β : Type} (g : β → D) (d : D) (k : β → Prop) : Prop := ∃ x, d = g x ∧ k x
section
variable {e e1 e' : En} {L : Nat} {r r1 r2 : R} {d d' d1 d2 : D} {Q : R → En → Prop} {α β : Type}
theorem qhw (p : d = d') (q : aR Q (.tmp d') e) : aR Q (.tmp d) e := by rw [p]; exact q
theorem c_fz {t : XE} (q : t e fun r e => match r with
 | .tmp (.lst xs) => immL xs = true ∧ aR Q (.tmp (.lF xs)) e
 | _ => False) : dFz t e Q := q
theorem o_fz {f : α → D} [Im f] {l : List α} (q : aR Q (.tmp (eF f l)) e) : aR (fun r e => match r with
 | .tmp (.lst xs) => immL xs = true ∧ aR Q (.tmp (.lF xs)) e
 | _ => False) (.tmp (eL f l)) e := ⟨imL l, q⟩
theorem ix_F {f : α → D} {l : List α} {i : Int} {a : α} (h : atI l i = some a) : IxTo (eF f l) (.int i) (f a) := fun k q => by unfold eF ixd; simp only [Qe h]; exact q
variable {kI : List D → Option Bool → Lok → En → Prop}
theorem qb2 {f : α → D} [Im f] {l : List α} (q : aI kI (l.map f) none none e) : (rd 2 (.tmp (eF f l)) e fun d => seqK e kI (.tmp (eF f l)) d) := ⟨imL l, q⟩
end
end TX
namespace BX
open PySem PySem.Spec PyProof.Rows L2
structure Sj (n k : Nat) (d : D) : Prop where
 nd : d.ndc = true
 sh : d.pd.showable = true
 dp : d.pd.depth ≤ k
 lv : d.pd.leavesShort 40 = true
 bk : d.pd.bulk ≤ n
 ok : ∀ c ∈ d.pd.shown.cps.toList, c < 1114112
theorem Sj.up {n k n' k' : Nat} {d : D} (h : Sj n k d) (a : n ≤ n') (b : k ≤ k') : Sj n' k' d := ⟨h.nd, h.sh, Nat.le_trans h.dp b, h.lv, Nat.le_trans h.bk a, h.ok⟩
theorem Sj.go {n k : Nat} {d : D} (h : Sj n k d) (hn : n ≤ 300000) (hk : k ≤ 90) : ShOk d ∧ PyData.strOk (strD d) = true := by
 refine ⟨⟨h.nd, h.sh, Nat.le_trans h.dp hk, ?_⟩, ?_⟩
 ·have a := PyData.shown_le_bulk 40 (by decide) d.pd h.lv
  have b := h.bk
  rw [sizeLine_eq]
  omega
 ·unfold PyData.strOk strD
  rw [← Array.all_toList, List.all_eq_true]
  intro c hc
  exact decide_eq_true (h.ok c hc)
theorem Sj.sh_ok {n k : Nat} {d : D} (h : Sj n k d) (hi : d.imm = true) (hn : n ≤ 100000) (hk : k ≤ 90) (hlog : ∀ i, d = .int i → i.natAbs.log2 < 1920) : ShJ d := by
 cases d with
 | non => trivial
 | bl b => trivial
 | int i => exact hlog i rfl
 | str a => trivial
 | tup xs => exact (h.go (by omega) hk).1
 | lF xs => exact (h.go (by omega) hk).1
 | _ => rw [D.imm] at hi; cases hi
theorem Sj.str_ok {n k : Nat} {d : D} (h : Sj n k d) (hi : d.imm = true) (hn : n ≤ 100000) (hk : k ≤ 90) (hs : ∀ a, d = .str a → PyData.strOk a = true) : PyData.strOk (strJ d) = true := by
 cases d with
 | non => decide +kernel
 | bl b => cases b <;> decide +kernel
 | int i =>
   have e : strD (.int i) = strJ (.int i) := by
    show (D.pd (.int i)).shown = _
    rw [D.pd]; exact PyData.shown_int i
   rw [← e]
   exact (h.go (by omega) hk).2
 | str a => exact hs a rfl
 | tup xs => exact (h.go (by omega) hk).2
 | lF xs => exact (h.go (by omega) hk).2
 | _ => rw [D.imm] at hi; cases hi
end BX
namespace BX
open PySem PySem.Spec PyProof.Rows L2
end BX
namespace BX
open PySem PySem.Spec PyProof.Rows L2
open Sem (wp)
end BX
namespace TX
open PySem PySem.Spec PyProof.Rows L2 BX
end TX
namespace BX
open PySem PySem.Spec PyProof.Rows L2
def setF (x : Str) (d : D) : List (Str × D) → List (Str × D)
 | [] => [(x, d)]
 | (g, y) :: r => if g = x then (g, d) :: r else (g, y) :: setF x d r
theorem uD {α : Type} {x : Str} {a : α} {l : List (Str × α)} : List.lookup x ((x, a) :: l) = some a := by
 rw [List.lookup_cons]; simp
theorem zM {α : Type} {x y : Str} {a : α} {l : List (Str × α)} (h : ¬ y = x) : List.lookup x ((y, a) :: l) = List.lookup x l := by
 rw [List.lookup_cons]
 have : (x == y) = false := by simpa using fun z : x = y => h z.symm
 rw [this]
theorem XX {x : Str} {d d' : D} : ∀ {fs : List (Str × D)}, fs.lookup x = some d → (setF x d' fs).map (·.1) = fs.map (·.1)
 | [], h => by cases h
 | (g, y) :: r, h => by
   unfold setF
   by_cases e : g = x
   ·rw [if_pos e]; rfl
   ·rw [if_neg e]
    rw [zM e] at h
    exact congrArg (fun z => g :: z) (XX h)
section
variable {K : PySem.W.Frag} {H : Hp} {lv : Nat}
theorem Rep.obAt {n : Str} {fs : List (Str × D)} {v : V} {g : List Addr} (r : Rep K H lv (.ob n fs) v g) : ∃ a C dx hs F, v = .ref a ∧ H a = some (.ins C dx hs) ∧ PySem.W.nsIn K mainGlobals n = some (some (.ref C)) ∧ hs.map (·.1) = fs.map (·.1) ∧
 Reps K H lv (fs.map (·.2)) (hs.map (·.2)) F ∧ (lv = 0 → a ∉ F) ∧ g = a :: F := by
 cases r with
 | ob h c e r n => exact ⟨_, _, _, _, _, rfl, h, c, e, r, n, rfl⟩
theorem QH {x : Str} {d : D} : ∀ {fs : List (Str × D)} {hs : List (Str × V)} {F : List Addr}, hs.map (·.1) = fs.map (·.1) → Reps K H lv (fs.map (·.2)) (hs.map (·.2)) F → fs.lookup x = some d →
 ∃ v F1 g F2, hs.lookup x = some v ∧ Rep K H lv d v g ∧ F = F1 ++ (g ++ F2) ∧ (lv = 0 → ∀ b ∈ g, b ∉ F1 ∧ b ∉ F2) ∧
  ∀ H' d' g', Rep K H' lv d' v g' → (∀ b o, H b = some o → (b ∈ F1 ∨ b ∈ F2 ∨ Mu o = false) → H' b = some o) → (lv = 0 → ∀ b ∈ g', b ∉ F1 ∧ b ∉ F2) →
   Reps K H' lv ((setF x d' fs).map (·.2)) (hs.map (·.2)) (F1 ++ (g' ++ F2))
 | [], _, _, _, _, h => by cases h
 | (k, d0) :: fs, [], _, e, _, _ => by cases e
 | (k, d0) :: fs, (k1, v1) :: hs, F, e, r, h => by
   injection e with e1 e2
   have e1 : k1 = k := e1
   subst e1
   cases r with
   | @cons _ _ f0 _ _ g0 r t n =>
     by_cases ex : k1 = x
     ·subst ex
      rw [uD] at h
      cases h
      refine ⟨v1, [], f0, g0, uD, r, rfl, fun z b hb => ⟨by simp, n z b hb⟩, fun H' d' g' r' kk nn => ?_⟩
      rw [setF, if_pos rfl]
      refine Reps.cons (f := g') r' (t.keep fun b o hb q => kk b o hb (.inr q)) fun z b hb => (nn z b hb).2
     ·rw [zM ex] at h
      obtain ⟨v, F1, g, F2, a1, a2, a3, a4, a5⟩ := QH e2 t h
      subst a3
      refine ⟨v, f0 ++ F1, g, F2, by rw [zM ex]; exact a1, a2, by rw [List.append_assoc], fun z b hb => ⟨fun q => ?_, (a4 z b hb).2⟩, fun H' d' g' r' kk nn => ?_⟩
      ·rcases List.mem_append.mp q with q | q
       ·exact n z b q (by simp [hb])
       ·exact (a4 z b hb).1 q
      ·rw [setF, if_neg ex, List.append_assoc]
       refine .cons (r.keep fun b o hb q => kk b o hb (q.imp (fun q => List.mem_append_left _ q) fun q => .inr q)) (a5 H' d' g' r' (fun b o hb q => kk b o hb (q.imp (fun q => List.mem_append_right _ q) id)) fun z b hb => ⟨fun q => (nn z b hb).1 (List.mem_append_right _ q), (nn z b hb).2⟩) fun z b hb q => ?_
       rcases List.mem_append.mp q with q | q
       ·exact n z b hb (by simp [q])
       ·rcases List.mem_append.mp q with q | q
        ·exact (nn z b q).1 (List.mem_append_left _ hb)
        ·exact n z b hb (by simp [q])
end
def venv (env : En) (i : Nat) (d : D) : En := env.set i none ++ [some (d, .own)]
section
variable {K : PySem.W.Frag} {σ : L2.St} {H H' : Hp} {env e' : En} {f f' : FA} {i j : Nat} {d dd : D} {m : Md} {v : V} {g G G' : List Addr}
theorem Qm : (venv env i d).length = env.length + 1 := by unfold venv; simp
theorem Ql : (venv env i d)[env.length]? = some (some (d, .own)) := by
 unfold venv
 rw [List.getElem?_append_right (by simp)]
 simp
theorem zW (h : j ≠ i) (hj : j < env.length) : (venv env i d)[j]? = env[j]? := by
 unfold venv
 rw [List.getElem?_append_left (by simpa using hj), qL h]
theorem W9 (hi : i < env.length) : (venv env i d)[i]? = some none := by
 unfold venv
 rw [List.getElem?_append_left (by simpa using hi), wL hi]
theorem jw {x : D × Md} (h : (venv env i d)[j]? = some (some x)) : (j ≠ i ∧ j < env.length ∧ env[j]? = some (some x)) ∨ (j = env.length ∧ x = (d, .own)) := by
 by_cases hj : j < env.length
 ·by_cases hi : j = i
  ·subst hi
   rw [W9 hj] at h; cases h
  ·rw [zW hi hj] at h
   exact .inl ⟨hi, hj, h⟩
 ·have : j < (venv env i d).length := (List.getElem?_eq_some_iff.mp h).1
  rw [Qm] at this
  obtain rfl : j = env.length := by omega
  rw [Ql] at h
  cases h
  exact .inr ⟨rfl, rfl⟩
theorem v_in {dob : D} (A : Abs K σ H env f) (e : env[i]? = some (some (dob, m))) (hl : m.lv = 0) (sub : ∀ b ∈ g, b ∈ f i) (r : Rep K H 0 d v g) : Abs K (σ ++ [some v]) H (venv env i d) (fset f env.length g) where
 rep := fun j dj mj h => by
  rcases jw h with ⟨h1, h2, h3⟩ | ⟨rfl, h3⟩
  ·obtain ⟨w, h4, rp⟩ := A.rep j dj mj h3
   refine ⟨w, ?_, by rw [qH (Nat.ne_of_lt h2)]; exact rp⟩
   rw [List.getElem?_append_left (by rw [← A.len]; exact h2)]; exact h4
  ·cases h3
   refine ⟨v, ?_, by rw [qN]; exact r⟩
   rw [A.len, List.getElem?_append_right (Nat.le_refl _)]; simp
 dis := fun j k dj mj dk mk n h1 h2 hlv b hb => by
  rcases jw h1 with ⟨a1, a2, a3⟩ | ⟨rfl, a3⟩
  ·rw [qH (Nat.ne_of_lt a2)] at hb
   rcases jw h2 with ⟨b1, b2, b3⟩ | ⟨rfl, b3⟩
   ·rw [qH (Nat.ne_of_lt b2)]
    exact A.dis j k _ _ _ _ n a3 b3 hlv b hb
   ·rw [qN]
    exact fun z => A.dis i j _ _ _ _ (Ne.symm a1) e a3 hl b (sub b z) hb
  ·rw [qN] at hb
   rcases jw h2 with ⟨b1, b2, b3⟩ | ⟨rfl, b3⟩
   ·rw [qH (Nat.ne_of_lt b2)]
    exact A.dis i k _ _ _ _ (Ne.symm b1) e b3 hl b (sub b hb)
   ·exact absurd rfl n
 len := by rw [Qm, A.len]; simp
theorem v_l0 {dob : D} (e : env[i]? = some (some (dob, m))) (hl : m.lv = 0) (sub : ∀ b ∈ g, b ∈ f i) {b : Addr} (h : L0 (venv env i d) (fset f env.length g) b) : L0 env f b := by
 obtain ⟨j, dj, mj, h1, h2, hb⟩ := h
 rcases jw h1 with ⟨a1, a2, a3⟩ | ⟨rfl, a3⟩
 ·rw [qH (Nat.ne_of_lt a2)] at hb
  exact ⟨j, dj, mj, a3, h2, hb⟩
 ·rw [qN] at hb
  exact ⟨i, dob, m, e, hl, sub b hb⟩
theorem v_w {dob : D} (e : env[i]? = some (some (dob, m))) (hm : m.rd = false) (sub : ∀ b ∈ g, b ∈ f i) {b : Addr} (h : W (venv env i d) (fset f env.length g) b) : W env f b := by
 obtain ⟨j, dj, mj, h1, h2, hb⟩ := h
 rcases jw h1 with ⟨a1, a2, a3⟩ | ⟨rfl, a3⟩
 ·rw [qH (Nat.ne_of_lt a2)] at hb
  exact ⟨j, dj, mj, a3, h2, hb⟩
 ·rw [qN] at hb
  exact ⟨i, dob, m, e, hm, sub b hb⟩
theorem v_ro {b : Addr} (h : Ro (venv env i d) (fset f env.length g) b) : Ro env f b := by
 obtain ⟨j, dj, mj, h1, h2, hb⟩ := h
 rcases jw h1 with ⟨a1, a2, a3⟩ | ⟨rfl, a3⟩
 ·rw [qH (Nat.ne_of_lt a2)] at hb
  exact ⟨j, dj, mj, a3, h2, hb⟩
 ·cases a3; exact absurd rfl h2
theorem qiv {dob : D} (e : env[i]? = some (some (dob, m))) (hl : m.lv = 0) {b : Addr} (h : Ro env f b) : Ro (venv env i d) (fset f env.length g) b := by
 obtain ⟨j, dj, mj, h1, h2, hb⟩ := h
 have hji : j ≠ i := fun z => by
  subst z
  rw [e] at h1; cases h1
  exact h2 hl
 have hj := (List.getElem?_eq_some_iff.mp h1).1
 exact ⟨j, dj, mj, by rw [zW hji hj]; exact h1, h2, by rw [qH (Nat.ne_of_lt hj)]; exact hb⟩
def Uu (i : Nat) : R → Bool
 | .sl j => !(j == i)
 | _ => true
theorem v_res {dob : D} {r : R} {y : V} {gg : List Addr} (A : Abs K σ H env f) (e : env[i]? = some (some (dob, m))) (hl : m.lv = 0) (sub : ∀ b ∈ g, b ∈ f i) (h : ResOk K σ H env f r y gg) (n : Uu i r = true) :
 ResOk K (σ ++ [some v]) H (venv env i d) (fset f env.length g) r y gg := by
 cases h with
 | tmp r nn => exact .tmp r fun b hb => ⟨fun z => (nn b hb).1 (v_l0 e hl sub z), fun z => (nn b hb).2 (v_ro z)⟩
 | ro r nn => exact .ro r fun b hb => qiv e hl (nn b hb)
 | @sl k _ d1 m1 h1 h2 hm =>
   have hk : k ≠ i := fun z => by subst z; simp [Uu] at n
   have hj := (List.getElem?_eq_some_iff.mp h2).1
   refine .sl (d := d1) (m := m1) ?_ (by rw [zW hk hj]; exact h2) hm
   rw [List.getElem?_append_left (by rw [← A.len]; exact hj)]; exact h1
theorem qd0 {dob : D} (A : Abs K σ H env f) (e : env[i]? = some (some (dob, m))) (hl : m.lv = 0) (sub : ∀ b ∈ g, b ∈ f i) : ∀ {rs : List R} {ys : List V} {gs : List Addr}, ResOks K σ H env f rs ys gs → rs.all (Uu i) = true →
 ResOks K (σ ++ [some v]) H (venv env i d) (fset f env.length g) rs ys gs
 | _, _, _, .nil, _ => .nil
 | _, _, _, .cons r t n, h => by
   rw [List.all_cons, Bool.and_eq_true] at h
   exact .cons (v_res A e hl sub r h.1) (qd0 A e hl sub t h.2) n
def fold (e' : En) (len i : Nat) (x : Str) (fs : List (Str × D)) (n : Str) (m : Md) (d' : D) : En := (e'.take len).set i (some (.ob n (setF x d' fs), m))
theorem qgp {n x : Str} {fs : List (Str × D)} {a C dx : Addr} {hs : List (Str × V)} {F1 F2 : List Addr} {d' : D} (A : Abs K σ H env f) (e : env[i]? = some (some (.ob n fs, m))) (hm : m.rd = false) (hv : σ[i]? = some (some (.ref a)))
 (ha : H a = some (.ins C dx hs)) (hC : PySem.W.nsIn K mainGlobals n = some (some (.ref C))) (hk : hs.map (·.1) = fs.map (·.1)) (hx : fs.lookup x = some d) (hf : f i = a :: (F1 ++ (g ++ F2))) (na : a ∉ F1 ++ (g ++ F2))
 (dj : ∀ b ∈ g, b ∉ F1 ∧ b ∉ F2) (dom : ∀ b ∈ F1 ++ (g ++ F2), ∃ o, H b = some o)
 (re : ∀ H' d' g', Rep K H' 0 d' v g' → (∀ b o, H b = some o → (b ∈ F1 ∨ b ∈ F2 ∨ Mu o = false) → H' b = some o) → (∀ b ∈ g', b ∉ F1 ∧ b ∉ F2) → Reps K H' 0 ((setF x d' fs).map (·.2)) (hs.map (·.2)) (F1 ++ (g' ++ F2)))
 (hG : ∀ b ∈ G, ¬ L0 env f b) (A' : Abs K (σ ++ [some v]) H' e' f') (S' : Stp H (venv env i d) (fset f env.length g) G H' e' f' G') (K' : Kp (venv env i d) (fset f env.length g) e' f') (he : e'[env.length]? = some (some (d', .own))) :
 Abs K σ H' (fold e' env.length i x fs n m d') (fset f' i (a :: (F1 ++ (f' env.length ++ F2)))) ∧ Stp H env f G H' (fold e' env.length i x fs n m d') (fset f' i (a :: (F1 ++ (f' env.length ++ F2)))) G' ∧
  Kp env f (fold e' env.length i x fs n m d') (fset f' i (a :: (F1 ++ (f' env.length ++ F2)))) ∧
  ∀ dd y, ResOk K (σ ++ [some v]) H' e' f' (.tmp dd) y G' → ResOk K σ H' (fold e' env.length i x fs n m d') (fset f' i (a :: (F1 ++ (f' env.length ++ F2)))) (.tmp dd) y G' := by
 have hl : m.lv = 0 := Md.lv_of hm
 have hi : i < env.length := (List.getElem?_eq_some_iff.mp e).1
 have sub : ∀ b ∈ g, b ∈ f i := fun b hb => by rw [hf]; simp [hb]
 have elen : e'.length = env.length + 1 := by rw [A'.len, List.length_append, A.len]; rfl
 have mode : ∀ j, (e'[j]?).map (Option.map Prod.snd) = ((venv env i d)[j]?).map (Option.map Prod.snd) := fun j => by
  rw [← List.getElem?_map, ← List.getElem?_map, K'.modes]
 have gone : e'[i]? = some none := by
  have h := mode i
  rw [W9 hi] at h
  cases h2 : e'[i]? with
  | none => rw [h2] at h; cases h
  | some z => rw [h2] at h; cases z with
    | none => rfl
    | some z => cases h
 have oth : ∀ b, b = a ∨ b ∈ F1 ∨ b ∈ F2 → b ∈ f i ∧ b ∉ g := fun b hb => by
  rcases hb with rfl | hb | hb
  ·exact ⟨by rw [hf]; simp, fun z => na (by simp [z])⟩
  ·exact ⟨by rw [hf]; simp [hb], fun z => (dj b z).1 hb⟩
  ·exact ⟨by rw [hf]; simp [hb], fun z => (dj b z).2 hb⟩
 have nW : ∀ b, b = a ∨ b ∈ F1 ∨ b ∈ F2 → ¬ W (venv env i d) (fset f env.length g) b ∧ b ∉ G ∧ ∃ o, H b = some o := fun b hb => by
  obtain ⟨h1, h2⟩ := oth b hb
  refine ⟨?_, fun z => hG b z ⟨i, _, m, e, hl, h1⟩, ?_⟩
  ·rintro ⟨j, d0, m0, w1, w2, w3⟩
   rcases jw w1 with ⟨a1, a2, a3⟩ | ⟨rfl, a3⟩
   ·rw [qH (Nat.ne_of_lt a2)] at w3
    exact A.dis i j _ _ _ _ (Ne.symm a1) e a3 hl b h1 w3
   ·rw [qN] at w3; exact h2 w3
  ·rcases hb with rfl | hb | hb
   ·exact ⟨_, ha⟩
   ·exact dom b (by simp [hb])
   ·exact dom b (by simp [hb])
 have notN : ∀ b, b = a ∨ b ∈ F1 ∨ b ∈ F2 → ¬ (W e' f' b ∨ b ∈ G') := fun b hb z => by
  obtain ⟨h1, h2, o, h3⟩ := nW b hb
  rcases S'.own b z with z | z | z
  ·exact h1 z
  ·exact h2 z
  ·rw [h3] at z; cases z
 have wTop : ∀ b ∈ f' env.length, W e' f' b := fun b hb => ⟨_, _, _, he, rfl, hb⟩
 have notG : ∀ b ∈ f' env.length, ¬ (b = a ∨ b ∈ F1 ∨ b ∈ F2) := fun b hb z => notN b z (.inl (wTop b hb))
 have spl : ∀ b, b ∈ a :: (F1 ++ (f' env.length ++ F2)) → (b = a ∨ b ∈ F1 ∨ b ∈ F2) ∨ b ∈ f' env.length := fun b hb => by
  simp only [List.mem_cons, List.mem_append] at hb
  rcases hb with hb | hb | hb | hb
  ·exact .inl (.inl hb)
  ·exact .inl (.inr (.inl hb))
  ·exact .inr hb
  ·exact .inl (.inr (.inr hb))
 have old : ∀ {j : Nat} {p : D × Md}, j ≠ i → (fold e' env.length i x fs n m d')[j]? = some (some p) → j < env.length ∧ e'[j]? = some (some p) := fun {j p} hj h => by
  unfold fold at h
  rw [qL hj] at h
  by_cases hlt : j < env.length
  ·rw [List.getElem?_take_of_lt hlt] at h
   exact ⟨hlt, h⟩
  ·rw [List.getElem?_take_eq_none (by omega)] at h; cases h
 have self : (fold e' env.length i x fs n m d')[i]? = some (some (.ob n (setF x d' fs), m)) := by
  unfold fold
  rw [wL (by rw [List.length_take, elen]; omega)]
 have slf : ∀ {p : D × Md}, (fold e' env.length i x fs n m d')[i]? = some (some p) → p = (.ob n (setF x d' fs), m) := fun {p} h => by
  rw [self] at h; cases h; rfl
 have apart : ∀ {j : Nat} {p : D × Md}, j ≠ i → j < env.length → e'[j]? = some (some p) → ∀ b ∈ f' j, ¬ (b ∈ a :: (F1 ++ (f' env.length ++ F2))) := fun {j p} hj hlt h b hb hc => by
  rcases spl b hc with hc | hc
  ·cases hrd : p.2.rd with
   | false => exact notN b hc (.inl ⟨j, p.1, p.2, h, hrd, hb⟩)
   | true =>
     have hmo := mode j
     rw [h, zW hj hlt] at hmo
     cases h2 : env[j]? with
     | none => rw [h2] at hmo; cases hmo
     | some z =>
       rw [h2] at hmo
       cases z with
       | none => cases hmo
       | some z =>
         have hz : p.2 = z.2 := by injection hmo with hmo; injection hmo
         have := K'.ros j z.1 z.2 (by rw [zW hj hlt]; exact h2) (by rw [← hz]; exact hrd)
         rw [this.2, qH (Nat.ne_of_lt hlt)] at hb
         exact A.dis i j _ _ _ _ (Ne.symm hj) e h2 hl b (oth b hc).1 hb
  ·exact A'.dis env.length j _ _ _ _ (Nat.ne_of_gt hlt) he h rfl b hc hb
 have l0 : ∀ b, L0 (fold e' env.length i x fs n m d') (fset f' i (a :: (F1 ++ (f' env.length ++ F2)))) b → L0 e' f' b ∨ b = a ∨ b ∈ F1 ∨ b ∈ F2 := fun b hb => by
  obtain ⟨j, d0, m0, w1, w2, w3⟩ := hb
  by_cases hj : j = i
  ·subst hj
   rw [qN] at w3
   rcases spl b w3 with z | z
   ·exact .inr z
   ·exact .inl ⟨_, _, _, he, rfl, z⟩
  ·rw [qH hj] at w3
   exact .inl ⟨j, d0, m0, (old hj w1).2, w2, w3⟩
 refine ⟨⟨fun j d0 m0 h => ?_, fun j k dj0 mj0 dk0 mk0 hn h1 h2 hlv b hb hc => ?_, ?_⟩, ⟨fun b o hb q => ?_, fun b hb => ?_⟩, ⟨?_, fun j d0 m0 h hrd => ?_⟩, fun dd y r => ?_⟩
 ·by_cases hj : j = i
  ·subst hj
   cases slf h
   refine ⟨.ref a, hv, ?_⟩
   rw [qN, hl]
   have same : ∀ b, b = a ∨ b ∈ F1 ∨ b ∈ F2 → ∀ o, H b = some o → H' b = some o := fun b hb o ho => S'.same b o ho (.inr ⟨(nW b hb).1, (nW b hb).2.1⟩)
   obtain ⟨w, hw, rp⟩ := A'.rep _ _ _ he
   have : w = v := by
    rw [A.len, List.getElem?_append_right (Nat.le_refl _)] at hw
    simpa using hw.symm
   subst this
   refine .ob (same a (.inl rfl) _ ha) hC (by rw [XX hx]; exact hk) (re H' d' _ rp (fun b o ho q => ?_) fun b hb => ⟨fun z => notG b hb (.inr (.inl z)), fun z => notG b hb (.inr (.inr z))⟩) fun _ z => ?_
   ·rcases q with q | q | q
    ·exact same b (.inr (.inl q)) o ho
    ·exact same b (.inr (.inr q)) o ho
    ·exact S'.same b o ho (.inl q)
   ·rcases List.mem_append.mp z with z | z
    ·exact na (by simp [z])
    ·rcases List.mem_append.mp z with z | z
     ·exact notG a z (.inl rfl)
     ·exact na (by simp [z])
  ·obtain ⟨hlt, h'⟩ := old hj h
   obtain ⟨w, hw, rp⟩ := A'.rep _ _ _ h'
   rw [List.getElem?_append_left (by rw [← A.len]; exact hlt)] at hw
   exact ⟨w, hw, by rw [qH hj]; exact rp⟩
 ·by_cases hj : j = i
  ·subst hj
   have hkj : k ≠ j := Ne.symm hn
   obtain ⟨hlt, h2'⟩ := old hkj h2
   rw [qN] at hb
   rw [qH hkj] at hc
   exact apart hkj hlt h2' b hc hb
  ·obtain ⟨hlt, h1'⟩ := old hj h1
   rw [qH hj] at hb
   by_cases hki : k = i
   ·subst hki
    rw [qN] at hc
    exact apart hj hlt h1' b hb hc
   ·rw [qH hki] at hc
    exact A'.dis j k _ _ _ _ hn h1' (old hki h2).2 hlv b hb hc
 ·unfold fold
  rw [List.length_set, List.length_take, elen, A.len]; omega
 ·exact S'.same b o hb (q.imp id fun q => ⟨fun z => q.1 (v_w e hm sub z), q.2⟩)
 ·have : (W e' f' b ∨ b ∈ G') ∨ (b = a ∨ b ∈ F1 ∨ b ∈ F2) := by
   rcases hb with ⟨j, d0, m0, w1, w2, w3⟩ | hb
   ·by_cases hj : j = i
    ·subst hj
     rw [qN] at w3
     rcases spl b w3 with z | z
     ·exact .inr z
     ·exact .inl (.inl (wTop b z))
    ·rw [qH hj] at w3
     exact .inl (.inl ⟨j, d0, m0, (old hj w1).2, w2, w3⟩)
   ·exact .inl (.inr hb)
  rcases this with z | z
  ·exact (S'.own b z).imp (v_w e hm sub) id
  ·exact .inl ⟨i, _, m, e, hm, (oth b z).1⟩
 ·refine List.ext_getElem? fun j => ?_
  rw [List.getElem?_map, List.getElem?_map]
  by_cases hj : j = i
  ·subst hj
   rw [self, e]; rfl
  ·unfold fold
   rw [qL hj]
   by_cases hlt : j < env.length
   ·rw [List.getElem?_take_of_lt hlt, mode j, zW hj hlt]
   ·rw [List.getElem?_take_eq_none (by omega), List.getElem?_eq_none (by omega)]
 ·have hj : j ≠ i := fun z => by
   subst z
   rw [e] at h; cases h
   rw [hm] at hrd; cases hrd
  have hlt := (List.getElem?_eq_some_iff.mp h).1
  obtain ⟨k1, k2⟩ := K'.ros j d0 m0 (by rw [zW hj hlt]; exact h) hrd
  refine ⟨?_, by rw [qH hj, k2, qH (Nat.ne_of_lt hlt)]⟩
  unfold fold
  rw [qL hj, List.getElem?_take_of_lt hlt]; exact k1
 ·cases r with
  | tmp r nn =>
    refine .tmp r fun b hb => ⟨fun z => ?_, fun z => ?_⟩
    ·rcases l0 b z with z | z
     ·exact (nn b hb).1 z
     ·exact notN b z (.inr hb)
    ·obtain ⟨j, d0, m0, w1, w2, w3⟩ := z
     have hj : j ≠ i := fun z => by
      subst z
      cases slf w1
      exact w2 hl
     rw [qH hj] at w3
     exact (nn b hb).2 ⟨j, d0, m0, (old hj w1).2, w2, w3⟩
end
end BX
namespace BX
open PySem PySem.Spec PyProof.Rows L2
section
variable {K : PySem.W.Frag} {σ : L2.St} {H H2 : Hp} {env e2 : En} {f f2 : FA} {i j : Nat} {d : D} {m : Md} {gs : List Addr}
theorem qey (A : Abs K σ H env f) : Abs K σ H (env.set i none) f where
 rep := fun j d m h => by
  have hj : j ≠ i := fun z => by
   subst z
   rw [wL (by have := (List.getElem?_eq_some_iff.mp h).1; simpa using this)] at h; cases h
  rw [qL hj] at h
  exact A.rep j d m h
 dis := fun j k d m d' m' n h1 h2 hl => by
  have go : ∀ {j : Nat} {p : D × Md}, (env.set i none)[j]? = some (some p) → env[j]? = some (some p) := fun {j p} h => by
   have hj : j ≠ i := fun z => by
    subst z
    rw [wL (by have := (List.getElem?_eq_some_iff.mp h).1; simpa using this)] at h; cases h
   rwa [qL hj] at h
  exact A.dis j k d m d' m' n (go h1) (go h2) hl
 len := by rw [List.length_set]; exact A.len
theorem qec (A : Abs K σ H env f) (e : env[i]? = some (some (d, m))) (hm : m.rd = false) (A2 : Abs K σ H2 e2 f2) (S2 : Stp H (env.set i none) f [] H2 e2 f2 gs) (K2 : Kp (env.set i none) f e2 f2) :
 e2[i]? = some none ∧ (∀ b ∈ f i, ∀ o, H b = some o → H2 b = some o) ∧ Abs K σ H2 (e2.set i (some (d, m))) (fset f2 i (f i)) ∧ Stp H env f [] H2 (e2.set i (some (d, m))) (fset f2 i (f i)) gs ∧ Kp env f (e2.set i (some (d, m))) (fset f2 i (f i)) ∧
  ∀ rs ys, ResOks K σ H2 e2 f2 rs ys gs → ResOks K σ H2 (e2.set i (some (d, m))) (fset f2 i (f i)) rs ys gs ∧ rs.all (Uu i) = true := by
 have hl : m.lv = 0 := Md.lv_of hm
 have hi : i < env.length := (List.getElem?_eq_some_iff.mp e).1
 have l2 : e2.length = env.length := by rw [A2.len, A.len]
 have mode : ∀ j, (e2[j]?).map (Option.map Prod.snd) = ((env.set i none)[j]?).map (Option.map Prod.snd) := fun j => by
  rw [← List.getElem?_map, ← List.getElem?_map, K2.modes]
 have gone : e2[i]? = some none := by
  have h := mode i
  rw [wL hi] at h
  cases h2 : e2[i]? with
  | none => rw [h2] at h; cases h
  | some z => rw [h2] at h; cases z with
    | none => rfl
    | some z => cases h
 obtain ⟨v, hv, rp⟩ := A.rep i d m e
 have nW : ∀ b ∈ f i, ¬ W (env.set i none) f b := fun b hb => by
  rintro ⟨j, d0, m0, w1, w2, w3⟩
  have hj : j ≠ i := fun z => by subst z; rw [wL hi] at w1; cases w1
  rw [qL hj] at w1
  exact A.dis i j _ _ _ _ (Ne.symm hj) e w1 hl b hb w3
 have notN : ∀ b ∈ f i, ¬ (W e2 f2 b ∨ b ∈ gs) := fun b hb z => by
  rcases S2.own b z with z | z | z
  ·exact nW b hb z
  ·simp at z
  ·obtain ⟨o, ho, _⟩ := rp.dom b hb
   rw [ho] at z; cases z
 have old : ∀ {j : Nat} {p : D × Md}, j ≠ i → (e2.set i (some (d, m)))[j]? = some (some p) → e2[j]? = some (some p) := fun {j p} hj h => by rwa [qL hj] at h
 have self : (e2.set i (some (d, m)))[i]? = some (some (d, m)) := wL (by rw [l2]; exact hi)
 have neI : ∀ {j : Nat} {p : D × Md}, e2[j]? = some (some p) → j ≠ i := fun {j p} h z => by subst z; rw [gone] at h; cases h
 have apart : ∀ {j : Nat} {p : D × Md}, e2[j]? = some (some p) → ∀ b ∈ f2 j, b ∉ f i := fun {j p} h b hb hc => by
  cases hrd : p.2.rd with
  | false => exact notN b hc (.inl ⟨j, p.1, p.2, h, hrd, hb⟩)
  | true =>
    have hj := neI h
    have hmo := mode j
    rw [h, qL hj] at hmo
    cases h2 : env[j]? with
    | none => rw [h2] at hmo; cases hmo
    | some z =>
      rw [h2] at hmo
      cases z with
      | none => cases hmo
      | some z =>
        have hz : p.2 = z.2 := by injection hmo with hmo; injection hmo
        have := K2.ros j z.1 z.2 (by rw [qL hj]; exact h2) (by rw [← hz]; exact hrd)
        rw [this.2] at hb
        exact A.dis i j _ _ _ _ (Ne.symm hj) e h2 hl b hc hb
 have l0 : ∀ b ∈ gs, L0 (e2.set i (some (d, m))) (fset f2 i (f i)) b → L0 e2 f2 b := fun b hg hb => by
  obtain ⟨j, d0, m0, w1, w2, w3⟩ := hb
  by_cases hj : j = i
  ·subst hj
   rw [qN] at w3
   exact absurd (.inr hg) (notN b w3)
  ·rw [qH hj] at w3
   exact ⟨j, d0, m0, old hj w1, w2, w3⟩
 have ro : ∀ b, Ro (e2.set i (some (d, m))) (fset f2 i (f i)) b → Ro e2 f2 b := fun b hb => by
  obtain ⟨j, d0, m0, w1, w2, w3⟩ := hb
  have hj : j ≠ i := fun z => by
   subst z
   rw [self] at w1; cases w1
   exact w2 hl
  rw [qH hj] at w3
  exact ⟨j, d0, m0, old hj w1, w2, w3⟩
 have ro' : ∀ b, Ro e2 f2 b → Ro (e2.set i (some (d, m))) (fset f2 i (f i)) b := fun b hb => by
  obtain ⟨j, d0, m0, w1, w2, w3⟩ := hb
  have hj := neI w1
  exact ⟨j, d0, m0, by rw [qL hj]; exact w1, w2, by rw [qH hj]; exact w3⟩
 have keep : ∀ b ∈ f i, ∀ o, H b = some o → H2 b = some o := fun b hb o ho => S2.same b o ho (.inr ⟨nW b hb, by simp⟩)
 refine ⟨gone, keep, ⟨fun j d0 m0 h => ?_, fun j k dj0 mj0 dk0 mk0 hn h1 h2 hlv b hb hc => ?_, by rw [List.length_set]; exact A2.len⟩, ⟨fun b o hb q => ?_, fun b hb => ?_⟩, ⟨?_, fun j d0 m0 h hrd => ?_⟩, fun rs ys h => ?_⟩
 ·by_cases hj : j = i
  ·subst hj
   rw [self] at h; cases h
   refine ⟨v, hv, ?_⟩
   rw [qN]
   exact rp.keep fun b o ho q => q.elim (fun q => keep b q o ho) fun q => S2.same b o ho (.inl q)
  ·rw [qH hj]; exact A2.rep j d0 m0 (old hj h)
 ·by_cases hj : j = i
  ·subst hj
   have hkj : k ≠ j := Ne.symm hn
   rw [qN] at hb
   rw [qH hkj] at hc
   exact apart (old hkj h2) b hc hb
  ·rw [qH hj] at hb
   by_cases hki : k = i
   ·subst hki
    rw [qN] at hc
    exact apart (old hj h1) b hb hc
   ·rw [qH hki] at hc
    exact A2.dis j k _ _ _ _ hn (old hj h1) (old hki h2) hlv b hb hc
 ·refine S2.same b o hb (q.imp id fun q => ⟨fun z => q.1 ?_, q.2⟩)
  obtain ⟨j, d0, m0, w1, w2, w3⟩ := z
  have hj : j ≠ i := fun z => by subst z; rw [wL hi] at w1; cases w1
  rw [qL hj] at w1
  exact ⟨j, d0, m0, w1, w2, w3⟩
 ·have up : ∀ b, W (env.set i none) f b → W env f b := fun b ⟨j, d0, m0, w1, w2, w3⟩ => by
   have hj : j ≠ i := fun z => by subst z; rw [wL hi] at w1; cases w1
   rw [qL hj] at w1
   exact ⟨j, d0, m0, w1, w2, w3⟩
  rcases hb with ⟨j, d0, m0, w1, w2, w3⟩ | hb
  ·by_cases hj : j = i
   ·subst hj
    rw [qN] at w3
    exact .inl ⟨j, _, _, e, hm, w3⟩
   ·rw [qH hj] at w3
    exact (S2.own b (.inl ⟨j, d0, m0, old hj w1, w2, w3⟩)).imp (up b) id
  ·exact (S2.own b (.inr hb)).imp (up b) id
 ·refine List.ext_getElem? fun j => ?_
  rw [List.getElem?_map, List.getElem?_map]
  by_cases hj : j = i
  ·subst hj
   rw [self, e]
  ·rw [qL hj, mode j, qL hj]
 ·have hj : j ≠ i := fun z => by
   subst z
   rw [e] at h; cases h
   rw [hm] at hrd; cases hrd
  obtain ⟨k1, k2⟩ := K2.ros j d0 m0 (by rw [qL hj]; exact h) hrd
  exact ⟨by rw [qL hj]; exact k1, by rw [qH hj]; exact k2⟩
 ·have one : ∀ {r : R} {y : V} {g : List Addr}, (∀ b ∈ g, b ∈ gs) → ResOk K σ H2 e2 f2 r y g → ResOk K σ H2 (e2.set i (some (d, m))) (fset f2 i (f i)) r y g ∧ Uu i r = true := fun {r y g} sub h => by
   cases h with
   | tmp r nn => exact ⟨.tmp r fun b hb => ⟨fun z => (nn b hb).1 (l0 b (sub b hb) z), fun z => (nn b hb).2 (ro b z)⟩, rfl⟩
   | ro r nn => exact ⟨.ro r fun b hb => ro' b (nn b hb), rfl⟩
   | @sl k _ d1 m1 h1 h2 hm =>
     have hk := neI h2
     refine ⟨.sl (d := d1) (m := m1) h1 (by rw [qL hk]; exact h2) hm, ?_⟩
     simp [Uu, hk]
  have all : ∀ {rs : List R} {ys : List V} {g : List Addr}, (∀ b ∈ g, b ∈ gs) → ResOks K σ H2 e2 f2 rs ys g → ResOks K σ H2 (e2.set i (some (d, m))) (fset f2 i (f i)) rs ys g ∧ rs.all (Uu i) = true := fun {rs ys g} sub h => by
   induction h with
   | nil => exact ⟨.nil, rfl⟩
   | cons r t n ih =>
     obtain ⟨a1, a2⟩ := one (fun b hb => sub b (List.mem_append_left _ hb)) r
     obtain ⟨b1, b2⟩ := ih fun b hb => sub b (List.mem_append_right _ hb)
     exact ⟨.cons a1 b1 n, by rw [List.all_cons, a2, b2]; rfl⟩
  exact all (fun b hb => hb) h
end
end BX
namespace BX
open PySem PySem.Spec PyProof.Rows L2
def obK (n : Str) (d : D) (k : List (Str × D) → Prop) : Prop := match d with
 | .ob m fs => m = n ∧ k fs
 | _ => False
def fldK (x : Str) (fs : List (Str × D)) (k : D → Prop) : Prop := match fs.lookup x with
 | some d => k d
 | none => False
theorem qdw {n : Str} {d : D} {k k' : List (Str × D) → Prop} (h : ∀ fs, k fs → k' fs) (q : obK n d k) : obK n d k' := by
 cases d <;> first | exact q.elim | exact ⟨q.1, h _ q.2⟩
theorem Jo {x : Str} {fs : List (Str × D)} {k k' : D → Prop} (h : ∀ d, k d → k' d) (q : fldK x fs k) : fldK x fs k' := by
 unfold fldK at q ⊢
 cases e : fs.lookup x with
 | none => rw [e] at q; exact q
 | some d => rw [e] at q; exact h d q
theorem qef {n : Str} {d : D} {k : List (Str × D) → Prop} (q : obK n d k) : ∃ fs, d = .ob n fs ∧ k fs := by
 cases d <;> first | exact q.elim | (obtain ⟨rfl, q⟩ := q; exact ⟨_, rfl, q⟩)
theorem qcv {x : Str} {fs : List (Str × D)} {k : D → Prop} (q : fldK x fs k) : ∃ d, fs.lookup x = some d ∧ k d := by
 unfold fldK at q
 cases e : fs.lookup x with
 | none => rw [e] at q; exact q.elim
 | some d => rw [e] at q; exact ⟨d, rfl, q⟩
def ObF (K : PySem.W.Frag) (n f : Str) : Prop := ∀ C, PySem.W.nsIn K mainGlobals n = some (some (.ref C)) → Cls K C ∧ NoAttr K C f
abbrev XV := En → (D → En → Prop) → Prop
def qfl (K : PySem.W.Frag) (L : Nat) (t : XV) : TE := fun σ H Q => ∃ env f, Abs K σ H env f ∧ t env fun d e1 => ∀ v H' f' g, Abs K σ H' e1 f' → Rep K H' L d v g → Stp H env f [] H' e1 f' [] → Kp env f e1 f' → Q v H'
def qfY (t : XV) : Prop := ∀ env Q Q', (∀ d e, Q d e → Q' d e) → t env Q → t env Q'
structure DV (X : Cx) (e : Expr) (L : Nat) (t : XV) : Prop where
 run : PE X e (qfl X.K L t)
 mono : qfY t
def ZV (n x : Str) (L : Nat) (t : XE) : XV := fun env Q => t env fun r e => rd L r e fun d => obK n d fun fs => fldK x fs fun d' => Q d' e
section
variable {X : Cx} {o e : Expr} {t ta : XE} {tv : XV} {n x : Str} {pos : Pos} {L : Nat}
theorem Yr (ha : DE X o t) (c : ObF X.K n x) (hb : attributeBase o x X.env (eval o X.env) = eval o X.env := by rfl) : DV X (.Attribute o x pos) L (ZV n x L t) := by
 refine ⟨PE.imp (pe_fld ha.run hb) fun σ H Q q => ?_, fun env Q Q' h q => ha.mono _ _ _ (fun r e q => qO (fun d q => qdw (fun fs q => Jo (fun d q => h _ _ q) q) q) q) q⟩
 obtain ⟨env, f, A, q⟩ := q
 refine ⟨env, f, A, ha.mono _ _ _ (fun r e1 q => ?_) q⟩
 intro v H1 f1 g1 A1 R1 S1 K1
 obtain ⟨d, g', rp, q⟩ := yO A1 R1 q
 obtain ⟨fs, ed, q2⟩ := qef q
 subst ed
 obtain ⟨d', hx, q3⟩ := qcv q2
 obtain ⟨a, C, dx, hs, F, rfl, hH, hC, hk, rr, _, _⟩ := rp.obAt
 obtain ⟨w, F1, g, F2, hw, rw', _⟩ := QH hk rr hx
 exact ⟨a, C, dx, hs, w, rfl, hH, (c C hC).1, (c C hC).2, hw, q3 w H1 f1 g A1 rw' (S1.drop (G2 := []) fun _ z => by simp at z) K1⟩
def Yd (L : Nat) (op : D → D → (D → Prop) → Prop) (ta : XE) (tv : XV) : XE := fun env Q => ta env fun r1 e1 => tv e1 fun d2 e2 => rd L r1 e2 fun d1 => op d1 d2 fun d => Q (.tmp d) e2
variable {a b : Expr} {op' : D → D → (D → Prop) → Prop}
def qan (op : OPn) (tv : XV) : XE := fun env Q => tv env fun d e => op [d] fun d' => Q (.tmp d') e
theorem Ju {nm : Str} {p : Pos} {id : String} {op : OPn} (hc : CallD X (.builtin id) L op) (hg : Gl X nm) (hm : X.mg nm = none) (hb : bootBuiltins nm = some (.builtin id)) (hv : DV X e L tv) (hn : nm ≠ "__name__" := by decide) (hdb : (nm == ("__debug__" : Str)) = false := by decide)
 (hs : starEach [e] X.env = (false, eval e X.env) :: starEach [] X.env := by rfl) (hpl : (backTo pos (starEach [] X.env)).any (·.1) = false := by rfl) : DE X (.Call (.Name nm p) [e] [] pos) (qan op tv) := by
 refine ⟨PE.imp (pe_callB hc.run hg hm hb (pa_cons hv.run pa_nil hs) hn hdb hs hpl) fun σ H Q q => ?_, fun env Q Q' h q => hv.mono _ _ _ (fun d e q => hc.mono _ _ _ (fun d q => h _ _ q) q) q⟩
 obtain ⟨env, f, A, q⟩ := q
 refine ⟨env, f, A, hv.mono _ _ _ (fun d e1 q => ?_) q⟩
 intro v H1 f1 g A1 rp S1 K1
 have hL := hc.pos
 refine ⟨[d], g ++ [], .cons rp .nil fun z => by omega, hc.mono _ _ _ (fun d' q => ?_) q⟩
 intro z H' g' rz x
 obtain ⟨A3, R3, S3⟩ := vI A1 S1 x rz
 exact q z H' f1 g' A3 R3 S3 K1
end
theorem ResOk.fresh {K : PySem.W.Frag} {σ : L2.St} {H : Hp} {env : En} {f : FA} {r : R} {v : V} {g : List Addr} (h : ResOk K σ H env f r v g) : ∀ b ∈ g, ¬ L0 env f b ∧ ¬ Ro env f b := by
 cases h with
 | tmp r nn => exact nn
 | ro r nn => exact fun b hb => by simp at hb
 | sl h1 h2 h3 => exact fun b hb => by simp at hb
theorem ResOks.fresh {K : PySem.W.Frag} {σ : L2.St} {H : Hp} {env : En} {f : FA} : ∀ {rs : List R} {vs : List V} {gs : List Addr}, ResOks K σ H env f rs vs gs → ∀ b ∈ gs, ¬ L0 env f b ∧ ¬ Ro env f b
 | _, _, _, .nil, b, hb => by simp at hb
 | _, _, _, .cons r t n, b, hb => (List.mem_append.mp hb).elim (r.fresh b) (t.fresh b)
def fldM (n x : Str) (i : Nat) (env : En) (k : List (Str × D) → Md → D → Prop) : Prop := match env[i]? with
 | some (some (.ob n' fs, m)) => n' = n ∧ m.rd = false ∧ fldK x fs (k fs m)
 | _ => False
def dMnF (n x : Str) (isT : D → Bool) (B : Bn) (i : Nat) (u : XA) : XE := fun env Q => fldM n x i env fun fs m d => isT d = true ∧ u (env.set i none) fun rs e2 =>
 B (.sl e2.length) rs (e2 ++ [some (d, .own)]) fun r' e' => match e'[e2.length]?, r' with
  | some (some (d', .own)), .tmp dd => Q (.tmp dd) (fold e' e2.length i x fs n m d')
  | _, _ => False
theorem Jm {n x : Str} {i : Nat} {env : En} {k k' : List (Str × D) → Md → D → Prop} (h : ∀ fs m d, k fs m d → k' fs m d) (q : fldM n x i env k) : fldM n x i env k' := by
 unfold fldM at q ⊢
 split at q
 ·exact ⟨q.1, q.2.1, Jo (fun d q => h _ _ d q) q.2.2⟩
 ·exact q.elim
theorem qcu {n x : Str} {i : Nat} {env : En} {k : List (Str × D) → Md → D → Prop} (q : fldM n x i env k) : ∃ fs m d, env[i]? = some (some (.ob n fs, m)) ∧ m.rd = false ∧ fs.lookup x = some d ∧ k fs m d := by
 unfold fldM at q
 split at q
 ·rename_i e
  obtain ⟨rfl, hm, q⟩ := q
  obtain ⟨d, hx, q⟩ := qcv q
  exact ⟨_, _, d, e, hm, hx, q⟩
 ·exact q.elim
section
variable {X : Cx} {o e : Expr} {es : List Expr} {u : XA} {cpos apos pos : Pos} {T id : String} {name n x : Str} {isT : D → Bool} {rr : V → List V → Hp → VK → Prop} {B : Bn} {i : Nat}
theorem Vp {env : En} {fs : List (Str × D)} {m : Md} {Q : R → En → Prop} (e : env[i]? = some (some (.ob n fs, m))) (hm : m.rd = false) (q : Q (.sl i) env) : dVar i env Q := by
 unfold dVar
 rw [e]
 cases m <;> first | exact q | cases hm
theorem Jy (ok : MnOk X T isT rr B) (mu : vM u) : xV (dMnF n x isT B i u) := fun env Q Q' h q => Jm (fun fs m d q => ⟨q.1, mu _ _ _ (fun rs e2 q => ok.mono _ _ _ _ _ (fun r' e' q => by
 split at q
 ·exact h _ _ q
 ·exact q.elim) q) q.2⟩) q
theorem qac (ok : MnOk X T isT rr B) (c : ObF X.K n x) (mu : vM u) {σ : L2.St} {H : Hp} {Q : VK} (q : jx X.K (dMnF n x isT B i u) σ H Q) :
 tFld X.K (jx X.K (dVar i)) x σ H fun y H1 => tyV X.K T y H1 ∧ Uw X.K u σ H1 fun ys H2 => rr y ys H2 Q := by
 obtain ⟨env, f, A, q⟩ := q
 obtain ⟨fs, m, d, e, hm, hx, hT, q⟩ := qcu q
 refine ⟨env, f, A, Vp e hm ?_⟩
 intro y H1 f1 g1 A1 R1 S1 K1
 cases R1 with
 | @sl _ _ d0 m0 h1 h2 h3 =>
   rw [e] at h2; cases h2
   obtain ⟨v0, hv0, rp⟩ := A1.rep _ _ _ e
   rw [h1] at hv0; cases hv0
   rw [h3] at rp
   obtain ⟨a, C, dx, hs, F, rfl, hH, hC, hk, r0, na, hf⟩ := rp.obAt
   obtain ⟨w, F1, g, F2, hw, rw', rfl, dj, re⟩ := QH hk r0 hx
   have dj := dj rfl
   have na := na rfl
   refine ⟨a, C, dx, hs, w, rfl, hH, (c C hC).1, (c C hC).2, hw, ok.ty _ _ _ _ (rw'.up (Nat.zero_le 1)) hT, env.set i none, f1, qey A1, mu _ _ _ (fun rs e2 q2 => ?_) q⟩
   intro ys H2 f2 gs A2 R2 S2 K2
   obtain ⟨gone, keep, A3, S3, K3, res⟩ := qec A1 e hm A2 S2 K2
   obtain ⟨R3, ns⟩ := res rs ys R2
   have l2 : e2.length = env.length := by rw [A2.len, A1.len]
   have hi : i < env.length := (List.getElem?_eq_some_iff.mp e).1
   have e3 : (e2.set i (some (.ob n fs, m)))[i]? = some (some (.ob n fs, m)) := wL (by omega)
   have ve : venv (e2.set i (some (.ob n fs, m))) i d = e2 ++ [some (d, .own)] := by
    unfold venv
    rw [List.set_set]
    congr 1
    refine List.ext_getElem? fun j => ?_
    by_cases hj : j = i
    ·subst hj; rw [wL (by omega), gone]
    ·rw [qL hj]
   have hH2 : H2 a = some (.ins C dx hs) := keep a (by rw [hf]; exact List.mem_cons_self ..) _ hH
   have fi : (fset f2 i (f1 i)) i = a :: (F1 ++ (g ++ F2)) := by rw [qN, hf]
   have inF : ∀ b ∈ F1 ++ (g ++ F2), b ∈ f1 i := fun b hb => by rw [hf]; exact List.mem_cons_of_mem _ hb
   have rw2 : Rep X.K H2 0 d w g := rw'.keep fun b o ho z => z.elim (fun z => keep b (inF b (by simp [z])) o ho) fun z => S2.same b o ho (.inl z)
   have re2 : ∀ H' d' g', Rep X.K H' 0 d' w g' → (∀ b o, H2 b = some o → (b ∈ F1 ∨ b ∈ F2 ∨ Mu o = false) → H' b = some o) → (∀ b ∈ g', b ∉ F1 ∧ b ∉ F2) → Reps X.K H' 0 ((setF x d' fs).map (·.2)) (hs.map (·.2)) (F1 ++ (g' ++ F2)) := fun H' d' g' r' kk nn =>
    re H' d' g' r' (fun b o ho z => by
     rcases z with z | z | z
     ·exact kk b o (keep b (inF b (by simp [z])) o ho) (.inl z)
     ·exact kk b o (keep b (inF b (by simp [z])) o ho) (.inr (.inl z))
     ·exact kk b o (S2.same b o ho (.inl z)) (.inr (.inr z))) fun _ => nn
   have sub : ∀ b ∈ g, b ∈ (fset f2 i (f1 i)) i := fun b hb => by rw [fi]; simp [hb]
   have A4 := v_in A3 e3 h3 sub rw2
   have R4 := qd0 (v := w) (d := d) (g := g) A3 e3 h3 sub R3 ns
   have hle : (e2.set i (some (.ob n fs, m))).length = e2.length := by rw [List.length_set]
   have dg : ∀ b ∈ gs, ¬ L0 (e2.set i (some (.ob n fs, m))) (fset f2 i (f1 i)) b := fun b hb => (R3.fresh b hb).1
   refine ok.run (σ ++ [some w]) H2 _ _ (.sl e2.length) rs w ys [] gs _ Q A4 ?_ R4 (fun b hb => by simp at hb) (by rw [ve]; exact q2) fun v H' e' f' r' g' A' R' S' K' q => ?_
   ·refine .sl (d := d) (m := .own) ?_ ?_ rfl
    ·rw [A2.len, List.getElem?_append_right (Nat.le_refl _)]; simp
    ·rw [← hle]; exact Ql
   ·split at q
    ·rename_i d' dd h5
     have A5 : Abs X.K σ H2 (e2.set i (some (.ob n fs, m))) (fset f2 i (f1 i)) := A3
     obtain ⟨A6, S6, K6, R6⟩ := qgp (d' := d') A5 e3 hm h1 hH2 hC hk hx fi na dj (fun b hb => by
      obtain ⟨o, ho, _⟩ := rp.dom b (by rw [hf]; exact List.mem_cons_of_mem _ hb)
      exact ⟨o, keep b (inF b hb) o ho⟩) re2 dg A' (by simpa using S') K' (by rw [hle]; exact h5)
     rw [hle] at A6 S6 K6 R6
     refine q v H' _ g' A6 (R6 _ _ R') ?_ ?_
     ·exact S1.trans (S3.trans S6)
     ·exact K1.trans (K3.trans K6)
    ·exact q.elim
theorem qev (ok : MnOk X T isT rr B) (pa : PlainAttrs T) (slot : Slot T name id) (hty : typeOf (.builtin id) = pure (.type "method_descriptor")) (hm : MtR X id rr) (ho : DE X o (dVar i)) (c : ObF X.K n x) (ha : DA X (e :: es) u)
 (hb : attributeBase o x X.env (eval o X.env) = eval o X.env := by rfl) (hbase : attributeBase (.Attribute o x pos) name X.env (eval (.Attribute o x pos) X.env) = eval (.Attribute o x pos) X.env := by rfl)
 (hfew : ((backTo cpos (starEach (e :: es) X.env)).all (fun x => !x.1) && (backToKw cpos (keywordEach [] X.env)).all (fun x => x.1.isSome)
  && decide ((e :: es).length + ([] : List Keyword).length + (if ([] : List Keyword).isEmpty then 0 else 1) < 30)) = true := by rfl)
 (hline : (apos.endLine == cpos.line) = true := by rfl) (hs : starEach (e :: es) X.env = (false, eval e X.env) :: starEach es X.env := by rfl) (hplain : (backTo cpos (starEach es X.env)).any (·.1) = false := by rfl) :
 DE X (.Call (.Attribute (.Attribute o x pos) name apos) (e :: es) [] cpos) (dMnF n x isT B i u) :=
 ⟨PE.imp (pe_bm pa slot hty hm (pe_fld ho.run hb) ha.run hbase hfew hline hs hplain) fun σ H Q q => qac ok c ha.mono q, Jy ok ha.mono⟩
theorem qfH (ok : MnOk X T isT rr B) (pa : PlainAttrs T) (slot : Slot T name id) (hty : typeOf (.builtin id) = pure (.type "method_descriptor")) (hm : MtR X id rr) (ho : DE X o (dVar i)) (c : ObF X.K n x)
 (hb : attributeBase o x X.env (eval o X.env) = eval o X.env := by rfl) (hbase : attributeBase (.Attribute o x pos) name X.env (eval (.Attribute o x pos) X.env) = eval (.Attribute o x pos) X.env := by rfl)
 (hline : (apos.endLine == cpos.line) = true := by rfl) :
 DE X (.Call (.Attribute (.Attribute o x pos) name apos) [] [] cpos) (dMnF n x isT B i aNil) := by
 have mn : vM aNil := fun env Q Q' h q => h _ _ q
 refine ⟨PE.imp (pe_bm0 pa slot hty hm (pe_fld ho.run hb) hbase hline) fun σ H Q q => ?_, Jy ok mn⟩
 have h := qac ok c mn q
 obtain ⟨env, f, A, h⟩ := h
 refine ⟨env, f, A, ho.mono _ _ _ (fun r1 e1 z => ?_) h⟩
 intro y H1 f1 g1 a1 b1 c1 d1
 obtain ⟨a, C, dx, hs, w, k1, k2, k3, k4, k5, t, env2, f2, A2, q2⟩ := z y H1 f1 g1 a1 b1 c1 d1
 exact ⟨a, C, dx, hs, w, k1, k2, k3, k4, k5, t, q2 [] H1 f2 [] A2 .nil .refl .refl⟩
end
end BX
namespace BX
open PySem PySem.Spec PyProof.Rows L2
structure Mt (P : Program) (w : World) (K : PySem.W.Frag) (mg : Str → Option Value) (base : Heap) (n x : Str) (k : Nat) (ps : List Str) (S : FS) : Prop where
 ex : ∃ C f fd, PySem.W.nsIn K mainGlobals n = some (some (.ref C)) ∧ Cls K C ∧ Meth K C x f ∧ FnOk P w K mg base CX0 k f fd ps (spOf K S) ∧ Binds K fd ps []
 mono : Wg S
def vp (n x : Str) (S : FS) (ta : XE) (u : XA) : XE := fun env Q => ta env fun r1 e1 => (rd 2 r1 e1 fun d => obK n d fun fs => fs.lookup x = none) ∧ u e1 fun rs e2 =>
 zG S.ms (r1 :: rs) e2 = true ∧ apart S.ms (r1 :: rs) = true ∧ jr 2 (r1 :: rs) e2 fun ds => S.wp ds fun d ds' => Q (.tmp d) (putB S.ms (r1 :: rs) ds' 0 e2)
theorem lookup_none {α β : Type} {x : Str} : ∀ {fs : List (Str × α)} {hs : List (Str × β)}, hs.map (·.1) = fs.map (·.1) → fs.lookup x = none → hs.lookup x = none
 | [], [], _, _ => rfl
 | [], _ :: _, e, _ => by cases e
 | _ :: _, [], e, _ => by cases e
 | (k, d) :: fs, (k1, v) :: hs, e, h => by
   injection e with e1 e2
   have e1 : k1 = k := e1
   subst e1
   by_cases ex : k1 = x
   ·subst ex; rw [uD] at h; cases h
   ·rw [zM ex] at h ⊢
    exact lookup_none e2 h
section
variable {X : Cx} {o e : Expr} {es : List Expr} {ta : XE} {u : XA} {pos apos : Pos} {n x : Str} {k : Nat} {ps : List Str} {S : FS}
theorem Yv (hS : Wg S) (ma : xV ta) (mu : vM u) : xV (vp n x S ta u) := fun env Q Q' h q => ma _ _ _ (fun r e q => ⟨q.1, mu _ _ _ (fun rs e q => ⟨q.1, q.2.1, jC (fun ds q => hS _ _ _ (fun d es q => h _ _ q) q) q.2.2⟩) q.2⟩) q
theorem Je {K : PySem.W.Frag} {C : Addr} (hC : PySem.W.nsIn K mainGlobals n = some (some (.ref C))) (hS : Wg S) (ma : xV ta) (mu : vM u) {σ : L2.St} {H : Hp} {E : XK} {Q : VK} (q : jx K (vp n x S ta u) σ H Q) :
 tMeth C x (spOf K S) [] E (jx K ta) (Uw K u) σ H Q := by
 obtain ⟨env, f, A, q⟩ := q
 have h := Vi (B := fun r1 e1 => rd 2 r1 e1 fun d => obK n d fun fs => fs.lookup x = none) (C := fun r1 rs e2 => zG S.ms (r1 :: rs) e2 = true ∧ apart S.ms (r1 :: rs) = true ∧ jr 2 (r1 :: rs) e2 fun ds => S.wp ds fun d ds' => qa9 K σ H env f Q (.tmp d) (putB S.ms (r1 :: rs) ds' 0 e2)) ma mu A q
 obtain ⟨env1, f1, A1, q1⟩ := h
 refine ⟨env1, f1, A1, ma _ _ _ (fun r1 e1 z => ?_) q1⟩
 intro y H1 f1 g1 a b c d
 obtain ⟨⟨r0, e0, f0, g0, A0, R0, B0⟩, env2, f2, A2, q2⟩ := z y H1 f1 g1 a b c d
 obtain ⟨d0, g00, rp0, B0⟩ := yO A0 R0 B0
 obtain ⟨fs, ed, hn⟩ := qef B0
 subst ed
 obtain ⟨ad, C', dx, hs, F, ey, hH, hC', hk, _⟩ := rp0.obAt
 rw [hC] at hC'
 cases hC'
 refine ⟨ad, dx, hs, ey, hH, lookup_none hk hn, env2, f2, A2, mu _ _ _ (fun rs e2 z => ?_) q2⟩
 intro vs H2 f2 gs a b c d
 obtain ⟨r1, rs, e3, f3, g1, gs, A3, R1, R2, nn, St, Kk, o1, o2, q3⟩ := z vs H2 f2 gs a b c d
 have Rs : ResOks K σ H2 e3 f3 (r1 :: rs) (y :: vs) (g1 ++ gs) := .cons R1 R2 nn
 obtain ⟨ds, fa, l1, l2, Aa, q4, back⟩ := Xf A3 Rs o1 o2 q3
 rw [List.append_nil]
 refine ⟨l2, ds, fa, l1, Aa, hS _ _ _ (fun d ds' q => ?_) q4⟩
 intro v H' f' g l' A' rv ng S' K'
 obtain ⟨f4, A4, R4, S4, K4⟩ := back v d H' f' g ds' l' A' rv ng S' K'
 exact q v H' f4 g A4 R4 (St.trans S4) (Kk.trans K4)
theorem uX {pl : Sem Bool} (F : Mt X.prog X.w X.K X.mg X.base n x k ps S) (hr : Room k X.A) (ho : DE X o ta) (ha : DA X (e :: es) u)
 (hst : starEach (e :: es) X.env = (false, eval e X.env) :: starEach es X.env := by rfl) (hpl : (backTo pos (starEach es X.env)).any (·.1) = false := by rfl)
 (ht : eval (.Call (.Attribute o x apos) (e :: es) [] pos) X.env = (do
  let ov ← eval o X.env
  standAt apos.atName
  let (f, first) ← holding [ov] (getMethod ov x pl)
  callWith pos f first (backTo pos (starEach (e :: es) X.env)) (backToKw pos (keywordEach [] X.env))) := by rfl) :
 DE X (.Call (.Attribute o x apos) (e :: es) [] pos) (vp n x S ta u) := by
 obtain ⟨C, f, fd, hC, c, hm, hF, hb⟩ := F.ex
 exact ⟨PE.imp (pe_meth (E := E0) ho.run c hm hF hr hb .nil pass0 ha.run hst hpl ht) fun σ H Q q => Je (E := E0) hC F.mono ho.mono ha.mono q, Yv F.mono ho.mono ha.mono⟩
theorem qak {pl : Sem Bool} (F : Mt X.prog X.w X.K X.mg X.base n x k ps S) (hr : Room k X.A) (ho : DE X o ta)
 (ht : eval (.Call (.Attribute o x apos) [] [] pos) X.env = (do
  let ov ← eval o X.env
  standAt apos.atName
  let (f, first) ← holding [ov] (getMethod ov x pl)
  callWith pos f first (backTo pos (starEach [] X.env)) (backToKw pos (keywordEach [] X.env))) := by rfl) :
 DE X (.Call (.Attribute o x apos) [] [] pos) (vp n x S ta aNil) := by
 obtain ⟨C, f, fd, hC, c, hm, hF, hb⟩ := F.ex
 have mn : vM aNil := fun env Q Q' h q => h _ _ q
 refine ⟨PE.imp (pe_meth0 (E := E0) ho.run c hm hF hr hb .nil pass0 ht) fun σ H Q q => ?_, Yv F.mono ho.mono mn⟩
 have h := Je (E := E0) hC F.mono ho.mono mn q
 obtain ⟨env, f, A, h⟩ := h
 refine ⟨env, f, A, ho.mono _ _ _ (fun r1 e1 z => ?_) h⟩
 intro y H1 f1 g1 a1 b1 c1 d1
 obtain ⟨a, dx, hs, k1, k2, k3, env2, f2, A2, q2⟩ := z y H1 f1 g1 a1 b1 c1 d1
 exact ⟨a, dx, hs, k1, k2, k3, q2 [] H1 f2 [] A2 .nil .refl .refl⟩
end
section
variable {K : PySem.W.Frag} {H : Hp} {lv : Nat}
theorem qct {x : Str} {d : D} {v : V} {g : List Addr} (rv : Rep K H lv d v g) : ∀ {fs : List (Str × D)} {hs : List (Str × V)} {F : List Addr}, hs.map (·.1) = fs.map (·.1) → Reps K H lv (fs.map (·.2)) (hs.map (·.2)) F → (lv = 0 → ∀ b ∈ g, b ∉ F) →
 ∃ F', Reps K H lv ((setF x d fs).map (·.2)) ((putF x v hs).map (·.2)) F' ∧ (∀ b ∈ F', b ∈ F ∨ b ∈ g) ∧ (putF x v hs).map (·.1) = (setF x d fs).map (·.1)
 | [], [], F, _, r, _ => by
   refine ⟨g ++ [], ?_, fun b hb => .inr (by simpa using hb), rfl⟩
   show Reps K H lv [d] [v] (g ++ [])
   exact .cons rv .nil fun _ b _ z => by simp at z
 | [], _ :: _, _, e, _, _ => by cases e
 | _ :: _, [], _, e, _, _ => by cases e
 | (k, d0) :: fs, (k1, v1) :: hs, F, e, r, n => by
   injection e with e1 e2
   have e1 : k1 = k := e1
   subst e1
   cases r with
   | @cons _ _ f0 _ _ g0 r t nn =>
     by_cases ex : k1 = x
     ·subst ex
      refine ⟨g ++ g0, ?_, fun b hb => (List.mem_append.mp hb).elim .inr fun z => .inl (List.mem_append_right _ z), ?_⟩
      ·rw [setF, if_pos rfl, putF, if_pos rfl]
       exact .cons rv t fun z b hb q => n z b hb (List.mem_append_right _ q)
      ·rw [setF, if_pos rfl, putF, if_pos rfl]
       exact congrArg (fun z => k1 :: z) e2
     ·obtain ⟨F', r', s', e'⟩ := qct rv e2 t fun z b hb q => n z b hb (List.mem_append_right _ q)
      refine ⟨f0 ++ F', ?_, fun b hb => ?_, ?_⟩
      ·rw [setF, if_neg ex, putF, if_neg ex]
       refine .cons r r' fun z b hb q => ?_
       rcases s' b q with q | q
       ·exact nn z b hb q
       ·exact n z b q (List.mem_append_left _ hb)
      ·rcases List.mem_append.mp hb with q | q
       ·exact .inl (List.mem_append_left _ q)
       ·exact (s' b q).imp (fun z => List.mem_append_right _ z) id
      ·rw [setF, if_neg ex, putF, if_neg ex]
       exact congrArg (fun z => k1 :: z) e'
end
def qaT (n x : Str) (i : Nat) (te : XE) : XS := fun env nx _ => te env fun r e1 => stor r e1 fun d => match e1[i]? with
 | some (some (.ob n' fs, m)) => n' = n ∧ m.rd = false ∧ fs.length < 1000 ∧ nx (e1.set i (some (.ob n (setF x d fs), m)))
 | _ => False
section
variable {X : Cx} {o e : Expr} {te : XE} {pos apos : Pos} {n x : Str} {i : Nat}
theorem Xi (he : DE X e te) (ho : DE X o (dVar i)) (c : ObF X.K n x) (hs : swapsWith e (some (.Attribute o x apos)) pos.line X.env = pure false := by rfl) : DS X (.Assign [.Attribute o x apos] e pos) (qaT n x i te) := by
 refine ⟨PS.imp (ps_fld ho.run he.run hs) fun D σ H q => ?_, fun env nx nx' rt rt' h h' q => he.mono _ _ _ (fun r e q => uo (fun d q => ?_) q) q⟩
 ·obtain ⟨env, f, A, q⟩ := q
  refine ⟨env, f, A, he.mono _ _ _ (fun r e1 q => ?_) q⟩
  intro v H1 f1 g1 A1 R1 S1 K1
  obtain ⟨d, rd1, q, nn⟩ := Q3 A1 R1 q
  split at q
  ·rename_i n' fs m e0
   obtain ⟨rfl, hm, hlen, q⟩ := q
   refine ⟨e1, f1, A1, Vp e0 hm ?_⟩
   intro y H2 f2 g2 A2 R2 S2 K2
   cases R2 with
   | @sl _ _ d0 m0 h1 h2 h3 =>
     rw [e0] at h2; cases h2
     obtain ⟨R1', _⟩ := R1.wait A1 S2 K2
     obtain ⟨v0, hv0, rp⟩ := A2.rep _ _ _ e0
     rw [h1] at hv0; cases hv0
     rw [h3] at rp
     have rd2 : Rep X.K H2 0 d v g1 := rd1.keep fun b oo ho z => S2.same b oo ho (by
      rcases z with z | z
      ·exact .inr ⟨fun w => (nn b z).1 w.l0, by simp⟩
      ·exact .inl z)
     have nn2 := R1'.fresh
     obtain ⟨a, C, dx, hs, F, rfl, hH, hC, hk, r0, na, hf⟩ := rp.obAt
     have na := na rfl
     have dj : ∀ b ∈ g1, b ∉ f2 i := fun b hb z => (nn2 b hb).1 ⟨i, _, m, e0, h3, z⟩
     obtain ⟨F', r', s', k'⟩ := qct (x := x) rd2 hk r0 fun _ b hb z => dj b hb (by rw [hf]; exact List.mem_cons_of_mem _ z)
     have hlen2 : hs.length < 1000 := by have := congrArg List.length hk; rw [List.length_map, List.length_map] at this; omega
     have na' : a ∉ F' := fun z => (s' a z).elim na fun z => dj a z (by rw [hf]; exact List.mem_cons_self ..)
     refine ⟨a, C, dx, hs, rfl, hH, (c C hC).1, (c C hC).2, hlen2, ?_⟩
     obtain ⟨A3, S3, K3, _⟩ := A2.mut (d' := .ob n' (setF x d fs)) (H' := upd H2 a (.ins C dx (putF x v hs))) (g' := a :: F') (G := g1) (G' := []) e0 hm h1 (fun b oo hb z => by
      have : b ≠ a := fun w => z (by rw [hf, w]; exact List.mem_cons_self ..)
      rw [upd_ne this]; exact hb) (by
      rw [h3]
      refine .ob upd_same hC k' (r'.keep fun b oo hb z => ?_) fun _ => na'
      have : b ≠ a := fun w => by
       subst w
       rcases z with z | z
       ·exact na' z
       ·rw [hH] at hb; cases hb; cases z
      rw [upd_ne this]; exact hb) (fun b hb => by
      rcases List.mem_cons.mp hb with rfl | hb
      ·exact .inl (by rw [hf]; exact List.mem_cons_self ..)
      ·rcases s' b hb with z | z
       ·exact .inl (by rw [hf]; exact List.mem_cons_of_mem _ z)
       ·exact .inr (.inl z)) nn2 (fun b hb => by simp at hb)
     refine q σ _ _ A3 ?_ (((K1.trans K2).trans K3).kq)
     exact (((S1.trans (S2.frame g1)).drop (G2 := g1) fun b hb => by simpa using hb).trans S3)
  ·exact q.elim
 ·split at q
  ·exact ⟨q.1, q.2.1, q.2.2.1, h _ q.2.2.2⟩
  ·exact q.elim
end
end BX
namespace BX
open PySem PySem.Spec PyProof.Rows L2
def qeR (n x : Str) (i : Nat) (te ti : XE) : XS := fun env nx _ => te env fun r e1 => stor r e1 fun d => d.imm = true ∧ fldM n x i e1 fun fs m dd => match dd with
 | .dT kvs => ti (e1.set i none) fun ri e3 => rd 1 ri e3 fun di => match di with
   | .tup ks => match xJ ks with
     | some k => kvs.length < sizeLine ∧ nx (e3.set i (some (.ob n (setF x (.dT (putD k d kvs)) fs), m)))
     | none => False
   | _ => False
 | _ => False
theorem qdK {e : En} {i : Nat} {x n : Str} {fs : List (Str × D)} {m : Md} {d d' : D} {ob : Option (D × Md)} (hi : i < e.length) :
 fold ((venv (e.set i ob) i d).set e.length (some (d', .own))) e.length i x fs n m d' = e.set i (some (.ob n (setF x d' fs), m)) := by
 unfold fold venv
 rw [List.set_set]
 refine List.ext_getElem? fun j => ?_
 by_cases hj : j = i
 ·subst hj
  rw [wL (by simp; omega), wL hi]
 ·rw [qL hj, qL hj]
  by_cases hlt : j < e.length
  ·rw [List.getElem?_take_of_lt hlt, List.getElem?_set_ne (by omega), List.getElem?_append_left (by simpa using hlt), qL hj]
  ·rw [List.getElem?_take_eq_none (by omega), List.getElem?_eq_none (by omega)]
section
variable {X : Cx} {o e ix : Expr} {te ti : XE} {pos apos tpos : Pos} {n x : Str} {i : Nat}
theorem qfA (hx : Ok X) (he : DE X e te) (ho : DE X o (dVar i)) (c : ObF X.K n x) (hi : DE X ix ti) (hb : attributeBase o x X.env (eval o X.env) = eval o X.env := by rfl) (hs : swapsWithSole [.Subscript (.Attribute o x apos) ix tpos] e pos.line X.env = pure false := by rfl) (hw : swappedStores [.Subscript (.Attribute o x apos) ix tpos] e X.env = pure none := by rfl)
 (h1 : (assignEach [.Subscript (.Attribute o x apos) ix tpos] X.env).map (·.2) = [assign (.Subscript (.Attribute o x apos) ix tpos) X.env] := by rfl)
 (ha : ∀ v, assign (.Subscript (.Attribute o x apos) ix tpos) X.env v = (do
  let ov ← holding [v] (eval (.Attribute o x apos) X.env)
  let iv ← holding [v, ov] (eval ix X.env)
  standAt tpos
  holding [v, ov, iv] (setItem ov iv v)
  release [v, ov, iv] []) := by intro _; rfl) : DS X (.Assign [.Subscript (.Attribute o x apos) ix tpos] e pos) (qeR n x i te ti) := by
 refine ⟨PS.imp (ps_asg he.run (pg_sub (pe_fld ho.run hb) hi.run (qbG hx) ha) hs hw h1) fun D σ H q => ?_, fun env nx nx' rt rt' h h' q => he.mono _ _ _ (fun r e q => uo (fun d q => ⟨q.1, Jm (fun fs m dd q => ?_) q.2⟩) q) q⟩
 ·obtain ⟨env, f, A, q⟩ := q
  refine ⟨env, f, A, he.mono _ _ _ (fun r e1 q => ?_) q⟩
  intro v H1 f1 g1 A1 R1 S1 K1
  obtain ⟨d, rd1, ⟨him, q⟩, nn⟩ := Q3 A1 R1 q
  obtain ⟨eg, rd1⟩ := rd1.imm (Nat.zero_le 1) him
  subst eg
  obtain ⟨fs, m, dd, e0, hm, hx', q⟩ := qcu q
  refine ⟨e1, f1, A1, Vp e0 hm ?_⟩
  intro y H2 f2 g2 A2 R2 S2 K2
  cases R2 with
  | @sl _ _ d0 m0 h1' h2 h3 =>
    rw [e0] at h2; cases h2
    obtain ⟨v0, hv0, rp⟩ := A2.rep _ _ _ e0
    rw [h1'] at hv0; cases hv0
    rw [h3] at rp
    obtain ⟨a, C, dx, hs', F, rfl, hH, hC, hk, r0, na, hf⟩ := rp.obAt
    obtain ⟨w, F1, g, F2, hw', rw', rfl, dj, re⟩ := QH hk r0 hx'
    have dj := dj rfl
    have na := na rfl
    split at q
    ·rename_i kvs
     refine ⟨a, C, dx, hs', w, rfl, hH, (c C hC).1, (c C hC).2, hw', e1.set i none, f2, qey A2, hi.mono _ _ _ (fun ri e3 q2 => ?_) q⟩
     intro vi H3 f3 g3 A3 R3 S3 K3
     obtain ⟨gone, keep, A4, S4, K4, _⟩ := qec A2 e0 hm A3 S3 K3
     obtain ⟨di, gi, rpi, q3⟩ := yO A3 R3 q2
     split at q3
     ·split at q3
      ·rename_i ks k hkk
       obtain ⟨hlen, q4⟩ := q3
       obtain ⟨b, ws, rfl, hb', rb⟩ := rpi.tupleAt (Nat.le_refl _)
       rw [rb.xJ hkk] at hb'
       have l3 : e3.length = e1.length := by rw [A3.len, A2.len]
       have hi' : i < e1.length := (List.getElem?_eq_some_iff.mp e0).1
       have e3' : (e3.set i (some (.ob n fs, m)))[i]? = some (some (.ob n fs, m)) := wL (by omega)
       have hle : (e3.set i (some (.ob n fs, m))).length = e3.length := by rw [List.length_set]
       have hH3 : H3 a = some (.ins C dx hs') := keep a (by rw [hf]; exact List.mem_cons_self ..) _ hH
       have fi : (fset f3 i (f2 i)) i = a :: (F1 ++ (g ++ F2)) := by rw [qN, hf]
       have inF : ∀ b ∈ F1 ++ (g ++ F2), b ∈ f2 i := fun b hb => by rw [hf]; exact List.mem_cons_of_mem _ hb
       have rw3 : Rep X.K H3 0 (.dT kvs) w g := rw'.keep fun b oo ho z => z.elim (fun z => keep b (inF b (by simp [z])) oo ho) fun z => S3.same b oo ho (.inl z)
       have rv3 : Rep X.K H3 0 d v [] := rd1.keep fun b oo ho z => by
        rcases z with z | z
        ·simp at z
        ·exact S3.same b oo (S2.same b oo ho (.inl z)) (.inl z)
       have re3 : ∀ H' d' g', Rep X.K H' 0 d' w g' → (∀ b o, H3 b = some o → (b ∈ F1 ∨ b ∈ F2 ∨ Mu o = false) → H' b = some o) → (∀ b ∈ g', b ∉ F1 ∧ b ∉ F2) → Reps X.K H' 0 ((setF x d' fs).map (·.2)) (hs'.map (·.2)) (F1 ++ (g' ++ F2)) := fun H' d' g' r' kk nn =>
        re H' d' g' r' (fun b o ho z => by
         rcases z with z | z | z
         ·exact kk b o (keep b (inF b (by simp [z])) o ho) (.inl z)
         ·exact kk b o (keep b (inF b (by simp [z])) o ho) (.inr (.inl z))
         ·exact kk b o (S3.same b o ho (.inl z)) (.inr (.inr z))) fun _ => nn
       have sub : ∀ b ∈ g, b ∈ (fset f3 i (f2 i)) i := fun b hb => by rw [fi]; simp [hb]
       have A5 := v_in A4 e3' h3 sub rw3
       obtain ⟨ad, hd, fp, rfl, hHd, ek, nd, rr, hg, nfp⟩ := rw3.dTAt
       have top := Ql (env := e3.set i (some (.ob n fs, m))) (i := i) (d := .dT kvs)
       have hv : (σ ++ [some (.ref ad)])[(e3.set i (some (.ob n fs, m))).length]? = some (some (.ref ad)) := by
        rw [hle, A3.len, List.getElem?_append_right (Nat.le_refl _)]; simp
       obtain ⟨fp', r', s'⟩ := YW (k := k) rv3 ek rr fun b _ z => by simp at z
       have ndh : (hd.map (·.1)).Nodup := by rw [ek]; exact nd
       obtain ⟨A6, S6, K6, _⟩ := qal (G := []) (G' := []) A5 top rfl rfl hv hHd rfl (by rw [qN, hg]) (nfp rfl) (YX k v d ek) (Q7 nd) r' s' (fun b hb => by simp at hb) qm
       obtain ⟨A7, S7, K7, _⟩ := qgp (d' := .dT (putD k d kvs)) A4 e3' hm h1' hH3 hC hk hx' fi na dj (fun b hb => by
        obtain ⟨oo, ho, _⟩ := rp.dom b (by rw [hf]; exact List.mem_cons_of_mem _ hb)
        exact ⟨oo, keep b (inF b hb) oo ho⟩) re3 (fun b hb => by simp at hb) A6 S6 K6 (wL (by rw [Qm]; omega))
       have S3' := S4.drop (G2 := []) fun _ z => by simp at z
       have hlen' := congrArg List.length ek
       rw [List.length_map, List.length_map] at hlen'
       refine .inr ⟨ad, _, rfl, .t hHd hb' (by rw [hlen']; exact hlen), ?_⟩
       rw [qea ndh]
       rw [hle] at A7 S7 K7
       rw [qdK (by omega)] at A7 S7 K7
       exact q4 σ _ _ A7 (((S1.trans S2).trans S3').trans S7) (((K1.trans K2).trans K4).trans K7).kq
      ·exact q3.elim
     ·exact q3.elim
    ·exact q.elim
 ·split at q
  ·refine hi.mono _ _ _ (fun ri e3 q => qO (fun di q => ?_) q) q
   split at q
   ·split at q
    ·have q1 := q.1
     have q2 := h _ q.2
     simp only [*]
     first | exact ⟨q1, q2⟩ | exact ⟨trivial, q2⟩ | exact q2 | trivial
    ·exact q.elim
   ·exact q.elim
  ·exact q.elim
end
theorem ResOks.extA {K : PySem.W.Frag} {σ : L2.St} {H H' : Hp} {env : En} {f : FA} : ∀ {rs : List R} {vs : List V} {gs : List Addr}, ResOks K σ H env f rs vs gs → Abs K σ H env f → (∀ b o, H b = some o → H' b = some o) → ResOks K σ H' env f rs vs gs
 | _, _, _, .nil, _, _ => .nil
 | _, _, _, .cons r t n, A, x => .cons (r.ext A x) (ResOks.extA t A x) n
def dMk (n : Str) (S : FS) (u : XA) : XE := fun env Q => u env fun rs e => zG S.ms (.sl e.length :: rs) (e ++ [some (.ob n [], .own)]) = true ∧ apart S.ms (.sl e.length :: rs) = true ∧ jr 2 (.sl e.length :: rs) (e ++ [some (.ob n [], .own)]) fun ds => S.wp ds fun d ds' =>
 d = .non ∧ match (putB S.ms (.sl e.length :: rs) ds' 0 (e ++ [some (.ob n [], .own)]))[e.length]? with
  | some (some (d', .own)) => Q (.tmp d') ((putB S.ms (.sl e.length :: rs) ds' 0 (e ++ [some (.ob n [], .own)])).take e.length)
  | _ => False
structure Mkn (P : Program) (w : World) (K : PySem.W.Frag) (mg : Str → Option Value) (base : Heap) (n : Str) (k : Nat) (ps : List Str) (S : FS) : Prop where
 ex : ∃ C f fd, PySem.W.nsIn K mainGlobals n = some (some (.ref C)) ∧ mg n = some (.ref C) ∧ Mk K C f ∧ FnOk P w K mg base CX0 k f fd ps (spOf K S) ∧ Binds K fd ps []
 mono : Wg S
section
variable {K : PySem.W.Frag} {σ : L2.St} {H H' : Hp} {env e' : En} {f f' : FA} {d d' : D} {v : V} {g G G' : List Addr} {j : Nat}
theorem Uj {x : D × Md} (h : (env ++ [some (d, .own)])[j]? = some (some x)) : (j < env.length ∧ env[j]? = some (some x)) ∨ (j = env.length ∧ x = (d, .own)) := by
 by_cases hj : j < env.length
 ·rw [List.getElem?_append_left hj] at h
  exact .inl ⟨hj, h⟩
 ·have : j < (env ++ [some (d, Md.own)]).length := (List.getElem?_eq_some_iff.mp h).1
  rw [List.length_append] at this
  obtain rfl : j = env.length := by simp at this; omega
  rw [List.getElem?_append_right (Nat.le_refl _)] at h
  simp at h
  exact .inr ⟨rfl, h.symm⟩
theorem qdm (hj : j < env.length) : (env ++ [some (d, .own)])[j]? = env[j]? := List.getElem?_append_left hj
theorem qix : (env ++ [some (d, .own)])[env.length]? = some (some (d, .own)) := by
 rw [List.getElem?_append_right (Nat.le_refl _)]; simp
theorem t_in (A : Abs K σ H env f) (r : Rep K H 0 d v g) (fr : ∀ b ∈ g, ∀ j p, env[j]? = some (some p) → b ∉ f j) : Abs K (σ ++ [some v]) H (env ++ [some (d, .own)]) (fset f env.length g) where
 rep := fun j dj mj h => by
  rcases Uj h with ⟨h2, h3⟩ | ⟨rfl, h3⟩
  ·obtain ⟨w, h4, rp⟩ := A.rep j dj mj h3
   refine ⟨w, ?_, by rw [qH (Nat.ne_of_lt h2)]; exact rp⟩
   rw [List.getElem?_append_left (by rw [← A.len]; exact h2)]; exact h4
  ·cases h3
   refine ⟨v, ?_, by rw [qN]; exact r⟩
   rw [A.len, List.getElem?_append_right (Nat.le_refl _)]; simp
 dis := fun j k dj mj dk mk n h1 h2 hlv b hb => by
  rcases Uj h1 with ⟨a2, a3⟩ | ⟨rfl, a3⟩
  ·rw [qH (Nat.ne_of_lt a2)] at hb
   rcases Uj h2 with ⟨b2, b3⟩ | ⟨rfl, b3⟩
   ·rw [qH (Nat.ne_of_lt b2)]
    exact A.dis j k _ _ _ _ n a3 b3 hlv b hb
   ·rw [qN]
    exact fun z => fr b z j _ a3 hb
  ·rw [qN] at hb
   rcases Uj h2 with ⟨b2, b3⟩ | ⟨rfl, b3⟩
   ·rw [qH (Nat.ne_of_lt b2)]
    exact fr b hb k _ b3
   ·exact absurd rfl n
 len := by rw [List.length_append, List.length_append, A.len]; rfl
theorem qiy {r : R} {y : V} {gg : List Addr} (A : Abs K σ H env f) (h : ResOk K σ H env f r y gg) (n : ∀ b ∈ gg, b ∉ g) : ResOk K (σ ++ [some v]) H (env ++ [some (d, .own)]) (fset f env.length g) r y gg := by
 cases h with
 | tmp r nn =>
   refine .tmp r fun b hb => ⟨?_, ?_⟩
   ·rintro ⟨j, d0, m0, w1, w2, w3⟩
    rcases Uj w1 with ⟨a2, a3⟩ | ⟨rfl, a3⟩
    ·rw [qH (Nat.ne_of_lt a2)] at w3
     exact (nn b hb).1 ⟨j, d0, m0, a3, w2, w3⟩
    ·rw [qN] at w3
     exact n b hb w3
   ·rintro ⟨j, d0, m0, w1, w2, w3⟩
    rcases Uj w1 with ⟨a2, a3⟩ | ⟨rfl, a3⟩
    ·rw [qH (Nat.ne_of_lt a2)] at w3
     exact (nn b hb).2 ⟨j, d0, m0, a3, w2, w3⟩
    ·cases a3; exact absurd rfl w2
 | ro r nn =>
   refine .ro r fun b hb => ?_
   obtain ⟨j, d0, m0, w1, w2, w3⟩ := nn b hb
   have hj := (List.getElem?_eq_some_iff.mp w1).1
   exact ⟨j, d0, m0, by rw [qdm hj]; exact w1, w2, by rw [qH (Nat.ne_of_lt hj)]; exact w3⟩
 | @sl k _ d1 m1 h1 h2 hm =>
   have hj := (List.getElem?_eq_some_iff.mp h2).1
   refine .sl (d := d1) (m := m1) ?_ (by rw [qdm hj]; exact h2) hm
   rw [List.getElem?_append_left (by rw [← A.len]; exact hj)]; exact h1
theorem qd4 (A : Abs K σ H env f) : ∀ {rs : List R} {ys : List V} {gs : List Addr}, ResOks K σ H env f rs ys gs → (∀ b ∈ gs, b ∉ g) → ResOks K (σ ++ [some v]) H (env ++ [some (d, .own)]) (fset f env.length g) rs ys gs
 | _, _, _, .nil, _ => .nil
 | _, _, _, .cons r t n, h => .cons (qiy A r fun b hb => h b (List.mem_append_left _ hb)) (qd4 A t fun b hb => h b (List.mem_append_right _ hb)) n
theorem qiz {H0 : Hp} (A : Abs K σ H0 env f) (fr : ∀ b ∈ g, H0 b = none) (sm : ∀ b o, H0 b = some o → H b = some o) (A' : Abs K (σ ++ [some v]) H' e' f') (S' : Stp H (env ++ [some (d, .own)]) (fset f env.length g) G H' e' f' G') (K' : Kp (env ++ [some (d, .own)]) (fset f env.length g) e' f')
 (he : e'[env.length]? = some (some (d', .own))) : Abs K σ H' (e'.take env.length) f' ∧ ResOk K σ H' (e'.take env.length) f' (.tmp d') v (f' env.length) ∧ Stp H0 env f G H' (e'.take env.length) f' (f' env.length) ∧ Kp env f (e'.take env.length) f' := by
 have elen : e'.length = env.length + 1 := by rw [A'.len, List.length_append, A.len]; rfl
 have old : ∀ {j : Nat} {p : D × Md}, (e'.take env.length)[j]? = some (some p) → j < env.length ∧ e'[j]? = some (some p) := fun {j p} h => by
  by_cases hlt : j < env.length
  ·rw [List.getElem?_take_of_lt hlt] at h
   exact ⟨hlt, h⟩
  ·rw [List.getElem?_take_eq_none (by omega)] at h; cases h
 obtain ⟨w, hw, rp⟩ := A'.rep _ _ _ he
 have : w = v := by
  rw [A.len, List.getElem?_append_right (Nat.le_refl _)] at hw
  simpa using hw.symm
 subst this
 have up : ∀ b, W (env ++ [some (d, .own)]) (fset f env.length g) b → W env f b ∨ H0 b = none := fun b ⟨j, d0, m0, w1, w2, w3⟩ => by
  rcases Uj w1 with ⟨a2, a3⟩ | ⟨rfl, a3⟩
  ·rw [qH (Nat.ne_of_lt a2)] at w3
   exact .inl ⟨j, d0, m0, a3, w2, w3⟩
  ·rw [qN] at w3
   exact .inr (fr b w3)
 have nn : ∀ b, H b = none → H0 b = none := fun b hb => by
  cases h : H0 b with
  | none => rfl
  | some o => rw [sm b o h] at hb; cases hb
 refine ⟨⟨fun j d0 m0 h => ?_, fun j k dj mj dk mk n h1 h2 hlv b hb => ?_, ?_⟩, .tmp rp fun b hb => ⟨?_, ?_⟩, ⟨fun b o hb q => ?_, fun b hb => ?_⟩, ⟨?_, fun j d0 m0 h hrd => ?_⟩⟩
 ·obtain ⟨hlt, h'⟩ := old h
  obtain ⟨w, hw, rp⟩ := A'.rep _ _ _ h'
  rw [List.getElem?_append_left (by rw [← A.len]; exact hlt)] at hw
  exact ⟨w, hw, rp⟩
 ·exact A'.dis j k _ _ _ _ n (old h1).2 (old h2).2 hlv b hb
 ·rw [List.length_take, elen, A.len]; omega
 ·rintro ⟨j, d0, m0, w1, w2, w3⟩
  obtain ⟨hlt, w1'⟩ := old w1
  exact A'.dis env.length j _ _ _ _ (Nat.ne_of_gt hlt) he w1' rfl b hb w3
 ·rintro ⟨j, d0, m0, w1, w2, w3⟩
  obtain ⟨hlt, w1'⟩ := old w1
  exact A'.dis env.length j _ _ _ _ (Nat.ne_of_gt hlt) he w1' rfl b hb w3
 ·refine S'.same b o (sm b o hb) (q.imp id fun q => ⟨fun z => ?_, q.2⟩)
  rcases up b z with z | z
  ·exact q.1 z
  ·rw [hb] at z; cases z
 ·have : W e' f' b := by
   rcases hb with ⟨j, d0, m0, w1, w2, w3⟩ | hb
   ·exact ⟨j, d0, m0, (old w1).2, w2, w3⟩
   ·exact ⟨_, _, _, he, rfl, hb⟩
  rcases S'.own b (.inl this) with z | z | z
  ·rcases up b z with z | z
   ·exact .inl z
   ·exact .inr (.inr z)
  ·exact .inr (.inl z)
  ·exact .inr (.inr (nn b z))
 ·refine List.ext_getElem? fun j => ?_
  rw [List.getElem?_map, List.getElem?_map]
  by_cases hlt : j < env.length
  ·rw [List.getElem?_take_of_lt hlt, ← qdm (d := d) hlt, ← List.getElem?_map, ← List.getElem?_map, K'.modes]
  ·rw [List.getElem?_take_eq_none (by omega), List.getElem?_eq_none (by omega)]
 ·have hlt := (List.getElem?_eq_some_iff.mp h).1
  obtain ⟨k1, k2⟩ := K'.ros j d0 m0 (by rw [qdm hlt]; exact h) hrd
  exact ⟨by rw [List.getElem?_take_of_lt hlt]; exact k1, by rw [k2, qH (Nat.ne_of_lt hlt)]⟩
end
section
variable {X : Cx} {e : Expr} {es : List Expr} {u : XA} {pos p : Pos} {n : Str} {k : Nat} {ps : List Str} {S : FS}
theorem qdQ (hS : Wg S) (mu : vM u) : xV (dMk n S u) := fun env Q Q' h q => mu _ _ _ (fun rs e q => ⟨q.1, q.2.1, jC (fun ds q => hS _ _ _ (fun d es q => ⟨q.1, by
 have q2 := q.2
 split at q2
 ·exact h _ _ q2
 ·exact q2.elim⟩) q) q.2.2⟩) q
theorem qfk {K : PySem.W.Frag} {C : Addr} (hC : PySem.W.nsIn K mainGlobals n = some (some (.ref C))) (hS : Wg S) (mu : vM u) {σ : L2.St} {H : Hp} {E : XK} {Q : VK} (q : jx K (dMk n S u) σ H Q) : tMake C (spOf K S) [] E (Uw K u) σ H Q := by
 obtain ⟨env, f, A, q⟩ := q
 refine ⟨env, f, A, mu _ _ _ (fun rs e1 q => ?_) q⟩
 intro vs H1 f1 gs A1 R1 S1 K1
 intro xo dx nx ndx nex
 obtain ⟨o1, o2, q⟩ := q
 have sm : ∀ b o, H1 b = some o → (upd (upd H1 dx (.own xo)) xo (.ins C dx [])) b = some o := fun b o h => by
  rw [upd_ne (ne_of_none h nx), upd_ne (ne_of_none h ndx)]; exact h
 have A2 : Abs K σ (upd (upd H1 dx (.own xo)) xo (.ins C dx [])) e1 f1 := A1.ext sm
 have rp : Rep K (upd (upd H1 dx (.own xo)) xo (.ins C dx [])) 0 (.ob n []) (.ref xo) [xo] := .ob upd_same hC rfl .nil fun _ z => by simp at z
 have fr : ∀ b ∈ [xo], ∀ j p, e1[j]? = some (some p) → b ∉ f1 j := fun b hb j p h z => by
  rw [List.mem_singleton.mp hb] at z
  obtain ⟨w, _, r⟩ := A1.rep j p.1 p.2 h
  obtain ⟨o, ho, _⟩ := r.dom xo z
  rw [nx] at ho; cases ho
 have A3 := t_in A2 rp fr
 have gx : ∀ b ∈ gs, b ∉ [xo] := fun b hb z => by
  rw [List.mem_singleton.mp z] at hb
  obtain ⟨o, ho, _⟩ := R1.dom xo hb
  rw [nx] at ho; cases ho
 have R2 : ResOks K σ (upd (upd H1 dx (.own xo)) xo (.ins C dx [])) e1 f1 rs vs gs := ResOks.extA R1 A1 sm
 have R3 := qd4 (v := .ref xo) (d := .ob n []) (g := [xo]) A2 R2 gx
 have R4 : ResOks K (σ ++ [some (.ref xo)]) (upd (upd H1 dx (.own xo)) xo (.ins C dx [])) (e1 ++ [some (.ob n [], .own)]) (fset f1 e1.length [xo]) (.sl e1.length :: rs) (.ref xo :: vs) ([] ++ gs) := by
  refine .cons (.sl (d := .ob n []) (m := .own) ?_ qix rfl) R3 fun b hb => by simp at hb
  rw [A1.len, List.getElem?_append_right (Nat.le_refl _)]; simp
 obtain ⟨ds, fa, l1, l2, Aa, q4, back⟩ := Xf A3 R4 o1 o2 q
 rw [List.append_nil]
 refine ⟨l2, ds, fa, l1, Aa, hS _ _ _ (fun d ds' q => ?_) q4⟩
 intro v H' f' g l' A' rv ng S' K'
 obtain ⟨f4, A4, R4', S4, K4⟩ := back v d H' f' g ds' l' A' rv ng S' K'
 obtain ⟨rfl, q⟩ := q
 refine ⟨rv.nonV.1, ?_⟩
 split at q
 ·rename_i d' h5
  obtain ⟨A5, R5, S5, K5⟩ := qiz A1 (g := [xo]) (fun b hb => by rw [List.mem_singleton.mp hb]; exact nx) sm A4 S4 K4 h5
  exact q _ H' f4 _ A5 R5 (S1.trans S5) (K1.trans K5)
 ·exact q.elim
theorem qew (M : Mkn X.prog X.w X.K X.mg X.base n k ps S) (hr : Room (k + 1) X.A) (hg : Gl X n) (hdb : (n == ("__debug__" : Str)) = false := by decide) : DE X (.Call (.Name n p) [] [] pos) (dMk n S aNil) := by
 obtain ⟨C, f, fd, hC, hm, M', hF, hb⟩ := M.ex
 have mn : vM aNil := fun env Q Q' h q => h _ _ q
 refine ⟨PE.imp (pe_make0 (E := E0) M' hF hr hg hm hb .nil pass0 hdb) fun σ H Q q => ?_, qdQ M.mono mn⟩
 have h := qfk (E := E0) hC M.mono mn q
 obtain ⟨env, f, A, h⟩ := h
 exact h [] H f [] A .nil .refl .refl
end
end BX
namespace BX
open PySem PySem.Spec PyProof.Rows L2
def ItZ3 (K : PySem.W.Frag) (a b c : Addr) (n : Nat) : It :=
 ⟨fun i H => ∃ (xs ys zs : List V) (x y z : V), SqL K H a xs ∧ SqL K H b ys ∧ SqL K H c zs ∧ xs.length = n ∧ ys.length = n ∧ zs.length = n ∧ xs[i]? = some x ∧ ys[i]? = some y ∧ zs[i]? = some z,
  fun i H v H' => ∃ T x y z, v = .ref T ∧ H T = none ∧ H' = upd H T (.tup [x, y, z]) ∧ (∀ xs, SqL K H a xs → xs[i]? = some x) ∧ (∀ ys, SqL K H b ys → ys[i]? = some y) ∧ ∀ zs, SqL K H c zs → zs[i]? = some z,
  fun i H => ∃ xs ys zs : List V, SqL K H a xs ∧ SqL K H b ys ∧ SqL K H c zs ∧ xs.length = n ∧ ys.length = n ∧ zs.length = n ∧ n ≤ i⟩
theorem qeJ {P : Program} {w : World} {K : PySem.W.Frag} {elts : List Expr} {kk : Nat} {tpos : Pos} {a b c z TI TO i1 i2 i3 : Addr} (S : ZipSep3 z TI TO i1 i2 i3 [i1, a] [i2, b] [i3, c]) {n : Nat} (n1 : a ≠ i1) (n2 : b ≠ i2) (n3 : c ≠ i3) :
 Turn P w K (.Tuple elts kk tpos) (ItZ3 K a b c n) [z, TI, TO, i1, i2, i3] z (fun i h => i ≤ n ∧ IsZip h z TI TO .none ∧ IsTupOf3 h TI (.ref i1) (.ref i2) (.ref i3) ∧ (∃ x y u, IsTupOf3 h TO x y u) ∧ h.IsListIter i1 a i ∧ h.IsListIter i2 b i ∧ h.IsListIter i3 c i) where
 mem := by simp
 obj := fun i h st c hc => by
  obtain ⟨_, hz, hTI, ⟨x, y, u, hTO⟩, ⟨o1, e1, _, d1⟩, ⟨o2, e2, _, d2⟩, ⟨o3, e3, _, d3⟩⟩ := st
  have e' : c = z ∨ c = TI ∨ c = TO ∨ c = i1 ∨ c = i2 ∨ c = i3 := by simpa using hc
  rcases e' with q | q | q | q | q | q
  ·rw [q]; exact ⟨_, hz, fun v q => nomatch q⟩
  ·rw [q]; exact ⟨_, hTI, fun v q => nomatch q⟩
  ·rw [q]; exact ⟨_, hTO, fun v q => nomatch q⟩
  ·rw [q]; exact ⟨o1, e1, fun v q => by rw [d1] at q; cases q⟩
  ·rw [q]; exact ⟨o2, e2, fun v q => by rw [d2] at q; cases q⟩
  ·rw [q]; exact ⟨o3, e3, fun v q => by rw [d3] at q; cases q⟩
 keep := fun i h h' st k => by
  obtain ⟨l, hz, hTI, ⟨x, y, u, hTO⟩, h1, h2, h3⟩ := st
  exact ⟨l, k z (by simp) _ hz, k TI (by simp) _ hTI, ⟨x, y, u, k TO (by simp) _ hTO⟩, h1.at fun o q => k i1 (by simp) o q, h2.at fun o q => k i2 (by simp) o q, h3.at fun o q => k i3 (by simp) o q⟩
 item := by
  intro X hP hw hK hc i pins s σ H E I hf st hg
  subst hP hw hK
  obtain ⟨hin, hz, hTI, ⟨x0, y0, u0, hTO⟩, h1, h2, h3⟩ := st
  obtain ⟨xs, ys, zs, x, y, v, hqx, hqy, hqz, ln1, ln2, ln3, hx, hy, hv⟩ := hg
  have hxl := (List.getElem?_eq_some_iff.mp hx).1
  obtain ⟨its, rv, p, _⟩ := I.list hqx
  obtain ⟨its2, rv2, p2, _⟩ := I.list hqy
  obtain ⟨its3, rv3, p3, _⟩ := I.list hqz
  obtain ⟨u1, hu1, ru1⟩ := rv.get hx
  obtain ⟨u2, hu2, ru2⟩ := rv2.get hy
  obtain ⟨u3, hu3, ru3⟩ := rv3.get hv
  have l1 := (List.getElem?_eq_some_iff.mp hu1).1
  have l2 := (List.getElem?_eq_some_iff.mp hu2).1
  have l3 := (List.getElem?_eq_some_iff.mp hu3).1
  have hzl : z < s.heap.objs.size := Heap.lt_size hz
  have D1 := Draws.list (prog := X.prog) (w := X.w) (A := X.A.in1) (I.ok.hd hc) i1 a n1 its.toArray
  have D2 := Draws.list (prog := X.prog) (w := X.w) (A := X.A.in1) (I.ok.hd hc) i2 b n2 its2.toArray
  have D3 := Draws.list (prog := X.prog) (w := X.w) (A := X.A.in1) (I.ok.hd hc) i3 c n3 its3.toArray
  refine wpAny_pyNext_zipD3_item S D1 D2 D3 hz hTI hTO ⟨h1, p.isList⟩ ⟨h2, p2.isList⟩ ⟨h3, p3.isList⟩ (by simpa using l1) (by simpa using l2) (by simpa using l3) fun x1 x2 x3 h' tk q1 q2 q3 z' TO' h1' h2' h3' hT hsz hk => ?_
  refine ⟨_, rfl, wpAny_letOwnedTupleGo_zip (s := { s with heap := h', toks := tk }) z' fun h'' z'' sb => ?_⟩
  have e1 : x1 = u1 := by
   have q1 : its.toArray[i]? = some x1 := q1
   rw [List.getElem?_toArray, hu1] at q1; cases q1; rfl
  have e2 : x2 = u2 := by
   have q2 : its2.toArray[i]? = some x2 := q2
   rw [List.getElem?_toArray, hu2] at q2; cases q2; rfl
  have e3 : x3 = u3 := by
   have q3 : its3.toArray[i]? = some x3 := q3
   rw [List.getElem?_toArray, hu3] at q3; cases q3; rfl
  subst e1 e2 e3
  have hT2 : h''.get? s.heap.objs.size = some { cls := .type "tuple", data := .seq #[x1, x2, x3] } := (sb.2 _ (Nat.ne_of_gt hzl)).trans hT
  have new : ObjOk X.prog X.w (upd H s.heap.objs.size (.tup [x, y, v])) h'' s.heap.objs.size (.tup [x, y, v]) :=
   ⟨by show 3 ≤ sizeLine; decide, [x1, x2, x3], .cons ru1 (.cons ru2 (.cons ru3 .nil)), ⟨_, hT2, rfl, _, rfl⟩⟩
  have I1 : Inv X pins σ (upd H s.heap.objs.size (.tup [x, y, v])) { s with heap := h'', toks := tk } :=
   I.turnedNew (t' := tk) (ch := [z, TI, TO, i1, i2, i3]) (fun c o hb q => (sb.2 c (fun q' => hb (by simp [q']))).trans (hk c o (fun q' => hb (by simp [q'])) (fun q' => hb (by simp [q'])) (fun q' => hb (by simp [q'])) (fun q' => hb (by simp [q'])) (fun q' => hb (by simp [q'])) q)) hf (Nat.le_refl _) new
  refine ⟨.ref s.heap.objs.size, _, I1, rfl, ⟨_, x, y, v, rfl, I.hok.fresh (Nat.le_refl _), rfl, fun l hl => by rw [I.list_inj hl hqx]; exact hx, fun l hl => by rw [I.list_inj hl hqy]; exact hy, fun l hl => by rw [I.list_inj hl hqz]; exact hv⟩, ⟨by omega, z'', ?_, ⟨x1, x2, x3, ?_⟩, ?_, ?_, ?_⟩, fun c hcm => ?_⟩
  ·exact (sb.2 _ S.TIz).trans (hk _ _ S.TIz S.TITO S.TIi1 S.TIi2 S.TIi3 hTI)
  ·exact (sb.2 _ S.TOz).trans TO'
  ·exact h1'.1.at fun o q => (sb.2 _ fun e => S.zf1 (by rw [e]; simp)).trans q
  ·exact h2'.1.at fun o q => (sb.2 _ fun e => S.zf2 (by rw [e]; simp)).trans q
  ·exact h3'.1.at fun o q => (sb.2 _ fun e => S.zf3 (by rw [e]; simp)).trans q
  ·have hlt : c < s.heap.objs.size := by
    have e' : c = z ∨ c = TI ∨ c = TO ∨ c = i1 ∨ c = i2 ∨ c = i3 := by simpa using hcm
    rcases e' with q | q | q | q | q | q
    ·rw [q]; exact hzl
    ·rw [q]; exact Heap.lt_size hTI
    ·rw [q]; exact Heap.lt_size hTO
    ·rw [q]; obtain ⟨_, e1, _⟩ := h1; exact Heap.lt_size e1
    ·rw [q]; obtain ⟨_, e2, _⟩ := h2; exact Heap.lt_size e2
    ·rw [q]; obtain ⟨_, e3, _⟩ := h3; exact Heap.lt_size e3
   rw [upd_ne (Nat.ne_of_lt hlt)]
   exact (hf c hcm).1
 done := by
  intro X hP hw hK hc i pins s σ H E I hf st hg
  subst hP hw hK
  obtain ⟨hin, hz, hTI, ⟨x0, y0, u0, hTO⟩, h1, h2, h3⟩ := st
  obtain ⟨xs, ys, zs, hqx, hqy, hqz, b1, b2, b3, hend⟩ := hg
  obtain ⟨its, rv, p, _⟩ := I.list hqx
  obtain ⟨its2, rv2, p2, _⟩ := I.list hqy
  obtain ⟨its3, rv3, p3, _⟩ := I.list hqz
  have l1 := rv.length
  have l2 := rv2.length
  have l3 := rv3.length
  have D1 := Draws.list (prog := X.prog) (w := X.w) (A := X.A.in1) (I.ok.hd hc) i1 a n1 its.toArray
  have D2 := Draws.list (prog := X.prog) (w := X.w) (A := X.A.in1) (I.ok.hd hc) i2 b n2 its2.toArray
  have D3 := Draws.list (prog := X.prog) (w := X.w) (A := X.A.in1) (I.ok.hd hc) i3 c n3 its3.toArray
  exact wpAny_pyNext_zipD3_end S D1 D2 D3 hz hTI hTO ⟨h1, p.isList⟩ ⟨h2, p2.isList⟩ ⟨h3, p3.isList⟩ (by simp; omega) (by simp; omega) (by simp; omega) (by simp; omega) fun h' tk hk => ⟨rfl, I.turnedL (t' := tk) (ch := [z, TI, TO, i1, i2, i3]) (fun c o hb q =>
   hk c o (fun q' => hb (by simp [q'])) (fun q' => hb (by simp [q'])) (fun q' => hb (by simp [q'])) (fun q' => hb (by simp [q'])) (fun q' => hb (by simp [q'])) q) hf⟩
 self := fun A i s Q E st h => wpAny_pyIter_zip st.2.1 h
def qha (K : PySem.W.Frag) (ta : TA) : TI := fun σ H R => ta σ H fun vs H1 => ∃ a b c xs ys zs, vs = [.ref a, .ref b, .ref c] ∧ SqL K H1 a xs ∧ SqL K H1 b ys ∧ SqL K H1 c zs ∧ xs.length = ys.length ∧ xs.length = zs.length ∧ R (ItZ3 K a b c xs.length) H1
theorem qe0 {X : Cx} {e e2 e3 : Expr} {ta : TA} {p pos tpos : Pos} {elts : List Expr} {kk : Nat} (hg : Gl X "zip") (hm : X.mg "zip" = none) (ha : PA X [e, e2, e3] ta)
 (hs : starEach [e, e2, e3] X.env = (false, eval e X.env) :: starEach [e2, e3] X.env := by rfl) (hpl : (backTo pos (starEach [e2, e3] X.env)).any (·.1) = false := by rfl) :
 PI X (.Tuple elts kk tpos) (.Call (.Name "zip" p) [e, e2, e3] [] pos) (qha X.K ta) := by
 refine ⟨fun pins s σ H R I h => ?_⟩
 refine Call_ (ld_blt I hg hm PyProof.Rows.boot_zip (PyProof.Rows.callWith_type1 (thn (ha.run pos pins s σ H _ I h) fun us s1 ⟨vs, H1, I1, r1, q1⟩ => ?_) hs hpl))
 obtain ⟨a, b, c, xs, ys, zs, ex, h1, h2, h3, _, _, q⟩ := q1
 subst ex
 cases r1 with
 | cons r r1 =>
   cases r1 with
   | cons r' r1 =>
     cases r1 with
     | cons r'' r1 =>
       cases r1
       cases r
       cases r'
       cases r''
       obtain ⟨its, rv, p1, _⟩ := I1.list h1
       obtain ⟨its2, rv2, p2, _⟩ := I1.list h2
       obtain ⟨its3, rv3, p3, _⟩ := I1.list h3
       have la : a < s1.heap.objs.size := by obtain ⟨o, ho, _⟩ := p1.isList; exact Heap.lt_size ho
       have lb : b < s1.heap.objs.size := by obtain ⟨o, ho, _⟩ := p2.isList; exact Heap.lt_size ho
       have lc : c < s1.heap.objs.size := by obtain ⟨o, ho, _⟩ := p3.isList; exact Heap.lt_size ho
       have S := zip_sep3 (N := s1.heap.objs.size) (fp1 := [a]) (fp2 := [b]) (fp3 := [c]) (fun x hx => by rw [List.mem_singleton.mp hx]; exact la) (fun x hx => by rw [List.mem_singleton.mp hx]; exact lb) fun x hx => by rw [List.mem_singleton.mp hx]; exact lc
       have low : ∀ x ∈ [s1.heap.objs.size + 5, s1.heap.objs.size + 3, s1.heap.objs.size + 4, s1.heap.objs.size, s1.heap.objs.size + 1, s1.heap.objs.size + 2], FpOk X pins H1 x := fun x hx => by
        have hle : s1.heap.objs.size ≤ x := by
         simp only [List.mem_cons, List.not_mem_nil, or_false] at hx
         rcases hx with z | z | z | z | z | z <;> rw [z] <;> first | exact Nat.le_refl _ | exact Nat.le_add_right _ _
        exact I1.fpOk hle (I1.hok.fresh hle)
       refine zip_begins3 (begins_list a its.toArray) (begins_list b its2.toArray) (begins_list c its3.toArray) p1.isList p2.isList p3.isList fun h' hz hTI hTO g1 g2 g3 hsz hk => wpAny_pyIter_zip hz ?_
       exact ⟨_, _, _, _, H1, rfl, I1.kept (t' := s1.toks) hk, qeJ S (Nat.ne_of_lt la) (Nat.ne_of_lt (Nat.lt_succ_of_lt lb)) (Nat.ne_of_lt (Nat.lt_succ_of_lt (Nat.lt_succ_of_lt lc))), ⟨Nat.zero_le _, hz, hTI, ⟨_, _, _, hTO⟩, ⟨_, g1, rfl, rfl⟩, ⟨_, g2, rfl, rfl⟩, ⟨_, g3, rfl, rfl⟩⟩, low, q⟩
def Qh : List D → List D → List D → List D
 | x :: xs, y :: ys, z :: zs => .tup [x, y, z] :: Qh xs ys zs
 | _, _, _ => []
theorem Xy : ∀ {xs ys zs : List D} {i : Nat} {d : D}, (Qh xs ys zs)[i]? = some d → ∃ a b c, xs[i]? = some a ∧ ys[i]? = some b ∧ zs[i]? = some c ∧ d = .tup [a, b, c]
 | x :: xs, y :: ys, z :: zs, 0, d, h => by
   have h : some (D.tup [x, y, z]) = some d := h
   cases h
   exact ⟨x, y, z, rfl, rfl, rfl, rfl⟩
 | x :: xs, y :: ys, z :: zs, i + 1, d, h => Xy (xs := xs) (ys := ys) (zs := zs) (i := i) h
 | [], _, _, _, _, h => by rw [Qh] at h <;> first | (cases h) | (intros; contradiction)
 | _ :: _, [], _, _, _, h => by rw [Qh] at h <;> first | (cases h) | (intros; contradiction)
 | _ :: _, _ :: _, [], _, _, h => by rw [Qh] at h <;> first | (cases h) | (intros; contradiction)
theorem Xx : ∀ {xs ys zs : List D}, xs.length = ys.length → xs.length = zs.length → (Qh xs ys zs).length = xs.length
 | [], _, _, _, _ => by rw [Qh] <;> first | rfl | (intros; contradiction)
 | x :: xs, [], _, h, _ => by cases h
 | x :: xs, _ :: _, [], _, h => by cases h
 | x :: xs, y :: ys, z :: zs, h1, h2 => by
   rw [Qh, List.length_cons, List.length_cons, Xx (by simpa using h1) (by simpa using h2)]
def qfs (t u v : XE) : XI := fun env k => t env fun r1 e1 => u e1 fun r2 e2 => v e2 fun r3 e3 => rd 1 r1 e3 fun d1 => rd 1 r2 e3 fun d2 => rd 1 r3 e3 fun d3 => match d1, d2, d3 with
 | .lF xs, .lF ys, .lF zs => immL xs = true ∧ immL ys = true ∧ immL zs = true ∧ xs.length = ys.length ∧ xs.length = zs.length ∧ k (Qh xs ys zs) none none e3
 | _, _, _ => False
theorem qiu {K : PySem.W.Frag} {H0 : Hp} {a b c : Addr} {ds es fs : List D} {vs ws us : List V} {P : List Addr} (h1 : ∀ H, Near H0 P H → SqL K H a vs) (h2 : ∀ H, Near H0 P H → SqL K H b ws) (h3 : ∀ H, Near H0 P H → SqL K H c us)
 (r1 : Reps K H0 0 ds vs []) (r2 : Reps K H0 0 es ws []) (r3 : Reps K H0 0 fs us []) (e1 : ds.length = es.length) (e2 : ds.length = fs.length) : Wk K (ItZ3 K a b c vs.length) (Qh ds es fs) none H0 P := by
 have ln := Xx e1 e2
 have l1 := r1.len
 have l2 := r2.len
 have l3 := r3.len
 refine ⟨fun i H n h => ⟨vs, ws, us, vs[i]'(by omega), ws[i]'(by omega), us[i]'(by omega), h1 H n, h2 H n, h3 H n, rfl, by omega, by omega, List.getElem?_eq_getElem _, List.getElem?_eq_getElem _, List.getElem?_eq_getElem _⟩, fun i H n h => ⟨vs, ws, us, h1 H n, h2 H n, h3 H n, rfl, by omega, by omega, by omega⟩, fun i H x H' d n e y => ?_⟩
 obtain ⟨T, x0, y0, z0, rfl, hT, rfl, hx, hy, hz⟩ := y
 obtain ⟨d1, d2, d3, g1, g2, g3, rfl⟩ := Xy e
 have kp : ∀ {d : D} {v : V}, Rep K H0 0 d v [] → Rep K H 0 d v [] := fun r => r.keep fun b o e z => n b o e (z.imp_left fun z => by simp at z)
 have n1 := kp (r1.nilAt rfl i d1 x0 g1 (hx vs (h1 H n)))
 have n2 := kp (r2.nilAt rfl i d2 y0 g2 (hy ws (h2 H n)))
 have n3 := kp (r3.nilAt rfl i d3 z0 g3 (hz us (h3 H n)))
 have ex : Ext H (L2.upd H T (.tup [x0, y0, z0])) [T] := .upd hT
 have up : ∀ {d : D} {v : V}, Rep K H 0 d v [] → Rep K (L2.upd H T (.tup [x0, y0, z0])) 0 d v [] := fun r => r.keep fun b o e _ => ex.same b o e
 exact ⟨ex.same, .tup upd_same (.cons (f := []) (g := []) (up n1) (.cons (f := []) (g := []) (up n2) (.cons (f := []) (g := []) (up n3) .nil fun _ b z => by cases z) fun _ b z => by cases z) fun _ b z => by cases z)⟩
section
variable {X : Cx} {e e2 e3 : Expr} {t u v : XE} {p pos tpos : Pos} {elts : List Expr} {kk : Nat}
theorem qfC (ha : DE X e t) (hb : DE X e2 u) (hc : DE X e3 v) (hm : X.mg "zip" = none) (hg : Gl X "zip" := by rfl) (hs1 : starEach [e, e2, e3] X.env = (false, eval e X.env) :: starEach [e2, e3] X.env := by rfl) (hs2 : starEach [e2, e3] X.env = (false, eval e2 X.env) :: starEach [e3] X.env := by rfl)
 (hs3 : starEach [e3] X.env = (false, eval e3 X.env) :: starEach [] X.env := by rfl) (hpl : (backTo pos (starEach [e2, e3] X.env)).any (·.1) = false := by rfl) : DI X (.Tuple elts kk tpos) (.Call (.Name "zip" p) [e, e2, e3] [] pos) (qfs t u v) := by
 refine ⟨PI.imp (qe0 hg hm (qb ha (qb hb (qb hc qp hs3) hs2) hs1).run hs1 hpl) fun σ H R q => ?_, fun env k k' h q => ha.mono _ _ _ (fun r e q => hb.mono _ _ _ (fun r2 e2 q => hc.mono _ _ _ (fun r3 e3 q => qO (fun d q => qO (fun d2 q => qO (fun d3 q => ?_) q) q) q) q) q) q⟩
 ·obtain ⟨env, f, A, q⟩ := q
  refine ⟨env, f, A, ha.mono _ _ _ (fun r1 e1 q => hb.mono _ _ _ (fun r2 e2 q => hc.mono _ _ _ (fun r3 e3 q => ?_) q) q) q⟩
  intro vs H1 f1 gs A1 R1 S1 K1
  cases R1 with
  | cons R1 Rt _ =>
    cases Rt with
    | cons R2 Rt _ =>
      cases Rt with
      | cons R3 Rt _ =>
        cases Rt
        obtain ⟨d1, g1, rp1, q⟩ := yO A1 R1 q
        obtain ⟨d2, g2, rp2, q⟩ := yO A1 R2 q
        obtain ⟨d3, g3, rp3, q⟩ := yO A1 R3 q
        have S0 := S1.drop (G2 := []) fun _ z => by simp at z
        split at q
        ·obtain ⟨m1, m2, m3, z1, z2, q⟩ := q
         obtain ⟨eg1, rq1⟩ := rp1.imm (Nat.le_refl _) (by rw [D.imm]; exact m1)
         obtain ⟨eg2, rq2⟩ := rp2.imm (Nat.le_refl _) (by rw [D.imm]; exact m2)
         obtain ⟨eg3, rq3⟩ := rp3.imm (Nat.le_refl _) (by rw [D.imm]; exact m3)
         obtain ⟨a, w1, rfl, hq1, hn1, rr1⟩ := ZC rq1
         obtain ⟨b, w2, rfl, hq2, hn2, rr2⟩ := ZC rq2
         obtain ⟨c, w3, rfl, hq3, hn3, rr3⟩ := ZC rq3
         exact ⟨a, b, c, w1, w2, w3, rfl, hq1, hq2, hq3, by have := rr1.len; have := rr2.len; omega, by have := rr1.len; have := rr3.len; omega, q _ H1 f1 [] e3 A1 S0 K1 .none (qiu hn1 hn2 hn3 rr1 rr2 rr3 z1 z2) (fun b hb => by simp at hb) (fun _ b hb => by simp at hb)⟩
        ·exact q.elim
 ·split at q
  ·exact ⟨q.1, q.2.1, q.2.2.1, q.2.2.2.1, q.2.2.2.2.1, h _ _ _ _ q.2.2.2.2.2⟩
  ·exact q.elim
end
end BX
namespace BX
open PySem PySem.Spec PyProof.Rows L2
def b1N (B : B1) : Bn := fun r1 rs e Q => match rs with
 | [r2] => B r1 r2 e Q
 | _ => False
theorem M1Ok.toN {X : Cx} {T : String} {isT : D → Bool} {rr : V → List V → Hp → VK → Prop} {B : B1} (ok : M1Ok X T isT rr B) : MnOk X T isT rr (b1N B) where
 ty := fun H d x g r e => ok.ty H d x g (r.up (by omega)) e
 mono := fun r1 rs e Q Q' h q => by
  unfold b1N at q ⊢
  split at q
  ·exact ok.mono _ _ _ _ _ h q
  ·exact q.elim
 run := fun σ H e f r1 rs x ys g1 gs QQ Q A R1 R2 n q k => by
  unfold b1N at q
  split at q
  ·cases R2 with
   | @cons _ _ g2 _ _ _ R2 Rt nn =>
     cases Rt
     exact ok.run σ H e f r1 _ x _ g1 g2 QQ Q A R1 R2 (fun b hb z => n b hb (List.mem_append_left _ z)) q fun v H' e' f' r' g' A' R' S' K' q' => k v H' e' f' r' g' A' R' (by rw [List.append_nil]; exact S') K' q'
  ·exact q.elim
section
variable {X : Cx} {a b : Expr} {ta : XE} {tv : XV} {pos : Pos} {L : Nat} {op' : OP}
theorem qa3 (ho : Xw op') (ma : xV ta) (mv : qfY tv) : xV (Yd L op' ta tv) := fun env Q Q' h q => ma _ _ _ (fun r e q => mv _ _ _ (fun d e q => qO (fun d q => ho _ _ _ _ (fun d q => h _ _ q) q) q) q) q
theorem qa4 {K : PySem.W.Frag} (ho : Xw op') (ma : xV ta) (mv : qfY tv) {σ : L2.St} {H : Hp} {Q : VK} (q : jx K (Yd L op' ta tv) σ H Q) : tOp (rOp K L op') (jx K ta) (qfl K L tv) σ H Q := by
 obtain ⟨env, f, A, q⟩ := q
 refine ⟨env, f, A, ma _ _ _ (fun r1 e1 q1 => ?_) q⟩
 intro y H1 f1 g1 A1 R1 S1 K1
 refine ⟨e1, f1, A1, mv _ _ _ (fun d2 e2 q2 => ?_) q1⟩
 intro z H2 f2 g2 A2 R2 S2 K2
 obtain ⟨R1', _⟩ := R1.wait A1 S2 K2
 obtain ⟨d1, g1', rp1, q3⟩ := yO A2 R1' q2
 refine ⟨d1, d2, g1', g2, rp1, R2, ho _ _ _ _ (fun d q4 => ?_) q3⟩
 intro w H' g rp x
 obtain ⟨A3, R3, S3⟩ := vI A2 (S1.trans (S2.frame g1)) x rp
 exact q4 w H' f2 g A3 R3 S3 (K1.trans K2)
theorem Xh {op : CmpOp} (ho : OpD X (compareOp op) L op') (ha : DE X a ta) (hv : DV X b L tv) (hbl : BlOp op') (hm : behindInMarks op b = false := by rfl) : DT X (.Compare a [op] [b] pos) (xVal (Yd L op' ta tv)) := by
 have md := qa3 (L := L) ho.mono ha.mono hv.mono
 refine ⟨PT.imp (pt_cmpR ho.run ha.run hv.run hm) fun σ H Q q => ?_, fun env Q Q' h q => md _ _ _ (fun r e q => qO (fun d q => Qn (fun b q => h _ _ q) q) q) q⟩
 obtain ⟨env, f, A, q⟩ := q
 show tOp (rOp X.K L op') (jx X.K ta) (qfl X.K L tv) σ H fun x H' => ∃ k, x = .bl k ∧ Q k H'
 refine qa4 ho.mono ha.mono hv.mono ⟨env, f, A, ?_⟩
 unfold xVal at q
 have q2 : Yd L op' ta tv env fun r e => (∃ b, r = .tmp (.bl b)) ∧ rd 2 r e fun d => tru d fun b => ∀ (H' : Hp) (f' : FA), Abs X.K σ H' e f' → Stp H env f [] H' e f' [] → Kp env f e f' → Q b H' := by
  unfold Yd at q ⊢
  refine ha.mono _ _ _ (fun r1 e1 q => hv.mono _ _ _ (fun d2 e2 q => qO (fun d1 q => ?_) q) q) q
  refine ho.mono _ _ _ _ (fun d q => ?_) (hbl _ _ _ q)
  obtain ⟨⟨b, rfl⟩, q⟩ := q
  exact ⟨⟨b, rfl⟩, q⟩
 refine md _ _ _ (fun r e q => ?_) q2
 obtain ⟨⟨b, rfl⟩, q⟩ := q
 intro v H' f' g A' R' S' K'
 cases R' with
 | tmp rp n =>
   obtain ⟨rfl, rfl⟩ := rp.blV
   exact ⟨b, rfl, q H' f' A' S' K'⟩
end
end BX
namespace BX
open PySem PySem.Spec PyProof.Rows L2 RT
def sFzO (i : Nat) (t : XS) : XS := fun env nx rt => match env[i]? with
 | some (some (.lst ds, .own)) => immL ds = true ∧ t (env.set i (some (.lF ds, .own))) nx rt
 | _ => False
section
variable {K : PySem.W.Frag} {σ : L2.St} {H : Hp} {env : En} {f : FA}
theorem qdI {i : Nat} {ds : List D} (A : Abs K σ H env f) (e : env[i]? = some (some (.lst ds, .own))) (im : immL ds = true) :
 ∃ a vs, H a = some (.lst vs) ∧ ∀ od, Abs K σ (L2.upd H a (.frz od (.lst vs))) (env.set i (some (.lF ds, .own))) (fset f i []) ∧
  Stp H env f [] (L2.upd H a (.frz od (.lst vs))) (env.set i (some (.lF ds, .own))) (fset f i []) [] ∧ Kq σ env f σ (env.set i (some (.lF ds, .own))) (fset f i []) := by
 obtain ⟨v, hv, rp⟩ := A.rep _ _ _ e
 obtain ⟨a, vs, g, rfl, ha, rr, hf, na⟩ := rp.listAt
 obtain ⟨rfl, r0⟩ := rr.imm (Nat.zero_le _) im
 refine ⟨a, vs, ha, fun od => ?_⟩
 obtain ⟨A2, S2, K2, _⟩ := A.mut (d' := .lF ds) (H' := L2.upd H a (.frz od (.lst vs))) (g' := []) (G := []) (G' := []) e rfl hv (fun b o hb z => by
  have : b ≠ a := fun w => z (by rw [hf, w]; exact List.mem_cons_self ..)
  rw [upd_ne this]; exact hb) (.lF upd_same (r0.keep fun b o hb z => by
  have : b ≠ a := fun w => by
   subst w
   rcases z with z | z
   ·simp at z
   ·rw [ha] at hb; cases hb; cases z
  rw [upd_ne this]; exact hb)) (fun b hb => by simp at hb) (fun b hb => by simp at hb) (fun b hb => by simp at hb)
 exact ⟨A2, S2, K2.kq⟩
end
theorem qcF {X : Cx} {i : Nat} {st : Stmt} {t : XS} (h : DS X st t) : DS X st (sFzO i t) := by
 refine ⟨PS.imp (qgE h.run) fun Dn σ H q => ?_, fun env nx nx' rt rt' h1 h2 q => ?_⟩
 ·obtain ⟨env, f, A, q⟩ := q
  unfold sFzO at q
  split at q
  ·rename_i ds e
   obtain ⟨a, vs, ha, w⟩ := qdI A e q.1
   refine ⟨a, _, ha, True.intro, fun od => ?_⟩
   obtain ⟨A2, S2, K2⟩ := w od
   refine ⟨_, _, A2, h.mono _ _ _ _ _ (fun e2 q σ' H' f' A' S' K' => q σ' H' f' A' (S2.trans S') (K2.trans K')) (fun d e2 q => ?_) q.2⟩
   intro v σ' H' f' g A' r n S' K'
   exact q v σ' H' f' g A' r n (S2.trans S') (K2.trans K')
  ·exact q.elim
 ·unfold sFzO at q ⊢
  split at q
  ·exact ⟨q.1, h.mono _ _ _ _ _ h1 h2 q.2⟩
  ·exact q.elim
end BX
namespace BX
open PySem PySem.Spec PyProof.Rows L2
def Z0 (d : D) (k : D → Prop) : Prop := match d with
 | .dT kvs => match Jg kvs with
   | some l => k (.lst (l.map tupI))
   | none => False
 | _ => False
theorem qc4 {K : PySem.W.Frag} {H : Hp} : ∀ {xs : List V} {l : List (List Int)}, Paired (At H) xs l → Reps K H 0 (l.map tupI) xs []
 | _, _, .nil => .nil
 | _, _, .cons h t => by
   obtain ⟨b, rfl, hb, _⟩ := h
   refine .cons (f := []) (g := []) ?_ (qc4 t) fun _ b z => by cases z
   refine .tup hb ?_
   exact Qv _
section
variable {X : Cx}
theorem qaq (hx : Ok X) : CallD X (.type "list") 1 (op1 Z0) := Xp (by decide) (fun pins s σ H x us Q d g I rs r q => by
 obtain ⟨u, rfl, rx⟩ := vals1 rs
 unfold Z0 at q
 split at q
 ·split at q
  ·rename_i kvs l e
   cases r with
   | dTF l _ _ _ _ => exact absurd l (by omega)
   | @dT a hs kvs f ha he nd r nn =>
     cases rx
     obtain ⟨z, hss, ks, pr, o, es, ep, ho, hxx, hdt, hee, hn⟩ := (show ObjOk X.prog X.w H s.heap a (.dT hs) from I.hok a _ ha)
     have l1 : es.size = ks.length := size_of_entries hee
     have l2 : hs.length = ks.length := Paired.length pr
     have pt := V6 (isKeys_of pr) he e
     refine PySem.W.kdl_call (kdl_raw hss hxx hdt) (I.ok.hd hx.calm) ho (by omega) fun h' tk acc c' kp hD it => ?_
     have ea : acc.toList = (ks.map fun x => x.2.1).map Value.ref := by
      rw [List.map_map]
      apply List.ext_getElem?
      intro j
      have hl : acc.toList.length = ks.length := by rw [Array.length_toList, it.1]; exact l1
      cases hj : acc.toList[j]? with
      | none =>
        have h1 := List.getElem?_eq_none_iff.mp hj
        rw [List.getElem?_eq_none (by rw [List.length_map]; omega)]
      | some v =>
        obtain ⟨en, hen, hv⟩ := it.2 j v (by rw [← Array.getElem?_toList]; exact hj)
        have qe := entry_at hee j
        rw [hen] at qe
        rw [List.getElem?_map]
        cases hb : ks[j]? with
        | none => rw [hb] at qe; cases qe
        | some b =>
          rw [hb] at qe
          have e2 : en = entryOfKey (tupleKind (mixKind X.prog X.w)) b := Option.some.inj qe
          rw [hv, e2]
          rfl
     have hf : H s.heap.objs.size = none := I.hok.fresh (Nat.le_refl _)
     have hv : Vals ((ks.map fun x => x.2.1).map V.ref) acc.toList := by rw [ea]; exact vals_refs _
     have hlen : ((ks.map fun x => x.2.1).map V.ref).length ≤ sizeLine := by rw [List.length_map, List.length_map]; omega
     refine ⟨.ref s.heap.objs.size, upd H s.heap.objs.size (.lst ((ks.map fun x => x.2.1).map V.ref)), I.laid (t' := tk) kp (Nat.le_refl _)
      (show ObjOk X.prog X.w _ _ _ (.lst ((ks.map fun x => x.2.1).map V.ref)) from ⟨hlen, acc.toList, c', hv, by rw [Array.toArray_toList]; exact hD⟩), rfl, q _ _ _ (vW hf (qc4 pt)) (Ext.upd hf)⟩
  ·exact q.elim
 ·exact q.elim) (fun d k k' h q => by
 unfold Z0 at q ⊢
 split at q
 ·split at q
  ·simp only [*] <;> exact h _ q
  ·exact q.elim
 ·exact q.elim)
end
end BX
namespace BX
open PySem PySem.Spec PyProof.Rows L2
def dist : Nat → List Nat → Bool
 | 0, l => decide (l.length ≤ 1)
 | n + 1, l => match l with
   | [] => true
   | [_] => true
   | l => dist n ((l.filter fun a => a % 2 == 0).map (· / 2)) && dist n ((l.filter fun a => !(a % 2 == 0)).map (· / 2))
theorem Zz {α β : Type} {f : α → β} : ∀ {l : List α}, (l.map f).Nodup → l.Nodup
 | [], _ => List.nodup_nil
 | a :: l, h => by
   rw [List.map_cons, List.nodup_cons] at h
   exact List.nodup_cons.mpr ⟨fun z => h.1 (List.mem_map_of_mem z), Zz h.2⟩
theorem Jb {α : Type} {p : α → Bool} : ∀ {l : List α}, (l.filter p).Nodup → (l.filter fun a => !p a).Nodup → l.Nodup
 | [], _, _ => List.nodup_nil
 | a :: l, h1, h2 => by
   refine List.nodup_cons.mpr ⟨fun z => ?_, ?_⟩
   ·cases hp : p a with
    | true =>
      rw [List.filter_cons_of_pos hp, List.nodup_cons] at h1
      exact h1.1 (List.mem_filter.mpr ⟨z, hp⟩)
    | false =>
      rw [List.filter_cons_of_pos (by rw [hp] <;> rfl), List.nodup_cons] at h2
      exact h2.1 (List.mem_filter.mpr ⟨z, by rw [hp]; rfl⟩)
   ·refine Jb (p := p) ?_ ?_
    ·cases hp : p a with
     | true => rw [List.filter_cons_of_pos hp, List.nodup_cons] at h1; exact h1.2
     | false => rw [List.filter_cons_of_neg (by rw [hp]; exact Bool.false_ne_true)] at h1; exact h1
    ·cases hp : p a with
     | true => rw [List.filter_cons_of_neg (by rw [hp]; simp)] at h2; exact h2
     | false => rw [List.filter_cons_of_pos (by rw [hp] <;> rfl), List.nodup_cons] at h2; exact h2.2
theorem Um {α : Type} {l : List α} (h : l.length ≤ 1) : l.Nodup := by
 match l, h with
 | [], _ => exact List.nodup_nil
 | [a], _ => simp
theorem Wd : ∀ {n : Nat} {l : List Nat}, dist n l = true → l.Nodup
 | 0, l, h => Um (of_decide_eq_true h)
 | n + 1, l, h => by
   unfold dist at h
   split at h
   ·exact List.nodup_nil
   ·simp
   ·rw [Bool.and_eq_true] at h
    exact Jb (p := fun a => a % 2 == 0) (Zz (Wd h.1)) (Zz (Wd h.2))
def qaU (c : Int × Int) : Int := reduceHash (Builtin.Tuple.tupleHashOf [hashInt c.1, hashInt c.2])
def qbX : List (Nat × Nat) := (List.range 64).flatMap fun x => (List.range 64).map fun y => (x, y)
def natH (p : Nat × Nat) : Nat := (qaU ((p.1 : Int), (p.2 : Int)) % 18446744073709551616).toNat
theorem qfU : dist 64 (qbX.map natH) = true := by decide +kernel
theorem qep {α β : Type} {f : α → β} : ∀ {l : List α}, (l.map f).Nodup → ∀ {a b : α}, a ∈ l → b ∈ l → f a = f b → a = b
 | [], _, a, b, ha, _, _ => by cases ha
 | c :: l, h, a, b, ha, hb, e => by
   rw [List.map_cons, List.nodup_cons] at h
   rcases List.mem_cons.mp ha with ea | ha2
   ·rcases List.mem_cons.mp hb with eb | hb2
    ·rw [ea, eb]
    ·exact absurd (by rw [← ea, e]; exact List.mem_map_of_mem hb2) h.1
   ·rcases List.mem_cons.mp hb with eb | hb2
    ·exact absurd (by rw [← eb, ← e]; exact List.mem_map_of_mem ha2) h.1
    ·exact qep h.2 ha2 hb2 e
theorem qbY {a b : Int × Int} (ha : (0 ≤ a.1 ∧ a.1 < 64) ∧ 0 ≤ a.2 ∧ a.2 < 64) (hb : (0 ≤ b.1 ∧ b.1 < 64) ∧ 0 ≤ b.2 ∧ b.2 < 64) (e : qaU a = qaU b) : a = b := by
 obtain ⟨x, y⟩ := a
 obtain ⟨u, v⟩ := b
 obtain ⟨x, rfl⟩ : ∃ n : Nat, x = (n : Int) := ⟨x.toNat, by omega⟩
 obtain ⟨y, rfl⟩ : ∃ n : Nat, y = (n : Int) := ⟨y.toNat, by omega⟩
 obtain ⟨u, rfl⟩ : ∃ n : Nat, u = (n : Int) := ⟨u.toNat, by omega⟩
 obtain ⟨v, rfl⟩ : ∃ n : Nat, v = (n : Int) := ⟨v.toNat, by omega⟩
 have mem : ∀ {p q : Nat}, p < 64 → q < 64 → (p, q) ∈ qbX := fun hp hq => List.mem_flatMap.mpr ⟨_, List.mem_range.mpr hp, List.mem_map.mpr ⟨_, List.mem_range.mpr hq, rfl⟩⟩
 have hn : natH (x, y) = natH (u, v) := by
  show (qaU ((x : Int), (y : Int)) % 18446744073709551616).toNat = (qaU ((u : Int), (v : Int)) % 18446744073709551616).toNat
  rw [e]
 have := qep (Wd qfU) (mem (by have := ha.1; dsimp only at this; omega) (by have := ha.2; dsimp only at this; omega)) (mem (by have := hb.1; dsimp only at this; omega) (by have := hb.2; dsimp only at this; omega)) hn
 injection this with h1 h2
 rw [h1, h2]
theorem X6 {P : Program} {w : World} (c : Int × Int) : (tupleKind (mixKind P w)).hash [Sum.inl c.1, Sum.inl c.2] = qaU c := rfl
end BX
namespace PySem
section
variable {prog : Program} {w : World} {K : Type} [DecidableEq K] {knd : HeapKind prog w K} {A : Around} {E : Value → Shared → Prop} {s : Shared}
theorem Xq {o : Addr} {more : List (K × Addr × Value)} {Q : Value → Shared → Prop} (hu : knd.room A.in1.in1) (hoS : (o == sysModules) = false) (ho : s.heap.DictOfH knd o more) (hst : ∀ h' : Heap, (∀ b o, s.heap.get? b = some o → h'.get? b = some o) → ∀ x ∈ more, knd.is h' x.1 x.2.1)
 (hty : ∀ x ∈ more, s.TypeIs (.ref x.2.1) "tuple") (hap : (more.map fun x => knd.hash x.1).Nodup) (hsz : more.length ≤ sizeLine)
 (h : ∀ h', h'.DictOfH knd s.heap.objs.size more → Heap.SameBut s.heap.objs.size (s.heap.push { cls := .type "dict", data := .dict #[] }) h' → Q (.ref s.heap.objs.size) { s with heap := h' }) :
 wpAny (model prog w) A (call (.type "dict") [.ref o]) Q E s := by
 refine callType_codes (Q₁ := fun obj s₁ => obj = .ref s.heap.objs.size ∧ s₁ = { s with heap := s.heap.push { cls := .type "dict", data := .dict #[] } }) F.kt_called_dict (F.kt_typeCall_dict_1 _) F.entry_dict_init (kt_code_dict_new _ ⟨rfl, rfl⟩) ?_
 rintro obj s₁ ⟨rfl, rfl⟩
 have hnew : (s.heap.push { cls := .type "dict", data := .dict #[] }).DictOfH knd s.heap.objs.size [] := Heap.DictOfH.new s.heap
 have hk : ∀ b o', s.heap.get? b = some o' → (s.heap.push { cls := .type "dict", data := .dict #[] }).get? b = some o' := fun b o' e => Heap.get?_push_of_some _ e
 have ho' : (s.heap.push { cls := .type "dict", data := .dict #[] }).DictOfH knd o more := by
  obtain ⟨ob, es, ep, h1, h2, h3, h4, h5, h6⟩ := id ho
  exact ⟨ob, es, ep, hk _ _ h1, h2, h3, h4, hst _ hk, h6⟩
 have hn : (more.map (·.1)).Nodup := ho.nodup
 have hdo : s.heap.objs.size ≠ o := by
  obtain ⟨_, _, _, hg, _⟩ := ho
  exact fun e => absurd (Heap.lt_size hg) (by rw [e]; exact Nat.lt_irrefl _)
 refine ⟨hnew.typeIs, F.args_dict_init_2 _ _, ?_⟩
 unfold Builtin.«dict.__init__»
 refine wpAny_bind ?_
 unfold Builtin.Dict.selfAndRest
 refine wpAny_bind (wpAny_notOrdered_dict hnew.typeIs ?_)
 show wpAny _ _ (pure (s.heap.objs.size, [Value.ref o])) _ _ _
 refine wpAny_pure ?_
 show wpAny _ _ (Builtin.Dict.updateFrom "dict.__init__" s.heap.objs.size (.ref o) [] .none) _ _ _
 refine updateFrom_dictH (A := A.in1) (nm := "dict.__init__") (kvs := []) (s := { s with heap := s.heap.push { cls := .type "dict", data := .dict #[] } }) .none hu hdo hoS hnew ho' (.inr ⟨fun x hx => ?_, hap⟩) (by simpa using hsz) fun h' hd' _ hs' => ?_
 ·obtain ⟨ot, h1, h2⟩ := hty x hx
  exact ⟨ot, hk _ _ h1, h2⟩
 ·rw [storedAllH_nil_of_nodup more hn] at hd'
  exact ⟨rfl, h h' hd' hs'⟩
end
end PySem
namespace BX
open PySem PySem.Spec PyProof.Rows L2
def qbF (kvs : List (List Key × D)) : Bool := kvs.all fun p => match p.1 with
 | [.inl x, .inl y] => decide (0 ≤ x ∧ x < 64) && decide (0 ≤ y ∧ y < 64)
 | _ => false
theorem qdp {kvs : List (List Key × D)} (h : qbF kvs = true) {k : List Key} (hk : k ∈ kvs.map (·.1)) : ∃ c : Int × Int, k = [.inl c.1, .inl c.2] ∧ (0 ≤ c.1 ∧ c.1 < 64) ∧ 0 ≤ c.2 ∧ c.2 < 64 := by
 obtain ⟨p, hp, rfl⟩ := List.mem_map.mp hk
 have := List.all_eq_true.mp h p hp
 split at this
 ·rename_i x y e
  rw [Bool.and_eq_true] at this
  exact ⟨(x, y), e, of_decide_eq_true this.1, of_decide_eq_true this.2⟩
 ·cases this
theorem Jc {α β : Type} {f : α → β} : ∀ {l : List α}, l.Nodup → (∀ a ∈ l, ∀ b ∈ l, f a = f b → a = b) → (l.map f).Nodup
 | [], _, _ => List.nodup_nil
 | a :: l, h, inj => by
   rw [List.nodup_cons] at h
   rw [List.map_cons, List.nodup_cons]
   refine ⟨fun z => ?_, Jc h.2 fun x hx y hy => inj x (List.mem_cons_of_mem _ hx) y (List.mem_cons_of_mem _ hy)⟩
   obtain ⟨b, hb, e⟩ := List.mem_map.mp z
   have := inj b (List.mem_cons_of_mem _ hb) a (List.mem_cons_self ..) e
   subst this
   exact h.1 hb
def JL (d : D) (k : D → Prop) : Prop := match d with
 | .dT kvs => immL (kvs.map (·.2)) = true ∧ qbF kvs = true ∧ k (.dT kvs)
 | _ => False
theorem KT.fst {H : Hp} {kvs : List (List Key × V)} {xs : List (List Key × Addr × Value)} (r : KT H kvs xs) : xs.map (·.1) = kvs.map (·.1) := by
 induction r with
 | nil => rfl
 | cons h t ih => rw [List.map_cons, List.map_cons, ih, h.1]
theorem KT.tup {H : Hp} {kvs : List (List Key × V)} {xs : List (List Key × Addr × Value)} (r : KT H kvs xs) : ∀ x ∈ xs, H x.2.1 = some (.tup (x.1.map kV)) := by
 induction r with
 | nil => intro x hx; cases hx
 | cons h t ih =>
   intro x hx
   rcases List.mem_cons.mp hx with rfl | hx
   ·rw [← h.1]; exact h.2.1
   ·exact ih x hx
theorem KT.keepH {H H' : Hp} {kvs : List (List Key × V)} {xs : List (List Key × Addr × Value)} (r : KT H kvs xs) (k : ∀ b o, H b = some o → H' b = some o) : KT H' kvs xs := by
 induction r with
 | nil => exact .nil
 | cons h t ih => exact .cons ⟨h.1, k _ _ h.2.1, h.2.2⟩ ih
section
variable {X : Cx}
theorem qdS (hx : Ok X) : CallD X (.type "dict") 1 (op1 JL) := Xp (by decide) (fun pins s σ H x us Q d g I rs r q => by
 obtain ⟨u, rfl, rx⟩ := vals1 rs
 unfold JL at q
 split at q
 ·rename_i kvs
  obtain ⟨him, hsm, q⟩ := q
  obtain ⟨a, hs, g', rfl, ha, ek, nd, rr, _⟩ := r.dTAt
  obtain ⟨rfl, r0⟩ := rr.imm (Nat.le_refl _) him
  cases rx
  obtain ⟨z, lo, xs, rel, dd⟩ := dt_of (P := X.prog) (w := X.w) I.hok ha
  have kf := KT.fst rel
  have kt := KT.tup rel
  have lx : xs.length = hs.length := by have := congrArg List.length kf; simpa using this
  have sm : ∀ x ∈ xs, ∃ c : Int × Int, x.1 = [.inl c.1, .inl c.2] ∧ (0 ≤ c.1 ∧ c.1 < 64) ∧ 0 ≤ c.2 ∧ c.2 < 64 := fun x hx => qdp hsm (by rw [← ek, ← kf]; exact List.mem_map_of_mem hx)
  have hn : (xs.map (·.1)).Nodup := by rw [kf, ek]; exact nd
  have hh : (xs.map fun x => (tupleKind (mixKind X.prog X.w)).hash x.1).Nodup := by
   have e : (xs.map fun x => (tupleKind (mixKind X.prog X.w)).hash x.1) = (xs.map (·.1)).map (tupleKind (mixKind X.prog X.w)).hash := by rw [List.map_map]; rfl
   rw [e]
   refine Jc hn fun k1 h1 k2 h2 e => ?_
   obtain ⟨x1, m1, rfl⟩ := List.mem_map.mp h1
   obtain ⟨x2, m2, rfl⟩ := List.mem_map.mp h2
   obtain ⟨c1, e1, b1⟩ := sm x1 m1
   obtain ⟨c2, e2, b2⟩ := sm x2 m2
   rw [e1, e2] at e ⊢
   rw [X6, X6] at e
   rw [qbY b1 b2 e]
  refine Xq (knd := tupleKind (mixKind X.prog X.w)) (show X.A.in1.in1.units < cLine from ?_) lo dd (fun h' hk x hx => ?_) (fun x hx => ?_) hh (by omega) fun h' hd hsb => ?_
  ·have := hx.un
   have e : X.A.in1.in1.units ≤ X.A.units + 10 := by
    show X.A.in1.in1.units ≤ _
    simp [Around.in1]
   omega
  ·obtain ⟨_, its, rv, ob, g1, g2, n, g3⟩ := (show ObjOk X.prog X.w H s.heap x.2.1 (.tup (x.1.map kV)) from I.hok _ _ (kt x hx))
   exact ⟨ob, its.toArray, n, hk _ _ g1, g2, g3, by simpa using items_are rv⟩
  ·obtain ⟨_, its, rv, ob, g1, g2, n, g3⟩ := (show ObjOk X.prog X.w H s.heap x.2.1 (.tup (x.1.map kV)) from I.hok _ _ (kt x hx))
   exact ⟨ob, g1, g2⟩
  ·have hf : H s.heap.objs.size = none := I.hok.fresh (Nat.le_refl _)
   have hm : (s.heap.objs.size == sysModules) = false := beq_eq_false_iff_ne.mpr (Nat.ne_of_gt I.big)
   obtain ⟨ob, es, ep, h1, h2, h3, h4, h5, h6⟩ := hd
   have kk : ∀ b o, H b = some o → upd H s.heap.objs.size (.dT hs) b = some o := fun b o e => by rw [upd_ne (ne_of_none e hf)]; exact e
   exact ⟨.ref s.heap.objs.size, upd H s.heap.objs.size (.dT hs), I.laid (t' := s.toks) (fun b u e => (hsb.2 b (Nat.ne_of_lt (Heap.lt_size e))).trans (Heap.get?_push_of_some _ e)) (Nat.le_refl _)
    (show ObjOk X.prog X.w _ _ _ (.dT hs) from ⟨z, hm, xs, KT.keepH rel kk, ob, es, ep, h1, h2, h3, h4, h6⟩), rfl, q _ _ _ (qgB hf ek nd r0) (.upd hf)⟩
 ·exact q.elim) (fun d k k' h q => by
 unfold JL at q ⊢
 split at q
 ·exact ⟨q.1, q.2.1, h _ q.2.2⟩
 ·exact q.elim)
end
end BX
namespace BX
open PySem PySem.Spec PyProof.Rows L2
end BX
namespace TX
open PySem PySem.Spec PyProof.Rows L2 BX
section
variable {e e1 e2 e' e'' : En} {L i : Nat} {r r1 r2 : R} {d d' d1 d2 dd : D} {Q : R → En → Prop} {n x : Str} {fs fs' : List (Str × D)} {m : Md} {op : OP} {ta te ti : XE} {u : XA} {S : FS} {isT : D → Bool} {B : Bn}
theorem Uy {k : D → Prop} (hx : fs.lookup x = some d) (q : k d) : fldK x fs k := by
 unfold fldK; rw [hx]; exact q
theorem qhi (h0 : e[i]? = some (some (.ob n fs, m))) (hm : m.okL L = true) (hx : fs.lookup x = some d) {K : D → En → Prop} (q : K d e) (hL : m = .ro → L = 1) (hc : m ≠ .cst) : ZV n x L (dVar i) e K := by
 unfold ZV dVar
 rw [h0]
 cases m with
 | cst => exact absurd rfl hc
 | ro =>
   have := hL rfl
   subst this
   show rd 1 (.ro false _) e _
   exact ⟨rfl, Uy hx q⟩
 | _ =>
   show rd L (.sl i) e _
   unfold rd R.data
   simp only [h0, hm]
   exact ⟨rfl, Uy hx q⟩
theorem qar {tv : XV} (q : ta e fun r1 e1 => tv e1 fun d2 e2 => rd L r1 e2 fun d1 => op d1 d2 fun d => aR Q (.tmp d) e2) : Yd L op ta tv e Q := q
theorem VP (h1 : Rv e 1 r1 d1) (h0 : e[i]? = some (some (.ob n fs, m))) (hm : m.okL 1 = true) (hc : m ≠ .cst) (hx : fs.lookup x = some d2) (ho : OpTo op d1 d2 d) (q : aR Q (.tmp d) e) : ZV n x 1 (dVar i) e fun d2 e2 => rd 1 r1 e2 fun d1 => op d1 d2 fun d => aR Q (.tmp d) e2 :=
 qhi h0 hm hx (K := fun d2 e2 => rd 1 r1 e2 fun d1 => op d1 d2 fun d => aR Q (.tmp d) e2) (h1.rd (ho _ q)) (fun _ => rfl) hc
theorem qb4 {op : OPn} (h0 : e[i]? = some (some (.ob n fs, m))) (hm : m.okL 1 = true) (hc : m ≠ .cst) (hx : fs.lookup x = some d2) (ho : OpN op [d2] d) (q : aR Q (.tmp d) e) : qan op (ZV n x 1 (dVar i)) e Q :=
 qhi h0 hm hx (K := fun d e => op [d] fun d' => Q (.tmp d') e) (ho _ q) (fun _ => rfl) hc
theorem Qp {r : List (Str × D)} : setF x d' ((x, d) :: r) = (x, d') :: r := by rw [setF, if_pos rfl]
theorem v9 {y : Str} {r r' : List (Str × D)} (h : ¬ y = x) (t : setF x d' r = r') : setF x d' ((y, d) :: r) = (y, d) :: r' := by rw [setF, if_neg h, t]
theorem YQ : setF x d' [] = [(x, d')] := rfl
theorem qeQ {α : Type} {f : α → D} [Im f] {l : List α} {t : XS} {nx : En → Prop} {rt : D → En → Prop} (h : e[i]? = some (some (eL f l, .own))) (he : e.set i (some (eF f l, .own)) = e') (q : t e' nx rt) : sFzO i t e nx rt := by
 unfold sFzO
 rw [h]
 refine ⟨imL l, ?_⟩
 rw [show (D.lF (l.map f)) = eF f l from rfl, he]; exact q
theorem qfh {α β γ δ : Type} {f : α → D} {g : β → D} {h : γ → D} {k : δ → D} [Im f] [Im g] [Im h] [Im k] {p : α × β × γ × δ} : OpN (op1 vg) [eT4 f g h k p] (eT4 f g h k p) := fun kk q => ⟨by have := Im.im (f := eT4 f g h k) p; simpa only [eT4, D.imm] using this, q⟩
theorem qdu {α β : Type} {f : α → D} {g : β → D} {l : List α} (h : eqOk (eL f l) = true) (_ : True) : OpTo opNe (eL f l) (eL g []) (.bl (!l.isEmpty)) := fun k q => by
 refine ⟨h, (by show eqOk (D.lst []) = true; decide), ?_⟩
 have e : deq (eL f l) (eL g []) = l.isEmpty := by
  cases l with
  | nil => show deq (D.lst []) (D.lst []) = true; decide
  | cons a r =>
    show deq (D.lst (f a :: r.map f)) (D.lst []) = false
    unfold deq
    rw [D.py, D.py]
    rfl
 rw [e]; exact q
theorem qb9 {α κ : Type} {c : κ → D} {kf : κ → List Key} {tl : κ → List Int} {f : α → D} {m : List (κ × α)} [h : Ki kf tl] [hc : Ints c tl] : OpN (op1 Z0) [eDT kf f m] (eL c (m.map (·.1))) := fun k q => by
 unfold op1 Z0 eDT
 simp only [ZJ (c := c)]
 have e : ((m.map fun p => tl p.1).map tupI) = (m.map (·.1)).map c := by
  rw [List.map_map, List.map_map]
  exact List.map_congr_left fun p _ => (hc.isx p.1).symm
 rw [e]; exact q
theorem qfi {α : Type} {f : α → D} [Im f] {l : List ((Int × Int) × α)} (h : ∀ p ∈ l, (0 ≤ p.1.1 ∧ p.1.1 < 64) ∧ 0 ≤ p.1.2 ∧ p.1.2 < 64) : OpN (op1 JL) [eDT (kf2 Sum.inl Sum.inl) f l] (eDT (kf2 Sum.inl Sum.inl) f l) := fun k q => by
 refine ⟨Xd l, ?_, q⟩
 unfold qbF
 rw [List.all_eq_true]
 intro p hp
 obtain ⟨x, hx, rfl⟩ := List.mem_map.mp hp
 have := h x hx
 show (decide (0 ≤ x.1.1 ∧ x.1.1 < 64) && decide (0 ≤ x.1.2 ∧ x.1.2 < 64)) = true
 rw [decide_eq_true this.1, decide_eq_true this.2]; rfl
def Yz {α β γ : Type} : List α → List β → List γ → List (α × β × γ)
 | x :: xs, y :: ys, z :: zs => (x, y, z) :: Yz xs ys zs
 | _, _, _ => []
theorem Vm {α β γ : Type} {f : α → D} {g : β → D} {h : γ → D} : ∀ (l : List α) (m : List β) (k : List γ), Qh (l.map f) (m.map g) (k.map h) = (Yz l m k).map (eT3 f g h)
 | a :: l, b :: m, c :: k => by
   show D.tup [f a, g b, h c] :: Qh (l.map f) (m.map g) (k.map h) = _
   rw [Vm l m k]; rfl
 | [], _, _ => by cases ‹List β› <;> rfl
 | _ :: _, [], _ => rfl
 | _ :: _, _ :: _, [] => rfl
variable {kI : List D → Option Bool → Lok → En → Prop}
theorem qhv {t u v : XE} (q : t e fun r1 e1 => u e1 fun r2 e2 => v e2 fun r3 e3 => rd 1 r1 e3 fun d1 => rd 1 r2 e3 fun d2 => rd 1 r3 e3 fun d3 => match d1, d2, d3 with
 | .lF xs, .lF ys, .lF zs => immL xs = true ∧ immL ys = true ∧ immL zs = true ∧ xs.length = ys.length ∧ xs.length = zs.length ∧ aI kI (Qh xs ys zs) none none e3
 | _, _, _ => False) : qfs t u v e kI := q
theorem qgP {α β γ : Type} {f : α → D} [Im f] {g : β → D} [Im g] {h : γ → D} [Im h] {l : List α} {m : List β} {k : List γ} {r1 r2 r3 : R} (h1 : Rv e 1 r1 (eF f l)) (h2 : Rv e 1 r2 (eF g m)) (h3 : Rv e 1 r3 (eF h k)) (hl : l.length = m.length ∧ l.length = k.length) (q : aI kI ((Yz l m k).map (eT3 f g h)) none none e) :
 rd 1 r1 e fun d1 => rd 1 r2 e fun d2 => rd 1 r3 e fun d3 => match d1, d2, d3 with
 | .lF xs, .lF ys, .lF zs => immL xs = true ∧ immL ys = true ∧ immL zs = true ∧ xs.length = ys.length ∧ xs.length = zs.length ∧ aI kI (Qh xs ys zs) none none e
 | _, _, _ => False := h1.rd (h2.rd (h3.rd ⟨imL l, imL m, imL k, by simpa using hl.1, by simpa using hl.2, by rw [Vm]; exact q⟩))
def bkF (len : Nat) (n x : Str) (i : Nat) (fs : List (Str × D)) (m : Md) (Q : R → En → Prop) : R → En → Prop := fun r' e' => match e'[len]?, r' with
 | some (some (d', .own)), .tmp dd => Q (.tmp dd) (fold e' len i x fs n m d')
 | _, _ => False
theorem qfN (h0 : e[i]? = some (some (.ob n fs, m))) (hm : m.rd = false) (hx : fs.lookup x = some d) (hT : isT d = true) (he : e.set i none = e') (q : u e' fun rs e2 => B (.sl e2.length) rs (e2 ++ [some (d, .own)]) (bkF e2.length n x i fs m Q)) : dMnF n x isT B i u e Q := by
 unfold dMnF fldM
 rw [h0]
 refine ⟨rfl, hm, ?_⟩
 unfold fldK
 rw [hx]
 refine ⟨hT, ?_⟩
 rw [he]
 exact q
theorem o_bk {len : Nat} (h : e'[len]? = some (some (d', .own))) (hs : setF x d' fs = fs') (hf : (e'.take len).set i (some (.ob n fs', m)) = e'') (q : aR Q (.tmp dd) e'') : aR (bkF len n x i fs m Q) (.tmp dd) e' := by
 unfold aR bkF
 rw [h]
 show Q _ (fold _ _ _ _ _ _ _ _)
 unfold fold
 rw [hs, hf]; exact q
variable {nx : En → Prop} {rt : D → En → Prop}
def qfy (n x : Str) (i : Nat) (e : En) (nx : En → Prop) (d : D) : Prop := match e[i]? with
 | some (some (.ob n' fs, m)) => n' = n ∧ m.rd = false ∧ fs.length < 1000 ∧ nx (e.set i (some (.ob n (setF x d fs), m)))
 | _ => False
theorem Vx (q : te e fun r e1 => stor r e1 fun d => qfy n x i e1 nx d) : qaT n x i te e nx rt := q
theorem VN (hr : St e r d) (h0 : e[i]? = some (some (.ob n fs, m))) (hm : m.rd = false) (hl : fs.length < 1000) (hs : setF x d fs = fs') (he : e.set i (some (.ob n fs', m)) = e') (q : aN nx e') : stor r e fun d => qfy n x i e nx d := hr _ (by
 unfold qfy
 rw [h0]
 refine ⟨rfl, hm, hl, ?_⟩
 rw [hs, he]; exact q)
section
variable {α κ : Type} [DecidableEq κ] {c : κ → D} {kf : κ → List Key} [hk : Kt c kf] {f : α → D} {l : List (κ × α)} {k : κ} {v : α} {ri : R} {kvs : List (List Key × D)}
theorem qgv (q : te e fun r e1 => stor r e1 fun d => d.imm = true ∧ fldM n x i e1 fun fs m dd => match dd with
 | .dT kvs => ti (e1.set i none) fun ri e3 => rd 1 ri e3 fun di => match di with
   | .tup ks => match xJ ks with
     | some k => kvs.length < sizeLine ∧ aN nx (e3.set i (some (.ob n (setF x (.dT (putD k d kvs)) fs), m)))
     | none => False
   | _ => False
 | _ => False) : qeR n x i te ti e nx rt := q
theorem qe9 (hr : St e r d) (hi : d.imm = true) (h0 : e[i]? = some (some (.ob n fs, m))) (hm : m.rd = false) (hx : fs.lookup x = some (.dT kvs)) (he : e.set i none = e') (q : ti e' fun ri e3 => rd 1 ri e3 fun di => match di with
 | .tup ks => match xJ ks with
   | some k => kvs.length < sizeLine ∧ aN nx (e3.set i (some (.ob n (setF x (.dT (putD k d kvs)) fs), m)))
   | none => False
 | _ => False) : stor r e fun d => d.imm = true ∧ fldM n x i e fun fs m dd => match dd with
 | .dT kvs => ti (e.set i none) fun ri e3 => rd 1 ri e3 fun di => match di with
   | .tup ks => match xJ ks with
     | some k => kvs.length < sizeLine ∧ aN nx (e3.set i (some (.ob n (setF x (.dT (putD k d kvs)) fs), m)))
     | none => False
   | _ => False
 | _ => False := hr _ ⟨hi, by
 unfold fldM
 rw [h0]
 refine ⟨rfl, hm, Uy hx ?_⟩
 dsimp only
 rw [he]
 exact q⟩
theorem qe8 (hi : Rv e 1 ri (c k)) (hl : l.length < sizeLine) (hs : setF x (eDT kf f (putA k v l)) fs = fs') (he : e.set i (some (.ob n fs', m)) = e') (q : aN nx e') : rd 1 ri e fun di => match di with
 | .tup ks => match xJ ks with
   | some k => (l.map fun p => (kf p.1, f p.2)).length < sizeLine ∧ aN nx (e.set i (some (.ob n (setF x (.dT (putD k (f v) (l.map fun p => (kf p.1, f p.2)))) fs), m)))
   | none => False
 | _ => False := hi.rd (by
 obtain ⟨ds, h1, h2⟩ := hk.key k
 rw [h1]
 simp only [h2]
 refine ⟨by simpa using hl, ?_⟩
 rw [qbT (c := c)]
 rw [show D.dT ((putA k v l).map fun p => (kf p.1, f p.2)) = eDT kf f (putA k v l) from rfl, hs, he]
 exact q)
end
theorem j9 (h0 : e[i]? = some (some (.ob n fs, m))) (hm : m.rd = false) (hx : fs.lookup x = none) (q : u e fun rs e2 => zG S.ms (.sl i :: rs) e2 = true ∧ apart S.ms (.sl i :: rs) = true ∧ jr 2 (.sl i :: rs) e2 fun ds => S.wp ds fun d ds' => aR Q (.tmp d) (putB S.ms (.sl i :: rs) ds' 0 e2)) : vp n x S (dVar i) u e Q := by
 unfold vp
 refine Vp h0 hm ⟨?_, q⟩
 unfold rd R.data
 have : m.okL 2 = true := by cases m <;> first | rfl | cases hm
 simp only [h0, this]
 exact ⟨rfl, hx⟩
theorem qfO (q : ta e fun r1 e1 => (rd 2 r1 e1 fun d => obK n d fun fs => fs.lookup x = none) ∧ u e1 fun rs e2 => zG S.ms (r1 :: rs) e2 = true ∧ apart S.ms (r1 :: rs) = true ∧ jr 2 (r1 :: rs) e2 fun ds => S.wp ds fun d ds' => aR Q (.tmp d) (putB S.ms (r1 :: rs) ds' 0 e2)) : vp n x S ta u e Q := q
theorem c_mk (q : u e fun rs e => zG S.ms (.sl e.length :: rs) (e ++ [some (.ob n [], .own)]) = true ∧ apart S.ms (.sl e.length :: rs) = true ∧ jr 2 (.sl e.length :: rs) (e ++ [some (.ob n [], .own)]) fun ds => S.wp ds fun d ds' =>
 d = .non ∧ match (putB S.ms (.sl e.length :: rs) ds' 0 (e ++ [some (.ob n [], .own)]))[e.length]? with
  | some (some (d', .own)) => aR Q (.tmp d') ((putB S.ms (.sl e.length :: rs) ds' 0 (e ++ [some (.ob n [], .own)])).take e.length)
  | _ => False) : dMk n S u e Q := q
theorem x_mk {α κ : Type} {ms : List Md} {ia : α → List D} {w : α → (κ → Prop) → Prop} {od : α → κ → List D} {rs : List R} (a : α) (fo : κ → D) (fe : κ → En) {k : κ → Prop} (h : w a k) (hr : RvL (e ++ [some (.ob n [], .own)]) 2 (.sl e.length :: rs) (ia a)) (h1 : zG ms (.sl e.length :: rs) (e ++ [some (.ob n [], .own)]) = true) (h2 : apart ms (.sl e.length :: rs) = true)
 (he : ∀ r, (putB ms (.sl e.length :: rs) (od a r) 0 (e ++ [some (.ob n [], .own)])) = fe r ++ [some (fo r, .own)]) (hle : ∀ r, (fe r).length = e.length) (q : ∀ r, k r → aR Q (.tmp (fo r)) (fe r)) :
 zG (mkS ms ia w (fun _ => D.non) od).ms (.sl e.length :: rs) (e ++ [some (.ob n [], .own)]) = true ∧ apart (mkS ms ia w (fun _ => D.non) od).ms (.sl e.length :: rs) = true ∧ jr 2 (.sl e.length :: rs) (e ++ [some (.ob n [], .own)]) fun ds => (mkS ms ia w (fun _ => D.non) od).wp ds fun d ds' =>
  d = .non ∧ match (putB (mkS ms ia w (fun _ => D.non) od).ms (.sl e.length :: rs) ds' 0 (e ++ [some (.ob n [], .own)]))[e.length]? with
   | some (some (d', .own)) => aR Q (.tmp d') ((putB (mkS ms ia w (fun _ => D.non) od).ms (.sl e.length :: rs) ds' 0 (e ++ [some (.ob n [], .own)])).take e.length)
   | _ => False :=
 ⟨h1, h2, hr.go (k := fun ds => (mkS ms ia w (fun _ => D.non) od).wp ds fun d ds' => d = .non ∧ match (putB (mkS ms ia w (fun _ => D.non) od).ms (.sl e.length :: rs) ds' 0 (e ++ [some (.ob n [], .own)]))[e.length]? with
  | some (some (d', .own)) => aR Q (.tmp d') ((putB (mkS ms ia w (fun _ => D.non) od).ms (.sl e.length :: rs) ds' 0 (e ++ [some (.ob n [], .own)])).take e.length)
  | _ => False) ⟨a, k, rfl, h, fun r hk => by
  refine ⟨rfl, ?_⟩
  show match (putB ms (.sl e.length :: rs) (od a r) 0 (e ++ [some (.ob n [], .own)]))[e.length]? with
   | some (some (d', .own)) => aR Q (.tmp d') ((putB ms (.sl e.length :: rs) (od a r) 0 (e ++ [some (.ob n [], .own)])).take e.length)
   | _ => False
  rw [he]
  have e1 : (fe r ++ [some (fo r, Md.own)])[e.length]? = some (some (fo r, .own)) := by
   rw [← hle r, List.getElem?_append_right (Nat.le_refl _)]; simp
  have e2 : (fe r ++ [some (fo r, Md.own)]).take e.length = fe r := by
   rw [← hle r, List.take_left]
  rw [e1]
  show aR Q _ (List.take _ _)
  rw [e2]
  exact q r hk⟩⟩
end
end TX
namespace TX
open PySem PySem.Spec PyProof.Rows L2 BX PySem.W
end TX
namespace BC
open PySem PySem.Spec PyProof.Rows L2 BX TX COM
end BC
namespace BC
open PySem PySem.Spec PyProof.Rows L2 BX TX COM
def vA : XS :=
 (sSeq (sAsg (dVar 0) (gT 2 (za (gN 1) (za (gN 2) Qc))))
 (sRet (dTup (ql (dTup (ql (dBin 2 vG (dVar 1) (dC (.int 1))) (ql (dBin 2 vG (dVar 2) (dC (.int 1))) aNil))) (ql (dTup (ql (dVar 1) (ql (dBin 2 vG (dVar 2) (dC (.int 1))) aNil))) (ql (dTup (ql (dVar 1) (ql (dVar 2) aNil))) (ql (dTup (ql (dBin 2 vG (dVar 1) (dC (.int 1))) (ql (dVar 2) aNil))) aNil)))))))
def vq (point : (Int × Int)) (kr : (List (Int × Int)) → Prop) : Prop :=
 kr [((point.1 - 1), (point.2 - 1)), (point.1, (point.2 - 1)), (point.1, point.2), ((point.1 - 1), point.2)]
def zr : FS := mkS (α := (Int × Int)) (κ := (List (Int × Int))) [.ro] (fun a => [(eT2 D.int D.int) a]) (fun a => vq a) (fun r => (eV (eT2 D.int D.int)) r) fun a r => [(eT2 D.int D.int) a]
theorem XH : BodyOk zr 3 vA := by
 intro ds Q hl h
 obtain ⟨point, kr, rfl, h, q⟩ := h
 refine jk (e' := [_, _, _]) rfl ?_
 unfold vA
 unfold vq at h
 refine wR <| s_asg <| qw rfl ?_
 refine qcs (by rfl) (yq (g_n (e' := [_, _, _]) rfl rfl (yq (g_n (e' := [_, _, _]) rfl rfl (Yb (?_))))))
 refine s_ret <| xK <| qj <| xK <| qj <| wD <| qw rfl <| c_C <| wC .tmp .tmp xr <| qj <| wD <| qw rfl <| c_C <| wC .tmp .tmp xr <| qu <| yG D.int D.int (point.1 - 1) (point.2 - 1) (.cons .tmp (.cons .tmp .nil)) <| qj <| xK <| qj <| qw rfl <| qj <| wD <| qw rfl <| c_C <| wC .tmp .tmp xr <| qu <| yG D.int D.int point.1 (point.2 - 1) (.cons .tmp (.cons .tmp .nil)) <| qj <| xK <| qj <| qw rfl <| qj <| qw rfl <| qu <| yG D.int D.int point.1 point.2 (.cons .tmp (.cons .tmp .nil)) <| qj <| xK <| qj <| wD <| qw rfl <| c_C <| wC .tmp .tmp xr <| qj <| qw rfl <| qu <| yG D.int D.int (point.1 - 1) point.2 (.cons .tmp (.cons .tmp .nil)) <| qu <| qeg zP [((point.1 - 1), (point.2 - 1)), (point.1, (point.2 - 1)), (point.1, point.2), ((point.1 - 1), point.2)] (.cons .tmp (.cons .tmp (.cons .tmp (.cons .tmp .nil)))) <| xO ?_
 exact q [((point.1 - 1), (point.2 - 1)), (point.1, (point.2 - 1)), (point.1, point.2), ((point.1 - 1), point.2)] h
def Zf : XS :=
 (sSeq (sAsg (dCall 2 (op1 bSum) (ql (dLc (iSeq (dVar 0)) (gN 2) xYes (dCall 2 (op1 bInt) (ql (dVar 2) aNil)) [2]) aNil)) (gN 1))
 (sSeq (sIf (xVal (dBin 2 opNe (dVar 1) (dC (.int 2)))) (sRet (dIdx (dG Vg) (dVar 1))) sNil)
 (sRet (dIf (xVal (dBin 2 opEq (dIdx (dVar 0) (dC (.int 0))) (dIdx (dVar 0) (dC (.int 2))))) (dC (.str (Str.ofString "twice"))) (dC (.str (Str.ofString "wall")))))))
def vz (there : (List Bool)) (kr : Str → Prop) : Prop :=
 (there.length ≤ sizeLine) ∧
 lt (((there.map (fun one => (intB one))).sum) : Int) fun many =>
 ifP (!(decide (many = 2))) (exW (atI qc7 many) fun x2 =>
 kr x2) <|
 exW (atI there 0) fun x4 =>
 exW (atI there 2) fun x6 =>
 ifP (decide (x4 = x6)) (kr (Str.ofString "twice")) <|
 kr (Str.ofString "wall")
def xR : FS := mkS (α := (List Bool)) (κ := Str) [.ro] (fun a => [(eL D.bl) a]) (fun a => vz a) (fun r => D.str r) fun a r => [(eL D.bl) a]
theorem qbv : BodyOk xR 3 Zf := by
 intro ds Q hl h
 obtain ⟨there, kr, rfl, h, q⟩ := h
 refine jk (e' := [_, _, _]) rfl ?_
 unfold Zf
 unfold vz at h
 refine wR <| s_asg <| xg <| qj <| c_lc <| jV <| qw rfl <| qgS ?_
 obtain ⟨p1, h⟩ := h
 refine qb3 (e := [_, _, _]) (fI := D.bl) (fo := D.int) (fun one => (intB one)) (all1 rfl) p1 rfl (fun one ha c k1 hc h1 => ?_) ?_
 ·skip
  refine g_n (e' := [_, _, _]) rfl rfl (?_)
  refine xg <| qj <| qw rfl <| qu <| yV (.cons .tmp .nil) qel ?_
  exact o_el .tmp hc rfl h1
 refine jN (e' := [_, _, _]) rfl <| wN <| qu <| yV (.cons .tmp .nil) qiO ?_
 refine g_N (f := D.int) (fun many => [_, zO (D.int many), _]) h rfl (fun _ => rfl) fun many h => ?_
 refine wR <| s_if <| j8 <| wD <| qw rfl <| c_C <| wC .tmp .tmp (op_ne (f := D.int)) <| j6 .tmp tr_b ?_
 refine Z8 h (fun hb h => ?_) (fun hb h => ?_)
 ·skip
  refine s_ret <| ye <| c_GV (f := D.str) (xs := qc7) <| qw rfl ?_
  obtain ⟨x2, p3, h⟩ := h
  refine o_idx .cst .tmp (ix_V p3) (.ro rfl) <| xO ?_
  exact q x2 h
 refine Z4 <| qbJ <| s_if <| j8 <| wD <| ye <| qw rfl <| c_C ?_
 obtain ⟨x4, p5, h⟩ := h
 refine o_idx .ro .tmp (ix_L p5) (.ro rfl) <| ye <| qw rfl <| c_C ?_
 obtain ⟨x6, p7, h⟩ := h
 refine o_idx .ro .tmp (ix_L p7) (.ro rfl) <| wC .tmp .tmp (op_eq (f := D.bl)) <| j6 .tmp tr_b ?_
 refine Z8 h (fun hb h => ?_) (fun hb h => ?_)
 ·skip
  refine s_ret <| c_C <| xO ?_
  exact q (Str.ofString "twice") h
 refine s_ret <| c_C <| xO ?_
 exact q (Str.ofString "wall") h
end BC
namespace BC
open PySem PySem.Spec PyProof.Rows L2 BX TX COM
abbrev w6 (p : List ((Int × Int) × Bool) × List ((Int × Int × Int × Int) × List (Int × Int)) × Int) : D := .ob (Str.ofString "Site") [(Str.ofString "own_cells", eDT (kf2 Sum.inl Sum.inl) D.bl p.1), (Str.ofString "own_deeds", eL (eT2 (eT4 D.int D.int D.int D.int) (eF (eT2 D.int D.int))) p.2.1), (Str.ofString "own_looked", D.int p.2.2)]
def jK : XS :=
 (sSeq (qaT "Site" "own_cells" 0 (dC (.dT [])))
 (sSeq (qaT "Site" "own_deeds" 0 (dLst aNil))
 (qaT "Site" "own_looked" 0 (dC (.int 0)))))
def wu : FS := mkS (α := Unit) (κ := Unit) [.io] (fun _ => [.ob (Str.ofString "Site") []]) (fun _ k => k ()) (fun _ => D.non) fun _ _ => [w6 ([], [], 0)]
theorem Zd : BodyOk wu 1 jK := by
 intro ds Q hl h
 obtain ⟨_, kr, rfl, h, q⟩ := h
 refine jk (e' := [some (.ob (Str.ofString "Site") [], .io)]) rfl ?_
 unfold jK
 refine wR <| Vx <| qfQ (kf := zk2) (f := D.bl) <| VN (e' := [some (.ob (Str.ofString "Site") [(Str.ofString "own_cells", eDT zk2 D.bl ([] : List ((Int × Int) × Bool)))], .io)]) .tmp (by rfl) (by rfl) (by show 0 < 1000; decide) YQ (by rfl) <| wR <| Vx <| uH <| qu <| xH (eT2 zB (eF zP)) ([] : List ((Int × Int × Int × Int) × List (Int × Int))) .nil <| VN (e' := [some (.ob (Str.ofString "Site") [(Str.ofString "own_cells", eDT zk2 D.bl ([] : List ((Int × Int) × Bool))), (Str.ofString "own_deeds", eL (eT2 zB (eF zP)) [])], .io)]) .tmp (by rfl) (by rfl) (by show 1 < 1000; decide) (v9 (by decide +kernel) YQ) (by rfl) <| Vx <| c_C <| VN (e' := [some (w6 ([], [], 0), .io)]) .tmp (by rfl) (by rfl) (by show 2 < 1000; decide) (v9 (by decide +kernel) (v9 (by decide +kernel) YQ)) (by rfl) ?_
 exact q () h
end BC
namespace BC
open PySem PySem.Spec PyProof.Rows L2 BX TX COM
def Zg (xR zr : FS) : XS :=
 (sRet (dFn xR (ql (dLc (iSeq (dFn zr (ql (dVar 1) aNil))) (gN 2) xYes (dBin 1 opIn (dVar 2) (dVar 0)) [2]) aNil)))
def Qi (room : (List (Int × Int))) (point : (Int × Int)) (kr : Str → Prop) : Prop :=
 vq point fun t1 =>
 (t1.length ≤ sizeLine) ∧
 vz (t1.map (fun cell => (memB cell room))) fun t3 =>
 kr t3
def xT : FS := mkS (α := ((List (Int × Int)) × (Int × Int))) (κ := Str) [.ro, .ro] (fun a => [(eV (eT2 D.int D.int)) a.1, (eT2 D.int D.int) a.2]) (fun a => Qi a.1 a.2) (fun r => D.str r) fun a r => [(eV (eT2 D.int D.int)) a.1, (eT2 D.int D.int) a.2]
theorem qbw : BodyOk xT 3 (Zg xR zr) := by
 intro ds Q hl h
 obtain ⟨⟨room, point⟩, kr, rfl, h, q⟩ := h
 refine jk (e' := [_, _, _]) rfl ?_
 unfold Zg
 unfold Qi at h
 refine s_ret <| c_fn <| qj <| c_lc <| jV <| c_fn <| qj <| qw rfl <| qu ?_
 refine x_call point (fun t1 => [_, _, _]) h (.cons .ro .nil) (qD (yr .ro) qZ) (wY (by rfl)) (fun _ => rfl) fun t1 h => ?_
 refine VM ?_
 obtain ⟨p2, h⟩ := h
 refine qb3 (e := [_, _, _]) (fI := zP) (fo := D.bl) (fun cell => (memB cell room)) (all1 rfl) p2 rfl (fun cell ha c k1 hc h1 => ?_) ?_
 ·skip
  refine g_n (e' := [_, _, _]) rfl rfl (?_)
  refine wD <| qw rfl <| qw rfl <| wC .z .ro (qgF (f := zP)) ?_
  exact o_el .tmp hc rfl h1
 refine jN (e' := [_, _, _]) rfl <| wN <| qu ?_
 refine x_call (t1.map (fun cell => (memB cell room))) (fun t3 => [_, _, _]) h (.cons .tmp .nil) (qD (yr .tmp) qZ) (wY (by rfl)) (fun _ => rfl) fun t3 h => ?_
 refine xO ?_
 exact q t3 h
def QV : XS :=
 (sSeq (sAsg (dVar 0) (gT 4 (za (gN 1) (za (gN 2) (za (gN 3) (za (gN 4) Qc))))))
 (sSeq (sAsg (dLst aNil) (gN 5))
 (sSeq (sFor (ZL (dVar 1) (dBin 1 yu (dVar 1) (dVar 3))) (gN 6) (Qa (dM1 D.isLst uY (dVar 5) (dLc (ZL (dVar 2) (dBin 1 yu (dVar 2) (dVar 4))) (gN 7) xYes (dTup (ql (dVar 6) (ql (dVar 7) aNil))) [7]))))
 (sRet (dCall 1 (op1 vg) (ql (dVar 5) aNil))))))
def jA (box : (Int × Int × Int × Int)) (kr : (List (Int × Int)) → Prop) : Prop :=
 lt (([] : List (Int × Int)) : (List (Int × Int))) fun found =>
 (Wf box.1 (box.1 + box.2.2.1)) ∧
 forW (rng box.1 (box.1 + box.2.2.1)) found (fun column (found : (List (Int × Int))) kk3 => (Wf box.2.1 (box.2.1 + box.2.2.2)) ∧
 ((rng box.2.1 (box.2.1 + box.2.2.2)).length ≤ sizeLine) ∧
 (found.length + ((rng box.2.1 (box.2.1 + box.2.2.2)).map (fun row => (column, row))).length ≤ sizeLine) ∧
 lt (found ++ ((rng box.2.1 (box.2.1 + box.2.2.2)).map (fun row => (column, row)))) fun found =>
 kk3 found) fun found =>
 kr found
def wO : FS := mkS (α := (Int × Int × Int × Int)) (κ := (List (Int × Int))) [.ro] (fun a => [(eT4 D.int D.int D.int D.int) a]) (fun a => jA a) (fun r => (eV (eT2 D.int D.int)) r) fun a r => [(eT4 D.int D.int D.int D.int) a]
theorem qaM : BodyOk wO 8 QV := by
 intro ds Q hl h
 obtain ⟨box, kr, rfl, h, q⟩ := h
 refine jk (e' := [_, _, _, _, _, _, _, _]) rfl ?_
 unfold QV
 unfold jA at h
 refine wR <| s_asg <| qw rfl ?_
 refine qcs (by rfl) (yq (g_n (e' := [_, _, _, _, _, _, _, _]) rfl rfl (yq (g_n (e' := [_, _, _, _, _, _, _, _]) rfl rfl (yq (g_n (e' := [_, _, _, _, _, _, _, _]) rfl rfl (yq (g_n (e' := [_, _, _, _, _, _, _, _]) rfl rfl (Yb (?_))))))))))
 refine wR <| s_asg <| uH <| qu <| xH zP ([] : List (Int × Int)) .nil ?_
 refine g_N (f := zL) (fun found => [_, _, _, _, _, zO (zL found), _, _]) h rfl (fun _ => rfl) fun found h => ?_
 refine wR <| Z5 <| qhx <| qw rfl <| wD <| qw rfl <| qw rfl <| wC .tmp .tmp zE ?_
 obtain ⟨p1, h⟩ := h
 refine qgT p1 ?_
 refine Zy (fI := D.int) (sh := fun (found : (List (Int × Int))) e => ∃ c2 : Option (D × Md), (setS (some c2) = true) ∧ e = [zR (zB box), zO (D.int box.1), zO (D.int box.2.1), zO (D.int box.2.2.1), zO (D.int box.2.2.2), zO (zL found), c2, none]) h ⟨_, rfl, rfl⟩ (fun column ha found e hs kk3 nxkk3 hJ3 h => ?_) ?_
 ·skip
  obtain ⟨c2, hc2, rfl⟩ := hs
  refine g_n (e' := [_, _, _, _, _, _, _, _]) hc2 rfl (?_)
  refine u9 <| c_m1 (by rfl) (by rfl) (by decide) (by rfl) <| c_lc <| qhx <| qw rfl <| wD <| qw rfl <| qw rfl <| wC .tmp .tmp zE ?_
  obtain ⟨p4, h⟩ := h
  refine qgT p4 ?_
  obtain ⟨p5, h⟩ := h
  refine qb3 (e := [_, _, _, _, _, _, _, _]) (fI := D.int) (fo := zP) (fun row => (column, row)) (all1 rfl) p5 rfl (fun row ha c k1 hc h1 => ?_) ?_
  ·skip
   refine g_n (e' := [_, _, _, _, _, _, _, _]) rfl rfl (?_)
   refine xK <| qj <| qw rfl <| qj <| qw rfl <| qu <| yG D.int D.int column row (.cons .tmp (.cons .tmp .nil)) ?_
   exact o_el .tmp hc rfl h1
  refine jN (e' := [_, _, _, _, _, _, _, _]) rfl <| wN ?_
  obtain ⟨p6, h⟩ := h
  refine Qy (fun found => [_, _, _, _, _, zO (zL found), _, _]) h (by rfl) p6 (fun _ => rfl) fun found h => ?_
  exact hJ3 found _ ⟨_, rfl, rfl⟩ h
 rintro found e hs h
 obtain ⟨c2, hc2, rfl⟩ := hs
 refine wN <| s_ret <| xg <| qj <| qw rfl <| qu <| yV (.cons .z .nil) (VR (f := zP)) <| xO ?_
 exact q found h
def vX : XS :=
 (sSeq (sAsg (dVar 0) (gT 4 (za (gN 1) (za (gN 2) (za (gN 3) (za (gN 4) Qc))))))
 (sSeq (sAsg (dLst aNil) (gN 5))
 (sSeq (sFor (uW (dBin 1 yu (dVar 3) (dC (.int 1)))) (gN 6) (Qa (dM1 D.isLst uY (dVar 5) (dLc (uW (dBin 1 yu (dVar 4) (dC (.int 1)))) (gN 7) xYes (dTup (ql (dBin 1 yu (dVar 1) (dVar 6)) (ql (dBin 1 yu (dVar 2) (dVar 7)) aNil))) [7]))))
 (sRet (dVar 5)))))
def uI (box : (Int × Int × Int × Int)) (kr : (List (Int × Int)) → Prop) : Prop :=
 lt (([] : List (Int × Int)) : (List (Int × Int))) fun found =>
 (Wf 0 (box.2.2.1 + 1)) ∧
 forW (rng 0 (box.2.2.1 + 1)) found (fun k' (found : (List (Int × Int))) kk3 => (Wf 0 (box.2.2.2 + 1)) ∧
 ((rng 0 (box.2.2.2 + 1)).length ≤ sizeLine) ∧
 (found.length + ((rng 0 (box.2.2.2 + 1)).map (fun j => ((box.1 + k'), (box.2.1 + j)))).length ≤ sizeLine) ∧
 lt (found ++ ((rng 0 (box.2.2.2 + 1)).map (fun j => ((box.1 + k'), (box.2.1 + j))))) fun found =>
 kk3 found) fun found =>
 kr found
def yf : FS := mkS (α := (Int × Int × Int × Int)) (κ := (List (Int × Int))) [.ro] (fun a => [(eT4 D.int D.int D.int D.int) a]) (fun a => uI a) (fun r => (eL (eT2 D.int D.int)) r) fun a r => [(eT4 D.int D.int D.int D.int) a]
theorem J5 : BodyOk yf 8 vX := by
 intro ds Q hl h
 obtain ⟨box, kr, rfl, h, q⟩ := h
 refine jk (e' := [_, _, _, _, _, _, _, _]) rfl ?_
 unfold vX
 unfold uI at h
 refine wR <| s_asg <| qw rfl ?_
 refine qcs (by rfl) (yq (g_n (e' := [_, _, _, _, _, _, _, _]) rfl rfl (yq (g_n (e' := [_, _, _, _, _, _, _, _]) rfl rfl (yq (g_n (e' := [_, _, _, _, _, _, _, _]) rfl rfl (yq (g_n (e' := [_, _, _, _, _, _, _, _]) rfl rfl (Yb (?_))))))))))
 refine wR <| s_asg <| uH <| qu <| xH zP ([] : List (Int × Int)) .nil ?_
 refine g_N (f := zL) (fun found => [_, _, _, _, _, zO (zL found), _, _]) h rfl (fun _ => rfl) fun found h => ?_
 refine wR <| Z5 <| qa5 <| wD <| qw rfl <| c_C <| wC .tmp .tmp zE ?_
 obtain ⟨p1, h⟩ := h
 refine qaV p1 ?_
 refine Zy (fI := D.int) (sh := fun (found : (List (Int × Int))) e => ∃ c2 : Option (D × Md), (setS (some c2) = true) ∧ e = [zR (zB box), zO (D.int box.1), zO (D.int box.2.1), zO (D.int box.2.2.1), zO (D.int box.2.2.2), zO (zL found), c2, none]) h ⟨_, rfl, rfl⟩ (fun k' ha found e hs kk3 nxkk3 hJ3 h => ?_) ?_
 ·skip
  obtain ⟨c2, hc2, rfl⟩ := hs
  refine g_n (e' := [_, _, _, _, _, _, _, _]) hc2 rfl (?_)
  refine u9 <| c_m1 (by rfl) (by rfl) (by decide) (by rfl) <| c_lc <| qa5 <| wD <| qw rfl <| c_C <| wC .tmp .tmp zE ?_
  obtain ⟨p4, h⟩ := h
  refine qaV p4 ?_
  obtain ⟨p5, h⟩ := h
  refine qb3 (e := [_, _, _, _, _, _, _, _]) (fI := D.int) (fo := zP) (fun j => ((box.1 + k'), (box.2.1 + j))) (all1 rfl) p5 rfl (fun j ha c k1 hc h1 => ?_) ?_
  ·skip
   refine g_n (e' := [_, _, _, _, _, _, _, _]) rfl rfl (?_)
   refine xK <| qj <| wD <| qw rfl <| qw rfl <| wC .tmp .tmp zE <| qj <| wD <| qw rfl <| qw rfl <| wC .tmp .tmp zE <| qu <| yG D.int D.int (box.1 + k') (box.2.1 + j) (.cons .tmp (.cons .tmp .nil)) ?_
   exact o_el .tmp hc rfl h1
  refine jN (e' := [_, _, _, _, _, _, _, _]) rfl <| wN ?_
  obtain ⟨p6, h⟩ := h
  refine Qy (fun found => [_, _, _, _, _, zO (zL found), _, _]) h (by rfl) p6 (fun _ => rfl) fun found h => ?_
  exact hJ3 found _ ⟨_, rfl, rfl⟩ h
 rintro found e hs h
 obtain ⟨c2, hc2, rfl⟩ := hs
 refine wN <| s_ret <| qw rfl <| Y6 (m := .own) (by rfl) ?_
 exact q found h
def jJ (xT : FS) : XS :=
 (sSeq (sAsg (dTmp (dVar 1)) (gT 2 (za (gN 2) (za (gN 3) Qc))))
 (sSeq (sAsg (dLst (ql (dTup (ql (dBin 2 vG (dVar 2) (dC (.int 1))) (ql (dBin 2 vG (dVar 3) (dC (.int 1))) aNil))) (ql (dTup (ql (dBin 2 vG (dVar 2) (dC (.int 1))) (ql (dVar 3) aNil))) (ql (dTup (ql (dVar 2) (ql (dBin 2 vG (dVar 3) (dC (.int 1))) aNil))) (ql (dTup (ql (dVar 2) (ql (dVar 3) aNil))) aNil))))) (gN 4))
 (sRet (dFn xT (ql (dCall 1 (op1 vg) (ql (dLc (iSeq (dVar 4)) (gN 5) (xVal (Yd 1 opIn (dTmp (dVar 5)) (ZV "Site" "own_cells" 1 (dVar 0)))) (dTmp (dVar 5)) [5]) aNil)) (ql (dTmp (dVar 1)) aNil))))))
def zJ (self : (List ((Int × Int) × Bool) × List ((Int × Int × Int × Int) × List (Int × Int)) × Int)) (point : (Int × Int)) (kr : Str → Prop) : Prop :=
 lt ([((point.1 - 1), (point.2 - 1)), ((point.1 - 1), point.2), (point.1, (point.2 - 1)), (point.1, point.2)] : (List (Int × Int))) fun near =>
 (near.length ≤ sizeLine) ∧
 Qi (near.filter (fun cell => (hasA self.1 cell))) point fun t10 =>
 kr t10
def wj : FS := mkS (α := ((List ((Int × Int) × Bool) × List ((Int × Int × Int × Int) × List (Int × Int)) × Int) × (Int × Int))) (κ := Str) [.ro, .ro] (fun a => [w6 a.1, (eT2 D.int D.int) a.2]) (fun a => zJ a.1 a.2) (fun r => D.str r) fun a r => [w6 a.1, (eT2 D.int D.int) a.2]
theorem Zb : BodyOk wj 6 (jJ xT) := by
 intro ds Q hl h
 obtain ⟨⟨self, point⟩, kr, rfl, h, q⟩ := h
 refine jk (e' := [_, _, _, _, _, _]) rfl ?_
 unfold jJ
 unfold zJ at h
 refine wR <| s_asg <| jU <| yt (by rfl) rfl fun r1 hr2 => jM hr2 (Im.im (f := zP) _) ?_
 refine g_T (by rfl) (yq (g_n (e' := [_, _, _, _, _, _]) rfl rfl (yq (g_n (e' := [_, _, _, _, _, _]) rfl rfl (Yb (?_))))))
 refine wR <| s_asg <| uH <| qj <| xK <| qj <| wD <| qw rfl <| c_C <| wC .tmp .tmp xr <| qj <| wD <| qw rfl <| c_C <| wC .tmp .tmp xr <| qu <| yG D.int D.int (point.1 - 1) (point.2 - 1) (.cons .tmp (.cons .tmp .nil)) <| qj <| xK <| qj <| wD <| qw rfl <| c_C <| wC .tmp .tmp xr <| qj <| qw rfl <| qu <| yG D.int D.int (point.1 - 1) point.2 (.cons .tmp (.cons .tmp .nil)) <| qj <| xK <| qj <| qw rfl <| qj <| wD <| qw rfl <| c_C <| wC .tmp .tmp xr <| qu <| yG D.int D.int point.1 (point.2 - 1) (.cons .tmp (.cons .tmp .nil)) <| qj <| xK <| qj <| qw rfl <| qj <| qw rfl <| qu <| yG D.int D.int point.1 point.2 (.cons .tmp (.cons .tmp .nil)) <| qu <| xH zP [((point.1 - 1), (point.2 - 1)), ((point.1 - 1), point.2), (point.1, (point.2 - 1)), (point.1, point.2)] (.cons .tmp (.cons .tmp (.cons .tmp (.cons .tmp .nil)))) ?_
 refine g_N (f := zL) (fun near => [_, _, _, _, zO (zL near), _]) h rfl (fun _ => rfl) fun near h => ?_
 refine s_ret <| c_fn <| qj <| xg <| qj <| c_lc <| jV <| qw rfl <| qdy (e' := [_, _, _, _, _, _]) rfl rfl rfl ?_
 obtain ⟨p3, h⟩ := h
 refine X8 (e := [_, _, _, _, _, _]) (fI := zP) (fo := zP) (fun cell => (hasA self.1 cell)) (all1 rfl) p3 rfl (fun cell ha c k1 k2 hc h1 h2 => ?_) ?_
 ·skip
  refine g_n (e' := [_, _, _, _, _, _]) rfl rfl (?_)
  refine j8 <| qar <| jU <| yt (by rfl) rfl fun r4 hr5 => jM hr5 (Im.im (f := zP) _) <| VP (m := .ro) .tmp (by rfl) (by rfl) (fun h => nomatch h) uD (VJ (c := zP)) <| j6 .tmp tr_b ?_
  refine ⟨fun hb => ?_, fun hb => h2 hb⟩
  refine jU <| yt (by rfl) rfl fun r6 hr7 => jM hr7 (Im.im (f := zP) _) ?_
  exact o_el .tmp hc rfl (h1 hb)
 refine jN (e' := [_, _, _, _, _, _]) rfl <| VL (e' := [_, _, _, _, _, _]) rfl rfl <| qu <| yV (.cons .tmp .nil) (VR (f := zP)) <| qj <| jU <| yt (by rfl) rfl fun r8 hr9 => jM hr9 (Im.im (f := zP) _) <| qu ?_
 refine x_call ((near.filter (fun cell => (hasA self.1 cell))), point) (fun t10 => [_, _, _, _, _, _]) h (.cons .tmp (.cons .tmp .nil)) (qD (yr .tmp) (qD (yr .tmp) qZ)) (wY (by rfl)) (fun _ => rfl) fun t10 h => ?_
 refine xO ?_
 exact q t10 h
def jc : XS :=
 (sFor (iSeq (dTmp (dVar 1))) (gN 2) (sIf (xVal (Yd 1 opIn (dVar 2) (ZV "Site" "own_cells" 1 (dVar 0)))) (Qa (dMnF "Site" "own_cells" D.isDic qc2 0 (ql (dVar 2) aNil))) (qeR "Site" "own_cells" 0 (dC (.bl true)) (dVar 2))))
def zH (self : (List ((Int × Int) × Bool) × List ((Int × Int × Int × Int) × List (Int × Int)) × Int)) (cells : (List (Int × Int))) (kr : (Unit × (List ((Int × Int) × Bool) × List ((Int × Int × Int × Int) × List (Int × Int)) × Int)) → Prop) : Prop :=
 forW cells self (fun cell (self : (List ((Int × Int) × Bool) × List ((Int × Int × Int × Int) × List (Int × Int)) × Int)) kk4 => ifW (hasA self.1 cell) (fun kk5 => exW (getA self.1 cell) fun x7 =>
 lt (delA cell self.1) fun f6 =>
 kk5 (f6, self.2.1, self.2.2)) (fun kk5 => (self.1.length < sizeLine) ∧
 kk5 ((putA cell true self.1), self.2.1, self.2.2)) fun (self : (List ((Int × Int) × Bool) × List ((Int × Int × Int × Int) × List (Int × Int)) × Int)) =>
 kk4 self) fun self =>
 kr ((), self)
def qY : FS := mkS (α := ((List ((Int × Int) × Bool) × List ((Int × Int × Int × Int) × List (Int × Int)) × Int) × (List (Int × Int)))) (κ := (Unit × (List ((Int × Int) × Bool) × List ((Int × Int × Int × Int) × List (Int × Int)) × Int))) [.io, .ro] (fun a => [w6 a.1, (eF (eT2 D.int D.int)) a.2]) (fun a => zH a.1 a.2) (fun r => eN r.1) fun a r => [w6 r.2, (eF (eT2 D.int D.int)) a.2]
theorem QS : BodyOk qY 3 jc := by
 intro ds Q hl h
 obtain ⟨⟨self, cells⟩, kr, rfl, h, q⟩ := h
 refine jk (e' := [_, _, _]) rfl ?_
 unfold jc
 unfold zH at h
 refine Z5 <| jV <| jU <| yt (by rfl) rfl fun r1 hr2 => jM hr2 (Im.im (f := (eF zP)) _) <| qb2 ?_
 refine Zy (fI := zP) (sh := fun (self : (List ((Int × Int) × Bool) × List ((Int × Int × Int × Int) × List (Int × Int)) × Int)) e => ∃ c3 : Option (D × Md), (setS (some c3) = true) ∧ e = [some (w6 self, .io), zR (eF zP cells), c3]) h ⟨_, rfl, rfl⟩ (fun cell ha self e hs kk4 nxkk4 hJ4 h => ?_) ?_
 ·skip
  obtain ⟨c3, hc3, rfl⟩ := hs
  refine g_n (e' := [_, _, _]) hc3 rfl (?_)
  refine s_if <| j8 <| qar <| qw rfl <| VP (m := .io) .z (by rfl) (by rfl) (fun h => nomatch h) uD (VJ (c := zP)) <| j6 .tmp tr_b ?_
  refine qff (sh := fun (self : (List ((Int × Int) × Bool) × List ((Int × Int × Int × Int) × List (Int × Int)) × Int)) e => e = [some (w6 self, .io), zR (eF zP cells), zO (zP cell)]) h (fun hb kk5 nxkk5 hJ5 h => ?_) (fun hb kk5 nxkk5 hJ5 h => ?_) ?_
  ·skip
   refine u9 <| qfN (e' := [_, _, _]) (by rfl) (by rfl) uD (by rfl) (by rfl) <| qj <| qw rfl <| qu ?_
   obtain ⟨x7, p8, h⟩ := h
   refine qgW (c := zP) (f := D.bl) (fun f6 => [_, _, _, zO (zD f6)]) h p8 .z (by rfl) (fun _ => rfl) fun f6 h => o_bk (e'' := [some (w6 (f6, self.2.1, self.2.2), .io), zR (eF zP cells), zO (zP cell)]) (by rfl) Qp (by rfl) ?_
   exact hJ5 (f6, self.2.1, self.2.2) _ rfl h
  ·skip
   refine qgv <| c_C <| qe9 (e' := [_, _, _]) .tmp (Im.im (f := D.bl) _) (by rfl) (by rfl) uD (by rfl) <| qw rfl ?_
   obtain ⟨p9, h⟩ := h
   refine qe8 (c := zP) (f := D.bl) (e' := [_, _, _]) .z p9 Qp (by rfl) ?_
   exact hJ5 ((putA cell true self.1), self.2.1, self.2.2) _ rfl h
  rintro self e hs h
  obtain rfl := hs
  exact hJ4 self _ ⟨_, rfl, rfl⟩ h
 rintro self e hs h
 obtain ⟨c3, hc3, rfl⟩ := hs
 refine wN ?_
 exact q ((), self) h
def uN (wj qY yf : FS) : XS :=
 (sSeq (sAsg (dFz (dFn yf (ql (dVar 1) aNil))) (gN 3))
 (sSeq (sAsg (dLc (iSeq (dTmp (dVar 3))) (gN 6) xYes (vp "Site" "kind_now" wj (dVar 0) (ql (dVar 6) aNil)) [6]) (gN 4))
 (sSeq (sFzO 4 (Qa (vp "Site" "turn_cells" qY (dVar 0) (ql (dTmp (dVar 2)) aNil))))
 (sSeq (sAsg (dLc (iSeq (dTmp (dVar 3))) (gN 6) xYes (vp "Site" "kind_now" wj (dVar 0) (ql (dVar 6) aNil)) [6]) (gN 5))
 (sFzO 5 (sRet (dLc (qfs (dTmp (dVar 3)) (dTmp (dVar 4)) (dTmp (dVar 5))) (gT 3 (za (gN 6) (za (gN 7) (za (gN 8) Qc)))) (xVal (dBin 2 opNe (dVar 7) (dVar 8))) (dTup (ql (dVar 6) (ql (dVar 7) (ql (dVar 8) aNil)))) [6, 7, 8])))))))
def yK (self : (List ((Int × Int) × Bool) × List ((Int × Int × Int × Int) × List (Int × Int)) × Int)) (box : (Int × Int × Int × Int)) (cells : (List (Int × Int))) (kr : ((List ((Int × Int) × Str × Str)) × (List ((Int × Int) × Bool) × List ((Int × Int × Int × Int) × List (Int × Int)) × Int)) → Prop) : Prop :=
 uI box fun t1 =>
 lt (t1 : (List (Int × Int))) fun points =>
 (points.length ≤ sizeLine) ∧
 lcW points ([] : List Str) () (fun point (s : Unit) w => zJ self point fun t5 =>
 w (some t5) ()) fun l6 s7 =>
 zH self cells fun t10 =>
 (points.length ≤ sizeLine) ∧
 lcW points ([] : List Str) () (fun point (s : Unit) w => zJ t10.2 point fun t14 =>
 w (some t14) ()) fun l15 s16 =>
 ((points.length = l6.length ∧ points.length = l15.length)) ∧
 ((Yz points l6 l15).length ≤ sizeLine) ∧
 (∀ a24 ∈ (Yz points l6 l15), (PyData.strOk a24.2.1 = true ∧ PyData.strOk a24.2.2 = true) ∧
 True) ∧
 kr ((((Yz points l6 l15).filter (fun a24 => (!(decide (a24.2.1 = a24.2.2))))).map (fun a24 => (a24.1, a24.2.1, a24.2.2))), t10.2)
def qP : FS := mkS (α := ((List ((Int × Int) × Bool) × List ((Int × Int × Int × Int) × List (Int × Int)) × Int) × (Int × Int × Int × Int) × (List (Int × Int)))) (κ := ((List ((Int × Int) × Str × Str)) × (List ((Int × Int) × Bool) × List ((Int × Int × Int × Int) × List (Int × Int)) × Int))) [.io, .ro, .ro] (fun a => [w6 a.1, (eT4 D.int D.int D.int D.int) a.2.1, (eF (eT2 D.int D.int)) a.2.2]) (fun a => yK a.1 a.2.1 a.2.2) (fun r => (eL (eT3 (eT2 D.int D.int) D.str D.str)) r.1) fun a r => [w6 r.2, (eT4 D.int D.int D.int D.int) a.2.1, (eF (eT2 D.int D.int)) a.2.2]
theorem YD : BodyOk qP 9 (uN wj qY yf) := by
 intro ds Q hl h
 obtain ⟨⟨self, box, cells⟩, kr, rfl, h, q⟩ := h
 refine jk (e' := [_, _, _, _, _, _, _, _, _]) rfl ?_
 unfold uN
 unfold yK at h
 refine wR <| s_asg <| c_fz <| c_fn <| qj <| qw rfl <| qu ?_
 refine x_call box (fun t1 => [_, _, _, _, _, _, _, _, _]) h (.cons .ro .nil) (qD (yr .ro) qZ) (wY (by rfl)) (fun _ => rfl) fun t1 h => ?_
 refine o_fz (f := zP) ?_
 refine g_N (f := (eF zP)) (fun points => [_, _, _, zO (eF zP points), _, _, _, _, _]) h rfl (fun _ => rfl) fun points h => ?_
 refine wR <| s_asg <| c_lc <| jV <| jU <| yt (by rfl) rfl fun r2 hr3 => jM hr3 (Im.im (f := (eF zP)) _) <| qb2 ?_
 obtain ⟨p4, h⟩ := h
 refine qdz (fI := zP) (fo := D.str) (sh := fun (s : Unit) e => e = [some (w6 self, .io), zR (zB box), zR (eF zP cells), zO (eF zP points), none, none, none, none, none]) h (all1 rfl) p4 rfl (fun point ha s e hs w c k1 k2 hc h1 h2 h => ?_) ?_
 ·obtain rfl := hs
  refine g_n (e' := [_, _, _, _, _, _, _, _, _]) rfl rfl (?_)
  refine qdU <| j9 (by rfl) (by rfl) ((zM (by decide +kernel)).trans ((zM (by decide +kernel)).trans ((zM (by decide +kernel)).trans rfl))) <| qj <| qw rfl <| qu ?_
  refine x_call (self, point) (fun t5 => [_, _, _, _, _, _, _, _, _]) h (.cons .z (.cons .z .nil)) (qD (yr .z) (qD (yr .z) qZ)) (wY (by rfl)) (fun _ => rfl) fun t5 h => ?_
  exact o_el .tmp hc rfl (h1 _ () _ rfl h)
 rintro l6 s7 e hs h
 obtain rfl := hs
 refine jN (e' := [_, _, _, _, _, _, _, _, _]) rfl <| wN ?_
 refine g_n (e' := [_, _, _, _, _, _, _, _, _]) rfl rfl ?_
 refine wR <| qeQ (f := D.str) (e' := [_, _, _, _, _, _, _, _, _]) (by rfl) rfl <| u9 <| j9 (by rfl) (by rfl) ((zM (by decide +kernel)).trans ((zM (by decide +kernel)).trans ((zM (by decide +kernel)).trans rfl))) <| qj <| jU <| yt (by rfl) rfl fun r8 hr9 => jM hr9 (Im.im (f := (eF zP)) _) <| qu ?_
 refine x_call (self, cells) (fun t10 => [some (w6 t10.2, .io), _, _, _, _, _, _, _, _]) h (.cons .z (.cons .tmp .nil)) (qD (by rfl) (qD (yr .tmp) qZ)) (by rfl) (fun _ => rfl) fun t10 h => ?_
 refine wR <| s_asg <| c_lc <| jV <| jU <| yt (by rfl) rfl fun r11 hr12 => jM hr12 (Im.im (f := (eF zP)) _) <| qb2 ?_
 obtain ⟨p13, h⟩ := h
 refine qdz (fI := zP) (fo := D.str) (sh := fun (s : Unit) e => e = [some (w6 t10.2, .io), zR (zB box), zR (eF zP cells), zO (eF zP points), zO (eF D.str l6), none, none, none, none]) h (all1 rfl) p13 rfl (fun point ha s e hs w c k1 k2 hc h1 h2 h => ?_) ?_
 ·obtain rfl := hs
  refine g_n (e' := [_, _, _, _, _, _, _, _, _]) rfl rfl (?_)
  refine qdU <| j9 (by rfl) (by rfl) ((zM (by decide +kernel)).trans ((zM (by decide +kernel)).trans ((zM (by decide +kernel)).trans rfl))) <| qj <| qw rfl <| qu ?_
  refine x_call (t10.2, point) (fun t14 => [_, _, _, _, _, _, _, _, _]) h (.cons .z (.cons .z .nil)) (qD (yr .z) (qD (yr .z) qZ)) (wY (by rfl)) (fun _ => rfl) fun t14 h => ?_
  exact o_el .tmp hc rfl (h1 _ () _ rfl h)
 rintro l15 s16 e hs h
 obtain rfl := hs
 refine jN (e' := [_, _, _, _, _, _, _, _, _]) rfl <| wN ?_
 refine g_n (e' := [_, _, _, _, _, _, _, _, _]) rfl rfl ?_
 refine qeQ (f := D.str) (e' := [_, _, _, _, _, _, _, _, _]) (by rfl) rfl <| s_ret <| c_lc <| qhv <| jU <| yt (by rfl) rfl fun r17 hr18 => jM hr18 (Im.im (f := (eF zP)) _) <| jU <| yt (by rfl) rfl fun r19 hr20 => jM hr20 (Im.im (f := (eF D.str)) _) <| jU <| yt (by rfl) rfl fun r21 hr22 => jM hr22 (Im.im (f := (eF D.str)) _) ?_
 obtain ⟨p23, h⟩ := h
 refine qgP (f := zP) (g := D.str) (h := D.str) .tmp .tmp .tmp p23 ?_
 obtain ⟨p25, h⟩ := h
 obtain ⟨p26, h⟩ := h
 refine qgX (e := [_, _, _, _, _, _, _, _, _]) (fI := (eT3 zP D.str D.str)) (fo := (eT3 zP D.str D.str)) (fun a24 => (!(decide (a24.2.1 = a24.2.2)))) (fun a24 => (a24.1, a24.2.1, a24.2.2)) (all3 rfl rfl rfl) p25 rfl (fun a24 ha c k1 k2 hc h1 h2 => ?_) ?_
 ·have h := p26 a24 ha
  refine g_T (by rfl) (yq (g_n (e' := [_, _, _, _, _, _, _, _, _]) rfl rfl (yq (g_n (e' := [_, _, _, _, _, _, _, _, _]) rfl rfl (yq (g_n (e' := [_, _, _, _, _, _, _, _, _]) rfl rfl (Yb (?_))))))))
  refine j8 <| wD <| qw rfl <| qw rfl ?_
  obtain ⟨p27, h⟩ := h
  refine wC .tmp .tmp (qed p27.1 p27.2) <| j6 .tmp tr_b ?_
  refine ⟨fun hb => ?_, fun hb => h2 hb⟩
  refine xK <| qj <| qw rfl <| qj <| qw rfl <| qj <| qw rfl <| qu <| qeh zP D.str D.str a24.1 a24.2.1 a24.2.2 (.cons (.of .z (Im.im (f := zP) _)) (.cons .tmp (.cons .tmp .nil))) ?_
  exact o_el .tmp hc rfl (h1 hb)
 refine jN (e' := [_, _, _, _, _, _, _, _, _]) rfl <| wN <| xO ?_
 exact q ((((Yz points l6 l15).filter (fun a24 => (!(decide (a24.2.1 = a24.2.2))))).map (fun a24 => (a24.1, a24.2.1, a24.2.2))), t10.2) h
def v8 (qP : FS) : XS :=
 (sSeq (Qa (dMnF "Site" "own_deeds" D.isLst (b1N bAppend) 0 (ql (dTup (ql (dCall 1 (op1 vg) (ql (dTmp (dVar 1)) aNil)) (ql (dTmp (dVar 2)) aNil))) aNil)))
 (sSeq (qaT "Site" "own_looked" 0 (dBin 1 Q8 (dBin 1 yu (dIdx (dTmp (dVar 1)) (dC (.int 2))) (dC (.int 1))) (dBin 1 yu (dIdx (dTmp (dVar 1)) (dC (.int 3))) (dC (.int 1)))))
 (sRet (vp "Site" "turned" qP (dVar 0) (ql (dTmp (dVar 1)) (ql (dTmp (dVar 2)) aNil))))))
def xZ (self : (List ((Int × Int) × Bool) × List ((Int × Int × Int × Int) × List (Int × Int)) × Int)) (box : (Int × Int × Int × Int)) (cells : (List (Int × Int))) (kr : ((List ((Int × Int) × Str × Str)) × (List ((Int × Int) × Bool) × List ((Int × Int × Int × Int) × List (Int × Int)) × Int)) → Prop) : Prop :=
 (self.2.1.length < sizeLine) ∧
 lt (self.2.1 ++ [(box, cells)]) fun f1 =>
 (IntMulOk (box.2.2.1 + 1) (box.2.2.2 + 1)) ∧
 yK (self.1, f1, ((box.2.2.1 + 1) * (box.2.2.2 + 1))) box cells fun t16 =>
 kr (t16.1, t16.2)
def wy : FS := mkS (α := ((List ((Int × Int) × Bool) × List ((Int × Int × Int × Int) × List (Int × Int)) × Int) × (Int × Int × Int × Int) × (List (Int × Int)))) (κ := ((List ((Int × Int) × Str × Str)) × (List ((Int × Int) × Bool) × List ((Int × Int × Int × Int) × List (Int × Int)) × Int))) [.io, .ro, .ro] (fun a => [w6 a.1, (eT4 D.int D.int D.int D.int) a.2.1, (eF (eT2 D.int D.int)) a.2.2]) (fun a => xZ a.1 a.2.1 a.2.2) (fun r => (eL (eT3 (eT2 D.int D.int) D.str D.str)) r.1) fun a r => [w6 r.2, (eT4 D.int D.int D.int D.int) a.2.1, (eF (eT2 D.int D.int)) a.2.2]
theorem Ue : BodyOk wy 3 (v8 qP) := by
 intro ds Q hl h
 obtain ⟨⟨self, box, cells⟩, kr, rfl, h, q⟩ := h
 refine jk (e' := [_, _, _]) rfl ?_
 unfold v8
 unfold xZ at h
 refine wR <| u9 <| qfN (e' := [_, _, _]) (by rfl) (by rfl) ((zM (by decide +kernel)).trans uD) (by rfl) (by rfl) <| qj <| xK <| qj <| xg <| qj <| jU <| yt (by rfl) rfl fun r2 hr3 => jM hr3 (Im.im (f := zB) _) <| qu <| yV (.cons .tmp .nil) qfh <| qj <| jU <| yt (by rfl) rfl fun r4 hr5 => jM hr5 (Im.im (f := (eF zP)) _) <| qu <| yG zB (eF zP) box cells (.cons .tmp (.cons .tmp .nil)) <| qu ?_
 obtain ⟨p6, h⟩ := h
 refine WT (f := (eT2 zB (eF zP))) (fun f1 => [_, _, _, zO (eL (eT2 zB (eF zP)) f1)]) h .tmp (by rfl) p6 (fun _ => rfl) fun f1 h => o_bk (e'' := [some (w6 (self.1, f1, self.2.2), .io), zR (zB box), zR (eF zP cells)]) (by rfl) (v9 (by decide +kernel) Qp) (by rfl) <| wR <| Vx <| wD <| wD <| ye <| jU <| yt (by rfl) rfl fun r7 hr8 => jM hr8 (Im.im (f := zB) _) <| c_C <| o_idx .tmp .tmp qg9 .tmp <| c_C <| wC .tmp .tmp zE <| wD <| ye <| jU <| yt (by rfl) rfl fun r9 hr10 => jM hr10 (Im.im (f := zB) _) <| c_C <| o_idx .tmp .tmp qg8 .tmp <| c_C <| wC .tmp .tmp zE ?_
 obtain ⟨p11, h⟩ := h
 refine wC .tmp .tmp (qe5 p11) <| VN (e' := [_, _, _]) .tmp (by rfl) (by rfl) (by show 3 < 1000; decide) (v9 (by decide +kernel) (v9 (by decide +kernel) Qp)) (by rfl) <| s_ret <| j9 (by rfl) (by rfl) ((zM (by decide +kernel)).trans ((zM (by decide +kernel)).trans ((zM (by decide +kernel)).trans rfl))) <| qj <| jU <| yt (by rfl) rfl fun r12 hr13 => jM hr13 (Im.im (f := zB) _) <| qj <| jU <| yt (by rfl) rfl fun r14 hr15 => jM hr15 (Im.im (f := (eF zP)) _) <| qu ?_
 refine x_call ((self.1, f1, ((box.2.2.1 + 1) * (box.2.2.2 + 1))), box, cells) (fun t16 => [some (w6 t16.2, .io), _, _]) h (.cons .z (.cons .tmp (.cons .tmp .nil))) (qD (by rfl) (qD (yr .tmp) (qD (yr .tmp) qZ))) (by rfl) (fun _ => rfl) fun t16 h => ?_
 refine xO ?_
 exact q (t16.1, t16.2) h
def QZ (wy wO : FS) : XS :=
 (sRet (vp "Site" "deed" wy (dVar 0) (ql (dTmp (dVar 1)) (ql (dFz (dLc (iSeq (dFn wO (ql (dTmp (dVar 1)) aNil))) (gN 2) (xVal (Yd 1 Y5 (dVar 2) (ZV "Site" "own_cells" 1 (dVar 0)))) (dVar 2) [2])) aNil))))
def uh (self : (List ((Int × Int) × Bool) × List ((Int × Int × Int × Int) × List (Int × Int)) × Int)) (box : (Int × Int × Int × Int)) (kr : ((List ((Int × Int) × Str × Str)) × (List ((Int × Int) × Bool) × List ((Int × Int × Int × Int) × List (Int × Int)) × Int)) → Prop) : Prop :=
 jA box fun t5 =>
 (t5.length ≤ sizeLine) ∧
 xZ self box (t5.filter (fun cell => (!hasA self.1 cell))) fun t7 =>
 kr (t7.1, t7.2)
def yS : FS := mkS (α := ((List ((Int × Int) × Bool) × List ((Int × Int × Int × Int) × List (Int × Int)) × Int) × (Int × Int × Int × Int))) (κ := ((List ((Int × Int) × Str × Str)) × (List ((Int × Int) × Bool) × List ((Int × Int × Int × Int) × List (Int × Int)) × Int))) [.io, .ro] (fun a => [w6 a.1, (eT4 D.int D.int D.int D.int) a.2]) (fun a => uh a.1 a.2) (fun r => (eL (eT3 (eT2 D.int D.int) D.str D.str)) r.1) fun a r => [w6 r.2, (eT4 D.int D.int D.int D.int) a.2]
theorem qaP : BodyOk yS 3 (QZ wy wO) := by
 intro ds Q hl h
 obtain ⟨⟨self, box⟩, kr, rfl, h, q⟩ := h
 refine jk (e' := [_, _, _]) rfl ?_
 unfold QZ
 unfold uh at h
 refine s_ret <| j9 (by rfl) (by rfl) ((zM (by decide +kernel)).trans ((zM (by decide +kernel)).trans ((zM (by decide +kernel)).trans rfl))) <| qj <| jU <| yt (by rfl) rfl fun r1 hr2 => jM hr2 (Im.im (f := zB) _) <| qj <| c_fz <| c_lc <| jV <| c_fn <| qj <| jU <| yt (by rfl) rfl fun r3 hr4 => jM hr4 (Im.im (f := zB) _) <| qu ?_
 refine x_call box (fun t5 => [_, _, _]) h (.cons .tmp .nil) (qD (yr .tmp) qZ) (wY (by rfl)) (fun _ => rfl) fun t5 h => ?_
 refine VM ?_
 obtain ⟨p6, h⟩ := h
 refine X8 (e := [_, _, _]) (fI := zP) (fo := zP) (fun cell => (!hasA self.1 cell)) (all1 rfl) p6 rfl (fun cell ha c k1 k2 hc h1 h2 => ?_) ?_
 ·skip
  refine g_n (e' := [_, _, _]) rfl rfl (?_)
  refine j8 <| qar <| qw rfl <| VP (m := .io) .z (by rfl) (by rfl) (fun h => nomatch h) uD (qe4 (c := zP)) <| j6 .tmp tr_b ?_
  refine ⟨fun hb => ?_, fun hb => h2 hb⟩
  refine qw rfl ?_
  exact o_el (.of .z (Im.im (f := zP) _)) hc rfl (h1 hb)
 refine jN (e' := [_, _, _]) rfl <| wN <| o_fz (f := zP) <| qu ?_
 refine x_call (self, box, (t5.filter (fun cell => (!hasA self.1 cell)))) (fun t7 => [some (w6 t7.2, .io), _, _]) h (.cons .z (.cons .tmp (.cons .tmp .nil))) (qD (by rfl) (qD (yr .tmp) (qD (yr .tmp) qZ))) (by rfl) (fun _ => rfl) fun t7 h => ?_
 refine xO ?_
 exact q (t7.1, t7.2) h
def QX (wy wO : FS) : XS :=
 (sRet (vp "Site" "deed" wy (dVar 0) (ql (dTmp (dVar 1)) (ql (dFz (dLc (iSeq (dFn wO (ql (dTmp (dVar 1)) aNil))) (gN 2) (xVal (Yd 1 opIn (dVar 2) (ZV "Site" "own_cells" 1 (dVar 0)))) (dVar 2) [2])) aNil))))
def ug (self : (List ((Int × Int) × Bool) × List ((Int × Int × Int × Int) × List (Int × Int)) × Int)) (box : (Int × Int × Int × Int)) (kr : ((List ((Int × Int) × Str × Str)) × (List ((Int × Int) × Bool) × List ((Int × Int × Int × Int) × List (Int × Int)) × Int)) → Prop) : Prop :=
 jA box fun t5 =>
 (t5.length ≤ sizeLine) ∧
 xZ self box (t5.filter (fun cell => (hasA self.1 cell))) fun t7 =>
 kr (t7.1, t7.2)
def yR : FS := mkS (α := ((List ((Int × Int) × Bool) × List ((Int × Int × Int × Int) × List (Int × Int)) × Int) × (Int × Int × Int × Int))) (κ := ((List ((Int × Int) × Str × Str)) × (List ((Int × Int) × Bool) × List ((Int × Int × Int × Int) × List (Int × Int)) × Int))) [.io, .ro] (fun a => [w6 a.1, (eT4 D.int D.int D.int D.int) a.2]) (fun a => ug a.1 a.2) (fun r => (eL (eT3 (eT2 D.int D.int) D.str D.str)) r.1) fun a r => [w6 r.2, (eT4 D.int D.int D.int D.int) a.2]
theorem qaO : BodyOk yR 3 (QX wy wO) := by
 intro ds Q hl h
 obtain ⟨⟨self, box⟩, kr, rfl, h, q⟩ := h
 refine jk (e' := [_, _, _]) rfl ?_
 unfold QX
 unfold ug at h
 refine s_ret <| j9 (by rfl) (by rfl) ((zM (by decide +kernel)).trans ((zM (by decide +kernel)).trans ((zM (by decide +kernel)).trans rfl))) <| qj <| jU <| yt (by rfl) rfl fun r1 hr2 => jM hr2 (Im.im (f := zB) _) <| qj <| c_fz <| c_lc <| jV <| c_fn <| qj <| jU <| yt (by rfl) rfl fun r3 hr4 => jM hr4 (Im.im (f := zB) _) <| qu ?_
 refine x_call box (fun t5 => [_, _, _]) h (.cons .tmp .nil) (qD (yr .tmp) qZ) (wY (by rfl)) (fun _ => rfl) fun t5 h => ?_
 refine VM ?_
 obtain ⟨p6, h⟩ := h
 refine X8 (e := [_, _, _]) (fI := zP) (fo := zP) (fun cell => (hasA self.1 cell)) (all1 rfl) p6 rfl (fun cell ha c k1 k2 hc h1 h2 => ?_) ?_
 ·skip
  refine g_n (e' := [_, _, _]) rfl rfl (?_)
  refine j8 <| qar <| qw rfl <| VP (m := .io) .z (by rfl) (by rfl) (fun h => nomatch h) uD (VJ (c := zP)) <| j6 .tmp tr_b ?_
  refine ⟨fun hb => ?_, fun hb => h2 hb⟩
  refine qw rfl ?_
  exact o_el (.of .z (Im.im (f := zP) _)) hc rfl (h1 hb)
 refine jN (e' := [_, _, _]) rfl <| wN <| o_fz (f := zP) <| qu ?_
 refine x_call (self, box, (t5.filter (fun cell => (hasA self.1 cell)))) (fun t7 => [some (w6 t7.2, .io), _, _]) h (.cons .z (.cons .tmp (.cons .tmp .nil))) (qD (by rfl) (qD (yr .tmp) (qD (yr .tmp) qZ))) (by rfl) (fun _ => rfl) fun t7 h => ?_
 refine xO ?_
 exact q (t7.1, t7.2) h
def v7 (qP : FS) : XS :=
 (sSeq (sIf (xVal (dBin 2 opEq (qan (op1 bLen) (ZV "Site" "own_deeds" 1 (dVar 0))) (dC (.int 0)))) (sRet (dC .non)) sNil)
 (sSeq (sAsg (dMnF "Site" "own_deeds" D.isLst bPop 0 aNil) (gT 2 (za (gN 1) (za (gN 2) Qc))))
 (sRet (vp "Site" "turned" qP (dVar 0) (ql (dTmp (dVar 1)) (ql (dTmp (dVar 2)) aNil))))))
def xq (self : (List ((Int × Int) × Bool) × List ((Int × Int × Int × Int) × List (Int × Int)) × Int)) (kr : ((Option (List ((Int × Int) × Str × Str))) × (List ((Int × Int) × Bool) × List ((Int × Int × Int × Int) × List (Int × Int)) × Int)) → Prop) : Prop :=
 ifP (decide ((self.2.1.length : Int) = 0)) (kr ((none : (Option (List ((Int × Int) × Str × Str)))), self)) <|
 exW self.2.1.getLast? fun x2 =>
 lt self.2.1.dropLast fun f1 =>
 yK (self.1, f1, self.2.2) x2.1 x2.2 fun t8 =>
 kr ((some t8.1), t8.2)
def ym : FS := mkS (α := (List ((Int × Int) × Bool) × List ((Int × Int × Int × Int) × List (Int × Int)) × Int)) (κ := ((Option (List ((Int × Int) × Str × Str))) × (List ((Int × Int) × Bool) × List ((Int × Int × Int × Int) × List (Int × Int)) × Int))) [.io] (fun a => [w6 a]) (fun a => xq a) (fun r => (eO (eL (eT3 (eT2 D.int D.int) D.str D.str))) r.1) fun a r => [w6 r.2]
theorem Ud : BodyOk ym 3 (v7 qP) := by
 intro ds Q hl h
 obtain ⟨self, kr, rfl, h, q⟩ := h
 refine jk (e' := [_, _, _]) rfl ?_
 unfold v7
 unfold xq at h
 refine wR <| s_if <| j8 <| wD <| qb4 (m := .io) (by rfl) (by rfl) (fun h => nomatch h) ((zM (by decide +kernel)).trans uD) ZD <| c_C <| wC .tmp .tmp (op_eq (f := D.int)) <| j6 .tmp tr_b ?_
 refine Z8 h (fun hb h => ?_) (fun hb h => ?_)
 ·skip
  refine s_ret <| c_C <| xO ?_
  exact q ((none : (Option (List ((Int × Int) × Str × Str)))), self) h
 refine Z4 <| wR <| s_asg <| qfN (e' := [_, _, _]) (by rfl) (by rfl) ((zM (by decide +kernel)).trans uD) (by rfl) (by rfl) <| qu ?_
 obtain ⟨x2, p3, h⟩ := h
 refine qiK (f := (eT2 zB (eF zP))) (fun f1 => [_, _, _, zO (eL (eT2 zB (eF zP)) f1)]) h p3 (by rfl) (fun _ => rfl) fun f1 h => o_bk (e'' := [some (w6 (self.1, f1, self.2.2), .io), none, none]) (by rfl) (v9 (by decide +kernel) Qp) (by rfl) ?_
 refine g_T (by rfl) (yq (g_n (e' := [_, _, _]) rfl rfl (yq (g_n (e' := [_, _, _]) rfl rfl (Yb (?_))))))
 refine s_ret <| j9 (by rfl) (by rfl) ((zM (by decide +kernel)).trans ((zM (by decide +kernel)).trans ((zM (by decide +kernel)).trans rfl))) <| qj <| jU <| yt (by rfl) rfl fun r4 hr5 => jM hr5 (Im.im (f := zB) _) <| qj <| jU <| yt (by rfl) rfl fun r6 hr7 => jM hr7 (Im.im (f := (eF zP)) _) <| qu ?_
 refine x_call ((self.1, f1, self.2.2), x2.1, x2.2) (fun t8 => [some (w6 t8.2, .io), _, _]) h (.cons .z (.cons .tmp (.cons .tmp .nil))) (qD (by rfl) (qD (yr .tmp) (qD (yr .tmp) qZ))) (by rfl) (fun _ => rfl) fun t8 h => ?_
 refine xO ?_
 exact q ((some t8.1), t8.2) h
def jH : XS :=
 (sRet (dCall 1 (op1 vg) (ql (qan (op1 ju) (ZV "Site" "own_cells" 1 (dVar 0))) aNil)))
def yw (self : (List ((Int × Int) × Bool) × List ((Int × Int × Int × Int) × List (Int × Int)) × Int)) (kr : (List (Int × Int)) → Prop) : Prop :=
 kr (srt tl2 (self.1.map (·.1)))
def wI : FS := mkS (α := (List ((Int × Int) × Bool) × List ((Int × Int × Int × Int) × List (Int × Int)) × Int)) (κ := (List (Int × Int))) [.ro] (fun a => [w6 a]) (fun a => yw a) (fun r => (eV (eT2 D.int D.int)) r) fun a r => [w6 a]
theorem Za : BodyOk wI 1 jH := by
 intro ds Q hl h
 obtain ⟨self, kr, rfl, h, q⟩ := h
 refine jk (e' := [zR (w6 self)]) rfl ?_
 unfold jH
 unfold yw at h
 refine s_ret <| xg <| qj <| qb4 (m := .ro) (by rfl) (by rfl) (fun h => nomatch h) uD (V1 (c := zP)) <| qu <| yV (.cons .tmp .nil) (VR (f := zP)) <| xO ?_
 exact q (srt tl2 (self.1.map (·.1))) h
def v4 : XS :=
 (sSeq (sAsg (dVar 1) (gT 2 (za (gN 2) (za (gN 3) Qc))))
 (sSeq (sAsg (dLc (iSeq (dLst (ql (dTup (ql (dBin 2 vG (dVar 2) (dC (.int 1))) (ql (dBin 2 vG (dVar 3) (dC (.int 1))) aNil))) (ql (dTup (ql (dVar 2) (ql (dBin 2 vG (dVar 3) (dC (.int 1))) aNil))) (ql (dTup (ql (dBin 2 vG (dVar 2) (dC (.int 1))) (ql (dVar 3) aNil))) (ql (dTup (ql (dVar 2) (ql (dVar 3) aNil))) aNil)))))) (gN 5) (xVal (dBin 1 opIn (dVar 5) (dVar 0))) (dVar 5) [5]) (gN 4))
 (sSeq (sIf (xVal (dBin 2 opEq (dCall 2 (op1 bLen) (ql (dVar 4) aNil)) (dC (.int 2)))) (sRet (dIdx (dLst (ql (dC (.str (Str.ofString "wall"))) (ql (dC (.str (Str.ofString "twice"))) aNil))) (dCall 2 (op1 bInt) (ql (dAnd (dBin 2 opNe (dIdx (dIdx (dVar 4) (dC (.int 0))) (dC (.int 0))) (dIdx (dIdx (dVar 4) (dC (.int 1))) (dC (.int 0)))) (dBin 2 opNe (dIdx (dIdx (dVar 4) (dC (.int 0))) (dC (.int 1))) (dIdx (dIdx (dVar 4) (dC (.int 1))) (dC (.int 1))))) aNil)))) sNil)
 (sRet (dIdx (dLst (ql (dC (.str (Str.ofString "none"))) (ql (dC (.str (Str.ofString "outer"))) (ql (dC (.str (Str.ofString ""))) (ql (dC (.str (Str.ofString "inner"))) (ql (dC (.str (Str.ofString "within"))) aNil)))))) (dCall 2 (op1 bLen) (ql (dVar 4) aNil)))))))
def xY (room : (List ((Int × Int) × Bool))) (point : (Int × Int)) (kr : Str → Prop) : Prop :=
 ([((point.1 - 1), (point.2 - 1)), (point.1, (point.2 - 1)), ((point.1 - 1), point.2), (point.1, point.2)].length ≤ sizeLine) ∧
 lt (([((point.1 - 1), (point.2 - 1)), (point.1, (point.2 - 1)), ((point.1 - 1), point.2), (point.1, point.2)].filter (fun cell => (hasA room cell))) : (List (Int × Int))) fun some' =>
 ifP (decide ((some'.length : Int) = 2)) (exW (atI some' 0) fun x2 =>
 exW (atI some' 1) fun x4 =>
 ifW (!(decide (x2.1 = x4.1))) (fun kk6 => exW (atI some' 0) fun x7 =>
 exW (atI some' 1) fun x9 =>
 kk6 ((!(decide (x7.2 = x9.2))), ())) (fun kk6 => kk6 (false, ())) fun (b11 : Bool × Unit) =>
 exW (atI [(Str.ofString "wall"), (Str.ofString "twice")] (intB b11.1)) fun x12 =>
 kr x12) <|
 exW (atI [(Str.ofString "none"), (Str.ofString "outer"), (Str.ofString ""), (Str.ofString "inner"), (Str.ofString "within")] (some'.length : Int)) fun x14 =>
 kr x14
def zF : FS := mkS (α := ((List ((Int × Int) × Bool)) × (Int × Int))) (κ := Str) [.ro, .ro] (fun a => [(eDT (kf2 Sum.inl Sum.inl) D.bl) a.1, (eT2 D.int D.int) a.2]) (fun a => xY a.1 a.2) (fun r => D.str r) fun a r => [(eDT (kf2 Sum.inl Sum.inl) D.bl) a.1, (eT2 D.int D.int) a.2]
theorem Ua : BodyOk zF 6 v4 := by
 intro ds Q hl h
 obtain ⟨⟨room, point⟩, kr, rfl, h, q⟩ := h
 refine jk (e' := [_, _, _, _, _, _]) rfl ?_
 unfold v4
 unfold xY at h
 refine wR <| s_asg <| qw rfl ?_
 refine qcs (by rfl) (yq (g_n (e' := [_, _, _, _, _, _]) rfl rfl (yq (g_n (e' := [_, _, _, _, _, _]) rfl rfl (Yb (?_))))))
 refine wR <| s_asg <| c_lc <| jV <| uH <| qj <| xK <| qj <| wD <| qw rfl <| c_C <| wC .tmp .tmp xr <| qj <| wD <| qw rfl <| c_C <| wC .tmp .tmp xr <| qu <| yG D.int D.int (point.1 - 1) (point.2 - 1) (.cons .tmp (.cons .tmp .nil)) <| qj <| xK <| qj <| qw rfl <| qj <| wD <| qw rfl <| c_C <| wC .tmp .tmp xr <| qu <| yG D.int D.int point.1 (point.2 - 1) (.cons .tmp (.cons .tmp .nil)) <| qj <| xK <| qj <| wD <| qw rfl <| c_C <| wC .tmp .tmp xr <| qj <| qw rfl <| qu <| yG D.int D.int (point.1 - 1) point.2 (.cons .tmp (.cons .tmp .nil)) <| qj <| xK <| qj <| qw rfl <| qj <| qw rfl <| qu <| yG D.int D.int point.1 point.2 (.cons .tmp (.cons .tmp .nil)) <| qu <| xH zP [((point.1 - 1), (point.2 - 1)), (point.1, (point.2 - 1)), ((point.1 - 1), point.2), (point.1, point.2)] (.cons .tmp (.cons .tmp (.cons .tmp (.cons .tmp .nil)))) <| qgR ?_
 obtain ⟨p1, h⟩ := h
 refine X8 (e := [_, _, _, _, _, _]) (fI := zP) (fo := zP) (fun cell => (hasA room cell)) (all1 rfl) p1 rfl (fun cell ha c k1 k2 hc h1 h2 => ?_) ?_
 ·skip
  refine g_n (e' := [_, _, _, _, _, _]) rfl rfl (?_)
  refine j8 <| wD <| qw rfl <| qw rfl <| wC .z .ro (VJ (c := zP)) <| j6 .tmp tr_b ?_
  refine ⟨fun hb => ?_, fun hb => h2 hb⟩
  refine qw rfl ?_
  exact o_el (.of .z (Im.im (f := zP) _)) hc rfl (h1 hb)
 refine jN (e' := [_, _, _, _, _, _]) rfl <| wN ?_
 refine g_N (f := zL) (fun some' => [zR (zD room), zR (zP point), zO (D.int point.1), zO (D.int point.2), zO (zL some'), none]) h rfl (fun _ => rfl) fun some' h => ?_
 refine wR <| s_if <| j8 <| wD <| xg <| qj <| qw rfl <| qu <| yV (.cons .z .nil) ZD <| c_C <| wC .tmp .tmp (op_eq (f := D.int)) <| j6 .tmp tr_b ?_
 refine Z8 h (fun hb h => ?_) (fun hb h => ?_)
 ·skip
  refine s_ret <| ye <| uH <| qj <| c_C <| qj <| c_C <| qu <| xH D.str [(Str.ofString "wall"), (Str.ofString "twice")] (.cons .tmp (.cons .tmp .nil)) <| xg <| qj <| qfR <| wD <| ye <| ye <| qw rfl <| c_C ?_
  obtain ⟨x2, p3, h⟩ := h
  refine o_idx .z .tmp (ix_L p3) (.sl (Im.im (f := zP) _)) <| c_C <| o_idx .tmp .tmp qdF .tmp <| ye <| ye <| qw rfl <| c_C ?_
  obtain ⟨x4, p5, h⟩ := h
  refine o_idx .z .tmp (ix_L p5) (.sl (Im.im (f := zP) _)) <| c_C <| o_idx .tmp .tmp qdF .tmp <| wC .tmp .tmp (op_ne (f := D.int)) <| qgQ .tmp ?_
  refine qfg (sh := fun (s : Unit) e => e = [zR (zD room), zR (zP point), zO (D.int point.1), zO (D.int point.2), zO (zL some'), none]) h rfl (fun hb kk6 N hJ6 h => ?_) ?_
  ·skip
   refine wD <| ye <| ye <| qw rfl <| c_C ?_
   obtain ⟨x7, p8, h⟩ := h
   refine o_idx .z .tmp (ix_L p8) (.sl (Im.im (f := zP) _)) <| c_C <| o_idx .tmp .tmp qaX .tmp <| ye <| ye <| qw rfl <| c_C ?_
   obtain ⟨x9, p10, h⟩ := h
   refine o_idx .z .tmp (ix_L p10) (.sl (Im.im (f := zP) _)) <| c_C <| o_idx .tmp .tmp qaX .tmp <| wC .tmp .tmp (op_ne (f := D.int)) ?_
   exact hJ6 ((!(decide (x7.2 = x9.2))), ()) _ rfl h
  rintro b11 e hs h
  obtain rfl := hs
  refine qu <| yV (.cons .tmp .nil) qel ?_
  obtain ⟨x12, p13, h⟩ := h
  refine o_idx .tmp .tmp (ix_L p13) .tmp <| xO ?_
  exact q x12 h
 refine Z4 <| s_ret <| ye <| uH <| qj <| c_C <| qj <| c_C <| qj <| c_C <| qj <| c_C <| qj <| c_C <| qu <| xH D.str [(Str.ofString "none"), (Str.ofString "outer"), (Str.ofString ""), (Str.ofString "inner"), (Str.ofString "within")] (.cons .tmp (.cons .tmp (.cons .tmp (.cons .tmp (.cons .tmp .nil))))) <| xg <| qj <| qw rfl <| qu <| yV (.cons .z .nil) ZD ?_
 obtain ⟨x14, p15, h⟩ := h
 refine o_idx .tmp .tmp (ix_L p15) .tmp <| xO ?_
 exact q x14 h
def uL : XS :=
 (sSeq (sAsg (dLst aNil) (gN 1))
 (sSeq (sFor (iSeq (dVar 0)) (gT 2 (za (gN 2) (za (gN 3) Qc))) (Qa (dM1 D.isLst uY (dVar 1) (dLst (ql (dTup (ql (dVar 2) (ql (dVar 3) aNil))) (ql (dTup (ql (dBin 1 yu (dVar 2) (dC (.int 1))) (ql (dVar 3) aNil))) (ql (dTup (ql (dVar 2) (ql (dBin 1 yu (dVar 3) (dC (.int 1))) aNil))) (ql (dTup (ql (dBin 1 yu (dVar 2) (dC (.int 1))) (ql (dBin 1 yu (dVar 3) (dC (.int 1))) aNil))) aNil))))))))
 (sRet (W7 (dVar 1)))))
def yJ (room : (List (Int × Int))) (kr : (List (Int × Int)) → Prop) : Prop :=
 lt (([] : List (Int × Int)) : (List (Int × Int))) fun found =>
 forW room found (fun a3 (found : (List (Int × Int))) kk4 => (found.length + [(a3.1, a3.2), ((a3.1 + 1), a3.2), (a3.1, (a3.2 + 1)), ((a3.1 + 1), (a3.2 + 1))].length ≤ sizeLine) ∧
 lt (found ++ [(a3.1, a3.2), ((a3.1 + 1), a3.2), (a3.1, (a3.2 + 1)), ((a3.1 + 1), (a3.2 + 1))]) fun found =>
 kk4 found) fun found =>
 (found.length < 4096) ∧
 kr (srt tl2 (BX.dd found))
def wU : FS := mkS (α := (List (Int × Int))) (κ := (List (Int × Int))) [.ro] (fun a => [(eL (eT2 D.int D.int)) a]) (fun a => yJ a) (fun r => (eL (eT2 D.int D.int)) r) fun a r => [(eL (eT2 D.int D.int)) a]
theorem YC : BodyOk wU 4 uL := by
 intro ds Q hl h
 obtain ⟨room, kr, rfl, h, q⟩ := h
 refine jk (e' := [_, _, _, _]) rfl ?_
 unfold uL
 unfold yJ at h
 refine wR <| s_asg <| uH <| qu <| xH zP ([] : List (Int × Int)) .nil ?_
 refine g_N (f := zL) (fun found => [_, zO (zL found), _, _]) h rfl (fun _ => rfl) fun found h => ?_
 refine wR <| Z5 <| jV <| qw rfl <| qgS ?_
 refine Zy (fI := zP) (sh := fun (found : (List (Int × Int))) e => ∃ c1 c2 : Option (D × Md), (setS (some c1) = true ∧ setS (some c2) = true) ∧ e = [zR (zL room), zO (zL found), c1, c2]) h ⟨_, _, ⟨rfl, rfl⟩, rfl⟩ (fun a3 ha found e hs kk4 nxkk4 hJ4 h => ?_) ?_
 ·skip
  obtain ⟨c1, c2, ⟨hc1, hc2⟩, rfl⟩ := hs
  refine qcs (by rfl) (yq (g_n (e' := [_, _, _, _]) hc1 rfl (yq (g_n (e' := [_, _, _, _]) hc2 rfl (Yb (?_))))))
  refine u9 <| c_m1 (by rfl) (by rfl) (by decide) (by rfl) <| uH <| qj <| xK <| qj <| qw rfl <| qj <| qw rfl <| qu <| yG D.int D.int a3.1 a3.2 (.cons .tmp (.cons .tmp .nil)) <| qj <| xK <| qj <| wD <| qw rfl <| c_C <| wC .tmp .tmp zE <| qj <| qw rfl <| qu <| yG D.int D.int (a3.1 + 1) a3.2 (.cons .tmp (.cons .tmp .nil)) <| qj <| xK <| qj <| qw rfl <| qj <| wD <| qw rfl <| c_C <| wC .tmp .tmp zE <| qu <| yG D.int D.int a3.1 (a3.2 + 1) (.cons .tmp (.cons .tmp .nil)) <| qj <| xK <| qj <| wD <| qw rfl <| c_C <| wC .tmp .tmp zE <| qj <| wD <| qw rfl <| c_C <| wC .tmp .tmp zE <| qu <| yG D.int D.int (a3.1 + 1) (a3.2 + 1) (.cons .tmp (.cons .tmp .nil)) <| qu <| xH zP [(a3.1, a3.2), ((a3.1 + 1), a3.2), (a3.1, (a3.2 + 1)), ((a3.1 + 1), (a3.2 + 1))] (.cons .tmp (.cons .tmp (.cons .tmp (.cons .tmp .nil)))) ?_
  obtain ⟨p5, h⟩ := h
  refine Qy (fun found => [_, zO (zL found), _, _]) h (by rfl) p5 (fun _ => rfl) fun found h => ?_
  exact hJ4 found _ ⟨_, _, ⟨rfl, rfl⟩, rfl⟩ h
 rintro found e hs h
 obtain ⟨c1, c2, ⟨hc1, hc2⟩, rfl⟩ := hs
 refine wN <| s_ret <| JB <| qw rfl ?_
 obtain ⟨p6, h⟩ := h
 refine Yo (f := zP) .z p6 <| xO ?_
 exact q (srt tl2 (BX.dd found)) h
def QW (qF : FS) : XS :=
 (sSeq (sAsg (dIdx (dLst (ql (dC (.int 5)) (ql (dC (.int 8)) (ql (dC (.int 8)) (ql (dC (.int 12)) aNil))))) (dFn qF (ql (dVar 0) (ql (dC (.int 4)) aNil)))) (gN 1))
 (sSeq (sPar 2 3 (ql (dFn qF (ql (dVar 0) (ql (dVar 1) aNil))) (ql (dFn qF (ql (dVar 0) (ql (dVar 1) aNil))) aNil)))
 (sSeq (sPar 4 5 (ql (dBin 1 yu (dC (.int 1)) (dFn qF (ql (dVar 0) (ql (dCall 2 (op2 JK) (ql (dC (.int 6)) (ql (dBin 2 vG (dC (.int 12)) (dVar 2)) aNil))) aNil)))) (ql (dBin 1 yu (dC (.int 1)) (dFn qF (ql (dVar 0) (ql (dCall 2 (op2 JK) (ql (dC (.int 6)) (ql (dBin 2 vG (dC (.int 12)) (dVar 3)) aNil))) aNil)))) aNil)))
 (sSeq (sIf (xVal (dBin 2 opEq (dFn qF (ql (dVar 0) (ql (dC (.int 16)) aNil))) (dC (.int 0)))) (sSeq (sPar 6 7 (ql (dBin 2 Qw (dVar 3) (dC (.int 2))) (ql (dBin 1 yu (dC (.int 1)) (dBin 2 Qw (dVar 5) (dBin 2 vG (dC (.int 2)) (dBin 2 Qw (dVar 3) (dC (.int 2)))))) aNil)))
 (sRet (dIdx (dLst (ql (dTup (ql (dBin 1 yu (dVar 2) (dC (.int 29))) (ql (dVar 6) (ql (dVar 4) (ql (dVar 7) aNil))))) (ql (dTup (ql (dVar 6) (ql (dBin 1 yu (dVar 2) (dC (.int 29))) (ql (dVar 7) (ql (dVar 4) aNil))))) aNil))) (dFn qF (ql (dVar 0) (ql (dC (.int 2)) aNil)))))) sNil)
 (sRet (dTup (ql (dVar 2) (ql (dVar 3) (ql (dVar 4) (ql (dVar 5) aNil))))))))))
def jB (tape : (Int × Int)) (kr : ((Int × Int × Int × Int) × (Int × Int)) → Prop) : Prop :=
 qI tape 4 fun t1 =>
 exW (atI [5, 8, 8, 12] t1.1) fun x2 =>
 qI t1.2 x2 fun t4 =>
 qI t4.2 x2 fun t5 =>
 lt (t4.1 : Int) fun x =>
 lt (t5.1 : Int) fun y =>
 qI t5.2 (min 6 (12 - x)) fun t6 =>
 qI t6.2 (min 6 (12 - y)) fun t7 =>
 lt ((1 + t6.1) : Int) fun wide =>
 lt ((1 + t7.1) : Int) fun high =>
 qI t7.2 16 fun t8 =>
 ifP (decide (t8.1 = 0)) ((0 < (2 - (y % 2))) ∧
 lt ((y % 2) : Int) fun far =>
 lt ((1 + (high % (2 - (y % 2)))) : Int) fun tall =>
 qI t8.2 2 fun t10 =>
 exW (atI [((x + 29), far, wide, tall), (far, (x + 29), tall, wide)] t10.1) fun x11 =>
 kr (x11, t10.2)) <|
 kr ((x, y, wide, high), t8.2)
def yQ : FS := mkS (α := (Int × Int)) (κ := ((Int × Int × Int × Int) × (Int × Int))) [.io] (fun a => [eP a]) (fun a => jB a) (fun r => (eT4 D.int D.int D.int D.int) r.1) fun a r => [eP r.2]
theorem qaN : BodyOk yQ 8 (QW qF) := by
 intro ds Q hl h
 obtain ⟨tape, kr, rfl, h, q⟩ := h
 refine jk (e' := [_, _, _, _, _, _, _, _]) rfl ?_
 unfold QW
 unfold jB at h
 refine wR <| s_asg <| ye <| uH <| qj <| c_C <| qj <| c_C <| qj <| c_C <| qj <| c_C <| qu <| xH D.int [5, 8, 8, 12] (.cons .tmp (.cons .tmp (.cons .tmp (.cons .tmp .nil)))) <| c_fn <| qj <| qw rfl <| qj <| c_C <| qu ?_
 refine x_call (tape, 4) (fun t1 => [some (eP t1.2, .io), _, _, _, _, _, _, _]) h (.cons .z (.cons .tmp .nil)) (qD (by rfl) (qD yU qZ)) (by rfl) (fun _ => rfl) fun t1 h => ?_
 obtain ⟨x2, p3, h⟩ := h
 refine o_idx .tmp .tmp (ix_L p3) .tmp ?_
 refine g_n (e' := [_, _, _, _, _, _, _, _]) rfl rfl ?_
 refine wR <| qeP <| qj <| c_fn <| qj <| qw rfl <| qj <| qw rfl <| qu ?_
 refine x_call (t1.2, x2) (fun t4 => [some (eP t4.2, .io), _, _, _, _, _, _, _]) h (.cons .z (.cons .tmp .nil)) (qD (by rfl) (qD yU qZ)) (by rfl) (fun _ => rfl) fun t4 h => ?_
 refine qj <| c_fn <| qj <| qw rfl <| qj <| qw rfl <| qu ?_
 refine x_call (t4.2, x2) (fun t5 => [some (eP t5.2, .io), _, _, _, _, _, _, _]) h (.cons .z (.cons .tmp .nil)) (qD (by rfl) (qD yU qZ)) (by rfl) (fun _ => rfl) fun t5 h => ?_
 refine qu <| qfc (f := D.int) (g := D.int) (fun x y => [some (eP t5.2, .io), zO (D.int x2), zO (D.int x), zO (D.int y), none, none, none, none]) .tmp .tmp h rfl rfl (fun _ _ => rfl) fun x y h => wR <| qeP <| qj <| wD <| c_C <| c_fn <| qj <| qw rfl <| qj <| xg <| qj <| c_C <| qj <| wD <| c_C <| qw rfl <| wC .tmp .tmp xr <| qu <| yV (.cons .tmp (.cons .tmp .nil)) qb8 <| qu ?_
 refine x_call (t5.2, (min 6 (12 - x))) (fun t6 => [some (eP t6.2, .io), _, _, _, _, _, _, _]) h (.cons .z (.cons .tmp .nil)) (qD (by rfl) (qD yU qZ)) (by rfl) (fun _ => rfl) fun t6 h => ?_
 refine wC .tmp .tmp zE <| qj <| wD <| c_C <| c_fn <| qj <| qw rfl <| qj <| xg <| qj <| c_C <| qj <| wD <| c_C <| qw rfl <| wC .tmp .tmp xr <| qu <| yV (.cons .tmp (.cons .tmp .nil)) qb8 <| qu ?_
 refine x_call (t6.2, (min 6 (12 - y))) (fun t7 => [some (eP t7.2, .io), _, _, _, _, _, _, _]) h (.cons .z (.cons .tmp .nil)) (qD (by rfl) (qD yU qZ)) (by rfl) (fun _ => rfl) fun t7 h => ?_
 refine wC .tmp .tmp zE <| qu <| qfc (f := D.int) (g := D.int) (fun wide high => [some (eP t7.2, .io), zO (D.int x2), zO (D.int x), zO (D.int y), zO (D.int wide), zO (D.int high), none, none]) .tmp .tmp h rfl rfl (fun _ _ => rfl) fun wide high h => wR <| s_if <| j8 <| wD <| c_fn <| qj <| qw rfl <| qj <| c_C <| qu ?_
 refine x_call (t7.2, 16) (fun t8 => [some (eP t8.2, .io), _, _, _, _, _, _, _]) h (.cons .z (.cons .tmp .nil)) (qD (by rfl) (qD yU qZ)) (by rfl) (fun _ => rfl) fun t8 h => ?_
 refine c_C <| wC .tmp .tmp (op_eq (f := D.int)) <| j6 .tmp tr_b ?_
 refine Z8 h (fun hb h => ?_) (fun hb h => ?_)
 ·skip
  refine wR <| qeP <| qj <| wD <| qw rfl <| c_C <| wC .tmp .tmp (Us (by decide)) <| qj <| wD <| c_C <| wD <| qw rfl <| wD <| c_C <| wD <| qw rfl <| c_C <| wC .tmp .tmp (Us (by decide)) <| wC .tmp .tmp xr ?_
  obtain ⟨p9, h⟩ := h
  refine wC .tmp .tmp (Us p9) <| wC .tmp .tmp zE <| qu <| qfc (f := D.int) (g := D.int) (fun far tall => [some (eP t8.2, .io), zO (D.int x2), zO (D.int x), zO (D.int y), zO (D.int wide), zO (D.int high), zO (D.int far), zO (D.int tall)]) .tmp .tmp h rfl rfl (fun _ _ => rfl) fun far tall h => s_ret <| ye <| uH <| qj <| xK <| qj <| wD <| qw rfl <| c_C <| wC .tmp .tmp zE <| qj <| qw rfl <| qj <| qw rfl <| qj <| qw rfl <| qu <| qb1 D.int D.int D.int D.int (x + 29) far wide tall (.cons .tmp (.cons .tmp (.cons .tmp (.cons .tmp .nil)))) <| qj <| xK <| qj <| qw rfl <| qj <| wD <| qw rfl <| c_C <| wC .tmp .tmp zE <| qj <| qw rfl <| qj <| qw rfl <| qu <| qb1 D.int D.int D.int D.int far (x + 29) tall wide (.cons .tmp (.cons .tmp (.cons .tmp (.cons .tmp .nil)))) <| qu <| xH zB [((x + 29), far, wide, tall), (far, (x + 29), tall, wide)] (.cons .tmp (.cons .tmp .nil)) <| c_fn <| qj <| qw rfl <| qj <| c_C <| qu ?_
  refine x_call (t8.2, 2) (fun t10 => [some (eP t10.2, .io), _, _, _, _, _, _, _]) h (.cons .z (.cons .tmp .nil)) (qD (by rfl) (qD yU qZ)) (by rfl) (fun _ => rfl) fun t10 h => ?_
  obtain ⟨x11, p12, h⟩ := h
  refine o_idx .tmp .tmp (ix_L p12) .tmp <| xO ?_
  exact q (x11, t10.2) h
 refine Z4 <| s_ret <| xK <| qj <| qw rfl <| qj <| qw rfl <| qj <| qw rfl <| qj <| qw rfl <| qu <| qb1 D.int D.int D.int D.int x y wide high (.cons .tmp (.cons .tmp (.cons .tmp (.cons .tmp .nil)))) <| xO ?_
 exact q ((x, y, wide, high), t8.2) h
def jn (zA : FS) : XS :=
 (sRet (dFn zA (ql (dIdx (dVar 0) (dC (.int 0))) (ql (dIdx (dVar 0) (dC (.int 1))) (ql (dIdx (dVar 0) (dC (.int 2))) (ql (dIdx (dVar 0) (dC (.int 3))) aNil))))))
def xj (box : (Int × Int × Int × Int)) (kr : (List (Int × Int)) → Prop) : Prop :=
 jf box.1 box.2.1 box.2.2.1 box.2.2.2 fun t1 =>
 kr t1
def ww : FS := mkS (α := (Int × Int × Int × Int)) (κ := (List (Int × Int))) [.ro] (fun a => [(eT4 D.int D.int D.int D.int) a]) (fun a => xj a) (fun r => (eL (eT2 D.int D.int)) r) fun a r => [(eT4 D.int D.int D.int D.int) a]
theorem Wx : BodyOk ww 1 (jn zA) := by
 intro ds Q hl h
 obtain ⟨box, kr, rfl, h, q⟩ := h
 refine jk (e' := [zR (zB box)]) rfl ?_
 unfold jn
 unfold xj at h
 refine s_ret <| c_fn <| qj <| ye <| qw rfl <| c_C <| o_idx .ro .tmp qiV (.ro rfl) <| qj <| ye <| qw rfl <| c_C <| o_idx .ro .tmp qiU (.ro rfl) <| qj <| ye <| qw rfl <| c_C <| o_idx .ro .tmp qg9 (.ro rfl) <| qj <| ye <| qw rfl <| c_C <| o_idx .ro .tmp qg8 (.ro rfl) <| qu ?_
 refine x_call (box.1, box.2.1, box.2.2.1, box.2.2.2) (fun t1 => [zR (zB box)]) h (.cons .tmp (.cons .tmp (.cons .tmp (.cons .tmp .nil)))) (qD yU (qD yU (qD yU (qD yU qZ)))) (wY (by rfl)) (fun _ => rfl) fun t1 h => ?_
 refine xO ?_
 exact q t1 h
def v5 (ww : FS) : XS :=
 (sSeq (sAsg (dCall 1 (op1 JL) (ql (dVar 0) aNil)) (gN 2))
 (sSeq (sFor (iSeq (dFn ww (ql (dIdx (dVar 1) (dC (.int 1))) aNil))) (gN 3) (sSeq (Qa (dMn D.isDic qa7 (dVar 2) (ql (dVar 3) (ql (dC .non) aNil))))
 (sIf (xVal (dBin 2 opEq (dIdx (dVar 1) (dC (.int 0))) (dC (.str (Str.ofString "add"))))) (sPut (dC (.bl true)) (dVar 2) (dVar 3)) sNil)))
 (sRet (dVar 2))))
def xm (there : (List ((Int × Int) × Bool))) (deed : (Str × (Int × Int × Int × Int))) (kr : (List ((Int × Int) × Bool)) → Prop) : Prop :=
 (∀ p ∈ there, (0 ≤ p.1.1 ∧ p.1.1 < 64) ∧ 0 ≤ p.1.2 ∧ p.1.2 < 64) ∧
 lt (there : (List ((Int × Int) × Bool))) fun made =>
 xj deed.2 fun t2 =>
 forW t2 made (fun cell (made : (List ((Int × Int) × Bool))) kk4 => lt (delA cell made) fun made =>
 (PyData.strOk deed.1 = true ∧ PyData.strOk (Str.ofString "add") = true) ∧
 ifW (decide (deed.1 = (Str.ofString "add"))) (fun kk7 => (made.length < sizeLine) ∧
 lt (putA cell true made) fun made =>
 kk7 made) (fun kk7 => kk7 made) fun (made : (List ((Int × Int) × Bool))) =>
 kk4 made) fun made =>
 kr made
def yj : FS := mkS (α := ((List ((Int × Int) × Bool)) × (Str × (Int × Int × Int × Int)))) (κ := (List ((Int × Int) × Bool))) [.ro, .ro] (fun a => [(eDT (kf2 Sum.inl Sum.inl) D.bl) a.1, (eT2 D.str (eT4 D.int D.int D.int D.int)) a.2]) (fun a => xm a.1 a.2) (fun r => (eDT (kf2 Sum.inl Sum.inl) D.bl) r) fun a r => [(eDT (kf2 Sum.inl Sum.inl) D.bl) a.1, (eT2 D.str (eT4 D.int D.int D.int D.int)) a.2]
theorem Uc : BodyOk yj 4 (v5 ww) := by
 intro ds Q hl h
 obtain ⟨⟨there, deed⟩, kr, rfl, h, q⟩ := h
 refine jk (e' := [_, _, _, _]) rfl ?_
 unfold v5
 unfold xm at h
 refine wR <| s_asg <| xg <| qj <| qw rfl <| qu ?_
 obtain ⟨p1, h⟩ := h
 refine yV (.cons .ro .nil) (qfi (f := D.bl) p1) ?_
 refine g_N (f := zD) (fun made => [_, _, zO (zD made), _]) h rfl (fun _ => rfl) fun made h => ?_
 refine wR <| Z5 <| jV <| c_fn <| qj <| ye <| qw rfl <| c_C <| o_idx .ro .tmp qaX (.ro rfl) <| qu ?_
 refine x_call deed.2 (fun t2 => [_, _, _, _]) h (.cons .ro .nil) (qD (yr .ro) qZ) (wY (by rfl)) (fun _ => rfl) fun t2 h => ?_
 refine qgR ?_
 refine Zy (fI := zP) (sh := fun (made : (List ((Int × Int) × Bool))) e => ∃ c3 : Option (D × Md), (setS (some c3) = true) ∧ e = [zR (zD there), zR (eT2 D.str zB deed), zO (zD made), c3]) h ⟨_, rfl, rfl⟩ (fun cell ha made e hs kk4 nxkk4 hJ4 h => ?_) ?_
 ·skip
  obtain ⟨c3, hc3, rfl⟩ := hs
  refine g_n (e' := [_, _, _, _]) hc3 rfl (?_)
  refine wR <| u9 <| c_mn (by rfl) .z (by rfl) <| qj <| qw rfl <| qj <| c_C <| qu <| qgV (c := zP) (f := D.bl) (fun made => [_, _, zO (zD made), _]) h .z .tmp (by rfl) (fun _ => rfl) fun made h => s_if <| j8 <| wD <| ye <| qw rfl <| c_C <| o_idx .ro .tmp qdF (.ro rfl) <| c_C ?_
  obtain ⟨p6, h⟩ := h
  refine wC .tmp .tmp (qee p6.1 p6.2) <| j6 .tmp tr_b ?_
  refine qff (sh := fun (made : (List ((Int × Int) × Bool))) e => e = [zR (zD there), zR (eT2 D.str zB deed), zO (zD made), zO (zP cell)]) h (fun hb kk7 nxkk7 hJ7 h => ?_) (fun hb kk7 nxkk7 hJ7 h => ?_) ?_
  ·skip
   refine qiC <| c_C <| qw rfl <| qw rfl ?_
   obtain ⟨p8, h⟩ := h
   refine qfa (c := zP) (f := D.bl) (fun made => [_, _, zO (zD made), _]) h .tmp .z (by rfl) p8 (fun _ => rfl) fun made h => ?_
   exact hJ7 made _ rfl h
  ·skip
   refine Z4 ?_
   exact hJ7 made _ rfl h
  rintro made e hs h
  obtain rfl := hs
  exact hJ4 made _ ⟨_, rfl, rfl⟩ h
 rintro made e hs h
 obtain ⟨c3, hc3, rfl⟩ := hs
 refine wN <| s_ret <| qw rfl <| Y6 (m := .own) (by rfl) ?_
 exact q made h
def jm (zF wU : FS) : XS :=
 (sSeq (sAsg (W7 (dBin 1 yu (dFn wU (ql (dCall 1 (op1 Z0) (ql (dVar 0) aNil)) aNil)) (dFn wU (ql (dCall 1 (op1 Z0) (ql (dVar 1) aNil)) aNil)))) (gN 2))
 (sSeq (sAsg (dLc (iSeq (dVar 2)) (gN 4) xYes (dTup (ql (dVar 4) (ql (dFn zF (ql (dVar 0) (ql (dVar 4) aNil))) (ql (dFn zF (ql (dVar 1) (ql (dVar 4) aNil))) aNil)))) [4]) (gN 3))
 (sRet (dLc (iSeq (dVar 3)) (gN 5) (xVal (dBin 2 opNe (dIdx (dVar 5) (dC (.int 1))) (dIdx (dVar 5) (dC (.int 2))))) (dVar 5) [5]))))
def qQ (there : (List ((Int × Int) × Bool))) (made : (List ((Int × Int) × Bool))) (kr : (List ((Int × Int) × Str × Str)) → Prop) : Prop :=
 yJ (there.map (·.1)) fun t1 =>
 yJ (made.map (·.1)) fun t2 =>
 (t1.length + t2.length ≤ sizeLine) ∧
 ((t1 ++ t2).length < 4096) ∧
 lt ((srt tl2 (BX.dd (t1 ++ t2))) : (List (Int × Int))) fun points =>
 (points.length ≤ sizeLine) ∧
 lcW points ([] : List ((Int × Int) × Str × Str)) () (fun point (s : Unit) w => xY there point fun t6 =>
 xY made point fun t7 =>
 w (some (point, t6, t7)) ()) fun l8 s9 =>
 (l8.length ≤ sizeLine) ∧
 (∀ row ∈ l8, (PyData.strOk row.2.1 = true ∧ PyData.strOk row.2.2 = true) ∧
 True) ∧
 kr (l8.filter (fun row => (!(decide (row.2.1 = row.2.2)))))
def qT : FS := mkS (α := ((List ((Int × Int) × Bool)) × (List ((Int × Int) × Bool)))) (κ := (List ((Int × Int) × Str × Str))) [.ro, .ro] (fun a => [(eDT (kf2 Sum.inl Sum.inl) D.bl) a.1, (eDT (kf2 Sum.inl Sum.inl) D.bl) a.2]) (fun a => qQ a.1 a.2) (fun r => (eL (eT3 (eT2 D.int D.int) D.str D.str)) r) fun a r => [(eDT (kf2 Sum.inl Sum.inl) D.bl) a.1, (eDT (kf2 Sum.inl Sum.inl) D.bl) a.2]
theorem Ww : BodyOk qT 6 (jm zF wU) := by
 intro ds Q hl h
 obtain ⟨⟨there, made⟩, kr, rfl, h, q⟩ := h
 refine jk (e' := [_, _, _, _, _, _]) rfl ?_
 unfold jm
 unfold qQ at h
 refine wR <| s_asg <| JB <| wD <| c_fn <| qj <| xg <| qj <| qw rfl <| qu <| yV (.cons .ro .nil) (qb9 (c := zP)) <| qu ?_
 refine x_call (there.map (·.1)) (fun t1 => [_, _, _, _, _, _]) h (.cons .tmp .nil) (qD (yr .tmp) qZ) (wY (by rfl)) (fun _ => rfl) fun t1 h => ?_
 refine c_fn <| qj <| xg <| qj <| qw rfl <| qu <| yV (.cons .ro .nil) (qb9 (c := zP)) <| qu ?_
 refine x_call (made.map (·.1)) (fun t2 => [_, _, _, _, _, _]) h (.cons .tmp .nil) (qD (yr .tmp) qZ) (wY (by rfl)) (fun _ => rfl) fun t2 h => ?_
 obtain ⟨p3, h⟩ := h
 refine wC .tmp .tmp (qe7 (f := zP) p3) ?_
 obtain ⟨p4, h⟩ := h
 refine Yo (f := zP) .tmp p4 ?_
 refine g_N (f := zL) (fun points => [_, _, zO (zL points), _, _, _]) h rfl (fun _ => rfl) fun points h => ?_
 refine wR <| s_asg <| c_lc <| jV <| qw rfl <| qdy (e' := [_, _, _, _, _, _]) rfl rfl rfl ?_
 obtain ⟨p5, h⟩ := h
 refine qdz (fI := zP) (fo := (eT3 zP D.str D.str)) (sh := fun (s : Unit) e => e = [zR (zD there), zR (zD made), some (zL points, .lk), none, none, none]) h (all1 rfl) p5 rfl (fun point ha s e hs w c k1 k2 hc h1 h2 h => ?_) ?_
 ·obtain rfl := hs
  refine g_n (e' := [_, _, _, _, _, _]) rfl rfl (?_)
  refine qdU <| xK <| qj <| qw rfl <| qj <| c_fn <| qj <| qw rfl <| qj <| qw rfl <| qu ?_
  refine x_call (there, point) (fun t6 => [_, _, _, _, _, _]) h (.cons .ro (.cons .z .nil)) (qD (yr .ro) (qD (yr .z) qZ)) (wY (by rfl)) (fun _ => rfl) fun t6 h => ?_
  refine qj <| c_fn <| qj <| qw rfl <| qj <| qw rfl <| qu ?_
  refine x_call (made, point) (fun t7 => [_, _, _, _, _, _]) h (.cons .ro (.cons .z .nil)) (qD (yr .ro) (qD (yr .z) qZ)) (wY (by rfl)) (fun _ => rfl) fun t7 h => ?_
  refine qu <| qeh zP D.str D.str point t6 t7 (.cons (.of .z (Im.im (f := zP) _)) (.cons .tmp (.cons .tmp .nil))) ?_
  exact o_el .tmp hc rfl (h1 _ () _ rfl h)
 rintro l8 s9 e hs h
 obtain rfl := hs
 refine jN (e' := [_, _, _, _, _, _]) rfl <| VL (e' := [_, _, _, _, _, _]) rfl rfl ?_
 refine g_n (e' := [_, _, _, _, _, _]) rfl rfl ?_
 refine s_ret <| c_lc <| jV <| qw rfl <| qdy (e' := [_, _, _, _, _, _]) rfl rfl rfl ?_
 obtain ⟨p10, h⟩ := h
 obtain ⟨p11, h⟩ := h
 refine X8 (e := [_, _, _, _, _, _]) (fI := (eT3 zP D.str D.str)) (fo := (eT3 zP D.str D.str)) (fun row => (!(decide (row.2.1 = row.2.2)))) (all1 rfl) p10 rfl (fun row ha c k1 k2 hc h1 h2 => ?_) ?_
 ·have h := p11 row ha
  refine g_n (e' := [_, _, _, _, _, _]) rfl rfl (?_)
  refine j8 <| wD <| ye <| qw rfl <| c_C <| o_idx .z .tmp qiX (.sl (Im.im (f := D.str) _)) <| ye <| qw rfl <| c_C <| o_idx .z .tmp qiW (.sl (Im.im (f := D.str) _)) ?_
  obtain ⟨p12, h⟩ := h
  refine wC .tmp .tmp (qed p12.1 p12.2) <| j6 .tmp tr_b ?_
  refine ⟨fun hb => ?_, fun hb => h2 hb⟩
  refine qw rfl ?_
  exact o_el (.of .z (Im.im (f := (eT3 zP D.str D.str)) _)) hc rfl (h1 hb)
 refine jN (e' := [_, _, _, _, _, _]) rfl <| VL (e' := [_, _, _, _, _, _]) rfl rfl <| xO ?_
 exact q (l8.filter (fun row => (!(decide (row.2.1 = row.2.2))))) h
def zN (tape : (Int × Int)) (many : Int) (kr : ((List (Str × (Int × Int × Int × Int))) × (Int × Int)) → Prop) : Prop :=
 lt (([] : List (Str × (Int × Int × Int × Int))) : (List (Str × (Int × Int × Int × Int)))) fun found =>
 (Wf 0 many) ∧
 forW (rng 0 many) (tape, found) (fun turn (s2 : ((Int × Int) × (List (Str × (Int × Int × Int × Int))))) kk5 => jB s2.1 fun t6 =>
 (eqOk ((eL (eT2 D.str (eT4 D.int D.int D.int D.int))) s2.2) = true ∧ True) ∧
 ifW (!(s2.2.isEmpty)) (fun kk8 => qI t6.2 5 fun t9 =>
 kk8 ((decide (t9.1 = 0)), t9.2)) (fun kk8 => kk8 (false, t6.2)) fun (b10 : Bool × (Int × Int)) =>
 ifW b10.1 (fun kk12 => qI b10.2 (s2.2.length : Int) fun t13 =>
 exW (atI s2.2 t13.1) fun x14 =>
 kk12 (t13.2, x14.2)) (fun kk12 => kk12 (b10.2, t6.1)) fun (s11 : ((Int × Int) × (Int × Int × Int × Int))) =>
 qI s11.1 3 fun t16 =>
 exW (atI [(Str.ofString "add"), (Str.ofString "add"), (Str.ofString "cut")] t16.1) fun x17 =>
 (s2.2.length < sizeLine) ∧
 lt (s2.2 ++ [(x17, s11.2)]) fun found =>
 kk5 (t16.2, found)) fun s2 =>
 kr (s2.2, s2.1)
def Zh (yS yR : FS) : XS :=
 (sRet (dIf (xVal (dBin 2 opEq (dIdx (dVar 1) (dC (.int 0))) (dC (.str (Str.ofString "add"))))) (vp "Site" "add" yS (dVar 0) (ql (dIdx (dVar 1) (dC (.int 1))) aNil)) (vp "Site" "cut" yR (dVar 0) (ql (dIdx (dVar 1) (dC (.int 1))) aNil))))
def jG (ground : (List ((Int × Int) × Bool) × List ((Int × Int × Int × Int) × List (Int × Int)) × Int)) (deed : (Str × (Int × Int × Int × Int))) (kr : ((List ((Int × Int) × Str × Str)) × (List ((Int × Int) × Bool) × List ((Int × Int × Int × Int) × List (Int × Int)) × Int)) → Prop) : Prop :=
 (PyData.strOk deed.1 = true ∧ PyData.strOk (Str.ofString "add") = true) ∧
 (ifP (decide (deed.1 = (Str.ofString "add"))) (uh ground deed.2 fun t2 =>
 kr (t2.1, t2.2)) <|
 ug ground deed.2 fun t3 =>
 kr (t3.1, t3.2))
def xU : FS := mkS (α := ((List ((Int × Int) × Bool) × List ((Int × Int × Int × Int) × List (Int × Int)) × Int) × (Str × (Int × Int × Int × Int)))) (κ := ((List ((Int × Int) × Str × Str)) × (List ((Int × Int) × Bool) × List ((Int × Int × Int × Int) × List (Int × Int)) × Int))) [.io, .ro] (fun a => [w6 a.1, (eT2 D.str (eT4 D.int D.int D.int D.int)) a.2]) (fun a => jG a.1 a.2) (fun r => (eL (eT3 (eT2 D.int D.int) D.str D.str)) r.1) fun a r => [w6 r.2, (eT2 D.str (eT4 D.int D.int D.int D.int)) a.2]
theorem qbx : BodyOk xU 2 (Zh yS yR) := by
 intro ds Q hl h
 obtain ⟨⟨ground, deed⟩, kr, rfl, h, q⟩ := h
 refine jk (e' := [_, _]) rfl ?_
 unfold Zh
 unfold jG at h
 refine qbJ <| s_if <| j8 <| wD <| ye <| qw rfl <| c_C <| o_idx .ro .tmp qdF (.ro rfl) <| c_C ?_
 obtain ⟨p1, h⟩ := h
 refine wC .tmp .tmp (qee p1.1 p1.2) <| j6 .tmp tr_b ?_
 refine Z8 h (fun hb h => ?_) (fun hb h => ?_)
 ·skip
  refine s_ret <| j9 (by rfl) (by rfl) ((zM (by decide +kernel)).trans ((zM (by decide +kernel)).trans ((zM (by decide +kernel)).trans rfl))) <| qj <| ye <| qw rfl <| c_C <| o_idx .ro .tmp qaX (.ro rfl) <| qu ?_
  refine x_call (ground, deed.2) (fun t2 => [some (w6 t2.2, .io), _]) h (.cons .z (.cons .ro .nil)) (qD (by rfl) (qD (yr .ro) qZ)) (by rfl) (fun _ => rfl) fun t2 h => ?_
  refine xO ?_
  exact q (t2.1, t2.2) h
 refine s_ret <| j9 (by rfl) (by rfl) ((zM (by decide +kernel)).trans ((zM (by decide +kernel)).trans ((zM (by decide +kernel)).trans rfl))) <| qj <| ye <| qw rfl <| c_C <| o_idx .ro .tmp qaX (.ro rfl) <| qu ?_
 refine x_call (ground, deed.2) (fun t3 => [some (w6 t3.2, .io), _]) h (.cons .z (.cons .ro .nil)) (qD (by rfl) (qD (yr .ro) qZ)) (by rfl) (fun _ => rfl) fun t3 h => ?_
 refine xO ?_
 exact q (t3.1, t3.2) h
end BC
namespace BC
open PySem PySem.Spec PyProof.Rows L2 BX TX COM
section
variable {κ α : Type} [DecidableEq κ]
theorem V5 {k : κ} {v : α} : ∀ {m : List (κ × α)}, (putA k v m).map (·.1) = if k ∈ m.map (·.1) then m.map (·.1) else m.map (·.1) ++ [k]
 | [] => by simp [putA]
 | p :: m => by
   have ih := V5 (k := k) (v := v) (m := m)
   rw [putA]
   by_cases h : p.1 = k
   ·simp [h]
   ·have h' : ¬ k = p.1 := fun z => h z.symm
    rw [if_neg h, List.map_cons, ih]
    by_cases g : k ∈ m.map (·.1)
    ·simp [g]
    ·simp [g, h']
end
end BC
namespace BC
open PySem PySem.Spec PyProof.Rows L2 BX TX COM
def nb (b w : C2) : C2 := (b.1 + w.1, b.2 + w.2)
inductive Rch (S : C2 → Prop) (ways : List C2) (a : C2) : C2 → Prop
 | here : Rch S ways a a
 | step {b w : C2} : Rch S ways a b → w ∈ ways → S (nb b w) → Rch S ways a (nb b w)
theorem Rch.in {S : C2 → Prop} {ways : List C2} {a c : C2} (h : Rch S ways a c) (ha : S a) : S c := by
 cases h with
 | here => exact ha
 | step _ _ s => exact s
noncomputable def rB (ways S : List C2) (a c : C2) : Bool := @decide (Rch (· ∈ S) ways a c) (Classical.propDecidable _)
noncomputable def comp (ways S : List C2) (a : C2) : List C2 := srt tl2 (S.filter fun c => rB ways S a c)
theorem qek {m S : List C2} (nm : m.Nodup) (h : ∀ c ∈ m, c ∈ S) : m.length ≤ S.length := nm.length_le_of_subset h
structure Sp (ways S : List C2) (a : C2) (M W : List C2) (ex : C2 → Prop) : Prop where
 nd : M.Nodup
 st : a ∈ M
 sub : ∀ c ∈ M, Rch (· ∈ S) ways a c
 wt : ∀ c ∈ W, c ∈ M
 ok : ∀ c ∈ M, c ∈ W ∨ ex c ∨ ∀ w ∈ ways, nb c w ∈ S → nb c w ∈ M
theorem Sp.len {ways S : List C2} {a : C2} {M W : List C2} {ex : C2 → Prop} (h : Sp ways S a M W ex) (ha : a ∈ S) : M.length ≤ S.length := qek h.nd fun c hc => (h.sub c hc).in ha
end BC
namespace BC
open PySem PySem.Spec PyProof.Rows L2 BX TX COM
def qfo (a b c d : Bool) : Str :=
 if intB a + intB b + intB c + intB d = 2 then (if a = c then Str.ofString "twice" else Str.ofString "wall")
 else if intB a + intB b + intB c + intB d = 0 then Str.ofString "none" else if intB a + intB b + intB c + intB d = 1 then Str.ofString "outer" else if intB a + intB b + intB c + intB d = 3 then Str.ofString "inner" else Str.ofString "within"
theorem qdE (a b c d : Bool) : PyData.strOk (qfo a b c d) = true := by cases a <;> cases b <;> cases c <;> cases d <;> decide +kernel
theorem qcm {a b c d : Bool} {kr : Str → Prop} (hk : kr (qfo a b c d)) : vz [a, b, c, d] kr := by
 unfold vz
 simp only [lt]
 refine ⟨by rw [sz]; simp, ?_⟩
 cases a <;> cases b <;> cases c <;> cases d <;>
  refine ⟨fun h => ?_, fun h => ?_⟩ <;>
  first
   | exact absurd h (by decide)
   | exact ⟨_, rfl, hk⟩
   | exact ⟨_, rfl, _, rfl, fun _ => hk, fun z => absurd z (by decide)⟩
   | exact ⟨_, rfl, _, rfl, fun z => absurd z (by decide), fun _ => hk⟩
def corn (c : C2) : List C2 := [(c.1, c.2), (c.1 + 1, c.2), (c.1, c.2 + 1), (c.1 + 1, c.2 + 1)]
def ptsL (r : List C2) : List C2 := srt tl2 (BX.dd (r.flatMap corn))
theorem qcg {r : List C2} {p : C2} : p ∈ ptsL r ↔ ∃ c ∈ r, p ∈ corn c := by
 unfold ptsL
 rw [YK, BX.ZP, List.mem_flatMap]
theorem qbV (r : List C2) : (ptsL r).length ≤ 4 * r.length := by
 unfold ptsL
 rw [(WP _).length_eq]
 refine Nat.le_trans (BX.qcM _) ?_
 induction r with
 | nil => exact Nat.le_refl _
 | cons c r ih =>
   rw [List.flatMap_cons, List.length_append, List.length_cons]
   show 4 + _ ≤ _
   omega
def sv (way : Str) : C2 := if way = qf0 then (1, 0) else (0, 1)
def pt (way : Str) (p : C2) (i : Int) : C2 := (p.1 + (sv way).1 * i, p.2 + (sv way).2 * i)
end BC
namespace BC
open PySem PySem.Spec PyProof.Rows L2 BX TX COM
abbrev Sd := List (C2 × Bool)
abbrev Dds := List (B4 × List C2)
abbrev Row := C2 × Str × Str
def jW (h : C2 → Bool) (p : C2) : Str := qfo (h (p.1 - 1, p.2 - 1)) (h (p.1, p.2 - 1)) (h (p.1, p.2)) (h (p.1 - 1, p.2))
theorem vK {h : C2 → Bool} {p : C2} : PyData.strOk (jW h p) = true := qdE ..
theorem yW {κ α : Type} [DecidableEq κ] {l : List (κ × α)} {k : κ} : hasA l k = true ↔ k ∈ l.map (·.1) := by
 unfold hasA
 rw [List.any_eq_true]
 constructor
 ·rintro ⟨p, hp, e⟩
  exact List.mem_map.mpr ⟨p, hp, of_decide_eq_true e⟩
 ·intro h
  obtain ⟨p, hp, e⟩ := List.mem_map.mp h
  exact ⟨p, hp, decide_eq_true e⟩
theorem qcn {r : List C2} {p : C2} {kr : Str → Prop} (hk : kr (jW (fun c => memB c r) p)) : Qi r p kr := ⟨by rw [sz]; simp, qcm hk⟩
theorem uR {l : List C2} {f : C2 → Bool} {c : C2} (h : c ∈ l) : memB c (l.filter f) = f c := by
 cases e : f c
 ·rw [Y7, List.mem_filter]; exact fun z => by simp [e] at z
 ·rw [je, List.mem_filter]; exact ⟨h, e⟩
theorem Yq {s : Sd × Dds × Int} {p : C2} {kr : Str → Prop} (hk : kr (jW (hasA s.1) p)) : zJ s p kr := by
 unfold zJ
 simp only [lt]
 refine ⟨by rw [sz]; simp, qcn ?_⟩
 unfold jW at hk ⊢
 dsimp only at hk ⊢
 rw [uR (by simp), uR (by simp), uR (by simp), uR (by simp)]
 exact hk
theorem Yp {rd : Sd} {p : C2} {kr : Str → Prop} (hk : kr (jW (hasA rd) p)) : xY rd p kr := by
 unfold xY
 simp only [lt]
 obtain ⟨x, y⟩ := p
 unfold jW at hk
 dsimp only at hk ⊢
 refine ⟨by rw [sz]; simp, ?_⟩
 have e1 : (x = x - 1) = False := by simp; omega
 have e2 : (x - 1 = x) = False := by simp; omega
 have e3 : (y = y - 1) = False := by simp; omega
 have e4 : (y - 1 = y) = False := by simp; omega
 simp only [List.filter_cons, List.filter_nil]
 generalize hasA rd (x - 1, y - 1) = a at hk ⊢
 generalize hasA rd (x, y - 1) = b at hk ⊢
 generalize hasA rd (x, y) = c at hk ⊢
 generalize hasA rd (x - 1, y) = d at hk ⊢
 cases a <;> cases b <;> cases c <;> cases d <;> simp only [reduceIte, Bool.false_eq_true] <;>
  refine ⟨fun h => ?_, fun h => ?_⟩ <;>
  first
   | (exfalso; simp at h; done)
   | exact ⟨_, rfl, hk⟩
   | exact ⟨_, rfl, _, rfl, by simp only [e1, e2, e3, e4]; exact ⟨fun z => absurd z (by decide), fun _ => ⟨_, rfl, hk⟩⟩⟩
   | exact ⟨_, rfl, _, rfl, by simp only [e1, e2, e3, e4]; exact ⟨fun _ => ⟨_, rfl, _, rfl, by simp only [e1, e2, e3, e4]; exact ⟨_, rfl, hk⟩⟩, fun z => absurd z (by decide)⟩⟩
   | exact ⟨_, rfl, _, rfl, fun z => absurd z (by simp), fun _ => ⟨_, rfl, hk⟩⟩
theorem Ur {b : B4} {kr : List C2 → Prop} (h1 : 0 ≤ b.2.2.1) (h2 : b.2.2.1 ≤ 100) (h3 : 0 ≤ b.2.2.2) (h4 : b.2.2.2 ≤ 100) (hk : kr (uE b.1 b.2.1 (b.2.2.1 + 1) (b.2.2.2 + 1))) : uI b kr :=
 qcW (kr := kr) (by omega) (by omega) (by omega) (by omega) hk
theorem qbN (x w : Int) : rng x (x + w) = (rng 0 w).map fun i => x + i := by
 unfold rng
 rw [List.map_map, show (x + w - x).toNat = (w - 0).toNat by congr 1; omega]
 refine List.map_congr_left fun n _ => ?_
 simp
theorem qdH (x y w h : Int) : ((rng x (x + w)).flatMap fun i => (rng y (y + h)).map fun j => (i, j)) = uE x y w h := by
 unfold uE
 rw [qbN x w, qbN y h, List.flatMap_map]
 simp only [List.map_map]
 rfl
theorem Yy {b : B4} {kr : List C2 → Prop} (hx : -1000 ≤ b.1 ∧ b.1 ≤ 1000) (hy : -1000 ≤ b.2.1 ∧ b.2.1 ≤ 1000) (h1 : 0 ≤ b.2.2.1) (h2 : b.2.2.1 ≤ 1000) (h3 : 0 ≤ b.2.2.2) (h4 : b.2.2.2 ≤ 1000) (hk : kr (uE b.1 b.2.1 b.2.2.1 b.2.2.2)) : jA b kr := by
 unfold jA
 simp only [lt]
 refine ⟨Yl (by omega) (by omega) (by omega) (by omega), jZ (fun p s => s = p.flatMap fun i => (rng b.2.1 (b.2.1 + b.2.2.2)).map fun j => (i, j)) rfl ?_ ?_⟩
 ·rintro p a q s kk e rfl hkk
  have hl : (p.flatMap fun i => (rng b.2.1 (b.2.1 + b.2.2.2)).map fun j => (i, j)).length ≤ 1000 * 1000 := by
   have : (p.flatMap fun i => (rng b.2.1 (b.2.1 + b.2.2.2)).map fun j => (i, j)).length = p.length * (b.2.1 + b.2.2.2 - b.2.1).toNat := by
    simp [List.length_flatMap, jO, List.map_const', List.sum_replicate_nat]
   rw [this]
   have : p.length ≤ (rng b.1 (b.1 + b.2.2.1)).length := by rw [e]; simp
   rw [jO] at this
   exact Nat.mul_le_mul (by omega) (by omega)
  refine ⟨Yl (by omega) (by omega) (by omega) (by omega), ?_, ?_, hkk _ ?_⟩
  ·rw [jO, sz]; omega
  ·rw [List.length_map, jO, sz]; omega
  ·simp
 ·rintro s rfl
  rw [qdH]
  exact hk
section
variable {κ α : Type} [DecidableEq κ]
theorem qai {k : κ} {l : List (κ × α)} : (delA k l).map (·.1) = (l.map (·.1)).filter fun c => !decide (c = k) := by
 unfold delA
 rw [List.filter_map]; rfl
theorem qcH {k : κ} {l : List (κ × α)} (h : (l.map (·.1)).Nodup) : ((delA k l).map (·.1)).Nodup := by
 rw [qai]; exact h.sublist List.filter_sublist
theorem UG {k c : κ} {l : List (κ × α)} : hasA (delA k l) c = (hasA l c && !decide (c = k)) := by
 rw [Bool.eq_iff_iff, yW, qai, List.mem_filter, Bool.and_eq_true, yW]
theorem qcI {k : κ} {l : List (κ × α)} : (delA k l).length ≤ l.length := List.length_filter_le ..
theorem qbQ {k c : κ} {v : α} {l : List (κ × α)} : hasA (putA k v l) c = (hasA l c || decide (c = k)) := by
 rw [QF, qaa, QF]
 by_cases h : c = k <;> simp [h]
theorem qd9 {k : κ} {v : α} {l : List (κ × α)} (h : (l.map (·.1)).Nodup) : ((putA k v l).map (·.1)).Nodup := by
 rw [V5]
 split
 ·exact h
 ·rename_i g
  rw [List.nodup_append]
  refine ⟨h, by simp, fun a ha b hb => ?_⟩
  rw [List.mem_singleton.mp hb]
  exact fun z => g (z ▸ ha)
end
theorem uU {c a : C2} {p : List C2} : memB c (p ++ [a]) = (memB c p || decide (c = a)) := by
 rw [Bool.eq_iff_iff, je, Bool.or_eq_true, je, List.mem_append, List.mem_singleton, decide_eq_true_iff]
theorem Vs {s : Sd × Dds × Int} {cells : List C2} {kr : Unit × (Sd × Dds × Int) → Prop} (nd : cells.Nodup) (ns : (s.1.map (·.1)).Nodup) (hl : s.1.length + cells.length ≤ 100000) (hk : ∀ d : Sd, (d.map (·.1)).Nodup → (∀ c, hasA d c = (hasA s.1 c ^^ memB c cells)) → kr ((), d, s.2)) : zH s cells kr := by
 unfold zH
 simp only [lt]
 refine jZ (fun p z => z.2 = s.2 ∧ (z.1.map (·.1)).Nodup ∧ z.1.length ≤ s.1.length + p.length ∧ ∀ c, hasA z.1 c = (hasA s.1 c ^^ memB c p)) ⟨rfl, ns, by simp, fun c => by rw [show memB c [] = false from Y7.mpr (by simp)]; simp⟩ ?_ ?_
 ·rintro p a q ⟨z1, z2⟩ kk e ⟨rfl, h2, h3, h4⟩ hkk
  dsimp only at h2 h3 h4 ⊢
  have lp : p.length < cells.length := by rw [e]; simp
  have na : memB a p = false := Y7.mpr fun z => by
   rw [e, List.nodup_append] at nd
   exact nd.2.2 a z a (List.mem_cons_self ..) rfl
  refine ⟨fun h => ?_, fun h => ?_⟩
  ·rw [QF, Option.isSome_iff_exists] at h
   obtain ⟨v, hv⟩ := h
   refine ⟨v, hv, hkk _ ⟨rfl, qcH h2, ?_, fun c => ?_⟩⟩
   ·have := qcI (k := a) (l := z1)
    rw [List.length_append]
    show (delA a z1).length ≤ _
    omega
   ·have ha : hasA z1 a = true := by rw [QF, hv]; rfl
    rw [UG, uU, h4]
    rw [h4, na] at ha
    by_cases g : c = a
    ·subst g; rw [na]; revert ha; cases hasA s.1 c <;> simp
    ·simp [g]
  ·refine ⟨by rw [sz]; omega, hkk _ ⟨rfl, qd9 h2, ?_, fun c => ?_⟩⟩
   ·have := Ux (k := a) (v := true) (m := z1)
    rw [List.length_append]
    show (putA a true z1).length ≤ s.1.length + (p.length + 1)
    omega
   ·rw [qbQ, uU, h4]
    rw [h4, na] at h
    by_cases g : c = a
    ·subst g; rw [na]; revert h; cases hasA s.1 c <;> simp
    ·simp [g]
 ·rintro ⟨z1, z2⟩ ⟨rfl, h2, _, h4⟩
  exact hk z1 h2 h4
def xW (P : List C2) (h h' : C2 → Bool) : List Row := (P.filter fun p => !decide (jW h p = jW h' p)).map fun p => (p, jW h p, jW h' p)
theorem Qg {α β γ : Type} {f : α → β} {g : α → γ} : ∀ l : List α, Yz l (l.map f) (l.map g) = l.map fun a => (a, f a, g a)
 | [] => rfl
 | a :: l => by
   show (a, f a, g a) :: Yz l (l.map f) (l.map g) = _
   rw [Qg l]; rfl
theorem Vy (P : List C2) (h h' : C2 → Bool) : ((P.map fun p => (p, jW h p, jW h' p)).filter fun a => !decide (a.2.1 = a.2.2)) = xW P h h' := by
 unfold xW
 rw [List.filter_map]; rfl
def BoxS (b : B4) : Prop := (0 ≤ b.1 ∧ b.1 + b.2.2.1 ≤ 60) ∧ (0 ≤ b.2.1 ∧ b.2.1 + b.2.2.2 ≤ 60) ∧ (0 ≤ b.2.2.1 ∧ b.2.2.1 ≤ 12) ∧ 0 ≤ b.2.2.2 ∧ b.2.2.2 ≤ 12
abbrev ptsB (b : B4) : List C2 := uE b.1 b.2.1 (b.2.2.1 + 1) (b.2.2.2 + 1)
abbrev celB (b : B4) : List C2 := uE b.1 b.2.1 b.2.2.1 b.2.2.2
theorem W8 {b : B4} (hb : BoxS b) : (celB b).length ≤ 144 := qfw (by have := hb.2.2; omega) (by have := hb.2.2; omega) (by have := hb.2.2; omega) (by have := hb.2.2; omega)
theorem YZ {b : B4} (hb : BoxS b) : (ptsB b).length ≤ 169 := by
 obtain ⟨_, _, h1, h2⟩ := hb
 have := Jj (x := b.1) (y := b.2.1) (w := b.2.2.1 + 1) (h := b.2.2.2 + 1) (by omega) (by omega)
 have : (b.2.2.1 + 1) * (b.2.2.2 + 1) ≤ 13 * 13 := Int.mul_le_mul (by omega) (by omega) (by omega) (by decide)
 unfold ptsB
 omega
theorem qcX {b : B4} : (celB b).Nodup := Zk (Ji ..)
theorem Vr {s : Sd × Dds × Int} {b : B4} {cells : List C2} {kr : List Row × (Sd × Dds × Int) → Prop} (hb : BoxS b) (nd : cells.Nodup) (ns : (s.1.map (·.1)).Nodup) (hl : s.1.length + cells.length ≤ 100000) (hk : ∀ d : Sd, (d.map (·.1)).Nodup → (∀ c, hasA d c = (hasA s.1 c ^^ memB c cells)) → kr (xW (ptsB b) (hasA s.1) (hasA d), d, s.2)) : yK s b cells kr := by
 unfold yK
 simp only [lt]
 have hp := YZ hb
 have hb' := hb.2.2
 refine Ur (by omega) (by omega) (by omega) (by omega) ⟨by rw [sz]; unfold ptsB at hp; omega, Xa (jW (hasA s.1)) (fun p _ w hw => Yq hw) (Vs nd ns hl fun d h1 h2 => ⟨by rw [sz]; unfold ptsB at hp; omega, Xa (jW (hasA d)) (fun p _ w hw => Yq hw) ?_⟩)⟩
 refine ⟨by simp, ?_, ?_, ?_⟩
 ·rw [Qg, sz, List.length_map]; unfold ptsB at hp; omega
 ·rw [Qg]
  rintro a ha
  obtain ⟨p, _, rfl⟩ := List.mem_map.mp ha
  exact ⟨⟨vK, vK⟩, trivial⟩
 ·have e := hk d h1 h2
  rw [← Vy] at e
  rw [Qg]
  refine Eq.mp (congrArg kr ?_) e
  refine Prod.ext ?_ rfl
  exact (List.map_id' _).symm
theorem qeu {s : Sd × Dds × Int} {b : B4} {cells : List C2} {kr : List Row × (Sd × Dds × Int) → Prop} (hb : BoxS b) (nd : cells.Nodup) (ns : (s.1.map (·.1)).Nodup) (hl : s.1.length + cells.length ≤ 100000) (hd : s.2.1.length ≤ 100000) (hk : ∀ d : Sd, (d.map (·.1)).Nodup → (∀ c, hasA d c = (hasA s.1 c ^^ memB c cells)) → kr (xW (ptsB b) (hasA s.1) (hasA d), d, s.2.1 ++ [(b, cells)], (b.2.2.1 + 1) * (b.2.2.2 + 1))) : xZ s b cells kr := by
 unfold xZ
 simp only [lt]
 have hb' := hb.2.2
 exact ⟨by rw [sz]; omega, ZF (by omega) (by omega), Vr (s := (s.1, s.2.1 ++ [(b, cells)], (b.2.2.1 + 1) * (b.2.2.2 + 1))) hb nd ns hl fun d h1 h2 => hk d h1 h2⟩
def addC (h : C2 → Bool) (b : B4) : List C2 := (celB b).filter fun c => !h c
def cutC (h : C2 → Bool) (b : B4) : List C2 := (celB b).filter fun c => h c
theorem qfW {h : C2 → Bool} {b : B4} {c : C2} : (h c ^^ memB c (addC h b)) = (h c || memB c (celB b)) := by
 have : memB c (addC h b) = (memB c (celB b) && !h c) := by
  rw [Bool.eq_iff_iff, je, Bool.and_eq_true, je, addC, List.mem_filter]
 rw [this]
 cases h c <;> cases memB c (celB b) <;> rfl
theorem qfM {h : C2 → Bool} {b : B4} {c : C2} : (h c ^^ memB c (cutC h b)) = (h c && !memB c (celB b)) := by
 have : memB c (cutC h b) = (memB c (celB b) && h c) := by
  rw [Bool.eq_iff_iff, je, Bool.and_eq_true, je, cutC, List.mem_filter]
 rw [this]
 cases h c <;> cases memB c (celB b) <;> rfl
theorem qc6 {h : C2 → Bool} {b : B4} : (addC h b).Nodup := qcX.sublist List.filter_sublist
theorem qcS {h : C2 → Bool} {b : B4} : (cutC h b).Nodup := qcX.sublist List.filter_sublist
theorem qaw {h : C2 → Bool} {b : B4} : (addC h b).length ≤ (celB b).length := List.length_filter_le ..
theorem qao {h : C2 → Bool} {b : B4} : (cutC h b).length ≤ (celB b).length := List.length_filter_le ..
theorem qjd {s : Sd × Dds × Int} {b : B4} {kr : List Row × (Sd × Dds × Int) → Prop} (hb : BoxS b) (ns : (s.1.map (·.1)).Nodup) (hl : s.1.length ≤ 90000) (hd : s.2.1.length ≤ 100000) (hk : ∀ d : Sd, (d.map (·.1)).Nodup → (∀ c, hasA d c = (hasA s.1 c ^^ memB c (addC (hasA s.1) b))) → kr (xW (ptsB b) (hasA s.1) (hasA d), d, s.2.1 ++ [(b, addC (hasA s.1) b)], (b.2.2.1 + 1) * (b.2.2.2 + 1))) : uh s b kr := by
 unfold uh
 have hb' := hb
 obtain ⟨h1, h2, h3, h4⟩ := hb'
 have hc := W8 hb
 have := qaw (h := hasA s.1) (b := b)
 exact Yy (by omega) (by omega) (by omega) (by omega) (by omega) (by omega) ⟨by rw [sz]; unfold celB at hc; omega, qeu (cells := addC (hasA s.1) b) hb qc6 ns (by omega) hd fun d h1 h2 => hk d h1 h2⟩
theorem qi7 {s : Sd × Dds × Int} {b : B4} {kr : List Row × (Sd × Dds × Int) → Prop} (hb : BoxS b) (ns : (s.1.map (·.1)).Nodup) (hl : s.1.length ≤ 90000) (hd : s.2.1.length ≤ 100000) (hk : ∀ d : Sd, (d.map (·.1)).Nodup → (∀ c, hasA d c = (hasA s.1 c ^^ memB c (cutC (hasA s.1) b))) → kr (xW (ptsB b) (hasA s.1) (hasA d), d, s.2.1 ++ [(b, cutC (hasA s.1) b)], (b.2.2.1 + 1) * (b.2.2.2 + 1))) : ug s b kr := by
 unfold ug
 have hb' := hb
 obtain ⟨h1, h2, h3, h4⟩ := hb'
 have hc := W8 hb
 have := qao (h := hasA s.1) (b := b)
 exact Yy (by omega) (by omega) (by omega) (by omega) (by omega) (by omega) ⟨by rw [sz]; unfold celB at hc; omega, qeu (cells := cutC (hasA s.1) b) hb qcS ns (by omega) hd fun d h1 h2 => hk d h1 h2⟩
theorem qgr {d0 : Sd} {ds : Dds} {b : B4} {cells : List C2} {lo : Int} {kr : Option (List Row) × (Sd × Dds × Int) → Prop} (hb : BoxS b) (nd : cells.Nodup) (ns : (d0.map (·.1)).Nodup) (hl : d0.length + cells.length ≤ 100000) (hk : ∀ d : Sd, (d.map (·.1)).Nodup → (∀ c, hasA d c = (hasA d0 c ^^ memB c cells)) → kr (some (xW (ptsB b) (hasA d0) (hasA d)), d, ds, lo)) : xq (d0, ds ++ [(b, cells)], lo) kr := by
 unfold xq
 refine ⟨fun z => ?_, fun _ => ⟨(b, cells), by simp, ?_⟩⟩
 ·simp at z; omega
 ·simp only [lt, List.dropLast_concat]
  exact Vr (s := (d0, ds, lo)) hb nd ns hl fun d h1 h2 => hk d h1 h2
theorem Wu {r : List C2} {kr : List C2 → Prop} (hr : 4 * r.length < 4096) (hk : kr (ptsL r)) : yJ r kr := by
 unfold yJ
 simp only [lt]
 refine jZ (fun p s => s = p.flatMap corn) rfl ?_ ?_
 ·rintro p a q s kk e rfl hkk
  have lp : p.length ≤ r.length := by rw [e]; simp
  have lf : (p.flatMap corn).length ≤ 4 * p.length := by
   clear e lp hkk
   induction p with
   | nil => exact Nat.le_refl _
   | cons c r ih =>
     rw [List.flatMap_cons, List.length_append, List.length_cons]
     show 4 + _ ≤ _
     omega
  refine ⟨?_, hkk _ ?_⟩
  ·rw [sz]
   show _ + 4 ≤ _
   omega
  ·rw [List.flatMap_append]
   simp [corn]
 ·rintro s rfl
  have lf : ∀ p : List C2, (p.flatMap corn).length ≤ 4 * p.length := fun p => by
   induction p with
   | nil => exact Nat.le_refl _
   | cons c r ih =>
     rw [List.flatMap_cons, List.length_append, List.length_cons]
     show 4 + _ ≤ _
     omega
  refine ⟨by have := lf r; omega, hk⟩
abbrev ptsT (a b : Sd) : List C2 := srt tl2 (BX.dd (ptsL (a.map (·.1)) ++ ptsL (b.map (·.1))))
theorem Zw {a b : Sd} {kr : List Row → Prop} (ha : a.length ≤ 511) (hb : b.length ≤ 511) (hk : kr (xW (ptsT a b) (hasA a) (hasA b))) : qQ a b kr := by
 unfold qQ
 simp only [lt]
 have la := qbV (a.map (·.1))
 have lb := qbV (b.map (·.1))
 rw [List.length_map] at la lb
 have lt' : (ptsT a b).length ≤ 4088 := by
  rw [(WP _).length_eq]
  refine Nat.le_trans (BX.qcM _) ?_
  rw [List.length_append]; omega
 refine Wu (by rw [List.length_map]; omega) (Wu (by rw [List.length_map]; omega) ⟨by rw [sz]; exact Nat.le_trans (Nat.add_le_add la lb) (by omega), by rw [List.length_append]; exact Nat.lt_of_le_of_lt (Nat.add_le_add la lb) (by omega), by rw [sz]; exact Nat.le_trans lt' (by omega), ?_⟩)
 refine Xa (fun p => (p, jW (hasA a) p, jW (hasA b) p)) (fun p _ w hw => Yp (Yp hw)) ⟨by rw [sz, List.length_map]; exact Nat.le_trans lt' (by omega), ?_, ?_⟩
 ·intro r hr
  obtain ⟨p, _, rfl⟩ := List.mem_map.mp hr
  exact ⟨⟨vK, vK⟩, trivial⟩
 ·rw [Vy]; exact hk
theorem qeS {P P' : List C2} {h h' : C2 → Bool} (hP : P.Pairwise ltC) (hP' : P'.Pairwise ltC) (he : ∀ p, jW h p ≠ jW h' p → (p ∈ P ↔ p ∈ P')) : xW P h h' = xW P' h h' := by
 unfold xW
 congr 1
 refine qd5 (hP.sublist List.filter_sublist) (hP'.sublist List.filter_sublist) fun p => ?_
 rw [List.mem_filter, List.mem_filter]
 by_cases g : jW h p = jW h' p
 ·simp [g]
 ·have := he p g
  simp [g, this]
theorem qdt {a b : Sd} {h h' : C2 → Bool} {x y w t : Int} (ha : ∀ c, hasA a c = h c) (hb : ∀ c, hasA b c = h' c) (hg : ∀ c, h c ≠ h' c → c ∈ uE x y w t) : xW (uE x y (w + 1) (t + 1)) h h' = xW (ptsT a b) h h' := by
 refine qeS (Ji ..) (qbE _ (BX.W6 _)) fun p hp => ?_
 have inT : ∀ c, (h c = true ∨ h' c = true) → p ∈ corn c → p ∈ ptsT a b := fun c hc hpc => by
  unfold ptsT
  rw [YK, BX.ZP, List.mem_append, qcg, qcg]
  rcases hc with hc | hc
  ·exact .inl ⟨c, yW.mp (by rw [ha]; exact hc), hpc⟩
  ·exact .inr ⟨c, yW.mp (by rw [hb]; exact hc), hpc⟩
 have c1 : p ∈ corn (p.1 - 1, p.2 - 1) := by simp [corn]
 have c2 : p ∈ corn (p.1, p.2 - 1) := by simp [corn]
 have c3 : p ∈ corn (p.1, p.2) := by simp [corn]
 have c4 : p ∈ corn (p.1 - 1, p.2) := by simp [corn]
 constructor
 ·intro _
  by_cases g1 : h (p.1 - 1, p.2 - 1) = true ∨ h' (p.1 - 1, p.2 - 1) = true
  ·exact inT _ g1 c1
  by_cases g2 : h (p.1, p.2 - 1) = true ∨ h' (p.1, p.2 - 1) = true
  ·exact inT _ g2 c2
  by_cases g3 : h (p.1, p.2) = true ∨ h' (p.1, p.2) = true
  ·exact inT _ g3 c3
  by_cases g4 : h (p.1 - 1, p.2) = true ∨ h' (p.1 - 1, p.2) = true
  ·exact inT _ g4 c4
  refine absurd ?_ hp
  simp only [not_or, Bool.not_eq_true] at g1 g2 g3 g4
  unfold jW
  rw [g1.1, g1.2, g2.1, g2.2, g3.1, g3.2, g4.1, g4.2]
 ·intro _
  rw [xP]
  by_cases g1 : h (p.1 - 1, p.2 - 1) = h' (p.1 - 1, p.2 - 1)
  ·by_cases g2 : h (p.1, p.2 - 1) = h' (p.1, p.2 - 1)
   ·by_cases g3 : h (p.1, p.2) = h' (p.1, p.2)
    ·by_cases g4 : h (p.1 - 1, p.2) = h' (p.1 - 1, p.2)
     ·refine absurd ?_ hp
      unfold jW
      rw [g1, g2, g3, g4]
     ·have := xP.mp (hg _ g4); dsimp only at this; omega
    ·have := xP.mp (hg _ g3); dsimp only at this; omega
   ·have := xP.mp (hg _ g2); dsimp only at this; omega
  ·have := xP.mp (hg _ g1); dsimp only at this; omega
abbrev AddS : Str := Str.ofString "add"
abbrev CutS : Str := Str.ofString "cut"
theorem add_ok : PyData.strOk AddS = true := by decide +kernel
theorem qhq : PyData.strOk CutS = true := by decide +kernel
abbrev Deed := Str × B4
def qc8 (c : C2) : Prop := ((0 ≤ c.1 ∧ c.1 < 12) ∧ 0 ≤ c.2 ∧ c.2 < 12) ∨ ((29 ≤ c.1 ∧ c.1 < 41) ∧ 0 ≤ c.2 ∧ c.2 < 2) ∨ ((0 ≤ c.1 ∧ c.1 < 2) ∧ 29 ≤ c.2 ∧ c.2 < 41)
def regL : List C2 := uE 0 0 12 12 ++ (uE 29 0 12 2 ++ uE 0 29 2 12)
theorem qeW {c : C2} (h : qc8 c) : c ∈ regL := by
 unfold regL
 rw [List.mem_append, List.mem_append, xP, xP, xP]
 rcases h with h | h | h
 ·exact .inl (by omega)
 ·exact .inr (.inl (by omega))
 ·exact .inr (.inr (by omega))
theorem qeX : regL.length = 192 := by decide +kernel
def Reg (b : B4) : Prop := (b.1 + b.2.2.1 ≤ 12 ∧ b.2.1 + b.2.2.2 ≤ 12) ∨ (29 ≤ b.1 ∧ b.1 + b.2.2.1 ≤ 41 ∧ b.2.1 + b.2.2.2 ≤ 2) ∨ (b.1 + b.2.2.1 ≤ 2 ∧ 29 ≤ b.2.1 ∧ b.2.1 + b.2.2.2 ≤ 41)
def Wv (d : Deed) : Prop := (d.1 = AddS ∨ d.1 = CutS) ∧ BoxS d.2 ∧ Reg d.2
theorem Wv.str {d : Deed} (h : Wv d) : PyData.strOk d.1 = true := by
 rcases h.1 with e | e <;> rw [e]
 ·exact add_ok
 ·exact qhq
def qaY (h : C2 → Bool) (d : Deed) (c : C2) : Bool := if d.1 = AddS then h c || memB c (celB d.2) else h c && !memB c (celB d.2)
def SdOk (a : Sd) : Prop := (a.map (·.1)).Nodup ∧ ∀ c, hasA a c = true → qc8 c
theorem Vw : SdOk [] := ⟨List.nodup_nil, fun c h => by simp [hasA] at h⟩
theorem SdOk.len {a : Sd} (h : SdOk a) : a.length ≤ 192 := by
 have := qek (S := regL) h.1 fun c hc => qeW (h.2 c (yW.mpr hc))
 rwa [List.length_map, qeX] at this
theorem qgC {b : B4} (hb : BoxS b) (hr : Reg b) {c : C2} (h : c ∈ celB b) : qc8 c := by
 have := xP.mp h
 obtain ⟨h1, h2, _⟩ := hb
 unfold qc8
 rcases hr with hr | hr | hr
 ·exact .inl (by omega)
 ·exact .inr (.inl (by omega))
 ·exact .inr (.inr (by omega))
theorem Vh {b : B4} {kr : List C2 → Prop} (hb : BoxS b) (hk : kr (celB b)) : xj b kr := by
 obtain ⟨_, _, h1, h2⟩ := hb
 exact qcW (by omega) (by omega) (by omega) (by omega) hk
theorem qhk {a : Sd} {d : Deed} {kr : Sd → Prop} (ha : SdOk a) (hd : Wv d) (hk : ∀ m : Sd, SdOk m → (∀ c, hasA m c = qaY (hasA a) d c) → kr m) : xm a d kr := by
 unfold xm
 simp only [lt]
 have la := ha.len
 obtain ⟨a1, a3⟩ := ha
 refine ⟨fun p hp => ?_, Vh hd.2.1 ?_⟩
 ·have := a3 p.1 (yW.mpr (List.mem_map_of_mem hp))
  unfold qc8 at this
  omega
 have l36 := W8 hd.2.1
 refine jZ (fun p m => (m.map (·.1)).Nodup ∧ m.length ≤ a.length + p.length ∧ ∀ c, hasA m c = if d.1 = AddS then hasA a c || memB c p else hasA a c && !memB c p) ⟨a1, by simp, fun c => ?_⟩ ?_ ?_
 ·rw [show memB c [] = false from Y7.mpr (by simp)]
  split <;> simp
 ·rintro p c q m kk e ⟨h1, h2, h3⟩ hkk
  have lp : p.length < (celB d.2).length := by rw [e]; simp
  have dl := qcI (k := c) (l := m)
  refine ⟨⟨hd.str, add_ok⟩, fun g => ⟨by rw [sz]; omega, hkk _ ⟨qd9 (qcH h1), ?_, fun x => ?_⟩⟩, fun g => hkk _ ⟨qcH h1, ?_, fun x => ?_⟩⟩
  ·have := Ux (k := c) (v := true) (m := delA c m)
   rw [List.length_append]
   show (putA c true (delA c m)).length ≤ a.length + (p.length + 1)
   omega
  ·have g := of_decide_eq_true g
   rw [qbQ, UG, h3, uU, if_pos g, if_pos g]
   by_cases z : x = c <;> simp [z]
  ·rw [List.length_append]; omega
  ·have g := of_decide_eq_false g
   rw [UG, h3, uU, if_neg g, if_neg g]
   by_cases z : x = c <;> simp [z]
 ·rintro m ⟨h1, h2, h3⟩
  refine hk m ⟨h1, fun c hc => ?_⟩ fun c => by rw [h3]; rfl
  rw [h3] at hc
  split at hc
  ·rw [Bool.or_eq_true] at hc
   rcases hc with hc | hc
   ·exact a3 c hc
   ·exact qgC hd.2.1 hd.2.2 (je.mp hc)
  ·rw [Bool.and_eq_true] at hc
   exact a3 c hc.1
def SdEq (a b : Sd) : Prop := (a.map (·.1)).Nodup ∧ (b.map (·.1)).Nodup ∧ ∀ c, hasA a c = hasA b c
theorem SdEq.perm {a b : Sd} (h : SdEq a b) : (a.map (·.1)).Perm (b.map (·.1)) := (List.perm_ext_iff_of_nodup h.1 h.2.1).mpr fun c => by rw [← yW, ← yW, h.2.2]
theorem SdEq.len {a b : Sd} (h : SdEq a b) : a.length = b.length := by
 have := h.perm.length_eq
 rwa [List.length_map, List.length_map] at this
theorem SdEq.srt {a b : Sd} (h : SdEq a b) : srt tl2 (a.map (·.1)) = srt tl2 (b.map (·.1)) :=
 qd5 (qbE _ h.1) (qbE _ h.2.1) fun c => by rw [YK, YK, ← yW, ← yW, h.2.2]
theorem SdEq.fn {a b : Sd} (h : SdEq a b) : hasA a = hasA b := funext h.2.2
def QT (h : C2 → Bool) (d : Deed) : List C2 := if d.1 = AddS then addC h d.2 else cutC h d.2
theorem qdj {h : C2 → Bool} {d : Deed} : (QT h d).Nodup := by
 unfold QT; split
 ·exact qc6
 ·exact qcS
theorem qbA {h : C2 → Bool} {d : Deed} : (QT h d).length ≤ (celB d.2).length := by
 unfold QT; split
 ·exact qaw
 ·exact qao
theorem qdk {h : C2 → Bool} {d : Deed} {c : C2} (hc : c ∈ QT h d) : c ∈ celB d.2 := by
 unfold QT at hc; split at hc
 ·exact (List.mem_filter.mp hc).1
 ·exact (List.mem_filter.mp hc).1
theorem YG {h : C2 → Bool} {d : Deed} {c : C2} : (h c ^^ memB c (QT h d)) = qaY h d c := by
 unfold QT qaY; split
 ·exact qfW
 ·exact qfM
theorem do_w {s : Sd × Dds × Int} {d : Deed} {kr : List Row × (Sd × Dds × Int) → Prop} (hd : Wv d) (ns : (s.1.map (·.1)).Nodup) (hl : s.1.length ≤ 90000) (hds : s.2.1.length ≤ 100000) (hk : ∀ e : Sd, (e.map (·.1)).Nodup → (∀ c, hasA e c = qaY (hasA s.1) d c) → kr (xW (ptsB d.2) (hasA s.1) (hasA e), e, s.2.1 ++ [(d.2, QT (hasA s.1) d)], (d.2.2.2.1 + 1) * (d.2.2.2.2 + 1))) : jG s d kr := by
 unfold jG
 refine ⟨⟨hd.str, add_ok⟩, fun g => ?_, fun g => ?_⟩
 ·have g := of_decide_eq_true g
  refine qjd hd.2.1 ns hl hds fun e h1 h2 => ?_
  have := hk e h1 fun c => by rw [h2, ← YG, QT, if_pos g]
  rw [QT, if_pos g] at this
  exact this
 ·have g := of_decide_eq_false g
  refine qi7 hd.2.1 ns hl hds fun e h1 h2 => ?_
  have := hk e h1 fun c => by rw [h2, ← YG, QT, if_neg g]
  rw [QT, if_neg g] at this
  exact this
theorem X3 {a m : Sd} {h h' : C2 → Bool} {b : B4} (ha : ∀ c, hasA a c = h c) (hm : ∀ c, hasA m c = h' c) (hx : ∀ c, h c ≠ h' c → c ∈ celB b) : xW (ptsB b) h h' = xW (ptsT a m) h h' := qdt ha hm hx
theorem qfB {h : C2 → Bool} {d : Deed} {c : C2} (hc : h c ≠ qaY h d c) : c ∈ celB d.2 := by
 rw [← je]
 unfold qaY at hc
 revert hc
 cases memB c (celB d.2) <;> split <;> cases h c <;> simp
theorem qcG {l : List PyData} {n : Nat} (h : ∀ x ∈ l, x.canLay0 = true ∧ x.depth ≤ n) : PyData.canLayAll0 l = true ∧ PyData.depthAll l ≤ n := by
 induction l with
 | nil => simp [PyData.canLayAll0, PyData.depthAll]
 | cons x l ih =>
   have hx := h x (List.mem_cons_self ..)
   have := ih fun y hy => h y (List.mem_cons_of_mem _ hy)
   simp only [PyData.canLayAll0, PyData.depthAll, Bool.and_eq_true]
   exact ⟨⟨hx.1, this.1⟩, by omega⟩
theorem qeZ {l : List D} : pyL l = l.map D.py := by
 induction l with
 | nil => rfl
 | cons a l ih => rw [pyL, ih]; rfl
theorem qdN {l : List Deed} (h : ∀ d ∈ l, PyData.strOk d.1 = true) : eqOk (eL (eT2 D.str (eT4 D.int D.int D.int D.int)) l) = true := by
 have := qcG (l := (l.map (eT2 D.str (eT4 D.int D.int D.int D.int))).map D.py) (n := 5) fun x hx => by
  obtain ⟨y, hy, rfl⟩ := List.mem_map.mp hx
  obtain ⟨d, hd, rfl⟩ := List.mem_map.mp hy
  simp [eT2, eT4, D.py, pyL, PyData.canLay0, PyData.canLayAll0, PyData.depth, PyData.depthAll, h d hd]
 unfold eqOk SeqAt.shaped
 simp only [eL, D.py, qeZ, PyData.canLay0, PyData.depth, this.1, Bool.true_and, decide_eq_true_eq]
 omega
def BoxL (b : B4) : Prop := BoxS b ∧ Reg b
theorem qi9 {t : Int × Int} {kr : B4 × (Int × Int) → Prop} (ht : TpOk t) (hk : ∀ b t', BoxL b → TpOk t' → kr (b, t')) : jB t kr := by
 unfold jB
 simp only [lt]
 refine uF ht (by decide) (by decide) fun z t1 z0 z1 ht1 => ?_
 have hz : z = 0 ∨ z = 1 ∨ z = 2 ∨ z = 3 := by omega
 have rest : ∀ m : Int, 5 ≤ m → m ≤ 12 → qI t1 m fun t4 => qI t4.2 m fun t5 => qI t5.2 (min 6 (12 - t4.1)) fun t6 => qI t6.2 (min 6 (12 - t5.1)) fun t7 => qI t7.2 16 fun t8 =>
  ifP (decide (t8.1 = 0)) ((0 < (2 - (t5.1 % 2))) ∧ qI t8.2 2 fun t10 => exW (atI [((t4.1 + 29), (t5.1 % 2), (1 + t6.1), (1 + ((1 + t7.1) % (2 - (t5.1 % 2))))), ((t5.1 % 2), (t4.1 + 29), (1 + ((1 + t7.1) % (2 - (t5.1 % 2)))), (1 + t6.1))] t10.1) fun x11 => kr (x11, t10.2)) <|
  kr ((t4.1, t5.1, (1 + t6.1), (1 + t7.1)), t8.2) := by
  intro m m0 m1
  refine uF ht1 (by omega) (by omega) fun x t4 x0 x1 h4 => uF h4 (by omega) (by omega) fun y t5 y0 y1 h5 => uF h5 (by omega) (by omega) fun u t6 u0 u1 h6 => uF h6 (by omega) (by omega) fun v t7 v0 v1 h7 => uF h7 (by decide) (by decide) fun g t8 g0 g1 h8 => ?_
  dsimp only
  refine ⟨fun _ => ⟨by omega, uF h8 (by decide) (by decide) fun q t10 q0 q1 h10 => ?_⟩, fun _ => hk _ _ ⟨⟨?_, ?_, ?_, ?_⟩, .inl ?_⟩ h8⟩
  ·have hq : q = 0 ∨ q = 1 := by omega
   have hy : y % 2 = 0 ∨ y % 2 = 1 := by omega
   have hm : (1 + v) % (2 - y % 2) ≤ 1 - y % 2 ∧ 0 ≤ (1 + v) % (2 - y % 2) := by
    rcases hy with e | e <;> rw [e] <;> omega
   generalize (1 + v) % (2 - y % 2) = w at hm ⊢
   generalize y % 2 = f at hy hm ⊢
   rcases hq with rfl | rfl
   ·refine ⟨_, rfl, hk _ _ ⟨⟨?_, ?_, ?_, ?_⟩, .inr (.inl ?_)⟩ h10⟩ <;> dsimp only <;> omega
   ·refine ⟨_, rfl, hk _ _ ⟨⟨?_, ?_, ?_, ?_⟩, .inr (.inr ?_)⟩ h10⟩ <;> dsimp only <;> omega
  all_goals (dsimp only; omega)
 rcases hz with rfl | rfl | rfl | rfl
 ·exact ⟨5, rfl, rest 5 (by decide) (by decide)⟩
 ·exact ⟨8, rfl, rest 8 (by decide) (by decide)⟩
 ·exact ⟨8, rfl, rest 8 (by decide) (by decide)⟩
 ·exact ⟨12, rfl, rest 12 (by decide) (by decide)⟩
theorem qhF {α : Type} {l : List α} {i : Int} (h1 : 0 ≤ i) (h2 : i < l.length) : ∃ a, atI l i = some a ∧ a ∈ l := by
 have hi : i.toNat < l.length := by omega
 have := atI_nat (xs := l) (j := i.toNat) (List.getElem?_eq_getElem hi)
 rw [Int.toNat_of_nonneg h1] at this
 exact ⟨_, this, List.getElem_mem hi⟩
theorem qfE {t : Int × Int} {many : Int} {kr : List Deed × (Int × Int) → Prop} (ht : TpOk t) (h0 : 0 ≤ many) (h1 : many ≤ 1000) (hk : ∀ l t', (l.length : Int) = many → (∀ d ∈ l, Wv d) → TpOk t' → kr (l, t')) : zN t many kr := by
 unfold zN
 simp only [lt]
 refine ⟨Yl (by omega) (by omega) (by omega) (by omega), jZ (fun p s => TpOk s.1 ∧ s.2.length = p.length ∧ ∀ d ∈ s.2, Wv d) ⟨ht, rfl, fun d hd => by simp at hd⟩ ?_ ?_⟩
 ·rintro p a q ⟨u, fd⟩ kk e ⟨hu, hs, hf⟩ hkk
  dsimp only at hu hs hf ⊢
  have lp : p.length < (rng 0 many).length := by rw [e]; simp
  rw [jO] at lp
  refine qi9 hu fun b t6 hb h6 => ⟨⟨qdN fun d hd => (hf d hd).str, trivial⟩, ?_⟩
  have last : ∀ (t : Int × Int) (b : B4), TpOk t → BoxL b → qI t 3 fun t16 =>
   exW (atI [AddS, AddS, CutS] t16.1) fun x17 => (fd.length < sizeLine) ∧ kk (t16.2, fd ++ [(x17, b)]) := by
   intro t b ht hb
   refine uF ht (by decide) (by decide) fun z t7 z0 z1 h7 => ?_
   have fin : ∀ x : Str, (x = AddS ∨ x = CutS) → (fd.length < sizeLine) ∧ kk (t7, fd ++ [(x, b)]) := fun x hx => ⟨by rw [sz]; omega, hkk _ ⟨h7, by simp [hs], fun d hd => by
    rcases List.mem_append.mp hd with hd | hd
    ·exact hf d hd
    ·rw [List.mem_singleton.mp hd]; exact ⟨hx, hb⟩⟩⟩
   have hz : z = 0 ∨ z = 1 ∨ z = 2 := by omega
   rcases hz with rfl | rfl | rfl
   ·exact ⟨_, rfl, fin _ (.inl rfl)⟩
   ·exact ⟨_, rfl, fin _ (.inl rfl)⟩
   ·exact ⟨_, rfl, fin _ (.inr rfl)⟩
  have mid : ∀ (v : Bool) (t : Int × Int), TpOk t → (v = true → fd ≠ []) → ifW v (fun kk12 => qI t (fd.length : Int) fun t13 =>
   exW (atI fd t13.1) fun x14 => kk12 (t13.2, x14.2)) (fun kk12 => kk12 (t, b)) fun (s11 : ((Int × Int) × B4)) =>
   qI s11.1 3 fun t16 => exW (atI [AddS, AddS, CutS] t16.1) fun x17 => (fd.length < sizeLine) ∧ kk (t16.2, fd ++ [(x17, s11.2)]) := by
   intro v t ht hv
   refine ⟨fun hb' => ?_, fun _ => last t b ht hb⟩
   have ne := hv hb'
   have : 0 < fd.length := List.length_pos_iff.mpr ne
   refine uF ht (by omega) (by omega) fun z t13 z0 z1 h13 => ?_
   obtain ⟨x, hx, hin⟩ := qhF z0 z1
   exact ⟨x, hx, last t13 x.2 h13 (hf x hin).2⟩
  refine ⟨fun g => uF h6 (by decide) (by decide) fun z t9 _ _ h9 => mid _ _ h9 fun _ e => by rw [e] at g; simp at g, fun _ => mid false t6 h6 fun z => by cases z⟩
 ·rintro ⟨u, fd⟩ ⟨hu, hs, hf⟩
  refine hk fd u ?_ hf hu
  dsimp only at hs
  rw [hs, jO]; omega
theorem qd6 {n : Nat} {s : Str} (h : PyData.strOk s = true) : xX (n + 1) (.str s) := qbB h
theorem qiA {α β γ : Type} {f : α → D} {g : β → D} {h : γ → D} {n : Nat} {p : α × β × γ} (h1 : xX n (f p.1)) (h2 : xX n (g p.2.1)) (h3 : xX n (h p.2.2)) : xX (n + 1) (eT3 f g h p) := ⟨by simp, fun x hx => by
 simp at hx; rcases hx with rfl | rfl | rfl <;> assumption⟩
theorem Vz (P : List C2) (h h' : C2 → Bool) : (xW P h h').length ≤ P.length := by
 unfold xW
 rw [List.length_map]; exact List.length_filter_le ..
theorem qeN {P : List C2} {h h' : C2 → Bool} (hl : P.length ≤ 1000000) : xX 4 (eL (eT3 (eT2 D.int D.int) D.str D.str) (xW P h h')) :=
 so_L (Nat.le_trans (Vz ..) hl) fun r hr => by
  obtain ⟨p, _, rfl⟩ := List.mem_map.mp hr
  exact qiA (qiB qd7 qd7) (qd6 vK) (qd6 vK)
end BC
namespace BX
open PySem PySem.Spec PyProof.Rows L2
def dRo (i : Nat) (t : XE) : XE := fun env Q => match env[i]? with
 | some (some (d, m)) => m.rd = false ∧ t (env.set i (some (d, .ro))) fun r e => match r with
   | .tmp x => Q (.tmp x) (e.set i (some (d, m)))
   | _ => False
 | _ => False
section
variable {K : PySem.W.Frag} {σ : L2.St} {H H2 : Hp} {env e2 : En} {f f2 : FA} {i : Nat} {d : D} {m : Md} {gs : List Addr}
theorem qiE (A : Abs K σ H env f) (e : env[i]? = some (some (d, m))) (hm : m.rd = false) : Abs K σ H (env.set i (some (d, .ro))) f := by
 have hi : i < env.length := (List.getElem?_eq_some_iff.mp e).1
 have get : ∀ {j : Nat} {p : D × Md}, (env.set i (some (d, .ro)))[j]? = some (some p) → (j = i ∧ p = (d, .ro)) ∨ (j ≠ i ∧ env[j]? = some (some p)) := fun {j p} h => by
  by_cases hj : j = i
  ·subst hj
   rw [wL hi] at h; cases h; exact .inl ⟨rfl, rfl⟩
  ·rw [qL hj] at h; exact .inr ⟨hj, h⟩
 refine ⟨fun j dj mj h => ?_, fun j k dj mj dk mk hn h1 h2 hl b hb => ?_, by rw [List.length_set]; exact A.len⟩
 ·rcases get h with ⟨rfl, z⟩ | ⟨_, z⟩
  ·cases z
   obtain ⟨v, hv, rp⟩ := A.rep _ _ _ e
   exact ⟨v, hv, rp.up (by rw [Md.lv_of hm]; exact Nat.zero_le _)⟩
  ·exact A.rep _ _ _ z
 ·rcases get h1 with ⟨rfl, z1⟩ | ⟨_, z1⟩
  ·cases z1; cases hl
  ·rcases get h2 with ⟨rfl, z2⟩ | ⟨_, z2⟩
   ·exact A.dis _ _ _ _ _ _ hn z1 e hl b hb
   ·exact A.dis _ _ _ _ _ _ hn z1 z2 hl b hb
theorem qgx (A : Abs K σ H env f) (e : env[i]? = some (some (d, m))) (hm : m.rd = false) (A2 : Abs K σ H2 e2 f2) (S2 : Stp H (env.set i (some (d, .ro))) f [] H2 e2 f2 gs) (K2 : Kp (env.set i (some (d, .ro))) f e2 f2) :
 Abs K σ H2 (e2.set i (some (d, m))) f2 ∧ Stp H env f [] H2 (e2.set i (some (d, m))) f2 gs ∧ Kp env f (e2.set i (some (d, m))) f2 ∧
  ∀ x v, ResOk K σ H2 e2 f2 (.tmp x) v gs → ResOk K σ H2 (e2.set i (some (d, m))) f2 (.tmp x) v gs := by
 have hl : m.lv = 0 := Md.lv_of hm
 have hi : i < env.length := (List.getElem?_eq_some_iff.mp e).1
 have l2 : e2.length = env.length := by rw [A2.len, A.len]
 have mode : ∀ j, (e2[j]?).map (Option.map Prod.snd) = ((env.set i (some (d, .ro)))[j]?).map (Option.map Prod.snd) := fun j => by
  rw [← List.getElem?_map, ← List.getElem?_map, K2.modes]
 obtain ⟨here, fi⟩ := K2.ros i d .ro (wL hi) rfl
 obtain ⟨v, hv, rp⟩ := A.rep i d m e
 have nW : ∀ b ∈ f i, ¬ W (env.set i (some (d, .ro))) f b := fun b hb => by
  rintro ⟨j, d0, m0, w1, w2, w3⟩
  by_cases hj : j = i
  ·subst hj
   rw [wL hi] at w1; cases w1; cases w2
  ·rw [qL hj] at w1
   exact A.dis i j _ _ _ _ (Ne.symm hj) e w1 hl b hb w3
 have notN : ∀ b ∈ f i, ¬ (W e2 f2 b ∨ b ∈ gs) := fun b hb z => by
  rcases S2.own b z with z | z | z
  ·exact nW b hb z
  ·simp at z
  ·obtain ⟨o, ho, _⟩ := rp.dom b hb
   rw [ho] at z; cases z
 have get : ∀ {j : Nat} {p : D × Md}, (e2.set i (some (d, m)))[j]? = some (some p) → (j = i ∧ p = (d, m)) ∨ (j ≠ i ∧ e2[j]? = some (some p)) := fun {j p} h => by
  by_cases hj : j = i
  ·subst hj
   rw [wL (by rw [l2]; exact hi)] at h; cases h; exact .inl ⟨rfl, rfl⟩
  ·rw [qL hj] at h; exact .inr ⟨hj, h⟩
 have apart : ∀ {j : Nat} {p : D × Md}, j ≠ i → e2[j]? = some (some p) → ∀ b ∈ f2 j, b ∉ f i := fun {j p} hj h b hb hc => by
  cases hrd : p.2.rd with
  | false => exact notN b hc (.inl ⟨j, p.1, p.2, h, hrd, hb⟩)
  | true =>
    have hmo := mode j
    rw [h, qL hj] at hmo
    cases h2 : env[j]? with
    | none => rw [h2] at hmo; cases hmo
    | some z =>
      rw [h2] at hmo
      cases z with
      | none => cases hmo
      | some z =>
        have hz : p.2 = z.2 := by injection hmo with hmo; injection hmo
        have := K2.ros j z.1 z.2 (by rw [qL hj]; exact h2) (by rw [← hz]; exact hrd)
        rw [this.2] at hb
        exact A.dis i j _ _ _ _ (Ne.symm hj) e h2 hl b hc hb
 have up : ∀ b, W (env.set i (some (d, .ro))) f b → W env f b := fun b ⟨j, d0, m0, w1, w2, w3⟩ => by
  by_cases hj : j = i
  ·subst hj
   rw [wL hi] at w1; cases w1; cases w2
  ·rw [qL hj] at w1
   exact ⟨j, d0, m0, w1, w2, w3⟩
 refine ⟨⟨fun j d0 m0 h => ?_, fun j k dj0 mj0 dk0 mk0 hn h1 h2 hlv b hb hc => ?_, by rw [List.length_set]; exact A2.len⟩, ⟨fun b o hb q => S2.same b o hb (q.imp id fun q => ⟨fun z => q.1 (up b z), q.2⟩), fun b hb => ?_⟩, ⟨?_, fun j d0 m0 h hrd => ?_⟩, fun x y h => ?_⟩
 ·rcases get h with ⟨rfl, z⟩ | ⟨_, z⟩
  ·cases z
   refine ⟨v, hv, ?_⟩
   rw [fi]
   exact rp.keep fun b o ho q => q.elim (fun q => S2.same b o ho (.inr ⟨nW b q, by simp⟩)) fun q => S2.same b o ho (.inl q)
  ·exact A2.rep j d0 m0 z
 ·rcases get h1 with ⟨rfl, z1⟩ | ⟨hj, z1⟩
  ·rcases get h2 with ⟨rfl, z2⟩ | ⟨hk, z2⟩
   ·exact hn rfl
   ·rw [fi] at hb
    exact apart hk z2 b hc hb
  ·rcases get h2 with ⟨rfl, z2⟩ | ⟨_, z2⟩
   ·rw [fi] at hc
    exact apart hj z1 b hb hc
   ·exact A2.dis j k _ _ _ _ hn z1 z2 hlv b hb hc
 ·rcases hb with ⟨j, d0, m0, w1, w2, w3⟩ | hb
  ·rcases get w1 with ⟨rfl, z1⟩ | ⟨_, z1⟩
   ·rw [fi] at w3
    exact .inl ⟨j, _, _, e, hm, w3⟩
   ·exact (S2.own b (.inl ⟨j, d0, m0, z1, w2, w3⟩)).imp (up b) id
  ·exact (S2.own b (.inr hb)).imp (up b) id
 ·refine List.ext_getElem? fun j => ?_
  rw [List.getElem?_map, List.getElem?_map]
  by_cases hj : j = i
  ·subst hj
   rw [wL (by rw [l2]; exact hi), e]
  ·rw [qL hj, mode j, qL hj]
 ·have hj : j ≠ i := fun z => by
   subst z
   rw [e] at h; cases h
   rw [hm] at hrd; cases hrd
  obtain ⟨k1, k2⟩ := K2.ros j d0 m0 (by rw [qL hj]; exact h) hrd
  exact ⟨by rw [qL hj]; exact k1, k2⟩
 ·cases h with
  | tmp r nn =>
    refine .tmp r fun b hb => ⟨?_, ?_⟩
    ·rintro ⟨j, d0, m0, w1, w2, w3⟩
     rcases get w1 with ⟨rfl, z1⟩ | ⟨_, z1⟩
     ·exact (nn b hb).2 ⟨j, _, _, here, by decide, w3⟩
     ·exact (nn b hb).1 ⟨j, d0, m0, z1, w2, w3⟩
    ·rintro ⟨j, d0, m0, w1, w2, w3⟩
     rcases get w1 with ⟨rfl, z1⟩ | ⟨_, z1⟩
     ·cases z1; exact w2 hl
     ·exact (nn b hb).2 ⟨j, d0, m0, z1, w2, w3⟩
end
theorem qcJ {X : Cx} {e : Expr} {i : Nat} {t : XE} (ha : DE X e t) : DE X e (dRo i t) := by
 refine ⟨PE.imp ha.run fun σ H Q q => ?_, fun env Q Q' h q => ?_⟩
 ·obtain ⟨env, f, A, q⟩ := q
  unfold dRo at q
  split at q
  ·rename_i d m he
   obtain ⟨hm, q⟩ := q
   refine ⟨_, f, qiE A he hm, ha.mono _ _ _ (fun r e1 q => ?_) q⟩
   intro v H1 f1 g A1 R1 S1 K1
   cases r with
   | tmp x =>
     obtain ⟨A2, S2, K2, R2⟩ := qgx A he hm A1 S1 K1
     exact q v H1 f1 g A2 (R2 x v R1) S2 K2
   | _ => exact q.elim
  ·exact q.elim
 ·unfold dRo at q ⊢
  split at q
  ·refine ⟨q.1, ha.mono _ _ _ (fun r e q => ?_) q.2⟩
   cases r with
   | tmp x => exact h _ _ q
   | _ => exact q.elim
  ·exact q.elim
end BX
namespace BX
open PySem PySem.Spec PyProof.Rows L2
def qfS : Bn := fun r1 rs e Q => match rs with
 | [] => chgL r1 e fun i xs m => match xs[xs.length - 1]? with
   | some d => Q (.tmp d) (e.set i (some (.lst xs.dropLast, m)))
   | none => False
 | _ => False
theorem CallD.down {X : Cx} {fn : Value} {L M : Nat} {op : OPn} (h : CallD X fn L op) (h0 : 0 < M := by decide) (hM : M ≤ L := by decide) : CallD X fn M op :=
 ⟨fun pins s σ H xs us Q I r q => h.run pins s σ H xs us Q I r (by obtain ⟨ds, g, rp, q⟩ := q; exact ⟨ds, g, rp.up hM, q⟩), h.mono, h0⟩
theorem X4 {K : PySem.W.Frag} {H : Hp} {d : D} : ∀ {ds : List D} {vs : List V} {fp : List Addr}, Reps K H 0 (ds ++ [d]) vs fp → ∃ ws v f1 g, vs = ws ++ [v] ∧ fp = f1 ++ g ∧ Reps K H 0 ds ws f1 ∧ Rep K H 0 d v g ∧ ∀ b ∈ g, b ∉ f1
 | [], vs, fp, r => by
   cases r with
   | @cons _ v f _ _ g r t n =>
     cases t
     exact ⟨[], v, [], f, rfl, by simp, .nil, r, fun b _ z => by simp at z⟩
 | d0 :: ds, vs, fp, r => by
   cases r with
   | @cons _ v f _ _ g r t n =>
     obtain ⟨ws, w, f1, g1, rfl, rfl, t1, r1, n1⟩ := X4 t
     refine ⟨v :: ws, w, f ++ f1, g1, rfl, by simp, .cons r t1 fun z b hb q => n z b hb (List.mem_append_left _ q), r1, fun b hb q => ?_⟩
     rcases List.mem_append.mp q with q | q
     ·exact n rfl b q (List.mem_append_right _ hb)
     ·exact n1 b hb q
section
variable {X : Cx}
theorem qg2 : MnOk X "list" D.isLst rPop qfS where
 ty := fun H d x g rp e => Vq H d x g (rp.up (by omega)) e
 mono := fun r1 rs e Q Q' h q => by
  cases rs with
  | nil => exact QM (fun i xs m q => by split at q <;> simp only [*] <;> first | exact h _ _ q | exact q.elim) q
  | cons _ _ => exact q.elim
 run := fun σ H e f r1 rs x ys g1 gs QQ Q A R1 R2 n q k => by
  cases rs with
  | cons _ _ => exact q.elim
  | nil =>
    cases R2
    obtain ⟨i, xs, m, a, ws, fp, rfl, e, hm, hl, hv, hH, rr, hf, nfp, rfl, q⟩ := Xn A R1 q
    split at q
    ·rename_i d hd
     have ne : xs ≠ [] := fun z => by subst z; cases hd
     have ed : xs.getLast ne = d := by
      rw [← List.getLast?_eq_getElem?, List.getLast?_eq_some_getLast ne] at hd
      exact Option.some.inj hd
     have ex : xs = xs.dropLast ++ [d] := by rw [← ed, List.dropLast_concat_getLast]
     rw [ex] at rr
     obtain ⟨ws', y, f1, g, rfl, rfl, t1, r1, n1⟩ := X4 rr
     have na : a ∉ g := fun z => nfp (List.mem_append_right _ z)
     obtain ⟨A3, S3, K3, G3⟩ := ZG (G := []) (G' := g) A e hm hl hv hH hf nfp t1 (fun b hb => .inl (List.mem_append_left _ hb)) (fun b hb => by simp at hb) (fun b hb => ⟨.inl (List.mem_append_right _ hb), n1 b hb⟩)
     have ry' : Rep X.K (upd H a (.lst ws')) 0 d y g := r1.keep fun b o hb q => by
      have : b ≠ a := fun z => by
       subst z
       rcases q with q | q
       ·exact na q
       ·rw [hH] at hb; cases hb; cases q
      rw [upd_ne this]; exact hb
     refine ⟨a, ws' ++ [y], y, rfl, rfl, hH, by simp, ?_⟩
     rw [List.dropLast_concat]
     exact k _ _ _ _ _ g A3 (.tmp ry' G3) S3 K3 q
    ·exact q.elim
end
end BX
namespace TX
open PySem PySem.Spec PyProof.Rows L2 BX
section
variable {e e' : En} {d x : D} {m : Md} {i : Nat} {Q : R → En → Prop} {t : XE}
abbrev roK (i : Nat) (d : D) (m : Md) (Q : R → En → Prop) : R → En → Prop := fun r e => match r with
 | .tmp x => Q (.tmp x) (e.set i (some (d, m)))
 | _ => False
theorem c_ro (h0 : e[i]? = some (some (d, m))) (hm : m.rd = false) (h1 : e.set i (some (d, .ro)) = e') (q : t e' (roK i d m Q)) : dRo i t e Q := by
 unfold dRo
 rw [h0]
 exact ⟨hm, by rw [h1]; exact q⟩
theorem o_ro (h1 : e.set i (some (d, m)) = e') (q : aR Q (.tmp x) e') : aR (roK i d m Q) (.tmp x) e := by
 show Q (.tmp x) (e.set i (some (d, m)))
 rw [h1]; exact q
end
end TX
namespace TX
open PySem PySem.Spec PyProof.Rows L2 BX
theorem qgU {e : En} {i : Nat} {Q : R → En → Prop} {α : Type} {f : α → D} {l : List α} {a : α} {m : Md} {P : List α → Prop} (ee : List α → En) (h : lt l.dropLast P) (ha : l.getLast? = some a) (h0 : e[i]? = some (some (eL f l, m))) (he : ∀ x, e.set i (some (eL f x, m)) = ee x) (q : ∀ x, P x → aR Q (.tmp (f a)) (ee x)) (hm : m = .own ∨ m = .io := by decide) : qfS (.sl i) [] e Q := by
 have q := q _ h
 rw [← he] at q
 unfold eL at h0 q
 rw [List.map_dropLast] at q
 have hl : (l.map f)[(l.map f).length - 1]? = some (f a) := by
  rw [List.length_map, List.getElem?_map, ← List.getLast?_eq_getElem?, ha]; rfl
 show chgL _ _ _
 unfold chgL chg
 rcases hm with rfl | rfl <;> (simp only [h0, hl]; exact q)
end TX
namespace BX
open PySem PySem.Spec PyProof.Rows L2
def movL : List R → En → List Nat → (List D → Prop) → Prop
 | [], _, _, k => k []
 | .sl i :: rs, env, mv, k => match env[i]? with
   | some (some (d, .own)) => i ∉ mv ∧ movL rs env (i :: mv) fun ds => k (d :: ds)
   | _ => False
 | .tmp d :: rs, env, mv, k => movL rs env mv fun ds => k (d :: ds)
 | .ro c d :: rs, env, mv, k => c = false ∧ d.imm = true ∧ movL rs env mv fun ds => k (d :: ds)
end BX
namespace BX
open PySem PySem.Spec PyProof.Rows L2 RT
end BX
namespace BX
open PySem PySem.Spec PyProof.Rows L2
end BX
namespace BX
open PySem PySem.Spec PyProof.Rows L2
end BX
namespace BX
open PySem PySem.Spec PyProof.Rows L2 RT
end BX
namespace BX
open PySem PySem.Spec PyProof.Rows L2
section
variable {X : Cx} {a b c : Expr} {u : XA} {x y z : Str} {i j l : Nat} {pos px py pz pt pt2 : Pos} {kt k2 : Nat}
theorem YM {e : En} {p : Option (D × Md)} (h : setOk e i = true) (n : i ≠ j) : setOk (e.set j p) i = true := by
 unfold setOk at h ⊢
 rw [qL n]
 exact h
end
end BX
namespace BX
open PySem PySem.Spec PyProof.Rows L2
end BX
namespace BX
open PySem PySem.Spec PyProof.Rows L2
end BX
namespace BX
open PySem PySem.Spec PyProof.Rows L2
end BX
namespace BX
open PySem PySem.Spec PyProof.Rows L2
section
variable {K : PySem.W.Frag} {H : Hp} {lv : Nat}
theorem qad {d : D} : ∀ {q : Nat} {ds : List D} {vs : List V} {F : List Addr}, Reps K H lv ds vs F → ds[q]? = some d →
 ∃ v F1 g F2, vs[q]? = some v ∧ Rep K H lv d v g ∧ F = F1 ++ (g ++ F2) ∧ (lv = 0 → ∀ b ∈ g, b ∉ F1 ∧ b ∉ F2) ∧
  ∀ H' d' g', Rep K H' lv d' v g' → (∀ b o, H b = some o → (b ∈ F1 ∨ b ∈ F2 ∨ Mu o = false) → H' b = some o) → (lv = 0 → ∀ b ∈ g', b ∉ F1 ∧ b ∉ F2) →
   Reps K H' lv (ds.set q d') vs (F1 ++ (g' ++ F2))
 | _, [], _, _, _, h => by simp at h
 | 0, d0 :: ds, _, _, .cons (f := f0) (v := v1) (g := g0) r t n, h => by
   have h : d0 = d := by simpa using h
   subst h
   refine ⟨v1, [], f0, g0, rfl, r, rfl, fun z b hb => ⟨by simp, n z b hb⟩, fun H' d' g' r' kk nn => ?_⟩
   exact Reps.cons (f := g') r' (t.keep fun b o hb q => kk b o hb (.inr q)) fun z b hb => (nn z b hb).2
 | q + 1, d0 :: ds, _, _, .cons (f := f0) (v := v1) (g := g0) r t n, h => by
   obtain ⟨v, F1, g, F2, a1, a2, a3, a4, a5⟩ := qad t (show ds[q]? = some d by simpa using h)
   subst a3
   refine ⟨v, f0 ++ F1, g, F2, by simpa using a1, a2, by rw [List.append_assoc], fun z b hb => ⟨fun q => ?_, (a4 z b hb).2⟩, fun H' d' g' r' kk nn => ?_⟩
   ·rcases List.mem_append.mp q with q | q
    ·exact n z b q (by simp [hb])
    ·exact (a4 z b hb).1 q
   ·rw [List.set_cons_succ, List.append_assoc]
    refine .cons (r.keep fun b o hb q => kk b o hb (q.imp (fun q => List.mem_append_left _ q) fun q => .inr q)) (a5 H' d' g' r' (fun b o hb q => kk b o hb (q.imp (fun q => List.mem_append_right _ q) id)) fun z b hb => ⟨fun q => (nn z b hb).1 (List.mem_append_right _ q), (nn z b hb).2⟩) fun z b hb q => ?_
    rcases List.mem_append.mp q with q | q
    ·exact n z b hb (by simp [q])
    ·rcases List.mem_append.mp q with q | q
     ·exact (nn z b q).1 (List.mem_append_left _ hb)
     ·exact n z b hb (by simp [q])
end
end BX
namespace BX
open PySem PySem.Spec PyProof.Rows L2
end BX
namespace BX
open PySem PySem.Spec PyProof.Rows L2
def vL (e' : En) (len i q : Nat) (ds : List D) (m : Md) (d' : D) : En := (e'.take len).set i (some (.lst (ds.set q d'), m))
section
variable {K : PySem.W.Frag} {σ : L2.St} {H H' : Hp} {env e' : En} {f f' : FA} {i j : Nat} {d dd : D} {m : Md} {v : V} {g G G' : List Addr}
theorem qd1 {q : Nat} {a : Addr} {ds : List D} {vs : List V} {F1 F2 : List Addr} {d' : D} (A : Abs K σ H env f) (e : env[i]? = some (some (.lst ds, m))) (hm : m.rd = false) (hv : σ[i]? = some (some (.ref a)))
 (ha : H a = some (.lst vs)) (hf : f i = a :: (F1 ++ (g ++ F2))) (na : a ∉ F1 ++ (g ++ F2))
 (dj : ∀ b ∈ g, b ∉ F1 ∧ b ∉ F2) (dom : ∀ b ∈ F1 ++ (g ++ F2), ∃ o, H b = some o)
 (re : ∀ H' d' g', Rep K H' 0 d' v g' → (∀ b o, H b = some o → (b ∈ F1 ∨ b ∈ F2 ∨ Mu o = false) → H' b = some o) → (∀ b ∈ g', b ∉ F1 ∧ b ∉ F2) → Reps K H' 0 (ds.set q d') vs (F1 ++ (g' ++ F2)))
 (hG : ∀ b ∈ G, ¬ L0 env f b) (A' : Abs K (σ ++ [some v]) H' e' f') (S' : Stp H (venv env i d) (fset f env.length g) G H' e' f' G') (K' : Kp (venv env i d) (fset f env.length g) e' f') (he : e'[env.length]? = some (some (d', .own))) :
 Abs K σ H' (vL e' env.length i q ds m d') (fset f' i (a :: (F1 ++ (f' env.length ++ F2)))) ∧ Stp H env f G H' (vL e' env.length i q ds m d') (fset f' i (a :: (F1 ++ (f' env.length ++ F2)))) G' ∧
  Kp env f (vL e' env.length i q ds m d') (fset f' i (a :: (F1 ++ (f' env.length ++ F2)))) ∧
  ∀ dd y, ResOk K (σ ++ [some v]) H' e' f' (.tmp dd) y G' → ResOk K σ H' (vL e' env.length i q ds m d') (fset f' i (a :: (F1 ++ (f' env.length ++ F2)))) (.tmp dd) y G' := by
 have hl : m.lv = 0 := Md.lv_of hm
 have hi : i < env.length := (List.getElem?_eq_some_iff.mp e).1
 have sub : ∀ b ∈ g, b ∈ f i := fun b hb => by rw [hf]; simp [hb]
 have elen : e'.length = env.length + 1 := by rw [A'.len, List.length_append, A.len]; rfl
 have mode : ∀ j, (e'[j]?).map (Option.map Prod.snd) = ((venv env i d)[j]?).map (Option.map Prod.snd) := fun j => by
  rw [← List.getElem?_map, ← List.getElem?_map, K'.modes]
 have gone : e'[i]? = some none := by
  have h := mode i
  rw [W9 hi] at h
  cases h2 : e'[i]? with
  | none => rw [h2] at h; cases h
  | some z => rw [h2] at h; cases z with
    | none => rfl
    | some z => cases h
 have oth : ∀ b, b = a ∨ b ∈ F1 ∨ b ∈ F2 → b ∈ f i ∧ b ∉ g := fun b hb => by
  rcases hb with rfl | hb | hb
  ·exact ⟨by rw [hf]; simp, fun z => na (by simp [z])⟩
  ·exact ⟨by rw [hf]; simp [hb], fun z => (dj b z).1 hb⟩
  ·exact ⟨by rw [hf]; simp [hb], fun z => (dj b z).2 hb⟩
 have nW : ∀ b, b = a ∨ b ∈ F1 ∨ b ∈ F2 → ¬ W (venv env i d) (fset f env.length g) b ∧ b ∉ G ∧ ∃ o, H b = some o := fun b hb => by
  obtain ⟨h1, h2⟩ := oth b hb
  refine ⟨?_, fun z => hG b z ⟨i, _, m, e, hl, h1⟩, ?_⟩
  ·rintro ⟨j, d0, m0, w1, w2, w3⟩
   rcases jw w1 with ⟨a1, a2, a3⟩ | ⟨rfl, a3⟩
   ·rw [qH (Nat.ne_of_lt a2)] at w3
    exact A.dis i j _ _ _ _ (Ne.symm a1) e a3 hl b h1 w3
   ·rw [qN] at w3; exact h2 w3
  ·rcases hb with rfl | hb | hb
   ·exact ⟨_, ha⟩
   ·exact dom b (by simp [hb])
   ·exact dom b (by simp [hb])
 have notN : ∀ b, b = a ∨ b ∈ F1 ∨ b ∈ F2 → ¬ (W e' f' b ∨ b ∈ G') := fun b hb z => by
  obtain ⟨h1, h2, o, h3⟩ := nW b hb
  rcases S'.own b z with z | z | z
  ·exact h1 z
  ·exact h2 z
  ·rw [h3] at z; cases z
 have wTop : ∀ b ∈ f' env.length, W e' f' b := fun b hb => ⟨_, _, _, he, rfl, hb⟩
 have notG : ∀ b ∈ f' env.length, ¬ (b = a ∨ b ∈ F1 ∨ b ∈ F2) := fun b hb z => notN b z (.inl (wTop b hb))
 have spl : ∀ b, b ∈ a :: (F1 ++ (f' env.length ++ F2)) → (b = a ∨ b ∈ F1 ∨ b ∈ F2) ∨ b ∈ f' env.length := fun b hb => by
  simp only [List.mem_cons, List.mem_append] at hb
  rcases hb with hb | hb | hb | hb
  ·exact .inl (.inl hb)
  ·exact .inl (.inr (.inl hb))
  ·exact .inr hb
  ·exact .inl (.inr (.inr hb))
 have old : ∀ {j : Nat} {p : D × Md}, j ≠ i → (vL e' env.length i q ds m d')[j]? = some (some p) → j < env.length ∧ e'[j]? = some (some p) := fun {j p} hj h => by
  unfold vL at h
  rw [qL hj] at h
  by_cases hlt : j < env.length
  ·rw [List.getElem?_take_of_lt hlt] at h
   exact ⟨hlt, h⟩
  ·rw [List.getElem?_take_eq_none (by omega)] at h; cases h
 have self : (vL e' env.length i q ds m d')[i]? = some (some (.lst (ds.set q d'), m)) := by
  unfold vL
  rw [wL (by rw [List.length_take, elen]; omega)]
 have slf : ∀ {p : D × Md}, (vL e' env.length i q ds m d')[i]? = some (some p) → p = (.lst (ds.set q d'), m) := fun {p} h => by
  rw [self] at h; cases h; rfl
 have apart : ∀ {j : Nat} {p : D × Md}, j ≠ i → j < env.length → e'[j]? = some (some p) → ∀ b ∈ f' j, ¬ (b ∈ a :: (F1 ++ (f' env.length ++ F2))) := fun {j p} hj hlt h b hb hc => by
  rcases spl b hc with hc | hc
  ·cases hrd : p.2.rd with
   | false => exact notN b hc (.inl ⟨j, p.1, p.2, h, hrd, hb⟩)
   | true =>
     have hmo := mode j
     rw [h, zW hj hlt] at hmo
     cases h2 : env[j]? with
     | none => rw [h2] at hmo; cases hmo
     | some z =>
       rw [h2] at hmo
       cases z with
       | none => cases hmo
       | some z =>
         have hz : p.2 = z.2 := by injection hmo with hmo; injection hmo
         have := K'.ros j z.1 z.2 (by rw [zW hj hlt]; exact h2) (by rw [← hz]; exact hrd)
         rw [this.2, qH (Nat.ne_of_lt hlt)] at hb
         exact A.dis i j _ _ _ _ (Ne.symm hj) e h2 hl b (oth b hc).1 hb
  ·exact A'.dis env.length j _ _ _ _ (Nat.ne_of_gt hlt) he h rfl b hc hb
 have l0 : ∀ b, L0 (vL e' env.length i q ds m d') (fset f' i (a :: (F1 ++ (f' env.length ++ F2)))) b → L0 e' f' b ∨ b = a ∨ b ∈ F1 ∨ b ∈ F2 := fun b hb => by
  obtain ⟨j, d0, m0, w1, w2, w3⟩ := hb
  by_cases hj : j = i
  ·subst hj
   rw [qN] at w3
   rcases spl b w3 with z | z
   ·exact .inr z
   ·exact .inl ⟨_, _, _, he, rfl, z⟩
  ·rw [qH hj] at w3
   exact .inl ⟨j, d0, m0, (old hj w1).2, w2, w3⟩
 refine ⟨⟨fun j d0 m0 h => ?_, fun j k dj0 mj0 dk0 mk0 hn h1 h2 hlv b hb hc => ?_, ?_⟩, ⟨fun b o hb q => ?_, fun b hb => ?_⟩, ⟨?_, fun j d0 m0 h hrd => ?_⟩, fun dd y r => ?_⟩
 ·by_cases hj : j = i
  ·subst hj
   cases slf h
   refine ⟨.ref a, hv, ?_⟩
   rw [qN, hl]
   have same : ∀ b, b = a ∨ b ∈ F1 ∨ b ∈ F2 → ∀ o, H b = some o → H' b = some o := fun b hb o ho => S'.same b o ho (.inr ⟨(nW b hb).1, (nW b hb).2.1⟩)
   obtain ⟨w, hw, rp⟩ := A'.rep _ _ _ he
   have : w = v := by
    rw [A.len, List.getElem?_append_right (Nat.le_refl _)] at hw
    simpa using hw.symm
   subst this
   refine (.lst (same a (.inl rfl) _ ha) (re H' d' _ rp (fun b o ho q => ?_) fun b hb => ⟨fun z => notG b hb (.inr (.inl z)), fun z => notG b hb (.inr (.inr z))⟩) fun _ z => ?_)
   ·rcases q with q | q | q
    ·exact same b (.inr (.inl q)) o ho
    ·exact same b (.inr (.inr q)) o ho
    ·exact S'.same b o ho (.inl q)
   ·rcases List.mem_append.mp z with z | z
    ·exact na (by simp [z])
    ·rcases List.mem_append.mp z with z | z
     ·exact notG a z (.inl rfl)
     ·exact na (by simp [z])
  ·obtain ⟨hlt, h'⟩ := old hj h
   obtain ⟨w, hw, rp⟩ := A'.rep _ _ _ h'
   rw [List.getElem?_append_left (by rw [← A.len]; exact hlt)] at hw
   exact ⟨w, hw, by rw [qH hj]; exact rp⟩
 ·by_cases hj : j = i
  ·subst hj
   have hkj : k ≠ j := Ne.symm hn
   obtain ⟨hlt, h2'⟩ := old hkj h2
   rw [qN] at hb
   rw [qH hkj] at hc
   exact apart hkj hlt h2' b hc hb
  ·obtain ⟨hlt, h1'⟩ := old hj h1
   rw [qH hj] at hb
   by_cases hki : k = i
   ·subst hki
    rw [qN] at hc
    exact apart hj hlt h1' b hb hc
   ·rw [qH hki] at hc
    exact A'.dis j k _ _ _ _ hn h1' (old hki h2).2 hlv b hb hc
 ·unfold vL
  rw [List.length_set, List.length_take, elen, A.len]; omega
 ·exact S'.same b o hb (q.imp id fun q => ⟨fun z => q.1 (v_w e hm sub z), q.2⟩)
 ·have : (W e' f' b ∨ b ∈ G') ∨ (b = a ∨ b ∈ F1 ∨ b ∈ F2) := by
   rcases hb with ⟨j, d0, m0, w1, w2, w3⟩ | hb
   ·by_cases hj : j = i
    ·subst hj
     rw [qN] at w3
     rcases spl b w3 with z | z
     ·exact .inr z
     ·exact .inl (.inl (wTop b z))
    ·rw [qH hj] at w3
     exact .inl (.inl ⟨j, d0, m0, (old hj w1).2, w2, w3⟩)
   ·exact .inl (.inr hb)
  rcases this with z | z
  ·exact (S'.own b z).imp (v_w e hm sub) id
  ·exact .inl ⟨i, _, m, e, hm, (oth b z).1⟩
 ·refine List.ext_getElem? fun j => ?_
  rw [List.getElem?_map, List.getElem?_map]
  by_cases hj : j = i
  ·subst hj
   rw [self, e]; rfl
  ·unfold vL
   rw [qL hj]
   by_cases hlt : j < env.length
   ·rw [List.getElem?_take_of_lt hlt, mode j, zW hj hlt]
   ·rw [List.getElem?_take_eq_none (by omega), List.getElem?_eq_none (by omega)]
 ·have hj : j ≠ i := fun z => by
   subst z
   rw [e] at h; cases h
   rw [hm] at hrd; cases hrd
  have hlt := (List.getElem?_eq_some_iff.mp h).1
  obtain ⟨k1, k2⟩ := K'.ros j d0 m0 (by rw [zW hj hlt]; exact h) hrd
  refine ⟨?_, by rw [qH hj, k2, qH (Nat.ne_of_lt hlt)]⟩
  unfold vL
  rw [qL hj, List.getElem?_take_of_lt hlt]; exact k1
 ·cases r with
  | tmp r nn =>
    refine .tmp r fun b hb => ⟨fun z => ?_, fun z => ?_⟩
    ·rcases l0 b z with z | z
     ·exact (nn b hb).1 z
     ·exact notN b z (.inr hb)
    ·obtain ⟨j, d0, m0, w1, w2, w3⟩ := z
     have hj : j ≠ i := fun z => by
      subst z
      cases slf w1
      exact w2 hl
     rw [qH hj] at w3
     exact (nn b hb).2 ⟨j, d0, m0, (old hj w1).2, w2, w3⟩
end
def elN (i k : Nat) (env : En) (kk : List D → Md → D → Prop) : Prop := match env[i]? with
 | some (some (.lst ds, m)) => m.rd = false ∧ ∃ d, ds[k]? = some d ∧ kk ds m d
 | _ => False
theorem qae {i k : Nat} {env : En} {kk kk' : List D → Md → D → Prop} (h : ∀ ds m d, kk ds m d → kk' ds m d) (q : elN i k env kk) : elN i k env kk' := by
 unfold elN at q ⊢
 split at q
 ·obtain ⟨a, d, b, c⟩ := q
  exact ⟨a, d, b, h _ _ _ c⟩
 ·exact q.elim
theorem qes {i k : Nat} {env : En} {kk : List D → Md → D → Prop} (q : elN i k env kk) : ∃ ds m d, env[i]? = some (some (.lst ds, m)) ∧ m.rd = false ∧ ds[k]? = some d ∧ kk ds m d := by
 unfold elN at q
 split at q
 ·rename_i e
  obtain ⟨a, d, b, c⟩ := q
  exact ⟨_, _, d, e, a, b, c⟩
 ·exact q.elim
end BX
namespace BX
open PySem PySem.Spec PyProof.Rows L2
def intN (j : Nat) (env : En) (kk : Nat → Prop) : Prop := match env[j]? with
 | some (some (.int i, _)) => 0 ≤ i ∧ kk i.toNat
 | _ => False
theorem qco {j : Nat} {env : En} {kk kk' : Nat → Prop} (h : ∀ k, kk k → kk' k) (q : intN j env kk) : intN j env kk' := by
 unfold intN at q ⊢
 split at q
 ·exact ⟨q.1, h _ q.2⟩
 ·exact q.elim
theorem qfq {j : Nat} {env : En} {kk : Nat → Prop} (q : intN j env kk) : ∃ (k : Nat) (m : Md), env[j]? = some (some (.int (k : Int), m)) ∧ kk k := by
 unfold intN at q
 split at q
 ·rename_i i m e
  refine ⟨i.toNat, m, ?_, q.2⟩
  rw [e, Int.toNat_of_nonneg q.1]
 ·exact q.elim
def dFnE (S : FS) (a i1 i2 j b : Nat) : XE := fun env Q => intN j env fun k => elN i1 k env fun ds1 m1 d1 => elN i2 k env fun ds2 m2 d2 =>
 (i1 ≠ i2 ∧ a ≠ i1 ∧ a ≠ i2 ∧ b ≠ i1 ∧ b ≠ i2) ∧ (∃ da ma, env[a]? = some (some (da, ma)) ∧ ma.lv = 0) ∧ (∃ db mb, env[b]? = some (some (db, mb)) ∧ mb.lv = 0) ∧
 zG S.ms [.sl a, .sl env.length, .sl (env.length + 1), .sl b] (venv (venv env i1 d1) i2 d2) = true ∧ apart S.ms [.sl a, .sl env.length, .sl (env.length + 1), .sl b] = true ∧
 jr 2 [.sl a, .sl env.length, .sl (env.length + 1), .sl b] (venv (venv env i1 d1) i2 d2) fun ds => S.wp ds fun d ds' => ∃ d1' d2',
  (putB S.ms [.sl a, .sl env.length, .sl (env.length + 1), .sl b] ds' 0 (venv (venv env i1 d1) i2 d2))[env.length + 1]? = some (some (d2', .own)) ∧
  (vL (putB S.ms [.sl a, .sl env.length, .sl (env.length + 1), .sl b] ds' 0 (venv (venv env i1 d1) i2 d2)) (env.length + 1) i2 k ds2 m2 d2')[env.length]? = some (some (d1', .own)) ∧
  Q (.tmp d) (vL (vL (putB S.ms [.sl a, .sl env.length, .sl (env.length + 1), .sl b] ds' 0 (venv (venv env i1 d1) i2 d2)) (env.length + 1) i2 k ds2 m2 d2') env.length i1 k ds1 m1 d1')
theorem qcR {S : FS} {a i1 i2 j b : Nat} (hS : Wg S) : xV (dFnE S a i1 i2 j b) := fun env Q Q' h q => qco (fun k q => qae (fun ds1 m1 d1 q => qae (fun ds2 m2 d2 q =>
 ⟨q.1, q.2.1, q.2.2.1, q.2.2.2.1, q.2.2.2.2.1, jC (fun ds q => hS _ _ _ (fun d ds' ⟨x, y, h1, h2, q⟩ => ⟨x, y, h1, h2, h _ _ q⟩) q) q.2.2.2.2.2⟩) q) q) q
section
variable {K : PySem.W.Frag} {σ : L2.St} {H : Hp} {env : En} {f : FA}
theorem qhf {i k : Nat} {ds : List D} {m : Md} {d : D} (A : Abs K σ H env f) (e : env[i]? = some (some (.lst ds, m))) (hm : m.rd = false) (hx : ds[k]? = some d) :
 ∃ a vs w F1 g F2, σ[i]? = some (some (.ref a)) ∧ H a = some (.lst vs) ∧ vs[k]? = some w ∧ f i = a :: (F1 ++ (g ++ F2)) ∧ a ∉ F1 ++ (g ++ F2) ∧ (∀ b ∈ g, b ∉ F1 ∧ b ∉ F2) ∧ (∀ b ∈ F1 ++ (g ++ F2), ∃ o, H b = some o) ∧
  (∀ H' d' g', Rep K H' 0 d' w g' → (∀ b o, H b = some o → (b ∈ F1 ∨ b ∈ F2 ∨ Mu o = false) → H' b = some o) → (∀ b ∈ g', b ∉ F1 ∧ b ∉ F2) → Reps K H' 0 (ds.set k d') vs (F1 ++ (g' ++ F2))) ∧
  Abs K (σ ++ [some w]) H (venv env i d) (fset f env.length g) := by
 obtain ⟨v0, hv0, rp⟩ := A.rep _ _ _ e
 have hl : m.lv = 0 := Md.lv_of hm
 rw [hl] at rp
 generalize hF : f i = F at rp
 cases rp with
 | lstF l _ _ => exact absurd l (by decide)
 | @lst a vs _ _ hH r0 na =>
   have na := na rfl
   obtain ⟨w, F1, g, F2, hw, rw', rfl, dj, re⟩ := qad r0 hx
   refine ⟨a, vs, w, F1, g, F2, hv0, hH, hw, (by first | rfl | exact hF), na, dj rfl, fun b hb => ?_, fun H' d' g' r' kk nn => re H' d' g' r' kk fun _ => nn, v_in A e hl (fun b hb => by rw [hF]; simp [hb]) rw'⟩
   obtain ⟨o, ho, _⟩ := r0.dom b hb
   exact ⟨o, ho⟩
end
section
variable {X : Cx} {k : Nat} {ps : List Str} {x : Str} {p pos p1 p2 : Pos} {ea eg es ej ej' eb : Expr} {S : FS} {a i1 i2 j b : Nat}
theorem qhp (F : Fn X.prog X.w X.K X.mg X.base x k ps S) (hr : Room k X.A) (hg : Gl X x) (h1 : PE X ea (tVar a)) (h2 : PE X eg (tVar i1)) (hj : PE X ej (tVar j)) (h3 : PE X es (tVar i2)) (hj' : PE X ej' (tVar j)) (h4 : PE X eb (tVar b))
 (px : PlainIx ej := by intro _ _; rfl) (px' : PlainIx ej' := by intro _ _; rfl) (hdb : (x == ("__debug__" : Str)) = false := by decide)
 (s1 : starEach [ea, .Subscript eg ej p1, .Subscript es ej' p2, eb] X.env = (false, eval ea X.env) :: starEach [.Subscript eg ej p1, .Subscript es ej' p2, eb] X.env := by rfl)
 (s2 : starEach [.Subscript eg ej p1, .Subscript es ej' p2, eb] X.env = (false, eval (.Subscript eg ej p1) X.env) :: starEach [.Subscript es ej' p2, eb] X.env := by rfl)
 (s3 : starEach [.Subscript es ej' p2, eb] X.env = (false, eval (.Subscript es ej' p2) X.env) :: starEach [eb] X.env := by rfl) (s4 : starEach [eb] X.env = (false, eval eb X.env) :: starEach [] X.env := by rfl)
 (hpl : (backTo pos (starEach [.Subscript eg ej p1, .Subscript es ej' p2, eb] X.env)).any (·.1) = false := by rfl) :
 DE X (.Call (.Name x p) [ea, .Subscript eg ej p1, .Subscript es ej' p2, eb] [] pos) (dFnE S a i1 i2 j b) := by
 obtain ⟨fn, fd, hF, hm, hk, hb⟩ := F.ex
 refine ⟨PE.imp (pe_call hF hr hg hm hk hb .nil pass0 (pa_cons h1 (pa_cons (pe_ix ix_list h2 hj px) (pa_cons (pe_ix ix_list h3 hj' px') (pa_cons h4 pa_nil s4) s3) s2) s1) hdb s1 hpl) fun σ H Q q => ?_, qcR F.mono⟩
 obtain ⟨env, f, A, q⟩ := q
 obtain ⟨n, mj, en, q⟩ := qfq q
 obtain ⟨ds1, m1, d1, e1, hm1, hx1, q⟩ := qes q
 obtain ⟨ds2, m2, d2, e2, hm2, hx2, q⟩ := qes q
 obtain ⟨⟨n12, na1, na2, nb1, nb2⟩, ⟨da, ma, e_a, la⟩, ⟨db, mb, e_b, lb⟩, o1, o2, q⟩ := q
 have hi2 := (List.getElem?_eq_some_iff.mp e2).1
 have ha' := (List.getElem?_eq_some_iff.mp e_a).1
 have hb' := (List.getElem?_eq_some_iff.mp e_b).1
 obtain ⟨a1, vs1, w1, F1, g1, F2, hv1, hH1, hw1, hf1, na_1, dj1, dom1, re1, A2⟩ := qhf A e1 hm1 hx1
 have e2' : (venv env i1 d1)[i2]? = some (some (.lst ds2, m2)) := by rw [zW (Ne.symm n12) hi2]; exact e2
 obtain ⟨a2, vs2, w2, G1, g2, G2, hv2, hH2, hw2, hf2, na_2, dj2, dom2, re2, A3⟩ := qhf A2 e2' hm2 hx2
 obtain ⟨vj, hvj, rj⟩ := A.rep _ _ _ en
 obtain ⟨va, hva, _⟩ := A.rep _ _ _ e_a
 obtain ⟨vb, hvb, _⟩ := A.rep _ _ _ e_b
 have ej : vj = .int n := by
  generalize f j = F at rj
  cases rj; rfl
 subst ej
 have l1 : (venv env i1 d1).length = env.length + 1 := Qm
 have sl : σ.length = env.length := A.len.symm ▸ rfl
 have hv2' : σ[i2]? = some (some (.ref a2)) := by
  rw [List.getElem?_append_left (by omega)] at hv2; exact hv2
 refine ⟨va, hva, .ref a1, hv1, .int n, hvj, a1, vs1, n, w1, rfl, rfl, .inl (.inl hH1), atI_nat hw1, .ref a2, hv2', .int n, hvj, a2, vs2, n, w2, rfl, rfl, .inl (.inl hH2), atI_nat hw2, vb, hvb, ?_⟩
 have up : ∀ {q : Nat} {v : V}, σ[q]? = some (some v) → ((σ ++ [some w1]) ++ [some w2])[q]? = some (some v) := fun {q v} h => by
  have := (List.getElem?_eq_some_iff.mp h).1
  rw [List.getElem?_append_left (by simp; omega), List.getElem?_append_left this]; exact h
 have upe : ∀ {q : Nat} {z : D × Md}, q ≠ i1 → q ≠ i2 → env[q]? = some (some z) → (venv (venv env i1 d1) i2 d2)[q]? = some (some z) := fun {q z} h1 h2 h => by
  have := (List.getElem?_eq_some_iff.mp h).1
  rw [zW h2 (by omega), zW h1 this]; exact h
 have Rs : ResOks X.K ((σ ++ [some w1]) ++ [some w2]) H (venv (venv env i1 d1) i2 d2) (fset (fset f env.length g1) (venv env i1 d1).length g2) [.sl a, .sl env.length, .sl (env.length + 1), .sl b] [va, w1, w2, vb] ([] ++ ([] ++ ([] ++ ([] ++ [])))) := by
  refine .cons (.sl (up hva) (upe na1 na2 e_a) la) (.cons (.sl (d := d1) (m := .own) ?_ ?_ rfl) (.cons (.sl (d := d2) (m := .own) ?_ ?_ rfl) (.cons (.sl (up hvb) (upe nb1 nb2 e_b) lb) .nil fun _ h => by cases h) fun _ h => by cases h) fun _ h => by cases h) fun _ h => by cases h
  ·rw [List.getElem?_append_left (by simp; omega), List.getElem?_append_right (by omega), sl]; simp
  ·rw [zW (by omega) (by omega)]; exact Ql
  ·rw [List.getElem?_append_right (by simp; omega)]; simp [sl]
  ·rw [← l1]; exact Ql
 obtain ⟨ds, fa, L1, L2, Aa, q, back⟩ := Xf A3 Rs o1 o2 q
 refine ⟨L2, ds, fa, L1, Aa, F.mono _ _ _ (fun d ds' q => ?_) q⟩
 intro v H' f' g l' A' rv ng S' K'
 obtain ⟨f4, A4, R4, S4, K4⟩ := back v d H' f' g ds' l' A' rv ng S' K'
 obtain ⟨d1', d2', h5, h6, q⟩ := q
 have e_l : (venv env i1 d1).length = env.length + 1 := Qm
 obtain ⟨A5, S5, K5, R5⟩ := qd1 (d' := d2') A2 e2' hm2 hv2 hH2 hf2 na_2 dj2 dom2 re2 (G := []) (fun b hb => by cases hb) A4 S4 K4 (by rw [e_l]; exact h5)
 rw [e_l] at A5 S5 K5 R5
 obtain ⟨A6, S6, K6, R6⟩ := qd1 (d' := d1') A e1 hm1 hv1 hH1 hf1 na_1 dj1 dom1 re1 (G := []) (fun b hb => by cases hb) A5 S5 K5 h6
 exact q v H' _ g A6 (R6 _ _ (R5 _ _ R4)) S6 K6
end
end BX
namespace TX
open PySem PySem.Spec PyProof.Rows L2 BX
section
variable {e : En} {Q : R → En → Prop}
theorem qhG {α : Type} {xs : List α} {N : Nat} {x : α} (h : atI xs (N : Int) = some x) : xs[N]? = some x := by
 by_cases hN : N < xs.length
 ·have := atI_nat (List.getElem?_eq_getElem hN)
  rw [this] at h
  rw [List.getElem?_eq_getElem hN]; exact h
 ·obtain ⟨_, _, _, _, _, z⟩ := atI_get h
  omega
theorem qi8 {α κ γ δ : Type} {ms : List Md} {ia : α → List D} {w : α → (κ → Prop) → Prop} {fo : κ → D} {od : α → κ → List D} {f : γ → D} {g : δ → D} {xs : List γ} {ys : List δ} {m1 m2 mj : Md} {n : Int} {x : γ} {y : δ} {a i1 i2 j b : Nat} (arg : α) (nx : κ → γ) (ny : κ → δ) (fe : κ → En) {k : κ → Prop}
 (p0 : 0 ≤ n) (px : atI xs n = some x) (py : atI ys n = some y) (h : w arg k) (hj : e[j]? = some (some (.int n, mj))) (e1 : e[i1]? = some (some (eL f xs, m1))) (e2 : e[i2]? = some (some (eL g ys, m2))) (n1 : m1.rd = false) (n2 : m2.rd = false)
 (ne : i1 ≠ i2 ∧ a ≠ i1 ∧ a ≠ i2 ∧ b ≠ i1 ∧ b ≠ i2) (ha : ∃ da ma, e[a]? = some (some (da, ma)) ∧ ma.lv = 0) (hb : ∃ db mb, e[b]? = some (some (db, mb)) ∧ mb.lv = 0)
 (o1 : zG ms [.sl a, .sl e.length, .sl (e.length + 1), .sl b] (venv (venv e i1 (f x)) i2 (g y)) = true) (o2 : apart ms [.sl a, .sl e.length, .sl (e.length + 1), .sl b] = true) (hr : RvL (venv (venv e i1 (f x)) i2 (g y)) 2 [.sl a, .sl e.length, .sl (e.length + 1), .sl b] (ia arg))
 (hA : ∀ r, (putB ms [.sl a, .sl e.length, .sl (e.length + 1), .sl b] (od arg r) 0 (venv (venv e i1 (f x)) i2 (g y)))[e.length + 1]? = some (some (g (ny r), .own)))
 (hB : ∀ r, (((putB ms [.sl a, .sl e.length, .sl (e.length + 1), .sl b] (od arg r) 0 (venv (venv e i1 (f x)) i2 (g y))).take (e.length + 1)).set i2 (some (eL g (ys.set n.toNat (ny r)), m2)))[e.length]? = some (some (f (nx r), .own)))
 (hC : ∀ r, (((((putB ms [.sl a, .sl e.length, .sl (e.length + 1), .sl b] (od arg r) 0 (venv (venv e i1 (f x)) i2 (g y))).take (e.length + 1)).set i2 (some (eL g (ys.set n.toNat (ny r)), m2))).take e.length).set i1 (some (eL f (xs.set n.toNat (nx r)), m1))) = fe r)
 (q : ∀ r, k r → aR Q (.tmp (fo r)) (fe r)) : dFnE (mkS ms ia w fo od) a i1 i2 j b e (aR Q) := by
 obtain ⟨N, rfl⟩ := Int.eq_ofNat_of_zero_le p0
 have hx1 : (xs.map f)[N]? = some (f x) := by rw [List.getElem?_map, qhG px]; rfl
 have hy1 : (ys.map g)[N]? = some (g y) := by rw [List.getElem?_map, qhG py]; rfl
 have s1 : ∀ z, eL f (xs.set N z) = .lst ((xs.map f).set N (f z)) := fun z => by unfold eL; rw [List.map_set]
 have s2 : ∀ z, eL g (ys.set N z) = .lst ((ys.map g).set N (g z)) := fun z => by unfold eL; rw [List.map_set]
 have tn : ((N : Int)).toNat = N := Int.toNat_natCast N
 simp only [tn, s1, s2] at hB hC
 unfold dFnE intN
 rw [hj]
 refine ⟨p0, ?_⟩
 unfold elN
 rw [e1]
 refine ⟨n1, f x, hx1, ?_⟩
 rw [e2]
 refine ⟨n2, g y, hy1, ne, ha, hb, o1, o2, hr.go ⟨arg, k, rfl, h, fun r hk => ⟨f (nx r), g (ny r), hA r, hB r, ?_⟩⟩⟩
 have := q r hk
 rw [← hC r] at this
 exact this
end
end TX
namespace TX
open PySem PySem.Spec PyProof.Rows L2 BX
inductive MvL (e : En) : List Nat → List R → List D → Prop
 | nil {mv : List Nat} : MvL e mv [] []
 | sl {mv : List Nat} {i : Nat} {d : D} {rs : List R} {ds : List D} : e[i]? = some (some (d, .own)) → i ∉ mv → MvL e (i :: mv) rs ds → MvL e mv (.sl i :: rs) (d :: ds)
 | tmp {mv : List Nat} {d : D} {rs : List R} {ds : List D} : MvL e mv rs ds → MvL e mv (.tmp d :: rs) (d :: ds)
 | ro {mv : List Nat} {d : D} {rs : List R} {ds : List D} : d.imm = true → MvL e mv rs ds → MvL e mv (.ro false d :: rs) (d :: ds)
theorem MvL.go {e : En} : ∀ {mv : List Nat} {rs : List R} {ds : List D}, MvL e mv rs ds → ∀ {k : List D → Prop}, k ds → movL rs e mv k
 | _, _, _, .nil, k, q => q
 | _, _, _, .sl h n t, k, q => by
   unfold movL
   rw [h]
   exact ⟨n, t.go q⟩
 | _, _, _, .tmp t, k, q => t.go (k := fun ds => k (_ :: ds)) q
 | _, _, _, .ro h t, k, q => ⟨rfl, h, t.go (k := fun ds => k (_ :: ds)) q⟩
end TX
namespace TX
open PySem PySem.Spec PyProof.Rows L2 BX PySem.W
end TX
namespace BX
open TX
end BX
namespace TX
open PySem PySem.Spec PyProof.Rows L2 BX
end TX
namespace TX
open PySem PySem.Spec PyProof.Rows L2 BX PySem.W
end TX
namespace TX
open PySem PySem.Spec PyProof.Rows L2 BX
end TX
namespace TX
open PySem PySem.Spec PyProof.Rows L2 BX
end TX
namespace BX
open PySem PySem.Spec PyProof.Rows L2
end BX
namespace TX
open PySem PySem.Spec PyProof.Rows L2 BX
end TX
namespace TX
open PySem PySem.Spec PyProof.Rows L2 BX
end TX
namespace TX
open PySem PySem.Spec PyProof.Rows L2 BX
end TX
namespace BX
open PySem PySem.Spec PyProof.Rows L2
end BX
namespace BX
open PySem PySem.Spec PyProof.Rows L2
end BX
namespace BX
open PySem PySem.Spec PyProof.Rows L2
end BX
namespace TX
open PySem PySem.Spec PyProof.Rows L2 BX
end TX
namespace TX
open PySem PySem.Spec PyProof.Rows L2 BX
end TX
namespace BX
open PySem PySem.Spec PyProof.Rows L2
end BX
namespace BX
open PySem PySem.Spec PyProof.Rows L2 RZ
end BX
namespace BX
open PySem PySem.Spec PyProof.Rows L2 HT
end BX
namespace BC
open PySem PySem.Spec PyProof.Rows L2 BX TX COM
abbrev jT (l : List J) : J := toJ (eV eJ) l
structure Sm (n : Nat) (t : J) : Prop where
 sj : Sj n 6 t.1
 log : ∀ i, t.1 = .int i → i.natAbs.log2 < 1920
 str : ∀ a, t.1 = .str a → PyData.strOk a = true
theorem qas : ∀ l : List PyData, l.length ≤ PyData.bulkAll l
 | [] => Nat.zero_le _
 | x :: l => by
   have := qas l
   show l.length + 1 ≤ x.bulk + 1 + PyData.bulkAll l
   omega
theorem Sm.len {n : Nat} {l : List J} (h : Sm n (jT l)) : l.length ≤ n := by
 have e : D.pd (jT l).1 = .tuple (pdL (l.map eJ)) := by show D.pd (.tup _) = _; rw [D.pd]
 have b := h.sj.bk
 rw [e] at b
 have b : PyData.bulkAll (pdL (l.map eJ)) ≤ n := b
 have := qas (pdL (l.map eJ))
 rw [qbW, List.length_map] at this
 omega
theorem Sm.sh {n : Nat} {t : J} (h : Sm n t) (hn : n ≤ 100000) : ShJ (eJ t) := h.sj.sh_ok t.2 hn (by decide) h.log
theorem Sm.ok {n : Nat} {t : J} (h : Sm n t) (hn : n ≤ 100000) : PyData.strOk (strJ (eJ t)) = true := h.sj.str_ok t.2 hn (by decide) h.str
section
variable {α σ : Type} {b : Bool} {A B : (σ → Prop) → Prop} {k : σ → Prop} {p q : Prop}
theorem qiZ (h : b = true) (x : A k) : ifW b A B k := ⟨fun _ => x, fun z => by rw [h] at z; cases z⟩
theorem qi0 (h : b = false) (x : B k) : ifW b A B k := ⟨fun z => (by rw [h] at z; cases z), fun _ => x⟩
theorem qi1 (h : b = true) (x : p) : ifP b p q := ⟨fun _ => x, fun z => by rw [h] at z; cases z⟩
theorem qi2 (h : b = false) (x : q) : ifP b p q := ⟨fun z => (by rw [h] at z; cases z), fun _ => x⟩
end
end BC
namespace TX
open PySem PySem.Spec PyProof.Rows L2 BX
end TX
namespace TX
open PySem PySem.Spec PyProof.Rows L2 BX
end TX
namespace TX
open PySem PySem.Spec PyProof.Rows L2 BX
end TX
namespace BX
open PySem PySem.Spec PyProof.Rows L2
end BX
namespace BX
open PySem PySem.Spec PyProof.Rows L2 RT
end BX
namespace BX
open PySem PySem.Spec PyProof.Rows L2
def qbK (i j l : Nat) (u : XA) : XS := fun env nx _ => u env fun rs e => jo rs e fun ds => match ds with
 | [d1, d2, d3] => setOk e i = true ∧ setOk e j = true ∧ setOk e l = true ∧ nx (((e.set i (some (d1, .own))).set j (some (d2, .own))).set l (some (d3, .own)))
 | _ => False
section
variable {X : Cx} {a b c : Expr} {u : XA} {x y z : Str} {i j l : Nat} {pos px py pz pt pt2 : Pos} {kt k2 : Nat}
theorem qdM (hx : Ok X) (hN : X.N.Nodup) (hij : i ≠ j) (hil : i ≠ l) (hjl : j ≠ l) (ha : DA X [a, b, c] u) (hi : X.N[i]? = some x := by rfl) (hj : X.N[j]? = some y := by rfl) (hl : X.N[l]? = some z := by rfl)
 (hxl : X.env.scope.names.lookup x = some .local := by rfl) (hyl : X.env.scope.names.lookup y = some .local := by rfl) (hzl : X.env.scope.names.lookup z = some .local := by rfl)
 (hw : swappedStores [.Tuple [.Name x px, .Name y py, .Name z pz] kt pt] (.Tuple [a, b, c] k2 pt2) X.env = pure (some [x, y, z]) := by rfl)
 (hs : swapsWithSole [.Tuple [.Name x px, .Name y py, .Name z pz] kt pt] (.Tuple [a, b, c] k2 pt2) pos.line X.env = pure false := by rfl) : DS X (.Assign [.Tuple [.Name x px, .Name y py, .Name z pz] kt pt] (.Tuple [a, b, c] k2 pt2) pos) (qbK i j l u) := by
 refine ⟨PS.imp (ps_par3 hx.calm hN hi hj hl hij hil hjl hxl hyl hzl ha.run hw hs) fun D σ H q => ?_, fun env nx nx' rt rt' h _ q => ha.mono _ _ _ (fun rs e q => uv (fun ds q => ?_) q) q⟩
 ·obtain ⟨env, f, A, q⟩ := q
  refine ⟨env, f, A, ha.mono _ _ _ (fun rs e1 q => ?_) q⟩
  intro vs H1 f1 gs A1 R1 S1 K1
  obtain ⟨ds, rp, q, nn⟩ := Qo A1 R1 q
  match ds, q with
  | [d1, d2, d3], q =>
    obtain ⟨so1, so2, so3, q⟩ := q
    cases rp with
    | @cons _ v1 ga _ _ _ r1 rt n1 =>
      cases rt with
      | @cons _ v2 gb _ _ _ r2 rt n2 =>
        cases rt with
        | @cons _ v3 gc _ _ _ r3 rt n3 =>
          cases rt
          have ow : (Md.own ≠ Md.io ∧ Md.own ≠ Md.lk) := ⟨(fun z => nomatch z), (fun z => nomatch z)⟩
          have ab : ∀ b ∈ ga, b ∉ gb := fun b hb z => n1 rfl b hb (List.mem_append_left _ z)
          have ac : ∀ b ∈ ga, b ∉ gc := fun b hb z => n1 rfl b hb (List.mem_append_right _ (List.mem_append_left _ z))
          have bc : ∀ b ∈ gb, b ∉ gc := fun b hb z => n2 rfl b hb (List.mem_append_left _ z)
          have na : ∀ b ∈ ga, ¬ L0 e1 f1 b ∧ ¬ Ro e1 f1 b := fun b hb => nn b (List.mem_append_left _ hb)
          have nb0 : ∀ b ∈ gb, ¬ L0 e1 f1 b ∧ ¬ Ro e1 f1 b := fun b hb => nn b (List.mem_append_right _ (List.mem_append_left _ hb))
          have nc0 : ∀ b ∈ gc, ¬ L0 e1 f1 b ∧ ¬ Ro e1 f1 b := fun b hb => nn b (List.mem_append_right _ (List.mem_append_right _ (List.mem_append_left _ hb)))
          obtain ⟨A2, S2, K2, L2', O2, _⟩ := A1.put (m := .own) (G := ga) so1 r1 ow (fun _ => na) (fun b hb => (na b hb).1) fun _ b hb => hb
          have nb : ∀ b ∈ gb, ¬ L0 (e1.set i (some (d1, Md.own))) (fset f1 i ga) b ∧ ¬ Ro (e1.set i (some (d1, Md.own))) (fset f1 i ga) b := fun b hb =>
           ⟨fun z => (L2' b z).elim (nb0 b hb).1 fun y => ab b y hb, fun z => (nb0 b hb).2 (O2 rfl b z)⟩
          have nc1 : ∀ b ∈ gc, ¬ L0 (e1.set i (some (d1, Md.own))) (fset f1 i ga) b ∧ ¬ Ro (e1.set i (some (d1, Md.own))) (fset f1 i ga) b := fun b hb =>
           ⟨fun z => (L2' b z).elim (nc0 b hb).1 fun y => ac b y hb, fun z => (nc0 b hb).2 (O2 rfl b z)⟩
          obtain ⟨A3, S3, K3, L3', O3, _⟩ := A2.put (m := .own) (G := gb) (YM so2 (Ne.symm hij)) r2 ow (fun _ => nb) (fun b hb => (nb b hb).1) fun _ b hb => hb
          have nc : ∀ b ∈ gc, ¬ L0 ((e1.set i (some (d1, Md.own))).set j (some (d2, Md.own))) (fset (fset f1 i ga) j gb) b ∧ ¬ Ro ((e1.set i (some (d1, Md.own))).set j (some (d2, Md.own))) (fset (fset f1 i ga) j gb) b := fun b hb =>
           ⟨fun z => (L3' b z).elim (nc1 b hb).1 fun y => bc b y hb, fun z => (nc1 b hb).2 (O3 rfl b z)⟩
          obtain ⟨A4, S4, K4, _⟩ := A3.put (m := .own) (G := gc) (YM (YM so3 (Ne.symm hil)) (Ne.symm hjl)) r3 ow (fun _ => nc) (fun b hb => (nc b hb).1) fun _ b hb => hb
          refine ⟨v1, v2, v3, rfl, q _ H1 _ A4 (S1.trans ⟨fun b o h _ => h, fun b z => ?_⟩) (((K1.kq.trans K2).trans K3).trans K4)⟩
          rcases S4.own b z with z | z | z
          ·rcases S3.own b (.inl z) with z | z | z
           ·rcases S2.own b (.inl z) with z | z | z
            ·exact .inl z
            ·exact .inr (.inl (List.mem_append_left _ z))
            ·exact .inr (.inr z)
           ·exact .inr (.inl (List.mem_append_right _ (List.mem_append_left _ z)))
           ·exact .inr (.inr z)
          ·exact .inr (.inl (List.mem_append_right _ (List.mem_append_right _ (List.mem_append_left _ z))))
          ·exact .inr (.inr z)
  | [], q => exact q.elim
  | [_], q => exact q.elim
  | [_, _], q => exact q.elim
  | _ :: _ :: _ :: _ :: _, q => exact q.elim
 ·match ds, q with
  | [d1, d2, d3], q => exact ⟨q.1, q.2.1, q.2.2.1, h _ q.2.2.2⟩
  | [], q => exact q.elim
  | [_], q => exact q.elim
  | [_, _], q => exact q.elim
  | _ :: _ :: _ :: _ :: _, q => exact q.elim
end
end BX
namespace TX
open PySem PySem.Spec PyProof.Rows L2 BX
end TX
namespace TX
open PySem PySem.Spec PyProof.Rows L2 BX
end TX
namespace TX
open PySem PySem.Spec PyProof.Rows L2 BX
end TX
namespace TX
open PySem PySem.Spec PyProof.Rows L2 BX
theorem qeO {e : En} {nx : En → Prop} {rt : D → En → Prop} {i j l : Nat} {u : XA} (q : u e fun rs e => jo rs e fun ds => match ds with
 | [d1, d2, d3] => setOk e i = true ∧ setOk e j = true ∧ setOk e l = true ∧ aN nx (((e.set i (some (d1, .own))).set j (some (d2, .own))).set l (some (d3, .own)))
 | _ => False) : qbK i j l u e nx rt := q
theorem qfb {e : En} {nx : En → Prop} {i j l : Nat} {r1 r2 r3 : R} {α β γ : Type} {f : α → D} {g : β → D} {o : γ → D} {v : α} {w : β} {x : γ} {P : α → β → γ → Prop} (ee : α → β → γ → En) (h1 : St e r1 (f v)) (h2 : St e r2 (g w)) (h3 : St e r3 (o x)) (h : lt v fun a => lt w fun b => lt x (P a b))
 (hs : setOk e i = true) (hs2 : setOk e j = true) (hs3 : setOk e l = true) (he : ∀ a b c, ((e.set i (some (f a, .own))).set j (some (g b, .own))).set l (some (o c, .own)) = ee a b c) (q : ∀ a b c, P a b c → aN nx (ee a b c)) :
 jo [r1, r2, r3] e fun ds => match ds with
 | [d1, d2, d3] => setOk e i = true ∧ setOk e j = true ∧ setOk e l = true ∧ aN nx (((e.set i (some (d1, .own))).set j (some (d2, .own))).set l (some (d3, .own)))
 | _ => False := h1 _ (h2 _ (h3 _ ⟨hs, hs2, hs3, by rw [he]; exact q v w x h⟩))
end TX
namespace TX
open PySem PySem.Spec PyProof.Rows L2 BX
theorem qb5 {e : En} {Q : R → En → Prop} {α : Type} {i : Nat} {r : R} {f : α → D} [Im f] {l : List α} {d : J} {m : Md} {P : List J → Prop} (ee : List J → En) (h : lt (l.map (toJ f) ++ [d]) P) (hr : St e r (eJ d)) (h0 : e[i]? = some (some (eL f l, m))) (hl : l.length < sizeLine) (he : ∀ x, e.set i (some (eL eJ x, m)) = ee x) (q : ∀ x, P x → aR Q (.tmp .non) (ee x))
 (hm : m = .own ∨ m = .io := by first | exact .inl rfl | exact .inr rfl) : bAppend (.sl i) r e (aR Q) := by
 refine hr _ ?_
 have q := q _ h
 rw [← he] at q
 have em : (l.map (toJ f) ++ [d]).map eJ = l.map f ++ [eJ d] := by
  rw [List.map_append, List.map_map]; rfl
 unfold eL at h0 q
 rw [em] at q
 unfold chgL chg
 rcases hm with rfl | rfl <;> (simp only [h0]; exact ⟨by simpa using hl, q⟩)
theorem qfd {e : En} {r : R} {n x : Str} {fs : List (Str × D)} {Z : Prop} (h : Rv e 2 r (.ob n fs)) (hx : fs.lookup x = none) (q : Z) : (rd 2 r e fun d => obK n d fun fs => fs.lookup x = none) ∧ Z := ⟨h.rd ⟨rfl, hx⟩, q⟩
end TX
namespace K47
open PySem PySem.Spec PyProof.Rows L2 BX TX COM BC
def uJ (x y : D) (kr : Bool → Prop) : Prop := XD 4 x y kr
def wQ : FS := mkS (α := D × D) (κ := Bool) [.cst, .cst] (fun a => [eA a.1, eA a.2]) (fun a => uJ a.1 a.2) (fun r => D.bl r) fun a r => [eA a.1, eA a.2]
def vB (qF yQ : FS) : XS :=
 (sSeq (sAsg (dLst aNil) (gN 2))
 (sSeq (sFor (uW (dVar 1)) (gN 3) (sSeq (sAsg (dFn yQ (ql (dVar 0) aNil)) (gN 4))
 (sSeq (sIf (xAnd (xVal (dBin 2 opNe (dVar 2) (dLst aNil))) (xVal (dBin 2 opEq (dFn qF (ql (dVar 0) (ql (dC (.int 5)) aNil))) (dC (.int 0))))) (sAsg (dIdx (dIdx (dVar 2) (dFn qF (ql (dVar 0) (ql (dCall 2 (op1 bLen) (ql (dVar 2) aNil)) aNil)))) (dC (.int 1))) (gN 4)) sNil)
 (Qa (dM1 D.isLst bAppend (dVar 2) (dTup (ql (dIdx (dLst (ql (dC (.str (Str.ofString "add"))) (ql (dC (.str (Str.ofString "add"))) (ql (dC (.str (Str.ofString "cut"))) aNil)))) (dFn qF (ql (dVar 0) (ql (dC (.int 3)) aNil)))) (ql (dVar 4) aNil))))))))
 (sRet (dVar 2))))
def zN (tape : (Int × Int)) (many : Int) (kr : ((List (Str × (Int × Int × Int × Int))) × (Int × Int)) → Prop) : Prop :=
 lt (([] : List (Str × (Int × Int × Int × Int))) : (List (Str × (Int × Int × Int × Int)))) fun found =>
 (Wf 0 many) ∧
 forW (rng 0 many) (tape, found) (fun turn (s2 : ((Int × Int) × (List (Str × (Int × Int × Int × Int))))) kk5 => jB s2.1 fun t6 =>
 (eqOk ((eL (eT2 D.str (eT4 D.int D.int D.int D.int))) s2.2) = true ∧ True) ∧
 ifW (!(s2.2.isEmpty)) (fun kk8 => qI t6.2 5 fun t9 =>
 kk8 ((decide (t9.1 = 0)), t9.2)) (fun kk8 => kk8 (false, t6.2)) fun (b10 : Bool × (Int × Int)) =>
 ifW b10.1 (fun kk12 => qI b10.2 (s2.2.length : Int) fun t13 =>
 exW (atI s2.2 t13.1) fun x14 =>
 kk12 (t13.2, x14.2)) (fun kk12 => kk12 (b10.2, t6.1)) fun (s11 : ((Int × Int) × (Int × Int × Int × Int))) =>
 qI s11.1 3 fun t16 =>
 exW (atI [(Str.ofString "add"), (Str.ofString "add"), (Str.ofString "cut")] t16.1) fun x17 =>
 (s2.2.length < sizeLine) ∧
 lt (s2.2 ++ [(x17, s11.2)]) fun found =>
 kk5 (t16.2, found)) fun s2 =>
 kr (s2.2, s2.1)
def zu : FS := mkS (α := ((Int × Int) × Int)) (κ := ((List (Str × (Int × Int × Int × Int))) × (Int × Int))) [.io, .cst] (fun a => [eP a.1, D.int a.2]) (fun a => zN a.1 a.2) (fun r => (eL (eT2 D.str (eT4 D.int D.int D.int D.int))) r.1) fun a r => [eP r.2, D.int a.2]
theorem XJ : BodyOk zu 5 (vB qF yQ) := by
 intro ds Q hl h
 obtain ⟨⟨tape, many⟩, kr, rfl, h, q⟩ := h
 refine jk (e' := [_, _, _, _, _]) rfl ?_
 unfold vB
 unfold zN at h
 refine wR <| s_asg <| uH <| qu <| xH (eT2 D.str zB) ([] : List (Str × (Int × Int × Int × Int))) .nil ?_
 refine g_N (f := (eL (eT2 D.str zB))) (fun found => [_, _, zO (eL (eT2 D.str zB) found), _, _]) h rfl (fun _ => rfl) fun found h => ?_
 refine wR <| Z5 <| qa5 <| qw rfl ?_
 obtain ⟨p1, h⟩ := h
 refine qaV p1 ?_
 refine Zy (fI := D.int) (sh := fun (s2 : ((Int × Int) × (List (Str × (Int × Int × Int × Int))))) e => ∃ c3 c4 : Option (D × Md), (setS (some c3) = true ∧ setS (some c4) = true) ∧ e = [some (eP s2.1, .io), zS (D.int many), zO (eL (eT2 D.str zB) s2.2), c3, c4]) h ⟨_, _, ⟨rfl, rfl⟩, rfl⟩ (fun turn ha s2 e hs kk5 nxkk5 hJ5 h => ?_) ?_
 ·skip
  obtain ⟨c3, c4, ⟨hc3, hc4⟩, rfl⟩ := hs
  refine g_n (e' := [_, _, _, _, _]) hc3 rfl (?_)
  refine wR <| s_asg <| c_fn <| qj <| qw rfl <| qu ?_
  refine x_call s2.1 (fun t6 => [some (eP t6.2, .io), _, _, _, _]) h (.cons .z .nil) (qD (by rfl) qZ) (by rfl) (fun _ => rfl) fun t6 h => ?_
  refine g_n (e' := [_, _, _, _, _]) hc4 rfl ?_
  refine wR <| s_if <| qc0 <| j8 <| wD <| qw rfl <| uH <| qu <| xH (eT2 D.str zB) ([] : List (Str × (Int × Int × Int × Int))) .nil ?_
  obtain ⟨p7, h⟩ := h
  refine wC .z .tmp ((qdu (f := (eT2 D.str zB)) (g := (eT2 D.str zB))) p7.1 p7.2) <| j6 .tmp tr_b ?_
  refine qb6 (sh := fun (s : (Int × Int)) e => e = [some (eP s, .io), zS (D.int many), zO (eL (eT2 D.str zB) s2.2), zO (D.int turn), zO (zB t6.1)]) h rfl (fun hb kk8 N hJ8 h => ?_) ?_
  ·skip
   refine j8 <| wD <| c_fn <| qj <| qw rfl <| qj <| c_C <| qu ?_
   refine x_call (t6.2, 5) (fun t9 => [some (eP t9.2, .io), _, _, _, _]) h (.cons .z (.cons .tmp .nil)) (qD (by rfl) (qD yU qZ)) (by rfl) (fun _ => rfl) fun t9 h => ?_
   refine c_C <| wC .tmp .tmp (op_eq (f := D.int)) <| j6 .tmp tr_b ?_
   exact hJ8 ((decide (t9.1 = 0)), t9.2) _ rfl h
  rintro b10 e hs h
  obtain rfl := hs
  refine qff (sh := fun (s11 : ((Int × Int) × (Int × Int × Int × Int))) e => e = [some (eP s11.1, .io), zS (D.int many), zO (eL (eT2 D.str zB) s2.2), zO (D.int turn), zO (zB s11.2)]) h (fun hb kk12 nxkk12 hJ12 h => ?_) (fun hb kk12 nxkk12 hJ12 h => ?_) ?_
  ·skip
   refine s_asg <| ye <| ye <| qw rfl <| c_fn <| qj <| qw rfl <| qj <| xg <| qj <| qw rfl <| qu <| yV (.cons .z .nil) ZD <| qu ?_
   refine x_call (b10.2, (s2.2.length : Int)) (fun t13 => [some (eP t13.2, .io), _, _, _, _]) h (.cons .z (.cons .tmp .nil)) (qD (by rfl) (qD yU qZ)) (by rfl) (fun _ => rfl) fun t13 h => ?_
   obtain ⟨x14, p15, h⟩ := h
   refine o_idx .z .tmp (ix_L p15) (.sl (Im.im (f := (eT2 D.str zB)) _)) <| c_C <| o_idx .tmp .tmp qaX .tmp ?_
   refine g_n (e' := [_, _, _, _, _]) rfl rfl ?_
   exact hJ12 (t13.2, x14.2) _ rfl h
  ·skip
   refine Z4 ?_
   exact hJ12 (b10.2, t6.1) _ rfl h
  rintro s11 e hs h
  obtain rfl := hs
  refine u9 <| c_m1 (by rfl) (by rfl) (by decide) (by rfl) <| xK <| qj <| ye <| uH <| qj <| c_C <| qj <| c_C <| qj <| c_C <| qu <| xH D.str [(Str.ofString "add"), (Str.ofString "add"), (Str.ofString "cut")] (.cons .tmp (.cons .tmp (.cons .tmp .nil))) <| c_fn <| qj <| qw rfl <| qj <| c_C <| qu ?_
  refine x_call (s11.1, 3) (fun t16 => [some (eP t16.2, .io), _, _, _, _]) h (.cons .z (.cons .tmp .nil)) (qD (by rfl) (qD yU qZ)) (by rfl) (fun _ => rfl) fun t16 h => ?_
  obtain ⟨x17, p18, h⟩ := h
  refine o_idx .tmp .tmp (ix_L p18) .tmp <| qj <| qw rfl <| qu <| yG D.str zB x17 s11.2 (.cons .tmp (.cons (.of .z (Im.im (f := zB) _)) .nil)) ?_
  obtain ⟨p19, h⟩ := h
  refine WT (fun found => [_, _, zO (eL (eT2 D.str zB) found), _, _]) h .tmp (by rfl) p19 (fun _ => rfl) fun found h => ?_
  exact hJ5 (t16.2, found) _ ⟨_, _, ⟨rfl, rfl⟩, rfl⟩ h
 rintro s2 e hs h
 obtain ⟨c3, c4, ⟨hc3, hc4⟩, rfl⟩ := hs
 refine wN <| s_ret <| qw rfl <| Y6 (m := .own) (by rfl) ?_
 exact q (s2.2, s2.1) h
def vY (xU qT yj qF ym : FS) : XS :=
 (sSeq (sIf (xAnd (xVal (dBin 2 opGt (dCall 2 (op1 bLen) (ql (dVar 2) aNil)) (dC (.int 1)))) (xVal (dBin 2 opEq (dFn qF (ql (dVar 0) (ql (dC (.int 4)) aNil))) (dC (.int 0))))) (sSeq (sAsg (dMn D.isLst qfS (dVar 2) aNil) (gN 4))
 (sRet (dTup (ql (vp "Site" "undo" ym (dVar 1) aNil) (ql (dRo 2 (dFn qT (ql (dVar 4) (ql (dIdx (dVar 2) (dNeg (dC (.int 1)))) aNil)))) aNil))))) sNil)
 (sSeq (Qa (dM1 D.isLst bAppend (dVar 2) (dRo 2 (dFn yj (ql (dIdx (dVar 2) (dNeg (dC (.int 1)))) (ql (dVar 3) aNil))))))
 (sRet (dTup (ql (dFn xU (ql (dVar 1) (ql (dVar 3) aNil))) (ql (dRo 2 (dFn qT (ql (dIdx (dVar 2) (dNeg (dC (.int 2)))) (ql (dIdx (dVar 2) (dNeg (dC (.int 1)))) aNil)))) aNil))))))
def jF (tape : (Int × Int)) (ground : (List ((Int × Int) × Bool) × List ((Int × Int × Int × Int) × List (Int × Int)) × Int)) (stack : (List (List ((Int × Int) × Bool)))) (deed : (Str × (Int × Int × Int × Int))) (kr : (((Option (List ((Int × Int) × Str × Str))) × (List ((Int × Int) × Str × Str))) × (Int × Int) × (List ((Int × Int) × Bool) × List ((Int × Int × Int × Int) × List (Int × Int)) × Int) × (List (List ((Int × Int) × Bool)))) → Prop) : Prop :=
 ifW (decide (1 < (stack.length : Int))) (fun kk1 => qI tape 4 fun t2 =>
 kk1 ((decide (t2.1 = 0)), t2.2)) (fun kk1 => kk1 (false, tape)) fun (b3 : Bool × (Int × Int)) =>
 ifP b3.1 (exW stack.getLast? fun x4 =>
 lt stack.dropLast fun stack =>
 xq ground fun t6 =>
 exW (atI stack (-1)) fun x7 =>
 qQ x4 x7 fun t9 =>
 kr ((t6.1, t9), b3.2, t6.2, stack)) <|
 exW (atI stack (-1)) fun x10 =>
 xm x10 deed fun t12 =>
 (stack.length < sizeLine) ∧
 lt (stack ++ [t12]) fun stack =>
 jG ground deed fun t14 =>
 exW (atI stack (-2)) fun x15 =>
 exW (atI stack (-1)) fun x17 =>
 qQ x15 x17 fun t19 =>
 kr (((some t14.1), t19), b3.2, t14.2, stack)
def yg : FS := mkS (α := ((Int × Int) × (List ((Int × Int) × Bool) × List ((Int × Int × Int × Int) × List (Int × Int)) × Int) × (List (List ((Int × Int) × Bool))) × (Str × (Int × Int × Int × Int)))) (κ := (((Option (List ((Int × Int) × Str × Str))) × (List ((Int × Int) × Str × Str))) × (Int × Int) × (List ((Int × Int) × Bool) × List ((Int × Int × Int × Int) × List (Int × Int)) × Int) × (List (List ((Int × Int) × Bool))))) [.io, .io, .io, .ro] (fun a => [eP a.1, w6 a.2.1, (eL (eDT (kf2 Sum.inl Sum.inl) D.bl)) a.2.2.1, (eT2 D.str (eT4 D.int D.int D.int D.int)) a.2.2.2]) (fun a => jF a.1 a.2.1 a.2.2.1 a.2.2.2) (fun r => (eT2 (eO (eL (eT3 (eT2 D.int D.int) D.str D.str))) (eL (eT3 (eT2 D.int D.int) D.str D.str))) r.1) fun a r => [eP r.2.1, w6 r.2.2.1, (eL (eDT (kf2 Sum.inl Sum.inl) D.bl)) r.2.2.2, (eT2 D.str (eT4 D.int D.int D.int D.int)) a.2.2.2]
theorem J8 : BodyOk yg 5 (vY xU qT yj qF ym) := by
 intro ds Q hl h
 obtain ⟨⟨tape, ground, stack, deed⟩, kr, rfl, h, q⟩ := h
 refine jk (e' := [_, _, _, _, _]) rfl ?_
 unfold vY
 unfold jF at h
 refine wR <| s_if <| qc0 <| j8 <| wD <| xg <| qj <| qw rfl <| qu <| yV (.cons .z .nil) ZD <| c_C <| wC .tmp .tmp qgG <| j6 .tmp tr_b ?_
 refine qb6 (sh := fun (s : (Int × Int)) e => e = [some (eP s, .io), some (w6 ground, .io), some ((eL zD) stack, .io), zR (eT2 D.str zB deed), none]) h rfl (fun hb kk1 N hJ1 h => ?_) ?_
 ·skip
  refine j8 <| wD <| c_fn <| qj <| qw rfl <| qj <| c_C <| qu ?_
  refine x_call (tape, 4) (fun t2 => [some (eP t2.2, .io), _, _, _, _]) h (.cons .z (.cons .tmp .nil)) (qD (by rfl) (qD yU qZ)) (by rfl) (fun _ => rfl) fun t2 h => ?_
  refine c_C <| wC .tmp .tmp (op_eq (f := D.int)) <| j6 .tmp tr_b ?_
  exact hJ1 ((decide (t2.1 = 0)), t2.2) _ rfl h
 rintro b3 e hs h
 obtain rfl := hs
 refine Z8 h (fun hb h => ?_) (fun hb h => ?_)
 ·skip
  refine wR <| s_asg ?_
  refine c_mn (by rfl) .z (by rfl) (qu ?_)
  obtain ⟨x4, p5, h⟩ := h
  refine qgU (f := zD) (fun stack => [_, _, some ((eL zD) stack, .io), _, _]) h p5 (by rfl) (fun _ => rfl) fun stack h => ?_
  refine g_n (e' := [_, _, _, _, _]) rfl rfl ?_
  refine s_ret <| xK <| qj <| j9 (by rfl) (by rfl) ((zM (by decide +kernel)).trans ((zM (by decide +kernel)).trans ((zM (by decide +kernel)).trans rfl))) <| qu ?_
  refine x_call ground (fun t6 => [_, some (w6 t6.2, .io), _, _, _]) h (.cons .z .nil) (qD (by rfl) qZ) (by rfl) (fun _ => rfl) fun t6 h => ?_
  refine qj <| c_ro (m := .io) (e' := [_, _, _, _, _]) (by rfl) rfl rfl <| c_fn <| qj <| qw rfl <| qj <| ye <| qw rfl <| qa6 <| c_C <| qaW .tmp ?_
  obtain ⟨x7, p8, h⟩ := h
  refine o_idx .ro .tmp (ix_L p8) (.ro rfl) <| qu ?_
  refine x_call (x4, x7) (fun t9 => [_, _, _, _, _]) h (.cons .z (.cons .ro .nil)) (qD (yr .z) (qD (yr .ro) qZ)) (wY (by rfl)) (fun _ => rfl) fun t9 h => ?_
  refine o_ro (e' := [_, _, _, _, _]) rfl <| qu <| yG (eO (eL (eT3 zP D.str D.str))) (eL (eT3 zP D.str D.str)) t6.1 t9 (.cons .tmp (.cons .tmp .nil)) <| xO ?_
  exact q ((t6.1, t9), b3.2, t6.2, stack) h
 refine Z4 <| wR <| u9 <| c_m1 (by rfl) (by rfl) (by decide) (by rfl) <| c_ro (m := .io) (e' := [_, _, _, _, _]) (by rfl) rfl rfl <| c_fn <| qj <| ye <| qw rfl <| qa6 <| c_C <| qaW .tmp ?_
 obtain ⟨x10, p11, h⟩ := h
 refine o_idx .ro .tmp (ix_L p11) (.ro rfl) <| qj <| qw rfl <| qu ?_
 refine x_call (x10, deed) (fun t12 => [_, _, _, _, _]) h (.cons .ro (.cons .ro .nil)) (qD (yr .ro) (qD (yr .ro) qZ)) (wY (by rfl)) (fun _ => rfl) fun t12 h => ?_
 refine o_ro (e' := [_, _, _, _, _]) rfl ?_
 obtain ⟨p13, h⟩ := h
 refine WT (fun stack => [_, _, some ((eL zD) stack, .io), _, _]) h .tmp (by rfl) p13 (fun _ => rfl) fun stack h => s_ret <| xK <| qj <| c_fn <| qj <| qw rfl <| qj <| qw rfl <| qu ?_
 refine x_call (ground, deed) (fun t14 => [_, some (w6 t14.2, .io), _, _, _]) h (.cons .z (.cons .ro .nil)) (qD (by rfl) (qD (yr .ro) qZ)) (by rfl) (fun _ => rfl) fun t14 h => ?_
 refine qj <| c_ro (m := .io) (e' := [_, _, _, _, _]) (by rfl) rfl rfl <| c_fn <| qj <| ye <| qw rfl <| qa6 <| c_C <| qaW .tmp ?_
 obtain ⟨x15, p16, h⟩ := h
 refine o_idx .ro .tmp (ix_L p16) (.ro rfl) <| qj <| ye <| qw rfl <| qa6 <| c_C <| qaW .tmp ?_
 obtain ⟨x17, p18, h⟩ := h
 refine o_idx .ro .tmp (ix_L p18) (.ro rfl) <| qu ?_
 refine x_call (x15, x17) (fun t19 => [_, _, _, _, _]) h (.cons .ro (.cons .ro .nil)) (qD (yr .ro) (qD (yr .ro) qZ)) (wY (by rfl)) (fun _ => rfl) fun t19 h => ?_
 refine o_ro (e' := [_, _, _, _, _]) rfl <| qu <| yG (eO (eL (eT3 zP D.str D.str))) (eL (eT3 zP D.str D.str)) (some t14.1) t19 (.cons .tmp (.cons .tmp .nil)) <| xO ?_
 exact q (((some t14.1), t19), b3.2, t14.2, stack) h
def qeK (zu qF wI wQ yg wu yh : FS) : XS :=
 (sSeq (sFor (uW (dBin 1 yu (dC (.int 1)) (dCall 2 (op2 JK) (ql (dC (.int 5)) (ql (dCall 2 (op1 bLen) (ql (dVar 0) aNil)) aNil))))) (gN 1) (sSeq (sAsg (dFn yh (ql (dVar 0) (ql (dVar 1) aNil))) (gN 2))
 (sSeq (qbK 3 4 5 (ql (dLst (ql (dMk "Site" wu aNil) (ql (dMk "Site" wu aNil) aNil))) (ql (dLst (ql (dLst (ql (dC (.dT [])) aNil)) (ql (dLst (ql (dC (.dT [])) aNil)) aNil))) (ql (dLst aNil) aNil))))
 (sSeq (sFor (qcq (dFn zu (ql (dVar 2) (ql (dBin 1 yu (dC (.int 10)) (dFn qF (ql (dVar 2) (ql (dC (.int 11)) aNil)))) aNil)))) (gT 2 (za (gN 6) (za (gN 7) Qc))) (sSeq (sAsg (dFn qF (ql (dVar 2) (ql (dC (.int 2)) aNil))) (gN 8))
 (sSeq (sAsg (dFnE yg 2 3 4 8 7) (gT 2 (za (gN 9) (za (gN 10) Qc))))
 (sSeq (sIf (xNot (xVal (dFn wQ (ql (dVar 9) (ql (dVar 10) aNil))))) (sRet (dC (.bl false))) sNil)
 (sSeq (Qa (dM1 D.isLst bAppend (dVar 9) (dVar 6)))
 (sSeq (sFzO 9 (Qa (dM1 D.isLst bAppend (dVar 5) (dVar 9))))
 (sFor (iSeq (dTup (ql (dC (.int 0)) (ql (dC (.int 1)) aNil)))) (gN 11) (sIf (xVal (dBin 2 opNe (dRo 3 (vp "Site" "room_now" wI (dIdx (dVar 3) (dVar 11)) aNil)) (dRo 4 (dCall 1 (op1 vg) (ql (dCall 1 (op1 ju) (ql (dIdx (dIdx (dVar 4) (dVar 11)) (dNeg (dC (.int 1)))) aNil)) aNil))))) (sRet (dC (.bl false))) sNil))))))))
 (sIf (xVal (dBin 2 opNe (dLc (iSeq (dVar 5)) (gN 11) xYes (dIdx (dVar 11) (dNeg (dC (.int 1)))) [11]) (qcQ (dCall 2 (op1 bLen) (ql (dVar 5) aNil))))) (sRet (dC (.bl false))) sNil)))))
 (sRet (dC (.bl true))))
def qdh (script : (List Int)) (kr : Bool → Prop) : Prop :=
 (Wf 0 (1 + (min 5 (script.length : Int)))) ∧
 forW (rng 0 (1 + (min 5 (script.length : Int)))) () (fun k' (s2 : Unit) kk14 => vU script k' fun t15 =>
 lt ([([], [], 0), ([], [], 0)] : (List (List ((Int × Int) × Bool) × List ((Int × Int × Int × Int) × List (Int × Int)) × Int))) fun grounds =>
 lt ([[([] : (List ((Int × Int) × Bool)))], [([] : (List ((Int × Int) × Bool)))]] : (List (List (List ((Int × Int) × Bool))))) fun stacks =>
 lt (([] : List (List J)) : (List (List J))) fun told =>
 qI t15 11 fun t16 =>
 zN t16.2 (10 + t16.1) fun t17 =>
 forW (Xg t17.1) (t17.2, grounds, stacks, told) (fun a25 (s18 : ((Int × Int) × (List (List ((Int × Int) × Bool) × List ((Int × Int × Int × Int) × List (Int × Int)) × Int)) × (List (List (List ((Int × Int) × Bool)))) × (List (List J)))) kk26 => qI s18.1 2 fun t27 =>
 (0 ≤ t27.1) ∧
 exW (atI s18.2.1 t27.1) fun x28 =>
 exW (atI s18.2.2.1 t27.1) fun x29 =>
 jF t27.2 x28 x29 a25.2 fun t32 =>
 uJ ((eO (eL (eT3 (eT2 D.int D.int) D.str D.str))) t32.1.1) ((eL (eT3 (eT2 D.int D.int) D.str D.str)) t32.1.2) fun t36 =>
 ifP (!t36) (kr false) <|
 exW t32.1.1 fun x37 =>
 (x37.length < sizeLine) ∧
 lt (x37.map (toJ (eT3 (eT2 D.int D.int) D.str D.str)) ++ [(toJ D.int a25.1)]) fun found =>
 (s18.2.2.2.length < sizeLine) ∧
 lt (s18.2.2.2 ++ [found]) fun told =>
 forW [0, 1] () (fun one (s41 : Unit) kk43 => exW (atI (s18.2.1.set t27.1.toNat t32.2.2.1) one) fun x44 =>
 yw x44 fun t46 =>
 exW (atI (s18.2.2.1.set t27.1.toNat t32.2.2.2) one) fun x47 =>
 exW (atI x47 (-1)) fun x49 =>
 ifP (!(decide (t46 = (srt tl2 (x49.map (·.1)))))) (kr false) <|
 kk43 ()) fun s41 =>
 kk26 (t32.2.1, (s18.2.1.set t27.1.toNat t32.2.2.1), (s18.2.2.1.set t27.1.toNat t32.2.2.2), told)) fun s18 =>
 (s18.2.2.2.length ≤ sizeLine) ∧
 lcW s18.2.2.2 ([] : List Int) () (fun one (s : Unit) w => exW (atI one (-1)) fun x52 =>
 exV D.int (eJ x52) fun v54 =>
 w (some v54) ()) fun l56 s57 =>
 (0 ≤ (s18.2.2.2.length : Int) ∧ (s18.2.2.2.length : Int) ≤ 2 ^ 24) ∧
 (ifP (!(decide (l56 = (upN (s18.2.2.2.length : Int))))) (kr false) <|
 kk14 ())) fun s2 =>
 kr true
def JN : FS := mkS (α := (List Int)) (κ := Bool) [.cst] (fun a => [(eL D.int) a]) (fun a => qdh a) (fun r => D.bl r) fun a r => [(eL D.int) a]
theorem qiw : BodyOk JN 12 (qeK zu qF wI wQ yg wu yh) := by
 intro ds Q hl h
 obtain ⟨script, kr, rfl, h, q⟩ := h
 refine jk (e' := [_, _, _, _, _, _, _, _, _, _, _, _]) rfl ?_
 unfold qeK
 unfold qdh at h
 refine wR <| Z5 <| qa5 <| wD <| c_C <| xg <| qj <| c_C <| qj <| xg <| qj <| qw rfl <| qu <| yV (.cons .cst .nil) ZD <| qu <| yV (.cons .tmp (.cons .tmp .nil)) qb8 <| wC .tmp .tmp zE ?_
 obtain ⟨p1, h⟩ := h
 refine qaV p1 ?_
 refine Zy (fI := D.int) (sh := fun (s2 : Unit) e => ∃ c3 c4 c5 c6 c7 c8 c9 c10 c11 c12 c13 : Option (D × Md), (setS (some c3) = true ∧ setS (some c4) = true ∧ setS (some c5) = true ∧ setS (some c6) = true ∧ setS (some c7) = true ∧ setS (some c8) = true ∧ setS (some c9) = true ∧ setS (some c10) = true ∧ setS (some c11) = true ∧ setS (some c12) = true ∧ setS (some c13) = true) ∧ e = [zS (eL D.int script), c3, c4, c5, c6, c7, c8, c9, c10, c11, c12, c13]) h ⟨_, _, _, _, _, _, _, _, _, _, _, ⟨rfl, rfl, rfl, rfl, rfl, rfl, rfl, rfl, rfl, rfl, rfl⟩, rfl⟩ (fun k' ha s2 e hs kk14 nxkk14 hJ14 h => ?_) ?_
 ·skip
  obtain ⟨c3, c4, c5, c6, c7, c8, c9, c10, c11, c12, c13, ⟨hc3, hc4, hc5, hc6, hc7, hc8, hc9, hc10, hc11, hc12, hc13⟩, rfl⟩ := hs
  refine g_n (e' := [_, _, _, _, _, _, _, _, _, _, _, _]) hc3 rfl (?_)
  refine wR <| s_asg <| c_fn <| qj <| qw rfl <| qj <| qw rfl <| qu ?_
  refine x_call (script, k') (fun t15 => [_, _, _, _, _, _, _, _, _, _, _, _]) h (.cons .cst (.cons .tmp .nil)) (qD yU (qD yU qZ)) (wY (by rfl)) (fun _ => rfl) fun t15 h => ?_
  refine g_n (e' := [_, _, _, _, _, _, _, _, _, _, _, _]) hc4 rfl ?_
  refine wR <| qeO <| qj <| uH <| qj <| c_mk <| qu ?_
  refine x_mk () (fun _ => w6 ([], [], 0)) (fun _ => [_, _, _, _, _, _, _, _, _, _, _, _]) (k := fun _ => True) trivial (.cons .z .nil) (by rfl) (by rfl) (fun _ => rfl) (fun _ => rfl) fun _ _ => ?_
  refine qj <| c_mk <| qu ?_
  refine x_mk () (fun _ => w6 ([], [], 0)) (fun _ => [_, _, _, _, _, _, _, _, _, _, _, _]) (k := fun _ => True) trivial (.cons .z .nil) (by rfl) (by rfl) (fun _ => rfl) (fun _ => rfl) fun _ _ => ?_
  refine qu <| xH w6 [([], [], 0), ([], [], 0)] (.cons .tmp (.cons .tmp .nil)) <| qj <| uH <| qj <| uH <| qj <| qfQ (kf := zk2) (f := D.bl) <| qu <| xH zD [([] : (List ((Int × Int) × Bool)))] (.cons .tmp .nil) <| qj <| uH <| qj <| qfQ (kf := zk2) (f := D.bl) <| qu <| xH zD [([] : (List ((Int × Int) × Bool)))] (.cons .tmp .nil) <| qu <| xH (eL zD) [[([] : (List ((Int × Int) × Bool)))], [([] : (List ((Int × Int) × Bool)))]] (.cons .tmp (.cons .tmp .nil)) <| qj <| uH <| qu <| xH (eF eJ) ([] : List (List J)) .nil <| qu <| qfb (f := (eL w6)) (g := (eL (eL zD))) (o := (eL (eF eJ))) (fun grounds stacks told => [zS (eL D.int script), zO (D.int k'), zO (eP t15), zO (eL w6 grounds), zO (eL (eL zD) stacks), zO (eL (eF eJ) told), c8, c9, c10, c11, c12, c13]) .tmp .tmp .tmp h hc5 hc6 hc7 (fun _ _ _ => rfl) fun grounds stacks told h => wR <| Z5 <| qhz <| c_fn <| qj <| qw rfl <| qj <| wD <| c_C <| c_fn <| qj <| qw rfl <| qj <| c_C <| qu ?_
  refine x_call (t15, 11) (fun t16 => [_, _, zO (eP t16.2), _, _, _, _, _, _, _, _, _]) h (.cons .z (.cons .tmp .nil)) (qD (by rfl) (qD yU qZ)) (by rfl) (fun _ => rfl) fun t16 h => ?_
  refine wC .tmp .tmp zE <| qu ?_
  refine x_call (t16.2, (10 + t16.1)) (fun t17 => [_, _, zO (eP t17.2), _, _, _, _, _, _, _, _, _]) h (.cons .z (.cons .tmp .nil)) (qD (by rfl) (qD yU qZ)) (by rfl) (fun _ => rfl) fun t17 h => ?_
  refine qiM ?_
  refine Zy (fI := (eT2 D.int (eT2 D.str zB))) (sh := fun (s18 : ((Int × Int) × (List (List ((Int × Int) × Bool) × List ((Int × Int × Int × Int) × List (Int × Int)) × Int)) × (List (List (List ((Int × Int) × Bool)))) × (List (List J)))) e => ∃ c19 c20 c21 c22 c23 c24 : Option (D × Md), (setS (some c19) = true ∧ setS (some c20) = true ∧ setS (some c21) = true ∧ setS (some c22) = true ∧ setS (some c23) = true ∧ setS (some c24) = true) ∧ e = [zS (eL D.int script), zO (D.int k'), zO (eP s18.1), zO (eL w6 s18.2.1), zO (eL (eL zD) s18.2.2.1), zO (eL (eF eJ) s18.2.2.2), c19, c20, c21, c22, c23, c24]) h ⟨_, _, _, _, _, _, ⟨hc8, hc9, hc10, hc11, hc12, hc13⟩, rfl⟩ (fun a25 ha s18 e hs kk26 nxkk26 hJ26 h => ?_) ?_
  ·skip
   obtain ⟨c19, c20, c21, c22, c23, c24, ⟨hc19, hc20, hc21, hc22, hc23, hc24⟩, rfl⟩ := hs
   refine g_T (by rfl) (yq (g_n (e' := [_, _, _, _, _, _, _, _, _, _, _, _]) hc19 rfl (yq (g_n (e' := [_, _, _, _, _, _, _, _, _, _, _, _]) hc20 rfl (Yb (?_))))))
   refine wR <| s_asg <| c_fn <| qj <| qw rfl <| qj <| c_C <| qu ?_
   refine x_call (s18.1, 2) (fun t27 => [_, _, zO (eP t27.2), _, _, _, _, _, _, _, _, _]) h (.cons .z (.cons .tmp .nil)) (qD (by rfl) (qD yU qZ)) (by rfl) (fun _ => rfl) fun t27 h => ?_
   refine g_n (e' := [_, _, _, _, _, _, _, _, _, _, _, _]) hc21 rfl ?_
   refine wR <| s_asg ?_
   obtain ⟨p33, h⟩ := h
   obtain ⟨x28, p30, h⟩ := h
   obtain ⟨x29, p31, h⟩ := h
   refine qi8 (t27.2, x28, x29, a25.2) (fun t32 => t32.2.2.1) (fun t32 => t32.2.2.2) (fun t32 => [_, _, zO (eP t32.2.1), zO (eL w6 (s18.2.1.set t27.1.toNat t32.2.2.1)), zO (eL (eL zD) (s18.2.2.1.set t27.1.toNat t32.2.2.2)), _, _, _, _, _, _, _]) p33 p30 p31 h (by rfl) (by rfl) (by rfl) (by rfl) (by rfl) (by decide) ⟨_, _, rfl, rfl⟩ ⟨_, _, rfl, rfl⟩ (by rfl) (by rfl) (.cons .z (.cons .z (.cons .z (.cons .z .nil)))) (fun _ => rfl) (fun _ => rfl) (fun _ => rfl) fun t32 h => ?_
   refine g_T (by rfl) (yq (g_n (e' := [_, _, _, _, _, _, _, _, _, _, _, _]) hc22 rfl (yq (g_n (e' := [_, _, _, _, _, _, _, _, _, _, _, _]) hc23 rfl (Yb (?_))))))
   refine wR <| s_if <| qhy <| j8 <| c_fn <| qj <| yt (by rfl) rfl fun r34 hr35 => qj <| qw rfl <| qu ?_
   refine x_call (((eO (eL (eT3 zP D.str D.str))) t32.1.1), ((eL (eT3 zP D.str D.str)) t32.1.2)) (fun t36 => [_, _, _, _, _, _, _, _, _, _, _, _]) h (.cons hr35.up (.cons .z .nil)) (qD yU (qD yU qZ)) (wY (by rfl)) (fun _ => rfl) fun t36 h => ?_
   refine j6 .tmp tr_b ?_
   refine Z8 h (fun hb h => ?_) (fun hb h => ?_)
   ·skip
    refine s_ret <| c_C <| xO <| wN <| wN ?_
    exact q false h
   refine Z4 <| wR ?_
   obtain ⟨x37, p38, h⟩ := h
   refine jk (e' := [_, _, _, _, _, _, _, _, _, _, _, _]) (by rw [p38] <;> rfl) <| u9 <| c_m1 (by rfl) (by rfl) (by decide) (by rfl) <| qw rfl ?_
   obtain ⟨p39, h⟩ := h
   refine qb5 (f := (eT3 zP D.str D.str)) (d := (toJ D.int a25.1)) (fun found => [_, _, _, _, _, _, _, _, _, zO (eL eJ found), _, _]) h .tmp (by rfl) p39 (fun _ => rfl) fun found h => wR <| qeQ (f := eJ) (e' := [_, _, _, _, _, _, _, _, _, _, _, _]) (by rfl) rfl <| u9 <| c_m1 (by rfl) (by rfl) (by decide) (by rfl) <| qw rfl ?_
   obtain ⟨p40, h⟩ := h
   refine WT (fun told => [_, _, _, _, _, zO (eL (eF eJ) told), _, _, _, _, _, _]) h (.of .z (Im.im (f := (eF eJ)) _)) (by rfl) p40 (fun _ => rfl) fun told h => Z5 <| jV <| xK <| qj <| c_C <| qj <| c_C <| qu <| qeg D.int [0, 1] (.cons .tmp (.cons .tmp .nil)) <| VM ?_
   refine Zy (fI := D.int) (sh := fun (s41 : Unit) e => ∃ c42 : Option (D × Md), (setS (some c42) = true) ∧ e = [zS (eL D.int script), zO (D.int k'), zO (eP t32.2.1), zO (eL w6 (s18.2.1.set t27.1.toNat t32.2.2.1)), zO (eL (eL zD) (s18.2.2.1.set t27.1.toNat t32.2.2.2)), zO (eL (eF eJ) told), zO (D.int a25.1), zO (eT2 D.str zB a25.2), zO (D.int t27.1), zO (eF eJ found), zO (eL (eT3 zP D.str D.str) t32.1.2), c42]) h ⟨_, hc24, rfl⟩ (fun one ha s41 e hs kk43 nxkk43 hJ43 h => ?_) ?_
   ·skip
    obtain ⟨c42, hc42, rfl⟩ := hs
    refine g_n (e' := [_, _, _, _, _, _, _, _, _, _, _, _]) hc42 rfl (?_)
    refine s_if <| j8 <| wD <| c_ro (m := .own) (e' := [_, _, _, _, _, _, _, _, _, _, _, _]) (by rfl) rfl rfl <| qfO <| ye <| qw rfl <| qw rfl ?_
    obtain ⟨x44, p45, h⟩ := h
    refine o_idx .ro .tmp (ix_L p45) (.ro rfl) <| qfd .ro ((zM (by decide +kernel)).trans ((zM (by decide +kernel)).trans ((zM (by decide +kernel)).trans rfl))) <| qu ?_
    refine x_call x44 (fun t46 => [_, _, _, _, _, _, _, _, _, _, _, _]) h (.cons .ro .nil) (qD (yr .ro) qZ) (wY (by rfl)) (fun _ => rfl) fun t46 h => ?_
    refine o_ro (e' := [_, _, _, _, _, _, _, _, _, _, _, _]) rfl <| c_ro (m := .own) (e' := [_, _, _, _, _, _, _, _, _, _, _, _]) (by rfl) rfl rfl <| xg <| qj <| xg <| qj <| ye <| ye <| qw rfl <| qw rfl ?_
    obtain ⟨x47, p48, h⟩ := h
    refine o_idx .ro .tmp (ix_L p48) (.ro rfl) <| qa6 <| c_C <| qaW .tmp ?_
    obtain ⟨x49, p50, h⟩ := h
    refine o_idx .ro .tmp (ix_L p50) (.ro rfl) <| qu <| yV (.cons .ro .nil) (V1 (c := zP)) <| qu <| yV (.cons .tmp .nil) (VR (f := zP)) <| o_ro (e' := [_, _, _, _, _, _, _, _, _, _, _, _]) rfl <| wC .tmp .tmp (op_ne (f := zV)) <| j6 .tmp tr_b ?_
    refine Z8 h (fun hb h => ?_) (fun hb h => ?_)
    ·skip
     refine s_ret <| c_C <| xO <| wN <| wN <| wN ?_
     exact q false h
    refine Z4 ?_
    exact hJ43 () _ ⟨_, rfl, rfl⟩ h
   rintro s41 e hs h
   obtain ⟨c42, hc42, rfl⟩ := hs
   refine wN ?_
   exact hJ26 (t32.2.1, (s18.2.1.set t27.1.toNat t32.2.2.1), (s18.2.2.1.set t27.1.toNat t32.2.2.2), told) _ ⟨_, _, _, _, _, _, ⟨rfl, rfl, rfl, rfl, rfl, hc42⟩, rfl⟩ h
  rintro s18 e hs h
  obtain ⟨c19, c20, c21, c22, c23, c24, ⟨hc19, hc20, hc21, hc22, hc23, hc24⟩, rfl⟩ := hs
  refine wN <| s_if <| j8 <| wD <| c_lc <| jV <| qw rfl <| qdy (e' := [_, _, _, _, _, _, _, _, _, _, _, _]) rfl rfl rfl ?_
  obtain ⟨p51, h⟩ := h
  refine qdz (fI := (eF eJ)) (fo := D.int) (sh := fun (s : Unit) e => e = [zS (eL D.int script), zO (D.int k'), zO (eP s18.1), zO (eL w6 s18.2.1), zO (eL (eL zD) s18.2.2.1), some ((eL (eF eJ)) s18.2.2.2, .lk), c19, c20, c21, c22, c23, none]) h (all1 hc24) p51 rfl (fun one ha s e hs w c k1 k2 hc h1 h2 h => ?_) ?_
  ·obtain rfl := hs
   refine g_n (e' := [_, _, _, _, _, _, _, _, _, _, _, _]) rfl rfl (?_)
   refine qdU <| ye <| qw rfl <| qa6 <| c_C <| qaW .tmp ?_
   obtain ⟨x52, p53, h⟩ := h
   refine o_idx .z .tmp (ix_F p53) (.sl (Im.im (f := eJ) _)) ?_
   obtain ⟨v54, p55, h⟩ := h
   refine qhw p55 ?_
   exact o_el .tmp hc rfl (h1 _ () _ rfl h)
  rintro l56 s57 e hs h
  obtain rfl := hs
  refine jN (e' := [_, _, _, _, _, _, _, _, _, _, _, _]) rfl <| VL (e' := [_, _, _, _, _, _, _, _, _, _, _, _]) rfl rfl <| qfP <| xg <| qj <| qw rfl <| qu <| yV (.cons .z .nil) ZD ?_
  obtain ⟨p58, h⟩ := h
  refine qfe .tmp p58 <| wC .tmp .tmp (op_ne (f := (eL D.int))) <| j6 .tmp tr_b ?_
  refine Z8 h (fun hb h => ?_) (fun hb h => ?_)
  ·skip
   refine s_ret <| c_C <| xO <| wN ?_
   exact q false h
  refine Z4 ?_
  exact hJ14 () _ ⟨_, _, _, _, _, _, _, _, _, _, _, ⟨rfl, rfl, rfl, rfl, rfl, hc19, hc20, hc21, hc22, hc23, hc24⟩, rfl⟩ h
 rintro s2 e hs h
 obtain ⟨c3, c4, c5, c6, c7, c8, c9, c10, c11, c12, c13, ⟨hc3, hc4, hc5, hc6, hc7, hc8, hc9, hc10, hc11, hc12, hc13⟩, rfl⟩ := hs
 refine wN <| s_ret <| c_C <| xO ?_
 exact q true h
end K47
namespace K47
open PySem PySem.Spec PyProof.Rows L2 BX TX COM BC
inductive Chn : Dds → List Sd → Prop
 | nil {a : Sd} : SdOk a → Chn [] [a]
 | snoc {ds : Dds} {st : List Sd} {a m : Sd} {b : B4} {cells : List C2} : Chn ds (st ++ [a]) → SdOk m → BoxS b → cells.Nodup → cells.length ≤ 144 → (∀ c ∈ cells, c ∈ celB b) → (∀ c, hasA m c = (hasA a c ^^ memB c cells)) → Chn (ds ++ [(b, cells)]) (st ++ [a] ++ [m])
theorem Chn.len {ds : Dds} {st : List Sd} (h : Chn ds st) : st.length = ds.length + 1 := by
 induction h with
 | nil => rfl
 | snoc _ _ _ _ _ _ _ ih => simp at ih ⊢; omega
theorem Vt {α : Type} {st : List α} {a b : α} (e : st ++ [a] = [b]) : st = [] ∧ a = b := by
 cases st with
 | nil => exact ⟨rfl, by simpa using e⟩
 | cons x st => simp at e
theorem Chn.ok {ds : Dds} {st : List Sd} {a : Sd} (h : Chn ds (st ++ [a])) : SdOk a := by
 generalize e : st ++ [a] = l at h
 cases h with
 | nil h => 
   obtain ⟨_, rfl⟩ := Vt e
   exact h
 | snoc _ h =>
   have := List.append_inj' e rfl
   cases this.2
   exact h
theorem Z3 {α : Type} {l : List α} {a : α} : atI (l ++ [a]) (-1) = some a := by
 unfold atI L2.ixN
 rw [if_neg (by omega), if_pos (by simp; omega)]
 have : (-1 + ((l ++ [a]).length : Int)).toNat = l.length := by simp; omega
 rw [this]
 simp
theorem qdW {α : Type} {l : List α} {a b : α} : atI (l ++ [a] ++ [b]) (-2) = some a := by
 unfold atI L2.ixN
 rw [if_neg (by omega), if_pos (by simp; omega)]
 have : (-2 + ((l ++ [a] ++ [b]).length : Int)).toNat = l.length := by simp; omega
 rw [this]
 simp
abbrev Gd := Sd × Dds × Int
def Inv (n : Nat) (s : Gd × List Sd) : Prop := ∃ st a, s.2 = st ++ [a] ∧ Chn s.1.2.1 (st ++ [a]) ∧ SdEq s.1.1 a ∧ s.1.2.1.length ≤ n
theorem Inv.up {n m : Nat} {s : Gd × List Sd} (h : Inv n s) (hm : n ≤ m) : Inv m s := by
 obtain ⟨st, a, h1, h2, h3, h4⟩ := h
 exact ⟨st, a, h1, h2, h3, Nat.le_trans h4 hm⟩
abbrev TK := ((Option (List BC.Row)) × List BC.Row) × (Int × Int) × Gd × List Sd
theorem Vs {t : Int × Int} {g : Gd} {st : List Sd} {d : Deed} {n : Nat} {kr : TK → Prop} (ht : TpOk t) (h : Inv n (g, st)) (hn : n ≤ 1000) (hd : Wv d) (hk : ∀ P (h h' : C2 → Bool) t' g' st', P.length ≤ 100000 → TpOk t' → Inv (n + 1) (g', st') → kr ((some (xW P h h'), xW P h h'), t', g', st')) : jF t g st d kr := by
 obtain ⟨s0, a, rfl, hc, hs, hl⟩ := h
 dsimp only at hc hs hl
 obtain ⟨d0, ds, lo⟩ := g
 dsimp only at hc hs hl
 unfold jF
 simp only [lt]
 have hlen := hc.len
 have undo : ∀ t' : Int × Int, TpOk t' → 1 < (s0 ++ [a]).length → exW (s0 ++ [a]).getLast? fun x4 => xq (d0, ds, lo) fun t6 => exW (atI (s0 ++ [a]).dropLast (-1)) fun x7 => qQ x4 x7 fun t9 => kr ((t6.1, t9), t', t6.2, (s0 ++ [a]).dropLast) := fun t' ht' lg => by
  generalize e : s0 ++ [a] = l at hc lg
  cases hc with
  | @nil a' ha =>
    obtain ⟨rfl, rfl⟩ := Vt e
    simp at lg
  | @snoc ds st a' m b cells hc hm hb nd cl ci hx =>
    obtain ⟨rfl, h2⟩ := List.append_inj' e rfl
    cases h2
    have la := hm.len
    have ls := hs.len
    have ha' := hc.ok
    have la' := ha'.len
    have lpt := YZ hb
    refine ⟨a, by simp, qgr hb nd hs.1 (by omega) fun d h1 h2 => ?_⟩
    rw [List.dropLast_concat]
    refine ⟨a', Z3, ?_⟩
    have hb2 : ∀ c, hasA d c = hasA a' c := fun c => by
     rw [h2, hs.fn, hx]; cases hasA a' c <;> cases memB c cells <;> rfl
    have fe : hasA d = hasA a' := funext hb2
    have hs' : SdEq d a' := ⟨h1, ha'.1, hb2⟩
    refine Zw (by omega) (by omega) ?_
    have er : xW (ptsT a a') (hasA a) (hasA a') = xW (ptsB b) (hasA d0) (hasA d) := by
     rw [hs.fn, fe, X3 (b := b) (a := a) (m := a') (fun _ => rfl) (fun _ => rfl) (fun c hc => ci c (je.mp ?_))]
     revert hc
     rw [hx]
     cases hasA a' c <;> cases memB c cells <;> simp
    rw [er]
    refine hk _ _ _ _ _ _ (by omega) ht' ⟨st, a', rfl, hc, hs', ?_⟩
    dsimp only
    simp at hl
    omega
 have doit : ∀ t' : Int × Int, TpOk t' → exW (atI (s0 ++ [a]) (-1)) fun x10 => xm x10 d fun t12 => ((s0 ++ [a]).length < sizeLine) ∧ jG (d0, ds, lo) d fun t14 => exW (atI ((s0 ++ [a]) ++ [t12]) (-2)) fun x15 => exW (atI ((s0 ++ [a]) ++ [t12]) (-1)) fun x17 => qQ x15 x17 fun t19 => kr ((some t14.1, t19), t', t14.2, (s0 ++ [a]) ++ [t12]) := fun t' ht' => by
  have ha := hc.ok
  have l1 := ha.len
  have l2 := hs.len
  have l3 := hc.len
  refine ⟨a, Z3, qhk ha hd fun m hm hmh => ⟨by rw [sz]; omega, do_w hd hs.1 (by show d0.length ≤ _; omega) (by show ds.length ≤ _; omega) fun e1 e2 e3 => ⟨a, qdW, m, Z3, ?_⟩⟩⟩
  have lm := hm.len
  have hs' : SdEq e1 m := ⟨e2, hm.1, fun c => by rw [e3, hmh, hs.fn]⟩
  have tl := qbA (h := hasA d0) (d := d)
  have cl := W8 hd.2.1
  have lpt := YZ hd.2.1
  refine Zw (by omega) (by omega) ?_
  have er : xW (ptsT a m) (hasA a) (hasA m) = xW (ptsB d.2) (hasA d0) (hasA e1) := by
   rw [hs.fn, hs'.fn, X3 (b := d.2) (a := a) (m := m) (fun _ => rfl) (fun _ => rfl) (fun c hc => ?_)]
   rw [hmh] at hc
   exact qfB hc
  dsimp only
  rw [er]
  refine hk _ _ _ _ _ _ (by omega) ht' ⟨s0 ++ [a], m, rfl, .snoc hc hm hd.2.1 qdj (by omega) (fun c hc => qdk hc) (fun c => ?_), hs', ?_⟩
  ·rw [hmh, ← YG, hs.fn]
  ·dsimp only
   rw [List.length_append]
   show _ + 1 ≤ _
   omega
 have rest : ∀ (b : Bool) (t' : Int × Int), TpOk t' → (b = true → 1 < (s0 ++ [a]).length) → ifP b (exW (s0 ++ [a]).getLast? fun x4 => xq (d0, ds, lo) fun t6 => exW (atI (s0 ++ [a]).dropLast (-1)) fun x7 => qQ x4 x7 fun t9 => kr ((t6.1, t9), t', t6.2, (s0 ++ [a]).dropLast))
  (exW (atI (s0 ++ [a]) (-1)) fun x10 => xm x10 d fun t12 => ((s0 ++ [a]).length < sizeLine) ∧ jG (d0, ds, lo) d fun t14 => exW (atI ((s0 ++ [a]) ++ [t12]) (-2)) fun x15 => exW (atI ((s0 ++ [a]) ++ [t12]) (-1)) fun x17 => qQ x15 x17 fun t19 => kr ((some t14.1, t19), t', t14.2, (s0 ++ [a]) ++ [t12])) := fun b t' ht' hb => by
  cases b with
  | true => exact qi1 rfl (undo t' ht' (hb rfl))
  | false => exact qi2 rfl (doit t' ht')
 cases hb : decide (1 < ((s0 ++ [a]).length : Int)) with
 | true =>
   have lg := of_decide_eq_true hb
   exact qiZ rfl (uF ht (by decide) (by decide) fun z t' _ _ ht' => rest _ t' ht' fun _ => by omega)
 | false => exact qi0 rfl (rest _ t ht fun z => by cases z)
inductive Told : List (List J) → Prop
 | nil : Told []
 | snoc {told : List (List J)} {l : List J} : Told told → Told (told ++ [l ++ [toJ D.int (told.length : Int)]])
def qcl (l : List J) : Int := match l.getLast? with
 | some j => (match j.1 with
   | .int i => i
   | _ => 0)
 | none => 0
theorem last_snoc {l : List J} {i : Int} : qcl (l ++ [toJ D.int i]) = i := by
 unfold qcl
 rw [List.getLast?_append]
 rfl
theorem Told.last {told : List (List J)} (h : Told told) : ∀ l ∈ told, ∃ k i, l = k ++ [toJ D.int i] := by
 induction h with
 | nil => intro l hl; cases hl
 | snoc _ ih =>
   intro l hl
   rcases List.mem_append.mp hl with hl | hl
   ·exact ih l hl
   ·rw [List.mem_singleton] at hl
    exact ⟨_, _, hl⟩
theorem qdi (n : Nat) : upN ((n : Int) + 1) = upN (n : Int) ++ [(n : Int)] := by
 unfold upN
 have : ((n : Int) + 1).toNat = n + 1 := by omega
 rw [this, Int.toNat_natCast, List.range_succ, List.map_append]
 rfl
theorem Told.all {told : List (List J)} (h : Told told) : told.map qcl = upN (told.length : Int) := by
 induction h with
 | nil => rfl
 | @snoc told l _ ih =>
   rw [List.map_append, List.length_append, ih]
   show _ ++ [qcl _] = upN ((told.length + 1 : Nat) : Int)
   rw [last_snoc]
   exact (qdi _).symm
theorem qfz {α : Type} {bs : List α} {p : List (Int × α)} {a : Int × α} {q : List (Int × α)} (e : Xg bs = p ++ a :: q) : a.1 = p.length ∧ a.2 ∈ bs ∧ p.length < bs.length := by
 have h : (Xg bs)[p.length]? = some a := by rw [e, List.getElem?_append_right (Nat.le_refl _)]; simp
 unfold Xg at h
 rw [List.getElem?_mapIdx] at h
 cases z : bs[p.length]? with
 | none => rw [z] at h; cases h
 | some y =>
   rw [z] at h
   cases h
   exact ⟨rfl, List.mem_of_getElem? z, (List.getElem?_eq_some_iff.mp z).1⟩
theorem qgu {x y : D} {kr : Bool → Prop} (e : x = y) (h : xX 4 y) (hk : kr true) : uJ x y kr := ⟨e, by first | exact h | (rw [e]; exact h), hk⟩
theorem qgJ {n : Nat} {gs : List Gd} {ss : List (List Sd)} {one : Int} {g : Gd} {st : List Sd} {k q : Prop} (hg : atI gs one = some g) (hs : atI ss one = some st) (h : Inv n (g, st)) (hk : k) :
 exW (atI gs one) fun x44 => yw x44 fun t46 => exW (atI ss one) fun x47 => exW (atI x47 (-1)) fun x49 => ifP (!(decide (t46 = (srt tl2 (x49.map (·.1)))))) q k := by
 obtain ⟨s0, a, rfl, hc, he, hl⟩ := h
 refine ⟨g, hg, ?_⟩
 refine ⟨_, hs, a, Z3, ?_⟩
 have : decide (srt tl2 (g.1.map (·.1)) = srt tl2 (a.map (·.1))) = true := decide_eq_true he.srt
 show ifP (!decide (srt tl2 (g.1.map (·.1)) = srt tl2 (a.map (·.1)))) q k
 rw [this]
 exact ⟨fun z => (by cases z), fun _ => hk⟩
theorem qdO {t : Int × Int} {many : Int} {kr : List Deed × (Int × Int) → Prop} (ht : TpOk t) (h0 : 0 ≤ many) (h1 : many ≤ 1000) (hk : ∀ l t', (l.length : Int) = many → (∀ d ∈ l, Wv d) → TpOk t' → kr (l, t')) : zN t many kr := by
 show BC.zN t many kr
 exact qfE ht h0 h1 hk
theorem qiT (ns : List Int) {kr : Bool → Prop} (hk : kr true) : qdh ns kr := by
 unfold qdh
 simp only [lt]
 refine ⟨Yl (by omega) (by omega) (by omega) (by omega), qdJ (fun _ => True) trivial ?_ (fun _ _ => hk)⟩
 intro k hk1 _ kk _ hkk
 rw [qcf] at hk1
 refine qgt (by omega) (by omega) fun t ht => uF ht (by decide) (by decide) fun m t1 m0 m1 h1 => ?_
 refine qdO h1 (by dsimp only; omega) (by dsimp only; omega) fun ds t2 hl hds h2 => ?_
 dsimp only at hl m1 ⊢
 refine jZ (fun p s => TpOk s.1 ∧ (∃ g0 g1 s0 s1, s.2.1 = [g0, g1] ∧ s.2.2.1 = [s0, s1] ∧ Inv p.length (g0, s0) ∧ Inv p.length (g1, s1)) ∧ Told s.2.2.2 ∧ s.2.2.2.length = p.length) ⟨h2, ⟨_, _, _, _, rfl, rfl, ?_, ?_⟩, .nil, rfl⟩ ?_ ?_
 ·exact ⟨[], [], rfl, .nil Vw, ⟨List.nodup_nil, List.nodup_nil, fun _ => rfl⟩, Nat.le_refl _⟩
 ·exact ⟨[], [], rfl, .nil Vw, ⟨List.nodup_nil, List.nodup_nil, fun _ => rfl⟩, Nat.le_refl _⟩
 ·rintro p ⟨j, d⟩ q ⟨u, gs, ss, told⟩ kk2 e ⟨hu, ⟨g0, g1, s0, s1, e1, e2, i0, i1⟩, ht, hlt⟩ hkk2
  dsimp only at hu e1 e2 i0 i1 ht hlt ⊢
  subst e1 e2
  obtain ⟨ej, dm, pl⟩ := qfz e
  dsimp only at ej dm
  subst ej
  have hd := hds d dm
  have fin : ∀ (P : List C2) (h h' : C2 → Bool) (t' : Int × Int) (gs' : List Gd) (ss' : List (List Sd)) (g0' g1' : Gd) (s0' s1' : List Sd), P.length ≤ 100000 → TpOk t' → gs' = [g0', g1'] → ss' = [s0', s1'] → Inv (p.length + 1) (g0', s0') → Inv (p.length + 1) (g1', s1') →
   uJ ((eO (eL (eT3 (eT2 D.int D.int) D.str D.str))) (some (xW P h h'))) ((eL (eT3 (eT2 D.int D.int) D.str D.str)) (xW P h h')) fun t36 =>
   ifP (!t36) (kr false) <| exW (some (xW P h h')) fun x37 => (x37.length < sizeLine) ∧ (told.length < sizeLine) ∧
   forW [(0 : Int), 1] () (fun one (s41 : Unit) kk43 => exW (atI gs' one) fun x44 => yw x44 fun t46 => exW (atI ss' one) fun x47 => exW (atI x47 (-1)) fun x49 => ifP (!(decide (t46 = (srt tl2 (x49.map (·.1)))))) (kr false) <| kk43 ()) fun s41 =>
   kk2 (t', gs', ss', told ++ [x37.map (toJ (eT3 (eT2 D.int D.int) D.str D.str)) ++ [(toJ D.int (p.length : Int))]]) := fun P h h' t' gs' ss' g0' g1' s0' s1' hP ht' eg es v0 v1 => by
   refine qgu rfl (qeN (by omega)) ⟨fun z => (by cases z), fun _ => ⟨_, rfl, ?_, by rw [sz]; omega, ?_⟩⟩
   ·have := Vz P h h'
    rw [sz]; omega
   ·refine qgJ (g := g0') (st := s0') (by rw [eg] <;> rfl) (by rw [es] <;> rfl) v0 (qgJ (g := g1') (st := s1') (by rw [eg] <;> rfl) (by rw [es] <;> rfl) v1 ?_)
    refine hkk2 _ ⟨ht', ⟨g0', g1', s0', s1', eg, es, by rw [List.length_append]; exact v0, by rw [List.length_append]; exact v1⟩, ?_, ?_⟩
    ·dsimp only
     rw [← hlt]
     exact .snoc ht
    ·dsimp only
     rw [List.length_append, List.length_append, hlt]; rfl
  refine uF hu (by decide) (by decide) fun z t3 z0 z1 h3 => ?_
  dsimp only at z1 ⊢
  have hz : z = 0 ∨ z = 1 := by omega
  rcases hz with rfl | rfl
  ·refine ⟨by decide, g0, rfl, s0, rfl, Vs h3 i0 (by omega) hd fun P h h' t' g' st' hP ht' hi => ?_⟩
   exact fin P h h' t' _ _ g' g1 st' s1 hP ht' rfl rfl hi (i1.up (Nat.le_succ _))
  ·refine ⟨by decide, g1, rfl, s1, rfl, Vs h3 i1 (by omega) hd fun P h h' t' g' st' hP ht' hi => ?_⟩
   exact fin P h h' t' _ _ g0 g' s0 st' hP ht' rfl rfl (i0.up (Nat.le_succ _)) hi
 ·rintro ⟨u, gs, ss, told⟩ ⟨_, _, ht, hlt⟩
  dsimp only at ht hlt ⊢
  have le : (Xg ds).length = ds.length := by unfold Xg; rw [List.length_mapIdx]
  refine ⟨by rw [sz]; omega, Xa qcl (fun l hl w hw => ?_) ⟨by omega, ?_⟩⟩
  ·obtain ⟨k, i, rfl⟩ := ht.last l hl
   rw [last_snoc] at hw
   exact ⟨_, Z3, i, rfl, hw⟩
  ·rw [ht.all, decide_eq_true rfl]
   exact ⟨fun z => (by cases z), fun _ => hkk _ trivial⟩
end K47
namespace K47
open PySem PySem.Spec PyProof.Rows L2 BX COM BC
def topS (i : Nat) : Stmt := PySem.Challenge.pw_boxcut_k47_two_sites.main.body.getD i (.Pass ⟨0, 0, 0, 0⟩)
abbrev zQ : Stmt := topS 3
theorem Qq : FnScope ["point", "x", "y"] ["point"] (defScope zQ) := ⟨rfl, rfl, rfl, by decide +kernel, rfl, by decide +kernel, by decide +kernel⟩
section
variable {P : Program} {w : World} {K : PySem.W.Frag} {mg : Str → Option Value} {base : Heap} {k : Nat} {f : Addr} {cdv : Value} {A : Around} {outer : List PySem.Env} {s : Shared} {H : Hp} {E : XK}
theorem rk {N : List Str} {x : Str} {sc : Scope} {b : List Stmt} {t : XS} (hr : Room k (A.deeper (envOfC x sc s.heap.objs.size f cdv))) (q : Ok (cxOf CX0 P w K mg base N x sc f cdv A outer s H E).nox → DSs (cxOf CX0 P w K mg base N x sc f cdv A outer s H E).nox b t) : DSs (cxOf CX0 P w K mg base N x sc f cdv A outer s H E).nox b t := q (Room.ok hr)
theorem Jv
 (hr : Room k (A.deeper (envOfC "near_cells" (defScope zQ) s.heap.objs.size f cdv))) :
 DSs (cxOf CX0 P w K mg base ["point", "x", "y"] "near_cells" (defScope zQ) f cdv A outer s H E).nox (defBody zQ) vA := by
 refine rk hr fun hx => ?_
 have nd := Qq.nd
 exact (qG (ZM (qd 0) (vJ hx (qX (qJ nd) (qX (qJ nd) jR))))
  (qM (wA (zf (qb (zf (qb (qK jL (qd 1) qC) (qb (qK jL (qd 2) qC) qp))) (qb (zf (qb (qd 1) (qb (qK jL (qd 2) qC) qp))) (qb (zf (qb (qd 1) (qb (qd 2) qp))) (qb (zf (qb (qK jL (qd 1) qC) (qb (qd 2) qp))) qp))))))))
abbrev xM : Stmt := topS 4
theorem Yi : FnScope ["there", "many", "one"] ["there"] (defScope xM) := ⟨rfl, rfl, rfl, by decide +kernel, rfl, by decide +kernel, by decide +kernel⟩
theorem qcN (m_int : mg "int" = none) (m_sum : mg "sum" = none) (g_KINDS : Gv K mg "KINDS" Vg)
 (hr : Room k (A.deeper (envOfC "kind_by" (defScope xM) s.heap.objs.size f cdv))) :
 DSs (cxOf CX0 P w K mg base ["there", "many", "one"] "kind_by" (defScope xM) f cdv A outer s H E).nox (defBody xM) Zf := by
 refine rk hr fun hx => ?_
 have nd := Yi.nd
 exact (qG (yZ nd (zq (qht hx) (by rfl) m_sum (by decide +kernel) (qb (WK (own := [("one", 2)]) (ts := [2]) hx nd (jQ (qd 0)) (blkOk_by (own := [("one", 2)]) (N := ["there", "many", "one"]) (sc := defScope xM) (by decide +kernel)) (fun _ _ _ _ _ => (qJ nd)) (fun _ _ _ _ _ => j7) (fun _ _ _ _ _ => (yI qcY (by rfl) m_int (by decide +kernel) (qb (qd 2) qp))) (by decide)) qp)))
  (qG (vm (yX (Z7 hx) (qd 1) qC (by rfl) JC) (qM (wA (qU hx (qfJ (by rfl) g_KINDS) (qd 1)))) jj)
  (qM (wA (qho (yX (Wz hx) (qU hx (qd 0) qC) (qU hx (qd 0) qC) (by rfl) JF) j5 j5)))))
abbrev xN : Stmt := topS 5
theorem Yj : FnScope ["room", "point", "cell"] ["room", "point"] (defScope xN) := ⟨rfl, rfl, rfl, by decide +kernel, rfl, by decide +kernel, by decide +kernel⟩
theorem qcO {xR zr : FS} (F_kind_by : Fn P w K mg base "kind_by" k ["there"] xR) (F_near_cells : Fn P w K mg base "near_cells" k ["point"] zr)
 (hr : Room k (A.deeper (envOfC "kind_at" (defScope xN) s.heap.objs.size f cdv))) :
 DSs (cxOf CX0 P w K mg base ["room", "point", "cell"] "kind_at" (defScope xN) f cdv A outer s H E).nox (defBody xN) (Zg xR zr) := by
 refine rk hr fun hx => ?_
 have nd := Yj.nd
 exact (qM (wA (yP F_kind_by hr (by rfl) (qb (WK (own := [("cell", 2)]) (ts := [2]) hx nd (jQ (yP F_near_cells hr (by rfl) (qb (qd 1) qp))) (blkOk_by (own := [("cell", 2)]) (N := ["room", "point", "cell"]) (sc := defScope xN) (by decide +kernel)) (fun _ _ _ _ _ => (qJ nd)) (fun _ _ _ _ _ => j7) (fun _ _ _ _ _ => (QK (qb0 (hx).blk) (qd 2) (qd 0) (by rfl))) (by decide)) qp))))
abbrev yL : Stmt := topS 7
theorem Zq : FnScope ["box", "x", "y", "wide", "high", "found", "column", "row"] ["box"] (defScope yL) := ⟨rfl, rfl, rfl, by decide +kernel, rfl, by decide +kernel, by decide +kernel⟩
theorem qaZ (m_tuple : mg "tuple" = none) (m_range : mg "range" = none)
 (hr : Room k (A.deeper (envOfC "cells_of" (defScope yL) s.heap.objs.size f cdv))) :
 DSs (cxOf CX0 P w K mg base ["box", "x", "y", "wide", "high", "found", "column", "row"] "cells_of" (defScope yL) f cdv A outer s H E).nox (defBody yL) QV := by
 refine rk hr fun hx => ?_
 have nd := Zq.nd
 exact (qG (ZM (qd 0) (vJ hx (qX (qJ nd) (qX (qJ nd) (qX (qJ nd) (qX (qJ nd) jR))))))
  (qG (yZ nd (xf qp))
  (qG (vP hx (Jr (qd 1) (qK zK (qd 1) (qd 3)) m_range) (qJ nd) (qM (jt (QJ (qd 5) (WK (own := [("row", 7)]) (ts := [7]) hx nd (Jr (qd 2) (qK zK (qd 2) (qd 4)) m_range) (blkOk_by (own := [("row", 7)]) (N := ["box", "x", "y", "wide", "high", "found", "column", "row"]) (sc := defScope yL) (by decide +kernel)) (fun _ _ _ _ _ => (qJ nd)) (fun _ _ _ _ _ => j7) (fun _ _ _ _ _ => (zf (qb (qd 6) (qb (qd 7) qp)))) (by decide))))))
  (qM (wA (yI QR (by rfl) m_tuple (by decide +kernel) (qb (qd 5) qp)))))))
abbrev zX : Stmt := topS 9
theorem Wi : FnScope ["box", "x", "y", "wide", "high", "found", "k", "j"] ["box"] (defScope zX) := ⟨rfl, rfl, rfl, by decide +kernel, rfl, by decide +kernel, by decide +kernel⟩
theorem UL (m_range : mg "range" = none)
 (hr : Room k (A.deeper (envOfC "points_of" (defScope zX) s.heap.objs.size f cdv))) :
 DSs (cxOf CX0 P w K mg base ["box", "x", "y", "wide", "high", "found", "k", "j"] "points_of" (defScope zX) f cdv A outer s H E).nox (defBody zX) vX := by
 refine rk hr fun hx => ?_
 have nd := Wi.nd
 exact (qG (ZM (qd 0) (vJ hx (qX (qJ nd) (qX (qJ nd) (qX (qJ nd) (qX (qJ nd) jR))))))
  (qG (yZ nd (xf qp))
  (qG (vP hx (uG (qK zK (qd 3) qC) m_range) (qJ nd) (qM (jt (QJ (qd 5) (WK (own := [("j", 7)]) (ts := [7]) hx nd (uG (qK zK (qd 4) qC) m_range) (blkOk_by (own := [("j", 7)]) (N := ["box", "x", "y", "wide", "high", "found", "k", "j"]) (sc := defScope zX) (by decide +kernel)) (fun _ _ _ _ _ => (qJ nd)) (fun _ _ _ _ _ => j7) (fun _ _ _ _ _ => (zf (qb (qK zK (qd 1) (qd 6)) (qb (qK zK (qd 2) (qd 7)) qp)))) (by decide))))))
  (qM (wA (qd 5))))))
abbrev wW : Stmt := inClass (topS 10) 0
theorem u6 : FnScope ["self"] ["self"] (defScope wW) := ⟨rfl, rfl, rfl, by decide +kernel, rfl, by decide +kernel, by decide +kernel⟩
theorem ZS (c_Site_own_looked : ObF K "Site" "own_looked") (c_Site_own_deeds : ObF K "Site" "own_deeds") (c_Site_own_cells : ObF K "Site" "own_cells")
 (hr : Room k (A.deeper (envOfC "Site.__init__" (defScope wW) s.heap.objs.size f cdv))) :
 DSs (cxOf CX0 P w K mg base ["self"] "Site.__init__" (defScope wW) f cdv A outer s H E).nox (defBody wW) jK := by
 refine rk hr fun hx => ?_
 have nd := u6.nd
 exact (qG (Xi qcK (qd 0) c_Site_own_cells)
  (qG (Xi (xf qp) (qd 0) c_Site_own_deeds)
  (qM (Xi qC (qd 0) c_Site_own_looked))))
abbrev wH : Stmt := inClass (topS 10) 1
theorem u5 : FnScope ["self", "point", "x", "y", "near", "cell"] ["self", "point"] (defScope wH) := ⟨rfl, rfl, rfl, by decide +kernel, rfl, by decide +kernel, by decide +kernel⟩
theorem ZR {xT : FS} (F_kind_at : Fn P w K mg base "kind_at" k ["room", "point"] xT) (c_Site_own_cells : ObF K "Site" "own_cells") (m_tuple : mg "tuple" = none)
 (hr : Room k (A.deeper (envOfC "Site.kind_now" (defScope wH) s.heap.objs.size f cdv))) :
 DSs (cxOf CX0 P w K mg base ["self", "point", "x", "y", "near", "cell"] "Site.kind_now" (defScope wH) f cdv A outer s H E).nox (defBody wH) (jJ xT) := by
 refine rk hr fun hx => ?_
 have nd := u5.nd
 exact (qG (ZM (yH (qd 1)) (vJ hx (qX (qJ nd) (qX (qJ nd) jR))))
  (qG (yZ nd (xf (qb (zf (qb (qK jL (qd 2) qC) (qb (qK jL (qd 3) qC) qp))) (qb (zf (qb (qK jL (qd 2) qC) (qb (qd 3) qp))) (qb (zf (qb (qd 2) (qb (qK jL (qd 3) qC) qp))) (qb (zf (qb (qd 2) (qb (qd 3) qp))) qp))))))
  (qM (wA (yP F_kind_at hr (by rfl) (qb (yI QR (by rfl) m_tuple (by decide +kernel) (qb (WK (own := [("cell", 5)]) (ts := [5]) hx nd (jQ (qd 4)) (blkOk_by (own := [("cell", 5)]) (N := ["self", "point", "x", "y", "near", "cell"]) (sc := defScope wH) (by decide +kernel)) (fun _ _ _ _ _ => (qJ nd)) (fun _ _ _ _ _ => (Wc (Xh (qb0 (hx).blk) (yH (qd 5)) (Yr (qd 0) c_Site_own_cells) JD))) (fun _ _ _ _ _ => (yH (qd 5))) (by decide)) qp)) (qb (yH (qd 1)) qp)))))))
abbrev wz : Stmt := inClass (topS 10) 2
theorem jY : FnScope ["self", "cells", "cell"] ["self", "cells"] (defScope wz) := ⟨rfl, rfl, rfl, by decide +kernel, rfl, by decide +kernel, by decide +kernel⟩
theorem We (c_Site_own_cells : ObF K "Site" "own_cells")
 (hr : Room k (A.deeper (envOfC "Site.turn_cells" (defScope wz) s.heap.objs.size f cdv))) :
 DSs (cxOf CX0 P w K mg base ["self", "cells", "cell"] "Site.turn_cells" (defScope wz) f cdv A outer s H E).nox (defBody wz) jc := by
 refine rk hr fun hx => ?_
 have nd := jY.nd
 exact (qM (vP hx (jQ (yH (qd 1))) (qJ nd) (qM (vm (Xh (qb0 hx) (qd 2) (Yr (qd 0) c_Site_own_cells) JD) (qM (jt (qev qg3 PySem.F.plainAttrs_dict PySem.F.slot_dict_pop PySem.F.type_dict_pop (qfj (by have := (hx).un; omega)) (qd 0) c_Site_own_cells (qb (qd 2) qp)))) (qM (qfA hx UJ (qd 0) c_Site_own_cells (qd 2)))))))
abbrev wG : Stmt := inClass (topS 10) 3
theorem vO : FnScope ["self", "box", "cells", "points", "earlier", "now", "point", "old", "new"] ["self", "box", "cells"] (defScope wG) := ⟨rfl, rfl, rfl, by decide +kernel, rfl, by decide +kernel, by decide +kernel⟩
theorem Xl {wj qY yf : FS} (F_Site_kind_now : Mt P w K mg base "Site" "kind_now" k ["self", "point"] wj) (F_Site_turn_cells : Mt P w K mg base "Site" "turn_cells" k ["self", "cells"] qY) (F_points_of : Fn P w K mg base "points_of" k ["box"] yf) (m_zip : mg "zip" = none)
 (hr : Room k (A.deeper (envOfC "Site.turned" (defScope wG) s.heap.objs.size f cdv))) :
 DSs (cxOf CX0 P w K mg base ["self", "box", "cells", "points", "earlier", "now", "point", "old", "new"] "Site.turned" (defScope wG) f cdv A outer s H E).nox (defBody wG) (uN wj qY yf) := by
 refine rk hr fun hx => ?_
 have nd := vO.nd
 exact (qG (yZ nd (qfK (yP F_points_of hr (by rfl) (qb (qd 1) qp))))
  (qG (W4 (own := [("point", 6)]) (ts := [6]) hx nd (by rfl) (jQ (yH (qd 3))) (blkOk_by (own := [("point", 6)]) (N := ["self", "box", "cells", "points", "earlier", "now", "point", "old", "new"]) (sc := defScope wG) (by decide +kernel)) (fun _ _ _ _ _ => (qJ nd)) (fun _ _ _ _ _ => j7) (fun _ _ _ _ _ => (uX F_Site_kind_now hr (qd 0) (qb (qd 6) qp))) (by decide))
  (qG (qcF (jt (uX F_Site_turn_cells hr (qd 0) (qb (yH (qd 2)) qp))))
  (qG (W4 (own := [("point", 6)]) (ts := [6]) hx nd (by rfl) (jQ (yH (qd 3))) (blkOk_by (own := [("point", 6)]) (N := ["self", "box", "cells", "points", "earlier", "now", "point", "old", "new"]) (sc := defScope wG) (by decide +kernel)) (fun _ _ _ _ _ => (qJ nd)) (fun _ _ _ _ _ => j7) (fun _ _ _ _ _ => (uX F_Site_kind_now hr (qd 0) (qb (qd 6) qp))) (by decide))
  (qM (qcF (wA (WK (own := [("point", 6), ("old", 7), ("new", 8)]) (ts := [6, 7, 8]) hx nd (qfC (yH (qd 3)) (yH (qd 4)) (yH (qd 5)) m_zip) (blkOk_by (own := [("point", 6), ("old", 7), ("new", 8)]) (N := ["self", "box", "cells", "points", "earlier", "now", "point", "old", "new"]) (sc := defScope wG) (by decide +kernel)) (fun _ _ _ _ _ => (vJ (hx).blk (qX (qJ nd) (qX (qJ nd) (qX (qJ nd) jR))))) (fun _ _ _ _ _ => (Wc (yX (Z7 (hx).blk) (qd 7) (qd 8) (by rfl) JC))) (fun _ _ _ _ _ => (zf (qb (qd 6) (qb (qd 7) (qb (qd 8) qp))))) (by decide)))))))))
abbrev yF : Stmt := inClass (topS 10) 4
theorem Ws : FnScope ["self", "box", "cells"] ["self", "box", "cells"] (defScope yF) := ⟨rfl, rfl, rfl, by decide +kernel, rfl, by decide +kernel, by decide +kernel⟩
theorem Ve {qP : FS} (F_Site_turned : Mt P w K mg base "Site" "turned" k ["self", "box", "cells"] qP) (c_Site_own_looked : ObF K "Site" "own_looked") (c_Site_own_deeds : ObF K "Site" "own_deeds") (m_tuple : mg "tuple" = none)
 (hr : Room k (A.deeper (envOfC "Site.deed" (defScope yF) s.heap.objs.size f cdv))) :
 DSs (cxOf CX0 P w K mg base ["self", "box", "cells"] "Site.deed" (defScope yF) f cdv A outer s H E).nox (defBody yF) (v8 qP) := by
 refine rk hr fun hx => ?_
 have nd := Ws.nd
 exact (qG (jt (qev m_append.toN PySem.F.plainAttrs_list PySem.F.slot_list_append PySem.F.type_list_append mt_append (qd 0) c_Site_own_deeds (qb (zf (qb (yI QR (by rfl) m_tuple (by decide +kernel) (qb (yH (qd 1)) qp)) (qb (yH (qd 2)) qp))) qp)))
  (qG (Xi (qK Zx (qK zK (qU hx (yH (qd 1)) qC) qC) (qK zK (qU hx (yH (qd 1)) qC) qC)) (qd 0) c_Site_own_looked)
  (qM (wA (uX F_Site_turned hr (qd 0) (qb (yH (qd 1)) (qb (yH (qd 2)) qp)))))))
abbrev yN : Stmt := inClass (topS 10) 5
theorem Zu : FnScope ["self", "box", "cell"] ["self", "box"] (defScope yN) := ⟨rfl, rfl, rfl, by decide +kernel, rfl, by decide +kernel, by decide +kernel⟩
theorem qa2 {wy wO : FS} (F_Site_deed : Mt P w K mg base "Site" "deed" k ["self", "box", "cells"] wy) (F_cells_of : Fn P w K mg base "cells_of" k ["box"] wO) (c_Site_own_cells : ObF K "Site" "own_cells")
 (hr : Room k (A.deeper (envOfC "Site.add" (defScope yN) s.heap.objs.size f cdv))) :
 DSs (cxOf CX0 P w K mg base ["self", "box", "cell"] "Site.add" (defScope yN) f cdv A outer s H E).nox (defBody yN) (QZ wy wO) := by
 refine rk hr fun hx => ?_
 have nd := Zu.nd
 exact (qM (wA (uX F_Site_deed hr (qd 0) (qb (yH (qd 1)) (qb (qfK (WK (own := [("cell", 2)]) (ts := [2]) hx nd (jQ (yP F_cells_of hr (by rfl) (qb (yH (qd 1)) qp))) (blkOk_by (own := [("cell", 2)]) (N := ["self", "box", "cell"]) (sc := defScope yN) (by decide +kernel)) (fun _ _ _ _ _ => (qJ nd)) (fun _ _ _ _ _ => (Wc (Xh (qdv (hx).blk) (qd 2) (Yr (qd 0) c_Site_own_cells) JD))) (fun _ _ _ _ _ => (qd 2)) (by decide))) qp)))))
abbrev yM : Stmt := inClass (topS 10) 6
theorem Zt : FnScope ["self", "box", "cell"] ["self", "box"] (defScope yM) := ⟨rfl, rfl, rfl, by decide +kernel, rfl, by decide +kernel, by decide +kernel⟩
theorem qa1 {wy wO : FS} (F_Site_deed : Mt P w K mg base "Site" "deed" k ["self", "box", "cells"] wy) (F_cells_of : Fn P w K mg base "cells_of" k ["box"] wO) (c_Site_own_cells : ObF K "Site" "own_cells")
 (hr : Room k (A.deeper (envOfC "Site.cut" (defScope yM) s.heap.objs.size f cdv))) :
 DSs (cxOf CX0 P w K mg base ["self", "box", "cell"] "Site.cut" (defScope yM) f cdv A outer s H E).nox (defBody yM) (QX wy wO) := by
 refine rk hr fun hx => ?_
 have nd := Zt.nd
 exact (qM (wA (uX F_Site_deed hr (qd 0) (qb (yH (qd 1)) (qb (qfK (WK (own := [("cell", 2)]) (ts := [2]) hx nd (jQ (yP F_cells_of hr (by rfl) (qb (yH (qd 1)) qp))) (blkOk_by (own := [("cell", 2)]) (N := ["self", "box", "cell"]) (sc := defScope yM) (by decide +kernel)) (fun _ _ _ _ _ => (qJ nd)) (fun _ _ _ _ _ => (Wc (Xh (qb0 (hx).blk) (qd 2) (Yr (qd 0) c_Site_own_cells) JD))) (fun _ _ _ _ _ => (qd 2)) (by decide))) qp)))))
abbrev yE : Stmt := inClass (topS 10) 7
theorem Wr : FnScope ["self", "box", "cells"] ["self"] (defScope yE) := ⟨rfl, rfl, rfl, by decide +kernel, rfl, by decide +kernel, by decide +kernel⟩
theorem Vd {qP : FS} (F_Site_turned : Mt P w K mg base "Site" "turned" k ["self", "box", "cells"] qP) (c_Site_own_deeds : ObF K "Site" "own_deeds") (m_len : mg "len" = none)
 (hr : Room k (A.deeper (envOfC "Site.undo" (defScope yE) s.heap.objs.size f cdv))) :
 DSs (cxOf CX0 P w K mg base ["self", "box", "cells"] "Site.undo" (defScope yE) f cdv A outer s H E).nox (defBody yE) (v7 qP) := by
 refine rk hr fun hx => ?_
 have nd := Wr.nd
 exact (qG (vm (yX (Wz hx) (Ju vR.down (by rfl) m_len (by decide +kernel) (Yr (qd 0) c_Site_own_deeds)) qC (by rfl) JF) (qM (wA qaj)) jj)
  (qG (ZM (qfH qiR PySem.F.plainAttrs_list PySem.F.slot_list_pop PySem.F.type_list_pop mt_pop (qd 0) c_Site_own_deeds) (vJ hx (qX (qJ nd) (qX (qJ nd) jR))))
  (qM (wA (uX F_Site_turned hr (qd 0) (qb (yH (qd 1)) (qb (yH (qd 2)) qp)))))))
abbrev wV : Stmt := inClass (topS 10) 8
theorem uZ : FnScope ["self"] ["self"] (defScope wV) := ⟨rfl, rfl, rfl, by decide +kernel, rfl, by decide +kernel, by decide +kernel⟩
theorem ZQ (c_Site_own_cells : ObF K "Site" "own_cells") (m_sorted : mg "sorted" = none) (m_tuple : mg "tuple" = none)
 (hr : Room k (A.deeper (envOfC "Site.room_now" (defScope wV) s.heap.objs.size f cdv))) :
 DSs (cxOf CX0 P w K mg base ["self"] "Site.room_now" (defScope wV) f cdv A outer s H E).nox (defBody wV) jH := by
 refine rk hr fun hx => ?_
 have nd := uZ.nd
 exact (qM (wA (yI QR (by rfl) m_tuple (by decide +kernel) (qb (Ju (Jz hx) (by rfl) m_sorted (by decide +kernel) (Yr (qd 0) c_Site_own_cells)) qp))))
abbrev yz : Stmt := topS 12
theorem Wl : FnScope ["_law_script", "_law_k", "_law_cell", "_law_digits"] ["_law_script", "_law_k"] (defScope yz) := ⟨rfl, rfl, rfl, by decide +kernel, rfl, by decide +kernel, by decide +kernel⟩
theorem UV (m_abs : mg "abs" = none) (m_int : mg "int" = none) (m_len : mg "len" = none)
 (hr : Room k (A.deeper (envOfC "_law_tape" (defScope yz) s.heap.objs.size f cdv))) :
 DSs (cxOf CX0 P w K mg base ["_law_script", "_law_k", "_law_cell", "_law_digits"] "_law_tape" (defScope yz) f cdv A outer s H E).nox (defBody yz) uK := by
 refine rk hr fun hx => ?_
 have nd := Wl.nd
 exact (qG (yZ nd qC)
  (qG (vm (yX (qiI hx) (qd 1) (zq vR (by rfl) m_len (by decide +kernel) (qb (qd 0) qp)) (by rfl) qja) (qM (yZ nd (qU hx (qd 0) (qd 1)))) jj)
  (qG (yZ nd (qK Zx (zq qez (by rfl) m_abs (by decide +kernel) (qb (qd 2) qp)) (yI qcY (by rfl) m_int (by decide +kernel) (qb (QK qiJ (zq qez (by rfl) m_abs (by decide +kernel) (qb (qd 2) qp)) (qK qgL qC qC) (by rfl)) qp))))
  (qM (wA (xf (qb (qd 3) (qb (qK vf (qK Zx (qK vf (qK zK (qK zK (qd 2) (qK Zx qC (qd 1))) qC) qC) qC) qC) qp))))))))
abbrev yC : Stmt := topS 13
theorem Wo : FnScope ["_law_tape_here", "_law_many", "_law_found", "_law_once"] ["_law_tape_here", "_law_many"] (defScope yC) := ⟨rfl, rfl, rfl, by decide +kernel, rfl, by decide +kernel, by decide +kernel⟩
theorem Vb
 (hr : Room k (A.deeper (envOfC "_law_draw" (defScope yC) s.heap.objs.size f cdv))) :
 DSs (cxOf CX0 P w K mg base ["_law_tape_here", "_law_many", "_law_found", "_law_once"] "_law_draw" (defScope yC) f cdv A outer s H E).nox (defBody yC) uM := by
 refine rk hr fun hx => ?_
 have nd := Wo.nd
 exact (qG (vm (yX qgN (qU hx (qd 0) qC) qC (by rfl) qhA) (qG (yZ nd (qK vf (qU hx (qd 0) qC) (qd 1)))
  (qG (qcD hx (qK qgO (qU hx (qd 0) qC) (qd 1)) (qd 0) qC)
  (qM (wA (qd 2))))) jj)
  (qG (qcD hx (qK vf (qK zK (qK Zx (qU hx (qd 0) qC) qC) qC) qC) (qd 0) qC)
  (qG (yZ nd (qK vf (qK Zx (qU hx (qd 0) qC) (qK zK (qK vf (qU hx (qd 0) qC) qC) qC)) qC))
  (qM (wA (qK vf (qK vf (qK Zx (qd 3) (qK zK (qK vf (qd 3) qC) qC)) qC) (qd 1)))))))
abbrev zj : Stmt := topS 14
theorem Qt : FnScope ["_law_x", "_law_y", "_law_wide", "_law_high", "_law_found", "_law_k", "_law_j"] ["_law_x", "_law_y", "_law_wide", "_law_high"] (defScope zj) := ⟨rfl, rfl, rfl, by decide +kernel, rfl, by decide +kernel, by decide +kernel⟩
theorem Jx (m_range : mg "range" = none)
 (hr : Room k (A.deeper (envOfC "_law_cells" (defScope zj) s.heap.objs.size f cdv))) :
 DSs (cxOf CX0 P w K mg base ["_law_x", "_law_y", "_law_wide", "_law_high", "_law_found", "_law_k", "_law_j"] "_law_cells" (defScope zj) f cdv A outer s H E).nox (defBody zj) vC := by
 refine rk hr fun hx => ?_
 have nd := Qt.nd
 exact (qG (yZ nd (xf qp))
  (qG (vP hx (uG (qd 2) m_range) (qJ nd) (qM (jt (QJ (qd 4) (WK (own := [("_law_j", 6)]) (ts := [6]) hx nd (uG (qd 3) m_range) (blkOk_by (own := [("_law_j", 6)]) (N := ["_law_x", "_law_y", "_law_wide", "_law_high", "_law_found", "_law_k", "_law_j"]) (sc := defScope zj) (by decide +kernel)) (fun _ _ _ _ _ => (qJ nd)) (fun _ _ _ _ _ => j7) (fun _ _ _ _ _ => (zf (qb (qK zK (qd 0) (qd 5)) (qb (qK zK (qd 1) (qd 6)) qp)))) (by decide))))))
  (qM (wA (qd 4)))))
abbrev yc : Stmt := topS 15
theorem Wn : FnScope ["_law_room", "_law_point", "_law_x", "_law_y", "_law_some", "_law_cell"] ["_law_room", "_law_point"] (defScope yc) := ⟨rfl, rfl, rfl, by decide +kernel, rfl, by decide +kernel, by decide +kernel⟩
theorem Va (m_len : mg "len" = none) (m_int : mg "int" = none)
 (hr : Room k (A.deeper (envOfC "_law_kind" (defScope yc) s.heap.objs.size f cdv))) :
 DSs (cxOf CX0 P w K mg base ["_law_room", "_law_point", "_law_x", "_law_y", "_law_some", "_law_cell"] "_law_kind" (defScope yc) f cdv A outer s H E).nox (defBody yc) v4 := by
 refine rk hr fun hx => ?_
 have nd := Wn.nd
 exact (qG (ZM (qd 1) (vJ hx (qX (qJ nd) (qX (qJ nd) jR))))
  (qG (W4 (own := [("_law_cell", 5)]) (ts := [5]) hx nd (by rfl) (jQ (xf (qb (zf (qb (qK jL (qd 2) qC) (qb (qK jL (qd 3) qC) qp))) (qb (zf (qb (qd 2) (qb (qK jL (qd 3) qC) qp))) (qb (zf (qb (qK jL (qd 2) qC) (qb (qd 3) qp))) (qb (zf (qb (qd 2) (qb (qd 3) qp))) qp)))))) (blkOk_by (own := [("_law_cell", 5)]) (N := ["_law_room", "_law_point", "_law_x", "_law_y", "_law_some", "_law_cell"]) (sc := defScope yc) (by decide +kernel)) (fun _ _ _ _ _ => (qJ nd)) (fun _ _ _ _ _ => (Wc (yX (qb0 (hx).blk) (qd 5) (qd 0) (by rfl) JD))) (fun _ _ _ _ _ => (qd 5)) (by decide))
  (qG (vm (yX (Wz hx) (zq vR (by rfl) m_len (by decide +kernel) (qb (qd 4) qp)) qC (by rfl) JF) (qM (wA (qU hx (xf (qb j5 (qb j5 qp))) (yI qcY (by rfl) m_int (by decide +kernel) (qb (Yu (QK (Z7 hx) (qU hx (qU hx (qd 4) qC) qC) (qU hx (qU hx (qd 4) qC) qC) (by rfl)) (Jt (QK (Z7 hx) (qU hx (qU hx (qd 4) qC) qC) (qU hx (qU hx (qd 4) qC) qC) (by rfl)))) qp))))) jj)
  (qM (wA (qU hx (xf (qb j5 (qb j5 (qb j5 (qb j5 (qb j5 qp)))))) (zq vR (by rfl) m_len (by decide +kernel) (qb (qd 4) qp))))))))
abbrev zg : Stmt := topS 16
theorem vN : FnScope ["_law_room", "_law_found", "_law_x", "_law_y"] ["_law_room"] (defScope zg) := ⟨rfl, rfl, rfl, by decide +kernel, rfl, by decide +kernel, by decide +kernel⟩
theorem Xk (m_sorted : mg "sorted" = none) (m_set : mg "set" = none)
 (hr : Room k (A.deeper (envOfC "_law_points" (defScope zg) s.heap.objs.size f cdv))) :
 DSs (cxOf CX0 P w K mg base ["_law_room", "_law_found", "_law_x", "_law_y"] "_law_points" (defScope zg) f cdv A outer s H E).nox (defBody zg) uL := by
 refine rk hr fun hx => ?_
 have nd := vN.nd
 exact (qG (yZ nd (xf qp))
  (qG (vP hx (jQ (qd 0)) (vJ hx (qX (qJ nd) (qX (qJ nd) jR))) (qM (jt (QJ (qd 1) (xf (qb (zf (qb (qd 2) (qb (qd 3) qp))) (qb (zf (qb (qK zK (qd 2) qC) (qb (qd 3) qp))) (qb (zf (qb (qd 2) (qb (qK zK (qd 3) qC) qp))) (qb (zf (qb (qK zK (qd 2) qC) (qb (qK zK (qd 3) qC) qp))) qp)))))))))
  (qM (wA (Ys hx (qd 1) m_sorted m_set)))))
abbrev zY : Stmt := topS 17
theorem Wm : FnScope ["_law_found", "_law_due", "_law_one", "_law_other"] ["_law_found", "_law_due"] (defScope zY) := ⟨rfl, rfl, rfl, by decide +kernel, rfl, by decide +kernel, by decide +kernel⟩
theorem UW {wQ : FS} (F__law_same : Fn P w K mg base "_law_same" k ["_law_found", "_law_due"] wQ) (m_isinstance : mg "isinstance" = none) (m_bool : mg "bool" = none) (m_int : mg "int" = none) (m_str : mg "str" = none) (m_list : mg "list" = none) (m_tuple : mg "tuple" = none) (m_zip : mg "zip" = none) (m_all : mg "all" = none) (m_len : mg "len" = none)
 (hr : Room k (A.deeper (envOfC "_law_same" (defScope zY) s.heap.objs.size f cdv))) :
 DSs (cxOf CX0 P w K mg base ["_law_found", "_law_due", "_law_one", "_law_other"] "_law_same" (defScope zY) f cdv A outer s H E).nox (defBody zY) (vZ wQ) := by
 refine rk hr fun hx => ?_
 have nd := Wm.nd
 exact (qG (vm (yX qgM (qd 1) qaj (by rfl) qjb) (qM (wA (QK qgM (qd 0) qaj (by rfl)))) jj)
  (qG (vm (qaf (qfI Ug YH (qd 1) m_isinstance m_list m_tuple (by rfl) (by rfl))) (qG (vm (DW.dt (qi4 (yX (Z7 hx) (vQ Ug (qd 0) m_isinstance m_list (by rfl)) (vQ Ug (qd 1) m_isinstance m_list (by rfl)) (by rfl) JC) (qhh (yX (Z7 hx) (vQ YH (qd 0) m_isinstance m_tuple (by rfl)) (vQ YH (qd 1) m_isinstance m_tuple (by rfl)) (by rfl) JC)))) (qM (wA UJ)) jj)
  (qM (wA (Yu (QK (Wz hx) (zq vR (by rfl) m_len (by decide +kernel) (qb (qd 0) qp)) (zq vR (by rfl) m_len (by decide +kernel) (qb (qd 1) qp)) (by rfl)) (Jt (zq (qhu hx) (by rfl) m_all (by decide +kernel) (qb (WK (own := [("_law_one", 2), ("_law_other", 3)]) (ts := [2, 3]) hx nd (qhl (qd 0) (qd 1) m_zip) (blkOk_by (own := [("_law_one", 2), ("_law_other", 3)]) (N := ["_law_found", "_law_due", "_law_one", "_law_other"]) (sc := defScope zY) (by decide +kernel)) (fun _ _ _ _ _ => (vJ (hx).blk (qX (qJ nd) (qX (qJ nd) jR)))) (fun _ _ _ _ _ => j7) (fun _ _ _ _ _ => (yP F__law_same hr (by rfl) (qb (qd 2) (qb (qd 3) qp)))) (by decide)) qp))))))) jj)
  (qG (vm (qaf (vQ Uh (qd 1) m_isinstance m_bool (by rfl))) (qM (wA (Yu (vQ Uh (qd 0) m_isinstance m_bool (by rfl)) (Jt (QK (Wz hx) (qd 0) (qd 1) (by rfl)))))) jj)
  (qG (vm (qaf (vQ qd3 (qd 1) m_isinstance m_str (by rfl))) (qM (wA (Yu (vQ qd3 (qd 0) m_isinstance m_str (by rfl)) (Jt (QK (Wz hx) (qd 0) (qd 1) (by rfl)))))) jj)
  (qM (wA (Yu (vQ qgs (qd 0) m_isinstance m_int (by rfl)) (Yu (qfG (vQ Uh (qd 0) m_isinstance m_bool (by rfl))) (Jt (QK (Wz hx) (qd 0) (qd 1) (by rfl)))))))))))
abbrev xG : Stmt := topS 18
theorem Zr : FnScope ["_law_tape_here", "_law_most", "_law_x", "_law_y", "_law_wide", "_law_high", "_law_far", "_law_tall"] ["_law_tape_here"] (defScope xG) := ⟨rfl, rfl, rfl, by decide +kernel, rfl, by decide +kernel, by decide +kernel⟩
theorem qa0 {qF : FS} (F__law_draw : Fn P w K mg base "_law_draw" k ["_law_tape_here", "_law_many"] qF) (m_min : mg "min" = none)
 (hr : Room k (A.deeper (envOfC "_law_box" (defScope xG) s.heap.objs.size f cdv))) :
 DSs (cxOf CX0 P w K mg base ["_law_tape_here", "_law_most", "_law_x", "_law_y", "_law_wide", "_law_high", "_law_far", "_law_tall"] "_law_box" (defScope xG) f cdv A outer s H E).nox (defBody xG) (QW qF) := by
 refine rk hr fun hx => ?_
 have nd := Zr.nd
 exact (qG (yZ nd (qU hx (xf (qb qC (qb qC (qb qC (qb qC qp))))) (yP F__law_draw hr (by rfl) (qb (qd 0) (qb qC qp)))))
  (qG (qcE hx nd (by decide) (qb (yP F__law_draw hr (by rfl) (qb (qd 0) (qb (qd 1) qp))) (qb (yP F__law_draw hr (by rfl) (qb (qd 0) (qb (qd 1) qp))) qp)))
  (qG (qcE hx nd (by decide) (qb (qK zK qC (yP F__law_draw hr (by rfl) (qb (qd 0) (qb (zq (Vf hx) (by rfl) m_min (by decide +kernel) (qb qC (qb (qK jL qC (qd 2)) qp))) qp)))) (qb (qK zK qC (yP F__law_draw hr (by rfl) (qb (qd 0) (qb (zq (Vf hx) (by rfl) m_min (by decide +kernel) (qb qC (qb (qK jL qC (qd 3)) qp))) qp)))) qp)))
  (qG (vm (yX (Wz hx) (yP F__law_draw hr (by rfl) (qb (qd 0) (qb qC qp))) qC (by rfl) JF) (qG (qcE hx nd (by decide) (qb (qK vf (qd 3) qC) (qb (qK zK qC (qK vf (qd 5) (qK jL qC (qK vf (qd 3) qC)))) qp)))
  (qM (wA (qU hx (xf (qb (zf (qb (qK zK (qd 2) qC) (qb (qd 6) (qb (qd 4) (qb (qd 7) qp))))) (qb (zf (qb (qd 6) (qb (qK zK (qd 2) qC) (qb (qd 7) (qb (qd 4) qp))))) qp))) (yP F__law_draw hr (by rfl) (qb (qd 0) (qb qC qp))))))) jj)
  (qM (wA (zf (qb (qd 2) (qb (qd 3) (qb (qd 4) (qb (qd 5) qp)))))))))))
abbrev wJ : Stmt := topS 19
theorem ux : FnScope ["_law_box_here"] ["_law_box_here"] (defScope wJ) := ⟨rfl, rfl, rfl, by decide +kernel, rfl, by decide +kernel, by decide +kernel⟩
theorem WM {zA : FS} (F__law_cells : Fn P w K mg base "_law_cells" k ["_law_x", "_law_y", "_law_wide", "_law_high"] zA)
 (hr : Room k (A.deeper (envOfC "_law_box_cells" (defScope wJ) s.heap.objs.size f cdv))) :
 DSs (cxOf CX0 P w K mg base ["_law_box_here"] "_law_box_cells" (defScope wJ) f cdv A outer s H E).nox (defBody wJ) (jn zA) := by
 refine rk hr fun hx => ?_
 have nd := ux.nd
 exact (qM (wA (yP F__law_cells hr (by rfl) (qb (qU hx (qd 0) qC) (qb (qU hx (qd 0) qC) (qb (qU hx (qd 0) qC) (qb (qU hx (qd 0) qC) qp)))))))
abbrev yD : Stmt := topS 20
theorem Wq : FnScope ["_law_there", "_law_deed", "_law_made", "_law_cell"] ["_law_there", "_law_deed"] (defScope yD) := ⟨rfl, rfl, rfl, by decide +kernel, rfl, by decide +kernel, by decide +kernel⟩
theorem Vc {ww : FS} (F__law_box_cells : Fn P w K mg base "_law_box_cells" k ["_law_box_here"] ww) (m_dict : mg "dict" = none)
 (hr : Room k (A.deeper (envOfC "_law_done" (defScope yD) s.heap.objs.size f cdv))) :
 DSs (cxOf CX0 P w K mg base ["_law_there", "_law_deed", "_law_made", "_law_cell"] "_law_done" (defScope yD) f cdv A outer s H E).nox (defBody yD) (v5 ww) := by
 refine rk hr fun hx => ?_
 have nd := Wq.nd
 exact (qG (yZ nd (yI (qdS hx) (by rfl) m_dict (by decide +kernel) (qb (qd 0) qp)))
  (qG (vP hx (jQ (yP F__law_box_cells hr (by rfl) (qb (qU hx (qd 1) qC) qp))) (qJ nd) (qG (jt (qfF hx (qd 2) (qb (qd 3) (qb qaj qp))))
  (qM (vm (yX (Wz hx) (qU hx (qd 1) qC) j5 (by rfl) JF) (qM (qcD hx UJ (qd 2) (qd 3))) jj))))
  (qM (wA (qd 2)))))
abbrev qR : Stmt := topS 21
theorem uw : FnScope ["_law_there", "_law_made", "_law_points_here", "_law_rows", "_law_point", "_law_row"] ["_law_there", "_law_made"] (defScope qR) := ⟨rfl, rfl, rfl, by decide +kernel, rfl, by decide +kernel, by decide +kernel⟩
theorem WL {zF wU : FS} (F__law_kind : Fn P w K mg base "_law_kind" k ["_law_room", "_law_point"] zF) (F__law_points : Fn P w K mg base "_law_points" k ["_law_room"] wU) (m_list : mg "list" = none) (m_sorted : mg "sorted" = none) (m_set : mg "set" = none)
 (hr : Room k (A.deeper (envOfC "_law_otherwise" (defScope qR) s.heap.objs.size f cdv))) :
 DSs (cxOf CX0 P w K mg base ["_law_there", "_law_made", "_law_points_here", "_law_rows", "_law_point", "_law_row"] "_law_otherwise" (defScope qR) f cdv A outer s H E).nox (defBody qR) (jm zF wU) := by
 refine rk hr fun hx => ?_
 have nd := uw.nd
 exact (qG (yZ nd (Ys hx (qK zK (yP F__law_points hr (by rfl) (qb (yI (qaq hx) (by rfl) m_list (by decide +kernel) (qb (qd 0) qp)) qp)) (yP F__law_points hr (by rfl) (qb (yI (qaq hx) (by rfl) m_list (by decide +kernel) (qb (qd 1) qp)) qp))) m_sorted m_set))
  (qG (W4 (own := [("_law_point", 4)]) (ts := [4]) hx nd (by rfl) (jQ (qd 2)) (blkOk_by (own := [("_law_point", 4)]) (N := ["_law_there", "_law_made", "_law_points_here", "_law_rows", "_law_point", "_law_row"]) (sc := defScope qR) (by decide +kernel)) (fun _ _ _ _ _ => (qJ nd)) (fun _ _ _ _ _ => j7) (fun _ _ _ _ _ => (zf (qb (qd 4) (qb (yP F__law_kind hr (by rfl) (qb (qd 0) (qb (qd 4) qp))) (qb (yP F__law_kind hr (by rfl) (qb (qd 1) (qb (qd 4) qp))) qp))))) (by decide))
  (qM (wA (WK (own := [("_law_row", 5)]) (ts := [5]) hx nd (jQ (qd 3)) (blkOk_by (own := [("_law_row", 5)]) (N := ["_law_there", "_law_made", "_law_points_here", "_law_rows", "_law_point", "_law_row"]) (sc := defScope qR) (by decide +kernel)) (fun _ _ _ _ _ => (qJ nd)) (fun _ _ _ _ _ => (Wc (yX (Z7 (hx).blk) (qU (hx).blk (qd 5) qC) (qU (hx).blk (qd 5) qC) (by rfl) JC))) (fun _ _ _ _ _ => (qd 5)) (by decide))))))
abbrev zU : Stmt := topS 22
theorem Qs : FnScope ["_law_tape_here", "_law_many", "_law_found", "_law_turn_here", "_law_box_here"] ["_law_tape_here", "_law_many"] (defScope zU) := ⟨rfl, rfl, rfl, by decide +kernel, rfl, by decide +kernel, by decide +kernel⟩
theorem Jw {qF yQ : FS} (F__law_draw : Fn P w K mg base "_law_draw" k ["_law_tape_here", "_law_many"] qF) (F__law_box : Fn P w K mg base "_law_box" k ["_law_tape_here"] yQ) (m_range : mg "range" = none) (m_len : mg "len" = none)
 (hr : Room k (A.deeper (envOfC "_law_deeds" (defScope zU) s.heap.objs.size f cdv))) :
 DSs (cxOf CX0 P w K mg base ["_law_tape_here", "_law_many", "_law_found", "_law_turn_here", "_law_box_here"] "_law_deeds" (defScope zU) f cdv A outer s H E).nox (defBody zU) (vB qF yQ) := by
 refine rk hr fun hx => ?_
 have nd := Qs.nd
 exact (qG (yZ nd (xf qp))
  (qG (vP hx (uG (qd 1) m_range) (qJ nd) (qG (yZ nd (yP F__law_box hr (by rfl) (qb (qd 0) qp)))
  (qG (vm (DW.dt (qet (yX (Z7 hx) (qd 2) (xf qp) (by rfl) JC) (qcC (yX (Wz hx) (yP F__law_draw hr (by rfl) (qb (qd 0) (qb qC qp))) qC (by rfl) JF)))) (qM (yZ nd (qU hx (qU hx (qd 2) (yP F__law_draw hr (by rfl) (qb (qd 0) (qb (zq vR (by rfl) m_len (by decide +kernel) (qb (qd 2) qp)) qp)))) qC))) jj)
  (qM (jt (QL (qd 2) (zf (qb (qU hx (xf (qb j5 (qb j5 (qb j5 qp)))) (yP F__law_draw hr (by rfl) (qb (qd 0) (qb qC qp)))) (qb (qd 4) qp)))))))))
  (qM (wA (qd 2)))))
abbrev ji : Stmt := topS 23
theorem Yk : FnScope ["_law_ground", "_law_deed"] ["_law_ground", "_law_deed"] (defScope ji) := ⟨rfl, rfl, rfl, by decide +kernel, rfl, by decide +kernel, by decide +kernel⟩
theorem qcP {yS yR : FS} (F_Site_add : Mt P w K mg base "Site" "add" k ["self", "box"] yS) (F_Site_cut : Mt P w K mg base "Site" "cut" k ["self", "box"] yR)
 (hr : Room k (A.deeper (envOfC "_law_do" (defScope ji) s.heap.objs.size f cdv))) :
 DSs (cxOf CX0 P w K mg base ["_law_ground", "_law_deed"] "_law_do" (defScope ji) f cdv A outer s H E).nox (defBody ji) (Zh yS yR) := by
 refine rk hr fun hx => ?_
 have nd := Yk.nd
 exact (qM (wA (qho (yX (Wz hx) (qU hx (qd 1) qC) j5 (by rfl) JF) (uX F_Site_add hr (qd 0) (qb (qU hx (qd 1) qC) qp)) (uX F_Site_cut hr (qd 0) (qb (qU hx (qd 1) qC) qp)))))
abbrev yx : Stmt := topS 24
theorem Wj : FnScope ["_law_tape_here", "_law_ground", "_law_stack", "_law_deed", "_law_there"] ["_law_tape_here", "_law_ground", "_law_stack", "_law_deed"] (defScope yx) := ⟨rfl, rfl, rfl, by decide +kernel, rfl, by decide +kernel, by decide +kernel⟩
theorem UT {xU qT yj qF ym : FS} (F__law_do : Fn P w K mg base "_law_do" k ["_law_ground", "_law_deed"] xU) (F__law_otherwise : Fn P w K mg base "_law_otherwise" k ["_law_there", "_law_made"] qT) (F__law_done : Fn P w K mg base "_law_done" k ["_law_there", "_law_deed"] yj) (F__law_draw : Fn P w K mg base "_law_draw" k ["_law_tape_here", "_law_many"] qF) (F_Site_undo : Mt P w K mg base "Site" "undo" k ["self"] ym) (m_len : mg "len" = none)
 (hr : Room k (A.deeper (envOfC "_law_turn" (defScope yx) s.heap.objs.size f cdv))) :
 DSs (cxOf CX0 P w K mg base ["_law_tape_here", "_law_ground", "_law_stack", "_law_deed", "_law_there"] "_law_turn" (defScope yx) f cdv A outer s H E).nox (defBody yx) (vY xU qT yj qF ym) := by
 refine rk hr fun hx => ?_
 have nd := Wj.nd
 exact (qG (vm (DW.dt (qet (yX qgN (zq vR (by rfl) m_len (by decide +kernel) (qb (qd 2) qp)) qC (by rfl) qhA) (qcC (yX (Wz hx) (yP F__law_draw hr (by rfl) (qb (qd 0) (qb qC qp))) qC (by rfl) JF)))) (qG (yZ nd (qhm qg2 PySem.F.plainAttrs_list PySem.F.slot_list_pop PySem.F.type_list_pop mt_pop (qd 2) (by rfl) (by rfl)))
  (qM (wA (zf (qb (qak F_Site_undo hr (qd 1)) (qb (qcJ (yP F__law_otherwise hr (by rfl) (qb (qd 4) (qb (qU hx (qd 2) (Yt qC)) qp)))) qp)))))) jj)
  (qG (jt (QL (qd 2) (qcJ (yP F__law_done hr (by rfl) (qb (qU hx (qd 2) (Yt qC)) (qb (qd 3) qp))))))
  (qM (wA (zf (qb (yP F__law_do hr (by rfl) (qb (qd 1) (qb (qd 3) qp))) (qb (qcJ (yP F__law_otherwise hr (by rfl) (qb (qU hx (qd 2) (Yt qC)) (qb (qU hx (qd 2) (Yt qC)) qp)))) qp)))))))
abbrev Wy : Stmt := topS 25
theorem qd8 : FnScope ["_law_script", "_law_k", "_law_tape_here", "_law_grounds", "_law_stacks", "_law_told", "_law_number", "_law_deed", "_law_which", "_law_found", "_law_due", "_law_one"] ["_law_script"] (defScope Wy) := ⟨rfl, rfl, rfl, by decide +kernel, rfl, by decide +kernel, by decide +kernel⟩
theorem qi6 {zu qF wI wQ yg wu yh : FS} (F__law_deeds : Fn P w K mg base "_law_deeds" k ["_law_tape_here", "_law_many"] zu) (F__law_draw : Fn P w K mg base "_law_draw" k ["_law_tape_here", "_law_many"] qF) (F_Site_room_now : Mt P w K mg base "Site" "room_now" k ["self"] wI) (F__law_same : Fn P w K mg base "_law_same" k ["_law_found", "_law_due"] wQ) (F__law_turn : Fn P w K mg base "_law_turn" k ["_law_tape_here", "_law_ground", "_law_stack", "_law_deed"] yg) (F__law_tape : Fn P w K mg base "_law_tape" k ["_law_script", "_law_k"] yh) {k_Site : Nat} (hk_Site : k_Site + 1 ≤ k) (M_Site : Mkn P w K mg base "Site" k_Site ["self"] wu) (m_len : mg "len" = none) (m_min : mg "min" = none) (m_range : mg "range" = none) (m_list : mg "list" = none) (m_enumerate : mg "enumerate" = none) (m_sorted : mg "sorted" = none) (m_tuple : mg "tuple" = none)
 (hr : Room k (A.deeper (envOfC "law" (defScope Wy) s.heap.objs.size f cdv))) :
 DSs (cxOf CX0 P w K mg base ["_law_script", "_law_k", "_law_tape_here", "_law_grounds", "_law_stacks", "_law_told", "_law_number", "_law_deed", "_law_which", "_law_found", "_law_due", "_law_one"] "law" (defScope Wy) f cdv A outer s H E).nox (defBody Wy) (qeK zu qF wI wQ yg wu yh) := by
 refine rk hr fun hx => ?_
 have nd := qd8.nd
 exact (qG (vP hx (uG (qK zK qC (zq (Vf hx) (by rfl) m_min (by decide +kernel) (qb qC (qb (zq vR (by rfl) m_len (by decide +kernel) (qb (qd 0) qp)) qp)))) m_range) (qJ nd) (qG (yZ nd (yP F__law_tape hr (by rfl) (qb (qd 0) (qb (qd 1) qp))))
  (qG (qdM hx nd (by decide) (by decide) (by decide) (qb (xf (qb (qew M_Site ((hr).mono hk_Site) (by rfl)) (qb (qew M_Site ((hr).mono hk_Site) (by rfl)) qp))) (qb (xf (qb (xf (qb qcK qp)) (qb (xf (qb qcK qp)) qp))) (qb (xf qp) qp))))
  (qG (vP hx (qfD (yP F__law_deeds hr (by rfl) (qb (qd 2) (qb (qK zK qC (yP F__law_draw hr (by rfl) (qb (qd 2) (qb qC qp)))) qp))) m_enumerate) (vJ hx (qX (qJ nd) (qX (qJ nd) jR))) (qG (yZ nd (yP F__law_draw hr (by rfl) (qb (qd 2) (qb qC qp))))
  (qG (ZM (qhp F__law_turn hr (by rfl) (L2.pv 2) (L2.pv 3) (L2.pv 8) (L2.pv 4) (L2.pv 8) (L2.pv 7)) (vJ hx (qX (qJ nd) (qX (qJ nd) jR))))
  (qG (vm (qhj (qaf (yP F__law_same hr (by rfl) (qb (qd 9) (qb (qd 10) qp))))) (qM (wA UJ)) jj)
  (qG (jt (QL (qd 9) (qd 6)))
  (qG (qcF (jt (QL (qd 5) (qd 9))))
  (qM (vP hx (jQ (zf (qb qC (qb qC qp)))) (qJ nd) (qM (vm (yX (Z7 hx) (qcJ (qak F_Site_room_now hr (qU hx (qd 3) (qd 11)))) (qcJ (yI QR (by rfl) m_tuple (by decide +kernel) (qb (zq (Jz hx) (by rfl) m_sorted (by decide +kernel) (qb (qU hx (qU hx (qd 4) (qd 11)) (Yt qC)) qp)) qp))) (by rfl) JC) (qM (wA UJ)) jj))))))))))
  (qM (vm (yX (Z7 hx) (WK (own := [("_law_one", 11)]) (ts := [11]) hx nd (jQ (qd 5)) (blkOk_by (own := [("_law_one", 11)]) (N := ["_law_script", "_law_k", "_law_tape_here", "_law_grounds", "_law_stacks", "_law_told", "_law_number", "_law_deed", "_law_which", "_law_found", "_law_due", "_law_one"]) (sc := defScope Wy) (by decide +kernel)) (fun _ _ _ _ _ => (qJ nd)) (fun _ _ _ _ _ => j7) (fun _ _ _ _ _ => (qU (hx).blk (qd 11) (Yt qC))) (by decide)) (qdP hx (zq vR (by rfl) m_len (by decide +kernel) (qb (qd 5) qp)) m_list m_range) (by rfl) JC) (qM (wA UJ)) jj))))))
  (qM (wA UJ)))
end
end K47
namespace K47
open PySem PySem.Spec PyProof.Rows L2 BX TX COM BC
theorem JZ : ∀ ds Q, wQ.wp ds Q → (vh 4).wp ds Q := fun ds Q h => by
 obtain ⟨⟨x, y⟩, kr, rfl, ⟨hxy, hs, h⟩, q⟩ := h
 have hxy : x = y := hxy
 subst hxy
 exact ⟨x, rfl, hs, q true h⟩
section
theorem yd {P : Program} {w : World} {K : PySem.W.Frag} {mg : Str → Option Value} {base : Heap} {x y : Str} {st : Stmt} {f : Addr} {fd : FuncData} {ps : List Str} {k : Nat} {S : FS} (F : Fun K y y st f fd) (ok : FnOk P w K mg base CX0 k f fd ps (spOf K S)) (hm : mg x = some (.ref f)) (hb : Binds K fd ps []) (mo : Wg S) : Fn P w K mg base x k ps S :=
 ⟨⟨f, fd, ok, hm, F.kp, hb⟩, mo⟩
theorem jX {P : Program} {w : World} {K : PySem.W.Frag} {mg : Str → Option Value} {base : Heap} {x : Str} {ps : List Str} {j k : Nat} {S : FS} (F : Fn P w K mg base x j ps S) (h : j ≤ k) : Fn P w K mg base x k ps S :=
 let ⟨f, fd, a, b⟩ := F.ex; ⟨⟨f, fd, a.mono h, b⟩, F.mono⟩
theorem Z9 {P : Program} {w : World} {K : PySem.W.Frag} {mg : Str → Option Value} {base : Heap} {n x : Str} {ps : List Str} {j k : Nat} {S : FS} (F : Mt P w K mg base n x j ps S) (h : j ≤ k) : Mt P w K mg base n x k ps S :=
 let ⟨C, f, fd, a, b, c, d, e⟩ := F.ex; ⟨⟨C, f, fd, a, b, c, d.mono h, e⟩, F.mono⟩
theorem sp_law {K : PySem.W.Frag} {H : Hp} {a : Addr} {ns : List Int} (hs : SqL K H a (ns.map V.int)) {E : XK} : spOf K JN [.ref a] H (fun v _ => v = .bl true) E := by
 have ri : ∀ ns : List Int, Reps K H 2 (ns.map D.int) (ns.map V.int) [] := fun ns => by
  induction ns with
  | nil => exact .nil
  | cons n ns ih => exact .cons (f := []) (g := []) (.int n) ih fun z => by cases z
 have rp : ∃ g, Rep K H 2 (.lst (ns.map D.int)) (.ref a) g := by
  rcases hs with (h | ⟨o, h⟩) | h
  ·exact ⟨_, .lst h (ri ns) fun z => by cases z⟩
  ·exact ⟨_, .lstF (Nat.le_refl _) (.inl ⟨o, h⟩) (ri ns)⟩
  ·exact ⟨_, .lstF (Nat.le_refl _) (.inr h) (ri ns)⟩
 obtain ⟨g, rp⟩ := rp
 refine ⟨rfl, [.lst (ns.map .int)], fun _ => g, rfl, ⟨fun i d m e => ?_, fun i j d m d' m' hij e1 e2 => ?_, rfl⟩, ns, fun b => b = true, rfl, qiT ns rfl, ?_⟩
 ·match i, e with
  | 0, e => cases e; exact ⟨_, rfl, rp⟩
  | i + 1, e => simp [penv, JN, mkS] at e
 ·match i, j, e1, e2 with
  | 0, 0, _, _ => exact absurd rfl hij
  | 0, j + 1, _, e2 => simp [penv, JN, mkS] at e2
  | i + 1, _, e1, _ => simp [penv, JN, mkS] at e1
 ·intro b hb v H' f' g' _ _ r _ _ _
  subst hb
  cases r
  rfl
end
set_option maxHeartbeats 0 in
theorem qhH {l : PySem.W.OpenLaw} {w : World} {K : PySem.W.Frag} {h : Heap} {mg : Str → Option Value} {fa f1 f2 f3 f4 f5 f6 f7 f8 f9 f10 f11 f12 f13 f14 f15 f16 f17 f18 f19 f20 f21 f22 f23 f24 f25 f26 f27 f28 : Addr} (X : K.In h) (G : h.Ns mainGlobals mg) (hfa : mg "law" = some (.ref fa))
 {od1 an1 od2 an2 od3 an3 od4 an4 od5 an5 od6 an6 od7 an7 od8 an8 od9 an9 od10 an10 od11 an11 od12 an12 od13 an13 od14 an14 od15 an15 od16 an16 od17 an17 od18 an18 od19 an19 od20 an20 od21 an21 od22 an22 od23 an23 od24 an24 od25 an25 od26 an26 od27 an27 od28 an28 : Option Addr} {sl1 sl2 sl3 sl4 sl5 sl6 sl7 sl8 sl9 sl10 sl11 sl12 sl13 sl14 sl15 sl16 sl17 sl18 sl19 sl20 sl21 sl22 sl23 sl24 sl25 sl26 sl27 sl28 : Array (Option Value)} {oc1 kV1 dc1 pm1 cd1 ct1 oc2 kV2 dc2 pm2 cd2 ct2 oc3 kV3 dc3 pm3 cd3 ct3 oc4 kV4 dc4 pm4 cd4 ct4 oc5 kV5 dc5 pm5 cd5 ct5 oc6 kV6 dc6 pm6 cd6 ct6 oc7 kV7 dc7 pm7 cd7 ct7 oc8 kV8 dc8 pm8 cd8 ct8 oc9 kV9 dc9 pm9 cd9 ct9 oc10 kV10 dc10 pm10 cd10 ct10 oc11 kV11 dc11 pm11 cd11 ct11 oc12 kV12 dc12 pm12 cd12 ct12 oc13 kV13 dc13 pm13 cd13 ct13 oc14 kV14 dc14 pm14 cd14 ct14 oc15 kV15 dc15 pm15 cd15 ct15 oc16 kV16 dc16 pm16 cd16 ct16 oc17 kV17 dc17 pm17 cd17 ct17 oc18 kV18 dc18 pm18 cd18 ct18 oc19 kV19 dc19 pm19 cd19 ct19 oc20 kV20 dc20 pm20 cd20 ct20 oc21 kV21 dc21 pm21 cd21 ct21 oc22 kV22 dc22 pm22 cd22 ct22 oc23 kV23 dc23 pm23 cd23 ct23 oc24 kV24 dc24 pm24 cd24 ct24 oc25 kV25 dc25 pm25 cd25 ct25 oc26 kV26 dc26 pm26 cd26 ct26 oc27 kV27 dc27 pm27 cd27 ct27 oc28 kV28 dc28 pm28 cd28 ct28 : Value}
 {CSite : Addr} (qSitea : PySem.W.nsIn K mainGlobals "Site" = some (some (.ref CSite))) (qSitep : PySem.W.plainGet K CSite Str.empty = true) (qSited : PySem.W.hasDictIn K CSite = true) (qSiteo : PySem.W.plainOver K CSite = true) (qSites : PySem.W.findIn K (.ref CSite) "__setattr__" = some (some (.builtin "object.__setattr__"))) (qSitem : PySem.W.makesIn K CSite = true) (qSitek : PySem.W.keepIn K (.ref CSite) = true)
 (nc_Site_own_looked : PySem.W.findIn K (.ref CSite) "own_looked" = some none)
 (nc_Site_own_deeds : PySem.W.findIn K (.ref CSite) "own_deeds" = some none)
 (nc_Site_own_cells : PySem.W.findIn K (.ref CSite) "own_cells" = some none)
 (a1 : PySem.W.nsIn K mainGlobals "near_cells" = some (some (.ref f1))) (l1 : K.lookup f1 = some ⟨oc1, od1, .func (PySem.W.fnOf "near_cells" "near_cells" (defArgs zQ) (defBody zQ) (defScope zQ) .none kV1 dc1 pm1 an1 cd1 ct1), sl1⟩) (c1 : PySem.W.codeIn K cd1 "near_cells" = true) (k1 : PySem.W.keepIn K (.ref f1) = true)
 (a2 : PySem.W.nsIn K mainGlobals "kind_by" = some (some (.ref f2))) (l2 : K.lookup f2 = some ⟨oc2, od2, .func (PySem.W.fnOf "kind_by" "kind_by" (defArgs xM) (defBody xM) (defScope xM) .none kV2 dc2 pm2 an2 cd2 ct2), sl2⟩) (c2 : PySem.W.codeIn K cd2 "kind_by" = true) (k2 : PySem.W.keepIn K (.ref f2) = true)
 (a3 : PySem.W.nsIn K mainGlobals "kind_at" = some (some (.ref f3))) (l3 : K.lookup f3 = some ⟨oc3, od3, .func (PySem.W.fnOf "kind_at" "kind_at" (defArgs xN) (defBody xN) (defScope xN) .none kV3 dc3 pm3 an3 cd3 ct3), sl3⟩) (c3 : PySem.W.codeIn K cd3 "kind_at" = true) (k3 : PySem.W.keepIn K (.ref f3) = true)
 (a4 : PySem.W.nsIn K mainGlobals "cells_of" = some (some (.ref f4))) (l4 : K.lookup f4 = some ⟨oc4, od4, .func (PySem.W.fnOf "cells_of" "cells_of" (defArgs yL) (defBody yL) (defScope yL) .none kV4 dc4 pm4 an4 cd4 ct4), sl4⟩) (c4 : PySem.W.codeIn K cd4 "cells_of" = true) (k4 : PySem.W.keepIn K (.ref f4) = true)
 (a5 : PySem.W.nsIn K mainGlobals "points_of" = some (some (.ref f5))) (l5 : K.lookup f5 = some ⟨oc5, od5, .func (PySem.W.fnOf "points_of" "points_of" (defArgs zX) (defBody zX) (defScope zX) .none kV5 dc5 pm5 an5 cd5 ct5), sl5⟩) (c5 : PySem.W.codeIn K cd5 "points_of" = true) (k5 : PySem.W.keepIn K (.ref f5) = true)
 (a6 : PySem.W.findIn K (.ref CSite) "__init__" = some (some (.ref f6))) (i6 : PySem.W.isFn K (.ref f6) = true) (l6 : K.lookup f6 = some ⟨oc6, od6, .func (PySem.W.fnOf "__init__" "Site.__init__" (defArgs wW) (defBody wW) (defScope wW) .none kV6 dc6 pm6 an6 cd6 ct6), sl6⟩) (c6 : PySem.W.codeIn K cd6 "Site.__init__" = true) (k6 : PySem.W.keepIn K (.ref f6) = true)
 (a7 : PySem.W.findIn K (.ref CSite) "kind_now" = some (some (.ref f7))) (i7 : PySem.W.isFn K (.ref f7) = true) (l7 : K.lookup f7 = some ⟨oc7, od7, .func (PySem.W.fnOf "kind_now" "Site.kind_now" (defArgs wH) (defBody wH) (defScope wH) .none kV7 dc7 pm7 an7 cd7 ct7), sl7⟩) (c7 : PySem.W.codeIn K cd7 "Site.kind_now" = true) (k7 : PySem.W.keepIn K (.ref f7) = true)
 (a8 : PySem.W.findIn K (.ref CSite) "turn_cells" = some (some (.ref f8))) (i8 : PySem.W.isFn K (.ref f8) = true) (l8 : K.lookup f8 = some ⟨oc8, od8, .func (PySem.W.fnOf "turn_cells" "Site.turn_cells" (defArgs wz) (defBody wz) (defScope wz) .none kV8 dc8 pm8 an8 cd8 ct8), sl8⟩) (c8 : PySem.W.codeIn K cd8 "Site.turn_cells" = true) (k8 : PySem.W.keepIn K (.ref f8) = true)
 (a9 : PySem.W.findIn K (.ref CSite) "turned" = some (some (.ref f9))) (i9 : PySem.W.isFn K (.ref f9) = true) (l9 : K.lookup f9 = some ⟨oc9, od9, .func (PySem.W.fnOf "turned" "Site.turned" (defArgs wG) (defBody wG) (defScope wG) .none kV9 dc9 pm9 an9 cd9 ct9), sl9⟩) (c9 : PySem.W.codeIn K cd9 "Site.turned" = true) (k9 : PySem.W.keepIn K (.ref f9) = true)
 (a10 : PySem.W.findIn K (.ref CSite) "deed" = some (some (.ref f10))) (i10 : PySem.W.isFn K (.ref f10) = true) (l10 : K.lookup f10 = some ⟨oc10, od10, .func (PySem.W.fnOf "deed" "Site.deed" (defArgs yF) (defBody yF) (defScope yF) .none kV10 dc10 pm10 an10 cd10 ct10), sl10⟩) (c10 : PySem.W.codeIn K cd10 "Site.deed" = true) (k10 : PySem.W.keepIn K (.ref f10) = true)
 (a11 : PySem.W.findIn K (.ref CSite) "add" = some (some (.ref f11))) (i11 : PySem.W.isFn K (.ref f11) = true) (l11 : K.lookup f11 = some ⟨oc11, od11, .func (PySem.W.fnOf "add" "Site.add" (defArgs yN) (defBody yN) (defScope yN) .none kV11 dc11 pm11 an11 cd11 ct11), sl11⟩) (c11 : PySem.W.codeIn K cd11 "Site.add" = true) (k11 : PySem.W.keepIn K (.ref f11) = true)
 (a12 : PySem.W.findIn K (.ref CSite) "cut" = some (some (.ref f12))) (i12 : PySem.W.isFn K (.ref f12) = true) (l12 : K.lookup f12 = some ⟨oc12, od12, .func (PySem.W.fnOf "cut" "Site.cut" (defArgs yM) (defBody yM) (defScope yM) .none kV12 dc12 pm12 an12 cd12 ct12), sl12⟩) (c12 : PySem.W.codeIn K cd12 "Site.cut" = true) (k12 : PySem.W.keepIn K (.ref f12) = true)
 (a13 : PySem.W.findIn K (.ref CSite) "undo" = some (some (.ref f13))) (i13 : PySem.W.isFn K (.ref f13) = true) (l13 : K.lookup f13 = some ⟨oc13, od13, .func (PySem.W.fnOf "undo" "Site.undo" (defArgs yE) (defBody yE) (defScope yE) .none kV13 dc13 pm13 an13 cd13 ct13), sl13⟩) (c13 : PySem.W.codeIn K cd13 "Site.undo" = true) (k13 : PySem.W.keepIn K (.ref f13) = true)
 (a14 : PySem.W.findIn K (.ref CSite) "room_now" = some (some (.ref f14))) (i14 : PySem.W.isFn K (.ref f14) = true) (l14 : K.lookup f14 = some ⟨oc14, od14, .func (PySem.W.fnOf "room_now" "Site.room_now" (defArgs wV) (defBody wV) (defScope wV) .none kV14 dc14 pm14 an14 cd14 ct14), sl14⟩) (c14 : PySem.W.codeIn K cd14 "Site.room_now" = true) (k14 : PySem.W.keepIn K (.ref f14) = true)
 (a15 : PySem.W.nsIn K mainGlobals "_law_tape" = some (some (.ref f15))) (l15 : K.lookup f15 = some ⟨oc15, od15, .func (PySem.W.fnOf "_law_tape" "_law_tape" (defArgs yz) (defBody yz) (defScope yz) .none kV15 dc15 pm15 an15 cd15 ct15), sl15⟩) (c15 : PySem.W.codeIn K cd15 "_law_tape" = true) (k15 : PySem.W.keepIn K (.ref f15) = true)
 (a16 : PySem.W.nsIn K mainGlobals "_law_draw" = some (some (.ref f16))) (l16 : K.lookup f16 = some ⟨oc16, od16, .func (PySem.W.fnOf "_law_draw" "_law_draw" (defArgs yC) (defBody yC) (defScope yC) .none kV16 dc16 pm16 an16 cd16 ct16), sl16⟩) (c16 : PySem.W.codeIn K cd16 "_law_draw" = true) (k16 : PySem.W.keepIn K (.ref f16) = true)
 (a17 : PySem.W.nsIn K mainGlobals "_law_cells" = some (some (.ref f17))) (l17 : K.lookup f17 = some ⟨oc17, od17, .func (PySem.W.fnOf "_law_cells" "_law_cells" (defArgs zj) (defBody zj) (defScope zj) .none kV17 dc17 pm17 an17 cd17 ct17), sl17⟩) (c17 : PySem.W.codeIn K cd17 "_law_cells" = true) (k17 : PySem.W.keepIn K (.ref f17) = true)
 (a18 : PySem.W.nsIn K mainGlobals "_law_kind" = some (some (.ref f18))) (l18 : K.lookup f18 = some ⟨oc18, od18, .func (PySem.W.fnOf "_law_kind" "_law_kind" (defArgs yc) (defBody yc) (defScope yc) .none kV18 dc18 pm18 an18 cd18 ct18), sl18⟩) (c18 : PySem.W.codeIn K cd18 "_law_kind" = true) (k18 : PySem.W.keepIn K (.ref f18) = true)
 (a19 : PySem.W.nsIn K mainGlobals "_law_points" = some (some (.ref f19))) (l19 : K.lookup f19 = some ⟨oc19, od19, .func (PySem.W.fnOf "_law_points" "_law_points" (defArgs zg) (defBody zg) (defScope zg) .none kV19 dc19 pm19 an19 cd19 ct19), sl19⟩) (c19 : PySem.W.codeIn K cd19 "_law_points" = true) (k19 : PySem.W.keepIn K (.ref f19) = true)
 (a20 : PySem.W.nsIn K mainGlobals "_law_same" = some (some (.ref f20))) (l20 : K.lookup f20 = some ⟨oc20, od20, .func (PySem.W.fnOf "_law_same" "_law_same" (defArgs zY) (defBody zY) (defScope zY) .none kV20 dc20 pm20 an20 cd20 ct20), sl20⟩) (c20 : PySem.W.codeIn K cd20 "_law_same" = true) (k20 : PySem.W.keepIn K (.ref f20) = true)
 (a21 : PySem.W.nsIn K mainGlobals "_law_box" = some (some (.ref f21))) (l21 : K.lookup f21 = some ⟨oc21, od21, .func (PySem.W.fnOf "_law_box" "_law_box" (defArgs xG) (defBody xG) (defScope xG) .none kV21 dc21 pm21 an21 cd21 ct21), sl21⟩) (c21 : PySem.W.codeIn K cd21 "_law_box" = true) (k21 : PySem.W.keepIn K (.ref f21) = true)
 (a22 : PySem.W.nsIn K mainGlobals "_law_box_cells" = some (some (.ref f22))) (l22 : K.lookup f22 = some ⟨oc22, od22, .func (PySem.W.fnOf "_law_box_cells" "_law_box_cells" (defArgs wJ) (defBody wJ) (defScope wJ) .none kV22 dc22 pm22 an22 cd22 ct22), sl22⟩) (c22 : PySem.W.codeIn K cd22 "_law_box_cells" = true) (k22 : PySem.W.keepIn K (.ref f22) = true)
 (a23 : PySem.W.nsIn K mainGlobals "_law_done" = some (some (.ref f23))) (l23 : K.lookup f23 = some ⟨oc23, od23, .func (PySem.W.fnOf "_law_done" "_law_done" (defArgs yD) (defBody yD) (defScope yD) .none kV23 dc23 pm23 an23 cd23 ct23), sl23⟩) (c23 : PySem.W.codeIn K cd23 "_law_done" = true) (k23 : PySem.W.keepIn K (.ref f23) = true)
 (a24 : PySem.W.nsIn K mainGlobals "_law_otherwise" = some (some (.ref f24))) (l24 : K.lookup f24 = some ⟨oc24, od24, .func (PySem.W.fnOf "_law_otherwise" "_law_otherwise" (defArgs qR) (defBody qR) (defScope qR) .none kV24 dc24 pm24 an24 cd24 ct24), sl24⟩) (c24 : PySem.W.codeIn K cd24 "_law_otherwise" = true) (k24 : PySem.W.keepIn K (.ref f24) = true)
 (a25 : PySem.W.nsIn K mainGlobals "_law_deeds" = some (some (.ref f25))) (l25 : K.lookup f25 = some ⟨oc25, od25, .func (PySem.W.fnOf "_law_deeds" "_law_deeds" (defArgs zU) (defBody zU) (defScope zU) .none kV25 dc25 pm25 an25 cd25 ct25), sl25⟩) (c25 : PySem.W.codeIn K cd25 "_law_deeds" = true) (k25 : PySem.W.keepIn K (.ref f25) = true)
 (a26 : PySem.W.nsIn K mainGlobals "_law_do" = some (some (.ref f26))) (l26 : K.lookup f26 = some ⟨oc26, od26, .func (PySem.W.fnOf "_law_do" "_law_do" (defArgs ji) (defBody ji) (defScope ji) .none kV26 dc26 pm26 an26 cd26 ct26), sl26⟩) (c26 : PySem.W.codeIn K cd26 "_law_do" = true) (k26 : PySem.W.keepIn K (.ref f26) = true)
 (a27 : PySem.W.nsIn K mainGlobals "_law_turn" = some (some (.ref f27))) (l27 : K.lookup f27 = some ⟨oc27, od27, .func (PySem.W.fnOf "_law_turn" "_law_turn" (defArgs yx) (defBody yx) (defScope yx) .none kV27 dc27 pm27 an27 cd27 ct27), sl27⟩) (c27 : PySem.W.codeIn K cd27 "_law_turn" = true) (k27 : PySem.W.keepIn K (.ref f27) = true)
 (a28 : PySem.W.nsIn K mainGlobals "law" = some (some (.ref f28))) (l28 : K.lookup f28 = some ⟨oc28, od28, .func (PySem.W.fnOf "law" "law" (defArgs Wy) (defBody Wy) (defScope Wy) .none kV28 dc28 pm28 an28 cd28 ct28), sl28⟩) (c28 : PySem.W.codeIn K cd28 "law" = true) (k28 : PySem.W.keepIn K (.ref f28) = true)
 {tk0 : Tok} {tk1 : Tok} {tk2 : Tok} {tk3 : Tok} {tk4 : Tok} {ad5 : Addr} {go5 : Option Addr} {gn5 : Nat} {gs5 : Array (Option Value)}
 (ggKINDS : PySem.W.nsIn K mainGlobals "KINDS" = some (some (.ref ad5)))
 (gl5 : K.lookup ad5 = some ⟨.type "tuple", go5, .seq #[.str (Str.ofString "none") tk0, .str (Str.ofString "outer") tk1, .str (Str.ofString "") tk2, .str (Str.ofString "inner") tk3, .str (Str.ofString "within") tk4] gn5, gs5⟩)
 (z1 : PySem.W.nsIn K mainGlobals "int" = some none)
 (z2 : PySem.W.nsIn K mainGlobals "sum" = some none)
 (z3 : PySem.W.nsIn K mainGlobals "tuple" = some none)
 (z4 : PySem.W.nsIn K mainGlobals "range" = some none)
 (z5 : PySem.W.nsIn K mainGlobals "zip" = some none)
 (z6 : PySem.W.nsIn K mainGlobals "len" = some none)
 (z7 : PySem.W.nsIn K mainGlobals "sorted" = some none)
 (z8 : PySem.W.nsIn K mainGlobals "abs" = some none)
 (z9 : PySem.W.nsIn K mainGlobals "set" = some none)
 (z10 : PySem.W.nsIn K mainGlobals "isinstance" = some none)
 (z11 : PySem.W.nsIn K mainGlobals "bool" = some none)
 (z12 : PySem.W.nsIn K mainGlobals "str" = some none)
 (z13 : PySem.W.nsIn K mainGlobals "list" = some none)
 (z14 : PySem.W.nsIn K mainGlobals "all" = some none)
 (z15 : PySem.W.nsIn K mainGlobals "min" = some none)
 (z16 : PySem.W.nsIn K mainGlobals "dict" = some none)
 (z17 : PySem.W.nsIn K mainGlobals "enumerate" = some none)
 : ∃ fd : FuncData, (∀ (s : Shared) (v : Value), BindsTo s fd ⟨[v], []⟩ [("_law_script", v)]) ∧ ∀ base : Heap, K.In base → base.Ns mainGlobals mg → FnOk l.prog w K mg base CX0 9 fa fd ["_law_script"] (spOf K JN) := by
 have e := hfa.symm.trans (PySem.W.mg_of X G a28)
 cases e
 have U1 := fun_mk (st := zQ) l1 c1 k1
 have U2 := fun_mk (st := xM) l2 c2 k2
 have U3 := fun_mk (st := xN) l3 c3 k3
 have U4 := fun_mk (st := yL) l4 c4 k4
 have U5 := fun_mk (st := zX) l5 c5 k5
 have U6 := fun_mk (st := wW) l6 c6 k6
 have U7 := fun_mk (st := wH) l7 c7 k7
 have U8 := fun_mk (st := wz) l8 c8 k8
 have U9 := fun_mk (st := wG) l9 c9 k9
 have U10 := fun_mk (st := yF) l10 c10 k10
 have U11 := fun_mk (st := yN) l11 c11 k11
 have U12 := fun_mk (st := yM) l12 c12 k12
 have U13 := fun_mk (st := yE) l13 c13 k13
 have U14 := fun_mk (st := wV) l14 c14 k14
 have U15 := fun_mk (st := yz) l15 c15 k15
 have U16 := fun_mk (st := yC) l16 c16 k16
 have U17 := fun_mk (st := zj) l17 c17 k17
 have U18 := fun_mk (st := yc) l18 c18 k18
 have U19 := fun_mk (st := zg) l19 c19 k19
 have U20 := fun_mk (st := zY) l20 c20 k20
 have U21 := fun_mk (st := xG) l21 c21 k21
 have U22 := fun_mk (st := wJ) l22 c22 k22
 have U23 := fun_mk (st := yD) l23 c23 k23
 have U24 := fun_mk (st := qR) l24 c24 k24
 have U25 := fun_mk (st := zU) l25 c25 k25
 have U26 := fun_mk (st := ji) l26 c26 k26
 have U27 := fun_mk (st := yx) l27 c27 k27
 have U28 := fun_mk (st := Wy) l28 c28 k28
 have b1 := U1.binds (ps := ["point"]) fun _ _ _ _ _ _ us hl => match us, hl with | [_], _ => rfl
 have b2 := U2.binds (ps := ["there"]) fun _ _ _ _ _ _ us hl => match us, hl with | [_], _ => rfl
 have b3 := U3.binds (ps := ["room", "point"]) fun _ _ _ _ _ _ us hl => match us, hl with | [_, _], _ => rfl
 have b4 := U4.binds (ps := ["box"]) fun _ _ _ _ _ _ us hl => match us, hl with | [_], _ => rfl
 have b5 := U5.binds (ps := ["box"]) fun _ _ _ _ _ _ us hl => match us, hl with | [_], _ => rfl
 have b6 := U6.binds (ps := ["self"]) fun _ _ _ _ _ _ us hl => match us, hl with | [_], _ => rfl
 have b7 := U7.binds (ps := ["self", "point"]) fun _ _ _ _ _ _ us hl => match us, hl with | [_, _], _ => rfl
 have b8 := U8.binds (ps := ["self", "cells"]) fun _ _ _ _ _ _ us hl => match us, hl with | [_, _], _ => rfl
 have b9 := U9.binds (ps := ["self", "box", "cells"]) fun _ _ _ _ _ _ us hl => match us, hl with | [_, _, _], _ => rfl
 have b10 := U10.binds (ps := ["self", "box", "cells"]) fun _ _ _ _ _ _ us hl => match us, hl with | [_, _, _], _ => rfl
 have b11 := U11.binds (ps := ["self", "box"]) fun _ _ _ _ _ _ us hl => match us, hl with | [_, _], _ => rfl
 have b12 := U12.binds (ps := ["self", "box"]) fun _ _ _ _ _ _ us hl => match us, hl with | [_, _], _ => rfl
 have b13 := U13.binds (ps := ["self"]) fun _ _ _ _ _ _ us hl => match us, hl with | [_], _ => rfl
 have b14 := U14.binds (ps := ["self"]) fun _ _ _ _ _ _ us hl => match us, hl with | [_], _ => rfl
 have b15 := U15.binds (ps := ["_law_script", "_law_k"]) fun _ _ _ _ _ _ us hl => match us, hl with | [_, _], _ => rfl
 have b16 := U16.binds (ps := ["_law_tape_here", "_law_many"]) fun _ _ _ _ _ _ us hl => match us, hl with | [_, _], _ => rfl
 have b17 := U17.binds (ps := ["_law_x", "_law_y", "_law_wide", "_law_high"]) fun _ _ _ _ _ _ us hl => match us, hl with | [_, _, _, _], _ => rfl
 have b18 := U18.binds (ps := ["_law_room", "_law_point"]) fun _ _ _ _ _ _ us hl => match us, hl with | [_, _], _ => rfl
 have b19 := U19.binds (ps := ["_law_room"]) fun _ _ _ _ _ _ us hl => match us, hl with | [_], _ => rfl
 have b20 := U20.binds (ps := ["_law_found", "_law_due"]) fun _ _ _ _ _ _ us hl => match us, hl with | [_, _], _ => rfl
 have b21 := U21.binds (ps := ["_law_tape_here"]) fun _ _ _ _ _ _ us hl => match us, hl with | [_], _ => rfl
 have b22 := U22.binds (ps := ["_law_box_here"]) fun _ _ _ _ _ _ us hl => match us, hl with | [_], _ => rfl
 have b23 := U23.binds (ps := ["_law_there", "_law_deed"]) fun _ _ _ _ _ _ us hl => match us, hl with | [_, _], _ => rfl
 have b24 := U24.binds (ps := ["_law_there", "_law_made"]) fun _ _ _ _ _ _ us hl => match us, hl with | [_, _], _ => rfl
 have b25 := U25.binds (ps := ["_law_tape_here", "_law_many"]) fun _ _ _ _ _ _ us hl => match us, hl with | [_, _], _ => rfl
 have b26 := U26.binds (ps := ["_law_ground", "_law_deed"]) fun _ _ _ _ _ _ us hl => match us, hl with | [_, _], _ => rfl
 have b27 := U27.binds (ps := ["_law_tape_here", "_law_ground", "_law_stack", "_law_deed"]) fun _ _ _ _ _ _ us hl => match us, hl with | [_, _, _, _], _ => rfl
 have b28 := U28.binds (ps := ["_law_script"]) fun _ _ _ _ _ _ us hl => match us, hl with | [_], _ => rfl
 have g_KINDS : Gv K mg "KINDS" Vg := ⟨_, PySem.W.mg_of X G ggKINDS, (qhb gl5 rfl rfl (show 5 ≤ sizeLine by decide) (QG (Jk _ _) (QG (Jk _ _) (QG (Jk _ _) (QG (Jk _ _) (QG (Jk _ _) qfu))))))⟩
 have C_Site : Cls K CSite := ⟨qSitep, qSited, qSiteo, qSites⟩
 have c_Site_own_looked : ObF K "Site" "own_looked" := fun C e => by
  have e := Option.some.inj (Option.some.inj (qSitea.symm.trans e))
  cases e
  exact ⟨C_Site, nc_Site_own_looked⟩
 have c_Site_own_deeds : ObF K "Site" "own_deeds" := fun C e => by
  have e := Option.some.inj (Option.some.inj (qSitea.symm.trans e))
  cases e
  exact ⟨C_Site, nc_Site_own_deeds⟩
 have c_Site_own_cells : ObF K "Site" "own_cells" := fun C e => by
  have e := Option.some.inj (Option.some.inj (qSitea.symm.trans e))
  cases e
  exact ⟨C_Site, nc_Site_own_cells⟩
 have m_int := PySem.W.mg_none_of X G z1
 have m_sum := PySem.W.mg_none_of X G z2
 have m_tuple := PySem.W.mg_none_of X G z3
 have m_range := PySem.W.mg_none_of X G z4
 have m_zip := PySem.W.mg_none_of X G z5
 have m_len := PySem.W.mg_none_of X G z6
 have m_sorted := PySem.W.mg_none_of X G z7
 have m_abs := PySem.W.mg_none_of X G z8
 have m_set := PySem.W.mg_none_of X G z9
 have m_isinstance := PySem.W.mg_none_of X G z10
 have m_bool := PySem.W.mg_none_of X G z11
 have m_str := PySem.W.mg_none_of X G z12
 have m_list := PySem.W.mg_none_of X G z13
 have m_all := PySem.W.mg_none_of X G z14
 have m_min := PySem.W.mg_none_of X G z15
 have m_dict := PySem.W.mg_none_of X G z16
 have m_enumerate := PySem.W.mg_none_of X G z17
 refine ⟨PySem.W.fnOf "law" "law" (defArgs Wy) (defBody Wy) (defScope Wy) .none kV28 dc28 pm28 an28 cd28 ct28, fun s v => .of_eq rfl, fun base _ _ => ?_⟩
 have F_near_cells : Fn l.prog w K mg base "near_cells" 1 ["point"] zr := yd U1 (wM (k := 0) (S := zr) U1 Qq rfl (by decide) (fun _ _ _ _ _ _ hr => Jv  hr) XH) (PySem.W.mg_of X G a1) b1 qW
 have F_kind_by : Fn l.prog w K mg base "kind_by" 1 ["there"] xR := yd U2 (wM (k := 0) (S := xR) U2 Yi rfl (by decide) (fun _ _ _ _ _ _ hr => qcN m_int m_sum g_KINDS hr) qbv) (PySem.W.mg_of X G a2) b2 qW
 have F_kind_at : Fn l.prog w K mg base "kind_at" 2 ["room", "point"] xT := yd U3 (wM (k := 1) (S := xT) U3 Yj rfl (by decide) (fun _ _ _ _ _ _ hr => qcO (jX F_kind_by (by decide : 1 ≤ 1)) (jX F_near_cells (by decide : 1 ≤ 1)) hr) qbw) (PySem.W.mg_of X G a3) b3 qW
 have F_cells_of : Fn l.prog w K mg base "cells_of" 1 ["box"] wO := yd U4 (wM (k := 0) (S := wO) U4 Zq rfl (by decide) (fun _ _ _ _ _ _ hr => qaZ m_tuple m_range hr) qaM) (PySem.W.mg_of X G a4) b4 qW
 have F_points_of : Fn l.prog w K mg base "points_of" 1 ["box"] yf := yd U5 (wM (k := 0) (S := yf) U5 Wi rfl (by decide) (fun _ _ _ _ _ _ hr => UL m_range hr) J5) (PySem.W.mg_of X G a5) b5 qW
 have M_Site : Mkn l.prog w K mg base "Site" 1 ["self"] wu := ⟨⟨_, _, _, qSitea, PySem.W.mg_of X G qSitea, ⟨qSitem, a6, i6, qSitek⟩, (wM (k := 0) (S := wu) U6 u6 rfl (by decide) (fun _ _ _ _ _ _ hr => ZS c_Site_own_looked c_Site_own_deeds c_Site_own_cells hr) Zd), b6⟩, qW⟩
 have F_Site_kind_now : Mt l.prog w K mg base "Site" "kind_now" 3 ["self", "point"] wj := ⟨⟨_, _, _, qSitea, C_Site, ⟨a7, i7, k7⟩, (wM (k := 2) (S := wj) U7 u5 rfl (by decide) (fun _ _ _ _ _ _ hr => ZR (jX F_kind_at (by decide : 2 ≤ 2)) c_Site_own_cells m_tuple hr) Zb), b7⟩, qW⟩
 have F_Site_turn_cells : Mt l.prog w K mg base "Site" "turn_cells" 1 ["self", "cells"] qY := ⟨⟨_, _, _, qSitea, C_Site, ⟨a8, i8, k8⟩, (wM (k := 0) (S := qY) U8 jY rfl (by decide) (fun _ _ _ _ _ _ hr => We c_Site_own_cells hr) QS), b8⟩, qW⟩
 have F_Site_turned : Mt l.prog w K mg base "Site" "turned" 4 ["self", "box", "cells"] qP := ⟨⟨_, _, _, qSitea, C_Site, ⟨a9, i9, k9⟩, (wM (k := 3) (S := qP) U9 vO rfl (by decide) (fun _ _ _ _ _ _ hr => Xl (Z9 F_Site_kind_now (by decide : 3 ≤ 3)) (Z9 F_Site_turn_cells (by decide : 1 ≤ 3)) (jX F_points_of (by decide : 1 ≤ 3)) m_zip hr) YD), b9⟩, qW⟩
 have F_Site_deed : Mt l.prog w K mg base "Site" "deed" 5 ["self", "box", "cells"] wy := ⟨⟨_, _, _, qSitea, C_Site, ⟨a10, i10, k10⟩, (wM (k := 4) (S := wy) U10 Ws rfl (by decide) (fun _ _ _ _ _ _ hr => Ve (Z9 F_Site_turned (by decide : 4 ≤ 4)) c_Site_own_looked c_Site_own_deeds m_tuple hr) Ue), b10⟩, qW⟩
 have F_Site_add : Mt l.prog w K mg base "Site" "add" 6 ["self", "box"] yS := ⟨⟨_, _, _, qSitea, C_Site, ⟨a11, i11, k11⟩, (wM (k := 5) (S := yS) U11 Zu rfl (by decide) (fun _ _ _ _ _ _ hr => qa2 (Z9 F_Site_deed (by decide : 5 ≤ 5)) (jX F_cells_of (by decide : 1 ≤ 5)) c_Site_own_cells hr) qaP), b11⟩, qW⟩
 have F_Site_cut : Mt l.prog w K mg base "Site" "cut" 6 ["self", "box"] yR := ⟨⟨_, _, _, qSitea, C_Site, ⟨a12, i12, k12⟩, (wM (k := 5) (S := yR) U12 Zt rfl (by decide) (fun _ _ _ _ _ _ hr => qa1 (Z9 F_Site_deed (by decide : 5 ≤ 5)) (jX F_cells_of (by decide : 1 ≤ 5)) c_Site_own_cells hr) qaO), b12⟩, qW⟩
 have F_Site_undo : Mt l.prog w K mg base "Site" "undo" 5 ["self"] ym := ⟨⟨_, _, _, qSitea, C_Site, ⟨a13, i13, k13⟩, (wM (k := 4) (S := ym) U13 Wr rfl (by decide) (fun _ _ _ _ _ _ hr => Vd (Z9 F_Site_turned (by decide : 4 ≤ 4)) c_Site_own_deeds m_len hr) Ud), b13⟩, qW⟩
 have F_Site_room_now : Mt l.prog w K mg base "Site" "room_now" 1 ["self"] wI := ⟨⟨_, _, _, qSitea, C_Site, ⟨a14, i14, k14⟩, (wM (k := 0) (S := wI) U14 uZ rfl (by decide) (fun _ _ _ _ _ _ hr => ZQ c_Site_own_cells m_sorted m_tuple hr) Za), b14⟩, qW⟩
 have F__law_tape : Fn l.prog w K mg base "_law_tape" 1 ["_law_script", "_law_k"] yh := yd U15 (wM (k := 0) (S := yh) U15 Wl rfl (by decide) (fun _ _ _ _ _ _ hr => UV m_abs m_int m_len hr) J9) (PySem.W.mg_of X G a15) b15 qW
 have F__law_draw : Fn l.prog w K mg base "_law_draw" 1 ["_law_tape_here", "_law_many"] qF := yd U16 (wM (k := 0) (S := qF) U16 Wo rfl (by decide) (fun _ _ _ _ _ _ hr => Vb  hr) Ub) (PySem.W.mg_of X G a16) b16 qW
 have F__law_cells : Fn l.prog w K mg base "_law_cells" 1 ["_law_x", "_law_y", "_law_wide", "_law_high"] zA := yd U17 (wM (k := 0) (S := zA) U17 Qt rfl (by decide) (fun _ _ _ _ _ _ hr => Jx m_range hr) XM) (PySem.W.mg_of X G a17) b17 qW
 have F__law_kind : Fn l.prog w K mg base "_law_kind" 1 ["_law_room", "_law_point"] zF := yd U18 (wM (k := 0) (S := zF) U18 Wn rfl (by decide) (fun _ _ _ _ _ _ hr => Va m_len m_int hr) Ua) (PySem.W.mg_of X G a18) b18 qW
 have F__law_points : Fn l.prog w K mg base "_law_points" 1 ["_law_room"] wU := yd U19 (wM (k := 0) (S := wU) U19 vN rfl (by decide) (fun _ _ _ _ _ _ hr => Xk m_sorted m_set hr) YC) (PySem.W.mg_of X G a19) b19 qW
 have F__law_same : Fn l.prog w K mg base "_law_same" 4 ["_law_found", "_law_due"] (vh 4) := by
  have allN : ∀ n : Nat, Fn l.prog w K mg base "_law_same" (0 + n) ["_law_found", "_law_due"] (vh n) := by
   intro n
   induction n with
   | zero => exact yd U20 ⟨fun vs H Q E h => h.1, fun A outer s H args us vs Q E _ _ _ _ h => by obtain ⟨_, _, _, _, _, d, _, z, _⟩ := h; exact z.elim⟩ (PySem.W.mg_of X G a20) b20 (qem 0)
   | succ n F => exact yd U20 (wM (k := 0 + n) U20 Wm rfl (by show ∀ m ∈ [Md.cst, Md.cst], m ≠ .own ∧ m ≠ .lk; decide) (fun _ _ _ _ _ _ hr => UW F m_isinstance m_bool m_int m_str m_list m_tuple m_zip m_all m_len hr) (qhC n)) (PySem.W.mg_of X G a20) b20 (qem (n + 1))
  exact allN 4
 have F__law_same := qhd (S' := wQ) F__law_same rfl (JZ) qW
 have F__law_box : Fn l.prog w K mg base "_law_box" 2 ["_law_tape_here"] yQ := yd U21 (wM (k := 1) (S := yQ) U21 Zr rfl (by decide) (fun _ _ _ _ _ _ hr => qa0 (jX F__law_draw (by decide : 1 ≤ 1)) m_min hr) qaN) (PySem.W.mg_of X G a21) b21 qW
 have F__law_box_cells : Fn l.prog w K mg base "_law_box_cells" 2 ["_law_box_here"] ww := yd U22 (wM (k := 1) (S := ww) U22 ux rfl (by decide) (fun _ _ _ _ _ _ hr => WM (jX F__law_cells (by decide : 1 ≤ 1)) hr) Wx) (PySem.W.mg_of X G a22) b22 qW
 have F__law_done : Fn l.prog w K mg base "_law_done" 3 ["_law_there", "_law_deed"] yj := yd U23 (wM (k := 2) (S := yj) U23 Wq rfl (by decide) (fun _ _ _ _ _ _ hr => Vc (jX F__law_box_cells (by decide : 2 ≤ 2)) m_dict hr) Uc) (PySem.W.mg_of X G a23) b23 qW
 have F__law_otherwise : Fn l.prog w K mg base "_law_otherwise" 2 ["_law_there", "_law_made"] qT := yd U24 (wM (k := 1) (S := qT) U24 uw rfl (by decide) (fun _ _ _ _ _ _ hr => WL (jX F__law_kind (by decide : 1 ≤ 1)) (jX F__law_points (by decide : 1 ≤ 1)) m_list m_sorted m_set hr) Ww) (PySem.W.mg_of X G a24) b24 qW
 have F__law_deeds : Fn l.prog w K mg base "_law_deeds" 3 ["_law_tape_here", "_law_many"] zu := yd U25 (wM (k := 2) (S := zu) U25 Qs rfl (by decide) (fun _ _ _ _ _ _ hr => Jw (jX F__law_draw (by decide : 1 ≤ 2)) (jX F__law_box (by decide : 2 ≤ 2)) m_range m_len hr) XJ) (PySem.W.mg_of X G a25) b25 qW
 have F__law_do : Fn l.prog w K mg base "_law_do" 7 ["_law_ground", "_law_deed"] xU := yd U26 (wM (k := 6) (S := xU) U26 Yk rfl (by decide) (fun _ _ _ _ _ _ hr => qcP (Z9 F_Site_add (by decide : 6 ≤ 6)) (Z9 F_Site_cut (by decide : 6 ≤ 6)) hr) qbx) (PySem.W.mg_of X G a26) b26 qW
 have F__law_turn : Fn l.prog w K mg base "_law_turn" 8 ["_law_tape_here", "_law_ground", "_law_stack", "_law_deed"] yg := yd U27 (wM (k := 7) (S := yg) U27 Wj rfl (by decide) (fun _ _ _ _ _ _ hr => UT (jX F__law_do (by decide : 7 ≤ 7)) (jX F__law_otherwise (by decide : 2 ≤ 7)) (jX F__law_done (by decide : 3 ≤ 7)) (jX F__law_draw (by decide : 1 ≤ 7)) (Z9 F_Site_undo (by decide : 5 ≤ 7)) m_len hr) J8) (PySem.W.mg_of X G a27) b27 qW
 exact wM (k := 8) (S := JN) U28 qd8 rfl (by decide) (fun _ _ _ _ _ _ hr => qi6 (jX F__law_deeds (by decide : 3 ≤ 8)) (jX F__law_draw (by decide : 1 ≤ 8)) (Z9 F_Site_room_now (by decide : 1 ≤ 8)) (jX F__law_same (by decide : 4 ≤ 8)) (jX F__law_turn (by decide : 8 ≤ 8)) (jX F__law_tape (by decide : 1 ≤ 8)) (by decide : 1 + 1 ≤ 8) M_Site m_len m_min m_range m_list m_enumerate m_sorted m_tuple hr) qiw
end K47
open PySem PySem.W PyProof.Rows
set_option maxRecDepth 100000 in
set_option maxHeartbeats 0 in
theorem PySem.Challenge.cw_boxcut_k47_two_sites_holds : PySem.Challenge.rw_boxcut_k47_two_sites.Holds := by
 w_on; o_law; k_head; (case hw => w_witness2)
 k_fill
 refine L2.walk_of (l := PySem.Challenge.rw_boxcut_k47_two_sites) (n := 63) (k := 9) (x := "_law_script") (CX := fun _ => L2.CX0) (sp := fun w => BX.spOf _ K47.JN) rfl (by decide) rfl ⟨rfl, by decide, by decide⟩ (fun w h Y => PySem.W.kIn_of Y) ?F (fun _ _ a ns hl _ hS => K47.sp_law hS) (fun _ _ _ _ _ z => z)
 case F =>
  intro w mg fa h KX G hmg
  refine' K47.qhH KX G hmg ?qSitea ?qSitep ?qSited ?qSiteo ?qSites ?qSitem ?qSitek ?nc_Site_own_looked ?nc_Site_own_deeds ?nc_Site_own_cells ?a1 ?l1 ?c1 ?k1 ?a2 ?l2 ?c2 ?k2 ?a3 ?l3 ?c3 ?k3 ?a4 ?l4 ?c4 ?k4 ?a5 ?l5 ?c5 ?k5 ?a6 ?i6 ?l6 ?c6 ?k6 ?a7 ?i7 ?l7 ?c7 ?k7 ?a8 ?i8 ?l8 ?c8 ?k8 ?a9 ?i9 ?l9 ?c9 ?k9 ?a10 ?i10 ?l10 ?c10 ?k10 ?a11 ?i11 ?l11 ?c11 ?k11 ?a12 ?i12 ?l12 ?c12 ?k12 ?a13 ?i13 ?l13 ?c13 ?k13 ?a14 ?i14 ?l14 ?c14 ?k14 ?a15 ?l15 ?c15 ?k15 ?a16 ?l16 ?c16 ?k16 ?a17 ?l17 ?c17 ?k17 ?a18 ?l18 ?c18 ?k18 ?a19 ?l19 ?c19 ?k19 ?a20 ?l20 ?c20 ?k20 ?a21 ?l21 ?c21 ?k21 ?a22 ?l22 ?c22 ?k22 ?a23 ?l23 ?c23 ?k23 ?a24 ?l24 ?c24 ?k24 ?a25 ?l25 ?c25 ?k25 ?a26 ?l26 ?c26 ?k26 ?a27 ?l27 ?c27 ?k27 ?a28 ?l28 ?c28 ?k28 ?ggKINDS ?gl5 ?z1 ?z2 ?z3 ?z4 ?z5 ?z6 ?z7 ?z8 ?z9 ?z10 ?z11 ?z12 ?z13 ?z14 ?z15 ?z16 ?z17
  (case qSitea => k_is)
  (case qSitep => k_is)
  (case qSited => k_is)
  (case qSiteo => k_is)
  (case qSites => k_is)
  (case qSitem => k_is)
  (case qSitek => k_is)
  (case nc_Site_own_looked => k_is)
  (case nc_Site_own_deeds => k_is)
  (case nc_Site_own_cells => k_is)
  (case a1 => k_is)
  (case l1 => k_is)
  (case c1 => k_is)
  (case k1 => k_is)
  (case a2 => k_is)
  (case l2 => k_is)
  (case c2 => k_is)
  (case k2 => k_is)
  (case a3 => k_is)
  (case l3 => k_is)
  (case c3 => k_is)
  (case k3 => k_is)
  (case a4 => k_is)
  (case l4 => k_is)
  (case c4 => k_is)
  (case k4 => k_is)
  (case a5 => k_is)
  (case l5 => k_is)
  (case c5 => k_is)
  (case k5 => k_is)
  (case a6 => k_is)
  (case i6 => k_is)
  (case l6 => k_is)
  (case c6 => k_is)
  (case k6 => k_is)
  (case a7 => k_is)
  (case i7 => k_is)
  (case l7 => k_is)
  (case c7 => k_is)
  (case k7 => k_is)
  (case a8 => k_is)
  (case i8 => k_is)
  (case l8 => k_is)
  (case c8 => k_is)
  (case k8 => k_is)
  (case a9 => k_is)
  (case i9 => k_is)
  (case l9 => k_is)
  (case c9 => k_is)
  (case k9 => k_is)
  (case a10 => k_is)
  (case i10 => k_is)
  (case l10 => k_is)
  (case c10 => k_is)
  (case k10 => k_is)
  (case a11 => k_is)
  (case i11 => k_is)
  (case l11 => k_is)
  (case c11 => k_is)
  (case k11 => k_is)
  (case a12 => k_is)
  (case i12 => k_is)
  (case l12 => k_is)
  (case c12 => k_is)
  (case k12 => k_is)
  (case a13 => k_is)
  (case i13 => k_is)
  (case l13 => k_is)
  (case c13 => k_is)
  (case k13 => k_is)
  (case a14 => k_is)
  (case i14 => k_is)
  (case l14 => k_is)
  (case c14 => k_is)
  (case k14 => k_is)
  (case a15 => k_is)
  (case l15 => k_is)
  (case c15 => k_is)
  (case k15 => k_is)
  (case a16 => k_is)
  (case l16 => k_is)
  (case c16 => k_is)
  (case k16 => k_is)
  (case a17 => k_is)
  (case l17 => k_is)
  (case c17 => k_is)
  (case k17 => k_is)
  (case a18 => k_is)
  (case l18 => k_is)
  (case c18 => k_is)
  (case k18 => k_is)
  (case a19 => k_is)
  (case l19 => k_is)
  (case c19 => k_is)
  (case k19 => k_is)
  (case a20 => k_is)
  (case l20 => k_is)
  (case c20 => k_is)
  (case k20 => k_is)
  (case a21 => k_is)
  (case l21 => k_is)
  (case c21 => k_is)
  (case k21 => k_is)
  (case a22 => k_is)
  (case l22 => k_is)
  (case c22 => k_is)
  (case k22 => k_is)
  (case a23 => k_is)
  (case l23 => k_is)
  (case c23 => k_is)
  (case k23 => k_is)
  (case a24 => k_is)
  (case l24 => k_is)
  (case c24 => k_is)
  (case k24 => k_is)
  (case a25 => k_is)
  (case l25 => k_is)
  (case c25 => k_is)
  (case k25 => k_is)
  (case a26 => k_is)
  (case l26 => k_is)
  (case c26 => k_is)
  (case k26 => k_is)
  (case a27 => k_is)
  (case l27 => k_is)
  (case c27 => k_is)
  (case k27 => k_is)
  (case a28 => k_is)
  (case l28 => k_is)
  (case c28 => k_is)
  (case k28 => k_is)
  (case ggKINDS => k_is)
  (case gl5 => k_is)
  (case z1 => k_is)
  (case z2 => k_is)
  (case z3 => k_is)
  (case z4 => k_is)
  (case z5 => k_is)
  (case z6 => k_is)
  (case z7 => k_is)
  (case z8 => k_is)
  (case z9 => k_is)
  (case z10 => k_is)
  (case z11 => k_is)
  (case z12 => k_is)
  (case z13 => k_is)
  (case z14 => k_is)
  (case z15 => k_is)
  (case z16 => k_is)
  (case z17 => k_is)
