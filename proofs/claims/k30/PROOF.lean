import PyProof.Rows.All
import Wide.All
import OpenK.AllK
import Wide.FinOn
import HandS.ForMost
import HandS.TupAny
import HandS.TupLe
import HandS.Deep
import HandS.IsInst
import PyProof.P3In
import HandS.Flow
import HandS.SortOrd
import HandS.TupSets
import HandS.Conv
import HandS.TupLen
import HandS.Small
import HandS.Zip
import KE.KDictPairs
import HandS.DictTup
import HandS.Rev
import KE.DatumOrd
import KE.DatumIndex
import KE.KDictWalk
import KE.KDictDisplayH
import KE.KEqDict
import HandS.Iter
import KE.SortData
import HandS.SetFor
import HandS.SortInts
import HandS.Strs
import PyProof.ListRange
import PySem.Challenge.RW_boxcut_k30_areas_and_walls
set_option Elab.async false
set_option linter.all false
set_option maxRecDepth 100000
namespace BX
open PySem PySem.Spec PyProof.Rows L2

inductive D where
  | non | bl (b : Bool) | int (i : Int) | str (s : Str)
  | tup (xs : List D) | lst (xs : List D)
  | dT (kvs : List (List Key × D)) | dK (kvs : List (Key × D))
  | dF (kvs : List (List Key × D))

mutual
def D.imm : D → Bool
  | .non => true
  | .bl _ => true
  | .int _ => true
  | .str _ => true
  | .tup xs => immL xs
  | .lst _ => false
  | .dT _ => false
  | .dK _ => false
  | .dF _ => false
def immL : List D → Bool
  | [] => true
  | d :: ds => d.imm && immL ds
end
theorem immL_cons {d : D} {ds : List D} : immL (d :: ds) = (d.imm && immL ds) := by rw [immL]
theorem immL_all : ∀ {ds : List D}, (∀ d ∈ ds, d.imm = true) → immL ds = true
  | [], _ => by rw [immL]
  | d :: ds, h => by rw [immL, h d (List.mem_cons_self ..), immL_all fun x hx => h x (List.mem_cons_of_mem _ hx)]; rfl
theorem immL_mem : ∀ {ds : List D}, immL ds = true → ∀ d ∈ ds, d.imm = true
  | [], _, d, h => by simp at h
  | x :: ds, e, d, h => by
    rw [immL, Bool.and_eq_true] at e
    rcases List.mem_cons.mp h with rfl | h
    · exact e.1
    · exact immL_mem e.2 d h
theorem immL_iff {ds : List D} : immL ds = true ↔ ∀ d ∈ ds, d.imm = true := ⟨immL_mem, immL_all⟩

/-- what may be changed in place -/
def Mu : HO → Bool
  | .lst _ => true
  | .dT _ => true
  | .dK _ => true
  | _ => false
def SqLF (K : PySem.W.Frag) (H : Hp) (a : Addr) (xs : List V) : Prop :=
  (∃ o, H a = some (.frz o (.lst xs))) ∨
    ∃ (o : Obj) (its : Array Value) (n : Nat), K.lookup a = some o ∧ o.cls = .type "list" ∧ o.dict = none ∧ o.data = .seq its n ∧ its.size ≤ sizeLine ∧ Vals xs its.toList
def SqTK (K : PySem.W.Frag) (a : Addr) (xs : List V) : Prop :=
    ∃ (o : Obj) (its : Array Value) (n : Nat), K.lookup a = some o ∧ o.cls = .type "tuple" ∧ o.data = .seq its n ∧ its.size ≤ sizeLine ∧ Vals xs its.toList
theorem SqLF.sq {K : PySem.W.Frag} {H : Hp} {a : Addr} {xs : List V} (h : SqLF K H a xs) : SqL K H a xs := by
  rcases h with ⟨o, h⟩ | h
  · exact .inl (.inr ⟨o, h⟩)
  · exact .inr h
theorem SqTK.sq {K : PySem.W.Frag} {H : Hp} {a : Addr} {xs : List V} (h : SqTK K a xs) : SqT K H a xs := .inr h

mutual
inductive Rep (K : PySem.W.Frag) (H : Hp) (lv : Nat) : D → V → List Addr → Prop
  | non : Rep K H lv .non .non []
  | bl (b : Bool) : Rep K H lv (.bl b) (.bl b) []
  | int (i : Int) : Rep K H lv (.int i) (.int i) []
  | str (s : Str) : Rep K H lv (.str s) (.str s) []
  | tup {a : Addr} {vs : List V} {ds : List D} {f : List Addr} : H a = some (.tup vs) → Reps K H lv ds vs f → Rep K H lv (.tup ds) (.ref a) f
  | tupK {a : Addr} {vs : List V} {ds : List D} {f : List Addr} : 2 ≤ lv → SqTK K a vs → Reps K H lv ds vs f → Rep K H lv (.tup ds) (.ref a) f
  | lst {a : Addr} {vs : List V} {ds : List D} {f : List Addr} : H a = some (.lst vs) → Reps K H lv ds vs f → (lv = 0 → a ∉ f) → Rep K H lv (.lst ds) (.ref a) (a :: f)
  | lstF {a : Addr} {vs : List V} {ds : List D} {f : List Addr} : 2 ≤ lv → SqLF K H a vs → Reps K H lv ds vs f → Rep K H lv (.lst ds) (.ref a) f
  | dT {a : Addr} {hs : List (List Key × V)} {kvs : List (List Key × D)} {f : List Addr} : H a = some (.dT hs) → hs.map (·.1) = kvs.map (·.1) → (kvs.map (·.1)).Nodup → Reps K H lv (kvs.map (·.2)) (hs.map (·.2)) f → (lv = 0 → a ∉ f) → Rep K H lv (.dT kvs) (.ref a) (a :: f)
  | dTF {a : Addr} {o : Obj} {hs : List (List Key × V)} {kvs : List (List Key × D)} {f : List Addr} : 2 ≤ lv → H a = some (.frz o (.dT hs)) → hs.map (·.1) = kvs.map (·.1) → (kvs.map (·.1)).Nodup → Reps K H lv (kvs.map (·.2)) (hs.map (·.2)) f → Rep K H lv (.dT kvs) (.ref a) f
  | dF {a : Addr} {o : Obj} {hs : List (List Key × V)} {kvs : List (List Key × D)} : H a = some (.frz o (.dT hs)) → hs.map (·.1) = kvs.map (·.1) → (kvs.map (·.1)).Nodup → Reps K H lv (kvs.map (·.2)) (hs.map (·.2)) [] → Rep K H lv (.dF kvs) (.ref a) []
  | dK {a : Addr} {hs : List (Key × V)} {kvs : List (Key × D)} {f : List Addr} : H a = some (.dK hs) → hs.map (·.1) = kvs.map (·.1) → (kvs.map (·.1)).Nodup → Reps K H lv (kvs.map (·.2)) (hs.map (·.2)) f → (lv = 0 → a ∉ f) → Rep K H lv (.dK kvs) (.ref a) (a :: f)
inductive Reps (K : PySem.W.Frag) (H : Hp) (lv : Nat) : List D → List V → List Addr → Prop
  | nil : Reps K H lv [] [] []
  | cons {d : D} {v : V} {f : List Addr} {ds : List D} {vs : List V} {g : List Addr} : Rep K H lv d v f → Reps K H lv ds vs g → (lv = 0 → ∀ b ∈ f, b ∉ g) → Reps K H lv (d :: ds) (v :: vs) (f ++ g)
end

section
variable {K : PySem.W.Frag} {H H' : Hp} {lv lv' : Nat}
theorem SqLF.keep {a : Addr} {vs : List V} (h : SqLF K H a vs) (k : ∀ o, H a = some o → Mu o = false → H' a = some o) : SqLF K H' a vs := by
  rcases h with ⟨o, h⟩ | h
  · exact .inl ⟨o, k _ h rfl⟩
  · exact .inr h
mutual
theorem Rep.keep : ∀ {d : D} {v : V} {f : List Addr}, Rep K H lv d v f → (∀ b o, H b = some o → (b ∈ f ∨ Mu o = false) → H' b = some o) → Rep K H' lv d v f
  | _, _, _, .non, _ => .non
  | _, _, _, .bl b, _ => .bl b
  | _, _, _, .int i, _ => .int i
  | _, _, _, .str s, _ => .str s
  | _, _, _, .tup h r, k => .tup (k _ _ h (.inr rfl)) (Reps.keep r k)
  | _, _, _, .tupK l h r, k => .tupK l h (Reps.keep r k)
  | _, _, _, .lst h r n, k => .lst (k _ _ h (.inl (List.mem_cons_self ..))) (Reps.keep r fun b o e c => k b o e (c.imp_left fun z => List.mem_cons_of_mem _ z)) n
  | _, _, _, .lstF l h r, k => .lstF l (h.keep fun o e m => k _ _ e (.inr m)) (Reps.keep r k)
  | _, _, _, .dT h e nd r n, k => .dT (k _ _ h (.inl (List.mem_cons_self ..))) e nd (Reps.keep r fun b o e c => k b o e (c.imp_left fun z => List.mem_cons_of_mem _ z)) n
  | _, _, _, .dTF l h e nd r, k => .dTF l (k _ _ h (.inr rfl)) e nd (Reps.keep r k)
  | _, _, _, .dF h e nd r, k => .dF (k _ _ h (.inr rfl)) e nd (Reps.keep r k)
  | _, _, _, .dK h e nd r n, k => .dK (k _ _ h (.inl (List.mem_cons_self ..))) e nd (Reps.keep r fun b o e c => k b o e (c.imp_left fun z => List.mem_cons_of_mem _ z)) n
theorem Reps.keep : ∀ {ds : List D} {vs : List V} {f : List Addr}, Reps K H lv ds vs f → (∀ b o, H b = some o → (b ∈ f ∨ Mu o = false) → H' b = some o) → Reps K H' lv ds vs f
  | _, _, _, .nil, _ => .nil
  | _, _, _, .cons r t n, k => .cons (Rep.keep r fun b o e c => k b o e (c.imp_left fun z => List.mem_append_left _ z)) (Reps.keep t fun b o e c => k b o e (c.imp_left fun z => List.mem_append_right _ z)) n
end
mutual
theorem Rep.dom : ∀ {d : D} {v : V} {f : List Addr}, Rep K H lv d v f → ∀ b ∈ f, ∃ o, H b = some o ∧ Mu o = true
  | _, _, _, .tup h r, b, hb => Reps.dom r b hb
  | _, _, _, .tupK l h r, b, hb => Reps.dom r b hb
  | _, _, _, .lst h r n, b, hb => by
    rcases List.mem_cons.mp hb with rfl | hb
    · exact ⟨_, h, rfl⟩
    · exact Reps.dom r b hb
  | _, _, _, .lstF l h r, b, hb => Reps.dom r b hb
  | _, _, _, .dT h e nd r n, b, hb => by
    rcases List.mem_cons.mp hb with rfl | hb
    · exact ⟨_, h, rfl⟩
    · exact Reps.dom r b hb
  | _, _, _, .dTF l h e nd r, b, hb => Reps.dom r b hb
  | _, _, _, .dF h e nd r, b, hb => by simp at hb
  | _, _, _, .dK h e nd r n, b, hb => by
    rcases List.mem_cons.mp hb with rfl | hb
    · exact ⟨_, h, rfl⟩
    · exact Reps.dom r b hb
theorem Reps.dom : ∀ {ds : List D} {vs : List V} {f : List Addr}, Reps K H lv ds vs f → ∀ b ∈ f, ∃ o, H b = some o ∧ Mu o = true
  | _, _, _, .cons r t n, b, hb => by
    rcases List.mem_append.mp hb with hb | hb
    · exact Rep.dom r b hb
    · exact Reps.dom t b hb
end
mutual
theorem Rep.up : ∀ {d : D} {v : V} {f : List Addr}, Rep K H lv d v f → lv ≤ lv' → Rep K H lv' d v f
  | _, _, _, .non, _ => .non
  | _, _, _, .bl b, _ => .bl b
  | _, _, _, .int i, _ => .int i
  | _, _, _, .str s, _ => .str s
  | _, _, _, .tup h r, k => .tup h (Reps.up r k)
  | _, _, _, .tupK l h r, k => .tupK (Nat.le_trans l k) h (Reps.up r k)
  | _, _, _, .lst h r n, k => .lst h (Reps.up r k) fun e => n (by omega)
  | _, _, _, .lstF l h r, k => .lstF (Nat.le_trans l k) h (Reps.up r k)
  | _, _, _, .dT h e nd r n, k => .dT h e nd (Reps.up r k) fun e => n (by omega)
  | _, _, _, .dTF l h e nd r, k => .dTF (Nat.le_trans l k) h e nd (Reps.up r k)
  | _, _, _, .dF h e nd r, k => .dF h e nd (Reps.up r k)
  | _, _, _, .dK h e nd r n, k => .dK h e nd (Reps.up r k) fun e => n (by omega)
theorem Reps.up : ∀ {ds : List D} {vs : List V} {f : List Addr}, Reps K H lv ds vs f → lv ≤ lv' → Reps K H lv' ds vs f
  | _, _, _, .nil, _ => .nil
  | _, _, _, .cons r t n, k => .cons (Rep.up r k) (Reps.up t k) fun e => n (by omega)
end
mutual
theorem Rep.imm : ∀ {d : D} {v : V} {f : List Addr}, Rep K H lv d v f → lv ≤ 1 → d.imm = true → f = [] ∧ Rep K H 0 d v []
  | _, _, _, .non, _, _ => ⟨rfl, .non⟩
  | _, _, _, .bl b, _, _ => ⟨rfl, .bl b⟩
  | _, _, _, .int i, _, _ => ⟨rfl, .int i⟩
  | _, _, _, .str s, _, _ => ⟨rfl, .str s⟩
  | _, _, _, .tup h r, l, e => by
    rw [D.imm] at e
    obtain ⟨rfl, r'⟩ := Reps.imm r l e
    exact ⟨rfl, .tup h r'⟩
  | _, _, _, .tupK l h r, k, _ => absurd l (by omega)
  | _, _, _, .lst h r n, _, e => by rw [D.imm] at e; cases e
  | _, _, _, .lstF l h r, _, e => by rw [D.imm] at e; cases e
  | _, _, _, .dT h e' nd r n, _, e => by rw [D.imm] at e; cases e
  | _, _, _, .dTF l h e' nd r, _, e => by rw [D.imm] at e; cases e
  | _, _, _, .dF h e' nd r, _, e => by rw [D.imm] at e; cases e
  | _, _, _, .dK h e' nd r n, _, e => by rw [D.imm] at e; cases e
theorem Reps.imm : ∀ {ds : List D} {vs : List V} {f : List Addr}, Reps K H lv ds vs f → lv ≤ 1 → immL ds = true → f = [] ∧ Reps K H 0 ds vs []
  | _, _, _, .nil, _, _ => ⟨rfl, .nil⟩
  | _, _, _, .cons r t n, l, e => by
    rw [immL, Bool.and_eq_true] at e
    obtain ⟨rfl, r'⟩ := Rep.imm r l e.1
    obtain ⟨rfl, t'⟩ := Reps.imm t l e.2
    exact ⟨rfl, .cons (f := []) (g := []) r' t' (fun _ b hb => by simp at hb)⟩
end
theorem Reps.len : ∀ {ds : List D} {vs : List V} {f : List Addr}, Reps K H lv ds vs f → ds.length = vs.length
  | _, _, _, .nil => rfl
  | _, _, _, .cons _ t _ => by rw [List.length_cons, List.length_cons, t.len]
theorem Reps.get : ∀ {ds : List D} {vs : List V} {f : List Addr} {i : Nat} {d : D}, Reps K H lv ds vs f → ds[i]? = some d → ∃ v g, vs[i]? = some v ∧ Rep K H lv d v g ∧ ∀ b ∈ g, b ∈ f
  | _, _, _, 0, _, .cons r t _, e => by
    cases e
    exact ⟨_, _, rfl, r, fun b hb => List.mem_append_left _ hb⟩
  | _, _, _, i + 1, _, .cons r t _, e => by
    obtain ⟨v, g, h1, h2, h3⟩ := t.get (i := i) (by simpa using e)
    exact ⟨v, g, by simpa using h1, h2, fun b hb => List.mem_append_right _ (h3 b hb)⟩
theorem Reps.append : ∀ {ds es : List D} {vs ws : List V} {f g : List Addr}, Reps K H lv ds vs f → Reps K H lv es ws g → (lv = 0 → ∀ b ∈ f, b ∉ g) → Reps K H lv (ds ++ es) (vs ++ ws) (f ++ g)
  | _, _, _, _, _, _, .nil, q, _ => q
  | _, es, _, ws, _, g, .cons (f := f1) (g := g1) (ds := ds) (vs := vs) r t n, q, k => by
    rw [List.cons_append, List.cons_append, List.append_assoc]
    refine .cons r (Reps.append t q fun e b hb => k e b (List.mem_append_right _ hb)) fun e b hb z => ?_
    rcases List.mem_append.mp z with z | z
    · exact n e b hb z
    · exact k e b (List.mem_append_left _ hb) z
theorem Reps.one {d : D} {v : V} {f : List Addr} (r : Rep K H lv d v f) : Reps K H lv [d] [v] f := by
  have := Reps.cons (g := []) r .nil (fun _ b _ z => by simp at z)
  rwa [List.append_nil] at this
/-- items that hold nothing that changes -/
theorem Reps.of_get : ∀ {ds : List D} {vs : List V}, ds.length = vs.length → (∀ (i : Nat) (d : D) (v : V), ds[i]? = some d → vs[i]? = some v → Rep K H lv d v []) → Reps K H lv ds vs []
  | [], [], _, _ => .nil
  | d :: ds, v :: vs, e, h => .cons (f := []) (g := []) (h 0 d v rfl rfl) (Reps.of_get (by simpa using e) fun i d v h1 h2 => h (i + 1) d v (by simpa using h1) (by simpa using h2)) (fun _ b hb => by simp at hb)
theorem Rep.tupleSq {ds : List D} {v : V} {f : List Addr} (r : Rep K H lv (.tup ds) v f) : ∃ a vs, v = .ref a ∧ SqT K H a vs ∧ Reps K H lv ds vs f := by
  cases r with
  | tup h r => exact ⟨_, _, rfl, .inl (.inl h), r⟩
  | tupK l h r => exact ⟨_, _, rfl, h.sq, r⟩
theorem Rep.tupleAt {ds : List D} {v : V} {f : List Addr} (r : Rep K H lv (.tup ds) v f) (l : lv ≤ 1) : ∃ a vs, v = .ref a ∧ H a = some (.tup vs) ∧ Reps K H lv ds vs f := by
  cases r with
  | tup h r => exact ⟨_, _, rfl, h, r⟩
  | tupK l' h r => exact absurd l' (by omega)
theorem Rep.listSq {ds : List D} {v : V} {f : List Addr} (r : Rep K H lv (.lst ds) v f) : ∃ a vs g, v = .ref a ∧ SqL K H a vs ∧ Reps K H lv ds vs g ∧ (∀ b ∈ g, b ∈ f) ∧ (H a = some (.lst vs) ∧ a ∈ f ∨ SqLF K H a vs) := by
  cases r with
  | lst h r n => exact ⟨_, _, _, rfl, .inl (.inl h), r, fun b hb => List.mem_cons_of_mem _ hb, .inl ⟨h, List.mem_cons_self ..⟩⟩
  | lstF l h r => exact ⟨_, _, _, rfl, h.sq, r, fun b hb => hb, .inr h⟩
theorem Rep.listAt {ds : List D} {v : V} {f : List Addr} (r : Rep K H 0 (.lst ds) v f) : ∃ a vs g, v = .ref a ∧ H a = some (.lst vs) ∧ Reps K H 0 ds vs g ∧ f = a :: g ∧ a ∉ g := by
  cases r with
  | lst h r n => exact ⟨_, _, _, rfl, h, r, rfl, n rfl⟩
  | lstF l h r => exact absurd l (by omega)
theorem Rep.dTAt {kvs : List (List Key × D)} {v : V} {f : List Addr} (r : Rep K H lv (.dT kvs) v f) (l : lv ≤ 1 := by omega) : ∃ a hs g, v = .ref a ∧ H a = some (.dT hs) ∧ hs.map (·.1) = kvs.map (·.1) ∧ (kvs.map (·.1)).Nodup ∧ Reps K H lv (kvs.map (·.2)) (hs.map (·.2)) g ∧ f = a :: g ∧ (lv = 0 → a ∉ g) := by
  cases r with
  | dT h e nd r n => exact ⟨_, _, _, rfl, h, e, nd, r, rfl, n⟩
  | dTF l' h e nd r => exact absurd l' (by omega)
theorem Rep.dKAt {kvs : List (Key × D)} {v : V} {f : List Addr} (r : Rep K H lv (.dK kvs) v f) : ∃ a hs g, v = .ref a ∧ H a = some (.dK hs) ∧ hs.map (·.1) = kvs.map (·.1) ∧ (kvs.map (·.1)).Nodup ∧ Reps K H lv (kvs.map (·.2)) (hs.map (·.2)) g ∧ f = a :: g ∧ (lv = 0 → a ∉ g) := by
  cases r with
  | dK h e nd r n => exact ⟨_, _, _, rfl, h, e, nd, r, rfl, n⟩
theorem Rep.listAt1 {ds : List D} {v : V} {f : List Addr} (r : Rep K H lv (.lst ds) v f) (l : lv ≤ 1) : ∃ a vs g, v = .ref a ∧ H a = some (.lst vs) ∧ Reps K H lv ds vs g ∧ f = a :: g := by
  cases r with
  | lst h r n => exact ⟨_, _, _, rfl, h, r, rfl⟩
  | lstF l' h r => exact absurd l' (by omega)
theorem Rep.nonV {v : V} {f : List Addr} (r : Rep K H lv .non v f) : v = .non ∧ f = [] := by cases r; exact ⟨rfl, rfl⟩
theorem Rep.intV {i : Int} {v : V} {f : List Addr} (r : Rep K H lv (.int i) v f) : v = .int i ∧ f = [] := by cases r; exact ⟨rfl, rfl⟩
theorem Rep.blV {i : Bool} {v : V} {f : List Addr} (r : Rep K H lv (.bl i) v f) : v = .bl i ∧ f = [] := by cases r; exact ⟨rfl, rfl⟩
theorem Rep.int0 {i : Int} {v : V} {f : List Addr} (r : Rep K H lv (.int i) v f) : Rep K H 0 (.int i) v [] := by cases r; exact .int i
theorem Rep.bl0 {i : Bool} {v : V} {f : List Addr} (r : Rep K H lv (.bl i) v f) : Rep K H 0 (.bl i) v [] := by cases r; exact .bl i
theorem Rep.str0 {i : Str} {v : V} {f : List Addr} (r : Rep K H lv (.str i) v f) : Rep K H 0 (.str i) v [] := by cases r; exact .str i
theorem Rep.non0 {v : V} {f : List Addr} (r : Rep K H lv .non v f) : Rep K H 0 .non v [] := by cases r; exact .non
theorem Rep.strV {i : Str} {v : V} {f : List Addr} (r : Rep K H lv (.str i) v f) : v = .str i ∧ f = [] := by cases r; exact ⟨rfl, rfl⟩
end

inductive Md where
  | own | io | lk | ro | cst
  deriving DecidableEq
def Md.lv : Md → Nat
  | .own => 0
  | .io => 0
  | .lk => 0
  | .ro => 1
  | .cst => 2
def Md.rd : Md → Bool
  | .own => false
  | .io => false
  | .lk => true
  | .ro => true
  | .cst => true
abbrev En := List (Option (D × Md))
abbrev FA := Nat → List Addr

def W (env : En) (f : FA) (b : Addr) : Prop := ∃ i d m, env[i]? = some (some (d, m)) ∧ m.rd = false ∧ b ∈ f i
/-- what only this frame's slots hold -/
def L0 (env : En) (f : FA) (b : Addr) : Prop := ∃ i d m, env[i]? = some (some (d, m)) ∧ m.lv = 0 ∧ b ∈ f i
def Ro (env : En) (f : FA) (b : Addr) : Prop := ∃ i d m, env[i]? = some (some (d, m)) ∧ m.lv ≠ 0 ∧ b ∈ f i
theorem Md.lv_of {m : Md} (h : m.rd = false) : m.lv = 0 := by cases m <;> first | rfl | (cases h)
theorem Md.rd_of {m : Md} (h : m.lv ≠ 0) : m.rd = true := by cases m <;> first | rfl | exact absurd rfl h
theorem W.l0 {env : En} {f : FA} {b : Addr} (h : W env f b) : L0 env f b := let ⟨i, d, m, e, r, hb⟩ := h; ⟨i, d, m, e, Md.lv_of r, hb⟩

structure Abs (K : PySem.W.Frag) (σ : L2.St) (H : Hp) (env : En) (f : FA) : Prop where
  rep : ∀ i d m, env[i]? = some (some (d, m)) → ∃ v, σ[i]? = some (some v) ∧ Rep K H m.lv d v (f i)
  dis : ∀ i j d m d' m', i ≠ j → env[i]? = some (some (d, m)) → env[j]? = some (some (d', m')) → m.lv = 0 → ∀ b ∈ f i, b ∉ f j
  len : env.length = σ.length

inductive R where
  | tmp (d : D)
  | ro (c : Bool) (d : D)
  | sl (i : Nat)
def clv : Bool → Nat
  | false => 1
  | true => 2
inductive ResOk (K : PySem.W.Frag) (σ : L2.St) (H : Hp) (env : En) (f : FA) : R → V → List Addr → Prop
  | tmp {d : D} {v : V} {g : List Addr} : Rep K H 0 d v g → (∀ b ∈ g, ¬ L0 env f b ∧ ¬ Ro env f b) → ResOk K σ H env f (.tmp d) v g
  | ro {c : Bool} {d : D} {v : V} {g : List Addr} : Rep K H (clv c) d v g → (∀ b ∈ g, Ro env f b) → ResOk K σ H env f (.ro c d) v []
  | sl {i : Nat} {v : V} {d : D} {m : Md} : σ[i]? = some (some v) → env[i]? = some (some (d, m)) → m.lv = 0 → ResOk K σ H env f (.sl i) v []

structure Stp (H : Hp) (env : En) (f : FA) (G : List Addr) (H' : Hp) (env' : En) (f' : FA) (G' : List Addr) : Prop where
  same : ∀ b o, H b = some o → (Mu o = false ∨ (¬ W env f b ∧ b ∉ G)) → H' b = some o
  own : ∀ b, (W env' f' b ∨ b ∈ G') → (W env f b ∨ b ∈ G ∨ H b = none)
/-- an expression keeps which slots there are, and what is read only -/
structure Kp (env : En) (f : FA) (env' : En) (f' : FA) : Prop where
  modes : env'.map (Option.map Prod.snd) = env.map (Option.map Prod.snd)
  ros : ∀ j d m, env[j]? = some (some (d, m)) → m.rd = true → env'[j]? = some (some (d, m)) ∧ f' j = f j

section
variable {K : PySem.W.Frag} {σ : L2.St} {H H1 H2 : Hp} {env env1 env2 : En} {f f1 f2 : FA} {G G1 G2 : List Addr}
theorem Stp.refl : Stp H env f G H env f G := ⟨fun _ _ h _ => h, fun _ h => h.elim .inl fun z => .inr (.inl z)⟩
theorem Stp.trans (a : Stp H env f G H1 env1 f1 G1) (b : Stp H1 env1 f1 G1 H2 env2 f2 G2) : Stp H env f G H2 env2 f2 G2 where
  same := fun c o h q => by
    have h1 := a.same c o h q
    rcases q with q | q
    · exact b.same c o h1 (.inl q)
    · refine b.same c o h1 (.inr ⟨fun z => ?_, fun z => ?_⟩)
      · rcases a.own c (.inl z) with z | z | z
        · exact q.1 z
        · exact q.2 z
        · rw [h] at z; cases z
      · rcases a.own c (.inr z) with z | z | z
        · exact q.1 z
        · exact q.2 z
        · rw [h] at z; cases z
  own := fun c q => by
    rcases b.own c q with z | z | z
    · exact a.own c (.inl z)
    · exact a.own c (.inr z)
    · by_cases hw : W env f c
      · exact .inl hw
      · by_cases hg : c ∈ G
        · exact .inr (.inl hg)
        · refine .inr (.inr ?_)
          cases e : H c with
          | none => rfl
          | some o =>
            have := a.same c o e (.inr ⟨hw, hg⟩)
            rw [z] at this; cases this
/-- what is pending besides -/
theorem Stp.frame (a : Stp H env f [] H1 env1 f1 G1) (P : List Addr) : Stp H env f P H1 env1 f1 (P ++ G1) :=
  ⟨fun b o h q => a.same b o h (q.imp_right fun z => ⟨z.1, by simp⟩), fun b q => by
    rcases q with q | q
    · rcases a.own b (.inl q) with z | z | z
      · exact .inl z
      · simp at z
      · exact .inr (.inr z)
    · rcases List.mem_append.mp q with z | z
      · exact .inr (.inl z)
      · rcases a.own b (.inr z) with z | z | z
        · exact .inl z
        · simp at z
        · exact .inr (.inr z)⟩
theorem Stp.more0 (a : Stp H env f [] H1 env1 f1 G1) : Stp H env f G H1 env1 f1 G1 :=
  ⟨fun b o e q => a.same b o e (q.imp_right fun z => ⟨z.1, by simp⟩), fun b q => (a.own b q).imp_right fun z => z.imp_left fun y => by simp at y⟩
theorem Stp.drop (a : Stp H env f G H1 env1 f1 G1) {G2 : List Addr} (h : ∀ b ∈ G2, b ∈ G1) : Stp H env f G H1 env1 f1 G2 :=
  ⟨a.same, fun b q => a.own b (q.imp_right (h b))⟩
theorem Stp.more (a : Stp H env f G H1 env1 f1 G1) {G2 : List Addr} (h : ∀ b ∈ G, b ∈ G2) : Stp H env f G2 H1 env1 f1 G1 :=
  ⟨fun b o e q => a.same b o e (q.imp_right fun z => ⟨z.1, fun y => z.2 (h b y)⟩), fun b q => (a.own b q).imp_right fun z => z.imp_left (h b)⟩
theorem Kp.refl : Kp env f env f := ⟨rfl, fun _ _ _ h _ => ⟨h, rfl⟩⟩
theorem Kp.trans (a : Kp env f env1 f1) (b : Kp env1 f1 env2 f2) : Kp env f env2 f2 :=
  ⟨b.modes.trans a.modes, fun j d m h r => let ⟨h1, e1⟩ := a.ros j d m h r; let ⟨h2, e2⟩ := b.ros j d m h1 r; ⟨h2, e2.trans e1⟩⟩
theorem Kp.slot (a : Kp env f env1 f1) {i : Nat} {d : D} {m : Md} (h : env[i]? = some (some (d, m))) : ∃ d', env1[i]? = some (some (d', m)) := by
  have e := congrArg (fun l => l[i]?) a.modes
  simp only [List.getElem?_map, h, Option.map_some] at e
  cases q : env1[i]? with
  | none => rw [q] at e; cases e
  | some o =>
    rw [q] at e
    cases o with
    | none => cases e
    | some p => obtain ⟨d', m'⟩ := p; simp only [Option.map_some, Option.some.injEq] at e; subst e; exact ⟨d', rfl⟩
theorem Kp.slot' (a : Kp env f env1 f1) {i : Nat} {d : D} {m : Md} (h : env1[i]? = some (some (d, m))) : ∃ d', env[i]? = some (some (d', m)) := by
  have e := congrArg (fun l => l[i]?) a.modes
  simp only [List.getElem?_map, h, Option.map_some] at e
  cases q : env[i]? with
  | none => rw [q] at e; cases e
  | some o =>
    rw [q] at e
    cases o with
    | none => cases e
    | some p => obtain ⟨d', m'⟩ := p; simp only [Option.map_some, Option.some.injEq] at e; subst e; exact ⟨d', rfl⟩
theorem Kp.ro (a : Kp env f env1 f1) {b : Addr} (h : Ro env f b) : Ro env1 f1 b := by
  obtain ⟨i, d, m, e, r, hb⟩ := h
  obtain ⟨e1, e2⟩ := a.ros i d m e (Md.rd_of r)
  exact ⟨i, d, m, e1, r, by rw [e2]; exact hb⟩
theorem Kp.ro' (a : Kp env f env1 f1) {b : Addr} (h : Ro env1 f1 b) : Ro env f b := by
  obtain ⟨i, d, m, e, r, hb⟩ := h
  obtain ⟨d', e'⟩ := a.slot' e
  obtain ⟨e1, e2⟩ := a.ros i d' m e' (Md.rd_of r)
  rw [e2] at hb
  exact ⟨i, d', m, e', r, hb⟩
theorem Kp.l0 (a : Kp env f env1 f1) {b : Addr} (h : L0 env1 f1 b) : W env1 f1 b ∨ L0 env f b := by
  obtain ⟨i, d, m, e, r, hb⟩ := h
  cases hm : m.rd with
  | false => exact .inl ⟨i, d, m, e, hm, hb⟩
  | true =>
    obtain ⟨d', e'⟩ := a.slot' e
    obtain ⟨e1, e2⟩ := a.ros i d' m e' hm
    rw [e2] at hb
    exact .inr ⟨i, d', m, e', r, hb⟩
theorem Abs.wdom (A : Abs K σ H env f) {b : Addr} (h : W env f b) : ∃ o, H b = some o ∧ Mu o = true := by
  obtain ⟨i, d, m, e, r, hb⟩ := h
  obtain ⟨v, _, rp⟩ := A.rep i d m e
  exact rp.dom b hb
theorem Abs.rdom (A : Abs K σ H env f) {b : Addr} (h : Ro env f b) : ∃ o, H b = some o ∧ Mu o = true := by
  obtain ⟨i, d, m, e, r, hb⟩ := h
  obtain ⟨v, _, rp⟩ := A.rep i d m e
  exact rp.dom b hb
theorem Abs.ldom (A : Abs K σ H env f) {b : Addr} (h : L0 env f b) : ∃ o, H b = some o ∧ Mu o = true := by
  obtain ⟨i, d, m, e, r, hb⟩ := h
  obtain ⟨v, _, rp⟩ := A.rep i d m e
  exact rp.dom b hb
theorem Abs.apart (A : Abs K σ H env f) {b : Addr} (h : L0 env f b) : ¬ Ro env f b := by
  rintro ⟨j, d', m', e', r', hb'⟩
  obtain ⟨i, d, m, e, r, hb⟩ := h
  refine A.dis i j d m d' m' (fun z => ?_) e e' r b hb hb'
  subst z
  rw [e] at e'; cases e'
  exact r' r
theorem ResOk.dom {r : R} {v : V} {g : List Addr} (h : ResOk K σ H env f r v g) : ∀ b ∈ g, ∃ o, H b = some o ∧ Mu o = true := by
  cases h with
  | tmp r _ => exact r.dom
  | ro _ _ => intro b hb; simp at hb
  | sl _ _ _ => intro b hb; simp at hb
/-- a result that waits while the next is reckoned -/
theorem ResOk.wait {r : R} {v : V} {g : List Addr} (h : ResOk K σ H env f r v g) (A : Abs K σ H env f) (s : Stp H env f [] H1 env1 f1 G1) (k : Kp env f env1 f1) :
    ResOk K σ H1 env1 f1 r v g ∧ ∀ b ∈ g, b ∉ G1 := by
  cases h with
  | tmp r n =>
    refine ⟨.tmp (r.keep fun b o e q => ?_) fun b hb => ⟨fun z => ?_, fun z => ?_⟩, fun b hb z => ?_⟩
    · rcases q with q | q
      · exact s.same b o e (.inr ⟨fun z => (n b q).1 z.l0, by simp⟩)
      · exact s.same b o e (.inl q)
    · obtain ⟨o, ho, _⟩ := r.dom b hb
      rcases k.l0 z with z | z
      · rcases s.own b (.inl z) with z | z | z
        · exact (n b hb).1 z.l0
        · simp at z
        · rw [ho] at z; cases z
      · exact (n b hb).1 z
    · exact (n b hb).2 (k.ro' z)
    · obtain ⟨o, ho, _⟩ := r.dom b hb
      rcases s.own b (.inr z) with z | z | z
      · exact (n b hb).1 z.l0
      · simp at z
      · rw [ho] at z; cases z
  | ro r n =>
    refine ⟨.ro (r.keep fun b o e q => ?_) fun b hb => k.ro (n b hb), fun b hb => by simp at hb⟩
    rcases q with q | q
    · exact s.same b o e (.inr ⟨fun z => A.apart z.l0 (n b q), by simp⟩)
    · exact s.same b o e (.inl q)
  | sl e1 e2 hm =>
    obtain ⟨d', e3⟩ := k.slot e2
    exact ⟨.sl e1 e3 hm, fun b hb => by simp at hb⟩
end
end BX

namespace BX
open PySem PySem.Spec PyProof.Rows L2

abbrev XE := En → (R → En → Prop) → Prop
abbrev XT := En → (Bool → En → Prop) → Prop
abbrev XA := En → (List R → En → Prop) → Prop
def MonoE (t : XE) : Prop := ∀ env Q Q', (∀ r e, Q r e → Q' r e) → t env Q → t env Q'
def MonoT (t : XT) : Prop := ∀ env Q Q', (∀ r e, Q r e → Q' r e) → t env Q → t env Q'
def MonoA (t : XA) : Prop := ∀ env Q Q', (∀ r e, Q r e → Q' r e) → t env Q → t env Q'

def PostE (K : PySem.W.Frag) (σ : L2.St) (H : Hp) (env : En) (f : FA) (Q : VK) : R → En → Prop := fun r env' => ∀ v H' f' g, Abs K σ H' env' f' → ResOk K σ H' env' f' r v g → Stp H env f [] H' env' f' g → Kp env f env' f' → Q v H'
def liftE (K : PySem.W.Frag) (t : XE) : TE := fun σ H Q => ∃ env f, Abs K σ H env f ∧ t env (PostE K σ H env f Q)
def liftT (K : PySem.W.Frag) (t : XT) : TT := fun σ H Q => ∃ env f, Abs K σ H env f ∧ t env fun b env' => ∀ H' f', Abs K σ H' env' f' → Stp H env f [] H' env' f' [] → Kp env f env' f' → Q b H'
/-- several results, each apart -/
inductive ResOks (K : PySem.W.Frag) (σ : L2.St) (H : Hp) (env : En) (f : FA) : List R → List V → List Addr → Prop
  | nil : ResOks K σ H env f [] [] []
  | cons {r : R} {v : V} {g : List Addr} {rs : List R} {vs : List V} {gs : List Addr} : ResOk K σ H env f r v g → ResOks K σ H env f rs vs gs → (∀ b ∈ g, b ∉ gs) → ResOks K σ H env f (r :: rs) (v :: vs) (g ++ gs)
def liftA (K : PySem.W.Frag) (t : XA) : TA := fun σ H Q => ∃ env f, Abs K σ H env f ∧ t env fun rs env' => ∀ vs H' f' gs, Abs K σ H' env' f' → ResOks K σ H' env' f' rs vs gs → Stp H env f [] H' env' f' gs → Kp env f env' f' → Q vs H'

structure DE (X : Cx) (e : Expr) (t : XE) : Prop where
  run : PE X e (liftE X.K t)
  mono : MonoE t
structure DT (X : Cx) (e : Expr) (t : XT) : Prop where
  run : PT X e (liftT X.K t)
  mono : MonoT t
structure DW (X : Cx) (e : Expr) (t : XT) : Prop where
  run : PW X e (liftT X.K t)
  mono : MonoT t
structure DA (X : Cx) (es : List Expr) (t : XA) : Prop where
  run : PA X es (liftA X.K t)
  mono : MonoA t

/-- an expression's rule whose reading follows from another -/
theorem PE.imp {X : Cx} {e : Expr} {t u : TE} (h : PE X e t) (k : ∀ σ H Q, u σ H Q → t σ H Q) : PE X e u := ⟨fun pins s σ H Q I q => h.run pins s σ H Q I (k _ _ _ q)⟩
theorem PT.imp {X : Cx} {e : Expr} {t u : TT} (h : PT X e t) (k : ∀ σ H Q, u σ H Q → t σ H Q) : PT X e u := ⟨fun pins s σ H Q I q => h.run pins s σ H Q I (k _ _ _ q)⟩
theorem PW.imp {X : Cx} {e : Expr} {t u : TT} (h : PW X e t) (k : ∀ σ H Q, u σ H Q → t σ H Q) : PW X e u := ⟨fun wh pins s σ H Q I q => h.run wh pins s σ H Q I (k _ _ _ q)⟩
theorem PA.imp {X : Cx} {e : List Expr} {t u : TA} (h : PA X e t) (k : ∀ σ H Q, u σ H Q → t σ H Q) : PA X e u := ⟨fun pos pins s σ H Q I q => h.run pos pins s σ H Q I (k _ _ _ q)⟩

def Md.okL : Md → Nat → Bool
  | .own, _ => true
  | .io, _ => true
  | .lk, _ => true
  | .ro, 0 => false
  | .ro, _ + 1 => true
  | .cst, 0 => false
  | .cst, 1 => false
  | .cst, _ + 2 => true
def roOk : Bool → Nat → Bool
  | false, 0 => false
  | false, _ + 1 => true
  | true, 0 => false
  | true, 1 => false
  | true, _ + 2 => true
theorem Md.okL_le {m : Md} {L : Nat} (h : m.okL L = true) : m.lv ≤ L := by
  cases m with
  | own => exact Nat.zero_le _
  | io => exact Nat.zero_le _
  | lk => exact Nat.zero_le _
  | ro => cases L with
    | zero => cases h
    | succ n => exact Nat.succ_le_succ (Nat.zero_le _)
  | cst => match L, h with
    | n + 2, _ => exact Nat.le_add_left 2 n
theorem roOk_le {c : Bool} {L : Nat} (h : roOk c L = true) : clv c ≤ L := by
  match c, L, h with
  | false, n + 1, _ => exact Nat.le_add_left 1 n
  | true, n + 2, _ => exact Nat.le_add_left 2 n
def R.data (L : Nat) (env : En) : R → Option D
  | .tmp d => some d
  | .ro c d => match roOk c L with
    | true => some d
    | false => none
  | .sl i => match env[i]? with
    | some (some (d, m)) => match m.okL L with
      | true => some d
      | false => none
    | _ => none
def rd (L : Nat) (r : R) (env : En) (k : D → Prop) : Prop := match r.data L env with
  | some d => k d
  | none => False
/-- what may be put into a list or a tuple: owned, or without anything that changes -/
def stor (r : R) (env : En) (k : D → Prop) : Prop := match r with
  | .tmp d => k d
  | r => rd 1 r env fun d => d.imm = true ∧ k d
def mkRo (c : Bool) (d : D) : R := match d with
  | .int i => .tmp (.int i)
  | .bl i => .tmp (.bl i)
  | .str i => .tmp (.str i)
  | .non => .tmp .non
  | d => .ro c d
/-- a part d of what r tells -/
def elem (r : R) (d : D) (k : R → Prop) : Prop := match r with
  | .tmp _ => k (.tmp d)
  | .ro c _ => k (mkRo c d)
  | .sl _ => d.imm = true ∧ k (.tmp d)
theorem rd_mono {L : Nat} {r : R} {env : En} {k k' : D → Prop} (h : ∀ d, k d → k' d) (q : rd L r env k) : rd L r env k' := by
  unfold rd at q ⊢
  cases e : r.data L env with
  | none => rw [e] at q; exact q
  | some d => rw [e] at q; exact h _ q
theorem stor_mono {r : R} {env : En} {k k' : D → Prop} (h : ∀ d, k d → k' d) (q : stor r env k) : stor r env k' := by
  cases r with
  | tmp d => exact h _ q
  | ro c d => exact rd_mono (fun d z => ⟨z.1, h _ z.2⟩) q
  | sl i => exact rd_mono (fun d z => ⟨z.1, h _ z.2⟩) q
theorem elem_mono {r : R} {d : D} {k k' : R → Prop} (h : ∀ d, k d → k' d) (q : elem r d k) : elem r d k' := by
  cases r with
  | tmp _ => exact h _ q
  | ro c _ => exact h _ q
  | sl _ => exact ⟨q.1, h _ q.2⟩

/-- more stands than before; what is at g is new -/
structure Ext (H H' : Hp) (g : List Addr) : Prop where
  same : ∀ b o, H b = some o → H' b = some o
  new : ∀ b ∈ g, H b = none
theorem Ext.refl {H : Hp} : Ext H H [] := ⟨fun _ _ h => h, fun b hb => by simp at hb⟩
theorem Ext.upd {H : Hp} {p : Addr} {o : HO} (h : H p = none) : Ext H (L2.upd H p o) [p] := ⟨fun b u e => by rw [upd_ne (ne_of_none e h)]; exact e, fun b hb => by rw [List.mem_singleton.mp hb]; exact h⟩
theorem Ext.drop {H H' : Hp} {g g' : List Addr} (e : Ext H H' g) (h : ∀ b ∈ g', b ∈ g) : Ext H H' g' := ⟨e.same, fun b hb => e.new b (h b hb)⟩

theorem Stp.new {H H1 H2 : Hp} {env e1 : En} {f f1 : FA} {G G1 g : List Addr} (S : Stp H env f G H1 e1 f1 G1) (x : Ext H1 H2 g) : Stp H env f G H2 e1 f1 (g ++ G1) :=
  S.trans ⟨fun b o h _ => x.same b o h, fun b q => q.elim .inl fun z => (List.mem_append.mp z).elim (fun y => .inr (.inr (x.new b y))) fun y => .inr (.inl y)⟩
section
variable {K : PySem.W.Frag} {σ : L2.St} {H H1 H2 H' : Hp} {env e1 e2 : En} {f f1 f2 : FA} {G g : List Addr} {r : R} {v z : V} {d : D}
theorem rd_ok {L : Nat} {k : D → Prop} (A : Abs K σ H env f) (h : ResOk K σ H env f r v g) (q : rd L r env k) : ∃ d g', Rep K H L d v g' ∧ k d := by
  cases h with
  | tmp r _ => exact ⟨_, _, r.up (Nat.zero_le _), q⟩
  | @ro c d _ _ r _ =>
    unfold rd R.data at q
    cases e : roOk c L with
    | false => simp only [e] at q
    | true => simp only [e] at q; exact ⟨_, _, r.up (roOk_le e), q⟩
  | @sl i _ d m h1 h2 hm =>
    obtain ⟨v', h3, rp⟩ := A.rep _ _ _ h2
    rw [h1] at h3; cases h3
    unfold rd R.data at q
    simp only [h2] at q
    cases e : m.okL L with
    | false => simp only [e] at q
    | true => simp only [e] at q; exact ⟨_, _, rp.up (Md.okL_le e), q⟩
theorem stor_ok {k : D → Prop} (A : Abs K σ H env f) (h : ResOk K σ H env f r v g) (q : stor r env k) : ∃ d, Rep K H 0 d v g ∧ k d ∧ (∀ b ∈ g, ¬ L0 env f b ∧ ¬ Ro env f b) := by
  cases r with
  | tmp d => cases h with
    | tmp r n => exact ⟨d, r, q, n⟩
  | ro c d =>
    obtain ⟨d', g', rp, e, q⟩ := rd_ok A h q
    obtain ⟨rfl, rp'⟩ := rp.imm (Nat.le_refl _) e
    cases h
    exact ⟨d', rp', q, fun b hb => by simp at hb⟩
  | sl i =>
    obtain ⟨d', g', rp, e, q⟩ := rd_ok A h q
    obtain ⟨rfl, rp'⟩ := rp.imm (Nat.le_refl _) e
    cases h
    exact ⟨d', rp', q, fun b hb => by simp at hb⟩
theorem Abs.ext (A : Abs K σ H env f) (e : ∀ b o, H b = some o → H' b = some o) : Abs K σ H' env f :=
  ⟨fun i d m h => let ⟨v, h1, r⟩ := A.rep i d m h; ⟨v, h1, r.keep fun b o q _ => e b o q⟩, A.dis, A.len⟩
theorem fin_ext (A : Abs K σ H2 e2 f2) (S : Stp H env f [] H2 e2 f2 G) (x : Ext H2 H' g) (r : Rep K H' 0 d z g) :
    Abs K σ H' e2 f2 ∧ ResOk K σ H' e2 f2 (.tmp d) z g ∧ Stp H env f [] H' e2 f2 g := by
  refine ⟨A.ext x.same, .tmp r fun b hb => ⟨fun w => ?_, fun w => ?_⟩, S.trans ⟨fun b o h _ => x.same b o h, fun b q => ?_⟩⟩
  · obtain ⟨o, ho, _⟩ := A.ldom w
    rw [x.new b hb] at ho; cases ho
  · obtain ⟨o, ho, _⟩ := A.rdom w
    rw [x.new b hb] at ho; cases ho
  · rcases q with q | q
    · exact .inl q
    · exact .inr (.inr (x.new b q))
theorem bin_lift {ta tb : XE} {C : R → R → En → Prop} (ma : MonoE ta) (mb : MonoE tb) (A : Abs K σ H env f) (q : ta env fun r1 e1 => tb e1 fun r2 e2 => C r1 r2 e2) :
    liftE K ta σ H fun x H1 => liftE K tb σ H1 fun y H2 => ∃ r1 r2 e2 f2 g1 g2, Abs K σ H2 e2 f2 ∧ ResOk K σ H2 e2 f2 r1 x g1 ∧ ResOk K σ H2 e2 f2 r2 y g2 ∧ (∀ b ∈ g1, b ∉ g2) ∧ Stp H env f [] H2 e2 f2 (g1 ++ g2) ∧ Kp env f e2 f2 ∧ C r1 r2 e2 := by
  refine ⟨env, f, A, ma _ _ _ (fun r1 e1 q1 => ?_) q⟩
  intro x H1 f1 g1 A1 R1 S1 K1
  refine ⟨e1, f1, A1, mb _ _ _ (fun r2 e2 q2 => ?_) q1⟩
  intro y H2 f2 g2 A2 R2 S2 K2
  obtain ⟨R1', n⟩ := R1.wait A1 S2 K2
  exact ⟨r1, r2, e2, f2, g1, g2, A2, R1', R2, n, S1.trans (S2.frame g1), K1.trans K2, q2⟩
end

def dVar (i : Nat) : XE := fun env Q => match env[i]? with
  | some (some (.int z, _)) => Q (.tmp (.int z)) env
  | some (some (.bl z, _)) => Q (.tmp (.bl z)) env
  | some (some (.str z, _)) => Q (.tmp (.str z)) env
  | some (some (.non, _)) => Q (.tmp .non) env
  | some (some (.dF kvs, .own)) => Q (.ro true (.dT kvs)) env
  | some (some (d, .ro)) => Q (.ro false d) env
  | some (some (d, .cst)) => Q (.ro true d) env
  | some (some (_, .own)) => Q (.sl i) env
  | some (some (_, .io)) => Q (.sl i) env
  | some (some (_, .lk)) => Q (.sl i) env
  | _ => False
def dC (d : D) : XE := fun env Q => Q (.tmp d) env
/-- a constant of the module -/
def dG (d : D) : XE := fun env Q => Q (mkRo true d) env
section
variable {X : Cx}
theorem no_mem_nil {P : Addr → Prop} : ∀ b ∈ ([] : List Addr), P b := fun b hb => by simp at hb
theorem Md.lv2 (m : Md) : m.lv ≤ 2 := by cases m <;> decide
theorem Rep.frz2 {K : PySem.W.Frag} {H : Hp} {lv : Nat} {kvs : List (List Key × D)} {v : V} {g : List Addr} (r : Rep K H lv (.dF kvs) v g) (l : lv ≤ 2) : Rep K H 2 (.dT kvs) v [] := by
  cases r with
  | dF h e nd r => exact .dTF (Nat.le_refl _) h e nd (r.up l)
theorem de_var (i : Nat) {x : Str} {pos : Pos} (hN : X.N[i]? = some x := by rfl) (hv : Vis X.env.scope x := by first | exact Or.inl rfl | exact Or.inr (Or.inl rfl) | exact Or.inr (Or.inr rfl)) (hd : (x == ("__debug__" : Str)) = false := by decide)
    (hcd : (x == ("__classdict__" : Str)) = false := by decide) : DE X (.Name x pos) (dVar i) := by
  refine ⟨PE.imp (pe_var hN hv hd hcd) fun σ H Q q => ?_, fun env Q Q' h q => ?_⟩
  · obtain ⟨env, f, A, q⟩ := q
    unfold dVar at q
    split at q
    all_goals first
      | exact q.elim
      | (rename_i e
         obtain ⟨v, h1, rp⟩ := A.rep _ _ _ e
         refine ⟨v, h1, ?_⟩
         first
           | exact q v H f _ A (.tmp rp.int0 no_mem_nil) .refl .refl
           | exact q v H f _ A (.tmp rp.bl0 no_mem_nil) .refl .refl
           | exact q v H f _ A (.tmp rp.str0 no_mem_nil) .refl .refl
           | exact q v H f _ A (.tmp rp.non0 no_mem_nil) .refl .refl
           | exact q v H f _ A (.ro (rp.frz2 (Nat.zero_le _)) no_mem_nil) .refl .refl
           | exact q v H f _ A (.ro rp fun b hb => ⟨_, _, _, e, by decide, hb⟩) .refl .refl
           | exact q v H f _ A (.sl h1 e rfl) .refl .refl)
  · unfold dVar at q ⊢
    split at q <;> first | exact q.elim | exact h _ _ q
theorem de_int {i j pos} : DE X (.Constant (.int i) j pos) (dC (.int i)) :=
  ⟨PE.imp pe_int fun σ H Q ⟨env, f, A, q⟩ => q _ H f _ A (.tmp (.int i) no_mem_nil) .refl .refl, fun env Q Q' h q => h _ _ q⟩
theorem de_bl {i j pos} : DE X (.Constant (.bool i) j pos) (dC (.bl i)) :=
  ⟨PE.imp pe_bl fun σ H Q ⟨env, f, A, q⟩ => q _ H f _ A (.tmp (.bl i) no_mem_nil) .refl .refl, fun env Q Q' h q => h _ _ q⟩
theorem de_str {i j pos} : DE X (.Constant (.str i) j pos) (dC (.str i)) :=
  ⟨PE.imp pe_str fun σ H Q ⟨env, f, A, q⟩ => q _ H f _ A (.tmp (.str i) no_mem_nil) .refl .refl, fun env Q Q' h q => h _ _ q⟩
theorem de_non {j pos} : DE X (.Constant .none j pos) (dC .non) :=
  ⟨PE.imp pe_non fun σ H Q ⟨env, f, A, q⟩ => q _ H f _ A (.tmp .non no_mem_nil) .refl .refl, fun env Q Q' h q => h _ _ q⟩

def rOp (K : PySem.W.Frag) (L : Nat) (op : D → D → (D → Prop) → Prop) : R2 := fun x y H Q => ∃ d1 d2 g1 g2, Rep K H L d1 x g1 ∧ Rep K H L d2 y g2 ∧ op d1 d2 fun d => ∀ z H' g, Rep K H' 0 d z g → Ext H H' g → Q z H'
def MonoO (op : D → D → (D → Prop) → Prop) : Prop := ∀ d1 d2 k k', (∀ d, k d → k' d) → op d1 d2 k → op d1 d2 k'
structure OpD (X : Cx) (fn : Value → Value → Sem Value) (L : Nat) (op : D → D → (D → Prop) → Prop) : Prop where
  run : OpR X fn (rOp X.K L op)
  mono : MonoO op
def dBin (L : Nat) (op : D → D → (D → Prop) → Prop) (ta tb : XE) : XE := fun env Q => ta env fun r1 e1 => tb e1 fun r2 e2 => rd L r1 e2 fun d1 => rd L r2 e2 fun d2 => op d1 d2 fun d => Q (.tmp d) e2
theorem dBin_mono {L : Nat} {op : D → D → (D → Prop) → Prop} {ta tb : XE} (ho : MonoO op) (ha : MonoE ta) (hb : MonoE tb) : MonoE (dBin L op ta tb) := fun env Q Q' h q =>
  ha _ _ _ (fun r1 e1 q => hb _ _ _ (fun r2 e2 q => rd_mono (fun d1 q => rd_mono (fun d2 q => ho _ _ _ _ (fun d q => h _ _ q) q) q) q) q) q
theorem dBin_lift {K : PySem.W.Frag} {L : Nat} {op : D → D → (D → Prop) → Prop} {ta tb : XE} (ho : MonoO op) (ha : MonoE ta) (hb : MonoE tb) {σ : L2.St} {H : Hp} {Q : VK} (q : liftE K (dBin L op ta tb) σ H Q) :
    tOp (rOp K L op) (liftE K ta) (liftE K tb) σ H Q := by
  obtain ⟨env, f, A, q⟩ := q
  have h := bin_lift (C := fun r1 r2 e2 => rd L r1 e2 fun d1 => rd L r2 e2 fun d2 => op d1 d2 fun d => _) ha hb A q
  obtain ⟨env1, f1, A1, q1⟩ := h
  refine ⟨env1, f1, A1, ha _ _ _ (fun r1 e1 z => ?_) q1⟩
  intro x H1 f1 g1 a b c d
  obtain ⟨env2, f2, A2, q2⟩ := z x H1 f1 g1 a b c d
  refine ⟨env2, f2, A2, hb _ _ _ (fun r2 e2 z => ?_) q2⟩
  intro y H2 f2 g2 a b c d
  obtain ⟨r1, r2, e2, f2, g1, g2, A2, R1, R2, n, S, Kk, q3⟩ := z y H2 f2 g2 a b c d
  obtain ⟨d1, g1', rp1, q3⟩ := rd_ok A2 R1 q3
  obtain ⟨d2, g2', rp2, q3⟩ := rd_ok A2 R2 q3
  refine ⟨d1, d2, g1', g2', rp1, rp2, ho _ _ _ _ (fun dd q4 => ?_) q3⟩
  intro z H' g rp x
  obtain ⟨A3, R3, S3⟩ := fin_ext A2 S x rp
  exact q4 z H' f2 g A3 R3 S3 Kk
variable {a b c : Expr} {ta tb tc : XE} {pos : Pos} {L : Nat} {op' : D → D → (D → Prop) → Prop}
theorem de_bin {op : Operator} (ho : OpD X (binaryOp op) L op') (ha : DE X a ta) (hb : DE X b tb) : DE X (.BinOp a op b pos) (dBin L op' ta tb) :=
  ⟨PE.imp (pe_op ho.run ha.run hb.run) fun σ H Q q => dBin_lift ho.mono ha.mono hb.mono q, dBin_mono ho.mono ha.mono hb.mono⟩
theorem de_cmp {op : CmpOp} (ho : OpD X (compareOp op) L op') (ha : DE X a ta) (hb : DE X b tb) (hm : behindInMarks op b = false) : DE X (.Compare a [op] [b] pos) (dBin L op' ta tb) :=
  ⟨PE.imp (pe_cmpR ho.run ha.run hb.run hm) fun σ H Q q => dBin_lift ho.mono ha.mono hb.mono q, dBin_mono ho.mono ha.mono hb.mono⟩
end
end BX

namespace BX
open PySem PySem.Spec PyProof.Rows L2

structure Ok (X : Cx) : Prop where
  calm : X.calm = true
  un : X.A.units + 100 < cLine

mutual
def D.py : D → PyData
  | .non => .none
  | .bl b => .bool b
  | .int i => .int i
  | .str s => .str s
  | .tup xs => .tuple (pyL xs)
  | .lst xs => .list (pyL xs)
  | .dT _ => .dict []
  | .dK _ => .dict []
  | .dF _ => .dict []
def pyL : List D → List PyData
  | [] => []
  | d :: ds => d.py :: pyL ds
end
theorem pyL_map : ∀ ds : List D, pyL ds = ds.map D.py
  | [] => by rw [pyL]; rfl
  | d :: ds => by rw [pyL, pyL_map ds]; rfl
def deq (a b : D) : Bool := PyData.eqv a.py b.py
def eqOk (a : D) : Bool := SeqAt.shaped a.py

section
variable {K : PySem.W.Frag} {H : Hp} {lv : Nat}
mutual
theorem Rep.dp : ∀ {d : D} {v : V} {f : List Addr}, Rep K H lv d v f → d.py.canLay0 = true → Dp K H v d.py
  | _, _, _, .non, _ => by rw [D.py]; exact .non
  | _, _, _, .bl b, _ => by rw [D.py]; exact .bl b
  | _, _, _, .int i, _ => by rw [D.py]; exact .int i
  | _, _, _, .str s, _ => by rw [D.py]; exact .str s
  | _, _, _, .tup h r, e => by
    rw [D.py] at e ⊢
    exact .tup (.inl (.inl h)) (Reps.dp r (by simpa [PyData.canLay0] using e))
  | _, _, _, .tupK l h r, e => by
    rw [D.py] at e ⊢
    exact .tup h.sq (Reps.dp r (by simpa [PyData.canLay0] using e))
  | _, _, _, .lst h r n, e => by
    rw [D.py] at e ⊢
    exact .lst (.inl (.inl h)) (Reps.dp r (by simpa [PyData.canLay0] using e))
  | _, _, _, .lstF l h r, e => by
    rw [D.py] at e ⊢
    exact .lst h.sq (Reps.dp r (by simpa [PyData.canLay0] using e))
  | _, _, _, .dT h e' nd r n, e => by rw [D.py] at e; simp [PyData.canLay0] at e
  | _, _, _, .dTF l h e' nd r, e => by rw [D.py] at e; simp [PyData.canLay0] at e
  | _, _, _, .dF h e' nd r, e => by rw [D.py] at e; simp [PyData.canLay0] at e
  | _, _, _, .dK h e' nd r n, e => by rw [D.py] at e; simp [PyData.canLay0] at e
theorem Reps.dp : ∀ {ds : List D} {vs : List V} {f : List Addr}, Reps K H lv ds vs f → PyData.canLayAll0 (pyL ds) = true → DpAll K H vs (pyL ds)
  | _, _, _, .nil, _ => by rw [pyL]; exact .nil
  | _, _, _, .cons r t n, e => by
    rw [pyL] at e ⊢
    rw [PyData.canLayAll0, Bool.and_eq_true] at e
    have e' := e
    exact .cons (Rep.dp r e'.1) (Reps.dp t e'.2)
end
theorem Rep.eqd {d : D} {v : V} {f : List Addr} (r : Rep K H lv d v f) (e : eqOk d = true) : Dp K H v d.py ∧ SeqAt.shaped d.py = true := ⟨r.dp (SeqAt.canLay_of_shaped e), e⟩
end

abbrev OP := D → D → (D → Prop) → Prop
def opEq : OP := fun a b k => eqOk a = true ∧ eqOk b = true ∧ k (.bl (deq a b))
def opNe : OP := fun a b k => eqOk a = true ∧ eqOk b = true ∧ k (.bl (!deq a b))
def opInt (g : Int → Int → D) : OP := fun a b k => match a, b with
  | .int i, .int j => k (g i j)
  | _, _ => False
def opIntC (C : Int → Int → Prop) (g : Int → Int → D) : OP := fun a b k => match a, b with
  | .int i, .int j => C i j ∧ k (g i j)
  | _, _ => False
def opAdd : OP := fun a b k => match a, b with
  | .int i, .int j => k (.int (i + j))
  | .str i, .str j => i.length + j.length ≤ sizeLine ∧ k (.str (i ++ j))
  | .lst xs, .lst ys => immL xs = true ∧ immL ys = true ∧ xs.length + ys.length ≤ sizeLine ∧ k (.lst (xs ++ ys))
  | .tup xs, .tup ys => immL xs = true ∧ immL ys = true ∧ xs.length + ys.length ≤ sizeLine ∧ k (.tup (xs ++ ys))
  | _, _ => False
def opMul : OP := fun a b k => match a, b with
  | .int i, .int j => IntMulOk i j ∧ k (.int (i * j))
  | .lst xs, .int j => immL xs = true ∧ -(2 ^ 63) ≤ j ∧ j < 2 ^ 63 ∧ xs.length * j.toNat ≤ sizeLine ∧ k (.lst (List.replicate j.toNat xs).flatten)
  | _, _ => False
abbrev opSub : OP := opInt fun i j => .int (i - j)
abbrev opMod : OP := opIntC (fun _ j => 0 < j) fun i j => .int (i % j)
abbrev opDiv : OP := opIntC CDiv fun i j => .int (i / j)
abbrev opPow : OP := opIntC CPow fun i j => .int (i ^ j.toNat)
abbrev opGt : OP := opInt fun i j => .bl (decide (j < i))
abbrev opGe : OP := opInt fun i j => .bl (decide (j ≤ i))
abbrev opLe : OP := opInt fun i j => .bl (decide (i ≤ j))
/-- lists of intL -/
def intL : List D → Option (List Int)
  | [] => some []
  | .int i :: ds => (intL ds).map (i :: ·)
  | _ :: _ => none
def opLt : OP := fun a b k => match a, b with
  | .int i, .int j => k (.bl (decide (i < j)))
  | .tup xs, .tup ys => match intL xs, intL ys with
    | some ns, some ms => k (.bl (HT.lexLt ns ms))
    | _, _ => False
  | _, _ => False
def isNon : D → Bool
  | .non => true
  | _ => false
def opIs : OP := fun a b k => match a, b with
  | a, .non => k (.bl (isNon a))
  | .bl i, .bl j => k (.bl (decide (i = j)))
  | _, _ => False
def opIsNot : OP := fun a b k => match a, b with
  | a, .non => k (.bl (!isNon a))
  | .bl i, .bl j => k (.bl (!decide (i = j)))
  | _, _ => False

/-- keys of dicts -/
def dKey : D → Option Key
  | .int i => some (.inl i)
  | .str s => some (.inr s)
  | _ => none
def dKeys : List D → Option (List Key)
  | [] => some []
  | d :: ds => match dKey d, dKeys ds with
    | some k, some ks => some (k :: ks)
    | _, _ => none
def hasT (kvs : List (List Key × D)) (k : List Key) : Bool := kvs.any fun p => decide (p.1 = k)
def hasK (kvs : List (Key × D)) (k : Key) : Bool := kvs.any fun p => decide (p.1 = k)
def findIn (a : D) : List D → Bool
  | [] => false
  | d :: ds => deq d a || findIn a ds
def opInB (n : Bool) : OP := fun a b k => match b with
  | .dT kvs => match a with
    | .tup ds => match dKeys ds with
      | some ks => k (.bl (n != hasT kvs ks))
      | none => False
    | _ => False
  | .dK kvs => match dKey a with
    | some ky => k (.bl (n != hasK kvs ky))
    | none => False
  | .lst ds => eqOk a = true ∧ eqOk (.lst ds) = true ∧ k (.bl (n != findIn a ds))
  | .tup ds => eqOk a = true ∧ eqOk (.tup ds) = true ∧ k (.bl (n != findIn a ds))
  | .str s => match a with
    | .str t => k (.bl (n != !(Builtin.Str.occurrences s t 0 s.length 1).isEmpty))
    | _ => False
  | _ => False
abbrev opIn := opInB false
abbrev opNotIn := opInB true

section
variable {K : PySem.W.Frag} {H : Hp} {lv : Nat}
theorem Reps.intL : ∀ {ds : List D} {vs : List V} {f : List Addr} {ns : List Int}, Reps K H lv ds vs f → BX.intL ds = some ns → vs = ns.map V.int
  | _, _, _, _, .nil, e => by
    rw [BX.intL] at e; cases e; rfl
  | _, _, _, ns, .cons (d := d) (ds := ds) r t _, e => by
    cases r with
    | int i =>
      rw [BX.intL] at e
      obtain ⟨ms, h1, h2⟩ := Option.map_eq_some_iff.mp e
      subst h2
      rw [Reps.intL t h1]
      rfl
    | _ => rw [BX.intL] at e <;> first | (cases e) | (intro i z; cases z)
theorem Rep.dKey {d : D} {v : V} {f : List Addr} {k : Key} (r : Rep K H lv d v f) (e : BX.dKey d = some k) : v = kV k := by
  cases r with
  | int i => rw [BX.dKey] at e; cases e; rfl
  | str s => rw [BX.dKey] at e; cases e; rfl
  | _ => rw [BX.dKey] at e <;> first | (cases e) | (intro i z; cases z)
theorem Reps.dKeys : ∀ {ds : List D} {vs : List V} {f : List Addr} {ks : List Key}, Reps K H lv ds vs f → BX.dKeys ds = some ks → vs = ks.map kV
  | _, _, _, _, .nil, e => by
    rw [BX.dKeys] at e; cases e; rfl
  | _, _, _, ns, .cons (d := d) (ds := ds) r t _, e => by
    rw [BX.dKeys] at e
    split at e
    · rename_i k ks h1 h2
      cases e
      rw [r.dKey h1, Reps.dKeys t h2]
      rfl
    · cases e
end
section
variable {κ : Type} [DecidableEq κ]
theorem valV_has : ∀ {hs : List (κ × V)} {kvs : List (κ × D)} {k : κ}, hs.map (·.1) = kvs.map (·.1) → (valV hs k).isSome = kvs.any fun p => decide (p.1 = k)
  | [], [], _, _ => rfl
  | [], _ :: _, _, e => by simp at e
  | _ :: _, [], _, e => by simp at e
  | p :: hs, q :: kvs, k, e => by
    rw [List.map_cons, List.map_cons, List.cons.injEq] at e
    rw [List.any_cons, ← e.1]
    by_cases h : p.1 = k
    · rw [valV_pos h, decide_eq_true h]; rfl
    · rw [valV_neg h, decide_eq_false h, Bool.false_or]; exact valV_has e.2
end
theorem findIn_any (a : D) : ∀ ds : List D, findIn a ds = (pyL ds).any fun z => PyData.eqv z a.py
  | [] => by rw [pyL]; rfl
  | d :: ds => by rw [pyL, List.any_cons, findIn, findIn_any a ds]; rfl
section
variable {X : Cx}
theorem OpD.mk' {fn : Value → Value → Sem Value} {L : Nat} {op : OP} (run : ∀ (pins : List (Addr × Obj)) (s : Shared) (σ : L2.St) (H : Hp) (x y : V) (v u : Value) (Q : VK) (d1 d2 : D) (g1 g2 : List Addr), Inv X pins σ H s → RelV x v → RelV y u →
    Rep X.K H L d1 x g1 → Rep X.K H L d2 y g2 → (op d1 d2 fun d => ∀ z H' g, Rep X.K H' 0 d z g → Ext H H' g → Q z H') → wpAny (model X.prog X.w) X.A (fn v u) (EP X pins σ Q) X.xe s) (mono : MonoO op) : OpD X fn L op :=
  ⟨fun pins s σ H x y v u Q I rx ry ⟨d1, d2, g1, g2, r1, r2, q⟩ => run pins s σ H x y v u Q d1 d2 g1 g2 I rx ry r1 r2 q, mono⟩
theorem mono_int {g : Int → Int → D} : MonoO (opInt g) := fun a b k k' h q => by
  unfold opInt at q ⊢
  split at q
  · exact h _ q
  · exact q.elim
theorem mono_intC {C : Int → Int → Prop} {g : Int → Int → D} : MonoO (opIntC C g) := fun a b k k' h q => by
  unfold opIntC at q ⊢
  split at q
  · exact ⟨q.1, h _ q.2⟩
  · exact q.elim
theorem od_int {fn : Value → Value → Sem Value} {g : Int → Int → D} {gv : Int → Int → V} (h : OpR X fn (rI0 gv)) (hg : ∀ i j H, Rep X.K H 0 (g i j) (gv i j) []) : OpD X fn 2 (opInt g) := .mk' (fun pins s σ H x y v u Q d1 d2 g1 g2 I rx ry r1 r2 q => by
  unfold opInt at q
  split at q
  · obtain ⟨rfl, _⟩ := r1.intV
    obtain ⟨rfl, _⟩ := r2.intV
    exact h pins s σ H _ _ v u Q I rx ry ⟨_, _, rfl, rfl, q _ _ [] (hg _ _ _) .refl⟩
  · exact q.elim) mono_int
theorem od_intC {fn : Value → Value → Sem Value} {C : Int → Int → Prop} {g : Int → Int → D} {gv : Int → Int → V} (h : OpR X fn (rI C gv)) (hg : ∀ i j H, Rep X.K H 0 (g i j) (gv i j) []) : OpD X fn 2 (opIntC C g) := .mk' (fun pins s σ H x y v u Q d1 d2 g1 g2 I rx ry r1 r2 q => by
  unfold opIntC at q
  split at q
  · obtain ⟨rfl, _⟩ := r1.intV
    obtain ⟨rfl, _⟩ := r2.intV
    exact h pins s σ H _ _ v u Q I rx ry ⟨_, _, rfl, rfl, q.1, q.2 _ _ [] (hg _ _ _) .refl⟩
  · exact q.elim) mono_intC
theorem od_sub : OpD X (binaryOp .Sub) 2 opSub := od_int op_sub fun _ _ _ => .int _
theorem od_mod : OpD X (binaryOp .Mod) 2 opMod := od_intC op_mod fun _ _ _ => .int _
theorem od_div : OpD X (binaryOp .FloorDiv) 2 opDiv := od_intC op_fdiv fun _ _ _ => .int _
theorem od_pow : OpD X (binaryOp .Pow) 2 opPow := od_intC op_pow fun _ _ _ => .int _
theorem od_gt : OpD X (compareOp .Gt) 2 opGt := od_int op_gt fun _ _ _ => .bl _
theorem od_ge : OpD X (compareOp .GtE) 2 opGe := od_int op_ge fun _ _ _ => .bl _
theorem od_le : OpD X (compareOp .LtE) 2 opLe := od_int op_le fun _ _ _ => .bl _
theorem upd_lst {H : Hp} {p : Addr} {ds : List D} {vs : List V} (h : H p = none) (r : Reps X.K H 0 ds vs []) : Rep X.K (L2.upd H p (.lst vs)) 0 (.lst ds) (.ref p) [p] :=
  .lst upd_same (r.keep fun b o e _ => (Ext.upd h).same b o e) (fun _ => by simp)
theorem upd_tup {H : Hp} {p : Addr} {ds : List D} {vs : List V} {f : List Addr} (h : H p = none) (r : Reps X.K H 0 ds vs f) : Rep X.K (L2.upd H p (.tup vs)) 0 (.tup ds) (.ref p) f :=
  .tup upd_same (r.keep fun b o e _ => (Ext.upd h).same b o e)
theorem Ext.updT {H : Hp} {p : Addr} {o : HO} (h : H p = none) : Ext H (L2.upd H p o) [] := (Ext.upd h).drop no_mem_nil
theorem od_add : OpD X (binaryOp .Add) 1 opAdd := .mk' (fun pins s σ H x y v u Q d1 d2 g1 g2 I rx ry r1 r2 q => by
  unfold opAdd at q
  split at q
  · obtain ⟨rfl, _⟩ := r1.intV
    obtain ⟨rfl, _⟩ := r2.intV
    exact op_add pins s σ H _ _ v u Q I rx ry ⟨_, _, rfl, rfl, q _ _ [] (.int _) .refl⟩
  · obtain ⟨rfl, _⟩ := r1.strV
    obtain ⟨rfl, _⟩ := r2.strV
    exact op_add_str pins s σ H _ _ v u Q I rx ry ⟨_, _, rfl, rfl, q.1, q.2 _ _ [] (.str _) .refl⟩
  · obtain ⟨i1, i2, z, q⟩ := q
    obtain ⟨a, vs, ga, rfl, ha, ra, _⟩ := r1.listAt1 (Nat.le_refl _)
    obtain ⟨b, ws, gb, rfl, hb, rb, _⟩ := r2.listAt1 (Nat.le_refl _)
    obtain ⟨_, ra'⟩ := ra.imm (Nat.le_refl _) i1
    obtain ⟨_, rb'⟩ := rb.imm (Nat.le_refl _) i2
    refine op_cat pins s σ H _ _ v u Q I rx ry ⟨_, _, _, _, rfl, rfl, ha, hb, by rw [← ra.len, ← rb.len]; exact z, fun p hp => q _ _ _ (upd_lst hp (ra'.append rb' fun _ b hb => by simp at hb)) (.upd hp)⟩
  · obtain ⟨i1, i2, z, q⟩ := q
    obtain ⟨a, vs, rfl, ha, ra⟩ := r1.tupleSq
    obtain ⟨b, ws, rfl, hb, rb⟩ := r2.tupleSq
    obtain ⟨_, ra'⟩ := ra.imm (Nat.le_refl _) i1
    obtain ⟨_, rb'⟩ := rb.imm (Nat.le_refl _) i2
    refine op_catA pins s σ H _ _ v u Q I rx ry ⟨_, _, _, _, rfl, rfl, ha, hb, by rw [← ra.len, ← rb.len]; exact z, fun e => ?_, fun _ e => ?_, fun e1 e2 p hp => q _ _ _ (upd_tup hp (ra'.append rb' fun _ b hb => by simp at hb)) (.updT hp)⟩
    · subst e
      have : _ = [] := List.eq_nil_of_length_eq_zero (ra.len.trans rfl)
      subst this
      exact q _ _ [] (r2.imm (Nat.le_refl _) (by rw [D.imm]; exact i2)).2 .refl
    · subst e
      have : _ = [] := List.eq_nil_of_length_eq_zero (rb.len.trans rfl)
      subst this
      rw [List.append_nil] at q
      exact q _ _ [] (r1.imm (Nat.le_refl _) (by rw [D.imm]; exact i1)).2 .refl
  · exact q.elim) (fun a b k k' h q => by
  unfold opAdd at q ⊢
  split at q
  · exact h _ q
  · exact ⟨q.1, h _ q.2⟩
  · exact ⟨q.1, q.2.1, q.2.2.1, h _ q.2.2.2⟩
  · exact ⟨q.1, q.2.1, q.2.2.1, h _ q.2.2.2⟩
  · exact q.elim)
theorem op_mulA : OpR X (binaryOp .Mult) (rI IntMulOk fun i j => .int (i * j)) := opI fun _ _ _ _ _ _ _ hc q => mul_int q hc
theorem rep_flat {K : PySem.W.Frag} {H : Hp} {ds : List D} {vs : List V} (r : Reps K H 0 ds vs []) : ∀ n : Nat, Reps K H 0 (List.replicate n ds).flatten (List.replicate n vs).flatten []
  | 0 => by
    rw [List.replicate_zero, List.replicate_zero]; exact .nil
  | n + 1 => by
    rw [List.replicate_succ, List.replicate_succ, List.flatten_cons, List.flatten_cons]
    exact r.append (f := []) (g := []) (rep_flat r n) fun _ b hb => by simp at hb
theorem od_mul : OpD X (binaryOp .Mult) 1 opMul := .mk' (fun pins s σ H x y v u Q d1 d2 g1 g2 I rx ry r1 r2 q => by
  unfold opMul at q
  split at q
  · obtain ⟨rfl, _⟩ := r1.intV
    obtain ⟨rfl, _⟩ := r2.intV
    exact op_mulA pins s σ H _ _ v u Q I rx ry ⟨_, _, rfl, rfl, q.1, q.2 _ _ [] (.int _) .refl⟩
  · obtain ⟨i1, z1, z2, z3, q⟩ := q
    obtain ⟨a, vs, ga, rfl, ha, ra, _⟩ := r1.listAt1 (Nat.le_refl _)
    obtain ⟨rfl, _⟩ := r2.intV
    obtain ⟨_, ra'⟩ := ra.imm (Nat.le_refl _) i1
    exact op_rep pins s σ H _ _ v u Q I rx ry ⟨_, _, _, rfl, rfl, ha, z1, z2, by rw [← ra.len]; exact z3, fun p hp => q _ _ _ (upd_lst hp (rep_flat ra' _)) (.upd hp)⟩
  · exact q.elim) (fun a b k k' h q => by
  unfold opMul at q ⊢
  split at q
  · exact ⟨q.1, h _ q.2⟩
  · exact ⟨q.1, q.2.1, q.2.2.1, q.2.2.2.1, h _ q.2.2.2.2⟩
  · exact q.elim)
variable (hx : Ok X)
include hx
theorem od_eq : OpD X (compareOp .Eq) 2 opEq := .mk' (fun pins s σ H x y v u Q d1 d2 g1 g2 I rx ry r1 r2 q => by
  obtain ⟨a1, b1⟩ := r1.eqd q.1
  obtain ⟨a2, b2⟩ := r2.eqd q.2.1
  exact op_eqD (by have := hx.un; omega) pins s σ H _ _ v u Q I rx ry ⟨_, _, a1, a2, b1, b2, q.2.2 _ _ [] (.bl _) .refl⟩) (fun a b k k' h q => ⟨q.1, q.2.1, h _ q.2.2⟩)
theorem od_ne : OpD X (compareOp .NotEq) 2 opNe := .mk' (fun pins s σ H x y v u Q d1 d2 g1 g2 I rx ry r1 r2 q => by
  obtain ⟨a1, b1⟩ := r1.eqd q.1
  obtain ⟨a2, b2⟩ := r2.eqd q.2.1
  exact op_neD (by have := hx.un; omega) pins s σ H _ _ v u Q I rx ry ⟨_, _, a1, a2, b1, b2, q.2.2 _ _ [] (.bl _) .refl⟩) (fun a b k k' h q => ⟨q.1, q.2.1, h _ q.2.2⟩)
theorem od_lt : OpD X (compareOp .Lt) 2 opLt := .mk' (fun pins s σ H x y v u Q d1 d2 g1 g2 I rx ry r1 r2 q => by
  unfold opLt at q
  split at q
  · obtain ⟨rfl, _⟩ := r1.intV
    obtain ⟨rfl, _⟩ := r2.intV
    exact op_lt pins s σ H _ _ v u Q I rx ry ⟨_, _, rfl, rfl, q _ _ [] (.bl _) .refl⟩
  · split at q
    · rename_i e1 e2
      obtain ⟨a, vs, rfl, ha, ra⟩ := r1.tupleSq
      obtain ⟨b, ws, rfl, hb, rb⟩ := r2.tupleSq
      rw [ra.intL e1] at ha
      rw [rb.intL e2] at hb
      exact op_ltT (by have := hx.un; omega) pins s σ H _ _ v u Q I rx ry ⟨_, _, _, _, rfl, rfl, ha, hb, q _ _ [] (.bl _) .refl⟩
    · exact q.elim
  · exact q.elim) (fun a b k k' h q => by
  unfold opLt at q ⊢
  split at q
  · exact h _ q
  · split at q
    · simp only [*] <;> exact h _ q
    · exact q.elim
  · exact q.elim)
omit hx in
theorem Rep.isNon {K : PySem.W.Frag} {H : Hp} {lv : Nat} {d : D} {v : V} {f : List Addr} (r : Rep K H lv d v f) : decide (v = .non) = BX.isNon d := by
  cases r <;> simp [BX.isNon]
omit hx in
theorem od_is : OpD X (compareOp .Is) 2 opIs := .mk' (fun pins s σ H x y v u Q d1 d2 g1 g2 I rx ry r1 r2 q => by
  unfold opIs at q
  split at q
  · obtain ⟨rfl, _⟩ := r2.nonV
    exact op_isN pins s σ H _ _ v u Q I rx ry ⟨rfl, by rw [r1.isNon]; exact q _ _ [] (.bl _) .refl⟩
  · obtain ⟨rfl, _⟩ := r1.blV
    obtain ⟨rfl, _⟩ := r2.blV
    exact op_is_bl pins s σ H _ _ v u Q I rx ry ⟨_, _, rfl, rfl, q _ _ [] (.bl _) .refl⟩
  · exact q.elim) (fun a b k k' h q => by
  unfold opIs at q ⊢
  split at q
  · exact h _ q
  · exact h _ q
  · exact q.elim)
omit hx in
theorem od_isNot : OpD X (compareOp .IsNot) 2 opIsNot := .mk' (fun pins s σ H x y v u Q d1 d2 g1 g2 I rx ry r1 r2 q => by
  unfold opIsNot at q
  split at q
  · obtain ⟨rfl, _⟩ := r2.nonV
    exact op_notN pins s σ H _ _ v u Q I rx ry ⟨rfl, by rw [r1.isNon]; exact q _ _ [] (.bl _) .refl⟩
  · obtain ⟨rfl, _⟩ := r1.blV
    obtain ⟨rfl, _⟩ := r2.blV
    exact op_isnot_bl pins s σ H _ _ v u Q I rx ry ⟨_, _, rfl, rfl, q _ _ [] (.bl _) .refl⟩
  · exact q.elim) (fun a b k k' h q => by
  unfold opIsNot at q ⊢
  split at q
  · exact h _ q
  · exact h _ q
  · exact q.elim)
omit hx in
theorem mono_in {n : Bool} : MonoO (opInB n) := fun a b k k' h q => by
  unfold opInB at q ⊢
  split at q
  · split at q
    · split at q
      · simp only [*] <;> exact h _ q
      · exact q.elim
    · exact q.elim
  · split at q
    · simp only [*] <;> exact h _ q
    · exact q.elim
  · exact ⟨q.1, q.2.1, h _ q.2.2⟩
  · exact ⟨q.1, q.2.1, h _ q.2.2⟩
  · split at q
    · exact h _ q
    · exact q.elim
  · exact q.elim
theorem in_gen {n : Bool} {pins : List (Addr × Obj)} {s : Shared} {σ : L2.St} {H : Hp} {x y : V} {v u : Value} {Q : VK} {d1 d2 : D} {g1 g2 : List Addr} (I : Inv X pins σ H s) (rx : RelV x v) (ry : RelV y u) (r1 : Rep X.K H 1 d1 x g1) (r2 : Rep X.K H 1 d2 y g2)
    (q : opInB n d1 d2 fun d => ∀ z H' g, Rep X.K H' 0 d z g → Ext H H' g → Q z H') : wpAny (model X.prog X.w) X.A (compareOp (if n then .NotIn else .In) v u) (EP X pins σ Q) X.xe s := by
  have hu := hx.un
  unfold opInB at q
  split at q
  · rename_i kvs
    split at q
    · rename_i ds
      split at q
      · rename_i ks e
        obtain ⟨a, vs, rfl, ha, ra⟩ := r1.tupleAt (Nat.le_refl _)
        rw [ra.dKeys e] at ha
        cases r2 with
        | @dT b hs kvs f hb he nd r nn =>
          cases ry
          have q' := q (.bl (n != hasT kvs ks)) H [] (.bl _) .refl
          have e2 := valV_has (k := ks) he
          cases n with
          | false => exact d_in (by omega) I (DGet.t hb ha) rx fun s' I' => ⟨.bl _, H, I', rfl, by rw [e2]; simpa [hasT] using q'⟩
          | true => exact d_notIn (by omega) I (DGet.t hb ha) rx fun s' I' => ⟨.bl _, H, I', rfl, by rw [e2]; simpa [hasT] using q'⟩
        | dTF l _ _ _ _ => exact absurd l (by omega)
      · exact q.elim
    · exact q.elim
  · rename_i kvs
    split at q
    · rename_i ky e
      obtain rfl := r1.dKey e
      cases r2 with
      | @dK b hs kvs f hb he nd r nn =>
        cases ry
        have q' := q (.bl (n != hasK kvs ky)) H [] (.bl _) .refl
        have e2 := valV_has (k := ky) he
        cases n with
        | false => exact d_in (by omega) I (DGet.k hb) rx fun s' I' => ⟨.bl _, H, I', rfl, by rw [e2]; simpa [hasK] using q'⟩
        | true => exact d_notIn (by omega) I (DGet.k hb) rx fun s' I' => ⟨.bl _, H, I', rfl, by rw [e2]; simpa [hasK] using q'⟩
    · exact q.elim
  · rename_i ds
    obtain ⟨a1, b1⟩ := r1.eqd q.1
    obtain ⟨a2, b2⟩ := r2.eqd q.2.1
    have q' := q.2.2 _ _ [] (.bl _) .refl
    rw [D.py] at a2 b2
    cases n with
    | false => exact op_inD (by omega) pins s σ H _ _ v u Q I rx ry ⟨_, _, a1, a2, b1, b2, by rw [findIn_any] at q'; simpa using q'⟩
    | true => exact op_notInD (by omega) pins s σ H _ _ v u Q I rx ry ⟨_, _, a1, a2, b1, b2, by rw [findIn_any] at q'; simpa using q'⟩
  · rename_i ds
    obtain ⟨a1, b1⟩ := r1.eqd q.1
    obtain ⟨a2, b2⟩ := r2.eqd q.2.1
    have q' := q.2.2 _ _ [] (.bl _) .refl
    rw [D.py] at a2 b2
    rw [findIn_any] at q'
    obtain ⟨as, t1⟩ := Dp.reads I _ x v a1 rx
    obtain ⟨bs, t2⟩ := Dp.reads I _ y u a2 ry
    have hu2 : X.A.units + 65 < cLine := by omega
    cases n with
    | false => exact SeqAt.in_tuple_reads t2 t1 (SeqAt.canLay_of_shaped b2) (SeqAt.canLay_of_shaped b1) (room_in_shaped b1 hu2) ⟨.bl _, H, I, rfl, by simpa using q'⟩
    | true => exact SeqAt.notIn_tuple_reads t2 t1 (SeqAt.canLay_of_shaped b2) (SeqAt.canLay_of_shaped b1) (room_in_shaped b1 hu2) ⟨.bl _, H, I, rfl, by simpa using q'⟩
  · split at q
    · obtain ⟨rfl, _⟩ := r1.strV
      obtain ⟨rfl, _⟩ := r2.strV
      have q' := q _ _ [] (.bl _) .refl
      cases n with
      | false => exact op_in_str pins s σ H _ _ v u Q I rx ry ⟨_, _, rfl, rfl, by simpa using q'⟩
      | true => exact op_notin_str pins s σ H _ _ v u Q I rx ry ⟨_, _, rfl, rfl, by simpa using q'⟩
    · exact q.elim
  · exact q.elim
theorem od_in : OpD X (compareOp .In) 1 opIn := .mk' (fun pins s σ H x y v u Q d1 d2 g1 g2 I rx ry r1 r2 q => in_gen (n := false) hx I rx ry r1 r2 q) mono_in
theorem od_notIn : OpD X (compareOp .NotIn) 1 opNotIn := .mk' (fun pins s σ H x y v u Q d1 d2 g1 g2 I rx ry r1 r2 q => in_gen (n := true) hx I rx ry r1 r2 q) mono_in
end
end BX

namespace BX
open PySem PySem.Spec PyProof.Rows L2

def tru (d : D) (k : Bool → Prop) : Prop := match d with
  | .non => k false
  | .bl b => k b
  | .int i => k (i != 0)
  | .str s => s.length ≤ sizeLine ∧ k ((s.length : Int) != 0)
  | .lst xs => k (!xs.isEmpty)
  | .tup xs => k (!xs.isEmpty)
  | .dK kvs => k (!kvs.isEmpty)
  | .dT _ => False
  | .dF _ => False
theorem tru_mono {d : D} {k k' : Bool → Prop} (h : ∀ b, k b → k' b) (q : tru d k) : tru d k' := by
  cases d with
  | str s => exact ⟨q.1, h _ q.2⟩
  | dT _ => exact q.elim
  | dF _ => exact q.elim
  | _ => exact h _ q
section
variable {K : PySem.W.Frag} {H : Hp} {lv : Nat}
theorem isEmpty_len {α β : Type} {xs : List α} {ys : List β} (h : xs.length = ys.length) : xs.isEmpty = ys.isEmpty := by
  cases xs <;> cases ys <;> simp at h ⊢
theorem Rep.tru {d : D} {v : V} {f : List Addr} {k : Bool → Prop} (r : Rep K H lv d v f) (q : BX.tru d k) : ∃ b, TruV K v H b ∧ k b := by
  cases r with
  | non => exact ⟨false, rfl, q⟩
  | bl b => exact ⟨b, rfl, q⟩
  | int i => exact ⟨_, rfl, q⟩
  | str s => exact ⟨_, ⟨q.1, rfl⟩, q.2⟩
  | tup h r => exact ⟨_, .inr (.inl ⟨_, .inl (.inl h), by rw [isEmpty_len r.len]⟩), q⟩
  | tupK l h r => exact ⟨_, .inr (.inl ⟨_, h.sq, by rw [isEmpty_len r.len]⟩), q⟩
  | lst h r n => exact ⟨_, .inl ⟨_, .inl (.inl h), by rw [isEmpty_len r.len]⟩, q⟩
  | lstF l h r => exact ⟨_, .inl ⟨_, h.sq, by rw [isEmpty_len r.len]⟩, q⟩
  | dT h e nd r n => exact q.elim
  | dTF l h e nd r => exact q.elim
  | dF h e nd r => exact q.elim
  | @dK a hs kvs f h e nd r n => exact ⟨_, .inr (.inr ⟨_, h, by rw [isEmpty_len (xs := kvs) (ys := hs) (by have := congrArg List.length e; simpa using this.symm)]⟩), q⟩
end
def xVal (t : XE) : XT := fun env Q => t env fun r e => rd 2 r e fun d => tru d fun b => Q b e
def xAnd (t u : XT) : XT := fun env Q => t env fun b e => (b = true → u e Q) ∧ (b = false → Q false e)
def xOr (t u : XT) : XT := fun env Q => t env fun b e => (b = true → Q true e) ∧ (b = false → u e Q)
def xNot (t : XT) : XT := fun env Q => t env fun b e => Q (!b) e
def dAnd (t u : XE) : XE := fun env Q => t env fun r e => rd 2 r e fun d => tru d fun b => (b = true → u e Q) ∧ (b = false → Q r e)
def dOr (t u : XE) : XE := fun env Q => t env fun r e => rd 2 r e fun d => tru d fun b => (b = true → Q r e) ∧ (b = false → u e Q)
def dNot (t : XT) : XE := fun env Q => t env fun b e => Q (.tmp (.bl (!b))) e
def dIf (c : XT) (t u : XE) : XE := fun env Q => c env fun b e => (b = true → t e Q) ∧ (b = false → u e Q)
theorem step_then {K : PySem.W.Frag} {σ : L2.St} {H H1 : Hp} {env e1 : En} {f f1 : FA} {Q : VK} {t : XE} {Q' : R → En → Prop} (S : Stp H env f [] H1 e1 f1 []) (Kk : Kp env f e1 f1) (mt : MonoE t) (A1 : Abs K σ H1 e1 f1) (q : t e1 Q')
    (h : ∀ r e2, Q' r e2 → ∀ v H' f' g, Abs K σ H' e2 f' → ResOk K σ H' e2 f' r v g → Stp H env f [] H' e2 f' g → Kp env f e2 f' → Q v H') : liftE K t σ H1 Q :=
  ⟨e1, f1, A1, mt _ _ _ (fun r e2 q2 v H' f' g A2 R2 S2 K2 => h r e2 q2 v H' f' g A2 R2 (S.trans S2) (Kk.trans K2)) q⟩
theorem step_thenT {K : PySem.W.Frag} {σ : L2.St} {H H1 : Hp} {env e1 : En} {f f1 : FA} {Q : Bool → Hp → Prop} {t : XT} {Q' : Bool → En → Prop} (S : Stp H env f [] H1 e1 f1 []) (Kk : Kp env f e1 f1) (mt : MonoT t) (A1 : Abs K σ H1 e1 f1) (q : t e1 Q')
    (h : ∀ r e2, Q' r e2 → ∀ H' f', Abs K σ H' e2 f' → Stp H env f [] H' e2 f' [] → Kp env f e2 f' → Q r H') : liftT K t σ H1 Q :=
  ⟨e1, f1, A1, mt _ _ _ (fun r e2 q2 H' f' A2 S2 K2 => h r e2 q2 H' f' A2 (S.trans S2) (Kk.trans K2)) q⟩
section
variable {X : Cx} {a b c : Expr} {rest : List Expr} {ta tb : XE} {uA uB : XT} {pos : Pos}
theorem DW.dt {e : Expr} {t : XT} (h : DW X e t) : DT X e t := ⟨h.run.pt, h.mono⟩
theorem dt_val (ha : DE X a ta) (he : ∀ whole, isTrue a X.env whole = (do let v ← whole; standAt a.pos; holding [v] (truthy v)) := by intro _; rfl) : DT X a (xVal ta) := by
  refine ⟨PT.imp (pt_truth ha.run he) fun σ H Q q => ?_, fun env Q Q' h q => ha.mono _ _ _ (fun r e q => rd_mono (fun d q => tru_mono (fun b q => h _ _ q) q) q) q⟩
  obtain ⟨env, f, A, q⟩ := q
  refine ⟨env, f, A, ha.mono _ _ _ (fun r e q => ?_) q⟩
  intro v H' f' g A' R' S' K'
  obtain ⟨d, g', rp, q⟩ := rd_ok A' R' q
  obtain ⟨b, hb, q⟩ := rp.tru q
  exact ⟨b, hb, q H' f' A' (S'.drop (fun _ z => by simp at z)) K'⟩
/-- a comparison as a test -/
theorem dt_cmp {op : CmpOp} {L : Nat} {op' : OP} (ho : OpD X (compareOp op) L op') (ha : DE X a ta) (hb : DE X b tb) (hm : behindInMarks op b = false) (hbl : ∀ d1 d2 k, op' d1 d2 k → op' d1 d2 fun d => (∃ b, d = .bl b) ∧ k d) : DT X (.Compare a [op] [b] pos) (xVal (dBin L op' ta tb)) := by
  have md := dBin_mono ho.mono ha.mono hb.mono (L := L)
  refine ⟨PT.imp (pt_cmpR ho.run ha.run hb.run hm) fun σ H Q q => ?_, fun env Q Q' h q => md _ _ _ (fun r e q => rd_mono (fun d q => tru_mono (fun b q => h _ _ q) q) q) q⟩
  obtain ⟨env, f, A, q⟩ := q
  show tOp (rOp X.K L op') (liftE X.K ta) (liftE X.K tb) σ H fun x H' => ∃ k, x = .bl k ∧ Q k H'
  refine dBin_lift ho.mono ha.mono hb.mono ⟨env, f, A, ?_⟩
  unfold xVal at q
  have q2 : dBin L op' ta tb env fun r e => (∃ b, r = .tmp (.bl b)) ∧ rd 2 r e fun d => tru d fun b => ∀ (H' : Hp) (f' : FA), Abs X.K σ H' e f' → Stp H env f [] H' e f' [] → Kp env f e f' → Q b H' := by
    unfold dBin at q ⊢
    refine ha.mono _ _ _ (fun r1 e1 q => hb.mono _ _ _ (fun r2 e2 q => rd_mono (fun d1 q => rd_mono (fun d2 q => ?_) q) q) q) q
    refine ho.mono _ _ _ _ (fun d q => ?_) (hbl _ _ _ q)
    obtain ⟨⟨b, rfl⟩, q⟩ := q
    exact ⟨⟨b, rfl⟩, q⟩
  refine md _ _ _ (fun r e q => ?_) q2
  obtain ⟨⟨b, rfl⟩, q⟩ := q
  intro v H' f' g A' R' S' K'
  cases R' with
  | tmp rp n => cases rp with
    | bl => exact ⟨b, rfl, q H' f' A' (S'.drop (fun _ z => by simp at z)) K'⟩
theorem dw_and1 (ha : DT X a uA) : DW X (.BoolOp .And [a] pos) uA := ⟨pw_and1 ha.run, ha.mono⟩
theorem dw_or1 (ha : DT X a uA) : DW X (.BoolOp .Or [a] pos) uA := ⟨pw_or1 ha.run, ha.mono⟩
theorem dw_and (ha : DT X a uA) (hb : DW X (.BoolOp .And (b :: rest) pos) uB) : DW X (.BoolOp .And (a :: b :: rest) pos) (xAnd uA uB) := by
  refine ⟨PW.imp (pw_and ha.run hb.run) fun σ H Q q => ?_, fun env Q Q' h q => ha.mono _ _ _ (fun b e q => ⟨fun z => hb.mono _ _ _ h (q.1 z), fun z => h _ _ (q.2 z)⟩) q⟩
  obtain ⟨env, f, A, q⟩ := q
  refine ⟨env, f, A, ha.mono _ _ _ (fun b e q => ?_) q⟩
  intro H' f' A' S' K'
  cases b with
  | true =>
    rw [if_pos rfl]
    exact step_thenT S' K' hb.mono A' (q.1 rfl) fun r e2 q => q
  | false =>
    rw [if_neg Bool.false_ne_true]
    exact q.2 rfl H' f' A' S' K'
theorem dw_or (ha : DT X a uA) (hb : DW X (.BoolOp .Or (b :: rest) pos) uB) : DW X (.BoolOp .Or (a :: b :: rest) pos) (xOr uA uB) := by
  refine ⟨PW.imp (pw_or ha.run hb.run) fun σ H Q q => ?_, fun env Q Q' h q => ha.mono _ _ _ (fun b e q => ⟨fun z => h _ _ (q.1 z), fun z => hb.mono _ _ _ h (q.2 z)⟩) q⟩
  obtain ⟨env, f, A, q⟩ := q
  refine ⟨env, f, A, ha.mono _ _ _ (fun b e q => ?_) q⟩
  intro H' f' A' S' K'
  cases b with
  | false =>
    rw [if_neg Bool.false_ne_true]
    exact step_thenT S' K' hb.mono A' (q.2 rfl) fun r e2 q => q
  | true =>
    rw [if_pos rfl]
    exact q.1 rfl H' f' A' S' K'
theorem dt_not (ha : DT X a uA) : DT X (.UnaryOp .Not a pos) (xNot uA) :=
  ⟨PT.imp (pt_not ha.run) fun σ H Q q => q, fun env Q Q' h q => ha.mono _ _ _ (fun b e q => h _ _ q) q⟩
theorem de_one {op} {t : XE} (h : DE X a t) : DE X (.BoolOp op [a] pos) t := ⟨pe_one h.run, h.mono⟩
theorem tru_ex {d : D} {k : Bool → Prop} (q : tru d k) : ∃ b, k b ∧ tru d (fun c => c = b) := by
  cases d with
  | str s => exact ⟨_, q.2, q.1, rfl⟩
  | dT _ => exact q.elim
  | dF _ => exact q.elim
  | _ => exact ⟨_, q, rfl⟩
theorem de_and (ha : DE X a ta) (hb : DE X (.BoolOp .And (b :: rest) pos) tb) : DE X (.BoolOp .And (a :: b :: rest) pos) (dAnd ta tb) := by
  refine ⟨PE.imp (pe_andT ha.run hb.run) fun σ H Q q => ?_, fun env Q Q' h q => ha.mono _ _ _ (fun r e q => rd_mono (fun d q => tru_mono (fun b q => ⟨fun z => hb.mono _ _ _ h (q.1 z), fun z => h _ _ (q.2 z)⟩) q) q) q⟩
  obtain ⟨env, f, A, q⟩ := q
  refine ⟨env, f, A, ha.mono _ _ _ (fun r e q => ?_) q⟩
  intro v H' f' g A' R' S' K'
  obtain ⟨d, g', rp, q⟩ := rd_ok A' R' q
  obtain ⟨b, hb', q⟩ := rp.tru q
  refine ⟨b, hb', ?_⟩
  cases b with
  | true =>
    rw [if_pos rfl]
    exact step_then (S'.drop (fun _ z => by simp at z)) K' hb.mono A' (q.1 rfl) fun r e2 q => q
  | false =>
    rw [if_neg Bool.false_ne_true]
    exact q.2 rfl v H' f' g A' R' S' K'
theorem de_or (ha : DE X a ta) (hb : DE X (.BoolOp .Or (b :: rest) pos) tb) : DE X (.BoolOp .Or (a :: b :: rest) pos) (dOr ta tb) := by
  refine ⟨PE.imp (pe_orT ha.run hb.run) fun σ H Q q => ?_, fun env Q Q' h q => ha.mono _ _ _ (fun r e q => rd_mono (fun d q => tru_mono (fun b q => ⟨fun z => h _ _ (q.1 z), fun z => hb.mono _ _ _ h (q.2 z)⟩) q) q) q⟩
  obtain ⟨env, f, A, q⟩ := q
  refine ⟨env, f, A, ha.mono _ _ _ (fun r e q => ?_) q⟩
  intro v H' f' g A' R' S' K'
  obtain ⟨d, g', rp, q⟩ := rd_ok A' R' q
  obtain ⟨b, hb', q⟩ := rp.tru q
  refine ⟨b, hb', ?_⟩
  cases b with
  | false =>
    rw [if_neg Bool.false_ne_true]
    exact step_then (S'.drop (fun _ z => by simp at z)) K' hb.mono A' (q.2 rfl) fun r e2 q => q
  | true =>
    rw [if_pos rfl]
    exact q.1 rfl v H' f' g A' R' S' K'
theorem de_if {c : Expr} (hc : DT X c uA) (ha : DE X a ta) (hb : DE X b tb) : DE X (.IfExp c a b pos) (dIf uA ta tb) := by
  refine ⟨PE.imp (pe_ifExp hc.run ha.run hb.run) fun σ H Q q => ?_, fun env Q Q' h q => hc.mono _ _ _ (fun b e q => ⟨fun z => ha.mono _ _ _ h (q.1 z), fun z => hb.mono _ _ _ h (q.2 z)⟩) q⟩
  obtain ⟨env, f, A, q⟩ := q
  refine ⟨env, f, A, hc.mono _ _ _ (fun b e q => ?_) q⟩
  intro H' f' A' S' K'
  cases b with
  | true =>
    rw [if_pos rfl]
    exact step_then S' K' ha.mono A' (q.1 rfl) fun r e2 q => q
  | false =>
    rw [if_neg Bool.false_ne_true]
    exact step_then S' K' hb.mono A' (q.2 rfl) fun r e2 q => q
end

def aNil : XA := fun env Q => Q [] env
def aCons (t : XE) (u : XA) : XA := fun env Q => t env fun r e => u e fun rs e2 => Q (r :: rs) e2
def storL : List R → En → (List D → Prop) → Prop
  | [], _, k => k []
  | r :: rs, env, k => stor r env fun d => storL rs env fun ds => k (d :: ds)
def rdAll (L : Nat) : List R → En → (List D → Prop) → Prop
  | [], _, k => k []
  | r :: rs, env, k => rd L r env fun d => rdAll L rs env fun ds => k (d :: ds)
theorem storL_mono : ∀ {rs : List R} {env : En} {k k' : List D → Prop}, (∀ d, k d → k' d) → storL rs env k → storL rs env k'
  | [], _, _, _, h, q => h _ q
  | r :: rs, _, _, _, h, q => stor_mono (fun d q => storL_mono (fun ds q => h _ q) q) q
theorem rdAll_mono {L : Nat} : ∀ {rs : List R} {env : En} {k k' : List D → Prop}, (∀ d, k d → k' d) → rdAll L rs env k → rdAll L rs env k'
  | [], _, _, _, h, q => h _ q
  | r :: rs, _, _, _, h, q => rd_mono (fun d q => rdAll_mono (fun ds q => h _ q) q) q
section
variable {K : PySem.W.Frag} {σ : L2.St} {H H1 H' : Hp} {env e1 : En} {f f1 : FA} {G1 : List Addr}
theorem ResOks.dom : ∀ {rs : List R} {vs : List V} {gs : List Addr}, ResOks K σ H env f rs vs gs → ∀ b ∈ gs, ∃ o, H b = some o ∧ Mu o = true
  | _, _, _, .cons h t _, b, hb => by
    rcases List.mem_append.mp hb with hb | hb
    · exact h.dom b hb
    · exact ResOks.dom t b hb
theorem storL_ok : ∀ {rs : List R} {vs : List V} {gs : List Addr} {k : List D → Prop}, Abs K σ H env f → ResOks K σ H env f rs vs gs → storL rs env k → ∃ ds, Reps K H 0 ds vs gs ∧ k ds ∧ (∀ b ∈ gs, ¬ L0 env f b ∧ ¬ Ro env f b)
  | _, _, _, _, A, .nil, q => ⟨[], .nil, q, fun b hb => by simp at hb⟩
  | _, _, _, _, A, .cons h t n, q => by
    obtain ⟨d, rp, q, n1⟩ := stor_ok A h q
    obtain ⟨ds, rps, q, n2⟩ := storL_ok A t q
    exact ⟨d :: ds, .cons rp rps fun _ b hb => n b hb, q, fun b hb => (List.mem_append.mp hb).elim (n1 b) (n2 b)⟩
theorem rdAll_ok {L : Nat} (hL : 0 < L) : ∀ {rs : List R} {vs : List V} {gs : List Addr} {k : List D → Prop}, Abs K σ H env f → ResOks K σ H env f rs vs gs → rdAll L rs env k → ∃ ds g, Reps K H L ds vs g ∧ k ds
  | _, _, _, _, A, .nil, q => ⟨[], [], .nil, q⟩
  | _, _, _, _, A, .cons h t n, q => by
    obtain ⟨d, g, rp, q⟩ := rd_ok A h q
    obtain ⟨ds, gs, rps, q⟩ := rdAll_ok hL A t q
    exact ⟨d :: ds, _, .cons rp rps (fun e => by omega), q⟩
end
section
variable {X : Cx} {e : Expr} {es : List Expr} {t : XE} {u : XA} {pos : Pos}
theorem da_nil : DA X [] aNil :=
  ⟨PA.imp pa_nil fun σ H Q ⟨env, f, A, q⟩ => q [] H f [] A .nil .refl .refl, fun env Q Q' h q => h _ _ q⟩
theorem da_cons (ha : DE X e t) (hr : DA X es u) (hs : starEach (e :: es) X.env = (false, eval e X.env) :: starEach es X.env := by rfl) : DA X (e :: es) (aCons t u) := by
  refine ⟨PA.imp (pa_cons ha.run hr.run hs) fun σ H Q q => ?_, fun env Q Q' h q => ha.mono _ _ _ (fun r e q => hr.mono _ _ _ (fun rs e2 q => h _ _ q) q) q⟩
  obtain ⟨env, f, A, q⟩ := q
  refine ⟨env, f, A, ha.mono _ _ _ (fun r1 e1 q => ?_) q⟩
  intro x H1 f1 g1 A1 R1 S1 K1
  refine ⟨e1, f1, A1, hr.mono _ _ _ (fun rs e2 q => ?_) q⟩
  intro vs H2 f2 gs A2 R2 S2 K2
  obtain ⟨R1', n⟩ := R1.wait A1 S2 K2
  exact q (x :: vs) H2 f2 (g1 ++ gs) A2 (.cons R1' R2 n) (S1.trans (S2.frame g1)) (K1.trans K2)
def dTup (u : XA) : XE := fun env Q => u env fun rs e => rs.length ≤ 1000 ∧ storL rs e fun ds => Q (.tmp (.tup ds)) e
def dLst (u : XA) : XE := fun env Q => u env fun rs e => rs.length ≤ 1000 ∧ storL rs e fun ds => Q (.tmp (.lst ds)) e
theorem ResOks.len {K : PySem.W.Frag} {σ : L2.St} {H : Hp} {env : En} {f : FA} : ∀ {rs : List R} {vs : List V} {gs : List Addr}, ResOks K σ H env f rs vs gs → rs.length = vs.length
  | _, _, _, .nil => rfl
  | _, _, _, .cons _ t _ => by rw [List.length_cons, List.length_cons, t.len]
theorem line1000 {n : Nat} (h : n ≤ 1000) : n ≤ sizeLine := Nat.le_of_lt (small1000 h)
theorem Stp.ext {H H1 H2 : Hp} {env e1 : En} {f f1 : FA} {G G1 : List Addr} (S : Stp H env f G H1 e1 f1 G1) (x : ∀ b o, H1 b = some o → H2 b = some o) : Stp H env f G H2 e1 f1 G1 :=
  S.trans ⟨fun b o h _ => x b o h, fun b q => q.elim .inl fun z => .inr (.inl z)⟩
theorem de_tup {x1} (ha : DA X es u) : DE X (.Tuple es x1 pos) (dTup u) := by
  refine ⟨PE.imp (pe_tup ha.run) fun σ H Q q => ?_, fun env Q Q' h q => ha.mono _ _ _ (fun r e q => ⟨q.1, storL_mono (fun ds q => h _ _ q) q.2⟩) q⟩
  obtain ⟨env, f, A, q⟩ := q
  refine ⟨env, f, A, ha.mono _ _ _ (fun rs e q => ?_) q⟩
  intro vs H1 f1 gs A1 R1 S1 K1
  obtain ⟨ds, rp, q', n⟩ := storL_ok A1 R1 q.2
  refine ⟨by rw [← R1.len]; exact line1000 q.1, fun p hp => ?_⟩
  have x : Ext H1 (L2.upd H1 p (.tup vs)) [] := .updT hp
  refine q' _ _ f1 gs (A1.ext x.same) (.tmp (upd_tup hp rp) n) (S1.ext x.same) K1
theorem de_lst (ha : DA X es u) : DE X (.List es pos) (dLst u) := by
  refine ⟨PE.imp (pe_lst ha.run) fun σ H Q q => ?_, fun env Q Q' h q => ha.mono _ _ _ (fun r e q => ⟨q.1, storL_mono (fun ds q => h _ _ q) q.2⟩) q⟩
  obtain ⟨env, f, A, q⟩ := q
  refine ⟨env, f, A, ha.mono _ _ _ (fun rs e q => ?_) q⟩
  intro vs H1 f1 gs A1 R1 S1 K1
  obtain ⟨ds, rp, q', n⟩ := storL_ok A1 R1 q.2
  refine ⟨by rw [← R1.len]; exact line1000 q.1, fun p hp => ?_⟩
  have x : Ext H1 (L2.upd H1 p (.lst vs)) [p] := .upd hp
  have pg : p ∉ gs := fun z => by
    obtain ⟨o, ho, _⟩ := rp.dom p z
    rw [hp] at ho; cases ho
  refine q' _ _ f1 (p :: gs) (A1.ext x.same) (.tmp (.lst upd_same (rp.keep fun b o e _ => x.same b o e) fun _ => pg) fun b hb => ?_) (S1.new x) K1
  rcases List.mem_cons.mp hb with rfl | hb
  · refine ⟨fun z => ?_, fun z => ?_⟩
    · obtain ⟨o, ho, _⟩ := A1.ldom z
      rw [hp] at ho; cases ho
    · obtain ⟨o, ho, _⟩ := A1.rdom z
      rw [hp] at ho; cases ho
  · exact n b hb
end

section
variable {K : PySem.W.Frag} {σ : L2.St} {H H' : Hp} {env : En} {f : FA} {G G' g' : List Addr} {i : Nat} {d d' : D} {m : Md} {v : V}
def fset (f : FA) (i : Nat) (g : List Addr) : FA := fun j => if j = i then g else f j
theorem fset_at {f : FA} {i : Nat} {g : List Addr} : fset f i g i = g := if_pos rfl
theorem fset_ne {f : FA} {i j : Nat} {g : List Addr} (h : j ≠ i) : fset f i g j = f j := if_neg h
theorem env_at {x : Option (D × Md)} (h : i < env.length) : (env.set i x)[i]? = some x := List.getElem?_set_self h
theorem env_ne {x : Option (D × Md)} {j : Nat} (h : j ≠ i) : (env.set i x)[j]? = env[j]? := List.getElem?_set_ne (Ne.symm h)
/-- what stands in slot i is another thing now -/
theorem Abs.mut (A : Abs K σ H env f) (e : env[i]? = some (some (d, m))) (hm : m.rd = false) (hv : σ[i]? = some (some v))
    (same : ∀ b o, H b = some o → b ∉ f i → H' b = some o) (r : Rep K H' m.lv d' v g') (sub : ∀ b ∈ g', b ∈ f i ∨ b ∈ G ∨ H b = none) (hG : ∀ b ∈ G, ¬ L0 env f b ∧ ¬ Ro env f b)
    (hG' : ∀ b ∈ G', (b ∈ f i ∨ b ∈ G ∨ H b = none) ∧ b ∉ g') :
    Abs K σ H' (env.set i (some (d', m))) (fset f i g') ∧ Stp H env f G H' (env.set i (some (d', m))) (fset f i g') G' ∧ Kp env f (env.set i (some (d', m))) (fset f i g') ∧
      (∀ b ∈ G', ¬ L0 (env.set i (some (d', m))) (fset f i g') b ∧ ¬ Ro (env.set i (some (d', m))) (fset f i g') b) := by
  have hi : i < env.length := (List.getElem?_eq_some_iff.mp e).1
  have hdom : ∀ j d m, env[j]? = some (some (d, m)) → ∀ b ∈ f j, ∃ o, H b = some o ∧ Mu o = true := fun j d m h b hb => by
    obtain ⟨v, _, rp⟩ := A.rep j d m h
    exact rp.dom b hb
  have get : ∀ {j : Nat} {d1 : D} {m1 : Md}, (env.set i (some (d', m)))[j]? = some (some (d1, m1)) → j ≠ i → env[j]? = some (some (d1, m1)) := fun {j d1 m1} h hj => by rwa [env_ne hj] at h
  have ati : ∀ {d1 : D} {m1 : Md}, (env.set i (some (d', m)))[i]? = some (some (d1, m1)) → d1 = d' ∧ m1 = m := fun {d1 m1} h => by
    rw [env_at hi] at h
    cases h
    exact ⟨rfl, rfl⟩
  have out : ∀ {j : Nat} {d1 : D} {m1 : Md}, j ≠ i → env[j]? = some (some (d1, m1)) → ∀ b, (b ∈ f i ∨ b ∈ G ∨ H b = none) → b ∉ f j := fun {j d1 m1} hj h b q z => by
    rcases q with q | q | q
    · exact A.dis i j d m d1 m1 (Ne.symm hj) e h (Md.lv_of hm) b q z
    · by_cases hr : m1.lv = 0
      · exact (hG b q).1 ⟨j, d1, m1, h, hr, z⟩
      · exact (hG b q).2 ⟨j, d1, m1, h, hr, z⟩
    · obtain ⟨o, ho, _⟩ := hdom j d1 m1 h b z
      rw [q] at ho; cases ho
  have wsub : ∀ b, (b ∈ f i ∨ b ∈ G ∨ H b = none) → (W env f b ∨ b ∈ G ∨ H b = none) := fun b q => q.imp_left fun z => ⟨i, d, m, e, hm, z⟩
  refine ⟨⟨fun j d1 m1 h => ?_, fun j k d1 m1 d2 m2 hjk h1 h2 hr b hb z => ?_, by rw [List.length_set]; exact A.len⟩, ⟨fun b o h q => ?_, fun b q => ?_⟩, ⟨?_, fun j d1 m1 h hr => ?_⟩, fun b hb => ⟨?_, ?_⟩⟩
  · by_cases hj : j = i
    · subst hj
      obtain ⟨rfl, rfl⟩ := ati h
      exact ⟨v, hv, by rw [fset_at]; exact r⟩
    · have h' := get h hj
      obtain ⟨w, h3, rp⟩ := A.rep j d1 m1 h'
      refine ⟨w, h3, ?_⟩
      rw [fset_ne hj]
      refine rp.keep fun b o hb q => same b o hb fun z => ?_
      rcases q with q | q
      · exact A.dis i j d m d1 m1 (Ne.symm hj) e h' (Md.lv_of hm) b z q
      · obtain ⟨o', ho', mo⟩ := hdom i d m e b z
        rw [hb] at ho'; cases ho'
        rw [q] at mo; cases mo
  · by_cases hj : j = i
    · subst hj
      rw [fset_at] at hb
      rw [fset_ne (Ne.symm hjk)] at z
      exact out (Ne.symm hjk) (get h2 (Ne.symm hjk)) b (sub b hb) z
    · rw [fset_ne hj] at hb
      by_cases hk : k = i
      · subst hk
        rw [fset_at] at z
        exact out hj (get h1 hj) b (sub b z) hb
      · rw [fset_ne hk] at z
        exact A.dis j k d1 m1 d2 m2 hjk (get h1 hj) (get h2 hk) hr b hb z
  · refine same b o h fun z => ?_
    rcases q with q | q
    · obtain ⟨o', ho', mo⟩ := hdom i d m e b z
      rw [h] at ho'; cases ho'
      rw [q] at mo; cases mo
    · exact q.1 ⟨i, d, m, e, hm, z⟩
  · rcases q with ⟨j, d1, m1, h, hr, hb⟩ | q
    · by_cases hj : j = i
      · subst hj
        rw [fset_at] at hb
        exact wsub b (sub b hb)
      · rw [fset_ne hj] at hb
        exact .inl ⟨j, d1, m1, get h hj, hr, hb⟩
    · exact wsub b (hG' b q).1
  · rw [List.map_set]
    apply List.ext_getElem?
    intro j
    by_cases hj : j = i
    · subst hj
      rw [List.getElem?_set_self (by simpa using hi), List.getElem?_map, e]
      rfl
    · rw [List.getElem?_set_ne (Ne.symm hj)]
  · have hj : j ≠ i := fun z => by
      subst z
      rw [e] at h; cases h
      rw [hm] at hr; cases hr
    exact ⟨by rw [env_ne hj]; exact h, fset_ne hj⟩
  · rintro ⟨j, d1, m1, h, hr, z⟩
    by_cases hj : j = i
    · subst hj
      rw [fset_at] at z
      exact (hG' b hb).2 z
    · rw [fset_ne hj] at z
      exact out hj (get h hj) b (hG' b hb).1 z
  · rintro ⟨j, d1, m1, h, hr, z⟩
    by_cases hj : j = i
    · subst hj
      rw [fset_at] at z
      exact (hG' b hb).2 z
    · rw [fset_ne hj] at z
      exact out hj (get h hj) b (hG' b hb).1 z
/-- the slot that a result names, if it may be changed -/
def chg (r : R) (env : En) (k : Nat → D → Md → Prop) : Prop := match r with
  | .sl i => match env[i]? with
    | some (some (d, .own)) => k i d .own
    | some (some (d, .io)) => k i d .io
    | _ => False
  | _ => False
theorem chg_mono {r : R} {env : En} {k k' : Nat → D → Md → Prop} (h : ∀ i d m, k i d m → k' i d m) (q : chg r env k) : chg r env k' := by
  unfold chg at q ⊢
  split at q
  · split at q
    · simp only [*] <;> exact h _ _ _ q
    · simp only [*] <;> exact h _ _ _ q
    · exact q.elim
  · exact q.elim
theorem chg_ok {r : R} {v : V} {g : List Addr} {k : Nat → D → Md → Prop} (A : Abs K σ H env f) (h : ResOk K σ H env f r v g) (q : chg r env k) :
    ∃ i d m, env[i]? = some (some (d, m)) ∧ m.rd = false ∧ m.lv = 0 ∧ σ[i]? = some (some v) ∧ Rep K H 0 d v (f i) ∧ g = [] ∧ k i d m := by
  unfold chg at q
  split at q
  · rename_i i
    cases h with
    | sl h1 h2 hm =>
      obtain ⟨w, h3, rp⟩ := A.rep _ _ _ h2
      rw [h1] at h3; cases h3
      split at q
      · rename_i e
        rw [h2] at e; cases e
        exact ⟨_, _, _, h2, rfl, rfl, h1, rp, rfl, q⟩
      · rename_i e
        rw [h2] at e; cases e
        exact ⟨_, _, _, h2, rfl, rfl, h1, rp, rfl, q⟩
      · exact q.elim
  · exact q.elim
end
end BX

namespace BX
open PySem PySem.Spec PyProof.Rows L2

def lookT (kvs : List (List Key × D)) (k : List Key) : Option D := (kvs.find? fun p => decide (p.1 = k)).map (·.2)
def lookK (kvs : List (Key × D)) (k : Key) : Option D := (kvs.find? fun p => decide (p.1 = k)).map (·.2)
def ixd (d1 d2 : D) (k : D → Prop) : Prop := match d1 with
  | .lst ds => match d2 with
    | .int i => match atI ds i with
      | some d => k d
      | none => False
    | _ => False
  | .tup ds => match d2 with
    | .int i => match atI ds i with
      | some d => k d
      | none => False
    | _ => False
  | .str s => match d2 with
    | .int i => s.length ≤ sizeLine ∧ match atI s.cps.toList i with
      | some c => k (.str ⟨#[c]⟩)
      | none => False
    | _ => False
  | .dT kvs => match d2 with
    | .tup ds => match dKeys ds with
      | some ks => match lookT kvs ks with
        | some d => k d
        | none => False
      | none => False
    | _ => False
  | .dK kvs => match dKey d2 with
    | some ky => match lookK kvs ky with
      | some d => k d
      | none => False
    | none => False
  | _ => False
theorem ixd_mono {d1 d2 : D} {k k' : D → Prop} (h : ∀ d, k d → k' d) (q : ixd d1 d2 k) : ixd d1 d2 k' := by
  unfold ixd at q ⊢
  split at q
  · split at q
    · split at q
      · simp only [*] <;> exact h _ q
      · exact q.elim
    · exact q.elim
  · split at q
    · split at q
      · simp only [*] <;> exact h _ q
      · exact q.elim
    · exact q.elim
  · split at q
    · refine ⟨q.1, ?_⟩
      replace q := q.2
      split at q
      · simp only [*] <;> exact h _ q
      · exact q.elim
    · exact q.elim
  · split at q
    · split at q
      · split at q
        · simp only [*] <;> exact h _ q
        · exact q.elim
      · exact q.elim
    · exact q.elim
  · split at q
    · split at q
      · simp only [*] <;> exact h _ q
      · exact q.elim
    · exact q.elim
  · exact q.elim
def Part (K : PySem.W.Frag) (H : Hp) (d1 : D) (x : V) (d : D) (z : V) : Prop := ∀ lv f, Rep K H lv d1 x f → ∃ g, Rep K H lv d z g ∧ ∀ b ∈ g, b ∈ f
def rIxd (K : PySem.W.Frag) : R2 := fun x y H Q => ∃ d1 d2 g1 g2, Rep K H 2 d1 x g1 ∧ Rep K H 1 d2 y g2 ∧ ixd d1 d2 fun d => ∀ z, Part K H d1 x d z → Q z H
theorem atI_map {α β : Type} {xs : List α} {ys : List β} {i : Int} {a : α} (hl : xs.length = ys.length) (h : atI xs i = some a) : ∃ (j : Nat) (b : β), xs[j]? = some a ∧ ys[j]? = some b ∧ atI ys i = some b := by
  unfold atI at h ⊢
  rw [← hl]
  cases e : ixN xs.length i with
  | none => rw [e] at h; cases h
  | some j =>
    rw [e] at h
    have h' : xs[j]? = some a := h
    have hj := (List.getElem?_eq_some_iff.mp h').1
    exact ⟨j, ys[j]'(by omega), h', List.getElem?_eq_getElem (by omega), List.getElem?_eq_getElem (by omega)⟩
section
variable {κ : Type} [DecidableEq κ]
theorem valV_look : ∀ {hs : List (κ × V)} {kvs : List (κ × D)} {k : κ} {d : D}, hs.map (·.1) = kvs.map (·.1) → (kvs.find? fun p => decide (p.1 = k)).map (·.2) = some d →
    ∃ (j : Nat) (z : V), (kvs.map (·.2))[j]? = some d ∧ (hs.map (·.2))[j]? = some z ∧ valV hs k = some z
  | [], [], _, _, _, e => by simp at e
  | [], _ :: _, _, _, e, _ => by simp at e
  | _ :: _, [], _, _, e, _ => by simp at e
  | p :: hs, q :: kvs, k, d, e, h => by
    rw [List.map_cons, List.map_cons, List.cons.injEq] at e
    by_cases hk : q.1 = k
    · rw [List.find?_cons, decide_eq_true hk] at h
      cases h
      exact ⟨0, p.2, rfl, rfl, valV_pos (e.1.trans hk)⟩
    · rw [List.find?_cons, decide_eq_false hk] at h
      obtain ⟨j, z, h1, h2, h3⟩ := valV_look e.2 h
      exact ⟨j + 1, z, by simpa using h1, by simpa using h2, by rw [valV_neg (fun z => hk (e.1.symm.trans z))]; exact h3⟩
theorem valV_none : ∀ {hs : List (κ × V)} {kvs : List (κ × D)} {k : κ}, hs.map (·.1) = kvs.map (·.1) → (kvs.find? fun p => decide (p.1 = k)).map (·.2) = none → valV hs k = none
  | [], [], _, _, e => rfl
  | [], _ :: _, _, e, _ => by simp at e
  | _ :: _, [], _, e, _ => by simp at e
  | p :: hs, q :: kvs, k, e, h => by
    rw [List.map_cons, List.map_cons, List.cons.injEq] at e
    by_cases hk : q.1 = k
    · rw [List.find?_cons, decide_eq_true hk] at h
      cases h
    · rw [List.find?_cons, decide_eq_false hk] at h
      rw [valV_neg (fun z => hk (e.1.symm.trans z))]
      exact valV_none e.2 h
end
section
variable {prog : Program} {w : World} {A : Around} {E : Value → Shared → Prop} {s : Shared}
theorem subTail_any {value slice : Expr} {o i : Value} {T id : String} {Q : Value → Shared → Prop} (hT : s.TypeIs o T)
    (hl : typeLookup (.type T) "__getitem__" = pure (some (.builtin id))) (h : wpAny (model prog w) A (getItem o i) Q E s)
    (hs : subscripted slice false o i = operate [o, i] (getItem o i)) : wpAny (model prog w) A (subscriptTail value slice o i) Q E s := by
  unfold subscriptTail
  refine wpAny_bind ?_
  rw [getitemInPython_of_ne hT.not_modules]
  refine wpAny_bind (wpAny_specialOf hT hl ?_)
  have fin : wpAny (model prog w) A (subscripted slice false o i) (fun r s₃ => wpAny (model prog w) A (letTemporaryGo value o r >>= fun _ => pure r) Q E s₃) E s := by
    rw [hs]
    exact wpAny_operating (wpAny_mono h (fun r s₃ h₃ => wpAny_bind (wpAny_letTemporaryGo (wpAny_pure h₃))) fun _ _ x => x)
  first
    | exact wpAny_pure (wpAny_bind fin)
    | exact wpAny_bind (wpAny_pure (wpAny_bind fin))
    | exact wpAny_bind fin
end
section
variable {X : Cx}
theorem ix_dget (hx : Ok X) {value slice : Expr} {pins : List (Addr × Obj)} {s : Shared} {σ : L2.St} {H : Hp} {a : Addr} {y v : V} {u : Value} {Q : VK} (I : Inv X pins σ H s) (ry : RelV y u) (g : DGet H a y (some v)) (q : Q v H)
    (hs : subscripted slice false (.ref a) u = operate [.ref a, u] (getItem (.ref a) u)) : wpAny (model X.prog X.w) X.A (subscriptTail value slice (.ref a) u) (EP X pins σ Q) X.xe s :=
  subTail_any (dict_typeIs I g) PySem.F.slot_dict_getitem.lookup (d_getItem (by have := hx.un; omega) I g ry fun w' s3 I3 rw' => ⟨v, H, I3, rw', q⟩) hs
theorem ix_data (hx : Ok X) : IxR X (rIxd X.K) := by
  intro value slice pins s σ H x y v u Q I rx ry h hs
  obtain ⟨d1, d2, g1, g2, r1, r2, q⟩ := h
  unfold ixd at q
  split at q
  · rename_i ds
    split at q
    · rename_i i
      split at q
      · rename_i d e
        obtain ⟨a, vs, g, rfl, ha, ra, _, _⟩ := r1.listSq
        obtain ⟨rfl, _⟩ := r2.intV
        obtain ⟨j, z, e1, e2, e3⟩ := atI_map ra.len e
        refine ix_list value slice pins s σ H _ _ v u Q I rx ry ⟨a, vs, i, z, rfl, rfl, ha, e3, q z fun lv f rp => ?_⟩ hs
        obtain ⟨a', vs', g', h1, ha', ra', hsub, _⟩ := rp.listSq
        cases h1
        have := I.list_inj ha ha'
        subst this
        obtain ⟨z', g2, e4, rz, hg⟩ := ra'.get e1
        rw [e2] at e4; cases e4
        exact ⟨g2, rz, fun b hb => hsub b (hg b hb)⟩
      · exact q.elim
    · exact q.elim
  · rename_i ds
    split at q
    · rename_i i
      split at q
      · rename_i d e
        obtain ⟨a, vs, rfl, ha, ra⟩ := r1.tupleSq
        obtain ⟨rfl, _⟩ := r2.intV
        obtain ⟨j, z, e1, e2, e3⟩ := atI_map ra.len e
        refine ix_tup value slice pins s σ H _ _ v u Q I rx ry ⟨a, vs, i, z, rfl, rfl, ha, e3, q z fun lv f rp => ?_⟩ hs
        obtain ⟨a', vs', h1, ha', ra'⟩ := rp.tupleSq
        cases h1
        have := I.tuple_inj ha ha'
        subst this
        obtain ⟨z', g2, e4, rz, hg⟩ := ra'.get e1
        rw [e2] at e4; cases e4
        exact ⟨g2, rz, hg⟩
      · exact q.elim
    · exact q.elim
  · rename_i t
    split at q
    · rename_i i
      obtain ⟨hl, q⟩ := q
      split at q
      · rename_i c e
        obtain ⟨rfl, _⟩ := r1.strV
        obtain ⟨rfl, _⟩ := r2.intV
        exact ix_str value slice pins s σ H _ _ v u Q I rx ry ⟨t, i, c, rfl, rfl, hl, e, q _ fun lv f rp => ⟨[], .str _, no_mem_nil⟩⟩ hs
      · exact q.elim
    · exact q.elim
  · rename_i kvs
    split at q
    · rename_i ds
      split at q
      · rename_i ks e
        split at q
        · rename_i d ed
          obtain ⟨b, ws, rfl, hb, rb⟩ := r2.tupleAt (Nat.le_refl _)
          rw [rb.dKeys e] at hb
          cases r1 with
          | @dT a hs' kvs f ha he nd r nn =>
            cases rx
            obtain ⟨j, z, e1, e2, e3⟩ := valV_look he ed
            refine ix_dget hx I ry (by rw [← e3]; exact DGet.t ha hb) (q z fun lv f rp => ?_) hs
            cases rp with
            | dT ha' he' nd' r' nn' =>
              rw [ha] at ha'; cases ha'
              obtain ⟨z', g2, e4, rz, hg⟩ := r'.get e1
              rw [e2] at e4; cases e4
              exact ⟨g2, rz, fun b hb => List.mem_cons_of_mem _ (hg b hb)⟩
            | dTF l' ha' he' nd' r' => rw [ha] at ha'; cases ha'
          | @dTF a o hs' kvs f l ha he nd r =>
            cases rx
            obtain ⟨j, z, e1, e2, e3⟩ := valV_look he ed
            refine ix_dget hx I ry (by rw [← e3]; exact .inr ⟨_, _, _, .inr ⟨o, ha⟩, rfl, hb, rfl⟩) (q z fun lv f rp => ?_) hs
            cases rp with
            | dT ha' he' nd' r' nn' => rw [ha] at ha'; cases ha'
            | dTF l' ha' he' nd' r' =>
              rw [ha] at ha'; cases ha'
              obtain ⟨z', g2, e4, rz, hg⟩ := r'.get e1
              rw [e2] at e4; cases e4
              exact ⟨g2, rz, hg⟩
        · exact q.elim
      · exact q.elim
    · exact q.elim
  · rename_i kvs
    split at q
    · rename_i ky e
      split at q
      · rename_i d ed
        obtain rfl := r2.dKey e
        cases r1 with
        | @dK a hs' kvs f ha he nd r nn =>
          cases rx
          obtain ⟨j, z, e1, e2, e3⟩ := valV_look he ed
          refine ix_dget hx I ry (by rw [← e3]; exact DGet.k ha) (q z fun lv f rp => ?_) hs
          cases rp with
          | dK ha' he' nd' r' nn' =>
            rw [ha] at ha'; cases ha'
            obtain ⟨z', g2, e4, rz, hg⟩ := r'.get e1
            rw [e2] at e4; cases e4
            exact ⟨g2, rz, fun b hb => List.mem_cons_of_mem _ (hg b hb)⟩
      · exact q.elim
    · exact q.elim
  · exact q.elim
end
section
variable {K : PySem.W.Frag} {σ : L2.St} {H : Hp} {env : En} {f : FA}
theorem elem_tmp {d : D} {z : V} {g : List Addr} {lv : Nat} {c : Bool} {k : R → Prop} (r : Rep K H (clv c) d z g) (n : ∀ b ∈ g, Ro env f b) (q : k (mkRo c d)) : ∃ r' g2, ResOk K σ H env f r' z g2 ∧ (∀ b ∈ g2, b ∈ ([] : List Addr)) ∧ k r' := by
  cases d with
  | int i => exact ⟨_, [], .tmp r.int0 no_mem_nil, no_mem_nil, q⟩
  | bl i => exact ⟨_, [], .tmp r.bl0 no_mem_nil, no_mem_nil, q⟩
  | str i => exact ⟨_, [], .tmp r.str0 no_mem_nil, no_mem_nil, q⟩
  | non => exact ⟨_, [], .tmp r.non0 no_mem_nil, no_mem_nil, q⟩
  | _ => exact ⟨_, [], .ro r n, no_mem_nil, q⟩
theorem rd_part {L : Nat} {r : R} {x : V} {g : List Addr} {k : D → Prop} (A : Abs K σ H env f) (h : ResOk K σ H env f r x g) (q : rd L r env k) :
    ∃ d1 g', Rep K H L d1 x g' ∧ k d1 ∧ ∀ (d : D) (z : V) (k' : R → Prop), Part K H d1 x d z → elem r d k' → ∃ r' g2, ResOk K σ H env f r' z g2 ∧ (∀ b ∈ g2, b ∈ g) ∧ k' r' := by
  cases h with
  | @tmp d1 _ _ r n =>
    refine ⟨d1, g, r.up (Nat.zero_le _), q, fun d z k' p e => ?_⟩
    obtain ⟨g2, rz, hg⟩ := p 0 g r
    exact ⟨_, g2, .tmp rz fun b hb => n b (hg b hb), hg, e⟩
  | @ro c d1 _ g0 r n =>
    unfold rd R.data at q
    cases e : roOk c L with
    | false => simp only [e] at q
    | true =>
      simp only [e] at q
      refine ⟨d1, g0, r.up (roOk_le e), q, fun d z k' p e => ?_⟩
      obtain ⟨g2, rz, hg⟩ := p _ _ r
      exact elem_tmp (lv := 0) rz (fun b hb => n b (hg b hb)) e
  | @sl i _ d1 m h1 h2 hm =>
    obtain ⟨v', h3, rp⟩ := A.rep _ _ _ h2
    rw [h1] at h3; cases h3
    unfold rd R.data at q
    simp only [h2] at q
    cases e : m.okL L with
    | false => simp only [e] at q
    | true =>
      simp only [e] at q
      refine ⟨d1, _, rp.up (Md.okL_le e), q, fun d z k' p e => ?_⟩
      obtain ⟨g2, rz, hg⟩ := p _ _ rp
      obtain ⟨rfl, rz0⟩ := rz.imm (by rw [hm]; exact Nat.zero_le _) e.1
      exact ⟨_, [], .tmp rz0 no_mem_nil, no_mem_nil, e.2⟩
end
def dIdx (ta tb : XE) : XE := fun env Q => ta env fun r1 e1 => tb e1 fun r2 e2 => rd 2 r1 e2 fun d1 => rd 1 r2 e2 fun d2 => ixd d1 d2 fun d => elem r1 d fun r => Q r e2
section
variable {X : Cx} {a b c : Expr} {ta tb : XE} {pos : Pos}
theorem de_idx (hx : Ok X) (ha : DE X a ta) (hb : DE X b tb) (hs : PlainIx b := by intro _ _; rfl) : DE X (.Subscript a b pos) (dIdx ta tb) := by
  refine ⟨PE.imp (pe_ix (ix_data hx) ha.run hb.run hs) fun σ H Q q => ?_, fun env Q Q' h q => ha.mono _ _ _ (fun r1 e1 q => hb.mono _ _ _ (fun r2 e2 q => rd_mono (fun d1 q => rd_mono (fun d2 q => ixd_mono (fun d q => elem_mono (fun r q => h _ _ q) q) q) q) q) q) q⟩
  obtain ⟨env, f, A, q⟩ := q
  have h := bin_lift (C := fun r1 r2 e2 => rd 2 r1 e2 fun d1 => rd 1 r2 e2 fun d2 => ixd d1 d2 fun d => _) ha.mono hb.mono A q
  obtain ⟨env1, f1, A1, q1⟩ := h
  refine ⟨env1, f1, A1, ha.mono _ _ _ (fun r1 e1 z => ?_) q1⟩
  intro x H1 f1 g1 a b c d
  obtain ⟨env2, f2, A2, q2⟩ := z x H1 f1 g1 a b c d
  refine ⟨env2, f2, A2, hb.mono _ _ _ (fun r2 e2 z => ?_) q2⟩
  intro y H2 f2 g2 a b c d
  obtain ⟨r1, r2, e2, f2, g1, g2, A2, R1, R2, n, S, Kk, q3⟩ := z y H2 f2 g2 a b c d
  obtain ⟨d1, g1', rp1, q3, pr⟩ := rd_part A2 R1 q3
  obtain ⟨d2, g2', rp2, q3⟩ := rd_ok A2 R2 q3
  refine ⟨d1, d2, g1', g2', rp1, rp2, ixd_mono (fun dd q4 => ?_) q3⟩
  intro z p
  obtain ⟨r', g3, R3, hg, q5⟩ := pr _ _ _ p q4
  exact q5 z H2 f2 g3 A2 R3 (S.drop fun b hb => List.mem_append_left _ (hg b hb)) Kk
end

abbrev OPn := List D → (D → Prop) → Prop
def rOpn (K : PySem.W.Frag) (L : Nat) (op : OPn) : List V → Hp → VK → Prop := fun vs H Q => ∃ ds g, Reps K H L ds vs g ∧ op ds fun d => ∀ z H' g, Rep K H' 0 d z g → Ext H H' g → Q z H'
def MonoN (op : OPn) : Prop := ∀ ds k k', (∀ d, k d → k' d) → op ds k → op ds k'
structure CallD (X : Cx) (fn : Value) (L : Nat) (op : OPn) : Prop where
  run : CallR X fn (rOpn X.K L op)
  mono : MonoN op
  pos : 0 < L
def dCall (L : Nat) (op : OPn) (u : XA) : XE := fun env Q => u env fun rs e => rdAll L rs e fun ds => op ds fun d => Q (.tmp d) e
section
variable {X : Cx} {x : Str} {p pos : Pos} {e : Expr} {es : List Expr} {u : XA} {id T : String} {L : Nat} {op : OPn}
theorem dCall_mono (mo : MonoN op) (mu : MonoA u) : MonoE (dCall L op u) := fun env Q Q' h q => mu _ _ _ (fun rs e q => rdAll_mono (fun ds q => mo _ _ _ (fun d q => h _ _ q) q) q) q
theorem dCall_lift {K : PySem.W.Frag} (hL : 0 < L) (mo : MonoN op) (mu : MonoA u) {σ : L2.St} {H : Hp} {Q : VK} (q : liftE K (dCall L op u) σ H Q) : tCB (rOpn K L op) (liftA K u) σ H Q := by
  obtain ⟨env, f, A, q⟩ := q
  refine ⟨env, f, A, mu _ _ _ (fun rs e q => ?_) q⟩
  intro vs H1 f1 gs A1 R1 S1 K1
  obtain ⟨ds, g, rp, q⟩ := rdAll_ok hL A1 R1 q
  refine ⟨ds, g, rp, mo _ _ _ (fun d q => ?_) q⟩
  intro z H' g' rz x
  obtain ⟨A3, R3, S3⟩ := fin_ext A1 S1 x rz
  exact q z H' f1 g' A3 R3 S3 K1
theorem de_callB (hc : CallD X (.builtin id) L op) (hg : Gl X x) (hm : X.mg x = none) (hv : bootBuiltins x = some (.builtin id)) (ha : DA X (e :: es) u) (hn : x ≠ "__name__" := by decide) (hdb : (x == ("__debug__" : Str)) = false := by decide)
    (he : starEach (e :: es) X.env = (false, eval e X.env) :: starEach es X.env := by rfl) (hpl : (backTo pos (starEach es X.env)).any (·.1) = false := by rfl) : DE X (.Call (.Name x p) (e :: es) [] pos) (dCall L op u) :=
  ⟨PE.imp (pe_callB hc.run hg hm hv ha.run hn hdb he hpl) fun σ H Q q => dCall_lift hc.pos hc.mono ha.mono q, dCall_mono hc.mono ha.mono⟩
theorem de_callTy (hc : CallD X (.type T) L op) (hg : Gl X x) (hm : X.mg x = none) (hv : bootBuiltins x = some (.type T)) (ha : DA X (e :: es) u) (hn : x ≠ "__name__" := by decide) (hdb : (x == ("__debug__" : Str)) = false := by decide)
    (he : starEach (e :: es) X.env = (false, eval e X.env) :: starEach es X.env := by rfl) (hpl : (backTo pos (starEach es X.env)).any (·.1) = false := by rfl) : DE X (.Call (.Name x p) (e :: es) [] pos) (dCall L op u) :=
  ⟨PE.imp (pe_callTy hc.run hg hm hv ha.run hn hdb he hpl) fun σ H Q q => dCall_lift hc.pos hc.mono ha.mono q, dCall_mono hc.mono ha.mono⟩
theorem CallD.mk' {fn : Value} (hL : 0 < L) (run : ∀ (pins : List (Addr × Obj)) (s : Shared) (σ : L2.St) (H : Hp) (xs : List V) (us : List Value) (Q : VK) (ds : List D) (g : List Addr), Inv X pins σ H s → Vals xs us → Reps X.K H L ds xs g →
    (op ds fun d => ∀ z H' g, Rep X.K H' 0 d z g → Ext H H' g → Q z H') → wpAny (model X.prog X.w) X.A (call fn us) (EP X pins σ Q) X.xe s) (mono : MonoN op) : CallD X fn L op :=
  ⟨fun pins s σ H xs us Q I rs ⟨ds, g, r, q⟩ => run pins s σ H xs us Q ds g I rs r q, mono, hL⟩
end

def op1 (h : D → (D → Prop) → Prop) : OPn := fun ds k => match ds with
  | [d] => h d k
  | _ => False
def op2 (h : D → D → (D → Prop) → Prop) : OPn := fun ds k => match ds with
  | [d, e] => h d e k
  | _ => False
theorem mono_1 {h : D → (D → Prop) → Prop} (m : ∀ d k k', (∀ x, k x → k' x) → h d k → h d k') : MonoN (op1 h) := fun ds k k' w q => by
  unfold op1 at q ⊢
  split at q
  · exact m _ _ _ w q
  · exact q.elim
theorem mono_2 {h : D → D → (D → Prop) → Prop} (m : ∀ d e k k', (∀ x, k x → k' x) → h d e k → h d e k') : MonoN (op2 h) := fun ds k k' w q => by
  unfold op2 at q ⊢
  split at q
  · exact m _ _ _ _ w q
  · exact q.elim
theorem call1 {X : Cx} {fn : Value} {L : Nat} {h : D → (D → Prop) → Prop} (hL : 0 < L) (run : ∀ (pins : List (Addr × Obj)) (s : Shared) (σ : L2.St) (H : Hp) (x : V) (us : List Value) (Q : VK) (d : D) (g : List Addr), Inv X pins σ H s → Vals [x] us → Rep X.K H L d x g →
    (h d fun d => ∀ z H' g, Rep X.K H' 0 d z g → Ext H H' g → Q z H') → wpAny (model X.prog X.w) X.A (call fn us) (EP X pins σ Q) X.xe s) (m : ∀ d k k', (∀ x, k x → k' x) → h d k → h d k') : CallD X fn L (op1 h) :=
  .mk' hL (fun pins s σ H xs us Q ds g I rs r q => by
    unfold op1 at q
    split at q
    · cases r with
      | cons r1 t _ => cases t; exact run pins s σ H _ us Q _ _ I rs r1 q
    · exact q.elim) (mono_1 m)
theorem call2 {X : Cx} {fn : Value} {L : Nat} {h : D → D → (D → Prop) → Prop} (hL : 0 < L) (run : ∀ (pins : List (Addr × Obj)) (s : Shared) (σ : L2.St) (H : Hp) (x y : V) (us : List Value) (Q : VK) (d e : D) (g g2 : List Addr), Inv X pins σ H s → Vals [x, y] us → Rep X.K H L d x g → Rep X.K H L e y g2 →
    (h d e fun d => ∀ z H' g, Rep X.K H' 0 d z g → Ext H H' g → Q z H') → wpAny (model X.prog X.w) X.A (call fn us) (EP X pins σ Q) X.xe s) (m : ∀ d e k k', (∀ x, k x → k' x) → h d e k → h d e k') : CallD X fn L (op2 h) :=
  .mk' hL (fun pins s σ H xs us Q ds g I rs r q => by
    unfold op2 at q
    split at q
    · cases r with
      | cons r1 t _ => cases t with
        | cons r2 t _ => cases t; exact run pins s σ H _ _ us Q _ _ _ _ I rs r1 r2 q
    · exact q.elim) (mono_2 m)

def bLen (d : D) (k : D → Prop) : Prop := match d with
  | .lst xs => k (.int xs.length)
  | .tup xs => k (.int xs.length)
  | .str s => s.length ≤ sizeLine ∧ k (.int s.length)
  | .dK kvs => k (.int kvs.length)
  | .dT kvs => k (.int kvs.length)
  | _ => False
def bAbs (d : D) (k : D → Prop) : Prop := match d with
  | .int i => k (.int (if i < 0 then -i else i))
  | _ => False
def bInt (d : D) (k : D → Prop) : Prop := match d with
  | .int i => k (.int i)
  | .bl b => k (.int (if b then 1 else 0))
  | _ => False
def bMin2 (a b : D) (k : D → Prop) : Prop := match a, b with
  | .int i, .int j => k (.int (if j < i then j else i))
  | _, _ => False
def bMax2 (a b : D) (k : D → Prop) : Prop := match a, b with
  | .int i, .int j => k (.int (if j > i then j else i))
  | _, _ => False
def bTuple (d : D) (k : D → Prop) : Prop := match d with
  | .lst xs => immL xs = true ∧ k (.tup xs)
  | .tup xs => immL xs = true ∧ k (.tup xs)
  | _ => False
def bList (d : D) (k : D → Prop) : Prop := match d with
  | .lst xs => immL xs = true ∧ k (.lst xs)
  | .tup xs => immL xs = true ∧ k (.lst xs)
  | _ => False
def bools : List D → Option (List Bool)
  | [] => some []
  | .bl b :: ds => (bools ds).map (b :: ·)
  | _ :: _ => none
def bAll (d : D) (k : D → Prop) : Prop := match d with
  | .lst xs => match bools xs with
    | some bs => k (.bl (bs.all id))
    | none => False
  | _ => False
def bAny (d : D) (k : D → Prop) : Prop := match d with
  | .lst xs => match bools xs with
    | some bs => k (.bl (bs.any id))
    | none => False
  | _ => False
def bSum (d : D) (k : D → Prop) : Prop := match d with
  | .lst xs => match intL xs with
    | some ns => k (.int ns.sum)
    | none => False
  | _ => False
theorem Reps.bools {K : PySem.W.Frag} {H : Hp} {lv : Nat} : ∀ {ds : List D} {vs : List V} {f : List Addr} {ns : List Bool}, Reps K H lv ds vs f → BX.bools ds = some ns → vs = ns.map V.bl
  | _, _, _, _, .nil, e => by
    rw [BX.bools] at e; cases e; rfl
  | _, _, _, ns, .cons (d := d) (ds := ds) r t _, e => by
    cases r with
    | bl i =>
      rw [BX.bools] at e
      obtain ⟨ms, h1, h2⟩ := Option.map_eq_some_iff.mp e
      subst h2
      rw [Reps.bools t h1]
      rfl
    | _ => rw [BX.bools] at e <;> first | (cases e) | (intro i z; cases z)
section
variable {X : Cx} (hx : Ok X)
theorem cd_abs : CallD X (.builtin "abs") 2 (op1 bAbs) := call1 (by decide) (fun pins s σ H x us Q d g I rs r q => by
  unfold bAbs at q
  split at q
  · obtain ⟨rfl, _⟩ := r.intV
    exact call_abs pins s σ H _ us Q I rs ⟨_, rfl, q _ _ [] (.int _) .refl⟩
  · exact q.elim) (fun d k k' h q => by
  unfold bAbs at q ⊢
  split at q
  · exact h _ q
  · exact q.elim)
theorem cd_int : CallD X (.type "int") 2 (op1 bInt) := call1 (by decide) (fun pins s σ H x us Q d g I rs r q => by
  unfold bInt at q
  split at q
  · obtain ⟨rfl, _⟩ := r.intV
    exact call_int1 pins s σ H _ us Q I rs (.inl ⟨_, rfl, q _ _ [] (.int _) .refl⟩)
  · obtain ⟨rfl, _⟩ := r.blV
    exact call_int1 pins s σ H _ us Q I rs (.inr ⟨_, rfl, q _ _ [] (.int _) .refl⟩)
  · exact q.elim) (fun d k k' h q => by
  unfold bInt at q ⊢
  split at q
  · exact h _ q
  · exact h _ q
  · exact q.elim)
include hx in
theorem cd_min2 : CallD X (.builtin "min") 2 (op2 bMin2) := call2 (by decide) (fun pins s σ H x y us Q d e g g2 I rs r r2 q => by
  unfold bMin2 at q
  split at q
  · obtain ⟨rfl, _⟩ := r.intV
    obtain ⟨rfl, _⟩ := r2.intV
    exact call_min2 hx.calm pins s σ H _ us Q I rs ⟨_, _, rfl, q _ _ [] (.int _) .refl⟩
  · exact q.elim) (fun d e k k' h q => by
  unfold bMin2 at q ⊢
  split at q
  · exact h _ q
  · exact q.elim)
include hx in
theorem cd_max2 : CallD X (.builtin "max") 2 (op2 bMax2) := call2 (by decide) (fun pins s σ H x y us Q d e g g2 I rs r r2 q => by
  unfold bMax2 at q
  split at q
  · obtain ⟨rfl, _⟩ := r.intV
    obtain ⟨rfl, _⟩ := r2.intV
    exact call_max2 hx.calm pins s σ H _ us Q I rs ⟨_, _, rfl, q _ _ [] (.int _) .refl⟩
  · exact q.elim) (fun d e k k' h q => by
  unfold bMax2 at q ⊢
  split at q
  · exact h _ q
  · exact q.elim)
theorem seq_of {K : PySem.W.Frag} {H : Hp} {lv : Nat} {xs : List D} {v : V} {g : List Addr} (r : Rep K H lv (.lst xs) v g ∨ Rep K H lv (.tup xs) v g) : ∃ a vs g', v = .ref a ∧ (SqL K H a vs ∨ SqT K H a vs) ∧ Reps K H lv xs vs g' := by
  rcases r with r | r
  · obtain ⟨a, vs, g', rfl, h, rr, _, _⟩ := r.listSq
    exact ⟨a, vs, g', rfl, .inl h, rr⟩
  · obtain ⟨a, vs, rfl, h, rr⟩ := r.tupleSq
    exact ⟨a, vs, _, rfl, .inr h, rr⟩
theorem cd_list : CallD X (.type "list") 1 (op1 bList) := call1 (by decide) (fun pins s σ H x us Q d g I rs r q => by
  have key : ∀ xs, (Rep X.K H 1 (.lst xs) x g ∨ Rep X.K H 1 (.tup xs) x g) → immL xs = true ∧ (∀ z H' g, Rep X.K H' 0 (.lst xs) z g → Ext H H' g → Q z H') → wpAny (model X.prog X.w) X.A (call (.type "list") us) (EP X pins σ Q) X.xe s := fun xs r q => by
    obtain ⟨a, vs, g', rfl, hs, rr⟩ := seq_of r
    obtain ⟨rfl, r0⟩ := rr.imm (Nat.le_refl _) q.1
    exact call_list_of pins s σ H _ us Q I rs ⟨_, _, rfl, hs, fun l hl => q.2 _ _ _ (upd_lst hl r0) (.upd hl)⟩
  unfold bList at q
  split at q
  · exact key _ (.inl r) q
  · exact key _ (.inr r) q
  · exact q.elim) (fun d k k' h q => by
  unfold bList at q ⊢
  split at q
  · exact ⟨q.1, h _ q.2⟩
  · exact ⟨q.1, h _ q.2⟩
  · exact q.elim)
theorem cd_tuple : CallD X (.type "tuple") 1 (op1 bTuple) := call1 (by decide) (fun pins s σ H x us Q d g I rs r q => by
  unfold bTuple at q
  split at q
  · obtain ⟨a, vs, g', rfl, hs, rr, _, _⟩ := r.listSq
    obtain ⟨rfl, r0⟩ := rr.imm (Nat.le_refl _) q.1
    exact call_tuple_of pins s σ H _ us Q I rs ⟨_, _, rfl, .inl ⟨hs, fun l hl => q.2 _ _ _ (upd_tup hl r0) (.updT hl)⟩⟩
  · obtain ⟨rfl, r0⟩ := r.imm (Nat.le_refl _) (by rw [D.imm]; exact q.1)
    obtain ⟨a, vs, rfl, hs, rr⟩ := r.tupleSq
    exact call_tuple_of pins s σ H _ us Q I rs ⟨_, _, rfl, .inr ⟨hs, q.2 _ _ _ r0 .refl⟩⟩
  · exact q.elim) (fun d k k' h q => by
  unfold bTuple at q ⊢
  split at q
  · exact ⟨q.1, h _ q.2⟩
  · exact ⟨q.1, h _ q.2⟩
  · exact q.elim)
include hx in
theorem cd_all : CallD X (.builtin "all") 2 (op1 bAll) := call1 (by decide) (fun pins s σ H x us Q d g I rs r q => by
  unfold bAll at q
  split at q
  · split at q
    · rename_i e
      obtain ⟨a, vs, g', rfl, hs, rr, _, _⟩ := r.listSq
      rw [rr.bools e] at hs
      exact cr_all hx.calm pins s σ H _ us Q I rs ⟨_, _, rfl, hs, q _ _ [] (.bl _) .refl⟩
    · exact q.elim
  · exact q.elim) (fun d k k' h q => by
  unfold bAll at q ⊢
  split at q
  · split at q
    · simp only [*] <;> exact h _ q
    · exact q.elim
  · exact q.elim)
include hx in
theorem cd_any : CallD X (.builtin "any") 2 (op1 bAny) := call1 (by decide) (fun pins s σ H x us Q d g I rs r q => by
  unfold bAny at q
  split at q
  · split at q
    · rename_i e
      obtain ⟨a, vs, g', rfl, hs, rr, _, _⟩ := r.listSq
      rw [rr.bools e] at hs
      exact cr_any hx.calm pins s σ H _ us Q I rs ⟨_, _, rfl, hs, q _ _ [] (.bl _) .refl⟩
    · exact q.elim
  · exact q.elim) (fun d k k' h q => by
  unfold bAny at q ⊢
  split at q
  · split at q
    · simp only [*] <;> exact h _ q
    · exact q.elim
  · exact q.elim)
include hx in
theorem cd_sum : CallD X (.builtin "sum") 2 (op1 bSum) := call1 (by decide) (fun pins s σ H x us Q d g I rs r q => by
  unfold bSum at q
  split at q
  · split at q
    · rename_i e
      obtain ⟨a, vs, g', rfl, hs, rr, _, _⟩ := r.listSq
      rw [rr.intL e] at hs
      exact cr_sum hx.calm pins s σ H _ us Q I rs ⟨_, _, rfl, hs, q _ _ [] (.int _) .refl⟩
    · exact q.elim
  · exact q.elim) (fun d k k' h q => by
  unfold bSum at q ⊢
  split at q
  · split at q
    · simp only [*] <;> exact h _ q
    · exact q.elim
  · exact q.elim)
end
end BX

namespace BX
open PySem PySem.Spec PyProof.Rows L2

section
variable {K : PySem.W.Frag} {σ : L2.St} {H H1 H2 H' : Hp} {env e1 e2 : En} {f f1 f2 : FA} {G G' g g' gs fp' : List Addr} {i : Nat} {d d' : D} {m : Md} {v x : V}
theorem bm_lift {ta : XE} {u : XA} {C : R → List R → En → Prop} {B : R → En → Prop} (ma : MonoE ta) (mu : MonoA u) (A : Abs K σ H env f) (q : ta env fun r1 e1 => B r1 e1 ∧ u e1 fun rs e2 => C r1 rs e2) :
    liftE K ta σ H fun x H1 => (∃ r1 e1 f1 g1, Abs K σ H1 e1 f1 ∧ ResOk K σ H1 e1 f1 r1 x g1 ∧ B r1 e1) ∧ liftA K u σ H1 fun vs H2 => ∃ r1 rs e2 f2 g1 gs, Abs K σ H2 e2 f2 ∧ ResOk K σ H2 e2 f2 r1 x g1 ∧ ResOks K σ H2 e2 f2 rs vs gs ∧ (∀ b ∈ g1, b ∉ gs) ∧
      Stp H env f [] H2 e2 f2 (g1 ++ gs) ∧ Kp env f e2 f2 ∧ C r1 rs e2 := by
  refine ⟨env, f, A, ma _ _ _ (fun r1 e1 q1 => ?_) q⟩
  intro x H1 f1 g1 A1 R1 S1 K1
  refine ⟨⟨r1, e1, f1, g1, A1, R1, q1.1⟩, e1, f1, A1, mu _ _ _ (fun rs e2 q2 => ?_) q1.2⟩
  intro vs H2 f2 gs A2 R2 S2 K2
  obtain ⟨R1', n⟩ := R1.wait A1 S2 K2
  exact ⟨r1, rs, e2, f2, g1, gs, A2, R1', R2, n, S1.trans (S2.frame g1), K1.trans K2, q2⟩
/-- a list in a slot is another one now -/
theorem lst_chg {ys : List D} {ws vs : List V} {a : Addr} {fp : List Addr} (A : Abs K σ H env f) (e : env[i]? = some (some (d, m))) (hm : m.rd = false) (hl : m.lv = 0) (hv : σ[i]? = some (some (.ref a)))
    (ha : H a = some (.lst vs)) (hf : f i = a :: fp) (nfp : a ∉ fp) (r : Reps K H 0 ys ws fp') (sub : ∀ b ∈ fp', b ∈ fp ∨ b ∈ G) (hG : ∀ b ∈ G, ¬ L0 env f b ∧ ¬ Ro env f b) (hG' : ∀ b ∈ G', (b ∈ fp ∨ b ∈ G) ∧ b ∉ fp') :
    Abs K σ (upd H a (.lst ws)) (env.set i (some (.lst ys, m))) (fset f i (a :: fp')) ∧ Stp H env f G (upd H a (.lst ws)) (env.set i (some (.lst ys, m))) (fset f i (a :: fp')) G' ∧ Kp env f (env.set i (some (.lst ys, m))) (fset f i (a :: fp')) ∧
      (∀ b ∈ G', ¬ L0 (env.set i (some (.lst ys, m))) (fset f i (a :: fp')) b ∧ ¬ Ro (env.set i (some (.lst ys, m))) (fset f i (a :: fp')) b) := by
  have aG : a ∉ G := fun z => (hG a z).1 ⟨i, d, m, e, hl, by rw [hf]; exact List.mem_cons_self ..⟩
  have afp' : a ∉ fp' := fun z => (sub a z).elim nfp aG
  refine A.mut e hm hv (fun b o hb n => ?_) ?_ (fun b hb => ?_) hG fun b hb => ⟨?_, fun z => ?_⟩
  · have : b ≠ a := fun z => n (by rw [hf, z]; exact List.mem_cons_self ..)
    rw [upd_ne this]; exact hb
  · rw [hl]
    refine .lst upd_same (r.keep fun b o hb q => ?_) fun _ => afp'
    have : b ≠ a := fun z => by
      subst z
      rcases q with q | q
      · exact afp' q
      · rw [ha] at hb; cases hb; cases q
    rw [upd_ne this]; exact hb
  · rcases List.mem_cons.mp hb with rfl | hb
    · exact .inl (by rw [hf]; exact List.mem_cons_self ..)
    · rcases sub b hb with z | z
      · exact .inl (by rw [hf]; exact List.mem_cons_of_mem _ z)
      · exact .inr (.inl z)
  · rcases (hG' b hb).1 with z | z
    · exact .inl (by rw [hf]; exact List.mem_cons_of_mem _ z)
    · exact .inr (.inl z)
  · rcases List.mem_cons.mp z with rfl | z
    · exact (hG' b hb).1.elim nfp aG
    · exact (hG' b hb).2 z
theorem dT_chg {kvs : List (List Key × D)} {hs : List (List Key × V)} {ho : HO} {a : Addr} {fp : List Addr} (A : Abs K σ H env f) (e : env[i]? = some (some (d, m))) (hm : m.rd = false) (hl : m.lv = 0) (hv : σ[i]? = some (some (.ref a)))
    (ha : H a = some ho) (mo : Mu ho = true) (hf : f i = a :: fp) (nfp : a ∉ fp) (ek : hs.map (·.1) = kvs.map (·.1)) (nd : (kvs.map (·.1)).Nodup) (r : Reps K H 0 (kvs.map (·.2)) (hs.map (·.2)) fp') (sub : ∀ b ∈ fp', b ∈ fp ∨ b ∈ G) (hG : ∀ b ∈ G, ¬ L0 env f b ∧ ¬ Ro env f b)
    (hG' : ∀ b ∈ G', (b ∈ fp ∨ b ∈ G) ∧ b ∉ fp') :
    Abs K σ (upd H a (.dT hs)) (env.set i (some (.dT kvs, m))) (fset f i (a :: fp')) ∧ Stp H env f G (upd H a (.dT hs)) (env.set i (some (.dT kvs, m))) (fset f i (a :: fp')) G' ∧ Kp env f (env.set i (some (.dT kvs, m))) (fset f i (a :: fp')) ∧
      (∀ b ∈ G', ¬ L0 (env.set i (some (.dT kvs, m))) (fset f i (a :: fp')) b ∧ ¬ Ro (env.set i (some (.dT kvs, m))) (fset f i (a :: fp')) b) := by
  have aG : a ∉ G := fun z => (hG a z).1 ⟨i, d, m, e, hl, by rw [hf]; exact List.mem_cons_self ..⟩
  have afp' : a ∉ fp' := fun z => (sub a z).elim nfp aG
  refine A.mut e hm hv (fun b o hb n => ?_) ?_ (fun b hb => ?_) hG fun b hb => ⟨?_, fun z => ?_⟩
  · have : b ≠ a := fun z => n (by rw [hf, z]; exact List.mem_cons_self ..)
    rw [upd_ne this]; exact hb
  · rw [hl]
    refine .dT upd_same ek nd (r.keep fun b o hb q => ?_) fun _ => afp'
    have : b ≠ a := fun z => by
      subst z
      rcases q with q | q
      · exact afp' q
      · rw [ha] at hb; cases hb; rw [mo] at q; cases q
    rw [upd_ne this]; exact hb
  · rcases List.mem_cons.mp hb with rfl | hb
    · exact .inl (by rw [hf]; exact List.mem_cons_self ..)
    · rcases sub b hb with z | z
      · exact .inl (by rw [hf]; exact List.mem_cons_of_mem _ z)
      · exact .inr (.inl z)
  · rcases (hG' b hb).1 with z | z
    · exact .inl (by rw [hf]; exact List.mem_cons_of_mem _ z)
    · exact .inr (.inl z)
  · rcases List.mem_cons.mp z with rfl | z
    · exact (hG' b hb).1.elim nfp aG
    · exact (hG' b hb).2 z
theorem dK_chg {kvs : List (Key × D)} {hs : List (Key × V)} {ho : HO} {a : Addr} {fp : List Addr} (A : Abs K σ H env f) (e : env[i]? = some (some (d, m))) (hm : m.rd = false) (hl : m.lv = 0) (hv : σ[i]? = some (some (.ref a)))
    (ha : H a = some ho) (mo : Mu ho = true) (hf : f i = a :: fp) (nfp : a ∉ fp) (ek : hs.map (·.1) = kvs.map (·.1)) (nd : (kvs.map (·.1)).Nodup) (r : Reps K H 0 (kvs.map (·.2)) (hs.map (·.2)) fp') (sub : ∀ b ∈ fp', b ∈ fp ∨ b ∈ G) (hG : ∀ b ∈ G, ¬ L0 env f b ∧ ¬ Ro env f b)
    (hG' : ∀ b ∈ G', (b ∈ fp ∨ b ∈ G) ∧ b ∉ fp') :
    Abs K σ (upd H a (.dK hs)) (env.set i (some (.dK kvs, m))) (fset f i (a :: fp')) ∧ Stp H env f G (upd H a (.dK hs)) (env.set i (some (.dK kvs, m))) (fset f i (a :: fp')) G' ∧ Kp env f (env.set i (some (.dK kvs, m))) (fset f i (a :: fp')) ∧
      (∀ b ∈ G', ¬ L0 (env.set i (some (.dK kvs, m))) (fset f i (a :: fp')) b ∧ ¬ Ro (env.set i (some (.dK kvs, m))) (fset f i (a :: fp')) b) := by
  have aG : a ∉ G := fun z => (hG a z).1 ⟨i, d, m, e, hl, by rw [hf]; exact List.mem_cons_self ..⟩
  have afp' : a ∉ fp' := fun z => (sub a z).elim nfp aG
  refine A.mut e hm hv (fun b o hb n => ?_) ?_ (fun b hb => ?_) hG fun b hb => ⟨?_, fun z => ?_⟩
  · have : b ≠ a := fun z => n (by rw [hf, z]; exact List.mem_cons_self ..)
    rw [upd_ne this]; exact hb
  · rw [hl]
    refine .dK upd_same ek nd (r.keep fun b o hb q => ?_) fun _ => afp'
    have : b ≠ a := fun z => by
      subst z
      rcases q with q | q
      · exact afp' q
      · rw [ha] at hb; cases hb; rw [mo] at q; cases q
    rw [upd_ne this]; exact hb
  · rcases List.mem_cons.mp hb with rfl | hb
    · exact .inl (by rw [hf]; exact List.mem_cons_self ..)
    · rcases sub b hb with z | z
      · exact .inl (by rw [hf]; exact List.mem_cons_of_mem _ z)
      · exact .inr (.inl z)
  · rcases (hG' b hb).1 with z | z
    · exact .inl (by rw [hf]; exact List.mem_cons_of_mem _ z)
    · exact .inr (.inl z)
  · rcases List.mem_cons.mp z with rfl | z
    · exact (hG' b hb).1.elim nfp aG
    · exact (hG' b hb).2 z
end

def D.isLst : D → Bool
  | .lst _ => true
  | _ => false
def D.isDic : D → Bool
  | .dT _ => true
  | .dK _ => true
  | _ => false
theorem rd_tyL {X : Cx} {σ : L2.St} {H : Hp} {env : En} {f : FA} {r : R} {x : V} {g : List Addr} (A : Abs X.K σ H env f) (h : ResOk X.K σ H env f r x g) (q : rd 2 r env fun d => d.isLst = true) : tyV X.K "list" x H := by
  obtain ⟨d, g', rp, e⟩ := rd_ok A h q
  cases rp with
  | lst h1 r n => exact .inl ⟨rfl, _, .inl (.inl h1)⟩
  | lstF l h1 r => exact .inl ⟨rfl, _, h1.sq⟩
  | _ => cases e

def chgL (r : R) (env : En) (k : Nat → List D → Md → Prop) : Prop := chg r env fun i d m => match d with
  | .lst xs => k i xs m
  | _ => False
theorem chgL_mono {r : R} {env : En} {k k' : Nat → List D → Md → Prop} (h : ∀ i d m, k i d m → k' i d m) (q : chgL r env k) : chgL r env k' := chg_mono (fun i d m q => by
  split at q
  · exact h _ _ _ q
  · exact q.elim) q
theorem chgL_ok {K : PySem.W.Frag} {σ : L2.St} {H : Hp} {env : En} {f : FA} {r : R} {v : V} {g : List Addr} {k : Nat → List D → Md → Prop} (A : Abs K σ H env f) (h : ResOk K σ H env f r v g) (q : chgL r env k) :
    ∃ i xs m a vs fp, v = .ref a ∧ env[i]? = some (some (.lst xs, m)) ∧ m.rd = false ∧ m.lv = 0 ∧ σ[i]? = some (some (.ref a)) ∧ H a = some (.lst vs) ∧ Reps K H 0 xs vs fp ∧ f i = a :: fp ∧ a ∉ fp ∧ g = [] ∧ k i xs m := by
  obtain ⟨i, d, m, e, hm, hl, hv, rp, rfl, q⟩ := chg_ok A h q
  split at q
  · obtain ⟨a, vs, fp, rfl, ha, rr, hf, n⟩ := rp.listAt
    exact ⟨i, _, m, a, vs, fp, rfl, e, hm, hl, hv, ha, rr, hf, n, rfl, q⟩
  · exact q.elim
def chgT (r : R) (env : En) (k : Nat → List (List Key × D) → Md → Prop) : Prop := chg r env fun i d m => match d with
  | .dT xs => k i xs m
  | _ => False
theorem chgT_mono {r : R} {env : En} {k k' : Nat → List (List Key × D) → Md → Prop} (h : ∀ i d m, k i d m → k' i d m) (q : chgT r env k) : chgT r env k' := chg_mono (fun i d m q => by
  split at q
  · exact h _ _ _ q
  · exact q.elim) q
theorem chgT_ok {K : PySem.W.Frag} {σ : L2.St} {H : Hp} {env : En} {f : FA} {r : R} {v : V} {g : List Addr} {k : Nat → List (List Key × D) → Md → Prop} (A : Abs K σ H env f) (h : ResOk K σ H env f r v g) (q : chgT r env k) :
    ∃ i xs m a hs fp, v = .ref a ∧ env[i]? = some (some (.dT xs, m)) ∧ m.rd = false ∧ m.lv = 0 ∧ σ[i]? = some (some (.ref a)) ∧ H a = some (.dT hs) ∧ hs.map (·.1) = xs.map (·.1) ∧ (xs.map (·.1)).Nodup ∧ Reps K H 0 (xs.map (·.2)) (hs.map (·.2)) fp ∧ f i = a :: fp ∧ a ∉ fp ∧ g = [] ∧ k i xs m := by
  obtain ⟨i, d, m, e, hm, hl, hv, rp, rfl, q⟩ := chg_ok A h q
  split at q
  · obtain ⟨a, hs, fp, rfl, ha, ek, nd, rr, hf, n⟩ := rp.dTAt
    exact ⟨i, _, m, a, hs, fp, rfl, e, hm, hl, hv, ha, ek, nd, rr, hf, n rfl, rfl, q⟩
  · exact q.elim
def one (rs : List R) (k : R → Prop) : Prop := match rs with
  | [r] => k r
  | _ => False
abbrev B1 := R → R → En → (R → En → Prop) → Prop
def dM1 (isT : D → Bool) (B : B1) (ta te : XE) : XE := fun env Q => ta env fun r1 e1 => (rd 2 r1 e1 fun d => isT d = true) ∧ te e1 fun r2 e2 => B r1 r2 e2 Q
structure M1Ok (X : Cx) (T : String) (isT : D → Bool) (rr : V → List V → Hp → VK → Prop) (B : B1) : Prop where
  ty : ∀ (H : Hp) (d : D) (x : V) (g : List Addr), Rep X.K H 2 d x g → isT d = true → tyV X.K T x H
  run : ∀ (σ : L2.St) (H : Hp) (e : En) (f : FA) (r1 r2 : R) (x y : V) (g1 g2 : List Addr) (QQ : R → En → Prop) (Q : VK), Abs X.K σ H e f → ResOk X.K σ H e f r1 x g1 → ResOk X.K σ H e f r2 y g2 → (∀ b ∈ g1, b ∉ g2) → B r1 r2 e QQ →
    (∀ v H' e' f' r' g', Abs X.K σ H' e' f' → ResOk X.K σ H' e' f' r' v g' → Stp H e f (g1 ++ g2) H' e' f' g' → Kp e f e' f' → QQ r' e' → Q v H') → rr x [y] H Q
  mono : ∀ r1 r2 e Q Q', (∀ r e, Q r e → Q' r e) → B r1 r2 e Q → B r1 r2 e Q'
section
variable {X : Cx} {o e : Expr} {ta te : XE} {cpos apos : Pos} {T id : String} {name : Str} {isT : D → Bool} {rr : V → List V → Hp → VK → Prop} {B : B1}
theorem de_m1 (ok : M1Ok X T isT rr B) (pa : PlainAttrs T) (slot : Slot T name id) (hty : typeOf (.builtin id) = pure (.type "method_descriptor")) (hm : MtR X id rr) (ho : DE X o ta) (he : DE X e te) (hbase : attributeBase o name X.env (eval o X.env) = eval o X.env := by rfl)
    (hfew : ((backTo cpos (starEach [e] X.env)).all (fun x => !x.1) && (backToKw cpos (keywordEach [] X.env)).all (fun x => x.1.isSome)
      && decide (([e] : List Expr).length + ([] : List Keyword).length + (if ([] : List Keyword).isEmpty then 0 else 1) < 30)) = true := by rfl)
    (hline : (apos.endLine == cpos.line) = true := by rfl) (hs : starEach [e] X.env = (false, eval e X.env) :: starEach [] X.env := by rfl) (hplain : (backTo cpos (starEach [] X.env)).any (·.1) = false := by rfl) :
    DE X (.Call (.Attribute o name apos) [e] [] cpos) (dM1 isT B ta te) := by
  have ha := da_cons he da_nil hs
  refine ⟨PE.imp (pe_bm pa slot hty hm ho.run ha.run hbase hfew hline hs hplain) fun σ H Q q => ?_, fun env Q Q' h q => ?_⟩
  · obtain ⟨env, f, A, q⟩ := q
    have h := bm_lift (B := fun r1 e1 => rd 2 r1 e1 fun d => isT d = true) (C := fun r1 rs e2 => one rs fun r2 => B r1 r2 e2 (PostE X.K σ H env f Q)) ho.mono ha.mono A q
    obtain ⟨env1, f1, A1, q1⟩ := h
    refine ⟨env1, f1, A1, ho.mono _ _ _ (fun r1 e1 z => ?_) q1⟩
    intro x H1 f1 g1 a b c d
    obtain ⟨⟨r0, e0, f0, g0, A0, R0, B0⟩, env2, f2, A2, q2⟩ := z x H1 f1 g1 a b c d
    obtain ⟨d0, g00, rp0, B0⟩ := rd_ok A0 R0 B0
    refine ⟨ok.ty _ _ _ _ rp0 B0, env2, f2, A2, ha.mono _ _ _ (fun rs e2 z => ?_) q2⟩
    intro vs H2 f2 g2 a b c d
    obtain ⟨r1, rs, e2, f2, g1, gs, A2, R1, R2, n, S, Kk, q3⟩ := z vs H2 f2 g2 a b c d
    cases R2 with
    | nil => exact q3.elim
    | @cons r2 y g _ _ gs R2 Rt nd =>
      cases Rt with
      | cons _ _ _ => exact q3.elim
      | nil =>
        rw [List.append_nil] at S n
        exact ok.run σ H2 e2 f2 r1 r2 x y g1 g _ Q A2 R1 R2 n q3 fun v H' e' f' r' g' A' R' S' K' q => q v H' f' g' A' R' (S.trans S') (Kk.trans K')
  · exact ho.mono _ _ _ (fun r1 e1 q => ⟨q.1, he.mono _ _ _ (fun r2 e2 q => ok.mono _ _ _ _ _ h q) q.2⟩) q
end
theorem ty_lst {K : PySem.W.Frag} (H : Hp) (d : D) (x : V) (g : List Addr) (rp : Rep K H 2 d x g) (e : d.isLst = true) : tyV K "list" x H := by
  cases rp with
  | lst h1 r n => exact .inl ⟨rfl, _, .inl (.inl h1)⟩
  | lstF l h1 r => exact .inl ⟨rfl, _, h1.sq⟩
  | _ => cases e
theorem ty_dic {K : PySem.W.Frag} (H : Hp) (d : D) (x : V) (g : List Addr) (rp : Rep K H 1 d x g) (e : d.isDic = true) : tyV K "dict" x H := by
  cases rp with
  | dT h1 _ _ r n => exact .inr (.inr (.inl ⟨rfl, .inr ⟨_, h1⟩⟩))
  | dTF l _ _ _ _ => exact absurd l (by omega)
  | dK h1 _ _ r n => exact .inr (.inr (.inl ⟨rfl, .inl ⟨_, h1⟩⟩))
  | _ => cases e
def D.isStr : D → Bool
  | .str _ => true
  | _ => false
theorem ty_str {K : PySem.W.Frag} (H : Hp) (d : D) (x : V) (g : List Addr) (rp : Rep K H 2 d x g) (e : d.isStr = true) : tyV K "str" x H := by
  cases rp with
  | str s => exact rfl
  | _ => cases e
def bAppend : B1 := fun r1 r2 e Q => stor r2 e fun d => chgL r1 e fun i xs m => xs.length < sizeLine ∧ Q (.tmp .non) (e.set i (some (.lst (xs ++ [d]), m)))
/-- a list whose items may go elsewhere -/
def storE (r : R) (env : En) (k : List D → Prop) : Prop := match r with
  | .tmp (.lst ys) => k ys
  | r => rd 1 r env fun d => match d with
    | .lst ys => immL ys = true ∧ k ys
    | _ => False
def bExtend : B1 := fun r1 r2 e Q => storE r2 e fun ys => chgL r1 e fun i xs m => xs.length + ys.length ≤ sizeLine ∧ Q (.tmp .non) (e.set i (some (.lst (xs ++ ys), m)))
theorem storE_mono {r : R} {env : En} {k k' : List D → Prop} (h : ∀ d, k d → k' d) (q : storE r env k) : storE r env k' := by
  unfold storE at q ⊢
  split at q
  · exact h _ q
  · refine rd_mono (fun d q => ?_) q
    split at q
    · exact ⟨q.1, h _ q.2⟩
    · exact q.elim
theorem storE_ok {K : PySem.W.Frag} {σ : L2.St} {H : Hp} {env : En} {f : FA} {r : R} {v : V} {g : List Addr} {k : List D → Prop} (A : Abs K σ H env f) (h : ResOk K σ H env f r v g) (q : storE r env k) :
    ∃ ys b ws gy, v = .ref b ∧ H b = some (.lst ws) ∧ Reps K H 0 ys ws gy ∧ k ys ∧ (∀ b ∈ gy, b ∈ g ∧ ¬ L0 env f b ∧ ¬ Ro env f b) := by
  unfold storE at q
  split at q
  · cases h with
    | tmp rp n =>
      obtain ⟨b, ws, gy, rfl, hb, rr, rfl, _⟩ := rp.listAt
      exact ⟨_, b, ws, gy, rfl, hb, rr, q, fun b hb => ⟨List.mem_cons_of_mem _ hb, n b (List.mem_cons_of_mem _ hb)⟩⟩
  · obtain ⟨d, g', rp, q⟩ := rd_ok A h q
    split at q
    · obtain ⟨b, ws, gy, rfl, hb, rr, _⟩ := rp.listAt1 (Nat.le_refl _)
      obtain ⟨rfl, r0⟩ := rr.imm (Nat.le_refl _) q.1
      exact ⟨_, b, ws, [], rfl, hb, r0, q.2, fun b hb => by simp at hb⟩
    · exact q.elim
section
variable {X : Cx}
theorem m_append : M1Ok X "list" D.isLst rAppend bAppend where
  ty := ty_lst
  mono := fun r1 r2 e Q Q' h q => stor_mono (fun d q => chgL_mono (fun i xs m q => ⟨q.1, h _ _ q.2⟩) q) q
  run := fun σ H e f r1 r2 x y g1 g2 QQ Q A R1 R2 n q k => by
    obtain ⟨d, rd1, q, nn⟩ := stor_ok A R2 q
    obtain ⟨i, xs, m, a, ws, fp, rfl, e, hm, hl, hv, hH, rr, hf, nfp, rfl, hz, q⟩ := chgL_ok A R1 q
    have dj : ∀ b ∈ fp, b ∉ g2 := fun b hb z => (nn b z).1 ⟨i, _, m, e, hl, by rw [hf]; exact List.mem_cons_of_mem _ hb⟩
    obtain ⟨A3, S3, K3, _⟩ := lst_chg (G := [] ++ g2) (G' := []) A e hm hl hv hH hf nfp (rr.append (.one rd1) (fun _ b hb z => dj b hb z)) (fun b hb => (List.mem_append.mp hb).imp_right fun z => by simpa using z) (fun b hb => nn b (by simpa using hb)) no_mem_nil
    exact ⟨a, ws, y, rfl, rfl, hH, by rw [← rr.len]; exact hz, k _ _ _ _ _ [] A3 (.tmp .non no_mem_nil) S3 K3 q⟩
theorem m_extend : M1Ok X "list" D.isLst rExtend bExtend where
  ty := ty_lst
  mono := fun r1 r2 e Q Q' h q => storE_mono (fun d q => chgL_mono (fun i xs m q => ⟨q.1, h _ _ q.2⟩) q) q
  run := fun σ H e f r1 r2 x y g1 g2 QQ Q A R1 R2 n q k => by
    obtain ⟨ys, b, zs, gy, rfl, hb, rb, q, nn⟩ := storE_ok A R2 q
    obtain ⟨i, xs, m, a, ws, fp, rfl, e, hm, hl, hv, hH, rr, hf, nfp, rfl, hz, q⟩ := chgL_ok A R1 q
    have dj : ∀ b ∈ fp, b ∉ gy := fun b hb z => (nn b z).2.1 ⟨i, _, m, e, hl, by rw [hf]; exact List.mem_cons_of_mem _ hb⟩
    obtain ⟨A3, S3, K3, _⟩ := lst_chg (G := gy) (G' := []) A e hm hl hv hH hf nfp (rr.append rb (fun _ b hb z => dj b hb z)) (fun b hb => List.mem_append.mp hb) (fun b hb => (nn b hb).2) no_mem_nil
    exact ⟨a, b, ws, zs, rfl, rfl, hH, hb, by rw [← rr.len, ← rb.len]; exact hz, k _ _ _ _ _ [] A3 (.tmp .non no_mem_nil) (S3.more fun b hb => by simpa using (nn b hb).1) K3 q⟩
variable {o e : Expr} {ta te : XE} {cpos apos : Pos}
theorem de_append (ho : DE X o ta) (he : DE X e te) (hbase : attributeBase o "append" X.env (eval o X.env) = eval o X.env := by rfl)
    (hfew : ((backTo cpos (starEach [e] X.env)).all (fun x => !x.1) && (backToKw cpos (keywordEach [] X.env)).all (fun x => x.1.isSome)
      && decide (([e] : List Expr).length + ([] : List Keyword).length + (if ([] : List Keyword).isEmpty then 0 else 1) < 30)) = true := by rfl)
    (hline : (apos.endLine == cpos.line) = true := by rfl) (hs : starEach [e] X.env = (false, eval e X.env) :: starEach [] X.env := by rfl) (hplain : (backTo cpos (starEach [] X.env)).any (·.1) = false := by rfl) :
    DE X (.Call (.Attribute o "append" apos) [e] [] cpos) (dM1 D.isLst bAppend ta te) :=
  de_m1 m_append PySem.F.plainAttrs_list PySem.F.slot_list_append PySem.F.type_list_append mt_append ho he hbase hfew hline hs hplain
theorem de_extend (ho : DE X o ta) (he : DE X e te) (hbase : attributeBase o "extend" X.env (eval o X.env) = eval o X.env := by rfl)
    (hfew : ((backTo cpos (starEach [e] X.env)).all (fun x => !x.1) && (backToKw cpos (keywordEach [] X.env)).all (fun x => x.1.isSome)
      && decide (([e] : List Expr).length + ([] : List Keyword).length + (if ([] : List Keyword).isEmpty then 0 else 1) < 30)) = true := by rfl)
    (hline : (apos.endLine == cpos.line) = true := by rfl) (hs : starEach [e] X.env = (false, eval e X.env) :: starEach [] X.env := by rfl) (hplain : (backTo cpos (starEach [] X.env)).any (·.1) = false := by rfl) :
    DE X (.Call (.Attribute o "extend" apos) [e] [] cpos) (dM1 D.isLst bExtend ta te) :=
  de_m1 m_extend PySem.F.plainAttrs_list PySem.F.slot_list_extend PySem.F.type_list_extend mt_extend ho he hbase hfew hline hs hplain
end

structure FS where
  ms : List Md
  wp : List D → (D → List D → Prop) → Prop
def MonoF (S : FS) : Prop := ∀ ds Q Q', (∀ d es, Q d es → Q' d es) → S.wp ds Q → S.wp ds Q'
def penv (ms : List Md) (ds : List D) : En := List.zipWith (fun d m => some (d, m)) ds ms
/-- what a def promises, by data -/
def spOf (K : PySem.W.Frag) (S : FS) : Sp := fun vs H Q _ => vs.length = S.ms.length ∧ ∃ ds f, ds.length = S.ms.length ∧ Abs K (vs.map some) H (penv S.ms ds) f ∧
  S.wp ds fun d ds' => ∀ v H' f' g, ds'.length = S.ms.length → Abs K (vs.map some) H' (penv S.ms ds') f' → Rep K H' 0 d v g → (∀ b ∈ g, ¬ L0 (penv S.ms ds') f' b ∧ ¬ Ro (penv S.ms ds') f' b) →
    Stp H (penv S.ms ds) f [] H' (penv S.ms ds') f' g → Kp (penv S.ms ds) f (penv S.ms ds') f' → Q v H'
/-- arguments as the parameters want them -/
def okArg (m : Md) (r : R) (env : En) : Bool := match m with
  | .own => false
  | .lk => false
  | .io => match r with
    | .tmp _ => true
    | .sl i => match env[i]? with
      | some (some (_, .own)) => true
      | some (some (_, .io)) => true
      | _ => false
    | .ro _ _ => false
  | .ro => match r with
    | .tmp _ => true
    | .sl _ => true
    | .ro c _ => !c
  | .cst => true
def okArgs : List Md → List R → En → Bool
  | [], [], _ => true
  | m :: ms, r :: rs, env => okArg m r env && okArgs ms rs env
  | _, _, _ => false
def isSl (i : Nat) : R → Bool
  | .sl j => j == i
  | _ => false
/-- a slot that is handed in to be changed is handed in once -/
def apart (ms : List Md) (rs : List R) : Bool := (List.range rs.length).all fun p => (List.range rs.length).all fun q => p == q || match ms[p]?, rs[p]?, rs[q]? with
  | some m, some (.sl i), some (.sl j) => m.rd || i != j
  | _, _, _ => true
/-- the place of the argument that is slot i, to be changed -/
def slotPos : List Md → List R → Nat → Option Nat
  | m :: ms, r :: rs, i => match !m.rd && isSl i r with
    | true => some 0
    | false => (slotPos ms rs i).map (· + 1)
  | _, _, _ => none
def back1 (ms : List Md) (rs : List R) (ds : List D) (i : Nat) (x : Option (D × Md)) : Option (D × Md) := match slotPos ms rs i with
  | some p => match ds[p]?, x with
    | some d, some (_, m) => some (d, m)
    | _, x => x
  | none => x
def putB (ms : List Md) (rs : List R) (ds : List D) : Nat → En → En
  | _, [] => []
  | i, x :: xs => back1 ms rs ds i x :: putB ms rs ds (i + 1) xs
def dFn (S : FS) (u : XA) : XE := fun env Q => u env fun rs e => okArgs S.ms rs e = true ∧ apart S.ms rs = true ∧ rdAll 2 rs e fun ds => S.wp ds fun d ds' => Q (.tmp d) (putB S.ms rs ds' 0 e)

theorem putB_get {ms : List Md} {rs : List R} {ds : List D} : ∀ (k : Nat) (env : En) (i : Nat), (putB ms rs ds k env)[i]? = (env[i]?).map (back1 ms rs ds (k + i))
  | k, [], i => by rw [putB]; rfl
  | k, x :: xs, 0 => by rw [putB]; rfl
  | k, x :: xs, i + 1 => by
    rw [putB, List.getElem?_cons_succ, List.getElem?_cons_succ, putB_get (k + 1) xs i]
    rw [show k + 1 + i = k + (i + 1) by omega]
theorem putB_len {ms : List Md} {rs : List R} {ds : List D} : ∀ (k : Nat) (env : En), (putB ms rs ds k env).length = env.length
  | k, [] => by rw [putB]
  | k, x :: xs => by rw [putB, List.length_cons, List.length_cons, putB_len (k + 1) xs]
theorem slotPos_some : ∀ {ms : List Md} {rs : List R} {i p : Nat}, slotPos ms rs i = some p → ∃ m, ms[p]? = some m ∧ m.rd = false ∧ rs[p]? = some (.sl i)
  | [], _, _, _, h => by rw [slotPos] at h <;> first | (cases h) | (intros; contradiction)
  | _ :: _, [], _, _, h => by rw [slotPos] at h <;> first | (cases h) | (intros; contradiction)
  | m :: ms, r :: rs, i, p, h => by
    rw [slotPos] at h
    split at h
    · rename_i e
      cases h
      rw [Bool.and_eq_true] at e
      refine ⟨m, rfl, by cases hm : m.rd <;> simp [hm] at e ⊢, ?_⟩
      cases r with
      | sl j => have := eq_of_beq (show (j == i) = true from e.2); subst this; rfl
      | _ => cases e.2
    · cases h' : slotPos ms rs i with
      | none => rw [h'] at h; cases h
      | some q =>
        rw [h'] at h; cases h
        obtain ⟨m', a, b, c⟩ := slotPos_some h'
        exact ⟨m', by simpa using a, b, by simpa using c⟩
theorem slotPos_none : ∀ {ms : List Md} {rs : List R} {i p : Nat} {m : Md}, slotPos ms rs i = none → ms[p]? = some m → m.rd = false → rs[p]? = some (.sl i) → False
  | [], _, _, _, _, _, h, _, _ => by simp at h
  | _ :: _, [], _, _, _, _, _, _, h => by simp at h
  | m :: ms, r :: rs, i, 0, m', h, h1, h2, h3 => by
    cases h1; cases h3
    rw [slotPos] at h
    simp [h2, isSl] at h
  | m :: ms, r :: rs, i, p + 1, m', h, h1, h2, h3 => by
    rw [slotPos] at h
    split at h
    · cases h
    · exact slotPos_none (p := p) (by cases h' : slotPos ms rs i with
        | none => rfl
        | some q => rw [h'] at h; cases h) (by simpa using h1) h2 (by simpa using h3)
theorem apart_get {ms : List Md} {rs : List R} (h : apart ms rs = true) {p q i : Nat} {m : Md} (hpq : p ≠ q) (h1 : ms[p]? = some m) (h2 : m.rd = false) (h3 : rs[p]? = some (.sl i)) (h4 : rs[q]? = some (.sl i)) : False := by
  unfold apart at h
  rw [List.all_eq_true] at h
  have a := h p (List.mem_range.mpr (List.getElem?_eq_some_iff.mp h3).1)
  rw [List.all_eq_true] at a
  have b := a q (List.mem_range.mpr (List.getElem?_eq_some_iff.mp h4).1)
  simp [h1, h2, h3, h4, hpq] at b
theorem penv_get {ms : List Md} {ds : List D} {p : Nat} {d : D} {m : Md} : (penv ms ds)[p]? = some (some (d, m)) ↔ ds[p]? = some d ∧ ms[p]? = some m := by
  unfold penv
  rw [List.getElem?_zipWith]
  cases h1 : ds[p]? <;> cases h2 : ms[p]? <;> simp
theorem penv_len {ms : List Md} {ds : List D} (h : ds.length = ms.length) : (penv ms ds).length = ms.length := by
  unfold penv
  rw [List.length_zipWith, h, Nat.min_self]
section
variable {K : PySem.W.Frag} {σ : L2.St} {H : Hp} {env : En} {f : FA}
theorem ResOks.get : ∀ {rs : List R} {vs : List V} {gs : List Addr}, ResOks K σ H env f rs vs gs → ∃ ga : Nat → List Addr, (∀ (p : Nat) (r : R), rs[p]? = some r → ∃ v, vs[p]? = some v ∧ ResOk K σ H env f r v (ga p) ∧ ∀ b ∈ ga p, b ∈ gs) ∧
    ∀ p q, p < rs.length → q < rs.length → p ≠ q → ∀ b ∈ ga p, b ∉ ga q
  | _, _, _, .nil => ⟨fun _ => [], fun p r h => by simp at h, fun p q h => by simp at h⟩
  | _, _, _, .cons (r := r) (v := v) (g := g) (rs := rs) (vs := vs) (gs := gs) h t n => by
    obtain ⟨ga, h1, h2⟩ := ResOks.get t
    refine ⟨fun p => match p with
      | 0 => g
      | p + 1 => ga p, fun p r' e => ?_, fun p q hp hq hpq b hb hb' => ?_⟩
    · cases p with
      | zero => cases e; exact ⟨v, rfl, h, fun b hb => List.mem_append_left _ hb⟩
      | succ p =>
        obtain ⟨v', e1, e2, e3⟩ := h1 p r' (by simpa using e)
        exact ⟨v', by simpa using e1, e2, fun b hb => List.mem_append_right _ (e3 b hb)⟩
    · have inn : ∀ p, p < rs.length → ∀ b ∈ ga p, b ∈ gs := fun p hp b hb => by
        obtain ⟨v', _, _, e3⟩ := h1 p _ (List.getElem?_eq_getElem hp)
        exact e3 b hb
      cases p with
      | zero => cases q with
        | zero => exact hpq rfl
        | succ q => exact n b hb (inn q (by simpa using hq) b hb')
      | succ p => cases q with
        | zero => exact n b hb' (inn p (by simpa using hp) b hb)
        | succ q => exact h2 p q (by simpa using hp) (by simpa using hq) (by omega) b hb hb'
theorem rdAll_data {L : Nat} : ∀ {rs : List R} {k : List D → Prop}, rdAll L rs env k → ∃ ds : List D, rs.map (R.data L env) = ds.map some ∧ k ds
  | [], _, q => ⟨[], rfl, q⟩
  | r :: rs, k, q => by
    have q' : rd L r env fun d => rdAll L rs env fun ds => k (d :: ds) := q
    unfold rd at q'
    cases e : r.data L env with
    | none => rw [e] at q'; exact q'.elim
    | some d =>
      rw [e] at q'
      obtain ⟨ds, h1, h2⟩ := rdAll_data q'
      exact ⟨d :: ds, by rw [List.map_cons, List.map_cons, e, h1], h2⟩
theorem okArgs_get : ∀ {ms : List Md} {rs : List R}, okArgs ms rs env = true → ms.length = rs.length ∧ ∀ (p : Nat) (m : Md) (r : R), ms[p]? = some m → rs[p]? = some r → okArg m r env = true
  | [], [], _ => ⟨rfl, fun p m r h => by simp at h⟩
  | [], _ :: _, h => by rw [okArgs] at h <;> first | (cases h) | (intros; contradiction)
  | _ :: _, [], h => by rw [okArgs] at h <;> first | (cases h) | (intros; contradiction)
  | m :: ms, r :: rs, h => by
    rw [okArgs, Bool.and_eq_true] at h
    obtain ⟨e1, e2⟩ := okArgs_get h.2
    refine ⟨by rw [List.length_cons, List.length_cons, e1], fun p m' r' h1 h2 => ?_⟩
    cases p with
    | zero => cases h1; cases h2; exact h.1
    | succ p => exact e2 p m' r' (by simpa using h1) (by simpa using h2)
/-- the callee's view of its arguments, and what comes back -/
theorem fn_args {rs : List R} {vs : List V} {gs : List Addr} {S : FS} (A : Abs K σ H env f) (Rs : ResOks K σ H env f rs vs gs) (ok : okArgs S.ms rs env = true) (ap : apart S.ms rs = true) {k : List D → Prop} (q : rdAll 2 rs env k) :
    ∃ ds fa, ds.length = S.ms.length ∧ vs.length = S.ms.length ∧ Abs K (vs.map some) H (penv S.ms ds) fa ∧ k ds ∧
      ∀ v d H' f' g ds', ds'.length = S.ms.length → Abs K (vs.map some) H' (penv S.ms ds') f' → Rep K H' 0 d v g → (∀ b ∈ g, ¬ L0 (penv S.ms ds') f' b ∧ ¬ Ro (penv S.ms ds') f' b) → Stp H (penv S.ms ds) fa [] H' (penv S.ms ds') f' g → Kp (penv S.ms ds) fa (penv S.ms ds') f' →
        ∃ f2, Abs K σ H' (putB S.ms rs ds' 0 env) f2 ∧ ResOk K σ H' (putB S.ms rs ds' 0 env) f2 (.tmp d) v g ∧ Stp H env f gs H' (putB S.ms rs ds' 0 env) f2 g ∧ Kp env f (putB S.ms rs ds' 0 env) f2 := by
  obtain ⟨ds, hds, q⟩ := rdAll_data q
  obtain ⟨hlen, hok⟩ := okArgs_get ok
  obtain ⟨ga, hga, hgd⟩ := Rs.get
  have ld : ds.length = rs.length := by have := congrArg List.length hds; simpa using this.symm
  have lv := Rs.len
  have dat : ∀ (p : Nat) (r : R), rs[p]? = some r → ∃ d, ds[p]? = some d ∧ r.data 2 env = some d := fun p r h => by
    have e := congrArg (fun l => l[p]?) hds
    simp only [List.getElem?_map, h, Option.map_some] at e
    cases e2 : ds[p]? with
    | none => rw [e2] at e; cases e
    | some d => rw [e2] at e; exact ⟨d, rfl, Option.some.inj e⟩
  have ex : ∀ p : Nat, ∃ fp : List Addr, ∀ (m : Md) (r : R), S.ms[p]? = some m → rs[p]? = some r → ∃ v d, vs[p]? = some v ∧ ds[p]? = some d ∧ Rep K H m.lv d v fp ∧
      ((∃ d', r = .tmp d' ∧ fp = ga p) ∨ (m.rd = true ∧ ∀ b ∈ fp, Ro env f b) ∨ ∃ i m', r = .sl i ∧ fp = f i ∧ env[i]? = some (some (d, m')) ∧ (m.rd = false → m'.rd = false) ∧ m'.lv = 0 ∧ σ[i]? = some (some v)) := fun p => by
    cases hm : S.ms[p]? with
    | none => exact ⟨[], fun m r h => by cases h⟩
    | some m =>
      cases hr : rs[p]? with
      | none => exact ⟨[], fun m r _ h => by cases h⟩
      | some r =>
        obtain ⟨v, hv, R1, _⟩ := hga p r hr
        obtain ⟨d, hd, dd⟩ := dat p r hr
        have o := hok p m r hm hr
        generalize hgp : ga p = gp at R1
        cases R1 with
        | @tmp d' _ _ rp n =>
          cases dd
          refine ⟨gp, fun m1 r1 e1 e2 => ?_⟩
          cases e1; cases e2
          exact ⟨v, _, hv, hd, rp.up (Nat.zero_le _), .inl ⟨_, rfl, rfl⟩⟩
        | @ro c d' _ g0 rp n =>
          refine ⟨g0, fun m1 r1 e1 e2 => ?_⟩
          cases e1; cases e2
          have dd' : d' = d := by
            unfold R.data at dd
            cases e : roOk c 2 with
            | false => simp only [e] at dd; cases dd
            | true => simp only [e] at dd; exact Option.some.inj dd
          subst dd'
          refine ⟨v, d', hv, hd, rp.up ?_, .inr (.inl ⟨?_, n⟩)⟩
          · cases m <;> cases c <;> first | exact Nat.le_refl _ | exact Nat.le_succ _ | (cases o)
          · cases m <;> first | rfl | (cases o)
        | @sl i _ d' m' h1 h2 l0 =>
          refine ⟨f i, fun m1 r1 e1 e2 => ?_⟩
          cases e1; cases e2
          obtain ⟨w, h4, rp⟩ := A.rep i d' m' h2
          rw [h1] at h4; cases h4
          have dd' : d' = d := by
            unfold R.data at dd
            simp only [h2] at dd
            cases e : m'.okL 2 with
            | false => simp only [e] at dd; cases dd
            | true => simp only [e] at dd; exact Option.some.inj dd
          subst dd'
          refine ⟨v, d', hv, hd, rp.up (by rw [l0]; exact Nat.zero_le _), .inr (.inr ⟨i, m', rfl, rfl, h2, fun hr0 => ?_, l0, h1⟩)⟩
          cases m with
          | own => cases o
          | lk => cases o
          | io =>
            simp only [okArg, h2] at o
            cases m' <;> first | rfl | (cases o; done)
          | ro => cases hr0
          | cst => cases hr0
  obtain ⟨fa, hfa⟩ := Classical.axiomOfChoice ex
  have lm : S.ms.length = rs.length := hlen
  have rsAt : ∀ {p : Nat} {m : Md}, S.ms[p]? = some m → ∃ r, rs[p]? = some r := fun {p m} h => ⟨_, List.getElem?_eq_getElem (by have := (List.getElem?_eq_some_iff.mp h).1; omega)⟩
  -- what the callee may change
  have cw : ∀ {p : Nat} {m : Md}, S.ms[p]? = some m → m.rd = false → (∃ d', rs[p]? = some (.tmp d') ∧ fa p = ga p) ∨ ∃ i d m', rs[p]? = some (.sl i) ∧ fa p = f i ∧ env[i]? = some (some (d, m')) ∧ m'.rd = false := fun {p m} hm hr => by
    obtain ⟨r, hr'⟩ := rsAt hm
    obtain ⟨v, d, h1, h2, h3, h4⟩ := hfa p m r hm hr'
    rcases h4 with ⟨d', rfl, e⟩ | ⟨e, _⟩ | ⟨i, m', rfl, e, e2, e3, _⟩
    · exact .inl ⟨d', hr', e⟩
    · rw [hr] at e; cases e
    · exact .inr ⟨i, d, m', hr', e, e2, e3 hr⟩
  have gaFree : ∀ {p : Nat} {d' : D}, rs[p]? = some (.tmp d') → ∀ b ∈ ga p, (¬ L0 env f b ∧ ¬ Ro env f b) ∧ b ∈ gs := fun {p d'} h b hb => by
    obtain ⟨v, _, R1, hs⟩ := hga p _ h
    cases R1 with
    | tmp rp n => exact ⟨n b hb, hs b hb⟩
  have A0 : Abs K (vs.map some) H (penv S.ms ds) fa := by
    refine ⟨fun p d m h => ?_, fun p q d m d' m' hpq h1 h2 hr b hb hb' => ?_, by rw [penv_len (by omega), List.length_map]; omega⟩
    · obtain ⟨hd, hm⟩ := penv_get.mp h
      obtain ⟨r, hr⟩ := rsAt hm
      obtain ⟨v, d', h1, h2, h3, _⟩ := hfa p m r hm hr
      rw [hd] at h2; cases h2
      exact ⟨v, by rw [List.getElem?_map, h1]; rfl, h3⟩
    · obtain ⟨hd1, hm1⟩ := penv_get.mp h1
      obtain ⟨hd2, hm2⟩ := penv_get.mp h2
      replace hr : m.rd = false := by
        obtain ⟨r0, hr0⟩ := rsAt hm1
        have o := hok p m r0 hm1 hr0
        cases m <;> first | rfl | (cases hr; done) | (cases o; done)
      obtain ⟨r2, hr2⟩ := rsAt hm2
      obtain ⟨v2, d2, _, _, _, h5⟩ := hfa q m' r2 hm2 hr2
      rcases cw hm1 hr with ⟨d0, e1, e2⟩ | ⟨i, d0, m0, e1, e2, e3, e4⟩
      · rw [e2] at hb
        obtain ⟨⟨nw, nr⟩, _⟩ := gaFree e1 b hb
        rcases h5 with ⟨d3, rfl, e5⟩ | ⟨_, e5⟩ | ⟨j, m3, rfl, e5, e6, e7, e8, _⟩
        · rw [e5] at hb'
          exact hgd p q (List.getElem?_eq_some_iff.mp e1).1 (List.getElem?_eq_some_iff.mp hr2).1 hpq b hb hb'
        · exact nr (e5 b hb')
        · rw [e5] at hb'
          exact nw ⟨j, _, _, e6, e8, hb'⟩
      · rw [e2] at hb
        rcases h5 with ⟨d3, rfl, e5⟩ | ⟨_, e5⟩ | ⟨j, m3, rfl, e5, e6, e7, e8, _⟩
        · rw [e5] at hb'
          exact (gaFree hr2 b hb').1.1 ⟨i, _, _, e3, Md.lv_of e4, hb⟩
        · exact A.apart ⟨i, _, _, e3, Md.lv_of e4, hb⟩ (e5 b hb')
        · rw [e5] at hb'
          by_cases hij : i = j
          · subst hij
            exact apart_get ap hpq hm1 hr e1 hr2
          · exact A.dis i j _ _ _ _ hij e3 e6 (Md.lv_of e4) b hb hb'
  refine ⟨ds, fa, by omega, by omega, A0, q, fun v d H' f' g ds' l' A1 rv ng S1 K1 => ?_⟩
  have cwW : ∀ b, W (penv S.ms ds) fa b → (W env f b ∨ b ∈ gs) ∧ ∀ i d1 m1, env[i]? = some (some (d1, m1)) → slotPos S.ms rs i = none → b ∉ f i := fun b ⟨p, d1, m1, h1, h2, h3⟩ => by
    obtain ⟨hd1, hm1⟩ := penv_get.mp h1
    rcases cw hm1 h2 with ⟨d0, e1, e2⟩ | ⟨i, d0, m0, e1, e2, e3, e4⟩
    · rw [e2] at h3
      obtain ⟨⟨nw, nr⟩, hs⟩ := gaFree e1 b h3
      refine ⟨.inr hs, fun j d2 m2 h4 _ z => ?_⟩
      by_cases hm2 : m2.lv = 0
      · exact nw ⟨j, d2, m2, h4, hm2, z⟩
      · exact nr ⟨j, d2, m2, h4, hm2, z⟩
    · rw [e2] at h3
      refine ⟨.inl ⟨i, d0, m0, e3, e4, h3⟩, fun j d2 m2 h4 h5 z => ?_⟩
      by_cases hij : i = j
      · subst hij
        exact slotPos_none h5 hm1 h2 e1
      · exact A.dis i j _ _ _ _ hij e3 h4 (Md.lv_of e4) b h3 z
  have far : ∀ b, (W (penv S.ms ds') f' b ∨ b ∈ g) → (W env f b ∨ b ∈ gs ∨ H b = none) ∧ ∀ i d1 m1, env[i]? = some (some (d1, m1)) → slotPos S.ms rs i = none → b ∉ f i := fun b h => by
    rcases S1.own b h with z | z | z
    · obtain ⟨z1, z2⟩ := cwW b z
      exact ⟨z1.imp_right .inl, z2⟩
    · simp at z
    · refine ⟨.inr (.inr z), fun i d1 m1 h1 _ hb => ?_⟩
      obtain ⟨w, _, rp⟩ := A.rep i d1 m1 h1
      obtain ⟨o, ho, _⟩ := rp.dom b hb
      rw [z] at ho; cases ho
  -- a slot behind the call
  have slot : ∀ {i : Nat} {d1 : D} {m1 : Md}, (putB S.ms rs ds' 0 env)[i]? = some (some (d1, m1)) →
      (slotPos S.ms rs i = none ∧ env[i]? = some (some (d1, m1))) ∨ ∃ p m d0 v, slotPos S.ms rs i = some p ∧ S.ms[p]? = some m ∧ m.rd = false ∧ ds'[p]? = some d1 ∧ env[i]? = some (some (d0, m1)) ∧ m1.rd = false ∧ m1.lv = 0 ∧ vs[p]? = some v ∧ σ[i]? = some (some v) := fun {i d1 m1} h => by
    rw [putB_get, Nat.zero_add] at h
    cases hp : slotPos S.ms rs i with
    | none =>
      left
      refine ⟨rfl, ?_⟩
      cases he : env[i]? with
      | none => rw [he] at h; cases h
      | some x =>
        rw [he] at h
        simp only [Option.map_some, back1, hp] at h
        exact h
    | some p =>
      right
      obtain ⟨m, hm, hr, hs⟩ := slotPos_some hp
      obtain ⟨v, d0, h1, h2, h3, h4⟩ := hfa p m _ hm hs
      rcases h4 with ⟨d', e, _⟩ | ⟨e, _⟩ | ⟨j, m', e, e1, e2, e3, e4, e5⟩
      · cases e
      · rw [hr] at e; cases e
      · cases e
        have hp' : p < ds'.length := by have := (List.getElem?_eq_some_iff.mp hm).1; omega
        rw [e2, Option.map_some] at h
        simp only [back1, hp, List.getElem?_eq_getElem hp'] at h
        cases h
        exact ⟨p, m, d0, v, rfl, hm, hr, List.getElem?_eq_getElem hp', e2, e3 hr, e4, h1, e5⟩
  have f2n : ∀ {i : Nat}, slotPos S.ms rs i = none → (match slotPos S.ms rs i with | some p => f' p | none => f i) = f i := fun {i} h => by rw [h]
  have f2s : ∀ {i p : Nat}, slotPos S.ms rs i = some p → (match slotPos S.ms rs i with | some p => f' p | none => f i) = f' p := fun {i p} h => by rw [h]
  refine ⟨fun i => match slotPos S.ms rs i with | some p => f' p | none => f i, ⟨fun i d1 m1 h => ?_, fun i j d1 m1 d2 m2 hij h1 h2 hr b hb hb' => ?_, by rw [putB_len]; exact A.len⟩, .tmp rv fun b hb => ⟨?_, ?_⟩, ⟨fun b o h qq => ?_, fun b qq => ?_⟩, ⟨?_, fun j d1 m1 h hr => ?_⟩⟩
  · rcases slot h with ⟨hn, he⟩ | ⟨p, m, d0, v, hp, hm, hr, hd, he, e3, e4, hv, hs⟩
    · obtain ⟨w, h1, rp⟩ := A.rep i d1 m1 he
      refine ⟨w, h1, ?_⟩
      simp only [f2n hn]
      refine rp.keep fun b o hb qq => S1.same b o hb ?_
      rcases qq with qq | qq
      · exact .inr ⟨fun z => (cwW b z).2 i d1 m1 he hn qq, by simp⟩
      · exact .inl qq
    · obtain ⟨w, h1, rp⟩ := A1.rep p d1 m (penv_get.mpr ⟨hd, hm⟩)
      rw [List.getElem?_map, hv] at h1
      cases h1
      refine ⟨v, hs, ?_⟩
      simp only [f2s hp]
      have : m.lv = 0 := by cases m <;> first | rfl | (cases hr)
      rw [e4, ← this]
      exact rp
  · rcases slot h1 with ⟨hn, he⟩ | ⟨p, m, d0, v, hp, hm, hr1, hd, he, e3, e4, hv, hs⟩
    · simp only [f2n hn] at hb
      rcases slot h2 with ⟨hn2, he2⟩ | ⟨p2, m', d02, v2, hp2, hm2, hr2, hd2, he2, e32, e42, hv2, hs2⟩
      · simp only [f2n hn2] at hb'
        exact A.dis i j _ _ _ _ hij he he2 hr b hb hb'
      · simp only [f2s hp2] at hb'
        exact (far b (.inl ⟨p2, d2, m', penv_get.mpr ⟨hd2, hm2⟩, hr2, hb'⟩)).2 i _ _ he hn hb
    · simp only [f2s hp] at hb
      rcases slot h2 with ⟨hn2, he2⟩ | ⟨p2, m', d02, v2, hp2, hm2, hr2, hd2, he2, e32, e42, hv2, hs2⟩
      · simp only [f2n hn2] at hb'
        exact (far b (.inl ⟨p, d1, m, penv_get.mpr ⟨hd, hm⟩, hr1, hb⟩)).2 j _ _ he2 hn2 hb'
      · simp only [f2s hp2] at hb'
        have hpp : p ≠ p2 := fun z => by
          subst z
          obtain ⟨_, _, _, z1⟩ := slotPos_some hp
          obtain ⟨_, _, _, z2⟩ := slotPos_some hp2
          rw [z1] at z2; cases z2
          exact hij rfl
        exact A1.dis p p2 _ _ _ _ hpp (penv_get.mpr ⟨hd, hm⟩) (penv_get.mpr ⟨hd2, hm2⟩) (Md.lv_of hr1) b hb hb'
  · rintro ⟨i, d1, m1, h, hr, z⟩
    rcases slot h with ⟨hn, he⟩ | ⟨p, m, d0, v, hp, hm, hr1, hd, he, e3, e4, hv, hs⟩
    · simp only [f2n hn] at z
      exact (far b (.inr hb)).2 i _ _ he hn z
    · simp only [f2s hp] at z
      exact (ng b hb).1 ⟨p, d1, m, penv_get.mpr ⟨hd, hm⟩, Md.lv_of hr1, z⟩
  · rintro ⟨i, d1, m1, h, hr, z⟩
    rcases slot h with ⟨hn, he⟩ | ⟨p, m, d0, v, hp, hm, hr1, hd, he, e3, e4, hv, hs⟩
    · simp only [f2n hn] at z
      exact (far b (.inr hb)).2 i _ _ he hn z
    · exact absurd e4 hr
  · refine S1.same b o h ?_
    rcases qq with qq | qq
    · exact .inl qq
    · exact .inr ⟨fun z => (cwW b z).1.elim qq.1 qq.2, by simp⟩
  · rcases qq with ⟨i, d1, m1, h, hr, hb⟩ | qq
    · rcases slot h with ⟨hn, he⟩ | ⟨p, m, d0, v, hp, hm, hr1, hd, he, e3, e4, hv, hs⟩
      · simp only [f2n hn] at hb
        exact .inl ⟨i, d1, m1, he, hr, hb⟩
      · simp only [f2s hp] at hb
        exact (far b (.inl ⟨p, d1, m, penv_get.mpr ⟨hd, hm⟩, hr1, hb⟩)).1
    · exact (far b (.inr qq)).1
  · apply List.ext_getElem?
    intro i
    rw [List.getElem?_map, List.getElem?_map, putB_get, Nat.zero_add, Option.map_map]
    cases he : env[i]? with
    | none => rfl
    | some x =>
      simp only [Option.map_some, Function.comp, Option.some.injEq]
      unfold back1
      cases hp : slotPos S.ms rs i with
      | none => rfl
      | some p =>
        cases hd : ds'[p]? <;> cases x <;> simp [hd]
  · have hn : slotPos S.ms rs j = none := by
      cases hp : slotPos S.ms rs j with
      | none => rfl
      | some p =>
        obtain ⟨m, hm, hr1, hs⟩ := slotPos_some hp
        rcases cw hm hr1 with ⟨d', e, _⟩ | ⟨i, d0, m0, e1, e2, e3, e4⟩
        · rw [hs] at e; cases e
        · rw [hs] at e1; cases e1
          rw [h] at e3; cases e3
          rw [hr] at e4; cases e4
    refine ⟨?_, f2n hn⟩
    rw [putB_get, Nat.zero_add, h]
    simp only [Option.map_some, back1, hn]
end
section
variable {X : Cx} {k : Nat} {fd : FuncData} {ps : List Str} {ds : List Value} {x : Str} {p pos : Pos} {e : Expr} {es : List Expr} {u : XA} {S : FS}
/-- a def that stands in the module and keeps its promise -/
structure Fn (P : Program) (w : World) (K : PySem.W.Frag) (mg : Str → Option Value) (base : Heap) (x : Str) (k : Nat) (ps : List Str) (S : FS) : Prop where
  ex : ∃ f fd, FnOk P w K mg base CX0 k f fd ps (spOf K S) ∧ mg x = some (.ref f) ∧ PySem.W.keepIn K (.ref f) = true ∧ Binds K fd ps []
  mono : MonoF S
theorem de_fn (F : Fn X.prog X.w X.K X.mg X.base x k ps S) (hr : Room k X.A) (hg : Gl X x) (ha : DA X (e :: es) u) (hdb : (x == ("__debug__" : Str)) = false := by decide)
    (he : starEach (e :: es) X.env = (false, eval e X.env) :: starEach es X.env := by rfl) (hpl : (backTo pos (starEach es X.env)).any (·.1) = false := by rfl) : DE X (.Call (.Name x p) (e :: es) [] pos) (dFn S u) := by
  obtain ⟨f, fd, hF, hm, hk, hb⟩ := F.ex
  refine ⟨PE.imp (pe_call hF hr hg hm hk hb .nil pass0 ha.run hdb he hpl) fun σ H Q q => ?_, fun env Q Q' h q => ha.mono _ _ _ (fun rs e q => ⟨q.1, q.2.1, rdAll_mono (fun ds q => F.mono _ _ _ (fun d es q => h _ _ q) q) q.2.2⟩) q⟩
  obtain ⟨env, f, A, q⟩ := q
  refine ⟨env, f, A, ha.mono _ _ _ (fun rs e q => ?_) q⟩
  intro vs H1 f1 gs A1 R1 S1 K1
  obtain ⟨o1, o2, q⟩ := q
  obtain ⟨ds, fa, l1, l2, Aa, q, back⟩ := fn_args A1 R1 o1 o2 q
  rw [List.append_nil]
  refine ⟨l2, ds, fa, l1, Aa, F.mono _ _ _ (fun d ds' q => ?_) q⟩
  intro v H' f' g l' A' rv ng S' K'
  obtain ⟨f2, A2, R2, S2, K2⟩ := back v d H' f' g ds' l' A' rv ng S' K'
  exact q v H' f2 g A2 R2 (S1.trans S2) (K1.trans K2)
end
end BX

namespace BX
open PySem PySem.Spec PyProof.Rows L2

abbrev XS := En → (En → Prop) → (D → En → Prop) → Prop
abbrev XG := R → En → (En → Prop) → Prop
abbrev XGs := Option Bool → List D → En → (En → Prop) → Prop
/-- slots that are the caller's to be changed, or locked, stand where they stood -/
structure Kq (σ : L2.St) (env : En) (f : FA) (σ' : L2.St) (env' : En) (f' : FA) : Prop where
  io : ∀ (i : Nat) (d : D), env[i]? = some (some (d, Md.io)) → σ'[i]? = σ[i]? ∧ ∃ d', env'[i]? = some (some (d', Md.io))
  lk : ∀ (i : Nat) (d : D), env[i]? = some (some (d, Md.lk)) → σ'[i]? = σ[i]? ∧ env'[i]? = some (some (d, Md.lk)) ∧ f' i = f i
  lkr : ∀ (i : Nat) (d : D), env'[i]? = some (some (d, Md.lk)) → env[i]? = some (some (d, Md.lk))
theorem Kq.refl {σ : L2.St} {env : En} {f : FA} : Kq σ env f σ env f := ⟨fun i d h => ⟨rfl, d, h⟩, fun i d h => ⟨rfl, h, rfl⟩, fun i d h => h⟩
theorem Kq.trans {σ σ1 σ2 : L2.St} {env e1 e2 : En} {f f1 f2 : FA} (a : Kq σ env f σ1 e1 f1) (b : Kq σ1 e1 f1 σ2 e2 f2) : Kq σ env f σ2 e2 f2 :=
  ⟨fun i d h => let ⟨x, d1, h1⟩ := a.io i d h; let ⟨y, d2, h2⟩ := b.io i d1 h1; ⟨y.trans x, d2, h2⟩, fun i d h => let ⟨x, h1, z1⟩ := a.lk i d h; let ⟨y, h2, z2⟩ := b.lk i d h1; ⟨y.trans x, h2, z2.trans z1⟩, fun i d h => a.lkr i d (b.lkr i d h)⟩
theorem Kp.kq {σ : L2.St} {env e1 : En} {f f1 : FA} (a : Kp env f e1 f1) : Kq σ env f σ e1 f1 :=
  ⟨fun i d h => ⟨rfl, a.slot h⟩, fun i d h => ⟨rfl, a.ros i d .lk h rfl⟩, fun i d h => by
    obtain ⟨d', h'⟩ := a.slot' h
    have := (a.ros i d' .lk h' rfl).1
    rw [h] at this; cases this
    exact h'⟩
def PostN (K : PySem.W.Frag) (σ : L2.St) (H : Hp) (env : En) (f : FA) (P : L2.St → Hp → Prop) : En → Prop := fun env' => ∀ σ' H' f', Abs K σ' H' env' f' → Stp H env f [] H' env' f' [] → Kq σ env f σ' env' f' → P σ' H'
/-- a returned thing is apart from what the caller's slots hold -/
def PostR (K : PySem.W.Frag) (σ : L2.St) (H : Hp) (env : En) (f : FA) (P : VK) : D → En → Prop := fun d env' => ∀ v σ' H' f' g, Abs K σ' H' env' f' → Rep K H' 0 d v g → (∀ b ∈ g, ∀ i d m, env'[i]? = some (some (d, m)) → (m = .io ∨ m = .lk) → b ∉ f' i) → Stp H env f [] H' env' f' g → Kq σ env f σ' env' f' → P v H'
def liftS (K : PySem.W.Frag) (t : XS) : TS := fun D σ H => ∃ env f, Abs K σ H env f ∧ t env (PostN K σ H env f D.nx) (PostR K σ H env f D.rt)
def MonoS (t : XS) : Prop := ∀ env nx nx' rt rt', (∀ e, nx e → nx' e) → (∀ d e, rt d e → rt' d e) → t env nx rt → t env nx' rt'
structure DS (X : Cx) (st : Stmt) (t : XS) : Prop where
  run : PS X st (liftS X.K t)
  mono : MonoS t
structure DSs (X : Cx) (st : List Stmt) (t : XS) : Prop where
  run : PSs X st (liftS X.K t)
  mono : MonoS t
theorem PS.imp {X : Cx} {e : Stmt} {t u : TS} (h : PS X e t) (k : ∀ D σ H, u D σ H → t D σ H) : PS X e u := ⟨fun pins s σ H D I q => h.run pins s σ H D I (k _ _ _ q)⟩
theorem PSs.imp {X : Cx} {e : List Stmt} {t u : TS} (h : PSs X e t) (k : ∀ D σ H, u D σ H → t D σ H) : PSs X e u := ⟨fun pins s σ H D I q => h.run pins s σ H D I (k _ _ _ q)⟩

def sNil : XS := fun env nx _ => nx env
def sSeq (t u : XS) : XS := fun env nx rt => t env (fun e => u e nx rt) rt
def sExpr (t : XE) : XS := fun env nx _ => t env fun _ e => nx e
def retR (r : R) (env : En) (k : D → Prop) : Prop := match r with
  | .tmp d => k d
  | .ro c d => c = false ∧ d.imm = true ∧ k d
  | .sl i => match env[i]? with
    | some (some (d, m)) => (match m with
      | .own => True
      | _ => d.imm = true) ∧ k d
    | _ => False
def sRet (t : XE) : XS := fun env _ rt => t env fun r e => retR r e fun d => rt d e
def sRetN : XS := fun env _ rt => rt .non env
def sIf (c : XT) (t u : XS) : XS := fun env nx rt => c env fun b e => (b = true → t e nx rt) ∧ (b = false → u e nx rt)
def sNever : XS := fun _ _ _ => False
theorem retR_mono {r : R} {env : En} {k k' : D → Prop} (h : ∀ d, k d → k' d) (q : retR r env k) : retR r env k' := by
  cases r with
  | tmp d => exact h _ q
  | ro c d => exact ⟨q.1, q.2.1, h _ q.2.2⟩
  | sl i =>
    unfold retR at q ⊢
    dsimp only at q ⊢
    cases e : env[i]? with
    | none => rw [e] at q; exact q.elim
    | some x => cases x with
      | none => rw [e] at q; exact q.elim
      | some p => rw [e] at q; exact ⟨q.1, h _ q.2⟩
section
variable {K : PySem.W.Frag} {σ σ' : L2.St} {H H1 H' : Hp} {env e1 e2 : En} {f f1 f2 : FA} {G g : List Addr}
theorem PostN.after {P : L2.St → Hp → Prop} {σ1 : L2.St} (S : Stp H env f [] H1 e1 f1 []) (k : Kq σ env f σ1 e1 f1) {e : En} (q : PostN K σ H env f P e) : PostN K σ1 H1 e1 f1 P e := fun σ' H' f' A' S' K' => q σ' H' f' A' (S.trans S') (k.trans K')
theorem PostR.after {P : VK} {σ1 : L2.St} (S : Stp H env f [] H1 e1 f1 []) (k : Kq σ env f σ1 e1 f1) {d : D} {e : En} (q : PostR K σ H env f P d e) : PostR K σ1 H1 e1 f1 P d e := fun v σ' H' f' g A' R' n S' K' => q v σ' H' f' g A' R' n (S.trans S') (k.trans K')
theorem stmt_then {t : XS} {D : Ends} {σ1 : L2.St} (m : MonoS t) (S : Stp H env f [] H1 e1 f1 []) (k : Kq σ env f σ1 e1 f1) (A1 : Abs K σ1 H1 e1 f1) (q : t e1 (PostN K σ H env f D.nx) (PostR K σ H env f D.rt)) : liftS K t D σ1 H1 :=
  ⟨e1, f1, A1, m _ _ _ _ _ (fun e q => q.after S k) (fun d e q => q.after S k) q⟩
theorem retR_ok {r : R} {v : V} {k : D → Prop} (A : Abs K σ H env f) (h : ResOk K σ H env f r v g) (q : retR r env k) : ∃ d g', Rep K H 0 d v g' ∧ k d ∧ (∀ b ∈ g', b ∈ g ∨ W env f b) ∧ ∀ b ∈ g', ∀ i d m, env[i]? = some (some (d, m)) → (m = .io ∨ m = .lk) → b ∉ f i := by
  unfold retR at q
  split at q
  · cases h with
    | tmp r n => exact ⟨_, g, r, q, fun b hb => .inl hb, fun b hb i d m e em z => (n b hb).1 ⟨i, d, m, e, by rcases em with em | em <;> subst em <;> rfl, z⟩⟩
  · obtain ⟨rfl, im, q⟩ := q
    cases h with
    | ro r n =>
      obtain ⟨_, r0⟩ := r.imm (Nat.le_refl _) im
      exact ⟨_, [], r0, q, fun b hb => by simp at hb, fun b hb => by simp at hb⟩
  · cases h with
    | sl h1 h2 h3 =>
      obtain ⟨w, h4, rp⟩ := A.rep _ _ _ h2
      rw [h1] at h4; cases h4
      rw [h3] at rp
      simp only [h2] at q
      obtain ⟨q1, q⟩ := q
      split at q1
      · refine ⟨_, _, rp, q, fun b hb => .inr ⟨_, _, _, h2, rfl, hb⟩, fun b hb i d m e em z => ?_⟩
        refine A.dis _ _ _ _ _ _ (fun y => ?_) h2 e rfl b hb z
        subst y
        rw [h2] at e; cases e
        rcases em with em | em <;> cases em
      · obtain ⟨_, r0⟩ := rp.imm (Nat.zero_le _) q1
        exact ⟨_, [], r0, q, fun b hb => by simp at hb, fun b hb => by simp at hb⟩
end
section
variable {X : Cx} {st : Stmt} {rest : List Stmt} {t u : XS} {e : Expr} {te : XE} {pos : Pos}
theorem ds_nil : DSs X [] sNil := ⟨PSs.imp pss_nil fun D σ H ⟨env, f, A, q⟩ => q σ H f A .refl .refl, fun env nx nx' rt rt' h _ q => h _ q⟩
theorem ds_cons (h1 : DS X st t) (h2 : DSs X rest u) : DSs X (st :: rest) (sSeq t u) := by
  refine ⟨PSs.imp (pss_cons h1.run h2.run) fun D σ H q => ?_, fun env nx nx' rt rt' h h' q => h1.mono _ _ _ _ _ (fun e q => h2.mono _ _ _ _ _ h h' q) h' q⟩
  obtain ⟨env, f, A, q⟩ := q
  refine ⟨env, f, A, h1.mono _ _ _ _ _ (fun e q => ?_) (fun d e q => q) q⟩
  intro σ1 H1 f1 A1 S1 K1
  exact stmt_then h2.mono S1 K1 A1 q
theorem ds_one (h1 : DS X st t) : DSs X [st] t := ⟨PSs.imp (pss_one h1.run) fun D σ H q => q, h1.mono⟩
theorem ds_pass : DS X (.Pass pos) sNil := ⟨PS.imp ps_pass fun D σ H ⟨env, f, A, q⟩ => q σ H f A .refl .refl, fun env nx nx' rt rt' h _ q => h _ q⟩
theorem ds_never : DS X st sNever := ⟨PS.imp ps_never fun D σ H ⟨env, f, A, q⟩ => q.elim, fun env nx nx' rt rt' h _ q => q.elim⟩
theorem ds_doc {x j pos'} : DS X (.Expr (.Constant (.str x) j pos) pos') sNil := ⟨PS.imp ps_doc fun D σ H ⟨env, f, A, q⟩ => q σ H f A .refl .refl, fun env nx nx' rt rt' h _ q => h _ q⟩
theorem ds_expr (he : DE X e te) (hs : swapsWith e none pos.line X.env = pure false := by rfl) : DS X (.Expr e pos) (sExpr te) := by
  refine ⟨PS.imp (ps_expr he.run hs) fun D σ H q => ?_, fun env nx nx' rt rt' h _ q => he.mono _ _ _ (fun r e q => h _ q) q⟩
  obtain ⟨env, f, A, q⟩ := q
  refine ⟨env, f, A, he.mono _ _ _ (fun r e1 q => ?_) q⟩
  intro v H1 f1 g A1 R1 S1 K1
  exact q σ H1 f1 A1 (S1.drop (fun _ z => by simp at z)) K1.kq
theorem ds_ret (he : DE X e te) : DS X (.Return (some e) pos) (sRet te) := by
  refine ⟨PS.imp (ps_ret he.run) fun D σ H q => ?_, fun env nx nx' rt rt' h h' q => he.mono _ _ _ (fun r e q => retR_mono (fun d q => h' _ _ q) q) q⟩
  obtain ⟨env, f, A, q⟩ := q
  refine ⟨env, f, A, he.mono _ _ _ (fun r e1 q => ?_) q⟩
  intro v H1 f1 g A1 R1 S1 K1
  obtain ⟨d, g', rp, q, h1, h2⟩ := retR_ok A1 R1 q
  refine q v σ H1 f1 g' A1 rp h2 ⟨S1.same, fun b qq => ?_⟩ K1.kq
  rcases qq with qq | qq
  · exact S1.own b (.inl qq)
  · rcases h1 b qq with z | z
    · exact S1.own b (.inr z)
    · exact S1.own b (.inl z)
theorem ds_retN : DS X (.Return none pos) sRetN := ⟨PS.imp ps_retN fun D σ H ⟨env, f, A, q⟩ => q _ σ H f [] A .non (fun b hb => by simp at hb) .refl .refl, fun env nx nx' rt rt' h h' q => h' _ _ q⟩
theorem ds_if {c : Expr} {a b : List Stmt} {tc : XT} (hc : DT X c tc) (ha : DSs X a t) (hb : DSs X b u) : DS X (.If c a b pos) (sIf tc t u) := by
  refine ⟨PS.imp (ps_if hc.run ha.run hb.run) fun D σ H q => ?_, fun env nx nx' rt rt' h h' q => hc.mono _ _ _ (fun b e q => ⟨fun z => ha.mono _ _ _ _ _ h h' (q.1 z), fun z => hb.mono _ _ _ _ _ h h' (q.2 z)⟩) q⟩
  obtain ⟨env, f, A, q⟩ := q
  refine ⟨env, f, A, hc.mono _ _ _ (fun b e1 q => ?_) q⟩
  intro H1 f1 A1 S1 K1
  cases b with
  | true => rw [if_pos rfl]; exact stmt_then ha.mono S1 K1.kq A1 (q.1 rfl)
  | false => rw [if_neg Bool.false_ne_true]; exact stmt_then hb.mono S1 K1.kq A1 (q.2 rfl)
end

inductive SrcOk (K : PySem.W.Frag) (σ : L2.St) (H : Hp) (env : En) (f : FA) : R → V → List Addr → Prop
  | tmp {d : D} {v : V} {g : List Addr} : Rep K H 0 d v g → (∀ b ∈ g, ¬ L0 env f b ∧ ¬ Ro env f b) → SrcOk K σ H env f (.tmp d) v g
  | ro {c : Bool} {d : D} {v : V} {g : List Addr} : Rep K H (clv c) d v g → (∀ b ∈ g, ¬ L0 env f b) → SrcOk K σ H env f (.ro c d) v []
  | sl {i : Nat} {v : V} {d : D} {m : Md} : σ[i]? = some (some v) → env[i]? = some (some (d, m)) → m.lv = 0 → SrcOk K σ H env f (.sl i) v []
theorem ResOk.src {K : PySem.W.Frag} {σ : L2.St} {H : Hp} {env : En} {f : FA} {r : R} {v : V} {g : List Addr} (A : Abs K σ H env f) (h : ResOk K σ H env f r v g) : SrcOk K σ H env f r v g := by
  cases h with
  | tmp r n => exact .tmp r n
  | ro r n => exact .ro r fun b hb z => A.apart z (n b hb)
  | sl a b c => exact .sl a b c
def setOk (env : En) (i : Nat) : Bool := match env[i]? with
  | some (some (_, .io)) => false
  | some (some (_, .lk)) => false
  | some _ => true
  | none => false
def roMd : Bool → Md
  | false => .ro
  | true => .cst
def gN (i : Nat) : XG := fun r env k => setOk env i = true ∧ match r with
  | .tmp d => k (env.set i (some (d, .own)))
  | .ro c d => k (env.set i (some (d, roMd c)))
  | .sl j => match env[j]? with
    | some (some (d, _)) => d.imm = true ∧ k (env.set i (some (d, .own)))
    | _ => False
def MonoG (t : XG) : Prop := ∀ r env k k', (∀ e, k e → k' e) → t r env k → t r env k'
def MonoGs (t : XGs) : Prop := ∀ kd ds env k k', (∀ e, k e → k' e) → t kd ds env k → t kd ds env k'
def R.isRo : R → Bool
  | .ro _ _ => true
  | _ => false
def Same (ts : List Nat) (σ : L2.St) (env : En) (f : FA) (σ' : L2.St) (env' : En) (f' : FA) : Prop := σ'.length = σ.length ∧ env'.length = env.length ∧ ∀ j, j ∉ ts → σ'[j]? = σ[j]? ∧ env'[j]? = env[j]? ∧ f' j = f j
def PostG (K : PySem.W.Frag) (σ : L2.St) (H : Hp) (env : En) (f : FA) (g : List Addr) (rk : Bool) (ts : List Nat) (P : L2.St → Hp → Prop) : En → Prop := fun env' => ∀ σ' f', Abs K σ' H env' f' → Stp H env f g H env' f' [] → Kq σ env f σ' env' f' →
  (∀ b, L0 env' f' b → L0 env f b ∨ b ∈ g) → (rk = false → ∀ b, Ro env' f' b → Ro env f b) → Same ts σ env f σ' env' f' → P σ' H
def liftG (K : PySem.W.Frag) (ts : List Nat) (t : XG) : TG := fun v σ H Q => ∃ env f r g, Abs K σ H env f ∧ SrcOk K σ H env f r v g ∧ t r env (PostG K σ H env f g r.isRo ts Q)
inductive KOk (K : PySem.W.Frag) (H : Hp) (env : En) (f : FA) : Option Bool → List D → List V → List Addr → Prop
  | tmp {ds : List D} {vs : List V} {g : List Addr} : Reps K H 0 ds vs g → (∀ b ∈ g, ¬ L0 env f b ∧ ¬ Ro env f b) → KOk K H env f none ds vs g
  | ro {c : Bool} {ds : List D} {vs : List V} {g : List Addr} : Reps K H (clv c) ds vs g → (∀ b ∈ g, ¬ L0 env f b) → KOk K H env f (some c) ds vs []
def mkI (kd : Option Bool) (d : D) : R := match kd with
  | none => .tmp d
  | some c => mkRo c d
def liftGs (K : PySem.W.Frag) (ts : List Nat) (t : XGs) : TGs := fun vs σ H Q => ∃ env f kd ds g, Abs K σ H env f ∧ KOk K H env f kd ds vs g ∧ t kd ds env (PostG K σ H env f g kd.isSome ts Q)
structure DG (X : Cx) (e : Expr) (ts : List Nat) (t : XG) : Prop where
  run : PG X e (liftG X.K ts t)
  mono : MonoG t
structure DGs (X : Cx) (e : List Expr) (ts : List Nat) (t : XGs) : Prop where
  run : PGs X e (liftGs X.K ts t)
  mono : MonoGs t
theorem PG.imp {X : Cx} {e : Expr} {t u : TG} (h : PG X e t) (k : ∀ v σ H Q, u v σ H Q → t v σ H Q) : PG X e u := ⟨fun pins s σ H v w Q I r q => h.run pins s σ H v w Q I r (k _ _ _ _ q)⟩
theorem PGs.imp {X : Cx} {e : List Expr} {t u : TGs} (h : PGs X e t) (k : ∀ v σ H Q, u v σ H Q → t v σ H Q) : PGs X e u := ⟨fun pins s σ H v w Q I r q => h.run pins s σ H v w Q I r (k _ _ _ _ q)⟩
def gsNil : XGs := fun _ ds env k => match ds with
  | [] => k env
  | _ => False
def gsCons (g : XG) (gs : XGs) : XGs := fun kd ds env k => match ds with
  | d :: ds => g (mkI kd d) env fun e => gs kd ds e k
  | [] => False
def kdOf (r : R) (xs : List D) (k : Option Bool → Prop) : Prop := match r with
  | .tmp _ => k none
  | .ro c _ => k (some c)
  | .sl _ => immL xs = true ∧ k none
def gT (n : Nat) (gs : XGs) : XG := fun r env k => rd 2 r env fun d => match d with
  | .tup xs => xs.length = n ∧ kdOf r xs fun kd => gs kd xs env k
  | _ => False
section
variable {K : PySem.W.Frag} {σ : L2.St} {H : Hp} {env : En} {f : FA} {g : List Addr} {i : Nat} {r : R} {v : V} {d : D}
theorem setOk_lt (h : setOk env i = true) : i < env.length := by
  unfold setOk at h
  cases e : env[i]? with
  | none => rw [e] at h; cases h
  | some x => exact (List.getElem?_eq_some_iff.mp e).1
theorem setOk_no (h : setOk env i = true) {m : Md} (e : env[i]? = some (some (d, m))) : m ≠ .io ∧ m ≠ .lk := by
  unfold setOk at h
  rw [e] at h
  cases m <;> first | (cases h; done) | exact ⟨(fun z => nomatch z), (fun z => nomatch z)⟩
theorem Abs.put (A : Abs K σ H env f) (so : setOk env i = true) {m : Md} (rp : Rep K H m.lv d v g) (hm : m ≠ .io ∧ m ≠ .lk) (h0 : m.lv = 0 → ∀ b ∈ g, ¬ L0 env f b ∧ ¬ Ro env f b) (h1 : ∀ b ∈ g, ¬ L0 env f b) {G : List Addr} (hG : m.lv = 0 → ∀ b ∈ g, b ∈ G) :
    Abs K (σ.set i (some v)) H (env.set i (some (d, m))) (fset f i g) ∧ Stp H env f G H (env.set i (some (d, m))) (fset f i g) [] ∧ Kq σ env f (σ.set i (some v)) (env.set i (some (d, m))) (fset f i g) ∧
      (∀ b, L0 (env.set i (some (d, m))) (fset f i g) b → L0 env f b ∨ b ∈ G) ∧ (m.lv = 0 → ∀ b, Ro (env.set i (some (d, m))) (fset f i g) b → Ro env f b) ∧ Same [i] σ env f (σ.set i (some v)) (env.set i (some (d, m))) (fset f i g) := by
  have hi := setOk_lt so
  have hσ : i < σ.length := by rw [← A.len]; exact hi
  have ati : ∀ {d1 : D} {m1 : Md}, (env.set i (some (d, m)))[i]? = some (some (d1, m1)) → d1 = d ∧ m1 = m := fun {d1 m1} h => by
    rw [env_at hi] at h; cases h; exact ⟨rfl, rfl⟩
  have get : ∀ {j : Nat} {d1 : D} {m1 : Md}, j ≠ i → (env.set i (some (d, m)))[j]? = some (some (d1, m1)) → env[j]? = some (some (d1, m1)) := fun {j d1 m1} hj h => by rwa [env_ne hj] at h
  refine ⟨⟨fun j d1 m1 h => ?_, fun j k d1 m1 d2 m2 hjk e1 e2 hl b hb z => ?_, by rw [List.length_set, List.length_set]; exact A.len⟩, ⟨fun b o h _ => h, fun b q => ?_⟩, ⟨fun j d1 h => ?_, fun j d1 h => ?_, fun j d1 h => ?_⟩, fun b q => ?_, fun hl b q => ?_, by rw [List.length_set], by rw [List.length_set], fun j hj => ?_⟩
  · by_cases hj : j = i
    · subst hj
      obtain ⟨rfl, rfl⟩ := ati h
      exact ⟨v, List.getElem?_set_self hσ, by rw [fset_at]; exact rp⟩
    · obtain ⟨w, h2, h3⟩ := A.rep j d1 m1 (get hj h)
      exact ⟨w, by rw [List.getElem?_set_ne (Ne.symm hj)]; exact h2, by rw [fset_ne hj]; exact h3⟩
  · by_cases hj : j = i
    · subst hj
      obtain ⟨rfl, rfl⟩ := ati e1
      rw [fset_at] at hb
      rw [fset_ne (Ne.symm hjk)] at z
      have e3 := get (Ne.symm hjk) e2
      by_cases hl2 : m2.lv = 0
      · exact (h0 hl b hb).1 ⟨k, d2, m2, e3, hl2, z⟩
      · exact (h0 hl b hb).2 ⟨k, d2, m2, e3, hl2, z⟩
    · rw [fset_ne hj] at hb
      have e3 := get hj e1
      by_cases hk : k = i
      · subst hk
        rw [fset_at] at z
        exact h1 b z ⟨j, d1, m1, e3, hl, hb⟩
      · rw [fset_ne hk] at z
        exact A.dis j k d1 m1 d2 m2 hjk e3 (get hk e2) hl b hb z
  · rcases q with ⟨j, d1, m1, h, hr, hb⟩ | q
    · by_cases hj : j = i
      · subst hj
        obtain ⟨rfl, rfl⟩ := ati h
        rw [fset_at] at hb
        exact .inr (.inl (hG (Md.lv_of hr) b hb))
      · rw [fset_ne hj] at hb
        exact .inl ⟨j, d1, m1, get hj h, hr, hb⟩
    · simp at q
  · have hj : j ≠ i := fun z => by subst z; exact (setOk_no so h).1 rfl
    exact ⟨List.getElem?_set_ne (Ne.symm hj), d1, by rw [env_ne hj]; exact h⟩
  · have hj : j ≠ i := fun z => by subst z; exact (setOk_no so h).2 rfl
    exact ⟨List.getElem?_set_ne (Ne.symm hj), by rw [env_ne hj]; exact h, fset_ne hj⟩
  · by_cases hj : j = i
    · subst hj
      obtain ⟨_, z⟩ := ati h
      exact absurd z.symm hm.2
    · exact get hj h
  · obtain ⟨j, d1, m1, h, hr, hb⟩ := q
    by_cases hj : j = i
    · subst hj
      obtain ⟨rfl, rfl⟩ := ati h
      rw [fset_at] at hb
      exact .inr (hG hr b hb)
    · rw [fset_ne hj] at hb
      exact .inl ⟨j, d1, m1, get hj h, hr, hb⟩
  · obtain ⟨j, d1, m1, h, hr, hb⟩ := q
    by_cases hj : j = i
    · subst hj
      obtain ⟨rfl, rfl⟩ := ati h
      exact absurd hl hr
    · rw [fset_ne hj] at hb
      exact ⟨j, d1, m1, get hj h, hr, hb⟩
  · have hj' : j ≠ i := fun z => hj (by rw [z]; exact List.mem_cons_self ..)
    exact ⟨List.getElem?_set_ne (Ne.symm hj'), env_ne hj', fset_ne hj'⟩
theorem gN_ok {k : En → Prop} (A : Abs K σ H env f) (h : SrcOk K σ H env f r v g) (q : gN i r env k) : ∃ env' f', k env' ∧ Abs K (σ.set i (some v)) H env' f' ∧ Stp H env f g H env' f' [] ∧ Kq σ env f (σ.set i (some v)) env' f' ∧
    (∀ b, L0 env' f' b → L0 env f b ∨ b ∈ g) ∧ (r.isRo = false → ∀ b, Ro env' f' b → Ro env f b) ∧ Same [i] σ env f (σ.set i (some v)) env' f' := by
  obtain ⟨so, q⟩ := q
  cases h with
  | tmp rp n =>
    obtain ⟨a, b, c, d, e, z⟩ := A.put (m := .own) (G := g) so rp ⟨(fun z => nomatch z), (fun z => nomatch z)⟩ (fun _ => n) (fun b hb => (n b hb).1) fun _ b hb => hb
    exact ⟨_, _, q, a, b, c, d, fun _ => e rfl, z⟩
  | @ro c _ _ _ rp n =>
    obtain ⟨a, b, c, d, e, z⟩ := A.put (m := roMd c) (G := []) so (by cases c <;> exact rp) (by cases c <;> exact ⟨(fun z => nomatch z), (fun z => nomatch z)⟩) (fun z => by cases c <;> cases z) n (fun z => by cases c <;> cases z)
    exact ⟨_, _, q, a, b, c, d, (fun z => nomatch z), z⟩
  | sl h1 h2 h3 =>
    simp only [h2] at q
    obtain ⟨w, h4, rp⟩ := A.rep _ _ _ h2
    rw [h1] at h4; cases h4
    obtain ⟨_, r0⟩ := rp.imm (by rw [h3]; exact Nat.zero_le _) q.1
    obtain ⟨a, b, c, d, e, z⟩ := A.put (m := .own) (G := []) so r0 ⟨(fun z => nomatch z), (fun z => nomatch z)⟩ (fun _ b hb => by simp at hb) (fun b hb => by simp at hb) fun _ b hb => hb
    exact ⟨_, _, q.2, a, b, c, d, fun _ => e rfl, z⟩
end
section
variable {X : Cx} {pos : Pos}
theorem dg_name {i : Nat} {x : Str} (hN : X.N.Nodup) (hi : X.N[i]? = some x := by rfl) (hx : Loc X.env.scope x := by first | exact .inl rfl | exact .inr rfl) (hf : X.fn x = true ∨ X.env.scope.names.lookup x = some .local := by first | exact .inl rfl | exact .inr rfl | assumption) : DG X (.Name x pos) [i] (gN i) := by
  refine ⟨PG.imp (pg_name hN hi hx hf) fun v σ H Q q => ?_, fun r env k k' h q => ?_⟩
  · obtain ⟨env, f, r, g, A, R1, q⟩ := q
    obtain ⟨env', f', q, A', S', K', L', O', M'⟩ := gN_ok A R1 q
    exact q _ f' A' S' K' L' O' M'
  · obtain ⟨so, q⟩ := q
    refine ⟨so, ?_⟩
    cases r with
    | tmp d => exact h _ q
    | ro c d => exact h _ q
    | sl j =>
      dsimp only at q ⊢
      cases e : env[j]? with
      | none => rw [e] at q; exact q.elim
      | some x => cases x with
        | none => rw [e] at q; exact q.elim
        | some p => rw [e] at q; exact ⟨q.1, h _ q.2⟩
end
end BX

namespace BX
open PySem PySem.Spec PyProof.Rows L2

section
variable {K : PySem.W.Frag} {σ σ' : L2.St} {H : Hp} {env e1 : En} {f f1 : FA} {g g1 g2 : List Addr}
theorem src_mkI {kd : Option Bool} {d : D} {v : V} {ds : List D} {vs : List V} (h : KOk K H env f kd (d :: ds) (v :: vs) g) : ∃ g1 g2, SrcOk K σ H env f (mkI kd d) v g1 ∧ KOk K H env f kd ds vs g2 ∧ (∀ b ∈ g1, b ∈ g) ∧ (∀ b ∈ g2, b ∈ g ∧ b ∉ g1) ∧ (kd.isSome = false → (mkI kd d).isRo = false) := by
  cases h with
  | tmp r n => cases r with
    | cons r t nd => exact ⟨_, _, .tmp r fun b hb => n b (List.mem_append_left _ hb), .tmp t fun b hb => n b (List.mem_append_right _ hb), fun b hb => List.mem_append_left _ hb, fun b hb => ⟨List.mem_append_right _ hb, fun z => nd rfl b z hb⟩, fun _ => rfl⟩
  | @ro c _ _ g0 r n => cases r with
    | @cons _ _ gf _ _ gg r t nd =>
      have n1 : ∀ b ∈ gf, ¬ L0 env f b := fun b hb => n b (List.mem_append_left _ hb)
      have k2 : KOk K H env f (some c) ds vs [] := KOk.ro t fun b hb => n b (List.mem_append_right _ hb)
      have s : SrcOk K σ H env f (mkRo c d) v [] := by
        cases d with
        | int i => exact .tmp r.int0 no_mem_nil
        | bl i => exact .tmp r.bl0 no_mem_nil
        | str i => exact .tmp r.str0 no_mem_nil
        | non => exact .tmp r.non0 no_mem_nil
        | _ => exact .ro r n1
      exact ⟨[], [], s, k2, fun b hb => hb, fun b hb => by simp at hb, (fun z => nomatch z)⟩
theorem KOk.wait {kd : Option Bool} {ds : List D} {vs : List V} {G : List Addr} (h : KOk K H env f kd ds vs g2) (A1 : Abs K σ' H e1 f1) (L : ∀ b, L0 e1 f1 b → L0 env f b ∨ b ∈ G) (nG : ∀ b ∈ g2, b ∉ G) (hG : kd.isSome = true → ∀ b ∈ G, False) (O : kd.isSome = false → ∀ b, Ro e1 f1 b → Ro env f b) : KOk K H e1 f1 kd ds vs g2 := by
  cases h with
  | tmp r n => exact .tmp r fun b hb => ⟨fun z => (L b z).elim (n b hb).1 (nG b hb), fun z => (n b hb).2 (O rfl b z)⟩
  | ro r n => exact .ro r fun b hb z => (L b z).elim (n b hb) (hG rfl b)
theorem KOk.ro_nil {kd : Option Bool} {ds : List D} {vs : List V} (h : KOk K H env f kd ds vs g) (e : kd.isSome = true) : g = [] := by
  cases h with
  | tmp r n => cases e
  | ro r n => rfl
end
section
variable {X : Cx} {pos : Pos}
theorem dgs_nil : DGs X [] [] gsNil := by
  refine ⟨PGs.imp pgs_nil fun vs σ H Q q => ?_, fun kd ds env k k' h q => ?_⟩
  · obtain ⟨env, f, kd, ds, g, A, k, q⟩ := q
    cases ds with
    | cons _ _ => exact q.elim
    | nil =>
      cases k with
      | tmp r n => cases r; exact ⟨rfl, q σ f A .refl .refl (fun b z => .inl z) (fun _ b z => z) ⟨rfl, rfl, fun _ _ => ⟨rfl, rfl, rfl⟩⟩⟩
      | ro r n => cases r; exact ⟨rfl, q σ f A .refl .refl (fun b z => .inl z) (fun _ b z => z) ⟨rfl, rfl, fun _ _ => ⟨rfl, rfl, rfl⟩⟩⟩
  · cases ds with
    | cons _ _ => exact q.elim
    | nil => exact h _ q
theorem dgs_cons {e : Expr} {es : List Expr} {t : XG} {u : XGs} {ts us : List Nat} (h1 : DG X e ts t) (h2 : DGs X es us u) (hs : (assignEach (e :: es) X.env).map (·.2) = assign e X.env :: (assignEach es X.env).map (·.2) := by rfl) : DGs X (e :: es) (ts ++ us) (gsCons t u) := by
  refine ⟨PGs.imp (pgs_cons h1.run h2.run hs) fun vs σ H Q q => ?_, fun kd ds env k k' h q => ?_⟩
  · obtain ⟨env, f, kd, ds, g, A, k, q⟩ := q
    cases ds with
    | nil => exact q.elim
    | cons d ds =>
      have hv : ∃ v vr, vs = v :: vr := by
        cases k with
        | tmp r n => cases r; exact ⟨_, _, rfl⟩
        | ro r n => cases r; exact ⟨_, _, rfl⟩
      obtain ⟨v, vr, rfl⟩ := hv
      obtain ⟨g1, g2, s1, k2, i1, i2, hr⟩ := src_mkI (σ := σ) k
      refine ⟨v, vr, rfl, env, f, _, g1, A, s1, h1.mono _ _ _ _ (fun e1 q => ?_) q⟩
      intro σ1 f1 A1 S1 K1 L1 O1 M1
      refine ⟨e1, f1, kd, ds, g2, A1, k2.wait A1 L1 (fun b hb z => (i2 b hb).2 z) (fun e b hb => by
        have := i1 b hb
        rw [k.ro_nil e] at this
        simp at this) (fun e => O1 (hr e)), h2.mono _ _ _ _ _ (fun e2 q => ?_) q⟩
      intro σ2 f2 A2 S2 K2 L2' O2 M2
      refine q σ2 f2 A2 ?_ (K1.trans K2) (fun b z => ?_) (fun e b z => O1 (hr e) b (O2 e b z)) ⟨M2.1.trans M1.1, M2.2.1.trans M1.2.1, fun j hj => ?_⟩
      · refine ⟨fun b o h _ => h, fun b z => ?_⟩
        rcases S2.own b z with z | z | z
        · rcases S1.own b (.inl z) with z | z | z
          · exact .inl z
          · exact .inr (.inl (i1 b z))
          · exact .inr (.inr z)
        · exact .inr (.inl (i2 b z).1)
        · exact .inr (.inr z)
      · rcases L2' b z with z | z
        · exact (L1 b z).imp_right (i1 b)
        · exact .inr (i2 b z).1
      · obtain ⟨a1, a2, a3⟩ := M1.2.2 j fun z => hj (List.mem_append_left _ z)
        obtain ⟨b1, b2, b3⟩ := M2.2.2 j fun z => hj (List.mem_append_right _ z)
        exact ⟨b1.trans a1, b2.trans a2, b3.trans a3⟩
  · cases ds with
    | nil => exact q.elim
    | cons d ds => exact h1.mono _ _ _ _ (fun e q => h2.mono _ _ _ _ _ h q) q
theorem dg_tup {es : List Expr} {k : Nat} {t : XGs} {n : Nat} {ts : List Nat} (hx : Ok X) (h : DGs X es ts t) (hn : (assignEach es X.env).length = n := by rfl) (hst : (assignEach es X.env).findIdx? (·.1) = none := by rfl) : DG X (.Tuple es k pos) ts (gT n t) := by
  refine ⟨PG.imp (pg_tup hx.calm h.run hn hst) fun v σ H Q q => ?_, fun r env k k' w q => ?_⟩
  · obtain ⟨env, f, r, g, A, s, q⟩ := q
    have go : ∀ {lv : Nat} {xs : List D} {gg : List Addr}, Rep X.K H lv (.tup xs) v gg → xs.length = n → (∀ vs, Reps X.K H lv xs vs gg → ∃ kd g', KOk X.K H env f kd xs vs g' ∧ (∀ b ∈ g', b ∈ g) ∧ (r.isRo = false → kd.isSome = false) ∧ t kd xs env (PostG X.K σ H env f g r.isRo ts Q)) →
        ∃ a xs, v = .ref a ∧ SqT X.K H a xs ∧ xs.length = n ∧ liftGs X.K ts t xs σ H Q := fun {lv xs gg} rp hl k => by
      obtain ⟨a, vs, rfl, ha, rr⟩ := rp.tupleSq
      obtain ⟨kd, g', kk, hg', hro, q⟩ := k vs rr
      refine ⟨a, vs, rfl, ha, by rw [← rr.len]; exact hl, env, f, kd, xs, g', A, kk, h.mono _ _ _ _ _ (fun e1 q => ?_) q⟩
      intro σ1 f1 A1 S1 K1 L1 O1 M1
      exact q σ1 f1 A1 (S1.more hg') K1 (fun b z => (L1 b z).imp_right (hg' b)) (fun e => O1 (hro e)) M1
    unfold gT rd at q
    cases s with
    | @tmp d _ _ rp nn =>
      simp only [R.data] at q
      cases d with
      | tup xs => exact go rp q.1 fun vs rr => ⟨none, g, .tmp rr nn, fun b hb => hb, fun _ => rfl, q.2⟩
      | _ => exact q.elim
    | @ro c d _ g0 rp nn =>
      unfold R.data at q
      cases e : roOk c 2 with
      | false => simp only [e] at q
      | true =>
        simp only [e] at q
        cases d with
        | tup xs => exact go rp q.1 fun vs rr => ⟨some c, [], .ro rr nn, fun b hb => hb, (fun z => nomatch z), q.2⟩
        | _ => exact q.elim
    | @sl i _ d m h1 h2 h3 =>
      obtain ⟨w, h4, rp⟩ := A.rep _ _ _ h2
      rw [h1] at h4; cases h4
      unfold R.data at q
      simp only [h2] at q
      cases e : m.okL 2 with
      | false => simp only [e] at q
      | true =>
        simp only [e] at q
        cases d with
        | tup xs =>
          refine go rp q.1 fun vs rr => ?_
          obtain ⟨_, r0⟩ := rr.imm (by rw [h3]; exact Nat.zero_le _) q.2.1
          exact ⟨none, [], .tmp r0 no_mem_nil, fun b hb => hb, fun _ => rfl, q.2.2⟩
        | _ => exact q.elim
  · refine rd_mono (fun d q => ?_) q
    cases d with
    | tup xs =>
      refine ⟨q.1, ?_⟩
      cases r with
      | tmp _ => exact h.mono _ _ _ _ _ w q.2
      | ro c _ => exact h.mono _ _ _ _ _ w q.2
      | sl _ => exact ⟨q.2.1, h.mono _ _ _ _ _ w q.2.2⟩
    | _ => exact q.elim

def sAsg (t : XE) (g : XG) : XS := fun env nx _ => t env fun r e => g r e nx
theorem asg_lift {K : PySem.W.Frag} {te : XE} {g : XG} {ts : List Nat} (m1 : MonoE te) (m2 : MonoG g) {D : Ends} {σ : L2.St} {H : Hp} (q : liftS K (sAsg te g) D σ H) : tAsg (liftE K te) (liftG K ts g) D σ H := by
  obtain ⟨env, f, A, q⟩ := q
  refine ⟨env, f, A, m1 _ _ _ (fun r e1 q => ?_) q⟩
  intro v H1 f1 g1 A1 R1 S1 K1
  refine ⟨e1, f1, r, g1, A1, R1.src A1, m2 _ _ _ _ (fun e2 q => ?_) q⟩
  intro σ2 f2 A2 S2 K2 _ _ _
  exact q σ2 H1 f2 A2 (S1.trans S2) (K1.kq.trans K2)
theorem sAsg_mono {te : XE} {g : XG} (m1 : MonoE te) (m2 : MonoG g) : MonoS (sAsg te g) := fun env nx nx' rt rt' h _ q => m1 _ _ _ (fun r e q => m2 _ _ _ _ h q) q
theorem ds_asg {tg e : Expr} {te : XE} {g : XG} {ts : List Nat} (he : DE X e te) (hg : DG X tg ts g) (hs : swapsWithSole [tg] e pos.line X.env = pure false := by rfl) (hw : swappedStores [tg] e X.env = pure none := by rfl)
    (h1 : (assignEach [tg] X.env).map (·.2) = [assign tg X.env] := by rfl) : DS X (.Assign [tg] e pos) (sAsg te g) :=
  ⟨PS.imp (ps_asg he.run hg.run hs hw h1) fun D σ H q => asg_lift he.mono hg.mono q, sAsg_mono he.mono hg.mono⟩
theorem ds_set {i : Nat} {x : Str} {e : Expr} {te : XE} {pos' : Pos} (hN : X.N.Nodup) (he : DE X e te) (hi : X.N[i]? = some x := by rfl) (hx : Loc X.env.scope x := by first | exact .inl rfl | exact .inr rfl) (hs : swapsWith e (some (.Name x pos')) pos.line X.env = pure false := by rfl)
    (hf : X.fn x = true ∨ X.env.scope.names.lookup x = some .local := by first | exact .inl rfl | exact .inr rfl | assumption) : DS X (.Assign [.Name x pos'] e pos) (sAsg te (gN i)) := by
  have dg : DG X (.Name x pos') [i] (gN i) := dg_name hN hi hx hf
  refine ⟨PS.imp (ps_set hN hi hx he.run hs hf) fun D σ H q => ?_, sAsg_mono he.mono dg.mono⟩
  have h := asg_lift (ts := [i]) he.mono dg.mono q
  obtain ⟨env, f, A, h⟩ := h
  refine ⟨env, f, A, he.mono _ _ _ (fun r e1 q => ?_) h⟩
  intro v H1 f1 g1 A1 R1 S1 K1
  obtain ⟨env2, f2, r2, g2, A2, R2, q2⟩ := q v H1 f1 g1 A1 R1 S1 K1
  obtain ⟨env', f', q, A', S', K', L', O', M'⟩ := gN_ok A2 R2 q2
  exact q _ f' A' S' K' L' O' M'
end
end BX

namespace BX
open PySem PySem.Spec PyProof.Rows L2

abbrev Lok := Option (Nat × Md)
abbrev XI := En → (List D → Option Bool → Lok → En → Prop) → Prop
def MonoI (t : XI) : Prop := ∀ env k k', (∀ ds kd lk e, k ds kd lk e → k' ds kd lk e) → t env k → t env k'
def Near (H0 : Hp) (P : List Addr) (H : Hp) : Prop := ∀ b o, H0 b = some o → (b ∈ P ∨ Mu o = false) → H b = some o
def Item (K : PySem.W.Frag) (H : Hp) (P : List Addr) (kd : Option Bool) (d : D) (x : V) : Prop := match kd with
  | none => Rep K H 0 d x []
  | some c => ∃ g, Rep K H (clv c) d x g ∧ ∀ b ∈ g, b ∈ P
structure Wk (K : PySem.W.Frag) (J : It) (ds : List D) (kd : Option Bool) (H0 : Hp) (P : List Addr) : Prop where
  go : ∀ i H, Near H0 P H → i < ds.length → J.go i H
  stop : ∀ i H, Near H0 P H → ds.length ≤ i → J.stop i H
  yld : ∀ (i : Nat) (H : Hp) (x : V) (H' : Hp) (d : D), Near H0 P H → ds[i]? = some d → J.yld i H x H' → (∀ b o, H b = some o → H' b = some o) ∧ Item K H' P kd d x
inductive Lk (env : En) : Lok → En → Prop
  | none : Lk env none env
  | some {i : Nat} {d : D} {m : Md} : env[i]? = some (some (d, m)) → m.lv = 0 → Lk env (some (i, m)) (env.set i (some (d, .lk)))
def PostI (K : PySem.W.Frag) (σ : L2.St) (H : Hp) (env : En) (f : FA) (R : It → Hp → Prop) : List D → Option Bool → Lok → En → Prop := fun ds kd lk e1 =>
  ∀ J H1 f1 P env', Abs K σ H1 env' f1 → Stp H env f [] H1 env' f1 [] → Kp env f env' f1 → Lk env' lk e1 → Wk K J ds kd H1 P → (∀ b ∈ P, (∃ o, H1 b = some o) ∧ ¬ W e1 f1 b) → (kd.isSome = true → ∀ b ∈ P, ¬ L0 e1 f1 b) → R J H1
def liftI (K : PySem.W.Frag) (t : XI) : TI := fun σ H R => ∃ env f, Abs K σ H env f ∧ t env (PostI K σ H env f R)
structure DI (X : Cx) (tg it : Expr) (t : XI) : Prop where
  run : PI X tg it (liftI X.K t)
  mono : MonoI t
theorem PI.imp {X : Cx} {tg it : Expr} {t u : TI} (h : PI X tg it t) (k : ∀ σ H R, u σ H R → t σ H R) : PI X tg it u := ⟨fun pins s σ H R I q => h.run pins s σ H R I (k _ _ _ q)⟩
def thaw (lk : Lok) (env : En) (k : En → Prop) : Prop := match lk with
  | none => k env
  | some (i, m) => match env[i]? with
    | some (some (d, .lk)) => k (env.set i (some (d, m)))
    | _ => False
theorem thaw_mono {lk : Lok} {env : En} {k k' : En → Prop} (h : ∀ e, k e → k' e) (q : thaw lk env k) : thaw lk env k' := by
  unfold thaw at q ⊢
  split at q
  · exact h _ q
  · split at q
    · simp only [*] <;> exact h _ q
    · exact q.elim
def forL (g : XG) (tb : XS) (kd : Option Bool) : List D → XS
  | [], env, nx, _ => nx env
  | d :: ds, env, nx, rt => g (mkI kd d) env fun e1 => tb e1 (fun e2 => forL g tb kd ds e2 nx rt) rt
def sFor (it : XI) (g : XG) (tb : XS) : XS := fun env nx rt => it env fun ds kd lk e1 => forL g tb kd ds e1 (fun e2 => thaw lk e2 nx) (fun d e2 => thaw lk e2 fun e3 => rt d e3)
theorem forL_mono {g : XG} {tb : XS} {kd : Option Bool} (mg : MonoG g) (mb : MonoS tb) : ∀ ds : List D, MonoS (forL g tb kd ds)
  | [], env, nx, nx', rt, rt', h, h', q => h _ q
  | d :: ds, env, nx, nx', rt, rt', h, h', q => mg _ _ _ _ (fun e1 q => mb _ _ _ _ _ (fun e2 q => forL_mono mg mb ds _ _ _ _ _ h h' q) h' q) q

section
variable {K : PySem.W.Frag} {σ σ' : L2.St} {H H1 H' : Hp} {env env' e1 e2 : En} {f f1 f2 : FA} {lk : Lok}
theorem remode_abs {i : Nat} {d : D} {m m' : Md} (A : Abs K σ H env f) (e : env[i]? = some (some (d, m))) (h : m.lv = 0) (h' : m'.lv = 0) : Abs K σ H (env.set i (some (d, m'))) f := by
  have hi : i < env.length := (List.getElem?_eq_some_iff.mp e).1
  have get : ∀ {j : Nat} {d1 : D} {m1 : Md}, (env.set i (some (d, m')))[j]? = some (some (d1, m1)) → ∃ m2, env[j]? = some (some (d1, m2)) ∧ m2.lv = m1.lv := fun {j d1 m1} q => by
    by_cases hj : j = i
    · subst hj
      rw [env_at hi] at q; cases q
      exact ⟨m, e, h.trans h'.symm⟩
    · rw [env_ne hj] at q
      exact ⟨m1, q, rfl⟩
  refine ⟨fun j d1 m1 q => ?_, fun j k d1 m1 d2 m2 hjk q1 q2 hl => ?_, by rw [List.length_set]; exact A.len⟩
  · obtain ⟨m2, q', hm⟩ := get q
    rw [← hm]
    exact A.rep j d1 m2 q'
  · obtain ⟨m3, q3, hm3⟩ := get q1
    obtain ⟨m4, q4, hm4⟩ := get q2
    exact A.dis j k d1 m3 d2 m4 hjk q3 q4 (hm3.trans hl)
theorem Lk.abs (h : Lk env lk e1) (A : Abs K σ H env f) : Abs K σ H e1 f := by
  cases h with
  | none => exact A
  | some e l => exact remode_abs A e l rfl
theorem Lk.w (h : Lk env lk e1) {b : Addr} (w : W e1 f b) : W env f b := by
  cases h with
  | none => exact w
  | @some i d m e l =>
    obtain ⟨j, d1, m1, q, hr, hb⟩ := w
    have hi : i < env.length := (List.getElem?_eq_some_iff.mp e).1
    by_cases hj : j = i
    · subst hj
      rw [env_at hi] at q; cases q; cases hr
    · rw [env_ne hj] at q
      exact ⟨j, d1, m1, q, hr, hb⟩
/-- the end of a loop: the slot is free again -/
theorem thaw_ok {k : En → Prop} (L : Lk env lk e1) (A : Abs K σ' H' e2 f2) (S : Stp H1 e1 f1 [] H' e2 f2 G) (Kk : Kq σ e1 f1 σ' e2 f2) (q : thaw lk e2 k) :
    ∃ e3, k e3 ∧ Abs K σ' H' e3 f2 ∧ Stp H1 env f1 [] H' e3 f2 G ∧ Kq σ env f1 σ' e3 f2 ∧ ∀ (i : Nat) (d : D) (m : Md), e3[i]? = some (some (d, m)) → (m = .io ∨ m = .lk) → ∃ m', e2[i]? = some (some (d, m')) ∧ (m' = .io ∨ m' = .lk) := by
  cases L with
  | none => exact ⟨e2, q, A, S, Kk, fun i d m e h => ⟨m, e, h⟩⟩
  | @some i d m e l =>
    have hi : i < env.length := (List.getElem?_eq_some_iff.mp e).1
    have he1 : (env.set i (some (d, Md.lk)))[i]? = some (some (d, Md.lk)) := env_at hi
    obtain ⟨hσ, he2, hf⟩ := Kk.lk i d he1
    have hi2 : i < e2.length := (List.getElem?_eq_some_iff.mp he2).1
    simp only [thaw, he2] at q
    refine ⟨_, q, remode_abs A he2 rfl l, ⟨fun b o h z => ?_, fun b z => ?_⟩, ⟨fun j d1 h => ?_, fun j d1 h => ?_, fun j d1 h => ?_⟩, fun j d1 m1 h hm => ?_⟩
    · refine S.same b o h (z.imp_right fun z => ⟨fun w => z.1 ((Lk.some e l : Lk env (some (i, m)) _).w w), z.2⟩)
    · have inj : (W e2 f2 b ∨ b ∈ G) → (W env f1 b ∨ b ∈ ([] : List Addr) ∨ H1 b = none) := fun z => (S.own b z).imp_left fun w => (Lk.some e l : Lk env (some (i, m)) _).w w
      rcases z with ⟨j, d1, m1, q1, hr, hb⟩ | z
      · by_cases hj : j = i
        · subst hj
          rw [env_at hi2] at q1; cases q1
          rw [hf] at hb
          exact .inl ⟨j, d, m, e, hr, hb⟩
        · rw [env_ne hj] at q1
          exact inj (.inl ⟨j, d1, m1, q1, hr, hb⟩)
      · exact inj (.inr z)
    · by_cases hj : j = i
      · subst hj
        rw [e] at h; cases h
        exact ⟨hσ, d, env_at hi2⟩
      · obtain ⟨a, d', b⟩ := Kk.io j d1 (by rw [env_ne hj]; exact h)
        exact ⟨a, d', by rw [env_ne hj]; exact b⟩
    · by_cases hj : j = i
      · subst hj
        rw [e] at h; cases h
        exact ⟨hσ, env_at hi2, hf⟩
      · obtain ⟨a, b, c⟩ := Kk.lk j d1 (by rw [env_ne hj]; exact h)
        exact ⟨a, by rw [env_ne hj]; exact b, c⟩
    · by_cases hj : j = i
      · subst hj
        rw [env_at hi2] at h; cases h
        exact e
      · rw [env_ne hj] at h
        have := Kk.lkr j d1 h
        rwa [env_ne hj] at this
    · by_cases hj : j = i
      · subst hj
        rw [env_at hi2] at h; cases h
        exact ⟨.lk, he2, .inr rfl⟩
      · rw [env_ne hj] at h
        exact ⟨m1, h, hm⟩
theorem item_src {P : List Addr} {kd : Option Bool} {d : D} {x : V} (h : Item K H P kd d x) (n : kd.isSome = true → ∀ b ∈ P, ¬ L0 env f b) : SrcOk K σ H env f (mkI kd d) x [] := by
  cases kd with
  | none => exact .tmp h no_mem_nil
  | some c =>
    obtain ⟨g, r, hg⟩ := h
    have n1 : ∀ b ∈ g, ¬ L0 env f b := fun b hb => n rfl b (hg b hb)
    show SrcOk K σ H env f (mkRo c d) x []
    cases d with
    | int i => exact .tmp r.int0 no_mem_nil
    | bl i => exact .tmp r.bl0 no_mem_nil
    | str i => exact .tmp r.str0 no_mem_nil
    | non => exact .tmp r.non0 no_mem_nil
    | _ => exact .ro r n1
end
section
variable {X : Cx} {tg it : Expr} {body : List Stmt} {ti : XI} {g : XG} {tb : XS} {pos : Pos} {ts : List Nat}
theorem ds_for (hx : Ok X) (hi : DI X tg it ti) (hg : DG X tg ts g) (hb : DSs X body tb) (hp : PassesOwn (model X.prog X.w) X.A X.env X.xe := by exact PassesOwn.never) (hs : ∀ x, foldedSetIterable it X.env x = pure x := by intro _; rfl) : DS X (.For tg it body [] pos) (sFor ti g tb) := by
  refine ⟨PS.imp (ps_for hp hx.calm hi.run hg.run hb.run hs) fun Dn σ H q => ?_, fun env nx nx' rt rt' h h' q => hi.mono _ _ _ (fun ds kd lk e q => forL_mono hg.mono hb.mono ds _ _ _ _ _ (fun e q => thaw_mono (fun e q => h _ q) q) (fun d e q => thaw_mono (fun e q => h' _ _ q) q) q) q⟩
  obtain ⟨env, f, A, q⟩ := q
  refine ⟨env, f, A, hi.mono _ _ _ (fun ds kd lk e1 q => ?_) q⟩
  intro J H1 f1 P env' A1 S1 K1 L Wa hP hPL
  have A1' := L.abs A1
  refine ⟨fun i m σ' H' => m = ds.length - i ∧ i ≤ ds.length ∧ ∃ e f', Abs X.K σ' H' e f' ∧ Stp H1 e1 f1 [] H' e f' [] ∧ Kq σ e1 f1 σ' e f' ∧
    forL g tb kd (ds.drop i) e (fun e2 => thaw lk e2 (PostN X.K σ H env f Dn.nx)) (fun d e2 => thaw lk e2 fun e3 => PostR X.K σ H env f Dn.rt d e3), ⟨ds.length, by simp, Nat.zero_le _, e1, f1, A1', .refl, .refl, q⟩, fun i m σ' H' w => ?_⟩
  obtain ⟨rfl, hi', e, f', A', S', K', q⟩ := w
  have near : Near H1 P H' := fun b o h z => S'.same b o h (by
    rcases z with z | z
    · exact .inr ⟨(hP b z).2, by simp⟩
    · exact .inl z)
  by_cases hlt : i < ds.length
  · refine .inr ⟨Wa.go i H' near hlt, fun σ2 H2 => _, fun σ2 H2 n2 => ⟨ds.length - (i + 1), by omega, n2⟩, fun x H2 hy => ?_⟩
    obtain ⟨sm, itm⟩ := Wa.yld i H' x H2 ds[i] near (List.getElem?_eq_getElem hlt) hy
    rw [List.drop_eq_getElem_cons hlt] at q
    have nl : kd.isSome = true → ∀ b ∈ P, ¬ L0 e f' b := fun hk b hb z => by
      obtain ⟨j, d1, m1, h1, h2, h3⟩ := z
      cases hr : m1.rd with
      | false =>
        rcases S'.own b (.inl ⟨j, d1, m1, h1, hr, h3⟩) with z | z | z
        · exact (hP b hb).2 z
        · simp at z
        · obtain ⟨o, ho⟩ := (hP b hb).1
          rw [z] at ho; cases ho
      | true =>
        have hm : m1 = .lk := by cases m1 <;> first | rfl | (cases hr; done) | (cases h2; done)
        subst hm
        have h4 := K'.lkr j d1 h1
        obtain ⟨_, _, h5⟩ := K'.lk j d1 h4
        rw [h5] at h3
        exact hPL hk b hb ⟨j, d1, .lk, h4, rfl, h3⟩
    refine ⟨e, f', mkI kd ds[i], [], A'.ext sm, item_src itm nl, hg.mono _ _ _ _ (fun e2 q2 => ?_) q⟩
    intro σ2 f2 A2 S2 K2 _ _ _
    have S3 : Stp H1 e1 f1 [] H2 e2 f2 [] := (S'.ext sm).trans S2
    have K3 := K'.trans K2
    refine ⟨e2, f2, A2, hb.mono _ _ _ _ _ (fun e3 q3 => ?_) (fun d e3 q3 => ?_) q2⟩
    · intro σ3 H3 f3 A3 S4 K4
      exact ⟨rfl, hlt, e3, f3, A3, S3.trans S4, K3.trans K4, q3⟩
    · intro v σ3 H3 f3 gg A3 rv nv S4 K4
      obtain ⟨e4, q4, A4, S5, K5, back⟩ := thaw_ok L A3 (S3.trans S4) (K3.trans K4) q3
      exact q4 v σ3 H3 f3 gg A4 rv (fun b hb i d m h hm => by
        obtain ⟨m', h', hm'⟩ := back i d m h hm
        exact nv b hb i d m' h' hm') (S1.trans S5) (K1.kq.trans K5)
  · have hie : i = ds.length := by omega
    subst hie
    rw [List.drop_length] at q
    obtain ⟨e3, q3, A3, S3, K3, _⟩ := thaw_ok L A' S' K' q
    exact .inl ⟨Wa.stop _ _ near (Nat.le_refl _), q3 σ' H' f' A3 (S1.trans S3) (K1.kq.trans K3)⟩

def sWhile (c : XT) (tb : XS) : XS := fun env nx rt => ∃ P : Nat → En → Prop, (∃ m, P m env) ∧ ∀ m e, P m e → c e fun b e1 => (b = true → tb e1 (fun e2 => ∃ m', m' < m ∧ P m' e2) rt) ∧ (b = false → nx e1)
theorem ds_while {c : Expr} {tc : XT} (hc : DT X c tc) (hb : DSs X body tb) (hp : PassesOwn (model X.prog X.w) X.A X.env X.xe := by exact PassesOwn.never) : DS X (.While c body [] pos) (sWhile tc tb) := by
  refine ⟨PS.imp (ps_while hp hc.run hb.run) fun Dn σ H q => ?_, fun env nx nx' rt rt' h h' q => ?_⟩
  · obtain ⟨env, f, A, P, ⟨m0, p0⟩, turn⟩ := q
    refine ⟨fun m σ' H' => ∃ e f', Abs X.K σ' H' e f' ∧ Stp H env f [] H' e f' [] ∧ Kq σ env f σ' e f' ∧ P m e, ⟨m0, env, f, A, .refl, .refl, p0⟩, fun m σ' H' w => ?_⟩
    obtain ⟨e, f', A', S', K', p⟩ := w
    refine ⟨e, f', A', hc.mono _ _ _ (fun b e1 q => ?_) (turn m e p)⟩
    intro H1 f1 A1 S1 K1
    cases b with
    | true =>
      rw [if_pos rfl]
      refine ⟨fun σ2 H2 => ∃ m', m' < m ∧ ∃ e f', Abs X.K σ2 H2 e f' ∧ Stp H env f [] H2 e f' [] ∧ Kq σ env f σ2 e f' ∧ P m' e, fun σ2 H2 n => n, e1, f1, A1, hb.mono _ _ _ _ _ (fun e2 q2 => ?_) (fun d e2 q2 => ?_) (q.1 rfl)⟩
      · intro σ2 H2 f2 A2 S2 K2
        obtain ⟨m', hm, p'⟩ := q2
        exact ⟨m', hm, e2, f2, A2, (S'.trans S1).trans S2, (K'.trans K1.kq).trans K2, p'⟩
      · exact q2.after (S'.trans S1) (K'.trans K1.kq)
    | false =>
      rw [if_neg Bool.false_ne_true]
      exact q.2 rfl σ' H1 f1 A1 (S'.trans S1) (K'.trans K1.kq)
  · obtain ⟨P, h0, turn⟩ := q
    exact ⟨P, h0, fun m e p => hc.mono _ _ _ (fun b e1 q => ⟨fun z => hb.mono _ _ _ _ _ (fun e q => q) h' (q.1 z), fun z => h _ (q.2 z)⟩) (turn m e p)⟩
end

def lockOf (r : R) (env : En) (k : Option Bool → Lok → En → Prop) (im : Bool) : Prop := match r with
  | .tmp _ => im = true ∧ k none none env
  | .ro c _ => k (some c) none env
  | .sl i => match env[i]? with
    | some (some (d, m)) => im = true ∧ k none (some (i, m)) (env.set i (some (d, .lk)))
    | _ => False
/-- a list or a tuple -/
def iSeq (t : XE) : XI := fun env k => t env fun r e => rd 2 r e fun d => match d with
  | .lst xs => lockOf r e (fun kd lk e1 => k xs kd lk e1) (immL xs)
  | .tup xs => lockOf r e (fun kd lk e1 => k xs kd lk e1) (immL xs)
  | _ => False
def iRange1 (t : XE) : XI := fun env k => t env fun r e => rd 2 r e fun d => match d with
  | .int j => -(2 ^ 62) ≤ j ∧ j < 2 ^ 62 ∧ k ((List.range j.toNat).map fun n => .int (n : Nat)) none none e
  | _ => False
def iRange2 (t u : XE) : XI := fun env k => t env fun r e => u e fun r2 e2 => rd 2 r e2 fun d => rd 2 r2 e2 fun d2 => match d, d2 with
  | .int i, .int j => (-(2 ^ 62) ≤ i ∧ i < 2 ^ 62 ∧ -(2 ^ 62) ≤ j ∧ j < 2 ^ 62) ∧ k ((List.range (j - i).toNat).map fun n => .int (i + (n : Nat))) none none e2
  | _, _ => False
theorem lockOf_mono {r : R} {env : En} {k k' : Option Bool → Lok → En → Prop} {im : Bool} (h : ∀ kd lk e, k kd lk e → k' kd lk e) (q : lockOf r env k im) : lockOf r env k' im := by
  cases r with
  | tmp d => exact ⟨q.1, h _ _ _ q.2⟩
  | ro c d => exact h _ _ _ q
  | sl i =>
    unfold lockOf at q ⊢
    dsimp only at q ⊢
    cases e : env[i]? with
    | none => rw [e] at q; exact q.elim
    | some x => cases x with
      | none => rw [e] at q; exact q.elim
      | some p => rw [e] at q; exact ⟨q.1, h _ _ _ q.2⟩
section
variable {K : PySem.W.Frag} {H0 : Hp} {P : List Addr} {n : Nat}
theorem wk_range {lo : Int} : Wk K (Itr lo n) ((List.range n).map fun k => .int (lo + (k : Nat))) none H0 [] where
  go := fun i H _ h => by show i < n; simpa using h
  stop := fun i H _ h => by show n ≤ i; simpa using h
  yld := fun i H x H' d _ h hy => by
    obtain ⟨rfl, rfl⟩ := hy
    refine ⟨fun b o h => h, ?_⟩
    rw [List.getElem?_map] at h
    cases e : (List.range n)[i]? with
    | none => rw [e] at h; cases h
    | some j =>
      rw [e] at h
      have hj : j = i := by
        obtain ⟨h1, h2⟩ := List.getElem?_eq_some_iff.mp e
        simpa using h2.symm
      subst hj
      cases h
      exact .int _
end
section
variable {X : Cx} {tg e e2 : Expr} {t u : XE} {p pos : Pos}
theorem di_range1 (ha : DE X e t) (hm : X.mg "range" = none) (hg : Gl X "range" := by rfl) (hs : starEach [e] X.env = [(false, eval e X.env)] := by rfl) (hs' : starEach [e] X.env = (false, eval e X.env) :: starEach [] X.env := by rfl) : DI X tg (.Call (.Name "range" p) [e] [] pos) (iRange1 t) := by
  refine ⟨PI.imp (pi_range1 hg hm (da_cons ha da_nil hs').run hs) fun σ H R q => ?_, fun env k k' h q => ha.mono _ _ _ (fun r e q => rd_mono (fun d q => ?_) q) q⟩
  · obtain ⟨env, f, A, q⟩ := q
    refine ⟨env, f, A, ha.mono _ _ _ (fun r1 e1 q => ?_) q⟩
    intro vs H1 f1 gs A1 R1 S1 K1
    cases R1 with
    | cons R1 Rt _ =>
      cases Rt
      obtain ⟨d, g', rp, q⟩ := rd_ok A1 R1 q
      cases d with
      | int j =>
        obtain ⟨rfl, _⟩ := rp.intV
        refine ⟨j, rfl, q.1, q.2.1, q.2.2 _ H1 f1 [] e1 A1 (S1.drop fun _ z => by simp at z) K1 .none ?_ (fun b hb => by simp at hb) (fun _ b hb => by simp at hb)⟩
        have := wk_range (K := X.K) (H0 := H1) (n := j.toNat) (lo := 0)
        simpa using this
      | _ => exact q.elim
  · cases d with
    | int j => exact ⟨q.1, q.2.1, h _ _ _ _ q.2.2⟩
    | _ => exact q.elim
theorem di_range2 (ha : DE X e t) (hb : DE X e2 u) (hm : X.mg "range" = none) (hg : Gl X "range" := by rfl) (hs : starEach [e, e2] X.env = [(false, eval e X.env), (false, eval e2 X.env)] := by rfl) (hs2 : starEach [e2] X.env = [(false, eval e2 X.env)] := by rfl)
    (hs' : starEach [e, e2] X.env = (false, eval e X.env) :: starEach [e2] X.env := by rfl) (hs2' : starEach [e2] X.env = (false, eval e2 X.env) :: starEach [] X.env := by rfl) : DI X tg (.Call (.Name "range" p) [e, e2] [] pos) (iRange2 t u) := by
  refine ⟨PI.imp (pi_range2 hg hm (da_cons ha (da_cons hb da_nil hs2') hs').run hs hs2) fun σ H R q => ?_, fun env k k' h q => ha.mono _ _ _ (fun r e q => hb.mono _ _ _ (fun r2 e2 q => rd_mono (fun d q => rd_mono (fun d2 q => ?_) q) q) q) q⟩
  · obtain ⟨env, f, A, q⟩ := q
    refine ⟨env, f, A, ha.mono _ _ _ (fun r1 e1 q => hb.mono _ _ _ (fun r2 e2 q => ?_) q) q⟩
    intro vs H1 f1 gs A1 R1 S1 K1
    cases R1 with
    | cons R1 Rt _ =>
      cases Rt with
      | cons R2 Rt _ =>
        cases Rt
        obtain ⟨d, g', rp, q⟩ := rd_ok A1 R1 q
        obtain ⟨d2, g2', rp2, q⟩ := rd_ok A1 R2 q
        split at q
        · obtain ⟨rfl, _⟩ := rp.intV
          obtain ⟨rfl, _⟩ := rp2.intV
          exact ⟨_, _, rfl, q.1, q.2 _ H1 f1 [] e2 A1 (S1.drop fun _ z => by simp at z) K1 .none wk_range (fun b hb => by simp at hb) (fun _ b hb => by simp at hb)⟩
        · exact q.elim
  · split at q
    · exact ⟨q.1, h _ _ _ _ q.2⟩
    · exact q.elim
end
section
variable {X : Cx} {tg e : Expr} {t : XE}
/-- a list or a tuple, by what it turns out to be -/
def iSeqV (K : PySem.W.Frag) (tl : TE) : TI := fun σ H R => tl σ H fun x H1 => ∃ a xs, x = .ref a ∧ ((SqL K H1 a xs ∧ R (Itl K a) H1) ∨ (SqT K H1 a xs ∧ R (Itt K a) H1))
theorem pi_seqV {l : Expr} {tl : TE} (hl : PE X l tl) : PI X tg l (iSeqV X.K tl) := by
  constructor
  intro pins s σ H R I h
  refine thn (hl.run pins s σ H _ I h) ?_
  rintro v s1 ⟨x, H1, I1, r1, a, xs, rfl, q⟩
  obtain rfl : v = Value.ref a := r1
  have fresh : ∀ b ∈ [s1.heap.objs.size], FpOk X pins H1 b := fun b hb => by
    rw [List.mem_singleton.mp hb]
    exact I1.fpOk (Nat.le_refl _) (I1.hok.fresh (Nat.le_refl _))
  have push : ∀ ob : Obj, Inv X pins σ H1 { s1 with heap := s1.heap.push ob } := fun ob => I1.kept (t' := s1.toks) fun b o z => Heap.get?_push_of_some _ z
  rcases q with ⟨hq, q⟩ | ⟨hq, q⟩
  · obtain ⟨its, _, pl, _⟩ := I1.list hq
    exact wpAny_pyIter_list pl.isList ⟨_, [s1.heap.objs.size], _, _, H1, rfl, push _, turn_list a _, ⟨_, Heap.get?_push_size _ rfl, rfl, rfl⟩, fresh, q⟩
  · obtain ⟨its, _, pl, _⟩ := I1.tuple hq
    exact wpAny_pyIter_tuple (show s1.heap.IsTuple a its.toArray from pl) ⟨_, [s1.heap.objs.size], _, _, H1, rfl, push _, turn_tuple a _, ⟨_, Heap.get?_push_size _ rfl, rfl, rfl⟩, fresh, q⟩
section
variable {K : PySem.W.Frag} {σ : L2.St} {H H1 : Hp} {env e1 e2 : En} {f f1 : FA} {g : List Addr} {r : R} {x : V} {ds : List D}
/-- how a walked thing is held while the loop runs -/
theorem lock_ok {RR : It → Hp → Prop} {J : It} {d : D} (A : Abs K σ H1 e1 f1) (S : Stp H env f [] H1 e1 f1 g) (Kk : Kp env f e1 f1) (h : ResOk K σ H1 e1 f1 r x g) (im : Bool) (q : lockOf r e1 (fun kd lk e2 => PostI K σ H env f RR ds kd lk e2) im)
    (wk : ∀ (lv : Nat) (gg : List Addr), Rep K H1 lv d x gg → (im = true → lv ≤ 1 → Wk K J ds none H1 gg) ∧ ∀ c, lv = clv c → Wk K J ds (some c) H1 gg)
    (dd : r.data 2 e1 = some d) : RR J H1 := by
  have S0 : Stp H env f [] H1 e1 f1 [] := S.drop fun _ z => by simp at z
  cases h with
  | @tmp d' _ _ rp n =>
    cases dd
    obtain ⟨hi, q⟩ := q
    exact q J H1 f1 g e1 A S0 Kk .none ((wk 0 g rp).1 hi (Nat.zero_le _)) (fun b hb => ⟨(rp.dom b hb).imp fun o z => z.1, fun w => (n b hb).1 w.l0⟩) (fun z => nomatch z)
  | @ro c d' _ g0 rp n =>
    have dd' : d' = d := by
      unfold BX.R.data at dd
      cases e : roOk c 2 with
      | false => simp only [e] at dd; cases dd
      | true => simp only [e] at dd; exact Option.some.inj dd
    subst dd'
    exact q J H1 f1 g0 e1 A S0 Kk .none ((wk _ g0 rp).2 c rfl) (fun b hb => ⟨(rp.dom b hb).imp fun o z => z.1, fun w => A.apart w.l0 (n b hb)⟩) (fun _ b hb z => A.apart z (n b hb))
  | @sl i _ d' m h1 h2 h3 =>
    obtain ⟨w, h4, rp⟩ := A.rep _ _ _ h2
    rw [h1] at h4; cases h4
    have dd' : d' = d := by
      unfold BX.R.data at dd
      simp only [h2] at dd
      cases e : m.okL 2 with
      | false => simp only [e] at dd; cases dd
      | true => simp only [e] at dd; exact Option.some.inj dd
    subst dd'
    unfold lockOf at q
    simp only [h2] at q
    obtain ⟨hi, q⟩ := q
    have L : Lk e1 (some (i, m)) (e1.set i (some (d', .lk))) := .some h2 h3
    refine q J H1 f1 (f1 i) e1 A S0 Kk L ((wk _ (f1 i) rp).1 hi (by rw [h3]; exact Nat.zero_le _)) (fun b hb => ⟨(rp.dom b hb).imp fun o z => z.1, fun w => ?_⟩) (fun z => nomatch z)
    obtain ⟨j, d1, m1, e3, hr, hb'⟩ := w
    have hi1 : i < e1.length := (List.getElem?_eq_some_iff.mp h2).1
    by_cases hj : j = i
    · subst hj
      rw [env_at hi1] at e3; cases e3; cases hr
    · rw [env_ne hj] at e3
      exact A.dis i j _ _ _ _ (Ne.symm hj) h2 e3 h3 b hb hb'
theorem near_rep {P : List Addr} {lv : Nat} {d : D} {gg : List Addr} (r : Rep K H1 lv d x gg) (n : Near H1 P H) (h : ∀ b ∈ gg, b ∈ P) : Rep K H lv d x gg := r.keep fun b o e z => n b o e (z.imp_left (h b))
theorem item_of {P gg : List Addr} {lv : Nat} {d : D} (r : Rep K H lv d x gg) (h : ∀ b ∈ gg, b ∈ P) : (lv ≤ 1 → d.imm = true → Item K H P none d x) ∧ ∀ c, lv = clv c → Item K H P (some c) d x :=
  ⟨fun l im => (r.imm l im).2, fun c e => ⟨gg, by rw [← e]; exact r, h⟩⟩
theorem wk_seqL {lv : Nat} {a : Addr} {vs : List V} {gg P : List Addr} (hq : ∀ H, Near H1 P H → SqL K H a vs) (rr : Reps K H1 lv ds vs gg) (hg : ∀ b ∈ gg, b ∈ P) :
    (immL ds = true → lv ≤ 1 → Wk K (Itl K a) ds none H1 P) ∧ ∀ c, lv = clv c → Wk K (Itl K a) ds (some c) H1 P := by
  have it : ∀ (i : Nat) (H : Hp) (x : V) (H' : Hp) (d : D), Near H1 P H → ds[i]? = some d → (Itl K a).yld i H x H' → H' = H ∧ ∃ g, Rep K H lv d x g ∧ ∀ b ∈ g, b ∈ P := fun i H x H' d n e y => by
    obtain ⟨rfl, y⟩ := y
    obtain ⟨v, g, e1, r, hs⟩ := rr.get e
    have := y vs (hq _ n)
    rw [e1] at this; cases this
    exact ⟨rfl, g, near_rep r n fun b hb => hg b (hs b hb), fun b hb => hg b (hs b hb)⟩
  have go : ∀ (i : Nat) (H : Hp), Near H1 P H → i < ds.length → (Itl K a).go i H := fun i H n h => ⟨vs, vs[i]'(by rw [← rr.len]; exact h), hq H n, List.getElem?_eq_getElem _⟩
  have st : ∀ (i : Nat) (H : Hp), Near H1 P H → ds.length ≤ i → (Itl K a).stop i H := fun i H n h => ⟨vs, hq H n, by rw [← rr.len]; exact h⟩
  refine ⟨fun im l => ⟨go, st, fun i H x H' d n e y => ?_⟩, fun c hc => ⟨go, st, fun i H x H' d n e y => ?_⟩⟩
  · obtain ⟨rfl, g, r, hs⟩ := it i H x H' d n e y
    exact ⟨fun b o h => h, (item_of r hs).1 l (immL_mem im d (List.mem_of_getElem? e))⟩
  · obtain ⟨rfl, g, r, hs⟩ := it i H x H' d n e y
    exact ⟨fun b o h => h, (item_of r hs).2 c hc⟩
theorem wk_seqT {lv : Nat} {a : Addr} {vs : List V} {gg P : List Addr} (hq : ∀ H, Near H1 P H → SqT K H a vs) (rr : Reps K H1 lv ds vs gg) (hg : ∀ b ∈ gg, b ∈ P) :
    (immL ds = true → lv ≤ 1 → Wk K (Itt K a) ds none H1 P) ∧ ∀ c, lv = clv c → Wk K (Itt K a) ds (some c) H1 P := by
  have it : ∀ (i : Nat) (H : Hp) (x : V) (H' : Hp) (d : D), Near H1 P H → ds[i]? = some d → (Itt K a).yld i H x H' → H' = H ∧ ∃ g, Rep K H lv d x g ∧ ∀ b ∈ g, b ∈ P := fun i H x H' d n e y => by
    obtain ⟨rfl, y⟩ := y
    obtain ⟨v, g, e1, r, hs⟩ := rr.get e
    have := y vs (hq _ n)
    rw [e1] at this; cases this
    exact ⟨rfl, g, near_rep r n fun b hb => hg b (hs b hb), fun b hb => hg b (hs b hb)⟩
  have go : ∀ (i : Nat) (H : Hp), Near H1 P H → i < ds.length → (Itt K a).go i H := fun i H n h => ⟨vs, vs[i]'(by rw [← rr.len]; exact h), hq H n, List.getElem?_eq_getElem _⟩
  have st : ∀ (i : Nat) (H : Hp), Near H1 P H → ds.length ≤ i → (Itt K a).stop i H := fun i H n h => ⟨vs, hq H n, by rw [← rr.len]; exact h⟩
  refine ⟨fun im l => ⟨go, st, fun i H x H' d n e y => ?_⟩, fun c hc => ⟨go, st, fun i H x H' d n e y => ?_⟩⟩
  · obtain ⟨rfl, g, r, hs⟩ := it i H x H' d n e y
    exact ⟨fun b o h => h, (item_of r hs).1 l (immL_mem im d (List.mem_of_getElem? e))⟩
  · obtain ⟨rfl, g, r, hs⟩ := it i H x H' d n e y
    exact ⟨fun b o h => h, (item_of r hs).2 c hc⟩
theorem near_list {lv : Nat} {gg : List Addr} (r : Rep K H1 lv (.lst ds) x gg) : ∃ a vs g, x = .ref a ∧ SqL K H1 a vs ∧ (∀ H, Near H1 gg H → SqL K H a vs) ∧ Reps K H1 lv ds vs g ∧ ∀ b ∈ g, b ∈ gg := by
  obtain ⟨a, vs, g, rfl, h, rr, hs, z⟩ := r.listSq
  refine ⟨a, vs, g, rfl, h, fun H n => ?_, rr, hs⟩
  rcases z with ⟨z, zm⟩ | z
  · exact .of (n a _ z (.inl zm))
  · exact (z.keep fun o e m => n a o e (.inr m)).sq
theorem near_tup {lv : Nat} {gg : List Addr} (r : Rep K H1 lv (.tup ds) x gg) : ∃ a vs, x = .ref a ∧ SqT K H1 a vs ∧ (∀ H, Near H1 gg H → SqT K H a vs) ∧ Reps K H1 lv ds vs gg := by
  cases r with
  | tup h r => exact ⟨_, _, rfl, .of h, fun H n => .of (n _ _ h (.inr rfl)), r⟩
  | tupK l h r => exact ⟨_, _, rfl, h.sq, fun H n => h.sq, r⟩
theorem rd_data {L : Nat} {k : D → Prop} (q : rd L r env k) : ∃ d, r.data L env = some d ∧ k d := by
  unfold rd at q
  cases e : r.data L env with
  | none => rw [e] at q; exact q.elim
  | some d => rw [e] at q; exact ⟨d, rfl, q⟩
end
theorem di_seq (ha : DE X e t) : DI X tg e (iSeq t) := by
  refine ⟨PI.imp (pi_seqV ha.run) fun σ H R q => ?_, fun env k k' h q => ha.mono _ _ _ (fun r e q => rd_mono (fun d q => ?_) q) q⟩
  · obtain ⟨env, f, A, q⟩ := q
    refine ⟨env, f, A, ha.mono _ _ _ (fun r1 e1 q => ?_) q⟩
    intro x H1 f1 g A1 R1 S1 K1
    obtain ⟨d, dd, q⟩ := rd_data q
    have rp0 : ∃ gg, Rep X.K H1 2 d x gg := by
      obtain ⟨d', gg, rp, hd⟩ := rd_ok (L := 2) (k := fun d' => d' = d) A1 R1 (by unfold rd; rw [dd])
      subst hd
      exact ⟨gg, rp⟩
    obtain ⟨gg0, rp0⟩ := rp0
    cases d with
    | lst ds =>
      obtain ⟨a, vs, g1, rfl, hq, hn, rr, hs⟩ := near_list rp0
      refine ⟨a, vs, rfl, .inl ⟨hq, lock_ok A1 S1 K1 R1 (immL ds) q (fun lv gg z => ?_) dd⟩⟩
      obtain ⟨a', vs', g2, e1, hq', hn', rr', hs'⟩ := near_list z
      cases e1
      exact wk_seqL hn' rr' hs'
    | tup ds =>
      obtain ⟨a, vs, rfl, hq, hn, rr⟩ := near_tup rp0
      refine ⟨a, vs, rfl, .inr ⟨hq, lock_ok A1 S1 K1 R1 (immL ds) q (fun lv gg z => ?_) dd⟩⟩
      obtain ⟨a', vs', e1, hq', hn', rr'⟩ := near_tup z
      cases e1
      exact wk_seqT hn' rr' fun b hb => hb
    | _ => exact q.elim
  · cases d with
    | lst ds => exact lockOf_mono (fun kd lk e q => h _ _ _ _ q) q
    | tup ds => exact lockOf_mono (fun kd lk e q => h _ _ _ _ q) q
    | _ => exact q.elim
end
end BX

namespace BX
open PySem PySem.Spec PyProof.Rows L2

def wipeE : List Nat → En → En
  | [], env => env
  | v :: vs, env => (wipeE vs env).set v none
def restE : List Nat → En → En → En
  | [], _, env => env
  | v :: vs, e1, env => (restE vs e1 env).set v (e1.getD v none)
def lcL (g : XG) (tt : XT) (te : XE) (kd : Option Bool) (vs : List Nat) : List D → En → List D → (List D → En → Prop) → Prop
  | [], env, acc, k => k acc env
  | d :: ds, env, acc, k => g (mkI kd d) env fun e1 => tt e1 fun b e2 => (b = true → te e2 fun r e3 => stor r e3 fun dd => acc.length < sizeLine ∧ lcL g tt te kd vs ds (wipeE vs e3) (acc ++ [dd]) k) ∧ (b = false → lcL g tt te kd vs ds (wipeE vs e2) acc k)
def dLc (it : XI) (g : XG) (tt : XT) (te : XE) (vs : List Nat) : XE := fun env Q => it env fun ds kd lk e1 => (vs.all fun v => setOk e1 v) = true ∧ lcL g tt te kd vs ds (wipeE vs e1) [] fun acc e2 => thaw lk (restE vs e1 e2) fun e3 => Q (.tmp (.lst acc)) e3
def xYes : XT := fun env Q => Q true env
theorem lcL_mono {g : XG} {tt : XT} {te : XE} {kd : Option Bool} {vs : List Nat} (mg : MonoG g) (mt : MonoT tt) (me : MonoE te) : ∀ (ds : List D) (env : En) (acc : List D) (k k' : List D → En → Prop), (∀ a e, k a e → k' a e) → lcL g tt te kd vs ds env acc k → lcL g tt te kd vs ds env acc k'
  | [], env, acc, k, k', h, q => h _ _ q
  | d :: ds, env, acc, k, k', h, q => mg _ _ _ _ (fun e1 q => mt _ _ _ (fun b e2 q => ⟨fun z => me _ _ _ (fun r e3 q => stor_mono (fun dd q => ⟨q.1, lcL_mono mg mt me ds _ _ _ _ h q.2⟩) q) (q.1 z), fun z => lcL_mono mg mt me ds _ _ _ _ h (q.2 z)⟩) q) q
section
theorem wipeE_len (env : En) : ∀ vs : List Nat, (wipeE vs env).length = env.length
  | [] => rfl
  | v :: vs => by rw [wipeE, List.length_set, wipeE_len env vs]
theorem wipeE_in {env : En} {j : Nat} : ∀ {vs : List Nat}, j ∈ vs → j < env.length → (wipeE vs env)[j]? = some none
  | v :: vs, h, hj => by
    rw [wipeE]
    by_cases e : j = v
    · subst e
      rw [List.getElem?_set_self (by rw [wipeE_len]; exact hj)]
    · rw [List.getElem?_set_ne (Ne.symm e)]
      exact wipeE_in ((List.mem_cons.mp h).resolve_left e) hj
theorem wipeE_out {env : En} {j : Nat} : ∀ {vs : List Nat}, j ∉ vs → (wipeE vs env)[j]? = env[j]?
  | [], _ => rfl
  | v :: vs, h => by
    rw [wipeE, List.getElem?_set_ne (fun e => h (by rw [e]; exact List.mem_cons_self ..))]
    exact wipeE_out fun z => h (List.mem_cons_of_mem _ z)
theorem wipeE_some {env : En} {j : Nat} {vs : List Nat} {x : D × Md} (h : (wipeE vs env)[j]? = some (some x)) : j ∉ vs ∧ env[j]? = some (some x) := by
  by_cases hj : j ∈ vs
  · have hl : j < env.length := by rw [← wipeE_len env vs]; exact (List.getElem?_eq_some_iff.mp h).1
    rw [wipeE_in hj hl] at h; cases h
  · exact ⟨hj, by rw [← wipeE_out hj]; exact h⟩
theorem wipe_in {σ : L2.St} {j : Nat} : ∀ {vs : List Nat}, j ∈ vs → j < σ.length → (wipe σ vs)[j]? = some none
  | v :: vs, h, hj => by
    rw [wipe]
    by_cases e : j = v
    · subst e
      rw [List.getElem?_set_self (by rw [wipe_length]; exact hj)]
    · rw [List.getElem?_set_ne (Ne.symm e)]
      exact wipe_in ((List.mem_cons.mp h).resolve_left e) hj
theorem wipe_same {σ σ2 : L2.St} {vs : List Nat} (hl : σ2.length = σ.length) (h : ∀ j, j ∉ vs → σ2[j]? = σ[j]?) : wipe σ2 vs = wipe σ vs := by
  apply List.ext_getElem?
  intro j
  by_cases hj : j ∈ vs
  · by_cases hlt : j < σ.length
    · rw [wipe_in hj hlt, wipe_in hj (by omega)]
    · rw [List.getElem?_eq_none (by rw [wipe_length]; omega), List.getElem?_eq_none (by rw [wipe_length]; omega)]
  · rw [wipe_out hj, wipe_out hj, h j hj]
theorem restE_len (e1 env : En) : ∀ vs : List Nat, (restE vs e1 env).length = env.length
  | [] => rfl
  | v :: vs => by rw [restE, List.length_set, restE_len e1 env vs]
theorem restE_in {e1 env : En} {j : Nat} (hl : env.length = e1.length) : ∀ {vs : List Nat}, j ∈ vs → j < e1.length → (restE vs e1 env)[j]? = e1[j]?
  | v :: vs, h, hj => by
    rw [restE]
    by_cases e : j = v
    · subst e
      rw [List.getElem?_set_self (by rw [restE_len]; omega), List.getD_eq_getElem?_getD, List.getElem?_eq_getElem hj]
      rfl
    · rw [List.getElem?_set_ne (Ne.symm e)]
      exact restE_in hl ((List.mem_cons.mp h).resolve_left e) hj
theorem restE_out {e1 env : En} {j : Nat} : ∀ {vs : List Nat}, j ∉ vs → (restE vs e1 env)[j]? = env[j]?
  | [], _ => rfl
  | v :: vs, h => by
    rw [restE, List.getElem?_set_ne (fun e => h (by rw [e]; exact List.mem_cons_self ..))]
    exact restE_out fun z => h (List.mem_cons_of_mem _ z)
end
section
variable {K : PySem.W.Frag} {σ σ' : L2.St} {H H1 H' : Hp} {env env' e1 e2 : En} {f f1 f2 : FA} {vs : List Nat} {G : List Addr}
theorem wipe_abs (A : Abs K σ H env f) : Abs K (wipe σ vs) H (wipeE vs env) f := by
  refine ⟨fun i d m h => ?_, fun i j d m d' m' hij h1 h2 hl => A.dis i j d m d' m' hij (wipeE_some h1).2 (wipeE_some h2).2 hl, by rw [wipeE_len, wipe_length]; exact A.len⟩
  obtain ⟨hi, h'⟩ := wipeE_some h
  obtain ⟨v, h1, r⟩ := A.rep i d m h'
  exact ⟨v, by rw [wipe_out hi]; exact h1, r⟩
theorem wipe_w {b : Addr} (h : W (wipeE vs env) f b) : W env f b := let ⟨i, d, m, e, r, hb⟩ := h; ⟨i, d, m, (wipeE_some e).2, r, hb⟩
theorem wipe_l0 {b : Addr} (h : L0 (wipeE vs env) f b) : L0 env f b := let ⟨i, d, m, e, r, hb⟩ := h; ⟨i, d, m, (wipeE_some e).2, r, hb⟩
theorem wipe_ro {b : Addr} (h : Ro (wipeE vs env) f b) : Ro env f b := let ⟨i, d, m, e, r, hb⟩ := h; ⟨i, d, m, (wipeE_some e).2, r, hb⟩
/-- behind a comprehension the names that were hidden stand as before -/
theorem rest_ok {gs : List Addr} (A : Abs K σ H1 e1 f1) (ok : (vs.all fun v => setOk e1 v) = true) (A' : Abs K (wipe σ vs) H' e2 f2) (S : Stp H1 (wipeE vs e1) f1 [] H' e2 f2 gs) (Kk : Kp (wipeE vs e1) f1 e2 f2) (n : ∀ b ∈ gs, ¬ L0 e2 f2 b ∧ ¬ Ro e2 f2 b) :
    ∃ f3, Abs K σ H' (restE vs e1 e2) f3 ∧ Stp H1 e1 f1 [] H' (restE vs e1 e2) f3 gs ∧ Kp e1 f1 (restE vs e1 e2) f3 ∧ ∀ b ∈ gs, ¬ L0 (restE vs e1 e2) f3 b ∧ ¬ Ro (restE vs e1 e2) f3 b := by
  have hlen : e2.length = e1.length := by
    have := A'.len
    rw [wipe_length] at this
    have h2 := A.len
    omega
  have okm : ∀ v ∈ vs, setOk e1 v = true := List.all_eq_true.mp ok
  have inn : ∀ {j : Nat} {x : D × Md}, j ∈ vs → (restE vs e1 e2)[j]? = some (some x) → e1[j]? = some (some x) := fun {j x} hj h => by
    have := (List.getElem?_eq_some_iff.mp h).1
    rw [restE_len] at this
    rwa [restE_in hlen hj (by omega)] at h
  have out : ∀ {j : Nat} {x : D × Md}, j ∉ vs → (restE vs e1 e2)[j]? = some (some x) → e2[j]? = some (some x) := fun {j x} hj h => by rwa [restE_out hj] at h
  have frI : ∀ {j : Nat}, j ∈ vs → (if j ∈ vs then f1 j else f2 j) = f1 j := fun {j} h => if_pos h
  have frO : ∀ {j : Nat}, j ∉ vs → (if j ∈ vs then f1 j else f2 j) = f2 j := fun {j} h => if_neg h
  -- a hidden slot's things are apart from all that may have been touched
  have hid : ∀ {j : Nat} {d : D} {m : Md}, j ∈ vs → e1[j]? = some (some (d, m)) → ∀ b ∈ f1 j, (∃ o, H1 b = some o ∧ Mu o = true) ∧ ((m.lv = 0) → ¬ L0 (wipeE vs e1) f1 b ∧ ¬ Ro (wipeE vs e1) f1 b) ∧ ¬ W (wipeE vs e1) f1 b := fun {j d m} hj h b hb => by
    obtain ⟨v, _, r⟩ := A.rep j d m h
    refine ⟨r.dom b hb, fun hl => ⟨?_, ?_⟩, ?_⟩
    · rintro ⟨k, d2, m2, h2, h3, h4⟩
      obtain ⟨nk, h2'⟩ := wipeE_some h2
      exact A.dis j k _ _ _ _ (fun z => nk (z ▸ hj)) h h2' hl b hb h4
    · rintro ⟨k, d2, m2, h2, h3, h4⟩
      obtain ⟨nk, h2'⟩ := wipeE_some h2
      exact A.dis j k _ _ _ _ (fun z => nk (z ▸ hj)) h h2' hl b hb h4
    · rintro ⟨k, d2, m2, h2, h3, h4⟩
      obtain ⟨nk, h2'⟩ := wipeE_some h2
      exact A.dis k j _ _ _ _ (fun z => nk (z ▸ hj)) h2' h (Md.lv_of h3) b h4 hb
  have hid2 : ∀ {j : Nat} {d : D} {m : Md}, j ∈ vs → e1[j]? = some (some (d, m)) → ∀ b ∈ f1 j, ¬ (W e2 f2 b ∨ b ∈ gs) := fun {j d m} hj h b hb z => by
    obtain ⟨⟨o, ho, _⟩, _, h3⟩ := hid hj h b hb
    rcases S.own b z with z | z | z
    · exact h3 z
    · simp at z
    · rw [ho] at z; cases z
  have l0out : ∀ b, L0 e2 f2 b → W e2 f2 b ∨ L0 (wipeE vs e1) f1 b := fun b h => Kk.l0 h
  refine ⟨fun j => if j ∈ vs then f1 j else f2 j, ⟨fun j d m h => ?_, fun j k d m d' m' hjk h1 h2 hl b hb z => ?_, by rw [restE_len, hlen]; exact A.len⟩, ⟨fun b o h z => ?_, fun b z => ?_⟩, ⟨?_, fun j d m h hr => ?_⟩, fun b hb => ⟨?_, ?_⟩⟩
  · by_cases hj : j ∈ vs
    · have h' := inn hj h
      obtain ⟨v, h3, r⟩ := A.rep j d m h'
      refine ⟨v, h3, ?_⟩
      simp only [frI hj]
      refine r.keep fun b o hb q => S.same b o hb ?_
      rcases q with q | q
      · exact .inr ⟨(hid hj h' b q).2.2, by simp⟩
      · exact .inl q
    · obtain ⟨v, h3, r⟩ := A'.rep j d m (out hj h)
      refine ⟨v, by rw [wipe_out hj] at h3; exact h3, ?_⟩
      simp only [frO hj]
      exact r
  · by_cases hj : j ∈ vs
    · have h1' := inn hj h1
      simp only [frI hj] at hb
      by_cases hk : k ∈ vs
      · simp only [frI hk] at z
        exact A.dis j k _ _ _ _ hjk h1' (inn hk h2) hl b hb z
      · simp only [frO hk] at z
        have h2' := out hk h2
        obtain ⟨_, hh, _⟩ := hid hj h1' b hb
        by_cases hl2 : m'.lv = 0
        · rcases l0out b ⟨k, d', m', h2', hl2, z⟩ with y | y
          · exact hid2 hj h1' b hb (.inl y)
          · exact (hh hl).1 y
        · exact (hh hl).2 (Kk.ro' ⟨k, d', m', h2', hl2, z⟩)
    · have h1' := out hj h1
      simp only [frO hj] at hb
      by_cases hk : k ∈ vs
      · simp only [frI hk] at z
        have h2' := inn hk h2
        rcases l0out b ⟨j, d, m, h1', hl, hb⟩ with y | y
        · exact hid2 hk h2' b z (.inl y)
        · obtain ⟨i2, d2, m2, h5, h6, h7⟩ := y
          obtain ⟨nk, h5'⟩ := wipeE_some h5
          exact A.dis i2 k _ _ _ _ (fun w => nk (w ▸ hk)) h5' h2' h6 b h7 z
      · simp only [frO hk] at z
        exact A'.dis j k _ _ _ _ hjk h1' (out hk h2) hl b hb z
  · exact S.same b o h (z.imp_right fun z => ⟨fun w => z.1 (wipe_w w), by simp⟩)
  · have inj : (W e2 f2 b ∨ b ∈ gs) → (W e1 f1 b ∨ b ∈ ([] : List Addr) ∨ H1 b = none) := fun z => (S.own b z).imp_left wipe_w
    rcases z with ⟨j, d, m, h, hr, hb⟩ | z
    · by_cases hj : j ∈ vs
      · simp only [frI hj] at hb
        exact .inl ⟨j, d, m, inn hj h, hr, hb⟩
      · simp only [frO hj] at hb
        exact inj (.inl ⟨j, d, m, out hj h, hr, hb⟩)
    · exact inj (.inr z)
  · apply List.ext_getElem?
    intro j
    rw [List.getElem?_map, List.getElem?_map]
    by_cases hj : j ∈ vs
    · by_cases hlt : j < e1.length
      · rw [restE_in hlen hj hlt]
      · rw [List.getElem?_eq_none (by rw [restE_len]; omega), List.getElem?_eq_none (by omega)]
    · rw [restE_out hj]
      have := congrArg (fun l => l[j]?) Kk.modes
      simp only [List.getElem?_map] at this
      rw [this, wipeE_out hj]
  · by_cases hj : j ∈ vs
    · refine ⟨?_, frI hj⟩
      rw [restE_in hlen hj (List.getElem?_eq_some_iff.mp h).1]
      exact h
    · obtain ⟨h1, h2⟩ := Kk.ros j d m (by rw [wipeE_out hj]; exact h) hr
      exact ⟨by rw [restE_out hj]; exact h1, (frO hj).trans h2⟩
  · rintro ⟨j, d, m, h, hr, z⟩
    by_cases hj : j ∈ vs
    · simp only [frI hj] at z
      exact hid2 hj (inn hj h) b z (.inr hb)
    · simp only [frO hj] at z
      exact (n b hb).1 ⟨j, d, m, out hj h, hr, z⟩
  · rintro ⟨j, d, m, h, hr, z⟩
    by_cases hj : j ∈ vs
    · simp only [frI hj] at z
      exact hid2 hj (inn hj h) b z (.inr hb)
    · simp only [frO hj] at z
      exact (n b hb).2 ⟨j, d, m, out hj h, hr, z⟩
end
section
variable {K : PySem.W.Frag} {σ σ' : L2.St} {H H1 H' : Hp} {env env' e1 e2 : En} {f f1 f2 : FA} {vs : List Nat} {G : List Addr} {lk : Lok}
theorem thaw_okE {k : En → Prop} (L : Lk env lk e1) (A : Abs K σ H' e2 f2) (S : Stp H1 e1 f1 [] H' e2 f2 G) (Kk : Kp e1 f1 e2 f2) (n : ∀ b ∈ G, ¬ L0 e2 f2 b ∧ ¬ Ro e2 f2 b) (q : thaw lk e2 k) :
    ∃ e3, k e3 ∧ Abs K σ H' e3 f2 ∧ Stp H1 env f1 [] H' e3 f2 G ∧ Kp env f1 e3 f2 ∧ ∀ b ∈ G, ¬ L0 e3 f2 b ∧ ¬ Ro e3 f2 b := by
  obtain ⟨e3, q3, A3, S3, _, _⟩ := thaw_ok (σ := σ) L A S Kk.kq q
  cases L with
  | none => exact ⟨e2, q, A, S, Kk, n⟩
  | @some i d m e l =>
    have hi : i < env.length := (List.getElem?_eq_some_iff.mp e).1
    have he1 : (env.set i (some (d, Md.lk)))[i]? = some (some (d, Md.lk)) := env_at hi
    obtain ⟨he2, hf⟩ := Kk.ros i d .lk he1 rfl
    have hi2 : i < e2.length := (List.getElem?_eq_some_iff.mp he2).1
    have q' := q
    simp only [thaw, he2] at q'
    have A4 : Abs K σ H' (e2.set i (some (d, m))) f2 := remode_abs A he2 rfl l
    have S4 : Stp H1 env f1 [] H' (e2.set i (some (d, m))) f2 G := by
      have LL : Lk env (some (i, m)) (env.set i (some (d, .lk))) := .some e l
      refine ⟨fun b o h z => S.same b o h (z.imp_right fun z => ⟨fun w => z.1 (LL.w w), z.2⟩), fun b z => ?_⟩
      have inj : (W e2 f2 b ∨ b ∈ G) → (W env f1 b ∨ b ∈ ([] : List Addr) ∨ H1 b = none) := fun z => (S.own b z).imp_left fun w => LL.w w
      rcases z with ⟨j, d1, m1, q1, hr, hb⟩ | z
      · by_cases hj : j = i
        · subst hj
          rw [env_at hi2] at q1; cases q1
          rw [hf] at hb
          exact .inl ⟨j, d, m, e, hr, hb⟩
        · rw [env_ne hj] at q1
          exact inj (.inl ⟨j, d1, m1, q1, hr, hb⟩)
      · exact inj (.inr z)
    have back : ∀ {j : Nat} {d1 : D} {m1 : Md}, (e2.set i (some (d, m)))[j]? = some (some (d1, m1)) → ∃ m2, e2[j]? = some (some (d1, m2)) ∧ m2.lv = m1.lv := fun {j d1 m1} q => by
      by_cases hj : j = i
      · subst hj
        rw [env_at hi2] at q; cases q
        exact ⟨.lk, he2, l.symm⟩
      · rw [env_ne hj] at q
        exact ⟨m1, q, rfl⟩
    refine ⟨_, q', A4, S4, ⟨?_, fun j d1 m1 h hr => ?_⟩, fun b hb => ⟨?_, ?_⟩⟩
    · apply List.ext_getElem?
      intro j
      rw [List.getElem?_map, List.getElem?_map]
      by_cases hj : j = i
      · subst hj
        rw [env_at hi2, e]
        try rfl
      · rw [env_ne hj]
        have := congrArg (fun l => l[j]?) Kk.modes
        simp only [List.getElem?_map] at this
        rw [this, env_ne hj]
    · by_cases hj : j = i
      · subst hj
        rw [e] at h; cases h
        exact ⟨env_at hi2, hf⟩
      · obtain ⟨a, b⟩ := Kk.ros j d1 m1 (by rw [env_ne hj]; exact h) hr
        exact ⟨by rw [env_ne hj]; exact a, b⟩
    · rintro ⟨j, d1, m1, h, hr, z⟩
      obtain ⟨m2, h2, h3⟩ := back h
      exact (n b hb).1 ⟨j, d1, m2, h2, h3.trans hr, z⟩
    · rintro ⟨j, d1, m1, h, hr, z⟩
      obtain ⟨m2, h2, h3⟩ := back h
      exact (n b hb).2 ⟨j, d1, m2, h2, by rw [h3]; exact hr, z⟩
theorem Abs.upd_free {Da : Addr} {o : HO} {vs0 : List V} (A : Abs K σ H env f) (hD : H Da = some (.lst vs0)) (n : ¬ L0 env f Da ∧ ¬ Ro env f Da) : Abs K σ (L2.upd H Da o) env f := by
  refine ⟨fun i d m h => ?_, A.dis, A.len⟩
  obtain ⟨v, h1, r⟩ := A.rep i d m h
  refine ⟨v, h1, r.keep fun b ob hb q => ?_⟩
  have : b ≠ Da := fun z => by
    subst z
    rcases q with q | q
    · by_cases hl : m.lv = 0
      · exact n.1 ⟨i, d, m, h, hl, q⟩
      · exact n.2 ⟨i, d, m, h, hl, q⟩
    · rw [hD] at hb; cases hb; cases q
  rw [upd_ne this]
  exact hb
theorem lc_lift {ti : XI} {g : XG} {tt : XT} {te : XE} {ts : List Nat} (hi : MonoI ti) (mg : MonoG g) (mt : MonoT tt) (me : MonoE te) (hts : ∀ t ∈ ts, t ∈ vs) {Q : VK} (q : liftE K (dLc ti g tt te vs) σ H Q) :
    tLc (liftI K ti) (liftG K ts g) (liftT K tt) (liftE K te) vs σ H Q := by
  obtain ⟨env, f, A, q⟩ := q
  refine ⟨env, f, A, hi _ _ _ (fun ds kd lk e1 q => ?_) q⟩
  intro J H1 f1 P env' A1 S1 K1 L Wa hP hPL Da hDa
  have A1' := L.abs A1
  obtain ⟨ok, q⟩ := q
  refine ⟨fun i m H' => m = ds.length - i ∧ i ≤ ds.length ∧ ∃ e f' acc va ga, Abs K (wipe σ vs) H' e f' ∧ Stp H1 (wipeE vs e1) f1 [] H' e f' (Da :: ga) ∧ Kp (wipeE vs e1) f1 e f' ∧ H' Da = some (.lst va) ∧ Reps K H' 0 acc va ga ∧ Da ∉ ga ∧
    (∀ b ∈ Da :: ga, ¬ L0 e f' b ∧ ¬ Ro e f' b) ∧ lcL g tt te kd vs (ds.drop i) e acc (fun acc e2 => thaw lk (restE vs e1 e2) fun e3 => PostE K σ H env f Q (.tmp (.lst acc)) e3),
    ⟨ds.length, by simp, Nat.zero_le _, wipeE vs e1, f1, [], [], [], (wipe_abs A1').ext (Ext.upd hDa).same, (Stp.refl.new (Ext.upd hDa) : Stp H1 (wipeE vs e1) f1 [] _ _ _ ([Da] ++ [])), .refl, upd_same, .nil, by simp, fun b hb => ?_, q⟩, fun i m H' w => ?_⟩
  · have hb' : b = Da := by simpa using hb
    subst hb'
    refine ⟨fun z => ?_, fun z => ?_⟩
    · obtain ⟨o, ho, _⟩ := A1'.ldom (wipe_l0 z)
      rw [hDa] at ho; cases ho
    · obtain ⟨o, ho, _⟩ := A1'.rdom (wipe_ro z)
      rw [hDa] at ho; cases ho
  obtain ⟨rfl, hi', e, f', acc, va, ga, A', S', K', hD, rg, nD, fr, q⟩ := w
  have near : Near H1 P H' := fun b o h z => S'.same b o h (by
    rcases z with z | z
    · exact .inr ⟨fun w => (hP b z).2 (wipe_w w), by simp⟩
    · exact .inl z)
  have gdom : ∀ b ∈ Da :: ga, ∃ o, H' b = some o := fun b hb => by
    rcases List.mem_cons.mp hb with rfl | hb
    · exact ⟨_, hD⟩
    · obtain ⟨o, ho, _⟩ := rg.dom b hb
      exact ⟨o, ho⟩
  by_cases hlt : i < ds.length
  · refine .inr ⟨Wa.go i H' near hlt, fun H2 => _, fun H2 n2 => ⟨ds.length - (i + 1), by omega, n2⟩, fun x H2 hy => ?_⟩
    obtain ⟨sm, itm⟩ := Wa.yld i H' x H2 ds[i] near (List.getElem?_eq_getElem hlt) hy
    rw [List.drop_eq_getElem_cons hlt] at q
    have nl : kd.isSome = true → ∀ b ∈ P, ¬ L0 e f' b := fun hk b hb z => by
      rcases K'.l0 z with z | z
      · rcases S'.own b (.inl z) with z | z | z
        · exact (hP b hb).2 (wipe_w z)
        · simp at z
        · obtain ⟨o, ho⟩ := (hP b hb).1
          rw [z] at ho; cases ho
      · exact hPL hk b hb (wipe_l0 z)
    have A2' := A'.ext sm
    refine ⟨e, f', mkI kd ds[i], [], A2', item_src itm nl, mg _ _ _ _ (fun e2 q2 => ?_) q⟩
    intro σ2 f2 A2 S2 K2 _ _ M2
    have hw : wipe σ2 vs = wipe σ vs := (wipe_same M2.1 fun j hj => (M2.2.2 j fun z => hj (hts j z)).1).trans (wipe_same (wipe_length σ vs) fun j hj => wipe_out hj)
    have T2 : Stp H' e f' [] H2 e2 f2 [] := (Stp.refl.ext sm).trans S2
    -- how a turn ends
    have fin : ∀ {Hx : Hp} {ex : En} {fx : FA} {gx : List Addr}, Abs K σ2 Hx ex fx → Stp H' e f' [] Hx ex fx gx → Kp e2 f2 ex fx → Hx Da = some (.lst va) ∧ Reps K Hx 0 acc va ga ∧ (∀ b ∈ Da :: ga, b ∉ gx) ∧ (∀ b ∈ Da :: ga, ¬ L0 (wipeE vs ex) fx b ∧ ¬ Ro (wipeE vs ex) fx b) ∧
        Kp (wipeE vs e1) f1 (wipeE vs ex) fx ∧ Stp H1 (wipeE vs e1) f1 [] Hx (wipeE vs ex) fx ((Da :: ga) ++ gx) ∧ Abs K (wipe σ vs) Hx (wipeE vs ex) fx := fun {Hx ex fx gx} Ax T Kx => by
      have far : ∀ b ∈ Da :: ga, ¬ (W ex fx b ∨ b ∈ gx) := fun b hb z => by
        rcases T.own b z with z | z | z
        · exact (fr b hb).1 z.l0
        · simp at z
        · obtain ⟨o, ho⟩ := gdom b hb
          rw [z] at ho; cases ho
      have at2 : ∀ {j : Nat} {d : D} {m : Md}, j ∉ vs → ex[j]? = some (some (d, m)) → m.rd = true → e[j]? = some (some (d, m)) ∧ fx j = f' j := fun {j d m} hj h hr => by
        obtain ⟨d', h2⟩ := Kx.slot' h
        obtain ⟨h3, h4⟩ := Kx.ros j d' m h2 hr
        rw [h] at h3; cases h3
        obtain ⟨_, h5, h6⟩ := M2.2.2 j fun z => hj (hts j z)
        exact ⟨by rw [← h5]; exact h2, h4.trans h6⟩
      refine ⟨T.same Da _ hD (.inr ⟨fun z => (fr Da (List.mem_cons_self ..)).1 z.l0, by simp⟩), rg.keep fun b o hb z => T.same b o hb ?_, fun b hb z => far b hb (.inr z), fun b hb => ⟨?_, ?_⟩, ⟨?_, fun j d m h hr => ?_⟩, ⟨fun b o h z => ?_, fun b z => ?_⟩, by rw [← hw]; exact wipe_abs Ax⟩
      · rcases z with z | z
        · exact .inr ⟨fun w => (fr b (List.mem_cons_of_mem _ z)).1 w.l0, by simp⟩
        · exact .inl z
      · rintro ⟨j, d, m, h, hr, z⟩
        obtain ⟨hj, h'⟩ := wipeE_some h
        cases hm : m.rd with
        | false => exact far b hb (.inl ⟨j, d, m, h', hm, z⟩)
        | true =>
          obtain ⟨h2, h3⟩ := at2 hj h' hm
          rw [h3] at z
          exact (fr b hb).1 ⟨j, d, m, h2, hr, z⟩
      · rintro ⟨j, d, m, h, hr, z⟩
        obtain ⟨hj, h'⟩ := wipeE_some h
        obtain ⟨h2, h3⟩ := at2 hj h' (Md.rd_of hr)
        rw [h3] at z
        exact (fr b hb).2 ⟨j, d, m, h2, hr, z⟩
      · apply List.ext_getElem?
        intro j
        rw [List.getElem?_map, List.getElem?_map]
        have lx : ex.length = e1.length := by
          have a1 := Ax.len
          have a2 := A1'.len
          have a3 := M2.1
          rw [wipe_length] at a3
          omega
        by_cases hj : j ∈ vs
        · by_cases hjl : j < e1.length
          · rw [wipeE_in hj hjl, wipeE_in hj (by omega)]
          · rw [List.getElem?_eq_none (by rw [wipeE_len]; omega), List.getElem?_eq_none (by rw [wipeE_len]; omega)]
        · rw [wipeE_out hj]
          have m1 := congrArg (fun l => l[j]?) Kx.modes
          have m2 := congrArg (fun l => l[j]?) K'.modes
          simp only [List.getElem?_map] at m1 m2
          rw [m1, (M2.2.2 j fun z => hj (hts j z)).2.1, m2]
      · obtain ⟨hj, h'⟩ := wipeE_some h
        obtain ⟨h1, h2⟩ := K'.ros j d m h hr
        obtain ⟨_, h5, h6⟩ := M2.2.2 j fun z => hj (hts j z)
        obtain ⟨h3, h4⟩ := Kx.ros j d m (by rw [h5]; exact h1) hr
        exact ⟨by rw [wipeE_out hj]; exact h3, h4.trans (h6.trans h2)⟩
      · exact T.same b o (S'.same b o h z) (by
          rcases z with z | z
          · exact .inl z
          · refine .inr ⟨fun w => ?_, by simp⟩
            rcases S'.own b (.inl w) with y | y | y
            · exact z.1 y
            · simp at y
            · rw [h] at y; cases y)
      · have base : (W e f' b ∨ b ∈ ([] : List Addr) ∨ H' b = none) → (W (wipeE vs e1) f1 b ∨ b ∈ ([] : List Addr) ∨ H1 b = none) := fun y => by
          rcases y with y | y | y
          · exact S'.own b (.inl y)
          · simp at y
          · by_cases hwb : W (wipeE vs e1) f1 b
            · exact .inl hwb
            · refine .inr (.inr ?_)
              cases ho : H1 b with
              | none => rfl
              | some o =>
                have := S'.same b o ho (.inr ⟨hwb, by simp⟩)
                rw [y] at this; cases this
        rcases z with z | z
        · exact base (T.own b (.inl (wipe_w z)))
        · rcases List.mem_append.mp z with z | z
          · exact S'.own b (.inr z)
          · exact base (T.own b (.inr z))
    refine ⟨hw, e2, f2, A2, mt _ _ _ (fun b e3 q3 => ?_) q2⟩
    intro H3 f3 A3 S3 K3
    cases b with
    | true =>
      rw [if_pos rfl]
      refine ⟨e3, f3, A3, me _ _ _ (fun r e4 q4 => ?_) (q3.1 rfl)⟩
      intro y H4 f4 g4 A4 R4 S4 K4
      obtain ⟨dd, rd1, ⟨hz, q4⟩, n4⟩ := stor_ok A4 R4 q4
      obtain ⟨c1, c2, c3, c4, c5, c6, c7⟩ := fin A4 ((T2.trans S3).trans S4) (K3.trans K4)
      refine ⟨va, c1, by rw [← c2.len]; exact hz, rfl, hlt, wipeE vs e4, f4, acc ++ [dd], va ++ [y], ga ++ g4, c7.upd_free c1 (c4 Da (List.mem_cons_self ..)), ?_, c5, upd_same, ?_, ?_, fun b hb => ?_, q4⟩
      · refine ⟨fun b o h z => ?_, fun b z => c6.own b (z.imp_right fun y => by simpa using y)⟩
        have : b ≠ Da := fun w => by subst w; rw [hDa] at h; cases h
        rw [upd_ne this]
        exact c6.same b o h z
      · have both : Reps K H4 0 (acc ++ [dd]) (va ++ [y]) (ga ++ g4) := c2.append (.one rd1) fun _ b hb z => c3 b (List.mem_cons_of_mem _ hb) z
        refine both.keep fun b o hb z => ?_
        have : b ≠ Da := fun w => by
          subst w
          rcases z with z | z
          · rcases List.mem_append.mp z with z | z
            · exact nD z
            · exact c3 b (List.mem_cons_self ..) z
          · rw [c1] at hb; cases hb; cases z
        rw [upd_ne this]
        exact hb
      · exact fun z => (List.mem_append.mp z).elim nD (c3 Da (List.mem_cons_self ..))
      · rcases List.mem_cons.mp hb with rfl | hb
        · exact c4 b (List.mem_cons_self ..)
        · rcases List.mem_append.mp hb with hb | hb
          · exact c4 b (List.mem_cons_of_mem _ hb)
          · exact ⟨fun z => (n4 b hb).1 (wipe_l0 z), fun z => (n4 b hb).2 (wipe_ro z)⟩
    | false =>
      rw [if_neg Bool.false_ne_true]
      obtain ⟨c1, c2, c3, c4, c5, c6, c7⟩ := fin A3 (T2.trans S3) K3
      exact ⟨rfl, hlt, wipeE vs e3, f3, acc, va, ga, c7, c6.drop fun b hb => List.mem_append_left _ hb, c5, c1, c2, nD, c4, q3.2 rfl⟩
  · have hie : i = ds.length := by omega
    subst hie
    rw [List.drop_length] at q
    obtain ⟨f3, A3, S3, K3, n3⟩ := rest_ok A1' ok A' S' K' fr
    obtain ⟨e4, q4, A4, S4, K4, n4⟩ := thaw_okE L A3 S3 K3 n3 q
    exact .inl ⟨Wa.stop _ _ near (Nat.le_refl _), q4 (.ref Da) H' f3 (Da :: ga) A4 (.tmp (.lst hD rg fun _ => nD) n4) (S1.trans S4) (K1.trans K4)⟩
end
structure DTs (X : Cx) (ifs : List Expr) (t : XT) : Prop where
  run : PTs X ifs (liftT X.K t)
  mono : MonoT t
theorem PTs.imp {X : Cx} {ifs : List Expr} {t u : TT} (h : PTs X ifs t) (k : ∀ σ H Q, u σ H Q → t σ H Q) : PTs X ifs u := ⟨fun pins s σ H Q I q => h.run pins s σ H Q I (k _ _ _ q)⟩
section
variable {X : Cx}
theorem dts_nil : DTs X [] xYes := ⟨PTs.imp pts_nil fun σ H Q ⟨env, f, A, q⟩ => q H f A .refl .refl, fun env Q Q' h q => h _ _ q⟩
theorem dts_one {c : Expr} {t : XT} (h : DT X c t) : DTs X [c] t := ⟨pts_one h.run, h.mono⟩
theorem dLc_mono {ti : XI} {g : XG} {tt : XT} {te : XE} {vs : List Nat} (hi : MonoI ti) (mg : MonoG g) (mt : MonoT tt) (me : MonoE te) : MonoE (dLc ti g tt te vs) := fun env Q Q' h q =>
  hi _ _ _ (fun ds kd lk e1 q => ⟨q.1, lcL_mono mg mt me ds _ _ _ _ (fun a e q => thaw_mono (fun e q => h _ _ q) q) q.2⟩) q
variable {elt tg iter : Expr} {ifs : List Expr} {scope : Scope} {own : List (Str × Nat)} {pos : Pos} {ti : XI} {g : XG} {tt : XT} {te : XE} {ts : List Nat}
theorem de_lc (hx : Ok X) (hN : X.N.Nodup) (hi : DI X tg iter ti) (ok : BlkOk X.N X.env.scope scope own)
    (hg : ∀ (s : Shared) (H : Hp) (C : Addr) (cl : List (Str × Addr)) (fp : List Addr), DG (X.blk s H scope (compEnvC scope cl C X.env) fp) tg ts g) (ht : ∀ (s : Shared) (H : Hp) (C : Addr) (cl : List (Str × Addr)) (fp : List Addr), DTs (X.blk s H scope (compEnvC scope cl C X.env) fp) ifs tt)
    (he : ∀ (s : Shared) (H : Hp) (C : Addr) (cl : List (Str × Addr)) (fp : List Addr), DE (X.blk s H scope (compEnvC scope cl C X.env) fp) elt te) (hts : ∀ t ∈ ts, t ∈ own.map (·.2)) (hs : ∀ x, foldedSetIterable iter X.env x = pure x := by intro _; rfl) :
    DE X (.ListComp elt [⟨tg, iter, ifs, 0⟩] scope pos) (dLc ti g tt te (own.map (·.2))) :=
  have mg := (hg X.s_0 X.H_0 0 [] []).mono
  have mt := (ht X.s_0 X.H_0 0 [] []).mono
  have me := (he X.s_0 X.H_0 0 [] []).mono
  ⟨PE.imp (pe_lc hx.calm hN hi.run ok (fun s H C cl fp => (hg s H C cl fp).run) (fun s H C cl fp => (ht s H C cl fp).run) (fun s H C cl fp => (he s H C cl fp).run) hs) fun σ H Q q => lc_lift hi.mono mg mt me hts q, dLc_mono hi.mono mg mt me⟩
theorem ds_setLc {i : Nat} {y : Str} {py spos : Pos} (hx : Ok X) (hN : X.N.Nodup) (hsw : swapsWith (.ListComp elt [⟨tg, iter, ifs, 0⟩] scope pos) (some (.Name y py)) spos.line X.env = pure true) (hi : DI X tg iter ti) (ok : BlkOk X.N X.env.scope scope own)
    (hg : ∀ (s : Shared) (H : Hp) (C : Addr) (cl : List (Str × Addr)) (fp : List Addr), DG (X.blk s H scope (compEnvC scope cl C X.env) fp) tg ts g) (ht : ∀ (s : Shared) (H : Hp) (C : Addr) (cl : List (Str × Addr)) (fp : List Addr), DTs (X.blk s H scope (compEnvC scope cl C X.env) fp) ifs tt)
    (he : ∀ (s : Shared) (H : Hp) (C : Addr) (cl : List (Str × Addr)) (fp : List Addr), DE (X.blk s H scope (compEnvC scope cl C X.env) fp) elt te) (hts : ∀ t ∈ ts, t ∈ own.map (·.2)) (hy : X.N[i]? = some y := by rfl) (hyl : X.env.scope.names.lookup y = some .local := by rfl)
    (hs : ∀ x, foldedSetIterable iter X.env x = pure x := by intro _; rfl) : DS X (.Assign [.Name y py] (.ListComp elt [⟨tg, iter, ifs, 0⟩] scope pos) spos) (sAsg (dLc ti g tt te (own.map (·.2))) (gN i)) := by
  have mg := (hg X.s_0 X.H_0 0 [] []).mono
  have mt := (ht X.s_0 X.H_0 0 [] []).mono
  have me := (he X.s_0 X.H_0 0 [] []).mono
  have dg : DG X (.Name y py) [i] (gN i) := dg_name hN hy (.inl hyl) (.inr hyl)
  have md := dLc_mono (vs := own.map (·.2)) hi.mono mg mt me
  refine ⟨PS.imp (ps_setLc hx.calm hN hy hyl hsw hi.run ok (fun s H C cl fp => (hg s H C cl fp).run) (fun s H C cl fp => (ht s H C cl fp).run) (fun s H C cl fp => (he s H C cl fp).run) hs) fun Dn σ H q => lc_lift hi.mono mg mt me hts ?_, sAsg_mono md dg.mono⟩
  have h := asg_lift (ts := [i]) md dg.mono q
  obtain ⟨env, f, A, h⟩ := h
  refine ⟨env, f, A, md _ _ _ (fun r e1 q => ?_) h⟩
  intro v H1 f1 g1 A1 R1 S1 K1
  obtain ⟨env2, f2, r2, g2, A2, R2, q2⟩ := q v H1 f1 g1 A1 R1 S1 K1
  obtain ⟨env', f', q, A', S', K', L', O', M'⟩ := gN_ok A2 R2 q2
  exact q _ f' A' S' K' L' O' M'
end

section
variable {P : Program} {w : World} {K : PySem.W.Frag} {mg : Str → Option Value} {base : Heap}
def fill (n : Nat) : En := List.replicate n none
/-- the parameters' data behind a body: those that may be changed as they stand, the others as they came -/
def backD : List Md → List D → En → Option (List D)
  | [], [], _ => some []
  | .io :: ms, _ :: ds, x :: e => match x with
    | some (d, .io) => (backD ms ds e).map (d :: ·)
    | _ => none
  | _ :: ms, d :: ds, _ :: e => (backD ms ds e).map (d :: ·)
  | _, _, _ => none
def Back (ms : List Md) (ds ds' : List D) (e : En) : Prop := ds'.length = ms.length ∧ ∀ p : Nat, (ms[p]? = some Md.io → ∃ d : D, ds'[p]? = some d ∧ e[p]? = some (some (d, Md.io))) ∧ (ms[p]? ≠ some Md.io → ds'[p]? = ds[p]?)
theorem back_step {m : Md} {ms : List Md} {d0 d1 : D} {ds ds' : List D} {x : Option (D × Md)} {e : En} (h : Back ms ds ds' e) (h1 : m = .io → x = some (d1, .io)) (h2 : m ≠ .io → d1 = d0) : Back (m :: ms) (d0 :: ds) (d1 :: ds') (x :: e) := by
  refine ⟨by rw [List.length_cons, List.length_cons, h.1], fun p => ?_⟩
  cases p with
  | zero => exact ⟨fun z => ⟨d1, rfl, by rw [List.getElem?_cons_zero, h1 (Option.some.inj z)]⟩, fun z => by rw [List.getElem?_cons_zero, List.getElem?_cons_zero, h2 fun y => z (by rw [List.getElem?_cons_zero, y])]⟩
  | succ p => simpa using h.2 p
theorem backD_ok : ∀ {ms : List Md} {ds : List D} {e : En} {ds' : List D}, ds.length = ms.length → backD ms ds e = some ds' → Back ms ds ds' e
  | [], [], e, ds', _, h => by
    rw [backD] at h; cases h
    exact ⟨rfl, fun p => ⟨fun z => by simp at z, fun _ => rfl⟩⟩
  | [], _ :: _, _, _, l, _ => by simp at l
  | _ :: _, [], _, _, l, _ => by simp at l
  | m :: ms, d :: ds, [], ds', _, h => by cases m <;> (rw [backD] at h <;> first | (cases h; done) | (intros; contradiction))
  | m :: ms, d :: ds, x :: e, ds', l, h => by
    have l' : ds.length = ms.length := by simpa using l
    cases m with
    | io =>
      simp only [backD] at h
      split at h
      · cases h2 : backD ms ds e with
        | none => rw [h2] at h; cases h
        | some r => rw [h2] at h; cases h; exact back_step (backD_ok l' h2) (fun _ => rfl) fun z => absurd rfl z
      · cases h
    | _ =>
      simp only [backD] at h
      cases h2 : backD ms ds e with
      | none => rw [h2] at h; cases h
      | some r => rw [h2] at h; cases h; exact back_step (backD_ok l' h2) (fun z => nomatch z) fun _ => rfl
def outD (S : FS) (ds : List D) (Q : D → List D → Prop) (d : D) (e : En) : Prop := match backD S.ms ds e with
  | some ds' => Q d ds'
  | none => False
/-- what a body must do: the data of its parameters in, the promise out -/
def BodyOk (S : FS) (n : Nat) (t : XS) : Prop := ∀ ds Q, ds.length = S.ms.length → S.wp ds Q → t (penv S.ms ds ++ fill (n - S.ms.length)) (outD S ds Q .non) (outD S ds Q)
theorem Room.ok {X : Cx} {k : Nat} (hr : Room k X.A) (hc : X.calm = true := by rfl) : Ok X := ⟨hc, by have := hr.un; omega⟩
theorem body_lift {qual : Str} {st : Stmt} {f : Addr} {N ps : List Str} {S : FS} {t : XS} {cdv : Value} {A : Around} {outer : List PySem.Env} {s : Shared} {H : Hp} {E E' : XK} {vs : List V} {Q : VK} (Sc : FnScope N ps (defScope st)) (hms : S.ms.length = ps.length) (okm : ∀ m ∈ S.ms, m ≠ .own ∧ m ≠ .lk)
    (Dr : DSs (cxOf CX0 P w K mg base N qual (defScope st) f cdv A outer s H E).nox (defBody st) t) (body : BodyOk S N.length t) (h : spOf K S vs H Q E') : liftS K t { nx := fun _ H' => Q .non H', rt := Q } (L2.start N vs) H := by
  obtain ⟨hl, ds, fa, hd, Ab, hw⟩ := h
  have hNl : S.ms.length ≤ N.length := by
    have := congrArg List.length Sc.pre
    rw [List.length_take] at this
    omega
  have pl := penv_len hd
  have A0 : Abs K (L2.start N vs) H (penv S.ms ds ++ fill (N.length - S.ms.length)) fa := by
    have inn : ∀ {i : Nat} {y : D × Md}, (penv S.ms ds ++ fill (N.length - S.ms.length))[i]? = some (some y) → (penv S.ms ds)[i]? = some (some y) := fun {i y} h => by
      by_cases hi : i < (penv S.ms ds).length
      · rwa [List.getElem?_append_left hi] at h
      · rw [List.getElem?_append_right (by omega)] at h
        unfold fill at h
        rw [List.getElem?_replicate] at h
        split at h <;> cases h
    refine ⟨fun i d m h => ?_, fun i j d m d' m' hij h1 h2 => Ab.dis i j d m d' m' hij (inn h1) (inn h2), by unfold L2.start fill; simp [pl, hl]⟩
    obtain ⟨v, h1, r⟩ := Ab.rep i d m (inn h)
    refine ⟨v, ?_, r⟩
    unfold L2.start
    rw [List.getElem?_append_left (List.getElem?_eq_some_iff.mp h1).1]
    exact h1
  have fin0 : ∀ (d : D) (e : En) (ds' : List D), Back S.ms ds ds' e → (∀ v H' f' g, ds'.length = S.ms.length → Abs K (vs.map some) H' (penv S.ms ds') f' → Rep K H' 0 d v g → (∀ b ∈ g, ¬ L0 (penv S.ms ds') f' b ∧ ¬ Ro (penv S.ms ds') f' b) → Stp H (penv S.ms ds) fa [] H' (penv S.ms ds') f' g → Kp (penv S.ms ds) fa (penv S.ms ds') f' → Q v H') →
      PostR K (L2.start N vs) H (penv S.ms ds ++ fill (N.length - S.ms.length)) fa Q d e := fun d e ds' ⟨hl', hp⟩ q => by
    intro v σ' H' f' g A' rv nv S' K'
    have app : ∀ {i : Nat} {y : D × Md}, (penv S.ms ds)[i]? = some (some y) → (penv S.ms ds ++ fill (N.length - S.ms.length))[i]? = some (some y) := fun {i y} h => by
      rw [List.getElem?_append_left (List.getElem?_eq_some_iff.mp h).1]; exact h
    have appW : ∀ b, W (penv S.ms ds ++ fill (N.length - S.ms.length)) fa b → W (penv S.ms ds) fa b := fun b ⟨i, d1, m1, h1, h2, h3⟩ => by
      by_cases hi : i < (penv S.ms ds).length
      · rw [List.getElem?_append_left hi] at h1
        exact ⟨i, d1, m1, h1, h2, h3⟩
      · rw [List.getElem?_append_right (by omega)] at h1
        unfold fill at h1
        rw [List.getElem?_replicate] at h1
        split at h1 <;> cases h1
    have W0 : ∀ b, (W e f' b ∨ b ∈ g) → (W (penv S.ms ds) fa b ∨ H b = none) := fun b z => by
      rcases S'.own b z with z | z | z
      · exact .inl (appW b z)
      · simp at z
      · exact .inr z
    have same : ∀ b o, H b = some o → (Mu o = false ∨ ¬ W (penv S.ms ds) fa b) → H' b = some o := fun b o h z => S'.same b o h (z.imp_right fun z => ⟨fun w => z (appW b w), by simp⟩)
    -- a parameter behind the call
    have par : ∀ {p : Nat} {d1 : D} {m1 : Md}, (penv S.ms ds')[p]? = some (some (d1, m1)) → (m1 = .io ∧ S.ms[p]? = some .io ∧ e[p]? = some (some (d1, .io)) ∧ ∃ v, vs[p]? = some v ∧ σ'[p]? = some (some v)) ∨ (m1 ≠ .io ∧ m1.lv ≠ 0 ∧ (penv S.ms ds)[p]? = some (some (d1, m1))) := fun {p d1 m1} h => by
      obtain ⟨h1, h2⟩ := penv_get.mp h
      by_cases hm : m1 = .io
      · subst hm
        left
        obtain ⟨d2, e1, e2⟩ := (hp p).1 h2
        rw [h1] at e1; cases e1
        have hpl : p < ds.length := by have := (List.getElem?_eq_some_iff.mp h2).1; omega
        have h0 : (penv S.ms ds)[p]? = some (some (ds[p], Md.io)) := penv_get.mpr ⟨List.getElem?_eq_getElem hpl, h2⟩
        obtain ⟨hσ, _⟩ := K'.io p _ (app h0)
        obtain ⟨v, hv, _⟩ := Ab.rep p _ _ h0
        refine ⟨rfl, h2, e2, v, ?_, ?_⟩
        · rw [List.getElem?_map] at hv
          cases hvp : vs[p]? with
          | none => rw [hvp] at hv; cases hv
          | some v' => rw [hvp] at hv; cases hv; rfl
        · rw [hσ]
          unfold L2.start
          rw [List.getElem?_append_left (List.getElem?_eq_some_iff.mp hv).1]
          exact hv
      · right
        have hne : S.ms[p]? ≠ some .io := fun z => by rw [h2] at z; cases z; exact hm rfl
        rw [(hp p).2 hne] at h1
        obtain ⟨n1, n2⟩ := okm m1 (List.mem_of_getElem? h2)
        refine ⟨hm, ?_, penv_get.mpr ⟨h1, h2⟩⟩
        cases m1 <;> first | exact absurd rfl n1 | exact absurd rfl n2 | exact absurd rfl hm | (intro z; cases z)
    have ff : ∀ p, (if S.ms[p]? = some Md.io then f' p else fa p) = (if S.ms[p]? = some Md.io then f' p else fa p) := fun _ => rfl
    have ro0 : ∀ {p : Nat} {d1 : D} {m1 : Md}, (penv S.ms ds)[p]? = some (some (d1, m1)) → ∀ b ∈ fa p, ∃ o, H b = some o ∧ Mu o = true := fun {p d1 m1} h b hb => by
      obtain ⟨v, _, r⟩ := Ab.rep p d1 m1 h
      exact r.dom b hb
    have roW : ∀ {p : Nat} {d1 : D} {m1 : Md}, m1.lv ≠ 0 → (penv S.ms ds)[p]? = some (some (d1, m1)) → ∀ b ∈ fa p, ¬ W (penv S.ms ds) fa b := fun {p d1 m1} hm h b hb ⟨j, d2, m2, h1, h2, h3⟩ => by
      refine Ab.dis j p d2 m2 d1 m1 (fun z => ?_) h1 h (Md.lv_of h2) b h3 hb
      subst z
      rw [h1] at h; cases h
      exact hm (Md.lv_of h2)
    have ioI : ∀ {p : Nat}, S.ms[p]? = some Md.io → (if S.ms[p]? = some Md.io then f' p else fa p) = f' p := fun {p} h => if_pos h
    have ioN : ∀ {p : Nat}, S.ms[p]? ≠ some Md.io → (if S.ms[p]? = some Md.io then f' p else fa p) = fa p := fun {p} h => if_neg h
    have nio : ∀ {p : Nat} {d1 : D} {m1 : Md}, m1 ≠ .io → (penv S.ms ds)[p]? = some (some (d1, m1)) → S.ms[p]? ≠ some Md.io := fun {p d1 m1} hm h z => by
      have := (penv_get.mp h).2
      rw [z] at this; cases this
      exact hm rfl
    have free : ∀ {p : Nat} {d1 : D} {m1 : Md}, m1.lv ≠ 0 → (penv S.ms ds)[p]? = some (some (d1, m1)) → ∀ b, (W e f' b ∨ b ∈ g) → b ∉ fa p := fun {p d1 m1} hm h b z hb => by
      rcases W0 b z with y | y
      · exact roW hm h b hb y
      · obtain ⟨o, ho, _⟩ := ro0 h b hb
        rw [y] at ho; cases ho
    refine q v H' (fun p => if S.ms[p]? = some Md.io then f' p else fa p) g hl' ⟨fun p d1 m1 h => ?_, fun p j d1 m1 d2 m2 hpj h1 h2 hl0 b hb z => ?_, by rw [penv_len hl', List.length_map]; omega⟩ rv (fun b hb => ⟨?_, ?_⟩) ⟨fun b o h z => same b o h (z.imp_right And.left), fun b z => ?_⟩ ⟨?_, fun j d1 m1 h hr => ?_⟩
    · rcases par h with ⟨rfl, hm, he, v', hv, hσ⟩ | ⟨hm, hlv, h0⟩
      · obtain ⟨v2, h3, r⟩ := A'.rep p d1 .io he
        rw [hσ] at h3; cases h3
        refine ⟨v', by rw [List.getElem?_map, hv]; rfl, ?_⟩
        simp only [ioI hm]
        exact r
      · obtain ⟨v2, h3, r⟩ := Ab.rep p d1 m1 h0
        refine ⟨v2, h3, ?_⟩
        simp only [ioN (nio hm h0)]
        exact r.keep fun b o hb z => same b o hb (z.symm.imp_right fun z => roW hlv h0 b z)
    · rcases par h1 with ⟨rfl, hm, he, _⟩ | ⟨hm, hlv, h0⟩
      · simp only [ioI hm] at hb
        rcases par h2 with ⟨rfl, hm2, he2, _⟩ | ⟨hm2, hlv2, h02⟩
        · simp only [ioI hm2] at z
          exact A'.dis p j _ _ _ _ hpj he he2 rfl b hb z
        · simp only [ioN (nio hm2 h02)] at z
          exact free hlv2 h02 b (.inl ⟨p, d1, .io, he, rfl, hb⟩) z
      · exact absurd hl0 hlv
    · rintro ⟨p, d1, m1, h, hl0, z⟩
      rcases par h with ⟨rfl, hm, he, _⟩ | ⟨hm, hlv, h0⟩
      · simp only [ioI hm] at z
        exact nv b hb p d1 .io he (.inl rfl) z
      · exact absurd hl0 hlv
    · rintro ⟨p, d1, m1, h, hl0, z⟩
      rcases par h with ⟨rfl, hm, he, _⟩ | ⟨hm, hlv, h0⟩
      · exact hl0 rfl
      · simp only [ioN (nio hm h0)] at z
        exact free hlv h0 b (.inr hb) z
    · rcases z with ⟨p, d1, m1, h, hr, hb⟩ | z
      · rcases par h with ⟨rfl, hm, he, _⟩ | ⟨hm, hlv, h0⟩
        · simp only [ioI hm] at hb
          exact (W0 b (.inl ⟨p, d1, .io, he, rfl, hb⟩)).imp_right .inr
        · exact absurd (Md.lv_of hr) hlv
      · exact (W0 b (.inr z)).imp_right .inr
    · apply List.ext_getElem?
      intro p
      rw [List.getElem?_map, List.getElem?_map]
      unfold penv
      rw [List.getElem?_zipWith, List.getElem?_zipWith]
      cases hm : S.ms[p]? with
      | none => cases ds[p]? <;> cases ds'[p]? <;> rfl
      | some m =>
        have hp1 : p < ds.length := by have := (List.getElem?_eq_some_iff.mp hm).1; omega
        have hp2 : p < ds'.length := by have := (List.getElem?_eq_some_iff.mp hm).1; omega
        rw [List.getElem?_eq_getElem hp1, List.getElem?_eq_getElem hp2]
        rfl
    · obtain ⟨h1, h2⟩ := penv_get.mp h
      have hne : S.ms[j]? ≠ some .io := fun z => by rw [h2] at z; cases z; cases hr
      exact ⟨penv_get.mpr ⟨by rw [(hp j).2 hne]; exact h1, h2⟩, ioN hne⟩
  have fin : ∀ (d : D) (e : En), outD S ds (fun d ds' => ∀ v H' f' g, ds'.length = S.ms.length → Abs K (vs.map some) H' (penv S.ms ds') f' → Rep K H' 0 d v g → (∀ b ∈ g, ¬ L0 (penv S.ms ds') f' b ∧ ¬ Ro (penv S.ms ds') f' b) → Stp H (penv S.ms ds) fa [] H' (penv S.ms ds') f' g → Kp (penv S.ms ds) fa (penv S.ms ds') f' → Q v H') d e →
      PostR K (L2.start N vs) H (penv S.ms ds ++ fill (N.length - S.ms.length)) fa Q d e := fun d e qq => by
    unfold outD at qq
    split at qq
    · rename_i ds' hbk
      exact fin0 d e ds' (backD_ok hd hbk) qq
    · exact qq.elim
  refine ⟨_, fa, A0, Dr.mono _ _ _ _ _ (fun e q => ?_) (fun d e q => fin d e q) (body ds _ hd hw)⟩
  intro σ' H' f' A' S' K'
  exact fin .non e q .non σ' H' f' [] A' .non (fun b hb => by simp at hb) S' K'
theorem fn_data {x qual : Str} {st : Stmt} {f : Addr} {fd : FuncData} {N ps : List Str} {k : Nat} {S : FS} {t : XS} (F : Fun K x qual st f fd) (Sc : FnScope N ps (defScope st)) (hms : S.ms.length = ps.length) (okm : ∀ m ∈ S.ms, m ≠ .own ∧ m ≠ .lk)
    (der : ∀ (cdv : Value) (A : Around) (outer : List PySem.Env) (s : Shared) (H : Hp) (E : XK), Room k (A.deeper (envOfC qual (defScope st) s.heap.objs.size f cdv)) → DSs (cxOf CX0 P w K mg base N qual (defScope st) f cdv A outer s H E).nox (defBody st) t) (body : BodyOk S N.length t) :
    FnOk P w K mg base CX0 (k + 1) f fd ps (spOf K S) := by
  refine F.ok Sc (fun vs H Q E h => by rw [h.1, hms]) (fun cdv A outer s H vs Q E hr h => ?_)
  have Dr := der cdv A outer s H E hr
  exact ⟨_, Dr.run, body_lift Sc hms okm Dr body h⟩
end
end BX

namespace BX
open PySem PySem.Spec PyProof.Rows L2

theorem lexLt_irr : ∀ ns : List Int, HT.lexLt ns ns = false
  | [] => rfl
  | n :: ns => by rw [HT.lexLt_cons, if_pos rfl]; exact lexLt_irr ns
theorem lexLt_asym : ∀ x y : List Int, HT.lexLt x y = true → HT.lexLt y x = false
  | [], [], h => rfl
  | [], _ :: _, h => rfl
  | _ :: _, [], h => by cases h
  | a :: x, b :: y, h => by
    rw [HT.lexLt_cons] at h ⊢
    by_cases e : a = b
    · subst e
      rw [if_pos rfl] at h ⊢
      exact lexLt_asym x y h
    · rw [if_neg e] at h
      rw [if_neg (Ne.symm e)]
      have := of_decide_eq_true h
      exact decide_eq_false (by omega)
theorem lexLt_tr : ∀ x y z : List Int, HT.lexLt y x = false → HT.lexLt z y = false → HT.lexLt z x = false
  | [], _, [], _, _ => rfl
  | [], _, _ :: _, _, _ => rfl
  | _ :: _, [], _, h, _ => by cases h
  | _ :: _, _ :: _, [], _, h => by cases h
  | a :: x, b :: y, c :: z, h1, h2 => by
    rw [HT.lexLt_cons] at h1 h2 ⊢
    by_cases e1 : b = a
    · subst e1
      rw [if_pos rfl] at h1
      by_cases e2 : c = b
      · subst e2
        rw [if_pos rfl] at h2 ⊢
        exact lexLt_tr x y z h1 h2
      · rw [if_neg e2] at h2 ⊢
        exact h2
    · rw [if_neg e1] at h1
      have h1' := of_decide_eq_false h1
      by_cases e2 : c = b
      · subst e2
        rw [if_neg e1]
        exact h1
      · rw [if_neg e2] at h2
        have h2' := of_decide_eq_false h2
        rw [if_neg (by omega)]
        exact decide_eq_false (by omega)
theorem lexLt_tot : ∀ x y : List Int, HT.lexLt x y = false → HT.lexLt y x = false → x = y
  | [], [], _, _ => rfl
  | [], _ :: _, h, _ => by cases h
  | _ :: _, [], _, h => by cases h
  | a :: x, b :: y, h1, h2 => by
    rw [HT.lexLt_cons] at h1 h2
    by_cases e : a = b
    · subst e
      rw [if_pos rfl] at h1 h2
      rw [lexLt_tot x y h1 h2]
    · rw [if_neg e] at h1
      rw [if_neg (Ne.symm e)] at h2
      have h1' := of_decide_eq_false h1
      have h2' := of_decide_eq_false h2
      omega
/-- lists of ints, rising -/
def sortI (l : List (List Int)) : List (List Int) := l.mergeSort fun a b => !HT.lexLt b a
theorem sortI_perm (l : List (List Int)) : (sortI l).Perm l := List.mergeSort_perm _ _
theorem sortI_srt (l : List (List Int)) : (sortI l).Pairwise fun a b => HT.lexLt b a = false := by
  have h := List.pairwise_mergeSort (le := fun a b : List Int => !HT.lexLt b a) (fun a b c h1 h2 => by
    simp only [Bool.not_eq_true'] at h1 h2 ⊢
    exact lexLt_tr a b c h1 h2) (fun a b => by
    cases e : HT.lexLt b a with
    | false => rfl
    | true => simp [lexLt_asym b a e]) l
  exact h.imp fun {a b} h => by simpa using h
theorem sortI_uniq {l m : List (List Int)} (h : m.Pairwise fun a b => HT.lexLt b a = false) (p : m.Perm l) : m = sortI l :=
  List.Perm.eq_of_pairwise (le := fun a b => HT.lexLt b a = false) (fun a b _ _ h1 h2 => (lexLt_tot a b h2 h1)) h (sortI_srt l) (p.trans (sortI_perm l).symm)
theorem sortI_id {l : List (List Int)} (h : l.Pairwise fun a b => HT.lexLt b a = false) : sortI l = l := (sortI_uniq h (.refl l)).symm

section
variable {prog : Program} {w : World} {A : Around} {E : Value → Shared → Prop} {s : Shared}
theorem lexW {b : Bool} {Q : Bool → Shared → Prop} : ∀ {xs ys : List Value} {ns ms : List Int} (i : Nat), IntsAre xs ns → IntsAre ys ms → Q (HT.lexLt ns ms) s → PySem.W.KatLex prog w A b (decide (ns.length < ms.length)) Q (xs.zip ys) i s
  | _, _, _, _, i, .nil, .nil, h => PySem.W.kat_nil h
  | _, _, _, _, i, .nil, .cons q u hy, h => PySem.W.kat_nil (by simpa [HT.lexLt_nil_cons] using h)
  | _, _, _, _, i, .cons p t hx, .nil, h => PySem.W.kat_nil (by simpa [HT.lexLt_cons_nil] using h)
  | _, _, _, _, i, .cons (vs := xs) (ns := ns) p t hx, .cons (vs := ys) (ns := ms) q u hy, h => by
    rw [HT.lexLt_cons] at h
    rw [show (decide ((p :: ns).length < (q :: ms).length)) = decide (ns.length < ms.length) by simp]
    show PySem.W.KatLex prog w A b _ Q ((Value.int p t, Value.int q u) :: xs.zip ys) i s
    refine PySem.W.kat_cons (wpAny_eqBool_int ?_)
    by_cases e : p = q
    · subst e
      rw [beq_self_eq_true]
      rw [if_pos rfl] at h
      exact PySem.W.kat_yes (lexW (i + 1) hx hy h)
    · rw [show (p == q) = false from beq_eq_false_iff_ne.mpr e]
      rw [if_neg e] at h
      exact PySem.W.kat_no (TS.oneLt_ints _ h)
theorem firstsW {h : Heap} : ∀ vs : List Value, (∀ v ∈ vs, ∃ ns, TS.TupInts h v ns ∧ ns ≠ []) → ∃ fs, PySem.W.KatTups h vs fs ∧ fs.length = vs.length ∧ ∀ f, f ∈ fs → ∃ n t, f = Value.int n t
  | [], _ => ⟨[], PySem.W.KatTups.nil, rfl, fun f hf => by simp at hf⟩
  | v :: vs, x => by
    obtain ⟨fs, k, hl, hi⟩ := firstsW vs fun u hu => x u (List.mem_cons_of_mem _ hu)
    obtain ⟨ns, ⟨a, xs, rfl, ⟨o, ho, hc, n, hdt⟩, i⟩, hn⟩ := x v (List.mem_cons_self ..)
    obtain ⟨xs⟩ := xs
    replace i : IntsAre xs ns := i
    cases i with
    | nil => exact absurd rfl hn
    | cons m t i =>
      refine ⟨.int m t :: fs, PySem.W.KatTups.cons ho hc hdt rfl k, by simp [hl], fun f hf => ?_⟩
      rcases List.mem_cons.mp hf with rfl | hf
      · exact ⟨m, t, rfl⟩
      · exact hi f hf
theorem swoW (k : Value → List Int) : SrtO.Swo fun v u => HT.lexLt (k v) (k u) := ⟨fun x y h => lexLt_asym _ _ h, fun x y z h1 h2 => lexLt_tr _ _ _ h1 h2⟩
theorem sortableW {a : Addr} {vs : List Value} (h0 : 0 < vs.length) (hp : ∀ v ∈ vs, ∃ ns, TS.TupInts s.heap v ns ∧ ns ≠ []) (ha : ∀ o, s.heap.get? a = some o → o.cls ≠ .type "tuple") :
    SrtO.SortableO prog w A s a vs fun v u => HT.lexLt (TS.intsOf s.heap v) (TS.intsOf s.heap u) := by
  intro h' keep
  have kp : ∀ b o, s.heap.get? b = some o → o.cls = .type "tuple" → h'.get? b = some o := fun b o e c => keep b o (fun z => by subst z; exact ha o e c) e
  have hp' : ∀ v ∈ vs, ∃ ns, TS.TupInts h' v ns ∧ ns ≠ [] := fun v hm => let ⟨ns, t, r⟩ := hp v hm; ⟨ns, t.keeps kp, r⟩
  obtain ⟨fs, h1, h2, h3⟩ := firstsW vs hp'
  refine ⟨tuples' true, fun Q E hq => ?_, fun p q hm hm' => ?_⟩
  · refine PySem.W.kat_kind (T := .type "int") h1 (by omega) (fun f hm => ?_) (by rfl) ?_
    · obtain ⟨x, t, rfl⟩ := h3 f hm
      exact PySem.W.Looks.now
    · have e : (Value.type "int" != Value.type "tuple") = true := by decide +kernel
      rw [e]
      exact hq
  · obtain ⟨ns, t1, _⟩ := hp _ hm
    obtain ⟨ms, t2, _⟩ := hp _ hm'
    show wpAny (model prog w) A (keyLt' (tuples' true) p.1 q.1) (fun r s' => s' = _ ∧ r = HT.lexLt (TS.intsOf s.heap p.1) (TS.intsOf s.heap q.1)) (fun _ _ => False) _
    rw [t1.ints, t2.ints]
    obtain ⟨a1, xs, e1, ⟨o1, g1, c1, n1, d1⟩, i1⟩ := t1.keeps kp
    obtain ⟨a2, ys, e2, ⟨o2, g2, c2, n2, d2⟩, i2⟩ := t2.keeps kp
    rw [e1, e2]
    refine PySem.W.kat_lt g1 d1 g2 d2 ?_
    have l1 : xs.size = ns.length := by rw [← i1.length, Array.length_toList]
    have l2 : ys.size = ms.length := by rw [← i2.length, Array.length_toList]
    rw [l1, l2]
    exact lexW 0 i1 i2 ⟨rfl, rfl⟩
/-- the sorting once the items are gathered -/
theorem sorted_gathered {l : Addr} {vs : List Value} {Q : Value → Shared → Prop} (hz : vs.length ≤ sizeLine)
    (hc : ∀ (A : Around) (E : Value → Shared → Prop) (Q : List Value → Shared → Prop), A.handled = none → (∀ (h' : Heap) (tk : Nat), (∀ b o, s.heap.get? b = some o → h'.get? b = some o) → Q vs { s with heap := h', toks := tk }) → wpAny (model prog w) A (collect (.ref l)) Q E s)
    (hh : A.handled = none) (hp : ∀ v ∈ vs, ∃ ns, TS.TupInts s.heap v ns ∧ ns ≠ [])
    (h : ∀ (out : List Value) (h1 h2 : Heap) (tk n : Nat), out.Perm vs → (out.map (TS.intsOf s.heap)) = sortI (vs.map (TS.intsOf s.heap)) → (∀ b o, s.heap.get? b = some o → h1.get? b = some o) → (∀ b o, h1.get? b = some o → h2.get? b = some o) → h2.get? h1.objs.size = some (seqObj "list" out.toArray n) → Q (.ref h1.objs.size) { s with heap := h2, toks := tk }) :
    wpAny (model prog w) A (call (.builtin "sorted") [.ref l]) Q E s := by
  refine Calls.call_function_entry kind_sorted plain_sorted entry_sorted (args_sorted1 _) ?_
  unfold Builtin.«sorted»
  refine wpAny_bind (m := checkCount "sorted" 1 1 _) (wpAny_pure ?_)
  refine wpAny_bind (hc A.in1 _ _ hh fun h' tk kp => ?_)
  refine wpAny_bind (wpAny_newList ?_ hz)
  have hoL : (h'.push (seqObj "list" vs.toArray 0)).get? h'.objs.size = some (seqObj "list" vs.toArray 0) := Heap.get?_push_size _ rfl
  show wpAny _ _ _ _ _ { s with heap := h'.push (seqObj "list" vs.toArray 0), toks := tk }
  have kp2 : ∀ b o, s.heap.get? b = some o → (h'.push (seqObj "list" vs.toArray 0)).get? b = some o := fun b o e => Heap.get?_push_of_some _ (kp b o e)
  have hp2 : ∀ v ∈ vs, ∃ ns, TS.TupInts (h'.push (seqObj "list" vs.toArray 0)) v ns ∧ ns ≠ [] := fun v hm => let ⟨ns, t, r⟩ := hp v hm; ⟨ns, t.keeps fun b o e _ => kp2 b o e, r⟩
  have same : ∀ v ∈ vs, TS.intsOf (h'.push (seqObj "list" vs.toArray 0)) v = TS.intsOf s.heap v := fun v hm => by
    obtain ⟨ns, t, _⟩ := hp v hm
    rw [t.ints, (t.keeps fun b o e _ => kp2 b o e).ints]
  refine wpAny_bind (wpAny_holding (wpAny_call_entry slot_list_sort ⟨_, hoL, rfl⟩ entry_list_sort (SrtO.list_sort_ord (s := { s with heap := h'.push (seqObj "list" vs.toArray 0), toks := tk }) (swoW (TS.intsOf (h'.push (seqObj "list" vs.toArray 0)))) hoL hz (fun h2 => ?_) fun out hs hb => ⟨_, rfl, ?_⟩) (args_list_sort _)))
  · refine sortableW (s := { s with heap := h'.push (seqObj "list" vs.toArray 0), toks := tk }) (by omega) hp2 fun o e => ?_
    have e' : some o = some (seqObj "list" vs.toArray 0) := e.symm.trans hoL
    cases e'
    intro c
    exact absurd (Value.type.inj c) (by decide)
  · obtain ⟨n, hn⟩ := PyProof.Rows.sortedHeap_at (vs := vs) (out := out.toArray) hoL
    have pm : out.Perm vs := hb.perm
    have hm : out.map (TS.intsOf (h'.push (seqObj "list" vs.toArray 0))) = out.map (TS.intsOf s.heap) := List.map_congr_left fun v hv => same v (pm.mem_iff.mp hv)
    refine wpAny_pure ⟨_, rfl, h out h' _ tk n pm ?_ kp (fun b o e => ?_) hn⟩
    · refine sortI_uniq ?_ (pm.map _)
      rw [← hm, List.pairwise_map]
      exact hs
    · have hbb : b < h'.objs.size := Heap.lt_size e
      rw [PyProof.Rows.sortedHeap_old (Nat.ne_of_lt hbb) (by rw [size_push']; exact Nat.lt_succ_of_lt hbb)]
      exact Heap.get?_push_of_some _ e
end
/-- the int tuples among some data, none empty -/
def intTs : List D → Option (List (List Int))
  | [] => some []
  | .tup xs :: ds => match intL xs, intTs ds with
    | some (n :: ns), some r => some ((n :: ns) :: r)
    | _, _ => none
  | _ :: _ => none
def keyI : List Key → Option (List Int)
  | [] => some []
  | .inl i :: ks => (keyI ks).map (i :: ·)
  | .inr _ :: _ => none
def keyTs : List (List Key × D) → Option (List (List Int))
  | [] => some []
  | p :: r => match keyI p.1, keyTs r with
    | some (n :: ns), some l => some ((n :: ns) :: l)
    | _, _ => none
def tupI (ns : List Int) : D := .tup (ns.map .int)
def bSorted (d : D) (k : D → Prop) : Prop := match d with
  | .lst xs => match intTs xs with
    | some l => k (.lst ((sortI l).map tupI))
    | none => False
  | .tup xs => match intTs xs with
    | some l => k (.lst ((sortI l).map tupI))
    | none => False
  | .dT kvs => match keyTs kvs with
    | some l => k (.lst ((sortI l).map tupI))
    | none => False
  | _ => False
section
variable {X : Cx} {pins : List (Addr × Obj)} {σ : L2.St} {H : Hp} {s : Shared}
theorem reps_ints {K : PySem.W.Frag} {H : Hp} : ∀ ns : List Int, Reps K H 0 (ns.map D.int) (ns.map V.int) []
  | [] => .nil
  | n :: ns => .cons (f := []) (g := []) (.int n) (reps_ints ns) (fun _ _ hb => by simp at hb)
/-- gathered things: where each stands, and its ints -/
def At (H : Hp) (x : V) (ns : List Int) : Prop := ∃ b, x = .ref b ∧ H b = some (.tup (ns.map V.int)) ∧ ns ≠ []
theorem intTs_at {lv : Nat} : ∀ {ds : List D} {xs : List V} {f : List Addr} {l : List (List Int)}, lv ≤ 1 → Reps X.K H lv ds xs f → intTs ds = some l → Paired (At H) xs l
  | _, _, _, _, _, .nil, e => by cases e; exact .nil
  | _, _, _, l, hl, .cons (d := d) (ds := ds) r t _, e => by
    cases d with
    | tup ys =>
      rw [intTs] at e
      split at e
      · rename_i n ns r' e1 e2
        cases e
        obtain ⟨a, vs, rfl, ha, rr⟩ := r.tupleAt hl
        rw [rr.intL e1] at ha
        exact .cons ⟨a, rfl, ha, by simp⟩ (intTs_at hl t e2)
      · cases e
    | _ => simp [intTs] at e
theorem keyI_map : ∀ {ks : List Key} {ns : List Int}, keyI ks = some ns → ks.map kV = ns.map V.int
  | [], _, e => by cases e; rfl
  | .inl i :: ks, ns, e => by
    rw [keyI] at e
    cases h : keyI ks with
    | none => rw [h] at e; cases e
    | some r => rw [h] at e; cases e; rw [List.map_cons, List.map_cons, keyI_map h]; rfl
  | .inr _ :: _, _, e => by cases e
theorem at_vals : ∀ {xs : List V} {vs : List Value} {l : List (List Int)}, Inv X pins σ H s → Vals xs vs → Paired (At H) xs l → vs.map (TS.intsOf s.heap) = l ∧ xs = vs.map bkV ∧ ∀ v ∈ vs, (∃ a, v = Value.ref a) ∧ At H (bkV v) (TS.intsOf s.heap v) ∧ ∃ ns, TS.TupInts s.heap v ns ∧ ns ≠ []
  | _, _, _, I, .nil, .nil => ⟨rfl, rfl, fun v hv => by simp at hv⟩
  | _, _, _, I, .cons r t, .cons h p => by
    obtain ⟨h1, h2, h3⟩ := at_vals I t p
    obtain ⟨b, rfl, hb, hn⟩ := h
    cases r
    have ti := tupI_raw I (.of hb : SqT X.K H b _)
    refine ⟨by rw [List.map_cons, h1, ti.ints], by rw [List.map_cons, ← h2]; rfl, fun v hv => ?_⟩
    rcases List.mem_cons.mp hv with rfl | hv
    · exact ⟨⟨_, rfl⟩, ⟨b, rfl, by rw [ti.ints]; exact hb, by rw [ti.ints]; exact hn⟩, _, ti, hn⟩
    · exact h3 v hv
theorem out_reps {K : PySem.W.Frag} {h : Heap} : ∀ {out : List Value}, (∀ v ∈ out, At H (bkV v) (TS.intsOf h v)) → Reps K H 0 (out.map fun v => tupI (TS.intsOf h v)) (out.map bkV) []
  | [], _ => .nil
  | v :: out, hh => by
    obtain ⟨b, e, hb, _⟩ := hh v (List.mem_cons_self ..)
    refine .cons (f := []) (g := []) ?_ (out_reps fun u hu => hh u (List.mem_cons_of_mem _ hu)) (fun _ _ hb => by simp at hb)
    rw [e]
    exact .tup hb (reps_ints _)
theorem sorted_run {a : Addr} {xs : List V} {vs : List Value} {l : List (List Int)} {Q : VK} (hx : Ok X) (I : Inv X pins σ H s) (rv : Vals xs vs) (p : Paired (At H) xs l) (hz : vs.length ≤ sizeLine)
    (hc : ∀ (A : Around) (E : Value → Shared → Prop) (Q : List Value → Shared → Prop), A.handled = none → (∀ (h' : Heap) (tk : Nat), (∀ b o, s.heap.get? b = some o → h'.get? b = some o) → Q vs { s with heap := h', toks := tk }) → wpAny (model X.prog X.w) A (collect (.ref a)) Q E s)
    (q : ∀ z H' g, Rep X.K H' 0 (.lst ((sortI l).map tupI)) z g → Ext H H' g → Q z H') : wpAny (model X.prog X.w) X.A (call (.builtin "sorted") [.ref a]) (EP X pins σ Q) X.xe s := by
  obtain ⟨e1, e2, e3⟩ := at_vals I rv p
  refine sorted_gathered hz hc (I.ok.hd hx.calm) (fun v hv => (e3 v hv).2.2) fun out h1 h2 tk n pm hs k1 k2 hn => ?_
  have I1 : Inv X pins σ H { s with heap := h1, toks := tk } := I.kept k1
  have hf : H h1.objs.size = none := I1.hok.fresh (Nat.le_refl _)
  refine ⟨.ref h1.objs.size, upd H h1.objs.size (.lst (out.map bkV)), I1.laid (t' := tk) k2 (Nat.le_refl _) ?_, rfl, q _ _ _ (upd_lst hf ?_) (Ext.upd hf)⟩
  · exact ⟨by rw [List.length_map, pm.length_eq]; exact hz, out, n, bkV_vals fun u hu => (e3 u (pm.mem_iff.mp hu)).1, hn⟩
  · rw [← e1, ← hs, List.map_map]
    exact out_reps fun v hv => (e3 v (pm.mem_iff.mp hv)).2.1
theorem keyTs_at {kvs : List (List Key × D)} : ∀ {hs : List (List Key × V)} {bs : List Addr} {l : List (List Int)}, IsKeys H hs bs → hs.map (·.1) = kvs.map (·.1) → keyTs kvs = some l → Paired (At H) (bs.map V.ref) l := by
  induction kvs with
  | nil =>
    intro hs bs l ik e1 e2
    cases hs with
    | nil => cases ik; cases e2; exact .nil
    | cons _ _ => simp at e1
  | cons kv kvs ih =>
    intro hs bs l ik e1 e2
    cases hs with
    | nil => simp at e1
    | cons h hs =>
      cases ik with
      | cons hb ik =>
        rw [List.map_cons, List.map_cons, List.cons.injEq] at e1
        rw [keyTs] at e2
        split at e2
        · rename_i n ns r q1 q2
          cases e2
          rw [e1.1, keyI_map q1] at hb
          exact .cons ⟨_, rfl, hb, by simp⟩ (ih ik e1.2 q2)
        · cases e2
theorem mono_sorted : ∀ (d : D) (k k' : D → Prop), (∀ x, k x → k' x) → bSorted d k → bSorted d k' := fun d k k' h q => by
  unfold bSorted at q ⊢
  split at q
  · split at q
    · simp only [*] <;> exact h _ q
    · exact q.elim
  · split at q
    · simp only [*] <;> exact h _ q
    · exact q.elim
  · split at q
    · simp only [*] <;> exact h _ q
    · exact q.elim
  · exact q.elim
theorem cd_sorted (hx : Ok X) : CallD X (.builtin "sorted") 1 (op1 bSorted) := call1 (by decide) (fun pins s σ H x us Q d g I rs r q => by
  obtain ⟨u, rfl, rx⟩ := vals1 rs
  unfold bSorted at q
  split at q
  · split at q
    · rename_i xs l e
      obtain ⟨a, vs, g', rfl, ha, ra, _⟩ := r.listAt1 (Nat.le_refl _)
      cases rx
      obtain ⟨its, rv, pl, hz⟩ := I.list (.inl (.inl ha) : SqL X.K H a vs)
      obtain ⟨o, ho, hc, n, hd⟩ := pl.isList
      refine sorted_run hx I rv (intTs_at (X := X) (Nat.le_refl _) ra e) (by rw [← rv.length]; exact hz) (fun A E Q hh k => ?_) q
      exact wpAny_collect_seq a (.inl rfl) ho hc hd (fun h' kk => by simpa using k h' s.toks kk) (by rw [List.size_toArray, ← rv.length]; exact hz)
    · exact q.elim
  · split at q
    · rename_i xs l e
      obtain ⟨a, vs, rfl, ha, ra⟩ := r.tupleAt (Nat.le_refl _)
      cases rx
      obtain ⟨its, rv, pl, hz⟩ := I.tuple (.of ha : SqT X.K H a vs)
      obtain ⟨o, ho, hc, n, hd⟩ := pl
      refine sorted_run hx I rv (intTs_at (X := X) (Nat.le_refl _) ra e) (by rw [← rv.length]; exact hz) (fun A E Q hh k => ?_) q
      exact wpAny_collect_seq a (.inr rfl) ho hc hd (fun h' kk => by simpa using k h' s.toks kk) (by rw [List.size_toArray, ← rv.length]; exact hz)
    · exact q.elim
  · split at q
    · rename_i kvs l e
      cases r with
      | dTF l _ _ _ _ => exact absurd l (by omega)
      | @dT a hs kvs f ha he nd r nn =>
        cases rx
        obtain ⟨z, hss, ks, pr, o, es, ep, ho, hxx, hdt, hee, hn⟩ := (show ObjOk X.prog X.w H s.heap a (.dT hs) from I.hok a _ ha)
        have l1 : es.size = ks.length := size_of_entries hee
        have l2 : hs.length = ks.length := Paired.length pr
        refine sorted_run (xs := (ks.map fun x => x.2.1).map V.ref) (vs := (ks.map fun x => x.2.1).map Value.ref) hx I (vals_refs _) (keyTs_at (isKeys_of pr) he e) (by rw [List.length_map, List.length_map]; omega) (fun A E Q hh k => ?_) q
        refine PySem.W.kdu_collect (A := A) (kdl_raw hss hxx hdt) hh ho (by omega) fun h' tk acc kp it => ?_
        have ea : acc.toList = (ks.map fun x => x.2.1).map Value.ref := by
          rw [List.map_map]
          apply List.ext_getElem?
          intro j
          have hl : acc.toList.length = ks.length := by rw [Array.length_toList, it.1]; exact l1
          cases hj : acc.toList[j]? with
          | none =>
            have h1 := List.getElem?_eq_none_iff.mp hj
            rw [List.getElem?_eq_none (by rw [List.length_map]; omega)]
          | some v =>
            obtain ⟨en, hen, hv⟩ := it.2 j v (by rw [← Array.getElem?_toList]; exact hj)
            have qe := entry_at hee j
            rw [hen] at qe
            rw [List.getElem?_map]
            cases hb : ks[j]? with
            | none => rw [hb] at qe; cases qe
            | some b =>
              rw [hb] at qe
              have e2 : en = entryOfKey (tupleKind (mixKind X.prog X.w)) b := Option.some.inj qe
              rw [hv, e2]
              rfl
        rw [ea]
        exact k h' tk kp
    · exact q.elim
  · exact q.elim) mono_sorted
end
end BX

namespace BX
open PySem PySem.Spec PyProof.Rows L2

def D.ty : D → String
  | .non => "NoneType"
  | .bl _ => "bool"
  | .int _ => "int"
  | .str _ => "str"
  | .tup _ => "tuple"
  | .lst _ => "list"
  | .dT _ => "dict"
  | .dK _ => "dict"
  | .dF _ => "dict"
def isiB (T : String) (d : D) : Bool := d.ty == T || (d.ty == "bool" && T == "int")
def TyOk (T : String) : Prop := ∀ t ∈ ["NoneType", "bool", "int", "str", "tuple", "list", "dict"], kitB t T = some (t == T || (t == "bool" && T == "int"))
theorem D.ty_mem (d : D) : d.ty ∈ ["NoneType", "bool", "int", "str", "tuple", "list", "dict"] := by cases d <;> simp [D.ty]
theorem tk_int : TyOk "int" := by unfold TyOk; decide +kernel
theorem tk_bool : TyOk "bool" := by unfold TyOk; decide +kernel
theorem tk_str : TyOk "str" := by unfold TyOk; decide +kernel
theorem tk_tuple : TyOk "tuple" := by unfold TyOk; decide +kernel
theorem tk_list : TyOk "list" := by unfold TyOk; decide +kernel
/-- the kit's TyX, and a frozen dict with tuple keys -/
def TyY (K : PySem.W.Frag) (H : Hp) (x : V) (t : Value) : Prop := TyX K H x t ∨ ∃ (a : Addr) (o : Obj) (kvs : List (List Key × V)), x = .ref a ∧ t = .type "dict" ∧ H a = some (.frz o (.dT kvs))
section
variable {X : Cx}
theorem TyY.kit {pins : List (Addr × Obj)} {σ : L2.St} {H : Hp} {s : Shared} {x : V} {u t : Value} (ty : TyY X.K H x t) (I : Inv X pins σ H s) (rx : RelV x u) : ∃ P : Heap → Prop, PySem.W.KitX X.K u t P ∧ P s.heap ∧ u ≠ .builtin "__main__.__loader__#opaque" := by
  rcases ty with ty | ⟨a, o, kvs, rfl, rfl, ha⟩
  · exact kit_of I rx ty
  · obtain rfl : u = .ref a := rx
    obtain ⟨_, _, _, _, o, _, _, g, z, _⟩ := dt_rd I.hok (.inr ⟨o, ha⟩)
    exact ⟨_, PySem.W.kitx_dict, ⟨o, g, z.1⟩, fun z => nomatch z⟩
def rIsY (K : PySem.W.Frag) : List V → Hp → VK → Prop := fun xs H Q => ∃ (x c : V) (t u : Value) (b : Bool), ClsV c u ∧ PySem.W.kitOne K t u = some b ∧ xs = [x, c] ∧ TyY K H x t ∧ Q (.bl b) H
def rIsTY (K : PySem.W.Frag) : List V → Hp → VK → Prop := fun xs H Q => ∃ (x : V) (tp : Addr) (cs : List V) (t : Value) (us : List Value) (b : Bool), Paired ClsV cs us ∧ PySem.W.kitAny K t us = some b ∧ H tp = some (.tup cs) ∧ xs = [x, .ref tp] ∧ TyY K H x t ∧ Q (.bl b) H
theorem call_isY : CallR X (.builtin "isinstance") (rIsY X.K) := fun pins s σ H xs us Q I r ⟨x, c, t, u, b, k, e, l, ty, q⟩ => by
  subst l
  obtain ⟨u1, u2, rfl, r1, r2⟩ := vals2 r
  obtain ⟨P, Z, p, ne⟩ := ty.kit I r1
  rw [k.eq r2]
  exact PySem.W.kia_one Z I.kIn p e ne fun tk => ⟨.bl b, H, I.tok tk, rfl, q⟩
theorem call_isTY : CallR X (.builtin "isinstance") (rIsTY X.K) := fun pins s σ H xs us Q I r ⟨x, tp, cs, t, ws, b, k, e, hT, l, ty, q⟩ => by
  subst l
  obtain ⟨u1, u2, rfl, r1, r2⟩ := vals2 r
  obtain rfl : u2 = Value.ref tp := r2
  obtain ⟨P, Z, p, ne⟩ := ty.kit I r1
  obtain ⟨_, its, rv, ⟨oc, od, dt, sl⟩, h1, h2, n, h3⟩ := (show ObjOk X.prog X.w H s.heap tp (.tup cs) from I.hok tp _ hT)
  obtain rfl := ClsV.all k rv
  simp only at h2 h3
  subst h2 h3
  exact PySem.W.kia_tup Z I.kIn p h1 e ne fun tk => ⟨.bl b, H, I.tok tk, rfl, q⟩
end
section
variable {K : PySem.W.Frag} {H : Hp} {lv : Nat}
theorem Rep.tyX {d : D} {x : V} {g : List Addr} (r : Rep K H lv d x g) : TyY K H x (.type d.ty) := by
  cases r with
  | non => exact .inl <| .base .non
  | bl b => exact .inl <| .base (.bl b)
  | int b => exact .inl <| .base (.int b)
  | str b => exact .inl <| .base (.str b)
  | tup h r => exact .inl <| .base (.tup h)
  | tupK l h r => obtain ⟨o, its, n, e, c, _⟩ := h; exact .inl <| .kTuple e c
  | lst h r n => exact .inl <| .base (.lst h)
  | lstF l h r =>
    rcases h with ⟨o, h⟩ | ⟨o, its, n, e, c, _⟩
    · exact .inl <| .base (.frz h)
    · exact .inl <| .kList e c
  | dT h e nd r n => exact .inl <| .base (.dT h)
  | dTF l h e nd r => exact .inr ⟨_, _, _, rfl, rfl, h⟩
  | dF h e nd r => exact .inr ⟨_, _, _, rfl, rfl, h⟩
  | dK h e nd r n => exact .inl <| .base (.dK h)
end
def xIsi (T : String) (t : XE) : XE := fun env Q => t env fun r e => rd 2 r e fun d => Q (.tmp (.bl (isiB T d))) e
def xIsi2 (T U : String) (t : XE) : XE := fun env Q => t env fun r e => rd 2 r e fun d => Q (.tmp (.bl (isiB T d || isiB U d))) e
section
variable {X : Cx} {e : Expr} {t : XE} {p p2 p3 p4 pos : Pos} {T U : Str}
theorem de_isi {T0 : String} (hk : TyOk T0) (he : DE X e t) (hm : X.mg "isinstance" = none) (hmT : X.mg T = none) (hT : bootBuiltins T = some (.type T0)) (hg : Gl X "isinstance" := by rfl) (hgT : Gl X T := by rfl)
    (hn : T ≠ "__name__" := by decide) (hd : (T == ("__debug__" : Str)) = false := by decide)
    (h1 : starEach [e, .Name T p2] X.env = (false, eval e X.env) :: starEach [.Name T p2] X.env := by rfl) (h2 : starEach [Expr.Name T p2] X.env = (false, eval (.Name T p2) X.env) :: starEach [] X.env := by rfl)
    (hpl : (backTo pos (starEach [Expr.Name T p2] X.env)).any (·.1) = false := by rfl) : DE X (.Call (.Name "isinstance" p) [e, .Name T p2] [] pos) (xIsi T0 t) := by
  refine ⟨PE.imp (pe_callB call_isY hg hm (by rfl) (pa_cons he.run (pa_cons (pe_bltn (v := .ty T0) hgT hmT hT rfl hn hd) pa_nil h2) h1) (by decide) (by decide) h1 hpl) fun σ H Q q => ?_, fun env Q Q' h q => he.mono _ _ _ (fun r e q => rd_mono (fun d q => h _ _ q) q) q⟩
  obtain ⟨env, f, A, q⟩ := q
  refine ⟨env, f, A, he.mono _ _ _ (fun r e1 q => ?_) q⟩
  intro x H1 f1 g1 A1 R1 S1 K1
  obtain ⟨d, g', rp, q⟩ := rd_ok A1 R1 q
  exact ⟨x, .ty T0, .type d.ty, .type T0, isiB T0 d, .ty T0, kit_ty (hk _ d.ty_mem), rfl, rp.tyX, q _ H1 f1 [] A1 (.tmp (.bl _) no_mem_nil) (S1.drop fun _ z => by simp at z) K1⟩
theorem de_isi2 {T0 U0 : String} {x1 : Nat} (hk : TyOk T0) (hk2 : TyOk U0) (he : DE X e t) (hm : X.mg "isinstance" = none) (hmT : X.mg T = none) (hmU : X.mg U = none) (hT : bootBuiltins T = some (.type T0)) (hU : bootBuiltins U = some (.type U0)) (hg : Gl X "isinstance" := by rfl) (hgT : Gl X T := by rfl) (hgU : Gl X U := by rfl)
    (hn : T ≠ "__name__" := by decide) (hd : (T == ("__debug__" : Str)) = false := by decide) (hn2 : U ≠ "__name__" := by decide) (hd2 : (U == ("__debug__" : Str)) = false := by decide)
    (h1 : starEach [e, .Tuple [.Name T p2, .Name U p3] x1 p4] X.env = (false, eval e X.env) :: starEach [.Tuple [.Name T p2, .Name U p3] x1 p4] X.env := by rfl)
    (h2 : starEach [Expr.Tuple [.Name T p2, .Name U p3] x1 p4] X.env = (false, eval (.Tuple [.Name T p2, .Name U p3] x1 p4) X.env) :: starEach [] X.env := by rfl)
    (h3 : starEach [Expr.Name T p2, .Name U p3] X.env = (false, eval (.Name T p2) X.env) :: starEach [.Name U p3] X.env := by rfl) (h4 : starEach [Expr.Name U p3] X.env = (false, eval (.Name U p3) X.env) :: starEach [] X.env := by rfl)
    (hpl : (backTo pos (starEach [Expr.Tuple [.Name T p2, .Name U p3] x1 p4] X.env)).any (·.1) = false := by rfl) : DE X (.Call (.Name "isinstance" p) [e, .Tuple [.Name T p2, .Name U p3] x1 p4] [] pos) (xIsi2 T0 U0 t) := by
  refine ⟨PE.imp (pe_callB call_isTY hg hm (by rfl) (pa_cons he.run (pa_cons (pe_tup (pa_cons (pe_bltn (v := .ty T0) hgT hmT hT rfl hn hd) (pa_cons (pe_bltn (v := .ty U0) hgU hmU hU rfl hn2 hd2) pa_nil h4) h3)) pa_nil h2) h1) (by decide) (by decide) h1 hpl) fun σ H Q q => ?_, fun env Q Q' h q => he.mono _ _ _ (fun r e q => rd_mono (fun d q => h _ _ q) q) q⟩
  obtain ⟨env, f, A, q⟩ := q
  refine ⟨env, f, A, he.mono _ _ _ (fun r e1 q => ?_) q⟩
  intro x H1 f1 g1 A1 R1 S1 K1
  obtain ⟨d, g', rp, q⟩ := rd_ok A1 R1 q
  refine ⟨by show 2 ≤ sizeLine; decide, fun tp hf => ?_⟩
  have ex : Ext H1 (upd H1 tp (.tup [.ty T0, .ty U0])) [] := .updT hf
  obtain ⟨A3, R3, S3⟩ := fin_ext A1 S1 ex (.bl (isiB T0 d || isiB U0 d))
  refine ⟨x, tp, [.ty T0, .ty U0], .type d.ty, [.type T0, .type U0], isiB T0 d || isiB U0 d, .cons (.ty T0) (.cons (.ty U0) .nil), ?_, upd_same, rfl, (rp.keep fun b o e _ => ex.same b o e).tyX, q _ _ f1 [] A3 R3 S3 K1⟩
  refine kitAny_cons (kit_ty (hk _ d.ty_mem)) (fun h => kitAny_cons (kit_ty (hk2 _ d.ty_mem)) (fun h2 => ?_) fun h2 => ?_) fun h => ?_
  · rw [kitAny_nil]; unfold isiB; rw [h, h2]; rfl
  · unfold isiB; rw [h2]; simp
  · unfold isiB; rw [h]; rfl
theorem cd_len : CallD X (.builtin "len") 2 (op1 bLen) := call1 (by decide) (fun pins s σ H x us Q d g I rs r q => by
  unfold bLen at q
  split at q
  · obtain ⟨a, vs, g', rfl, hs, rr, _, _⟩ := r.listSq
    exact call_len pins s σ H _ us Q I rs ⟨_, _, rfl, .inl ⟨vs, hs, rfl⟩, by rw [← rr.len]; exact q _ _ _ (.int _) .refl⟩
  · obtain ⟨a, vs, rfl, hs, rr⟩ := r.tupleSq
    exact call_len pins s σ H _ us Q I rs ⟨_, _, rfl, .inr ⟨vs, hs, rfl⟩, by rw [← rr.len]; exact q _ _ _ (.int _) .refl⟩
  · obtain ⟨rfl, _⟩ := r.strV
    exact call_len pins s σ H _ us Q I rs ⟨.str _, _, rfl, ⟨q.1, rfl⟩, q.2 _ _ _ (.int _) .refl⟩
  · cases r with
    | @dK a hs kvs f ha he nd rr nn =>
      have hl := congrArg List.length he
      rw [List.length_map, List.length_map] at hl
      exact call_lenD pins s σ H _ us Q I rs ⟨_, _, rfl, ha, by rw [hl]; exact q _ _ _ (.int _) .refl⟩
  · cases r with
    | @dT a hs kvs f ha he nd rr nn =>
      have hl := congrArg List.length he
      rw [List.length_map, List.length_map] at hl
      exact call_len_dT pins s σ H _ us Q I rs ⟨_, _, rfl, ha, by rw [hl]; exact q _ _ _ (.int _) .refl⟩
    | @dTF a o hs kvs f l ha he nd rr =>
      have hl := congrArg List.length he
      rw [List.length_map, List.length_map] at hl
      obtain ⟨u, rfl, rx⟩ := vals1 rs
      obtain rfl : u = .ref a := rx
      obtain ⟨z, hd, ys, rel, dd⟩ := dt_rd I.hok (.inr ⟨o, ha⟩)
      have hl2 : hs.length = ys.length := Paired.length rel
      refine call_len_dictH hd dd (by rw [← hl2]; rw [sizeLine_eq] at z; omega) ?_
      rw [← hl2, hl]
      exact ⟨.int _, H, I.tok _, ⟨_, rfl⟩, q _ _ _ (.int _) .refl⟩
  · exact q.elim) (fun d k k' h q => by
  unfold bLen at q ⊢
  split at q
  · exact h _ q
  · exact h _ q
  · exact ⟨q.1, h _ q.2⟩
  · exact h _ q
  · exact h _ q
  · exact q.elim)
end

def blD (d : D) (k : Bool → Prop) : Prop := match d with
  | .bl b => k b
  | _ => False
def dChn (L : Nat) (op : OP) (L' : Nat) (op' : OP) (ta tb tc : XE) : XE := fun env Q => ta env fun r1 e1 => tb e1 fun r2 e2 => rd L r1 e2 fun d1 => rd L r2 e2 fun d2 => op d1 d2 fun d => blD d fun b =>
  (b = true → tc e2 fun r3 e3 => rd L' r2 e3 fun d2 => rd L' r3 e3 fun d3 => op' d2 d3 fun d => Q (.tmp d) e3) ∧ (b = false → Q (.tmp (.bl false)) e2)
section
variable {K : PySem.W.Frag} {σ : L2.St} {H H1 H' : Hp} {env e1 : En} {f f1 : FA} {g g1 : List Addr} {r : R} {v : V}
theorem ResOk.ext (h : ResOk K σ H env f r v g) (A : Abs K σ H env f) (x : ∀ b o, H b = some o → H' b = some o) : ResOk K σ H' env f r v g := by
  cases h with
  | tmp r n => exact .tmp (r.keep fun b o e _ => x b o e) n
  | ro r n => exact .ro (r.keep fun b o e _ => x b o e) n
  | sl e1 e2 hm => exact .sl e1 e2 hm
theorem blD_ex {d : D} {k : Bool → Prop} (q : blD d k) : ∃ b, d = .bl b ∧ k b := by
  cases d with
  | bl b => exact ⟨b, rfl, q⟩
  | _ => exact q.elim
theorem chn_mono {L L' : Nat} {op op' : OP} {ta tb tc : XE} (ho : MonoO op) (ho' : MonoO op') (ma : MonoE ta) (mb : MonoE tb) (mc : MonoE tc) : MonoE (dChn L op L' op' ta tb tc) := fun env Q Q' h q =>
  ma _ _ _ (fun r1 e1 q => mb _ _ _ (fun r2 e2 q => rd_mono (fun d1 q => rd_mono (fun d2 q => ho _ _ _ _ (fun d q => by
    obtain ⟨b, rfl, q⟩ := blD_ex q
    exact ⟨fun z => mc _ _ _ (fun r3 e3 q => rd_mono (fun d2 q => rd_mono (fun d3 q => ho' _ _ _ _ (fun d q => h _ _ q) q) q) q) (q.1 z), fun z => h _ _ (q.2 z)⟩) q) q) q) q) q
theorem chn_lift {L L' : Nat} {op op' : OP} {ta tb tc : XE} (ho : MonoO op) (ho' : MonoO op') (ma : MonoE ta) (mb : MonoE tb) (mc : MonoE tc) {Q : VK} (q : liftE K (dChn L op L' op' ta tb tc) σ H Q) :
    tChain (rOp K L op) (rOp K L' op') (liftE K ta) (liftE K tb) (liftE K tc) σ H Q := by
  obtain ⟨env, f, A, q⟩ := q
  refine ⟨env, f, A, ma _ _ _ (fun r1 e1 q => ?_) q⟩
  intro x H1 f1 g1 A1 R1 S1 K1
  refine ⟨e1, f1, A1, mb _ _ _ (fun r2 e2 q => ?_) q⟩
  intro y H2 f2 g2 A2 R2 S2 K2
  obtain ⟨R1', n⟩ := R1.wait A1 S2 K2
  obtain ⟨d1, g1', rp1, q⟩ := rd_ok A2 R1' q
  obtain ⟨d2, g2', rp2, q⟩ := rd_ok A2 R2 q
  refine ⟨d1, d2, g1', g2', rp1, rp2, ho _ _ _ _ (fun d q => ?_) q⟩
  intro z H3 g3 rp3 x3
  obtain ⟨b, rfl, q⟩ := blD_ex q
  obtain ⟨rfl, _⟩ := rp3.blV
  have A3 := A2.ext x3.same
  have S3 : Stp H env f [] H3 e2 f2 (g1 ++ g2) := (S1.trans (S2.frame g1)).ext x3.same
  have K3 := K1.trans K2
  refine ⟨b, rfl, ?_⟩
  cases b with
  | false =>
    rw [if_neg Bool.false_ne_true]
    exact q.2 rfl _ H3 f2 [] A3 (.tmp (.bl _) no_mem_nil) (S3.drop fun _ z => by simp at z) K3
  | true =>
    rw [if_pos rfl]
    have R2' := R2.ext A2 x3.same
    refine ⟨e2, f2, A3, mc _ _ _ (fun r3 e3 q => ?_) (q.1 rfl)⟩
    intro w H4 f4 g4 A4 R4 S4 K4
    obtain ⟨R2'', n2⟩ := R2'.wait A3 S4 K4
    obtain ⟨d2', g2'', rp2', q⟩ := rd_ok A4 R2'' q
    obtain ⟨d4, g4', rp4, q⟩ := rd_ok A4 R4 q
    refine ⟨d2', d4, g2'', g4', rp2', rp4, ho' _ _ _ _ (fun dd q => ?_) q⟩
    intro z H5 g5 rp5 x5
    have S5 : Stp H env f [] H4 e3 f4 [] := (S3.drop (G2 := []) fun _ z => by simp at z).trans (S4.drop fun _ z => by simp at z)
    obtain ⟨A5, R5, S5⟩ := fin_ext A4 S5 x5 rp5
    exact q z H5 f4 g5 A5 R5 S5 (K3.trans K4)
end
section
variable {X : Cx} {a b c : Expr} {ta tb tc : XE} {pos : Pos} {L L' : Nat} {op op' : OP} {o o' : CmpOp}
theorem de_chain (ho : OpD X (compareOp o) L op) (ho' : OpD X (compareOp o') L' op') (ha : DE X a ta) (hb : DE X b tb) (hc : DE X c tc) (hm : lastMarks [o, o'] [b, c] = false := by with_unfolding_all rfl) : DE X (.Compare a [o, o'] [b, c] pos) (dChn L op L' op' ta tb tc) :=
  ⟨PE.imp (pe_chain ho.run ho'.run ha.run hb.run hc.run hm) fun σ H Q q => chn_lift ho.mono ho'.mono ha.mono hb.mono hc.mono q, chn_mono ho.mono ho'.mono ha.mono hb.mono hc.mono⟩
def BlOp (op : OP) : Prop := ∀ d1 d2 k, op d1 d2 k → op d1 d2 fun d => (∃ b, d = .bl b) ∧ k d
theorem dt_chain (ho : OpD X (compareOp o) L op) (ho' : OpD X (compareOp o') L' op') (hbl : BlOp op') (ha : DE X a ta) (hb : DE X b tb) (hc : DE X c tc) (hm : lastMarks [o, o'] [b, c] = false := by with_unfolding_all rfl) : DT X (.Compare a [o, o'] [b, c] pos) (xVal (dChn L op L' op' ta tb tc)) := by
  refine ⟨PT.imp (pt_chain ho.run ho'.run ha.run hb.run hc.run hm) fun σ H Q q => ?_, fun env Q Q' h q => chn_mono ho.mono ho'.mono ha.mono hb.mono hc.mono _ _ _ (fun r e q => rd_mono (fun d q => tru_mono (fun b q => h _ _ q) q) q) q⟩
  refine chn_lift (Q := fun v H' => ∃ k, v = .bl k ∧ Q k H') ho.mono ho'.mono ha.mono hb.mono hc.mono ?_
  obtain ⟨env, f, A, q⟩ := q
  refine ⟨env, f, A, ?_⟩
  refine ha.mono _ _ _ (fun r1 e1 q => hb.mono _ _ _ (fun r2 e2 q => rd_mono (fun d1 q => rd_mono (fun d2 q => ho.mono _ _ _ _ (fun d q => ?_) q) q) q) q) q
  obtain ⟨b, rfl, q⟩ := blD_ex q
  refine ⟨fun z => hc.mono _ _ _ (fun r3 e3 q => rd_mono (fun d2 q => rd_mono (fun d3 q => ?_) q) q) (q.1 z), fun z => ?_⟩
  · refine ho'.mono _ _ _ _ (fun d q => ?_) (hbl _ _ _ q)
    obtain ⟨⟨b, rfl⟩, q⟩ := q
    intro v H' f' g A' R' S' K'
    cases R' with
    | tmp rp _ =>
      obtain ⟨rfl, rfl⟩ := rp.blV
      exact ⟨b, rfl, q H' f' A' S' K'⟩
  · have q := q.2 z
    intro v H' f' g A' R' S' K'
    cases R' with
    | tmp rp _ =>
      obtain ⟨rfl, rfl⟩ := rp.blV
      exact ⟨false, rfl, q H' f' A' S' K'⟩
theorem bl_gt : BlOp opGt := fun d1 d2 k q => by cases d1 <;> cases d2 <;> first | exact q.elim | exact ⟨⟨_, rfl⟩, q⟩
theorem bl_ge : BlOp opGe := fun d1 d2 k q => by cases d1 <;> cases d2 <;> first | exact q.elim | exact ⟨⟨_, rfl⟩, q⟩
theorem bl_le : BlOp opLe := fun d1 d2 k q => by cases d1 <;> cases d2 <;> first | exact q.elim | exact ⟨⟨_, rfl⟩, q⟩
theorem bl_eq : BlOp opEq := fun d1 d2 k q => ⟨q.1, q.2.1, ⟨_, rfl⟩, q.2.2⟩
theorem bl_ne : BlOp opNe := fun d1 d2 k q => ⟨q.1, q.2.1, ⟨_, rfl⟩, q.2.2⟩
theorem bl_lt : BlOp opLt := fun d1 d2 k q => by
  unfold opLt at q ⊢
  split at q
  · exact ⟨⟨_, rfl⟩, q⟩
  · split at q
    · simp only [*]; exact ⟨⟨_, rfl⟩, trivial⟩
    · exact q.elim
  · exact q.elim
theorem bl_is : BlOp opIs := fun d1 d2 k q => by
  unfold opIs at q ⊢
  split at q
  · exact ⟨⟨_, rfl⟩, q⟩
  · exact ⟨⟨_, rfl⟩, q⟩
  · exact q.elim
theorem bl_isNot : BlOp opIsNot := fun d1 d2 k q => by
  unfold opIsNot at q ⊢
  split at q
  · exact ⟨⟨_, rfl⟩, q⟩
  · exact ⟨⟨_, rfl⟩, q⟩
  · exact q.elim
theorem bl_inB {n : Bool} : BlOp (opInB n) := fun d1 d2 k q => by
  unfold opInB at q ⊢
  split at q
  · split at q
    · split at q
      · simp only [*]; exact ⟨⟨_, rfl⟩, trivial⟩
      · exact q.elim
    · exact q.elim
  · split at q
    · simp only [*]; exact ⟨⟨_, rfl⟩, trivial⟩
    · exact q.elim
  · exact ⟨q.1, q.2.1, ⟨_, rfl⟩, q.2.2⟩
  · exact ⟨q.1, q.2.1, ⟨_, rfl⟩, q.2.2⟩
  · split at q
    · exact ⟨⟨_, rfl⟩, q⟩
    · exact q.elim
  · exact q.elim
end
end BX

namespace BX
open PySem PySem.Spec PyProof.Rows L2

section
variable {κ : Type} [DecidableEq κ] {K : PySem.W.Frag} {H : Hp}
def putD (k : κ) (d : D) : List (κ × D) → List (κ × D)
  | [] => [(k, d)]
  | p :: r => if p.1 = k then (p.1, d) :: r else p :: putD k d r
def putV (k : κ) (d : V) : List (κ × V) → List (κ × V)
  | [] => [(k, d)]
  | p :: r => if p.1 = k then (p.1, d) :: r else p :: putV k d r
theorem putV_no (k : κ) (v : V) : ∀ hs : List (κ × V), (∀ p ∈ hs, p.1 ≠ k) → putV k v hs = hs ++ [(k, v)]
  | [], _ => rfl
  | p :: r, h => by
    rw [putV, if_neg (h p (List.mem_cons_self ..)), putV_no k v r fun q hq => h q (List.mem_cons_of_mem _ hq)]
    rfl
theorem putV_yes (k : κ) (v : V) : ∀ hs : List (κ × V), (hs.map (·.1)).Nodup → (∃ p ∈ hs, p.1 = k) → putV k v hs = hs.map fun kv => if kv.1 = k then (kv.1, v) else kv
  | [], _, h => by obtain ⟨p, h, _⟩ := h; simp at h
  | p :: r, nd, h => by
    rw [List.map_cons, List.nodup_cons] at nd
    rw [putV, List.map_cons]
    by_cases e : p.1 = k
    · rw [if_pos e, if_pos e]
      congr 1
      have : ∀ q ∈ r, (if q.1 = k then (q.1, v) else q) = q := fun q hq => if_neg fun z => nd.1 (List.mem_map.mpr ⟨q, hq, z.trans e.symm⟩)
      rw [List.map_congr_left this, List.map_id']
    · rw [if_neg e, if_neg e]
      congr 1
      obtain ⟨q, hq, hk⟩ := h
      rcases List.mem_cons.mp hq with rfl | hq
      · exact absurd hk e
      · exact putV_yes k v r nd.2 ⟨q, hq, hk⟩
theorem putK_V {k : κ} {v : V} {hs : List (κ × V)} (nd : (hs.map (·.1)).Nodup) : putK hs k v = putV k v hs := by
  unfold putK
  split
  · rename_i h
    rw [List.any_eq_true] at h
    obtain ⟨p, hp, e⟩ := h
    exact (putV_yes k v hs nd ⟨p, hp, of_decide_eq_true e⟩).symm
  · rename_i h
    refine (putV_no k v hs fun p hp e => h ?_).symm
    rw [List.any_eq_true]
    exact ⟨p, hp, decide_eq_true e⟩
theorem put_keys (k : κ) (v : V) (d : D) : ∀ {hs : List (κ × V)} {kvs : List (κ × D)}, hs.map (·.1) = kvs.map (·.1) → (putV k v hs).map (·.1) = (putD k d kvs).map (·.1)
  | [], [], _ => rfl
  | [], _ :: _, e => by simp at e
  | _ :: _, [], e => by simp at e
  | p :: hs, q :: kvs, e => by
    rw [List.map_cons, List.map_cons, List.cons.injEq] at e
    rw [putV, putD]
    by_cases h : p.1 = k
    · rw [if_pos h, if_pos (e.1 ▸ h), List.map_cons, List.map_cons, e.1, e.2]
    · rw [if_neg h, if_neg (e.1 ▸ h), List.map_cons, List.map_cons, e.1, put_keys k v d e.2]
theorem putD_mem {k : κ} {d : D} : ∀ {kvs : List (κ × D)} {x : κ}, x ∈ (putD k d kvs).map (·.1) → x = k ∨ x ∈ kvs.map (·.1)
  | [], x, h => .inl (by simpa [putD] using h)
  | p :: r, x, h => by
    rw [putD] at h
    split at h
    · exact .inr (by simpa using h)
    · rw [List.map_cons] at h ⊢
      rcases List.mem_cons.mp h with rfl | h
      · exact .inr (List.mem_cons_self ..)
      · exact (putD_mem h).imp_right fun z => List.mem_cons_of_mem _ z
theorem putD_nodup {k : κ} {d : D} : ∀ {kvs : List (κ × D)}, (kvs.map (·.1)).Nodup → ((putD k d kvs).map (·.1)).Nodup
  | [], _ => by simp [putD]
  | p :: r, nd => by
    rw [putD]
    split
    · exact nd
    · rename_i h
      rw [List.map_cons, List.nodup_cons] at nd ⊢
      exact ⟨fun z => (putD_mem z).elim h nd.1, putD_nodup nd.2⟩
theorem put_reps {k : κ} {d : D} {v : V} {g : List Addr} (r : Rep K H 0 d v g) : ∀ {kvs : List (κ × D)} {hs : List (κ × V)} {fp : List Addr}, hs.map (·.1) = kvs.map (·.1) → Reps K H 0 (kvs.map (·.2)) (hs.map (·.2)) fp → (∀ b ∈ fp, b ∉ g) →
    ∃ fp', Reps K H 0 ((putD k d kvs).map (·.2)) ((putV k v hs).map (·.2)) fp' ∧ ∀ b ∈ fp', b ∈ fp ∨ b ∈ g
  | [], [], _, _, .nil, _ => ⟨g, Reps.one r, fun b hb => .inr hb⟩
  | [], _ :: _, _, e, _, _ => by simp at e
  | _ :: _, [], _, e, _, _ => by simp at e
  | q :: kvs, p :: hs, fp, e, rr, dj => by
    rw [List.map_cons, List.map_cons, List.cons.injEq] at e
    rw [List.map_cons, List.map_cons] at rr
    cases rr with
    | @cons _ _ f1 _ _ f2 r1 rt n =>
      rw [putV, putD]
      by_cases h : p.1 = k
      · rw [if_pos h, if_pos (e.1 ▸ h), List.map_cons, List.map_cons]
        exact ⟨g ++ f2, .cons r rt fun _ b hb z => dj b (List.mem_append_right _ z) hb, fun b hb => (List.mem_append.mp hb).elim .inr fun z => .inl (List.mem_append_right _ z)⟩
      · rw [if_neg h, if_neg (e.1 ▸ h), List.map_cons, List.map_cons]
        obtain ⟨fp', r', s'⟩ := put_reps r e.2 rt fun b hb => dj b (List.mem_append_right _ hb)
        refine ⟨f1 ++ fp', .cons r1 r' fun _ b hb z => (s' b z).elim (n rfl b hb) (dj b (List.mem_append_left _ hb)), fun b hb => (List.mem_append.mp hb).elim (fun z => .inl (List.mem_append_left _ z)) fun z => (s' b z).imp_left fun y => List.mem_append_right _ y⟩
theorem set_reps {d : D} {v : V} {g : List Addr} (r : Rep K H 0 d v g) : ∀ {ds : List D} {vs : List V} {fp : List Addr} (j : Nat), Reps K H 0 ds vs fp → (∀ b ∈ fp, b ∉ g) → ∃ fp', Reps K H 0 (ds.set j d) (vs.set j v) fp' ∧ ∀ b ∈ fp', b ∈ fp ∨ b ∈ g
  | _, _, _, _, .nil, _ => ⟨[], .nil, fun b hb => by simp at hb⟩
  | _, _, _, 0, .cons (g := f2) r1 rt n, dj => ⟨g ++ f2, .cons r rt fun _ b hb z => dj b (List.mem_append_right _ z) hb, fun b hb => (List.mem_append.mp hb).elim .inr fun z => .inl (List.mem_append_right _ z)⟩
  | _, _, _, j + 1, .cons (f := f1) (g := f2) r1 rt n, dj => by
    obtain ⟨fp', r', s'⟩ := set_reps r j rt fun b hb => dj b (List.mem_append_right _ hb)
    exact ⟨f1 ++ fp', .cons r1 r' fun e b hb z => (s' b z).elim (n e b hb) (dj b (List.mem_append_left _ hb)), fun b hb => (List.mem_append.mp hb).elim (fun z => .inl (List.mem_append_left _ z)) fun z => (s' b z).imp_left fun y => List.mem_append_right _ y⟩
end
def putR (ro : R) (di d : D) (e : En) (nx : En → Prop) : Prop := chg ro e fun i dd m => match dd with
  | .lst xs => match di with
    | .int j => match ixN xs.length j with
      | some n => nx (e.set i (some (.lst (xs.set n d), m)))
      | none => False
    | _ => False
  | .dT kvs => match di with
    | .tup ks => match dKeys ks with
      | some k => kvs.length < sizeLine ∧ nx (e.set i (some (.dT (putD k d kvs), m)))
      | none => False
    | _ => False
  | _ => False
def sPut (te to ti : XE) : XS := fun env nx _ => te env fun r e1 => to e1 fun ro e2 => ti e2 fun ri e3 => stor r e3 fun d => rd 1 ri e3 fun di => putR ro di d e3 nx
theorem putR_mono {ro : R} {di d : D} {e : En} {k k' : En → Prop} (h : ∀ e, k e → k' e) (q : putR ro di d e k) : putR ro di d e k' := chg_mono (fun i dd m q => by
  split at q
  · split at q
    · split at q
      · simp only [*] <;> exact h _ q
      · exact q.elim
    · exact q.elim
  · split at q
    · split at q
      · have q2 := h _ q.2
        simp only [*]
        first | exact ⟨trivial, trivial⟩ | exact ⟨q.1, trivial⟩ | exact trivial
      · exact q.elim
    · exact q.elim
  · exact q.elim) q
section
variable {X : Cx} {o i e : Expr} {te to ti : XE} {pos tpos : Pos}
def rSetA : TSet := fun o i v H Q => rSetL o i v H Q ∨ rSetD o i v H Q
theorem set_any (hx : Ok X) : PSet X rSetA := fun pins s σ H o i v ov iv u Q I ro ri rv h => h.elim (set_list pins s σ H o i v ov iv u Q I ro ri rv) (set_dict (by have := hx.un; omega) pins s σ H o i v ov iv u Q I ro ri rv)
theorem ds_put (hx : Ok X) (he : DE X e te) (ho : DE X o to) (hi : DE X i ti) (hs : swapsWithSole [.Subscript o i tpos] e pos.line X.env = pure false := by rfl) (hw : swappedStores [.Subscript o i tpos] e X.env = pure none := by rfl)
    (h1 : (assignEach [.Subscript o i tpos] X.env).map (·.2) = [assign (.Subscript o i tpos) X.env] := by rfl)
    (ha : ∀ v, assign (.Subscript o i tpos) X.env v = (do
      let ov ← holding [v] (eval o X.env)
      let iv ← holding [v, ov] (eval i X.env)
      standAt tpos
      holding [v, ov, iv] (setItem ov iv v)
      release [v, ov, iv] []) := by intro _; rfl) : DS X (.Assign [.Subscript o i tpos] e pos) (sPut te to ti) := by
  refine ⟨PS.imp (ps_asg he.run (pg_sub ho.run hi.run (set_any hx) ha) hs hw h1) fun D σ H q => ?_, fun env nx nx' rt rt' h h' q => he.mono _ _ _ (fun r e q => ho.mono _ _ _ (fun r e q => hi.mono _ _ _ (fun r e q => stor_mono (fun d q => rd_mono (fun d q => putR_mono h q) q) q) q) q) q⟩
  obtain ⟨env, f, A, q⟩ := q
  refine ⟨env, f, A, he.mono _ _ _ (fun r e1 q => ?_) q⟩
  intro v H1 f1 g1 A1 R1 S1 K1
  refine ⟨e1, f1, A1, ho.mono _ _ _ (fun ro e2 q => ?_) q⟩
  intro vo H2 f2 g2 A2 R2 S2 K2
  refine ⟨e2, f2, A2, hi.mono _ _ _ (fun ri e3 q => ?_) q⟩
  intro vi H3 f3 g3 A3 R3 S3 K3
  obtain ⟨R1', n1⟩ := R1.wait A1 S2 K2
  obtain ⟨R1'', n1'⟩ := R1'.wait A2 S3 K3
  obtain ⟨R2', n2⟩ := R2.wait A2 S3 K3
  have S : Stp H env f [] H3 e3 f3 g1 := ((S1.trans ((S2.drop (G2 := []) fun _ z => by simp at z).frame g1)).drop (G2 := g1) (fun b hb => by simpa using hb)).trans ((S3.drop (G2 := []) fun _ z => by simp at z).frame g1) |>.drop fun b hb => by simpa using hb
  have Kk := (K1.trans K2).trans K3
  obtain ⟨d, rd1, q, nn⟩ := stor_ok A3 R1'' q
  obtain ⟨di, gi, rpi, q⟩ := rd_ok A3 R3 q
  obtain ⟨n, dd, m, en, hm, hl, hv, rp, rfl, q⟩ := chg_ok A3 R2' q
  split at q
  · obtain ⟨a, vs, fp, rfl, hH, rr, hf, nfp⟩ := rp.listAt
    split at q
    · split at q
      · rename_i m' hj
        obtain ⟨rfl, _⟩ := rpi.intV
        have dj : ∀ b ∈ fp, b ∉ g1 := fun b hb z => (nn b z).1 ⟨n, _, m, en, hl, by rw [hf]; exact List.mem_cons_of_mem _ hb⟩
        obtain ⟨fp', r', s'⟩ := set_reps rd1 m' rr dj
        obtain ⟨A4, S4, K4, _⟩ := lst_chg (G := g1) (G' := []) A3 en hm hl hv hH hf nfp r' s' nn no_mem_nil
        refine .inl ⟨a, vs, _, m', rfl, rfl, hH, by rw [← rr.len]; exact hj, q σ _ _ A4 (S.trans S4) (Kk.trans K4).kq⟩
      · exact q.elim
    · exact q.elim
  · obtain ⟨a, hs, fp, rfl, hH, ek, nd, rr, hf, nfp⟩ := rp.dTAt
    split at q
    · split at q
      · rename_i k hk
        obtain ⟨b, ws, rfl, hb, rb⟩ := rpi.tupleAt (Nat.le_refl _)
        rw [rb.dKeys hk] at hb
        have dj : ∀ b ∈ fp, b ∉ g1 := fun b hb z => (nn b z).1 ⟨n, _, m, en, hl, by rw [hf]; exact List.mem_cons_of_mem _ hb⟩
        obtain ⟨fp', r', s'⟩ := put_reps (k := k) rd1 ek rr dj
        have ndh : (hs.map (·.1)).Nodup := by rw [ek]; exact nd
        obtain ⟨A4, S4, K4, _⟩ := dT_chg (G := g1) (G' := []) A3 en hm hl hv hH rfl hf (nfp rfl) (put_keys k v d ek) (putD_nodup nd) r' s' nn no_mem_nil
        have hlen := congrArg List.length ek
        rw [List.length_map, List.length_map] at hlen
        refine .inr ⟨a, _, rfl, .t hH hb (by rw [hlen]; exact q.1), ?_⟩
        rw [putK_V ndh]
        exact q.2 σ _ _ A4 (S.trans S4) (Kk.trans K4).kq
      · exact q.elim
    · exact q.elim
  · exact q.elim
end
end BX

namespace BX
open PySem PySem.Spec PyProof.Rows L2 RZ
def zc : R → Option Bool
  | .tmp _ => some false
  | .ro c _ => some c
  | .sl _ => none
def zipL (xs ys : List D) : List D := List.zipWith (fun x y => .tup [x, y]) xs ys
def zipS (r1 r2 : R) (d1 d2 : D) (e : En) (k : List D → Option Bool → Lok → En → Prop) : Prop := match zc r1, zc r2 with
  | some c, some c' => match d1, d2 with
    | .lst xs, .lst ys => k (zipL xs ys) (some (c || c')) none e
    | .tup xs, .tup ys => k (zipL xs ys) (some (c || c')) none e
    | _, _ => False
  | _, _ => False
def iZip2 (t u : XE) : XI := fun env k => t env fun r1 e1 => u e1 fun r2 e2 => rd 2 r1 e2 fun d1 => rd 2 r2 e2 fun d2 => zipS r1 r2 d1 d2 e2 k
section
variable {K : PySem.W.Frag} {σ : L2.St} {H H1 : Hp} {env e1 : En} {f f1 : FA} {g : List Addr} {r : R} {x : V} {d : D}
theorem frz_ok {c : Bool} (A : Abs K σ H1 e1 f1) (h : ResOk K σ H1 e1 f1 r x g) (hc : zc r = some c) (dd : r.data 2 e1 = some d) : ∃ gg, Rep K H1 (clv c) d x gg ∧ ∀ b ∈ gg, (∃ o, H1 b = some o) ∧ ¬ L0 e1 f1 b := by
  cases h with
  | @tmp d' _ _ rp n =>
    cases dd; cases hc
    exact ⟨g, rp.up (Nat.zero_le _), fun b hb => ⟨(rp.dom b hb).imp fun o z => z.1, (n b hb).1⟩⟩
  | @ro c' d' _ g0 rp n =>
    cases hc
    have dd' : d' = d := by
      unfold BX.R.data at dd
      cases e : roOk c 2 with
      | false => simp only [e] at dd; cases dd
      | true => simp only [e] at dd; exact Option.some.inj dd
    subst dd'
    exact ⟨g0, rp, fun b hb => ⟨(rp.dom b hb).imp fun o z => z.1, fun w => A.apart w (n b hb)⟩⟩
  | sl _ _ _ => cases hc
theorem near_sub {P Q : List Addr} {H : Hp} (n : Near H1 P H) (h : ∀ b ∈ Q, b ∈ P) : Near H1 Q H := fun b o e z => n b o e (z.imp_left (h b))
theorem clv_or (c c' : Bool) : clv c ≤ clv (c || c') ∧ clv c' ≤ clv (c || c') := by cases c <;> cases c' <;> decide
theorem zipL_get {xs ys : List D} {i : Nat} {d : D} (h : (zipL xs ys)[i]? = some d) : ∃ a b, xs[i]? = some a ∧ ys[i]? = some b ∧ d = .tup [a, b] := by
  unfold zipL at h
  rw [List.getElem?_zipWith] at h
  cases e1 : xs[i]? with
  | none => rw [e1] at h; cases h
  | some a =>
    cases e2 : ys[i]? with
    | none => rw [e1, e2] at h; cases h
    | some b => rw [e1, e2] at h; cases h; exact ⟨a, b, rfl, rfl, rfl⟩
theorem pair_item {P g1 g2 : List Addr} {H : Hp} {c : Bool} {d1 d2 : D} {x y : V} {T : Addr} (hT : H T = none) (r1 : Rep K H (clv c) d1 x g1) (r2 : Rep K H (clv c) d2 y g2) (h1 : ∀ b ∈ g1, b ∈ P) (h2 : ∀ b ∈ g2, b ∈ P) :
    (∀ b o, H b = some o → (upd H T (.tup [x, y])) b = some o) ∧ Item K (upd H T (.tup [x, y])) P (some c) (.tup [d1, d2]) (.ref T) := by
  have kp : ∀ b o, H b = some o → (upd H T (.tup [x, y])) b = some o := (Ext.upd (o := .tup [x, y]) hT).same
  have hlv : clv c ≠ 0 := by cases c <;> decide
  refine ⟨kp, g1 ++ (g2 ++ []), .tup upd_same (.cons (r1.keep fun b o e _ => kp b o e) (.cons (r2.keep fun b o e _ => kp b o e) .nil fun z => absurd z hlv) fun z => absurd z hlv), fun b hb => ?_⟩
  rcases List.mem_append.mp hb with hb | hb
  · exact h1 b hb
  · rcases List.mem_append.mp hb with hb | hb
    · exact h2 b hb
    · simp at hb
variable {xs ys : List D} {vs ws : List V} {a b : Addr} {c c' : Bool} {g1 g2 P : List Addr}
theorem wk_zipL (ha : ∀ H, Near H1 P H → SqL K H a vs) (hb : ∀ H, Near H1 P H → SqL K H b ws) (r1 : Reps K H1 (clv c) xs vs g1) (r2 : Reps K H1 (clv c') ys ws g2) (s1 : ∀ b ∈ g1, b ∈ P) (s2 : ∀ b ∈ g2, b ∈ P) : Wk K (Itz K a b) (zipL xs ys) (some (c || c')) H1 P where
  go := fun i H n h => by
    rw [zipL, List.length_zipWith] at h
    have l1 := r1.len; have l2 := r2.len
    exact ⟨vs, ws, vs[i]'(by omega), ws[i]'(by omega), ha H n, hb H n, List.getElem?_eq_getElem _, List.getElem?_eq_getElem _⟩
  stop := fun i H n h => by
    rw [zipL, List.length_zipWith] at h
    have l1 := r1.len; have l2 := r2.len
    exact ⟨vs, ws, ha H n, hb H n, by omega⟩
  yld := fun i H x H' d n e y => by
    obtain ⟨T, x', y', rfl, hT, rfl, hx, hy⟩ := y
    obtain ⟨d1, d2, e1, e2, rfl⟩ := zipL_get e
    obtain ⟨v1, h1, q1, rp1, t1⟩ := r1.get e1
    obtain ⟨v2, h2, q2, rp2, t2⟩ := r2.get e2
    have := hx vs (ha H n); rw [q1] at this; cases this
    have := hy ws (hb H n); rw [q2] at this; cases this
    exact pair_item hT ((near_rep rp1 n fun b hb => s1 b (t1 b hb)).up (clv_or c c').1) ((near_rep rp2 n fun b hb => s2 b (t2 b hb)).up (clv_or c c').2) (fun b hb => s1 b (t1 b hb)) fun b hb => s2 b (t2 b hb)
theorem wk_zipT (ha : ∀ H, Near H1 P H → SqT K H a vs) (hb : ∀ H, Near H1 P H → SqT K H b ws) (r1 : Reps K H1 (clv c) xs vs g1) (r2 : Reps K H1 (clv c') ys ws g2) (s1 : ∀ b ∈ g1, b ∈ P) (s2 : ∀ b ∈ g2, b ∈ P) : Wk K (ItzT K a b) (zipL xs ys) (some (c || c')) H1 P where
  go := fun i H n h => by
    rw [zipL, List.length_zipWith] at h
    have l1 := r1.len; have l2 := r2.len
    exact ⟨vs, ws, vs[i]'(by omega), ws[i]'(by omega), ha H n, hb H n, List.getElem?_eq_getElem _, List.getElem?_eq_getElem _⟩
  stop := fun i H n h => by
    rw [zipL, List.length_zipWith] at h
    have l1 := r1.len; have l2 := r2.len
    exact ⟨vs, ws, ha H n, hb H n, by omega⟩
  yld := fun i H x H' d n e y => by
    obtain ⟨T, x', y', rfl, hT, rfl, hx, hy⟩ := y
    obtain ⟨d1, d2, e1, e2, rfl⟩ := zipL_get e
    obtain ⟨v1, h1, q1, rp1, t1⟩ := r1.get e1
    obtain ⟨v2, h2, q2, rp2, t2⟩ := r2.get e2
    have := hx vs (ha H n); rw [q1] at this; cases this
    have := hy ws (hb H n); rw [q2] at this; cases this
    exact pair_item hT ((near_rep rp1 n fun b hb => s1 b (t1 b hb)).up (clv_or c c').1) ((near_rep rp2 n fun b hb => s2 b (t2 b hb)).up (clv_or c c').2) (fun b hb => s1 b (t1 b hb)) fun b hb => s2 b (t2 b hb)
end
theorem zipS_mono {r1 r2 : R} {d1 d2 : D} {e : En} {k k' : List D → Option Bool → Lok → En → Prop} (h : ∀ ds kd lk e, k ds kd lk e → k' ds kd lk e) (q : zipS r1 r2 d1 d2 e k) : zipS r1 r2 d1 d2 e k' := by
  unfold zipS at q ⊢
  revert q
  cases zc r1 with
  | none => exact id
  | some c => cases zc r2 with
    | none => exact id
    | some c' => cases d1 <;> cases d2 <;> first | exact id | exact fun q => h _ _ _ _ q
section
variable {X : Cx} {e e2 : Expr} {t u : XE} {p pos tpos : Pos} {elts : List Expr} {kk : Nat}
theorem di_zip (ha : DE X e t) (hb : DE X e2 u) (hm : X.mg "zip" = none) (hg : Gl X "zip" := by rfl) (hs' : starEach [e, e2] X.env = (false, eval e X.env) :: starEach [e2] X.env := by rfl) (hs2' : starEach [e2] X.env = (false, eval e2 X.env) :: starEach [] X.env := by rfl)
    (hpl : (backTo pos (starEach [e2] X.env)).any (·.1) = false := by rfl) : DI X (.Tuple elts kk tpos) (.Call (.Name "zip" p) [e, e2] [] pos) (iZip2 t u) := by
  refine ⟨PI.imp (pi_zipA hg hm (da_cons ha (da_cons hb da_nil hs2') hs').run hs' hpl) fun σ H R q => ?_, fun env k k' h q => ha.mono _ _ _ (fun r e q => hb.mono _ _ _ (fun r2 e2 q => rd_mono (fun d q => rd_mono (fun d2 q => ?_) q) q) q) q⟩
  · obtain ⟨env, f, A, q⟩ := q
    refine ⟨env, f, A, ha.mono _ _ _ (fun r1 e1 q => hb.mono _ _ _ (fun r2 e2 q => ?_) q) q⟩
    intro vs H1 f1 gs A1 R1 S1 K1
    cases R1 with
    | cons R1 Rt _ =>
      cases Rt with
      | cons R2 Rt _ =>
        cases Rt
        obtain ⟨d1, dd1, q⟩ := rd_data q
        obtain ⟨d2, dd2, q⟩ := rd_data q
        unfold zipS at q
        split at q
        · rename_i c c' hc hc'
          obtain ⟨gg1, rp1, n1⟩ := frz_ok A1 R1 hc dd1
          obtain ⟨gg2, rp2, n2⟩ := frz_ok A1 R2 hc' dd2
          have S0 := S1.drop (G2 := []) fun _ z => by simp at z
          have nn : ∀ b ∈ gg1 ++ gg2, (∃ o, H1 b = some o) ∧ ¬ L0 e2 f1 b := fun b hb => (List.mem_append.mp hb).elim (n1 b) (n2 b)
          have w1 : ∀ b ∈ gg1, b ∈ gg1 ++ gg2 := fun b hb => List.mem_append_left _ hb
          have w2 : ∀ b ∈ gg2, b ∈ gg1 ++ gg2 := fun b hb => List.mem_append_right _ hb
          split at q
          · obtain ⟨a1, vs1, k1, rfl, hq1, hn1, rr1, hs1⟩ := near_list rp1
            obtain ⟨a2, vs2, k2, rfl, hq2, hn2, rr2, hs2⟩ := near_list rp2
            exact ⟨a1, a2, vs1, vs2, rfl, .inl ⟨hq1, hq2, q _ H1 f1 _ e2 A1 S0 K1 .none (wk_zipL (fun H n => hn1 H (near_sub n w1)) (fun H n => hn2 H (near_sub n w2)) rr1 rr2 (fun b hb => w1 b (hs1 b hb)) fun b hb => w2 b (hs2 b hb)) (fun b hb => ⟨(nn b hb).1, fun w => (nn b hb).2 w.l0⟩) (fun _ b hb => (nn b hb).2)⟩⟩
          · obtain ⟨a1, vs1, rfl, hq1, hn1, rr1⟩ := near_tup rp1
            obtain ⟨a2, vs2, rfl, hq2, hn2, rr2⟩ := near_tup rp2
            exact ⟨a1, a2, vs1, vs2, rfl, .inr ⟨hq1, hq2, q _ H1 f1 _ e2 A1 S0 K1 .none (wk_zipT (fun H n => hn1 H (near_sub n w1)) (fun H n => hn2 H (near_sub n w2)) rr1 rr2 w1 w2) (fun b hb => ⟨(nn b hb).1, fun w => (nn b hb).2 w.l0⟩) (fun _ b hb => (nn b hb).2)⟩⟩
          · exact q.elim
        · exact q.elim
  · exact zipS_mono h q
end
end BX

namespace BX
open PySem PySem.Spec PyProof.Rows L2
def sPar (i j : Nat) (u : XA) : XS := fun env nx _ => u env fun rs e => storL rs e fun ds => match ds with
  | [d1, d2] => setOk e i = true ∧ setOk e j = true ∧ nx ((e.set i (some (d1, .own))).set j (some (d2, .own)))
  | _ => False
def intS (x : Option (Option (D × Md))) (k : Int → Prop) : Prop := match x with
  | some (some (.int z, _)) => k z
  | _ => False
def intD (d : D) (k : Int → Prop) : Prop := match d with
  | .int z => k z
  | _ => False
def sAug (g : Int → Int → Int) (i : Nat) (te : XE) : XS := fun env nx _ => intS env[i]? fun z => te env fun r e1 => rd 2 r e1 fun d => intD d fun w => setOk e1 i = true ∧ nx (e1.set i (some (.int (g z w), .own)))
def dNeg (t : XE) : XE := fun env Q => t env fun r e => rd 2 r e fun d => intD d fun z => Q (.tmp (.int (-z))) e
def dNotV (t : XE) : XE := fun env Q => t env fun r e => rd 2 r e fun d => tru d fun b => Q (.tmp (.bl (!b))) e
theorem intD_mono {d : D} {k k' : Int → Prop} (h : ∀ z, k z → k' z) (q : intD d k) : intD d k' := by
  cases d <;> first | exact q.elim | exact h _ q
theorem intD_ex {d : D} {k : Int → Prop} (q : intD d k) : ∃ z, d = .int z ∧ k z := by
  cases d <;> first | exact q.elim | exact ⟨_, rfl, q⟩
section
variable {X : Cx} {e a b : Expr} {t te : XE} {u : XA} {x y : Str} {i j : Nat} {pos pos' px py pt pt2 : Pos} {kt k2 : Nat}
theorem de_neg (ha : DE X a t) : DE X (.UnaryOp .USub a pos) (dNeg t) := by
  refine ⟨PE.imp (pe_un un_neg ha.run) fun σ H Q q => ?_, fun env Q Q' h q => ha.mono _ _ _ (fun r e q => rd_mono (fun d q => intD_mono (fun z q => h _ _ q) q) q) q⟩
  obtain ⟨env, f, A, q⟩ := q
  refine ⟨env, f, A, ha.mono _ _ _ (fun r e1 q => ?_) q⟩
  intro v H1 f1 g1 A1 R1 S1 K1
  obtain ⟨d, g', rp, q⟩ := rd_ok A1 R1 q
  obtain ⟨z, rfl, q⟩ := intD_ex q
  obtain ⟨rfl, _⟩ := rp.intV
  exact ⟨z, rfl, q _ H1 f1 [] A1 (.tmp (.int _) no_mem_nil) (S1.drop fun _ z => by simp at z) K1⟩
theorem de_notV (ha : DE X a t) : DE X (.UnaryOp .Not a pos) (dNotV t) := by
  refine ⟨PE.imp (pe_notT ha.run) fun σ H Q q => ?_, fun env Q Q' h q => ha.mono _ _ _ (fun r e q => rd_mono (fun d q => tru_mono (fun z q => h _ _ q) q) q) q⟩
  obtain ⟨env, f, A, q⟩ := q
  refine ⟨env, f, A, ha.mono _ _ _ (fun r e1 q => ?_) q⟩
  intro v H1 f1 g1 A1 R1 S1 K1
  obtain ⟨d, g', rp, q⟩ := rd_ok A1 R1 q
  obtain ⟨b, ht, q⟩ := rp.tru q
  exact ⟨b, ht, q _ H1 f1 [] A1 (.tmp (.bl _) no_mem_nil) (S1.drop fun _ z => by simp at z) K1⟩
theorem ds_aug {op : Operator} {g : Int → Int → Int} (ho : PIp X op (ipI g)) (hN : X.N.Nodup) (he : DE X e te) (hi : X.N[i]? = some x := by rfl) (hx : Loc X.env.scope x := by first | exact .inl rfl | exact .inr rfl)
    (hf : X.fn x = true ∨ X.env.scope.names.lookup x = some .local := by first | exact .inl rfl | exact .inr rfl | assumption) : DS X (.AugAssign (.Name x pos') op e pos) (sAug g i te) := by
  refine ⟨PS.imp (ps_aug hN hi hx he.run ho hf) fun D σ H q => ?_, fun env nx nx' rt rt' h _ q => ?_⟩
  · obtain ⟨env, f, A, q⟩ := q
    unfold sAug intS at q
    split at q
    · rename_i z m e0
      obtain ⟨v, hv, rp⟩ := A.rep _ _ _ e0
      obtain ⟨rfl, _⟩ := rp.intV
      refine ⟨.int z, hv, env, f, A, he.mono _ _ _ (fun r e1 q => ?_) q⟩
      intro v1 H1 f1 g1 A1 R1 S1 K1
      obtain ⟨d, g', rp1, q⟩ := rd_ok A1 R1 q
      obtain ⟨w, rfl, so, q⟩ := intD_ex q
      obtain ⟨rfl, _⟩ := rp1.intV
      refine ⟨z, w, rfl, rfl, ?_⟩
      obtain ⟨A', S', K', _⟩ := A1.put (m := .own) (G := []) so (.int (g z w)) ⟨(fun z => nomatch z), (fun z => nomatch z)⟩ (fun _ => no_mem_nil) no_mem_nil fun _ => no_mem_nil
      exact q _ H1 _ A' ((S1.drop (G2 := []) fun _ z => by simp at z).trans S') (K1.kq.trans K')
    · exact q.elim
  · unfold sAug intS at q ⊢
    split at q
    · exact he.mono _ _ _ (fun r e q => rd_mono (fun d q => intD_mono (fun z q => ⟨q.1, h _ q.2⟩) q) q) q
    · exact q.elim
theorem ds_par (hx : Ok X) (hN : X.N.Nodup) (hij : i ≠ j) (ha : DA X [a, b] u) (hi : X.N[i]? = some x := by rfl) (hj : X.N[j]? = some y := by rfl) (hxl : X.env.scope.names.lookup x = some .local := by rfl) (hyl : X.env.scope.names.lookup y = some .local := by rfl)
    (hw : swappedStores [.Tuple [.Name x px, .Name y py] kt pt] (.Tuple [a, b] k2 pt2) X.env = pure (some [x, y]) := by rfl)
    (hs : swapsWithSole [.Tuple [.Name x px, .Name y py] kt pt] (.Tuple [a, b] k2 pt2) pos.line X.env = pure false := by rfl) : DS X (.Assign [.Tuple [.Name x px, .Name y py] kt pt] (.Tuple [a, b] k2 pt2) pos) (sPar i j u) := by
  refine ⟨PS.imp (ps_par hx.calm hN hi hj hij hxl hyl ha.run hw hs) fun D σ H q => ?_, fun env nx nx' rt rt' h _ q => ha.mono _ _ _ (fun rs e q => storL_mono (fun ds q => ?_) q) q⟩
  · obtain ⟨env, f, A, q⟩ := q
    refine ⟨env, f, A, ha.mono _ _ _ (fun rs e1 q => ?_) q⟩
    intro vs H1 f1 gs A1 R1 S1 K1
    obtain ⟨ds, rp, q, nn⟩ := storL_ok A1 R1 q
    match ds, q with
    | [d1, d2], q =>
      obtain ⟨so1, so2, q⟩ := q
      cases rp with
      | @cons _ v ga _ _ _ r1 rt n =>
        cases rt with
        | @cons _ w gb _ _ _ r2 rt n2 =>
          cases rt
          have nd : ∀ b ∈ ga, b ∉ gb := fun b hb z => n rfl b hb (List.mem_append_left _ z)
          obtain ⟨A2, S2, K2, L2', O2, _⟩ := A1.put (m := .own) (G := ga) so1 r1 ⟨(fun z => nomatch z), (fun z => nomatch z)⟩ (fun _ b hb => nn b (List.mem_append_left _ hb)) (fun b hb => (nn b (List.mem_append_left _ hb)).1) fun _ b hb => hb
          have so2' : setOk (e1.set i (some (d1, .own))) j = true := by
            unfold setOk at so2 ⊢
            rw [env_ne (Ne.symm hij)]
            exact so2
          have nb : ∀ b ∈ gb, ¬ L0 (e1.set i (some (d1, Md.own))) (fset f1 i ga) b ∧ ¬ Ro (e1.set i (some (d1, Md.own))) (fset f1 i ga) b := fun b hb => by
            have := nn b (List.mem_append_right _ (List.mem_append_left _ hb))
            exact ⟨fun z => (L2' b z).elim this.1 fun y => nd b y hb, fun z => this.2 (O2 rfl b z)⟩
          obtain ⟨A3, S3, K3, _⟩ := A2.put (m := .own) (G := gb) so2' r2 ⟨(fun z => nomatch z), (fun z => nomatch z)⟩ (fun _ => nb) (fun b hb => (nb b hb).1) fun _ b hb => hb
          refine ⟨v, w, rfl, q _ H1 _ A3 (S1.trans ⟨fun b o h _ => h, fun b z => ?_⟩) ((K1.kq.trans K2).trans K3)⟩
          rcases S3.own b z with z | z | z
          · rcases S2.own b (.inl z) with z | z | z
            · exact .inl z
            · exact .inr (.inl (List.mem_append_left _ z))
            · exact .inr (.inr z)
          · exact .inr (.inl (List.mem_append_right _ (List.mem_append_left _ z)))
          · exact .inr (.inr z)
    | [], q => exact q.elim
    | [_], q => exact q.elim
    | _ :: _ :: _ :: _, q => exact q.elim
  · match ds, q with
    | [d1, d2], q => exact ⟨q.1, q.2.1, h _ q.2.2⟩
    | [], q => exact q.elim
    | [_], q => exact q.elim
    | _ :: _ :: _ :: _, q => exact q.elim
end
end BX

namespace BX
open PySem PySem.Spec PyProof.Rows L2
theorem Ok.blk {X : Cx} (h : Ok X) {s : Shared} {H : Hp} {scope : Scope} {cenv : Env} {fp : List Addr} : Ok (X.blk s H scope cenv fp) := ⟨h.calm, h.un⟩
def relabS (scope sc : Scope) : Scope :=
  { scope with names := scope.names.map fun (n, k) => if (k == .free && sc.kind == .function && sc.names.lookup n == some .cell) then (n, .cell) else (n, k) }
theorem blkOk_in {N : List Str} {scope inner sc0 : Scope} {env : Env} {own : List (Str × Nat)} (hs : env.scope = sc0) (h : blkC N (relabS scope sc0) inner own = true) : BlkOk N (relabel scope env) inner own := by
  subst hs
  exact blkOk_by h
section
variable {X : Cx} {pos : Pos}
theorem de_dct : DE X (.Dict [] [] pos) (dC (.dT [])) := by
  refine ⟨PE.imp pe_dnewT fun σ H Q q => ?_, fun env Q Q' h q => h _ _ q⟩
  obtain ⟨env, f, A, q⟩ := q
  intro p hp
  have x : Ext H (L2.upd H p (.dT [])) [p] := .upd hp
  obtain ⟨A3, R3, S3⟩ := fin_ext A .refl x (z := .ref p) (d := .dT []) (by
    have := Rep.dT (K := X.K) (H := L2.upd H p (.dT [])) (lv := 0) (a := p) (hs := []) (kvs := []) (f := []) upd_same rfl List.nodup_nil .nil (fun _ z => by simp at z)
    exact this)
  exact q _ _ f [p] A3 R3 S3 .refl
end
end BX

namespace BX
open PySem PySem.Spec PyProof.Rows L2
/-- where a pair stands, where its key stands, the key, the value -/
structure Pr where
  at' : Addr
  kat : Addr
  key : List Key
  val : V
def PrOk (K : PySem.W.Frag) (H : Hp) (x : Pr) : Prop := SqT K H x.at' [.ref x.kat, x.val] ∧ H x.kat = some (.tup (x.key.map kV))
def putAll (kvs : List (List Key × V)) (l : List Pr) : List (List Key × V) := l.foldl (fun a x => putK a x.key x.val) kvs
theorem putAll_len (l : List Pr) : ∀ kvs, (putAll kvs l).length ≤ kvs.length + l.length := by
  induction l with
  | nil => intro kvs; exact Nat.le_refl _
  | cons x l ih =>
    intro kvs
    have h1 := ih (putK kvs x.key x.val)
    have h2 := length_putK kvs x.key x.val
    rw [List.length_cons]
    show (putAll (putK kvs x.key x.val) l).length ≤ _
    omega
section
variable {X : Cx} {pins : List (Addr × Obj)} {σ : L2.St} {H : Hp} {s : Shared}
/-- the model's triples -/
inductive Trip (H : Hp) (h : Heap) : List Pr → List (List Key × Addr × Value) → Prop
  | nil : Trip H h [] []
  | cons {x : Pr} {u : Value} {l : List Pr} {ts : List (List Key × Addr × Value)} : RelV x.val u → IsTup h x.at' #[.ref x.kat, u] → H x.kat = some (.tup (x.key.map kV)) → Trip H h l ts → Trip H h (x :: l) ((x.key, x.kat, u) :: ts)
theorem trip_of (I : Inv X pins σ H s) : ∀ {l : List Pr}, (∀ x ∈ l, PrOk X.K H x) → ∃ ts, Trip H s.heap l ts
  | [], _ => ⟨[], .nil⟩
  | x :: l, h => by
    obtain ⟨ts, ht⟩ := trip_of I fun y hy => h y (List.mem_cons_of_mem _ hy)
    obtain ⟨h1, h2⟩ := h x (List.mem_cons_self ..)
    obtain ⟨its, rv, hT, _⟩ := I.tuple h1
    obtain ⟨u, y, ei, ru, ry⟩ := vals2 rv
    subst ei
    cases (show u = Value.ref x.kat from ru)
    exact ⟨_, .cons ry hT h2 ht⟩
theorem Trip.len {h : Heap} : ∀ {l : List Pr} {ts : List (List Key × Addr × Value)}, Trip H h l ts → ts.length = l.length
  | _, _, .nil => rfl
  | _, _, .cons _ _ _ t => by rw [List.length_cons, List.length_cons, t.len]
theorem Trip.get {h : Heap} : ∀ {l : List Pr} {ts : List (List Key × Addr × Value)} {j : Nat} {t : List Key × Addr × Value}, Trip H h l ts → ts[j]? = some t → ∃ x, l[j]? = some x ∧ t.2.1 = x.kat ∧ IsTup h x.at' #[.ref t.2.1, t.2.2]
  | _, _, 0, _, .cons r i e t, q => by cases q; exact ⟨_, rfl, rfl, i⟩
  | _, _, j + 1, _, .cons r i e t, q => by simpa using t.get (j := j) (by simpa using q)
theorem Trip.keys {h : Heap} {l : List Pr} {ts : List (List Key × Addr × Value)} (t : Trip H h l ts) : ∀ y ∈ ts, H y.2.1 = some (.tup (y.1.map kV)) := by
  induction t with
  | nil => intro y hy; simp at hy
  | cons r i e t ih =>
    intro y hy
    rcases List.mem_cons.mp hy with rfl | hy
    · exact e
    · exact ih y hy
theorem Trip.all {h : Heap} {l : List Pr} {ts : List (List Key × Addr × Value)} (t : Trip H h l ts) : ∀ {kvs : List (List Key × V)} {xs : List (List Key × Addr × Value)}, KT H kvs xs → KT H (putAll kvs l) (storedAllH xs ts) := by
  induction t with
  | nil => intro kvs xs r; exact r
  | cons rv i e t ih =>
    intro kvs xs r
    exact ih (r.put _ e rv)
theorem call_dict_tups (hx : Ok X) : CallR X (.type "dict") (fun xs H Q => ∃ (a : Addr) (l : List Pr), xs = [.ref a] ∧ SqL X.K H a (l.map fun x => V.ref x.at') ∧ (∀ x ∈ l, PrOk X.K H x) ∧ ∀ p, H p = none → Q (.ref p) (upd H p (.dT (putAll [] l)))) := by
  intro pins s σ H xs us Q I r q
  obtain ⟨a, l, rfl, hq, hp, q⟩ := q
  obtain ⟨u, rfl, rx⟩ := vals1 r
  cases rx
  obtain ⟨its, rv, pl, hz⟩ := I.list hq
  obtain ⟨ts, T⟩ := trip_of I hp
  have ei : its = l.map fun x => Value.ref x.at' := by
    have : ∀ {l : List Pr} {us : List Value}, Vals (l.map fun x => V.ref x.at') us → us = l.map fun x => Value.ref x.at' := by
      intro l
      induction l with
      | nil => intro us r; cases r; rfl
      | cons x l ih => intro us r; cases r with
        | cons h t => cases h; rw [List.map_cons, ← ih t]
    exact this rv
  subst ei
  rw [List.length_map] at hz
  have hl := T.len
  have big := I.big
  have hm : (s.heap.objs.size == sysModules) = false := beq_eq_false_iff_ne.mpr (Nat.ne_of_gt big)
  obtain ⟨o, n, ho, hc, hd, hdat⟩ := pl
  have P := PairArg.list (prog := X.prog) (w := X.w) a (l.map fun x => Value.ref x.at').toArray (fun j => (l.map (·.at')).getD j 0) (ts.map fun t => (Value.ref t.2.1, t.2.2))
  refine call_dict_pairsH (knd := tupleKind (mixKind X.prog X.w)) (ps := ts) P (I.ok.hd hx.calm) ?_ ⟨⟨o, n, ho, hc, hd, hdat⟩, ?_, fun j k v e => ?_⟩ ⟨by simp, fun i key v e => ?_⟩ (fun h' hk y hy => ?_) (by rw [List.length_map, hl]; exact hz) fun h' tk hd' k => ?_
  · exact tupleKind_room_in1 (A := X.A.in1) (by
      have := hx.un
      have e : X.A.in1.units ≤ X.A.units + 1 := by first | exact Nat.le_refl _ | (simp [Around.in1]) | omega
      omega)
  · simp [hl]
  · rw [List.getElem?_map] at e
    cases et : ts[j]? with
    | none => rw [et] at e; cases e
    | some t =>
      rw [et] at e
      cases e
      obtain ⟨x, hx1, hx2, hx3⟩ := T.get et
      have hj : ((l.map (·.at')).getD j 0) = x.at' := by simp [List.getD, hx1]
      refine ⟨by simp [hx1], .inl ?_⟩
      show s.heap.IsTuple ((l.map (·.at')).getD j 0) _
      rw [hj]
      exact hx3
  · rw [PairRel, List.getElem?_map] at e
    cases et : ts[i]? with
    | none => rw [et] at e; cases e
    | some t => rw [et] at e; cases e; exact ⟨t.1, t.2.1, rfl, rfl⟩
  · obtain ⟨o1, its, n1, g1, g2, g3, g4⟩ := key_of I.hok (T.keys y hy)
    have hne : y.2.1 ≠ s.heap.objs.size := Nat.ne_of_lt (Heap.lt_size g1)
    exact ⟨o1, its, n1, hk _ _ hne (by simp) g1, g2, g3, g4⟩
  · obtain ⟨q0, es, ep, hq0, h2, h3, h4, _, h5⟩ := hd'
    have hf : H s.heap.objs.size = none := I.hok.fresh (Nat.le_refl _)
    have kt := (T.all (kvs := []) (xs := []) .nil)
    refine ⟨.ref s.heap.objs.size, upd H s.heap.objs.size (.dT (putAll [] l)), I.laid (t' := tk) (fun b o e => k b o (by simp) e) (Nat.le_refl _) ⟨?_, hm, _, kt.keeps fun c ys ec => ?_, q0, es, ep, hq0, h2, h3, h4, h5⟩, rfl, q _ hf⟩
    · have := putAll_len l []
      simp only [List.length_nil] at this
      omega
    · rw [upd_ne (ne_of_none ec hf)]
      exact ec
end
end BX

namespace BX
open PySem PySem.Spec PyProof.Rows L2
/-- a pair of a tuple key and a thing without anything that changes -/
def pairD (d : D) : Option (List Key × D) := match d with
  | .tup [.tup ks, v] => match dKeys ks with
    | some k => match v.imm with
      | true => some (k, v)
      | false => none
    | none => none
  | _ => none
def pairT : List D → Option (List (List Key × D))
  | [] => some []
  | d :: r => match pairD d, pairT r with
    | some p, some l => some (p :: l)
    | _, _ => none
def putDs (kvs : List (List Key × D)) (l : List (List Key × D)) : List (List Key × D) := l.foldl (fun a x => putD x.1 x.2 a) kvs
def bDict (d : D) (k : D → Prop) : Prop := match d with
  | .lst xs => match pairT xs with
    | some l => k (.dT (putDs [] l))
    | none => False
  | _ => False
section
variable {K : PySem.W.Frag} {H : Hp} {lv : Nat}
theorem pairD_pr {d : D} {v : V} {f : List Addr} {p : List Key × D} (hl : lv ≤ 1) (r : Rep K H lv d v f) (e : pairD d = some p) : ∃ x : Pr, v = V.ref x.at' ∧ PrOk K H x ∧ x.key = p.1 ∧ Rep K H 0 p.2 x.val [] := by
  unfold pairD at e
  split at e
  · rename_i ks w
    split at e
    · rename_i k hk
      split at e
      · rename_i him
        cases e
        obtain ⟨a, vs, rfl, ha, rr⟩ := r.tupleAt hl
        cases rr with
        | cons r1 t _ => cases t with
          | cons r2 t _ =>
            cases t
            obtain ⟨b, ws, rfl, hb, rb⟩ := r1.tupleAt hl
            rw [rb.dKeys hk] at hb
            obtain ⟨_, r0⟩ := r2.imm hl him
            exact ⟨⟨a, b, k, _⟩, rfl, ⟨.of ha, hb⟩, rfl, r0⟩
      · cases e
    · cases e
  · cases e
theorem pairT_pr : ∀ {xs : List D} {vs : List V} {f : List Addr} {l : List (List Key × D)}, lv ≤ 1 → Reps K H lv xs vs f → pairT xs = some l → ∃ ps : List Pr, vs = ps.map (fun x => V.ref x.at') ∧ (∀ x ∈ ps, PrOk K H x) ∧ Paired (fun (x : Pr) (p : List Key × D) => x.key = p.1 ∧ Rep K H 0 p.2 x.val []) ps l
  | _, _, _, _, _, .nil, e => by cases e; exact ⟨[], rfl, fun x hx => by simp at hx, .nil⟩
  | _, _, _, l, hl, .cons r t _, e => by
    rw [pairT] at e
    split at e
    · rename_i p l' h1 h2
      cases e
      obtain ⟨x, rfl, ho, hx⟩ := pairD_pr hl r h1
      obtain ⟨ps, rfl, hp, hq⟩ := pairT_pr hl t h2
      exact ⟨x :: ps, rfl, fun y hy => (List.mem_cons.mp hy).elim (fun z => z ▸ ho) (hp y), .cons hx hq⟩
    · cases e
theorem nil_of {α : Type} {l : List α} (h : ∀ b ∈ l, b ∈ ([] : List α)) : l = [] := by
  cases l with
  | nil => rfl
  | cons x l => exact absurd (h x (List.mem_cons_self ..)) (by simp)
theorem put_step {k : List Key} {d : D} {v : V} {hs : List (List Key × V)} {kvs : List (List Key × D)} (r : Rep K H 0 d v []) (ek : hs.map (·.1) = kvs.map (·.1)) (nd : (kvs.map (·.1)).Nodup) (rr : Reps K H 0 (kvs.map (·.2)) (hs.map (·.2)) []) :
    (putK hs k v).map (·.1) = (putD k d kvs).map (·.1) ∧ ((putD k d kvs).map (·.1)).Nodup ∧ Reps K H 0 ((putD k d kvs).map (·.2)) ((putK hs k v).map (·.2)) [] := by
  rw [putK_V (by rw [ek]; exact nd)]
  obtain ⟨fp', r', s'⟩ := put_reps (k := k) r ek rr (fun _ hb => by simp at hb)
  have e := nil_of (l := fp') fun b hb => (s' b hb).elim id id
  subst e
  exact ⟨put_keys k v d ek, putD_nodup nd, r'⟩
theorem putAll_rep {ps : List Pr} {l : List (List Key × D)} (p : Paired (fun (x : Pr) (p : List Key × D) => x.key = p.1 ∧ Rep K H 0 p.2 x.val []) ps l) : ∀ {hs : List (List Key × V)} {kvs : List (List Key × D)}, hs.map (·.1) = kvs.map (·.1) → (kvs.map (·.1)).Nodup → Reps K H 0 (kvs.map (·.2)) (hs.map (·.2)) [] →
    (putAll hs ps).map (·.1) = (putDs kvs l).map (·.1) ∧ ((putDs kvs l).map (·.1)).Nodup ∧ Reps K H 0 ((putDs kvs l).map (·.2)) ((putAll hs ps).map (·.2)) [] := by
  induction p with
  | nil => intro hs kvs a b c; exact ⟨a, b, c⟩
  | @cons x q ps l h t ih =>
    intro hs kvs a b c
    obtain ⟨h1, h2, h3⟩ := put_step (k := q.1) h.2 a b c
    have := ih h1 h2 h3
    show (putAll (putK hs x.key x.val) ps).map (·.1) = (putDs (putD q.1 q.2 kvs) l).map (·.1) ∧ _
    rw [h.1]
    refine ⟨this.1, this.2.1, ?_⟩
    show Reps K H 0 ((putDs (putD q.1 q.2 kvs) l).map (·.2)) ((putAll (putK hs x.key x.val) ps).map (·.2)) []
    rw [h.1]
    exact this.2.2
end
section
variable {X : Cx}
theorem rep_dT {H : Hp} {p : Addr} {hs : List (List Key × V)} {kvs : List (List Key × D)} (h : H p = none) (ek : hs.map (·.1) = kvs.map (·.1)) (nd : (kvs.map (·.1)).Nodup) (r : Reps X.K H 0 (kvs.map (·.2)) (hs.map (·.2)) []) : Rep X.K (upd H p (.dT hs)) 0 (.dT kvs) (.ref p) [p] :=
  .dT upd_same ek nd (r.keep fun b o e _ => by rw [upd_ne (ne_of_none e h)]; exact e) fun _ z => by simp at z
theorem cd_dict (hx : Ok X) : CallD X (.type "dict") 1 (op1 bDict) := call1 (by decide) (fun pins s σ H x us Q d g I rs r q => by
  unfold bDict at q
  split at q
  · split at q
    · rename_i xs l e
      obtain ⟨a, vs, g', rfl, ha, rr, _⟩ := r.listAt1 (Nat.le_refl _)
      obtain ⟨ps, rfl, hp, hq⟩ := pairT_pr (Nat.le_refl _) rr e
      obtain ⟨h1, h2, h3⟩ := putAll_rep hq (hs := []) (kvs := []) rfl List.nodup_nil .nil
      exact call_dict_tups hx pins s σ H _ us Q I rs ⟨a, ps, rfl, .inl (.inl ha), hp, fun p hf => q _ _ _ (rep_dT hf h1 h2 h3) (.upd hf)⟩
    · exact q.elim
  · exact q.elim) (fun d k k' h q => by
  unfold bDict at q ⊢
  split at q
  · split at q
    · rename_i l e
      first | (simp only [e]; exact h _ q) | (have q2 := h _ q; simp only [*])
    · exact q.elim
  · exact q.elim)
end
end BX

namespace BX
open PySem PySem.Spec PyProof.Rows L2
section
variable {K : PySem.W.Frag} {H : Hp}
theorem repsI : ∀ {xs : List D} {vs : List V}, vs.length = xs.length → (∀ (j : Nat) (d : D) (v : V), xs[j]? = some d → vs[j]? = some v → Rep K H 0 d v []) → Reps K H 0 xs vs []
  | [], [], _, _ => .nil
  | [], _ :: _, l, _ => by simp at l
  | _ :: _, [], l, _ => by simp at l
  | d :: xs, v :: vs, l, h => .cons (f := []) (g := []) (h 0 d v rfl rfl) (repsI (by simpa using l) fun j d v h1 h2 => h (j + 1) d v (by simpa using h1) (by simpa using h2)) (fun _ b hb => by simp at hb)
theorem Reps.nilAt {lv : Nat} : ∀ {xs : List D} {vs : List V} {f : List Addr}, Reps K H lv xs vs f → f = [] → ∀ (j : Nat) (d : D) (v : V), xs[j]? = some d → vs[j]? = some v → Rep K H lv d v []
  | _, _, _, .nil, _, j, d, v, h1, _ => by simp at h1
  | _, _, _, .cons (f := f) (g := g) r t _, e, j, d, v, h1, h2 => by
    obtain ⟨rfl, rfl⟩ := List.append_eq_nil_iff.mp e
    cases j with
    | zero => cases h1; cases h2; exact r
    | succ j => exact t.nilAt rfl j d v (by simpa using h1) (by simpa using h2)
end
abbrev Bn := R → List R → En → (R → En → Prop) → Prop
def dMn (isT : D → Bool) (B : Bn) (ta : XE) (u : XA) : XE := fun env Q => ta env fun r1 e1 => (rd 1 r1 e1 fun d => isT d = true) ∧ u e1 fun rs e2 => B r1 rs e2 Q
structure MnOk (X : Cx) (T : String) (isT : D → Bool) (rr : V → List V → Hp → VK → Prop) (B : Bn) : Prop where
  ty : ∀ (H : Hp) (d : D) (x : V) (g : List Addr), Rep X.K H 1 d x g → isT d = true → tyV X.K T x H
  run : ∀ (σ : L2.St) (H : Hp) (e : En) (f : FA) (r1 : R) (rs : List R) (x : V) (ys : List V) (g1 gs : List Addr) (QQ : R → En → Prop) (Q : VK), Abs X.K σ H e f → ResOk X.K σ H e f r1 x g1 → ResOks X.K σ H e f rs ys gs → (∀ b ∈ g1, b ∉ gs) → B r1 rs e QQ →
    (∀ v H' e' f' r' g', Abs X.K σ H' e' f' → ResOk X.K σ H' e' f' r' v g' → Stp H e f (g1 ++ gs) H' e' f' g' → Kp e f e' f' → QQ r' e' → Q v H') → rr x ys H Q
  mono : ∀ r1 rs e Q Q', (∀ r e, Q r e → Q' r e) → B r1 rs e Q → B r1 rs e Q'
section
variable {X : Cx} {o e : Expr} {es : List Expr} {ta : XE} {u : XA} {cpos apos : Pos} {T id : String} {name : Str} {isT : D → Bool} {rr : V → List V → Hp → VK → Prop} {B : Bn}
theorem mn_lift (ok : MnOk X T isT rr B) (mo : MonoE ta) (mu : MonoA u) {σ : L2.St} {H : Hp} {Q : VK} (q : liftE X.K (dMn isT B ta u) σ H Q) :
    liftE X.K ta σ H fun x H1 => tyV X.K T x H1 ∧ liftA X.K u σ H1 fun ys H2 => rr x ys H2 Q := by
  obtain ⟨env, f, A, q⟩ := q
  have h := bm_lift (B := fun r1 e1 => rd 1 r1 e1 fun d => isT d = true) (C := fun r1 rs e2 => B r1 rs e2 (PostE X.K σ H env f Q)) mo mu A q
  obtain ⟨env1, f1, A1, q1⟩ := h
  refine ⟨env1, f1, A1, mo _ _ _ (fun r1 e1 z => ?_) q1⟩
  intro x H1 f1 g1 a b c d
  obtain ⟨⟨r0, e0, f0, g0, A0, R0, B0⟩, env2, f2, A2, q2⟩ := z x H1 f1 g1 a b c d
  obtain ⟨d0, g00, rp0, B0⟩ := rd_ok A0 R0 B0
  refine ⟨ok.ty _ _ _ _ rp0 B0, env2, f2, A2, mu _ _ _ (fun rs e2 z => ?_) q2⟩
  intro vs H2 f2 g2 a b c d
  obtain ⟨r1, rs, e2, f2, g1, gs, A2, R1, R2, n, S, Kk, q3⟩ := z vs H2 f2 g2 a b c d
  exact ok.run σ H2 e2 f2 r1 rs x vs g1 gs _ Q A2 R1 R2 n q3 fun v H' e' f' r' g' A' R' S' K' q => q v H' f' g' A' R' (S.trans S') (Kk.trans K')
theorem mn_mono (ok : MnOk X T isT rr B) (mo : MonoE ta) (mu : MonoA u) : MonoE (dMn isT B ta u) := fun env Q Q' h q => mo _ _ _ (fun r1 e1 q => ⟨q.1, mu _ _ _ (fun rs e2 q => ok.mono _ _ _ _ _ h q) q.2⟩) q
theorem de_mn (ok : MnOk X T isT rr B) (pa : PlainAttrs T) (slot : Slot T name id) (hty : typeOf (.builtin id) = pure (.type "method_descriptor")) (hm : MtR X id rr) (ho : DE X o ta) (ha : DA X (e :: es) u) (hbase : attributeBase o name X.env (eval o X.env) = eval o X.env := by rfl)
    (hfew : ((backTo cpos (starEach (e :: es) X.env)).all (fun x => !x.1) && (backToKw cpos (keywordEach [] X.env)).all (fun x => x.1.isSome)
      && decide ((e :: es).length + ([] : List Keyword).length + (if ([] : List Keyword).isEmpty then 0 else 1) < 30)) = true := by rfl)
    (hline : (apos.endLine == cpos.line) = true := by rfl) (hs : starEach (e :: es) X.env = (false, eval e X.env) :: starEach es X.env := by rfl) (hplain : (backTo cpos (starEach es X.env)).any (·.1) = false := by rfl) :
    DE X (.Call (.Attribute o name apos) (e :: es) [] cpos) (dMn isT B ta u) :=
  ⟨PE.imp (pe_bm pa slot hty hm ho.run ha.run hbase hfew hline hs hplain) fun σ H Q q => mn_lift ok ho.mono ha.mono q, mn_mono ok ho.mono ha.mono⟩
theorem de_mn0 (ok : MnOk X T isT rr B) (pa : PlainAttrs T) (slot : Slot T name id) (hty : typeOf (.builtin id) = pure (.type "method_descriptor")) (hm : MtR X id rr) (ho : DE X o ta) (hbase : attributeBase o name X.env (eval o X.env) = eval o X.env := by rfl) (hline : (apos.endLine == cpos.line) = true := by rfl) :
    DE X (.Call (.Attribute o name apos) [] [] cpos) (dMn isT B ta aNil) := by
  have mn : MonoA aNil := fun env Q Q' h q => h _ _ q
  refine ⟨PE.imp (pe_bm0 pa slot hty hm ho.run hbase hline) fun σ H Q q => ?_, mn_mono ok ho.mono mn⟩
  have h := mn_lift ok ho.mono mn q
  obtain ⟨env, f, A, h⟩ := h
  refine ⟨env, f, A, ho.mono _ _ _ (fun r1 e1 z => ?_) h⟩
  intro x H1 f1 g1 a b c d
  obtain ⟨t, env2, f2, A2, q2⟩ := z x H1 f1 g1 a b c d
  exact ⟨t, q2 [] H1 f2 [] A2 .nil .refl .refl⟩
end
def bPop : Bn := fun r1 rs e Q => match rs with
  | [] => chgL r1 e fun i xs m => immL xs = true ∧ match xs[xs.length - 1]? with
    | some d => Q (.tmp d) (e.set i (some (.lst xs.dropLast, m)))
    | none => False
  | _ => False
def bRev : Bn := fun r1 rs e Q => match rs with
  | [] => chgL r1 e fun i xs m => immL xs = true ∧ Q (.tmp .non) (e.set i (some (.lst xs.reverse, m)))
  | _ => False
section
variable {X : Cx}
theorem m_pop : MnOk X "list" D.isLst rPop bPop where
  ty := fun H d x g rp e => ty_lst H d x g (rp.up (by omega)) e
  mono := fun r1 rs e Q Q' h q => by
    cases rs with
    | nil => exact chgL_mono (fun i xs m q => ⟨q.1, by have q2 := q.2; split at q2 <;> simp only [*] <;> first | exact h _ _ q2 | exact q2.elim⟩) q
    | cons _ _ => exact q.elim
  run := fun σ H e f r1 rs x ys g1 gs QQ Q A R1 R2 n q k => by
    cases rs with
    | cons _ _ => exact q.elim
    | nil =>
      cases R2
      obtain ⟨i, xs, m, a, ws, fp, rfl, e, hm, hl, hv, hH, rr, hf, nfp, rfl, him, q⟩ := chgL_ok A R1 q
      obtain ⟨rfl, r0⟩ := rr.imm (Nat.zero_le _) him
      split at q
      · rename_i d hd
        have hlen := rr.len
        obtain ⟨y, hy⟩ : ∃ y, ws[ws.length - 1]? = some y := by
          have h1 := (List.getElem?_eq_some_iff.mp hd).1
          exact ⟨_, List.getElem?_eq_getElem (by omega)⟩
        have ry : Rep X.K H 0 d y [] := r0.nilAt rfl (xs.length - 1) d y hd (by rw [hlen]; exact hy)
        have rw' : Reps X.K H 0 xs.dropLast ws.dropLast [] := repsI (by simp [hlen]) fun j d v h1 h2 => by
          rw [List.dropLast_eq_take, List.getElem?_take] at h1 h2
          split at h1
          · split at h2
            · exact r0.nilAt rfl j d v h1 h2
            · cases h2
          · cases h1
        obtain ⟨A3, S3, K3, _⟩ := lst_chg (G := []) (G' := []) A e hm hl hv hH hf nfp rw' (fun b hb => by simp at hb) (fun b hb => by simp at hb) no_mem_nil
        have ry' : Rep X.K (upd H a (.lst ws.dropLast)) 0 d y [] := ry.keep fun b o hb q => by
          rcases q with q | q
          · simp at q
          · have : b ≠ a := fun z => by subst z; rw [hH] at hb; cases hb; cases q
            rw [upd_ne this]; exact hb
        exact ⟨a, ws, y, rfl, rfl, hH, hy, k _ _ _ _ _ [] A3 (.tmp ry' no_mem_nil) S3 K3 q⟩
      · exact q.elim
theorem m_reverse : MnOk X "list" D.isLst rReverse bRev where
  ty := fun H d x g rp e => ty_lst H d x g (rp.up (by omega)) e
  mono := fun r1 rs e Q Q' h q => by
    cases rs with
    | nil => exact chgL_mono (fun i xs m q => ⟨q.1, h _ _ q.2⟩) q
    | cons _ _ => exact q.elim
  run := fun σ H e f r1 rs x ys g1 gs QQ Q A R1 R2 n q k => by
    cases rs with
    | cons _ _ => exact q.elim
    | nil =>
      cases R2
      obtain ⟨i, xs, m, a, ws, fp, rfl, e, hm, hl, hv, hH, rr, hf, nfp, rfl, him, q⟩ := chgL_ok A R1 q
      obtain ⟨rfl, r0⟩ := rr.imm (Nat.zero_le _) him
      have hlen := rr.len
      have rw' : Reps X.K H 0 xs.reverse ws.reverse [] := repsI (by simp [hlen]) fun j d v h1 h2 => by
        have j1 : j < xs.length := by have := (List.getElem?_eq_some_iff.mp h1).1; simpa using this
        rw [List.getElem?_reverse j1] at h1
        rw [List.getElem?_reverse (by rw [← hlen]; exact j1)] at h2
        exact r0.nilAt rfl _ d v h1 (by rw [hlen]; exact h2)
      obtain ⟨A3, S3, K3, _⟩ := lst_chg (G := []) (G' := []) A e hm hl hv hH hf nfp rw' (fun b hb => by simp at hb) (fun b hb => by simp at hb) no_mem_nil
      exact ⟨a, ws, rfl, rfl, hH, k _ _ _ _ _ [] A3 (.tmp .non no_mem_nil) S3 K3 q⟩
variable {o e e2 : Expr} {ta te tf : XE} {cpos apos : Pos}
theorem de_pop (ho : DE X o ta) (hbase : attributeBase o "pop" X.env (eval o X.env) = eval o X.env := by rfl) (hline : (apos.endLine == cpos.line) = true := by rfl) : DE X (.Call (.Attribute o "pop" apos) [] [] cpos) (dMn D.isLst bPop ta aNil) :=
  de_mn0 m_pop PySem.F.plainAttrs_list PySem.F.slot_list_pop PySem.F.type_list_pop mt_pop ho hbase hline
theorem de_reverse (ho : DE X o ta) (hbase : attributeBase o "reverse" X.env (eval o X.env) = eval o X.env := by rfl) (hline : (apos.endLine == cpos.line) = true := by rfl) : DE X (.Call (.Attribute o "reverse" apos) [] [] cpos) (dMn D.isLst bRev ta aNil) :=
  de_mn0 m_reverse PySem.F.plainAttrs_list PySem.F.slot_list_reverse PySem.F.type_list_reverse mt_reverse ho hbase hline
end
end BX

namespace BX
open PySem PySem.Spec PyProof.Rows L2
/-- what a dict holds at a key -/
def lookD (d1 d2 : D) (k : Option D → Prop) : Prop := match d1 with
  | .dT kvs => match d2 with
    | .tup ds => match dKeys ds with
      | some ks => k (lookT kvs ks)
      | none => False
    | _ => False
  | .dK kvs => match dKey d2 with
    | some ky => k (lookK kvs ky)
    | none => False
  | _ => False
theorem lookD_mono {d1 d2 : D} {k k' : Option D → Prop} (h : ∀ o, k o → k' o) (q : lookD d1 d2 k) : lookD d1 d2 k' := by
  unfold lookD at q ⊢
  split at q
  · split at q
    · split at q
      · simp only [*] <;> exact h _ q
      · exact q.elim
    · exact q.elim
  · split at q
    · simp only [*] <;> exact h _ q
    · exact q.elim
  · exact q.elim
def immO (o : Option D) (k : Option D → Prop) : Prop := match o with
  | some d => d.imm = true ∧ k (some d)
  | none => k none
theorem immO_mono {o : Option D} {k k' : Option D → Prop} (h : ∀ o, k o → k' o) (q : immO o k) : immO o k' := by
  cases o with
  | none => exact h _ q
  | some d => exact ⟨q.1, h _ q.2⟩
def bGet : Bn := fun r1 rs e Q => match rs with
  | [r2] => rd 1 r1 e fun d1 => rd 1 r2 e fun d2 => lookD d1 d2 fun o => immO o fun o => Q (.tmp (o.getD .non)) e
  | [r2, r3] => rd 1 r1 e fun d1 => rd 1 r2 e fun d2 => rd 1 r3 e fun d3 => d3.imm = true ∧ lookD d1 d2 fun o => immO o fun o => Q (.tmp (o.getD d3)) e
  | _ => False
def rGet : V → List V → Hp → VK → Prop := fun x ys H Q => ∃ a, x = .ref a ∧ ((∃ y o, ys = [y] ∧ DGet H a y o ∧ Q (o.getD .non) H) ∨ ∃ y z o, ys = [y, z] ∧ DGet H a y o ∧ Q (o.getD z) H)
section
variable {X : Cx}
theorem mt_get (hx : Ok X) : MtR X "dict.get" rGet := by
  intro pins s σ H x xs v us Q I rx rxs h
  have hu : X.A.units + 1 < cLine := by have := hx.un; omega
  obtain ⟨a, rfl, h⟩ := h
  cases rx
  rcases h with ⟨y, o, rfl, g, q⟩ | ⟨y, z, o, rfl, g, q⟩
  · obtain ⟨u, rfl, r1⟩ := vals1 rxs
    exact d_get1 hu I g r1 fun w' s' I' r' => ⟨_, H, I', r', q⟩
  · obtain ⟨u, u2, rfl, r1, r2⟩ := vals2 rxs
    exact d_get2 hu I g r1 r2 fun w' s' I' r' => ⟨_, H, I', r', q⟩
end
section
variable {K : PySem.W.Frag} {H : Hp}
theorem look_get {d1 d2 : D} {x y : V} {g1 g2 : List Addr} {k : Option D → Prop} (r1 : Rep K H 1 d1 x g1) (r2 : Rep K H 1 d2 y g2) (q : lookD d1 d2 fun o => immO o k) :
    ∃ a o o', x = .ref a ∧ DGet H a y o' ∧ k o ∧ ((o = none ∧ o' = none) ∨ ∃ d v, o = some d ∧ o' = some v ∧ Rep K H 0 d v []) := by
  unfold lookD at q
  split at q
  · rename_i kvs
    split at q
    · split at q
      · rename_i ks hk
        obtain ⟨a, hs, g, rfl, ha, ek, nd, rr, _⟩ := r1.dTAt
        obtain ⟨b, vs, rfl, hb, rb⟩ := r2.tupleAt (Nat.le_refl _)
        rw [rb.dKeys hk] at hb
        have G := DGet.t (k := ks) ha hb
        cases e : lookT kvs ks with
        | none =>
          rw [e] at q
          rw [valV_none (k := ks) ek e] at G
          exact ⟨a, none, none, rfl, G, q, .inl ⟨rfl, rfl⟩⟩
        | some d =>
          rw [e] at q
          obtain ⟨j, z, e1, e2, e3⟩ := valV_look ek e
          rw [e3] at G
          obtain ⟨v', g', h1, h2, h3⟩ := rr.get e1
          rw [e2] at h1; cases h1
          exact ⟨a, some d, some z, rfl, G, q.2, .inr ⟨d, z, rfl, rfl, (h2.imm (Nat.le_refl _) q.1).2⟩⟩
      · exact q.elim
    · exact q.elim
  · rename_i kvs
    split at q
    · rename_i ky hk
      obtain ⟨a, hs, g, rfl, ha, ek, nd, rr, _⟩ := r1.dKAt
      have e0 := r2.dKey hk
      subst e0
      have G := DGet.k (k := ky) ha
      cases e : lookK kvs ky with
      | none =>
        rw [e] at q
        rw [valV_none (k := ky) ek e] at G
        exact ⟨a, none, none, rfl, G, q, .inl ⟨rfl, rfl⟩⟩
      | some d =>
        rw [e] at q
        obtain ⟨j, z, e1, e2, e3⟩ := valV_look ek e
        rw [e3] at G
        obtain ⟨v', g', h1, h2, h3⟩ := rr.get e1
        rw [e2] at h1; cases h1
        exact ⟨a, some d, some z, rfl, G, q.2, .inr ⟨d, z, rfl, rfl, (h2.imm (Nat.le_refl _) q.1).2⟩⟩
    · exact q.elim
  · exact q.elim
end
section
variable {X : Cx}
theorem stp_drop {H : Hp} {e : En} {f : FA} {G : List Addr} : Stp H e f G H e f [] := ⟨fun b o h _ => h, fun b q => q.elim .inl fun z => by simp at z⟩
theorem m_get : MnOk X "dict" D.isDic rGet bGet where
  ty := ty_dic
  mono := fun r1 rs e Q Q' h q => by
    unfold bGet at q ⊢
    split at q
    · exact rd_mono (fun d1 q => rd_mono (fun d2 q => lookD_mono (fun o q => immO_mono (fun o q => h _ _ q) q) q) q) q
    · exact rd_mono (fun d1 q => rd_mono (fun d2 q => rd_mono (fun d3 q => ⟨q.1, lookD_mono (fun o q => immO_mono (fun o q => h _ _ q) q) q.2⟩) q) q) q
    · exact q.elim
  run := fun σ H e f r1 rs x ys g1 gs QQ Q A R1 R2 n q k => by
    unfold bGet at q
    split at q
    · cases R2 with
      | cons R2 Rt _ =>
        cases Rt
        obtain ⟨d1, g1', p1, q⟩ := rd_ok A R1 q
        obtain ⟨d2, g2', p2, q⟩ := rd_ok A R2 q
        obtain ⟨a, o, o', rfl, G, q, c⟩ := look_get p1 p2 q
        refine ⟨a, rfl, .inl ⟨_, o', rfl, G, ?_⟩⟩
        rcases c with ⟨rfl, rfl⟩ | ⟨d, v, rfl, rfl, rp⟩
        · exact k _ _ _ _ _ [] A (.tmp .non no_mem_nil) stp_drop .refl q
        · exact k _ _ _ _ _ [] A (.tmp rp no_mem_nil) stp_drop .refl q
    · cases R2 with
      | cons R2 Rt _ =>
        cases Rt with
        | cons R3 Rt _ =>
          cases Rt
          obtain ⟨d1, g1', p1, q⟩ := rd_ok A R1 q
          obtain ⟨d2, g2', p2, q⟩ := rd_ok A R2 q
          obtain ⟨d3, g3', p3, him, q⟩ := rd_ok A R3 q
          obtain ⟨a, o, o', rfl, G, q, c⟩ := look_get p1 p2 q
          refine ⟨a, rfl, .inr ⟨_, _, o', rfl, G, ?_⟩⟩
          rcases c with ⟨rfl, rfl⟩ | ⟨d, v, rfl, rfl, rp⟩
          · exact k _ _ _ _ _ [] A (.tmp (p3.imm (Nat.le_refl _) him).2 no_mem_nil) stp_drop .refl q
          · exact k _ _ _ _ _ [] A (.tmp rp no_mem_nil) stp_drop .refl q
    · exact q.elim
variable {o e : Expr} {es : List Expr} {ta te tf : XE} {u : XA} {cpos apos : Pos}
theorem de_get (hx : Ok X) (ho : DE X o ta) (ha : DA X (e :: es) u) (hbase : attributeBase o "get" X.env (eval o X.env) = eval o X.env := by rfl)
    (hfew : ((backTo cpos (starEach (e :: es) X.env)).all (fun x => !x.1) && (backToKw cpos (keywordEach [] X.env)).all (fun x => x.1.isSome)
      && decide ((e :: es).length + ([] : List Keyword).length + (if ([] : List Keyword).isEmpty then 0 else 1) < 30)) = true := by rfl)
    (hline : (apos.endLine == cpos.line) = true := by rfl) (hs : starEach (e :: es) X.env = (false, eval e X.env) :: starEach es X.env := by rfl) (hplain : (backTo cpos (starEach es X.env)).any (·.1) = false := by rfl) :
    DE X (.Call (.Attribute o "get" apos) (e :: es) [] cpos) (dMn D.isDic bGet ta u) :=
  de_mn m_get PySem.F.plainAttrs_dict PySem.F.slot_dict_get PySem.F.type_dict_get (mt_get hx) ho ha hbase hfew hline hs hplain
end
end BX

namespace BX
open PySem PySem.Spec PyProof.Rows L2 RT
def iRev (t : XE) : XI := fun env k => t env fun r e => rd 2 r e fun d => match d with
  | .lst xs => lockOf r e (fun kd lk e1 => k xs.reverse kd lk e1) (immL xs)
  | .tup xs => lockOf r e (fun kd lk e1 => k xs.reverse kd lk e1) (immL xs)
  | _ => False
section
variable {K : PySem.W.Frag} {H1 : Hp} {x : V} {ds : List D}
theorem rev_at {α : Type} {l : List α} {i : Nat} {a : α} (h : l.reverse[i]? = some a) : l[l.length - 1 - i]? = some a := by
  have hi : i < l.length := by have := (List.getElem?_eq_some_iff.mp h).1; simpa using this
  rw [List.getElem?_reverse hi] at h
  exact h
theorem wk_revL {lv : Nat} {a : Addr} {vs : List V} {gg P : List Addr} (hq : ∀ H, Near H1 P H → SqL K H a vs) (rr : Reps K H1 lv ds vs gg) (hg : ∀ b ∈ gg, b ∈ P) :
    (immL ds = true → lv ≤ 1 → Wk K (Itv K a vs.length) ds.reverse none H1 P) ∧ ∀ c, lv = clv c → Wk K (Itv K a vs.length) ds.reverse (some c) H1 P := by
  have it : ∀ (i : Nat) (H : Hp) (x : V) (H' : Hp) (d : D), Near H1 P H → ds.reverse[i]? = some d → (Itv K a vs.length).yld i H x H' → H' = H ∧ ∃ g, Rep K H lv d x g ∧ ∀ b ∈ g, b ∈ P := fun i H x H' d n e y => by
    obtain ⟨rfl, y⟩ := y
    obtain ⟨v, g, e1, r, hs⟩ := rr.get (rev_at e)
    have := y vs (hq _ n)
    rw [rr.len] at e1
    rw [e1] at this; cases this
    exact ⟨rfl, g, near_rep r n fun b hb => hg b (hs b hb), fun b hb => hg b (hs b hb)⟩
  have go : ∀ (i : Nat) (H : Hp), Near H1 P H → i < ds.reverse.length → (Itv K a vs.length).go i H := fun i H n h => by
    have hl : i < vs.length := by rw [← rr.len]; simpa using h
    exact ⟨hl, vs, vs[vs.length - 1 - i]'(by omega), hq H n, List.getElem?_eq_getElem _⟩
  have st : ∀ (i : Nat) (H : Hp), Near H1 P H → ds.reverse.length ≤ i → (Itv K a vs.length).stop i H := fun i H n h => by
    show vs.length ≤ i
    rw [← rr.len]; simpa using h
  have imm : immL ds = true → ∀ {i : Nat} {d : D}, ds.reverse[i]? = some d → d.imm = true := fun im {i d} e => immL_mem im d (List.mem_reverse.mp (List.mem_of_getElem? e))
  refine ⟨fun im l => ⟨go, st, fun i H x H' d n e y => ?_⟩, fun c hc => ⟨go, st, fun i H x H' d n e y => ?_⟩⟩
  · obtain ⟨rfl, g, r, hs⟩ := it i H x H' d n e y
    exact ⟨fun b o h => h, (item_of r hs).1 l (imm im e)⟩
  · obtain ⟨rfl, g, r, hs⟩ := it i H x H' d n e y
    exact ⟨fun b o h => h, (item_of r hs).2 c hc⟩
theorem wk_revT {lv : Nat} {a : Addr} {vs : List V} {gg P : List Addr} (hq : ∀ H, Near H1 P H → SqT K H a vs) (rr : Reps K H1 lv ds vs gg) (hg : ∀ b ∈ gg, b ∈ P) :
    (immL ds = true → lv ≤ 1 → Wk K (ItvT K a vs.length) ds.reverse none H1 P) ∧ ∀ c, lv = clv c → Wk K (ItvT K a vs.length) ds.reverse (some c) H1 P := by
  have it : ∀ (i : Nat) (H : Hp) (x : V) (H' : Hp) (d : D), Near H1 P H → ds.reverse[i]? = some d → (ItvT K a vs.length).yld i H x H' → H' = H ∧ ∃ g, Rep K H lv d x g ∧ ∀ b ∈ g, b ∈ P := fun i H x H' d n e y => by
    obtain ⟨rfl, y⟩ := y
    obtain ⟨v, g, e1, r, hs⟩ := rr.get (rev_at e)
    have := y vs (hq _ n)
    rw [rr.len] at e1
    rw [e1] at this; cases this
    exact ⟨rfl, g, near_rep r n fun b hb => hg b (hs b hb), fun b hb => hg b (hs b hb)⟩
  have go : ∀ (i : Nat) (H : Hp), Near H1 P H → i < ds.reverse.length → (ItvT K a vs.length).go i H := fun i H n h => by
    have hl : i < vs.length := by rw [← rr.len]; simpa using h
    exact ⟨hl, vs, vs[vs.length - 1 - i]'(by omega), hq H n, List.getElem?_eq_getElem _⟩
  have st : ∀ (i : Nat) (H : Hp), Near H1 P H → ds.reverse.length ≤ i → (ItvT K a vs.length).stop i H := fun i H n h => by
    show vs.length ≤ i
    rw [← rr.len]; simpa using h
  have imm : immL ds = true → ∀ {i : Nat} {d : D}, ds.reverse[i]? = some d → d.imm = true := fun im {i d} e => immL_mem im d (List.mem_reverse.mp (List.mem_of_getElem? e))
  refine ⟨fun im l => ⟨go, st, fun i H x H' d n e y => ?_⟩, fun c hc => ⟨go, st, fun i H x H' d n e y => ?_⟩⟩
  · obtain ⟨rfl, g, r, hs⟩ := it i H x H' d n e y
    exact ⟨fun b o h => h, (item_of r hs).1 l (imm im e)⟩
  · obtain ⟨rfl, g, r, hs⟩ := it i H x H' d n e y
    exact ⟨fun b o h => h, (item_of r hs).2 c hc⟩
end
section
variable {X : Cx} {tg e : Expr} {t : XE} {p pos : Pos}
theorem di_rev (ha : DE X e t) (hm : X.mg "reversed" = none) (hg : Gl X "reversed" := by rfl) (hs : starEach [e] X.env = (false, eval e X.env) :: starEach [] X.env := by rfl) : DI X tg (.Call (.Name "reversed" p) [e] [] pos) (iRev t) := by
  refine ⟨PI.imp (pi_revA hg hm ha.run hs) fun σ H R q => ?_, fun env k k' h q => ha.mono _ _ _ (fun r e q => rd_mono (fun d q => ?_) q) q⟩
  · obtain ⟨env, f, A, q⟩ := q
    refine ⟨env, f, A, ha.mono _ _ _ (fun r1 e1 q => ?_) q⟩
    intro x H1 f1 g A1 R1 S1 K1
    obtain ⟨d, dd, q⟩ := rd_data q
    have rp0 : ∃ gg, Rep X.K H1 2 d x gg := by
      obtain ⟨d', gg, rp, hd⟩ := rd_ok (L := 2) (k := fun d' => d' = d) A1 R1 (by unfold rd; rw [dd])
      subst hd
      exact ⟨gg, rp⟩
    obtain ⟨gg0, rp0⟩ := rp0
    cases d with
    | lst ds =>
      obtain ⟨a, vs, g1, rfl, hq, hn, rr, hs⟩ := near_list rp0
      refine ⟨a, vs, rfl, .inl ⟨hq, lock_ok A1 S1 K1 R1 (immL ds) q (fun lv gg z => ?_) dd⟩⟩
      obtain ⟨a', vs', g2, e1, hq', hn', rr', hs'⟩ := near_list z
      cases e1
      have hl : vs.length = vs'.length := by rw [← rr.len, ← rr'.len]
      rw [hl]
      exact wk_revL hn' rr' hs'
    | tup ds =>
      obtain ⟨a, vs, rfl, hq, hn, rr⟩ := near_tup rp0
      refine ⟨a, vs, rfl, .inr ⟨hq, lock_ok A1 S1 K1 R1 (immL ds) q (fun lv gg z => ?_) dd⟩⟩
      obtain ⟨a', vs', e1, hq', hn', rr'⟩ := near_tup z
      cases e1
      have hl : vs.length = vs'.length := by rw [← rr.len, ← rr'.len]
      rw [hl]
      exact wk_revT hn' rr' fun b hb => hb
    | _ => exact q.elim
  · cases d with
    | lst ds => exact lockOf_mono (fun kd lk e q => h _ _ _ _ q) q
    | tup ds => exact lockOf_mono (fun kd lk e q => h _ _ _ _ q) q
    | _ => exact q.elim
end
def bMaxL (d : D) (k : D → Prop) : Prop := match d with
  | .lst xs => match intL xs with
    | some ns => ∃ m, ns.max? = some m ∧ k (.int m)
    | none => False
  | _ => False
def bMinL (d : D) (k : D → Prop) : Prop := match d with
  | .lst xs => match intL xs with
    | some ns => ∃ m, ns.min? = some m ∧ k (.int m)
    | none => False
  | _ => False
section
variable {X : Cx}
theorem cd_maxL (hx : Ok X) : CallD X (.builtin "max") 2 (op1 bMaxL) := call1 (by decide) (fun pins s σ H x us Q d g I rs r q => by
  unfold bMaxL at q
  split at q
  · split at q
    · rename_i xs ns e
      obtain ⟨m, hm, q⟩ := q
      obtain ⟨a, vs, g', rfl, ha, rr, _⟩ := r.listSq
      have e2 := rr.intL e
      subst e2
      have hm' := List.max?_eq_some_iff.mp hm
      refine cr_max hx.calm pins s σ H _ us Q I rs ⟨a, ns, rfl, ha, List.length_pos_of_mem hm'.1, fun m' h1 h2 => ?_⟩
      have : m' = m := by have := hm'.2 m' h1; have := h2 m hm'.1; omega
      subst this
      exact q _ H [] (.int _) ⟨fun b o h => h, fun b hb => by simp at hb⟩
    · exact q.elim
  · exact q.elim) (fun d k k' h q => by
  unfold bMaxL at q ⊢
  split at q
  · split at q
    · obtain ⟨m, hm, q⟩ := q
      simp only [*]
      exact ⟨m, rfl, h _ q⟩
    · exact q.elim
  · exact q.elim)
theorem cd_minL (hx : Ok X) : CallD X (.builtin "min") 2 (op1 bMinL) := call1 (by decide) (fun pins s σ H x us Q d g I rs r q => by
  unfold bMinL at q
  split at q
  · split at q
    · rename_i xs ns e
      obtain ⟨m, hm, q⟩ := q
      obtain ⟨a, vs, g', rfl, ha, rr, _⟩ := r.listSq
      have e2 := rr.intL e
      subst e2
      have hm' := List.min?_eq_some_iff.mp hm
      refine cr_min hx.calm pins s σ H _ us Q I rs ⟨a, ns, rfl, ha, List.length_pos_of_mem hm'.1, fun m' h1 h2 => ?_⟩
      have : m' = m := by have := hm'.2 m' h1; have := h2 m hm'.1; omega
      subst this
      exact q _ H [] (.int _) ⟨fun b o h => h, fun b hb => by simp at hb⟩
    · exact q.elim
  · exact q.elim) (fun d k k' h q => by
  unfold bMinL at q ⊢
  split at q
  · split at q
    · obtain ⟨m, hm, q⟩ := q
      simp only [*]
      exact ⟨m, rfl, h _ q⟩
    · exact q.elim
  · exact q.elim)
end
def cutD (xs : List D) (lo hi : Option Int) : List D := (xs.drop (HT.sIx xs.length 0 lo)).take (HT.sIx xs.length xs.length hi - HT.sIx xs.length 0 lo)
abbrev XO := En → (Option Int → En → Prop) → Prop
def oNone : XO := fun env Q => Q none env
def oSome (t : XE) : XO := fun env Q => t env fun r e => rd 2 r e fun d => intD d fun z => Q (some z) e
def MonoOp (t : XO) : Prop := ∀ env Q Q', (∀ o e, Q o e → Q' o e) → t env Q → t env Q'
def sliceD (d : D) (lo hi : Option Int) (k : D → Prop) : Prop := match d with
  | .lst xs => immL xs = true ∧ k (.lst (cutD xs lo hi))
  | .tup xs => immL xs = true ∧ k (.tup (cutD xs lo hi))
  | _ => False
def dSlice (t : XE) (lo hi : XO) : XE := fun env Q => t env fun r e => lo e fun l e1 => hi e1 fun u e2 => rd 1 r e2 fun d => sliceD d l u fun d' => Q (.tmp d') e2
end BX

namespace BX
open PySem PySem.Spec PyProof.Rows L2 RT L2.DX
def rUpd (K : PySem.W.Frag) : V → List V → Hp → VK → Prop := fun x ys H Q => ∃ (d a : Addr) (kvs : List (List Key × V)) (l : List Pr), x = .ref d ∧ ys = [.ref a] ∧ H d = some (.dT kvs) ∧ SqL K H a (l.map fun x => V.ref x.at') ∧ (∀ x ∈ l, PrOk K H x) ∧ kvs.length + l.length ≤ sizeLine ∧
  Q .non (upd H d (.dT (putAll kvs l)))
section
variable {X : Cx}
theorem mt_upd (hx : Ok X) : MtR X "dict.update" (rUpd X.K) := by
  intro pins s σ H x xs v us Q I rx rxs h
  obtain ⟨d, a, kvs, l, rfl, rfl, hH, hq, hp, hsz, q⟩ := h
  cases rx
  obtain ⟨u, rfl, r1⟩ := vals1 rxs
  cases r1
  obtain ⟨its, rv, pl, hz⟩ := I.list hq
  obtain ⟨ts, T⟩ := trip_of I hp
  have ei : its = l.map fun x => Value.ref x.at' := by
    have : ∀ {l : List Pr} {us : List Value}, Vals (l.map fun x => V.ref x.at') us → us = l.map fun x => Value.ref x.at' := by
      intro l
      induction l with
      | nil => intro us r; cases r; rfl
      | cons x l ih => intro us r; cases r with
        | cons h t => cases h; rw [List.map_cons, ← ih t]
    exact this rv
  subst ei
  have hl := T.len
  obtain ⟨z, hm, xs', rel, dd⟩ := dt_of I.hok hH
  have hxl : xs'.length = kvs.length := (Paired.length rel).symm
  obtain ⟨od, esd, epd, hod, hcd, _⟩ := id dd
  obtain ⟨o, n, ho, hc, hd, hdat⟩ := pl
  have ned : ∀ {b : Addr} {ob : Obj} {T : String}, s.heap.get? b = some ob → ob.cls = .type T → T ≠ "dict" → b ≠ d := fun {b ob T} h1 h2 h3 z => by
    subst z
    rw [hod] at h1
    cases h1
    have h4 := hcd.1
    rw [h2] at h4
    exact h3 (Value.type.inj h4)
  have keyne : ∀ {b : Addr} {ks : List Key}, H b = some (.tup (ks.map kV)) → b ≠ d := fun {b ks} h => by
    obtain ⟨o1, its1, n1, g1, g2, _⟩ := key_of I.hok h
    exact ned g1 g2 (by decide)
  have P := PairArg.list (prog := X.prog) (w := X.w) a (l.map fun x => Value.ref x.at').toArray (fun j => (l.map (·.at')).getD j 0) (ts.map fun t => (Value.ref t.2.1, t.2.2))
  refine call_update_pairsH (knd := tupleKind (mixKind X.prog X.w)) (acc := xs') (ps := ts) P (I.ok.hd hx.calm) ?_ ⟨⟨o, n, ho, hc, hd, hdat⟩, ?_, fun j k v e => ?_⟩ ?_ ⟨by simp, fun i key v e => ?_⟩ (fun h' hk y hy => ?_) dd (by rw [List.length_map, hl, hxl]; exact hsz) fun h' tk hd' k => ?_
  · exact tupleKind_room_in1 (A := X.A) (by have := hx.un; omega)
  · simp [hl]
  · rw [List.getElem?_map] at e
    cases et : ts[j]? with
    | none => rw [et] at e; cases e
    | some t =>
      rw [et] at e
      cases e
      obtain ⟨x, hx1, hx2, hx3⟩ := T.get et
      have hj : ((l.map (·.at')).getD j 0) = x.at' := by simp [List.getD, hx1]
      refine ⟨by simp [hx1], .inl ?_⟩
      show s.heap.IsTuple ((l.map (·.at')).getD j 0) _
      rw [hj]
      exact hx3
  · intro hmem
    rcases List.mem_cons.mp hmem with e | hmem
    · exact ned ho hc (by decide) e.symm
    · obtain ⟨j, hj, e⟩ := List.mem_map.mp hmem
      have hj' : j < ts.length := by simpa using hj
      obtain ⟨x, hx1, hx2, o1, g1, g2, _⟩ := T.get (List.getElem?_eq_getElem hj')
      have hjx : ((l.map (·.at')).getD j 0) = x.at' := by simp [List.getD, hx1]
      rw [hjx] at e
      exact ned g1 g2 (by decide) e
  · rw [PairRel, List.getElem?_map] at e
    cases et : ts[i]? with
    | none => rw [et] at e; cases e
    | some t => rw [et] at e; cases e; exact ⟨t.1, t.2.1, rfl, rfl⟩
  · have hy' : H y.2.1 = some (.tup (y.1.map kV)) := by
      rcases List.mem_append.mp hy with hy | hy
      · have all : ∀ {l : List (List Key × V)} {m : List (List Key × Addr × Value)}, KT H l m → ∀ x ∈ m, H x.2.1 = some (.tup (x.1.map kV)) := by
          intro l m r
          induction r with
          | nil => intro x hx; cases hx
          | cons h t ih =>
            intro x hx
            rcases List.mem_cons.mp hx with rfl | hx
            · have e := h.2.1
              rw [h.1] at e
              exact e
            · exact ih x hx
        exact all rel y hy
      · exact T.keys y hy
    obtain ⟨o1, its, n1, g1, g2, g3, g4⟩ := key_of I.hok hy'
    exact ⟨o1, its, n1, hk _ _ (keyne hy') (by simp) g1, g2, g3, g4⟩
  · have kt := T.all rel
    obtain ⟨q0, es, ep, hq0, h2, h3, h4, _, h5⟩ := hd'
    refine ⟨.non, upd H d (.dT (putAll kvs l)), I.write (x := d) (e := d) (t' := tk) (by rw [hH]; exact True.intro) (.inl rfl) (fun b u hb e => k b u hb (by simp) e) ⟨q0, hq0⟩ ⟨?_, hm, _, kt.keeps fun c ys ec => ?_, q0, es, ep, hq0, h2, h3, h4, h5⟩, rfl, q⟩
    · have := putAll_len l kvs
      omega
    · rw [upd_ne (ne_of ec hH (fun z => nomatch z))]
      exact ec
/-- many pairs put in -/
def bUpd : Bn := fun r1 rs e Q => match rs with
  | [r2] => rd 1 r2 e fun d2 => match d2 with
    | .lst xs => match pairT xs with
      | some l => chgT r1 e fun i kvs m => immL (kvs.map (·.2)) = true ∧ kvs.length + l.length ≤ sizeLine ∧ Q (.tmp .non) (e.set i (some (.dT (putDs kvs l), m)))
      | none => False
    | _ => False
  | _ => False
theorem m_update : MnOk X "dict" D.isDic (rUpd X.K) bUpd where
  ty := ty_dic
  mono := fun r1 rs e Q Q' h q => by
    unfold bUpd at q ⊢
    split at q
    · refine rd_mono (fun d2 q => ?_) q
      split at q
      · split at q
        · first
            | (simp only [*]; exact chgT_mono (fun i d m q => ⟨q.1, q.2.1, h _ _ q.2.2⟩) q)
            | exact chgT_mono (fun i d m q => ⟨q.1, q.2.1, h _ _ q.2.2⟩) q
        · exact q.elim
      · exact q.elim
    · exact q.elim
  run := fun σ H e f r1 rs x ys g1 gs QQ Q A R1 R2 n q k => by
    unfold bUpd at q
    split at q
    · cases R2 with
      | cons R2 Rt _ =>
        cases Rt
        obtain ⟨d2, g2', p2, q⟩ := rd_ok A R2 q
        split at q
        · split at q
          · rename_i xs l el
            obtain ⟨a, vs, g', rfl, ha, rr, _⟩ := p2.listAt1 (Nat.le_refl _)
            obtain ⟨ps, rfl, hp, hq⟩ := pairT_pr (Nat.le_refl _) rr el
            obtain ⟨i, kvs, m, b, hs, fp, rfl, e0, hm, hl, hv, hH, ek, nd, rk, hf, nfp, rfl, him, hz, q⟩ := chgT_ok A R1 q
            obtain ⟨rfl, rk⟩ := rk.imm (Nat.zero_le _) him
            obtain ⟨h1, h2, h3⟩ := putAll_rep hq ek nd rk
            have lh : hs.length = kvs.length := by have := congrArg List.length ek; simpa using this
            have lp : ps.length = l.length := by
              have : ∀ {ps : List Pr} {l : List (List Key × D)} {R : Pr → List Key × D → Prop}, Paired R ps l → ps.length = l.length := fun h => by
                induction h with
                | nil => rfl
                | cons _ _ ih => simp [ih]
              exact this hq
            obtain ⟨A3, S3, K3, _⟩ := dT_chg (G := []) (G' := []) A e0 hm hl hv hH rfl hf nfp h1 h2 h3 (fun b hb => by simp at hb) (fun b hb => by simp at hb) no_mem_nil
            exact ⟨b, a, hs, ps, rfl, rfl, hH, .inl (.inl ha), hp, by rw [lh, lp]; exact hz, k _ _ _ _ _ [] A3 (.tmp .non no_mem_nil) (S3.more fun b hb => by simp at hb) K3 q⟩
          · exact q.elim
        · exact q.elim
    · exact q.elim
def dropD (kvs : List (List Key × D)) (k : List Key) : List (List Key × D) := kvs.filter fun p => !decide (p.1 = k)
def bPopT : Bn := fun r1 rs e Q => match rs with
  | [r2, r3] => rd 1 r2 e fun d2 => rd 1 r3 e fun d3 => match d2 with
    | .tup ds => match dKeys ds with
      | some ks => chgT r1 e fun i kvs m => immL (kvs.map (·.2)) = true ∧ d3.imm = true ∧ Q (.tmp ((lookT kvs ks).getD d3)) (e.set i (some (.dT (dropD kvs ks), m)))
      | none => False
    | _ => False
  | _ => False
theorem drop_none {α : Type} {k : List Key} : ∀ {l : List (List Key × α)}, (l.find? fun p => decide (p.1 = k)) = none → l.filter (fun p => !decide (p.1 = k)) = l
  | [], _ => rfl
  | p :: l, h => by
    rw [List.find?_cons] at h
    by_cases e : p.1 = k
    · simp [e] at h
    · simp only [e, decide_false] at h
      rw [List.filter_cons_of_pos (by simp [e]), drop_none h]
theorem dropK_eq {k : List Key} : ∀ {hs : List (List Key × V)}, dropK hs k = hs.filter fun p => !decide (p.1 = k) := fun {hs} => by
  unfold dropK
  congr 1
  funext p
  simp
theorem drop_rep {K : PySem.W.Frag} {H : Hp} {k : List Key} : ∀ {hs : List (List Key × V)} {kvs : List (List Key × D)}, hs.map (·.1) = kvs.map (·.1) → Reps K H 0 (kvs.map (·.2)) (hs.map (·.2)) [] →
    (hs.filter fun p => !decide (p.1 = k)).map (·.1) = (dropD kvs k).map (·.1) ∧ Reps K H 0 ((dropD kvs k).map (·.2)) ((hs.filter fun p => !decide (p.1 = k)).map (·.2)) []
  | [], [], _, _ => ⟨rfl, .nil⟩
  | [], _ :: _, e, _ => by simp at e
  | _ :: _, [], e, _ => by simp at e
  | p :: hs, q :: kvs, e, r => by
    rw [List.map_cons, List.map_cons, List.cons.injEq] at e
    rw [List.map_cons, List.map_cons] at r
    have r0 := r.nilAt rfl 0 q.2 p.2 rfl rfl
    have rt : Reps K H 0 (kvs.map (·.2)) (hs.map (·.2)) [] := repsI (by have := congrArg List.length e.2; simpa using this) fun j d v h1 h2 => r.nilAt rfl (j + 1) d v (by simpa using h1) (by simpa using h2)
    obtain ⟨h1, h2⟩ := drop_rep (k := k) e.2 rt
    unfold dropD at h1 h2 ⊢
    by_cases c : q.1 = k
    · rw [List.filter_cons_of_neg (by simp [e.1, c]), List.filter_cons_of_neg (by simp [c])]
      exact ⟨h1, h2⟩
    · rw [List.filter_cons_of_pos (by simp [e.1, c]), List.filter_cons_of_pos (by simp [c]), List.map_cons, List.map_cons, List.map_cons, List.map_cons]
      exact ⟨by rw [e.1, h1], .cons (f := []) (g := []) r0 h2 fun _ b hb => by simp at hb⟩
theorem m_popT : MnOk X "dict" D.isDic rPopT bPopT where
  ty := ty_dic
  mono := fun r1 rs e Q Q' h q => by
    unfold bPopT at q ⊢
    split at q
    · refine rd_mono (fun d2 q => rd_mono (fun d3 q => ?_) q) q
      split at q
      · split at q
        · first
            | (simp only [*]; exact chgT_mono (fun i d m q => ⟨q.1, q.2.1, h _ _ q.2.2⟩) q)
            | exact chgT_mono (fun i d m q => ⟨q.1, q.2.1, h _ _ q.2.2⟩) q
        · exact q.elim
      · exact q.elim
    · exact q.elim
  run := fun σ H e f r1 rs x ys g1 gs QQ Q A R1 R2 n q k => by
    unfold bPopT at q
    split at q
    · cases R2 with
      | cons R2 Rt _ =>
        cases Rt with
        | cons R3 Rt _ =>
          cases Rt
          obtain ⟨d2, g2', p2, q⟩ := rd_ok A R2 q
          obtain ⟨d3, g3', p3, q⟩ := rd_ok A R3 q
          split at q
          · split at q
            · rename_i ds ks hk
              obtain ⟨b, vs, rfl, hb, rb⟩ := p2.tupleAt (Nat.le_refl _)
              rw [rb.dKeys hk] at hb
              obtain ⟨i, kvs, m, a, hs, fp, rfl, e0, hm, hl, hv, hH, ek, nd, rk, hf, nfp, rfl, him, hi3, q⟩ := chgT_ok A R1 q
              obtain ⟨rfl, rk⟩ := rk.imm (Nat.zero_le _) him
              obtain ⟨h1, h2⟩ := drop_rep (k := ks) ek rk
              have nd2 : ((dropD kvs ks).map (·.1)).Nodup := nd.sublist ((List.filter_sublist).map _)
              have p3' := (p3.imm (Nat.le_refl _) hi3).2
              refine ⟨a, hs, ks, b, _, rfl, rfl, hH, hb, fun v ev => ?_, fun en => ?_⟩
              · obtain ⟨A3, S3, K3, _⟩ := dT_chg (G := []) (G' := []) A e0 hm hl hv hH rfl hf nfp h1 nd2 h2 (fun b hb => by simp at hb) (fun b hb => by simp at hb) no_mem_nil
                rw [← dropK_eq] at A3 S3
                have rv : ∃ d, lookT kvs ks = some d ∧ Rep X.K H 0 d v [] := by
                  cases el : lookT kvs ks with
                  | none => rw [valV_none (k := ks) ek el] at ev; cases ev
                  | some d =>
                    obtain ⟨j, z, e1, e2, e3⟩ := valV_look ek el
                    rw [ev] at e3; cases e3
                    exact ⟨d, rfl, rk.nilAt rfl j d _ e1 e2⟩
                obtain ⟨d, el, rv⟩ := rv
                rw [el] at q
                refine k _ _ _ _ _ [] A3 (.tmp (rv.keep fun b o hb q => ?_) no_mem_nil) (S3.more fun b hb => by simp at hb) K3 q
                rcases q with q | q
                · simp at q
                · have : b ≠ a := fun z => by subst z; rw [hH] at hb; cases hb; cases q
                  rw [upd_ne this]; exact hb
              · have el : lookT kvs ks = none := by
                  cases el : lookT kvs ks with
                  | none => rfl
                  | some d =>
                    obtain ⟨j, z, e1, e2, e3⟩ := valV_look ek el
                    rw [en] at e3; cases e3
                have ed : dropD kvs ks = kvs := by
                  unfold lookT at el
                  exact drop_none (by simpa using el)
                rw [el, ed] at q
                have es : e.set i (some (.dT kvs, m)) = e := by
                  have hi := (List.getElem?_eq_some_iff.mp e0)
                  rw [← hi.2]
                  exact List.set_getElem_self hi.1
                rw [es] at q
                exact k _ _ _ _ _ [] A (.tmp p3' no_mem_nil) stp_drop .refl q
            · exact q.elim
          · exact q.elim
    · exact q.elim
variable {o e : Expr} {es : List Expr} {ta te tf : XE} {u : XA} {cpos apos : Pos}
theorem de_update (hx : Ok X) (ho : DE X o ta) (ha : DA X (e :: es) u) (hbase : attributeBase o "update" X.env (eval o X.env) = eval o X.env := by rfl)
    (hfew : ((backTo cpos (starEach (e :: es) X.env)).all (fun x => !x.1) && (backToKw cpos (keywordEach [] X.env)).all (fun x => x.1.isSome)
      && decide ((e :: es).length + ([] : List Keyword).length + (if ([] : List Keyword).isEmpty then 0 else 1) < 30)) = true := by rfl)
    (hline : (apos.endLine == cpos.line) = true := by rfl) (hs : starEach (e :: es) X.env = (false, eval e X.env) :: starEach es X.env := by rfl) (hplain : (backTo cpos (starEach es X.env)).any (·.1) = false := by rfl) :
    DE X (.Call (.Attribute o "update" apos) (e :: es) [] cpos) (dMn D.isDic bUpd ta u) :=
  de_mn m_update PySem.F.plainAttrs_dict PySem.F.slot_dict_update PySem.F.type_dict_update (mt_upd hx) ho ha hbase hfew hline hs hplain
theorem de_popT (hx : Ok X) (ho : DE X o ta) (ha : DA X (e :: es) u) (hbase : attributeBase o "pop" X.env (eval o X.env) = eval o X.env := by rfl)
    (hfew : ((backTo cpos (starEach (e :: es) X.env)).all (fun x => !x.1) && (backToKw cpos (keywordEach [] X.env)).all (fun x => x.1.isSome)
      && decide ((e :: es).length + ([] : List Keyword).length + (if ([] : List Keyword).isEmpty then 0 else 1) < 30)) = true := by rfl)
    (hline : (apos.endLine == cpos.line) = true := by rfl) (hs : starEach (e :: es) X.env = (false, eval e X.env) :: starEach es X.env := by rfl) (hplain : (backTo cpos (starEach es X.env)).any (·.1) = false := by rfl) :
    DE X (.Call (.Attribute o "pop" apos) (e :: es) [] cpos) (dMn D.isDic bPopT ta u) :=
  de_mn m_popT PySem.F.plainAttrs_dict PySem.F.slot_dict_pop PySem.F.type_dict_pop (mt_popT (by have := hx.un; omega)) ho ha hbase hfew hline hs hplain
end
end BX

namespace BX
open PySem PySem.Spec PyProof.Rows L2 RT L2.DX
def sMv (i m : Nat) (u : XA) : XS := fun env nx _ => u env fun rs e => rs.length ≤ 1000 ∧ ∃ rs0, rs = rs0 ++ [.sl m] ∧ storL rs0 e fun ds => match e[m]? with
  | some (some (d, .own)) => setOk (e.set m none) i = true ∧ nx ((e.set m none).set i (some (.lst (ds ++ [d]), .own)))
  | _ => False
section
variable {K : PySem.W.Frag} {σ : L2.St} {H : Hp} {env : En} {f : FA}
theorem ResOks.split : ∀ {rs : List R} {r : R} {vs : List V} {gs : List Addr}, ResOks K σ H env f (rs ++ [r]) vs gs → ∃ vs0 v g0 g1, vs = vs0 ++ [v] ∧ ResOks K σ H env f rs vs0 g0 ∧ ResOk K σ H env f r v g1 ∧ gs = g0 ++ g1
  | [], r, _, _, .cons h .nil n => ⟨[], _, [], _, rfl, .nil, h, by simp⟩
  | _ :: rs, r, _, _, .cons h t n => by
    obtain ⟨vs0, v, g0, g1, rfl, h1, h2, rfl⟩ := ResOks.split t
    exact ⟨_ :: vs0, v, _ ++ g0, g1, rfl, .cons h h1 fun b hb z => n b hb (List.mem_append_left _ z), h2, by rw [List.append_assoc]⟩
theorem abs_drop (A : Abs K σ H env f) (m : Nat) : Abs K σ H (env.set m none) f := by
  have get : ∀ {j : Nat} {d : D} {md : Md}, (env.set m none)[j]? = some (some (d, md)) → env[j]? = some (some (d, md)) ∧ j ≠ m := fun {j d md} h => by
    by_cases hj : j = m
    · subst hj
      by_cases hl : j < env.length
      · rw [List.getElem?_set_self hl] at h; cases h
      · rw [List.getElem?_eq_none (by rw [List.length_set]; omega)] at h; cases h
    · rw [List.getElem?_set_ne (Ne.symm hj)] at h; exact ⟨h, hj⟩
  exact ⟨fun j d md h => A.rep j d md (get h).1, fun j k d md d' md' hjk h1 h2 => A.dis j k d md d' md' hjk (get h1).1 (get h2).1, by rw [List.length_set]; exact A.len⟩
theorem drop_get {m j : Nat} {d : D} {md : Md} (h : (env.set m none)[j]? = some (some (d, md))) : env[j]? = some (some (d, md)) ∧ j ≠ m := by
  by_cases hj : j = m
  · subst hj
    by_cases hl : j < env.length
    · rw [List.getElem?_set_self hl] at h; cases h
    · rw [List.getElem?_eq_none (by rw [List.length_set]; omega)] at h; cases h
  · rw [List.getElem?_set_ne (Ne.symm hj)] at h; exact ⟨h, hj⟩
end
section
variable {X : Cx}
theorem sMv_mono {i m : Nat} {u : XA} (mu : MonoA u) : MonoS (sMv i m u) := fun env nx nx' rt rt' h _ q => mu _ _ _ (fun rs e q => by
  obtain ⟨h1, rs0, h2, q⟩ := q
  refine ⟨h1, rs0, h2, storL_mono (fun ds q => ?_) q⟩
  split at q
  · exact ⟨q.1, h _ q.2⟩
  · exact q.elim) q
theorem ds_setMv {i m : Nat} {x : Str} {es : List Expr} {u : XA} {pos pos' pos2 : Pos} (hN : X.N.Nodup) (ha : DA X es u) (hi : X.N[i]? = some x := by rfl) (hx : Loc X.env.scope x := by first | exact .inl rfl | exact .inr rfl) (hs : swapsWith (.List es pos2) (some (.Name x pos')) pos.line X.env = pure false := by rfl)
    (hf : X.fn x = true ∨ X.env.scope.names.lookup x = some .local := by first | exact .inl rfl | exact .inr rfl | assumption) : DS X (.Assign [.Name x pos'] (.List es pos2) pos) (sMv i m u) := by
  refine ⟨PS.imp (ps_set hN hi hx (pe_lst ha.run) hs hf) fun Dn σ H q => ?_, sMv_mono ha.mono⟩
  obtain ⟨env, f, A, q⟩ := q
  refine ⟨env, f, A, ha.mono _ _ _ (fun rs e q => ?_) q⟩
  intro vs H1 f1 gs A1 R1 S1 K1
  obtain ⟨hlen, rs0, rfl, q⟩ := q
  refine ⟨by rw [← R1.len]; exact line1000 hlen, fun p hp => ?_⟩
  obtain ⟨vs0, v, g0, g1, rfl, R0, Rm, rfl⟩ := R1.split
  obtain ⟨ds, rp, q, n⟩ := storL_ok A1 R0 q
  split at q
  · rename_i d em
    cases Rm with
    | @sl _ _ d' m' h1 h2 h3 =>
      rw [em] at h2; cases h2
      obtain ⟨w, h4, rm⟩ := A1.rep _ _ _ em
      rw [h1] at h4; cases h4
      have A2 := abs_drop A1 m
      have dj : ∀ b ∈ g0, b ∉ f1 m := fun b hb z => (n b hb).1 ⟨m, _, _, em, rfl, z⟩
      have rr : Reps X.K H1 0 (ds ++ [d]) (vs0 ++ [v]) (g0 ++ f1 m) := rp.append (.one rm) fun _ b hb z => dj b hb z
      have x : Ext H1 (L2.upd H1 p (.lst (vs0 ++ [v]))) [p] := .upd hp
      have pg : p ∉ g0 ++ f1 m := fun z => by
        obtain ⟨o, ho, _⟩ := rr.dom p z
        rw [hp] at ho; cases ho
      have A3 := A2.ext x.same
      have rl : Rep X.K (L2.upd H1 p (.lst (vs0 ++ [v]))) 0 (.lst (ds ++ [d])) (.ref p) (p :: (g0 ++ f1 m)) := .lst upd_same (rr.keep fun b o e _ => x.same b o e) fun _ => pg
      have nn : ∀ b ∈ p :: (g0 ++ f1 m), ¬ L0 (e.set m none) f1 b ∧ ¬ Ro (e.set m none) f1 b := fun b hb => by
        rcases List.mem_cons.mp hb with rfl | hb
        · refine ⟨fun z => ?_, fun z => ?_⟩
          · obtain ⟨o, ho, _⟩ := A2.ldom z
            rw [hp] at ho; cases ho
          · obtain ⟨o, ho, _⟩ := A2.rdom z
            rw [hp] at ho; cases ho
        · rcases List.mem_append.mp hb with hb | hb
          · refine ⟨fun ⟨j, d1, m1, h, hl, z⟩ => (n b hb).1 ⟨j, d1, m1, (drop_get h).1, hl, z⟩, fun ⟨j, d1, m1, h, hl, z⟩ => (n b hb).2 ⟨j, d1, m1, (drop_get h).1, hl, z⟩⟩
          · exact ⟨fun ⟨j, d1, m1, h, hl, z⟩ => A1.dis m j _ _ _ _ (Ne.symm (drop_get h).2) em (drop_get h).1 rfl b hb z, fun ⟨j, d1, m1, h, hl, z⟩ => A1.dis m j _ _ _ _ (Ne.symm (drop_get h).2) em (drop_get h).1 rfl b hb z⟩
      have gg : gN i (.tmp (.lst (ds ++ [d]))) (e.set m none) _ := q
      obtain ⟨env', f', q, A', S', K', _⟩ := gN_ok A3 (.tmp rl nn) gg
      have Sm : Stp H1 e f1 (g0 ++ []) (L2.upd H1 p (.lst (vs0 ++ [v]))) (e.set m none) f1 (p :: (g0 ++ f1 m)) := by
        refine ⟨fun b o hb _ => x.same b o hb, fun b z => ?_⟩
        rcases z with ⟨j, d1, m1, h, hr, z⟩ | z
        · exact .inl ⟨j, d1, m1, (drop_get h).1, hr, z⟩
        · rcases List.mem_cons.mp z with rfl | z
          · exact .inr (.inr hp)
          · rcases List.mem_append.mp z with z | z
            · exact .inr (.inl (List.mem_append_left _ z))
            · exact .inl ⟨m, _, _, em, rfl, z⟩
      have Km : Kq σ e f1 σ (e.set m none) f1 := by
        refine ⟨fun j d1 h => ?_, fun j d1 h => ?_, fun j d1 h => (drop_get h).1⟩
        · have hj : m ≠ j := fun z => by subst z; rw [em] at h; cases h
          exact ⟨rfl, d1, by rw [List.getElem?_set_ne hj]; exact h⟩
        · have hj : m ≠ j := fun z => by subst z; rw [em] at h; cases h
          exact ⟨rfl, by rw [List.getElem?_set_ne hj]; exact h, rfl⟩
      exact q _ _ f' A' ((S1.trans Sm).trans S') ((K1.kq.trans Km).trans K')
  · exact q.elim
end
/-- a new list or tuple of any things, read alone -/
def iSeqR (t : XE) : XI := fun env k => t env fun r e => match r with
  | .tmp (.lst xs) => k xs (some false) none e
  | .tmp (.tup xs) => k xs (some false) none e
  | _ => False
section
variable {X : Cx} {tg e : Expr} {t : XE}
theorem di_seqR (ha : DE X e t) : DI X tg e (iSeqR t) := by
  refine ⟨PI.imp (pi_seqV ha.run) fun σ H R q => ?_, fun env k k' h q => ha.mono _ _ _ (fun r e q => ?_) q⟩
  · obtain ⟨env, f, A, q⟩ := q
    refine ⟨env, f, A, ha.mono _ _ _ (fun r1 e1 q => ?_) q⟩
    intro x H1 f1 g A1 R1 S1 K1
    have S0 : Stp H env f [] H1 e1 f1 [] := S1.drop fun _ z => by simp at z
    split at q
    · rename_i ds
      cases R1 with
      | tmp rp n =>
        obtain ⟨a, vs, g1, rfl, hq, hn, rr, hs⟩ := near_list (rp.up (lv' := 1) (Nat.zero_le _))
        exact ⟨a, vs, rfl, .inl ⟨hq, q _ H1 f1 g e1 A1 S0 K1 .none ((wk_seqL hn rr hs).2 false rfl) (fun b hb => ⟨(rp.dom b hb).imp fun o z => z.1, fun w => (n b hb).1 w.l0⟩) fun _ b hb => (n b hb).1⟩⟩
    · rename_i ds
      cases R1 with
      | tmp rp n =>
        obtain ⟨a, vs, rfl, hq, hn, rr⟩ := near_tup (rp.up (lv' := 1) (Nat.zero_le _))
        exact ⟨a, vs, rfl, .inr ⟨hq, q _ H1 f1 g e1 A1 S0 K1 .none ((wk_seqT hn rr fun b hb => hb).2 false rfl) (fun b hb => ⟨(rp.dom b hb).imp fun o z => z.1, fun w => (n b hb).1 w.l0⟩) fun _ b hb => (n b hb).1⟩⟩
    · exact q.elim
  · split at q
    · exact h _ _ _ _ q
    · exact h _ _ _ _ q
    · exact q.elim
end
end BX

namespace BX
open PySem PySem.Spec PyProof.Rows L2
section
variable {X : Cx} {k : Nat} {ps : List Str} {x : Str} {p pos : Pos} {S : FS}
theorem de_fn0 (F : Fn X.prog X.w X.K X.mg X.base x k ps S) (hr : Room k X.A) (hg : Gl X x) (hdb : (x == ("__debug__" : Str)) = false := by decide) : DE X (.Call (.Name x p) [] [] pos) (dFn S aNil) := by
  obtain ⟨f, fd, hF, hm, hk, hb⟩ := F.ex
  refine ⟨PE.imp (pe_call0 hF hr hg hm hk hb .nil pass0 hdb) fun σ H Q q => ?_, fun env Q Q' h q => ⟨q.1, q.2.1, F.mono _ _ _ (fun d es q => h _ _ q) q.2.2⟩⟩
  obtain ⟨env, f, A, q⟩ := q
  obtain ⟨o1, o2, q⟩ := (q : okArgs S.ms [] env = true ∧ apart S.ms [] = true ∧ rdAll 2 [] env fun ds => S.wp ds fun d ds' => _)
  obtain ⟨ds, fa, l1, l2, Aa, q, back⟩ := fn_args A .nil o1 o2 q
  refine ⟨l2, ds, fa, l1, Aa, F.mono _ _ _ (fun d ds' q => ?_) q⟩
  intro v H' f' g l' A' rv ng S' K'
  obtain ⟨f2, A2, R2, S2, K2⟩ := back v d H' f' g ds' l' A' rv ng S' K'
  exact q v H' f2 g A2 R2 S2 K2
end
theorem fn_imp {P : Program} {w : World} {K : PySem.W.Frag} {mg : Str → Option Value} {base : Heap} {x : Str} {k : Nat} {ps : List Str} {S S' : FS} (F : Fn P w K mg base x k ps S) (hm : S.ms = S'.ms) (hw : ∀ ds Q, S'.wp ds Q → S.wp ds Q) (mo : MonoF S') : Fn P w K mg base x k ps S' := by
  obtain ⟨f, fd, a, b⟩ := F.ex
  refine ⟨⟨f, fd, a.imp fun vs H Q E h => ?_, b⟩, mo⟩
  obtain ⟨h1, ds, f, h2, h3, h4⟩ := h
  unfold spOf
  rw [hm]
  exact ⟨h1, ds, f, h2, h3, hw _ _ h4⟩
end BX

namespace BX
open PySem PySem.Spec PyProof.Rows L2 RT PySem.W
def liftO (K : PySem.W.Frag) (t : XO) : L2.TO := fun σ H Q => ∃ env f, Abs K σ H env f ∧ t env fun o env' => ∀ H' f', Abs K σ H' env' f' → Stp H env f [] H' env' f' [] → Kp env f env' f' → Q o H'
structure DO (X : Cx) (e : Option Expr) (t : XO) : Prop where
  run : PO X e (liftO X.K t)
  mono : MonoOp t
theorem PO.imp {X : Cx} {e : Option Expr} {t u : L2.TO} (h : PO X e t) (k : ∀ σ H Q, u σ H Q → t σ H Q) : PO X e u := ⟨fun pins s σ H Q I q => h.run pins s σ H Q I (k _ _ _ q)⟩
section
variable {X : Cx} {e : Expr} {t : XE} {lo hi : Option Expr} {tl th : XO} {pos p2 : Pos}
theorem do_none : DO X none oNone := ⟨PO.imp po_none fun σ H Q ⟨env, f, A, q⟩ => q H f A .refl .refl, fun env Q Q' h q => h _ _ q⟩
theorem do_some (ha : DE X e t) : DO X (some e) (oSome t) := by
  refine ⟨PO.imp (po_some ha.run) fun σ H Q q => ?_, fun env Q Q' h q => ha.mono _ _ _ (fun r e q => rd_mono (fun d q => intD_mono (fun z q => h _ _ q) q) q) q⟩
  obtain ⟨env, f, A, q⟩ := q
  refine ⟨env, f, A, ha.mono _ _ _ (fun r e1 q => ?_) q⟩
  intro v H1 f1 g1 A1 R1 S1 K1
  obtain ⟨d, g', rp, q⟩ := rd_ok A1 R1 q
  obtain ⟨z, rfl, q⟩ := intD_ex q
  obtain ⟨rfl, _⟩ := rp.intV
  exact ⟨z, rfl, q H1 f1 A1 (S1.drop fun _ z => by simp at z) K1⟩
theorem sliceD_mono {d : D} {l u : Option Int} {k k' : D → Prop} (h : ∀ d, k d → k' d) (q : sliceD d l u k) : sliceD d l u k' := by
  unfold sliceD at q ⊢
  split at q
  · exact ⟨q.1, h _ q.2⟩
  · exact ⟨q.1, h _ q.2⟩
  · exact q.elim
theorem cut_get {α : Type} {xs : List α} {i n j : Nat} {a : α} (h : ((xs.drop i).take n)[j]? = some a) : xs[i + j]? = some a := by
  rw [List.getElem?_take] at h
  split at h
  · rwa [List.getElem?_drop] at h
  · cases h
theorem cut_rep {K : PySem.W.Frag} {H : Hp} {xs : List D} {vs : List V} (r : Reps K H 0 xs vs []) (lo hi : Option Int) : Reps K H 0 (cutD xs lo hi) (cutV vs lo hi) [] := by
  have hl := r.len
  unfold cutD cutV
  rw [hl]
  refine repsI (by simp [hl]) fun j d v h1 h2 => r.nilAt rfl _ d v (cut_get h1) (cut_get h2)
theorem de_slice (ha : DE X e t) (hl : DO X lo tl) (hu : DO X hi th) : DE X (.Subscript e (.Slice lo hi none p2) pos) (dSlice t tl th) := by
  refine ⟨PE.imp (pe_slice (SlR.or sl_list sl_tupA) ha.run hl.run hu.run) fun σ H Q q => ?_, fun env Q Q' h q => ha.mono _ _ _ (fun r e q => hl.mono _ _ _ (fun o e q => hu.mono _ _ _ (fun o e q => rd_mono (fun d q => sliceD_mono (fun d q => h _ _ q) q) q) q) q) q⟩
  obtain ⟨env, f, A, q⟩ := q
  refine ⟨env, f, A, ha.mono _ _ _ (fun r1 e1 q => ?_) q⟩
  intro x H1 f1 g1 A1 R1 S1 K1
  refine ⟨e1, f1, A1, hl.mono _ _ _ (fun l e2 q => ?_) q⟩
  intro H2 f2 A2 S2 K2
  obtain ⟨R2, _⟩ := R1.wait A1 (S2.frame []) K2
  refine ⟨e2, f2, A2, hu.mono _ _ _ (fun u e3 q => ?_) q⟩
  intro H3 f3 A3 S3 K3
  obtain ⟨R3, _⟩ := R2.wait A2 (S3.frame []) K3
  obtain ⟨d, g', rp, q⟩ := rd_ok A3 R3 q
  have S : Stp H env f [] H3 e3 f3 [] := (S1.drop fun _ z => by simp at z).trans (S2.trans S3)
  have Kk := K1.trans (K2.trans K3)
  unfold sliceD at q
  split at q
  · obtain ⟨him, q⟩ := q
    obtain ⟨a, vs, g, rfl, hH, rr, _⟩ := rp.listAt1 (Nat.le_refl _)
    obtain ⟨rfl, r0⟩ := rr.imm (Nat.le_refl _) him
    refine .inl ⟨a, vs, rfl, .inl (.inl hH), fun p hp => ?_⟩
    have rc := cut_rep r0 l u
    have x : Ext H3 (L2.upd H3 p (.lst (cutV vs l u))) [p] := .upd hp
    obtain ⟨A4, R4, S4⟩ := fin_ext (G := []) A3 S x (.lst upd_same (rc.keep fun b o e _ => x.same b o e) (fun _ z => by simp at z))
    exact q _ _ f3 [p] A4 R4 S4 Kk
  · obtain ⟨him, q⟩ := q
    obtain ⟨a, vs, rfl, hH, rr⟩ := rp.tupleAt (Nat.le_refl _)
    obtain ⟨rfl, r0⟩ := rr.imm (Nat.le_refl _) him
    refine .inr ⟨a, vs, rfl, .inl (.inl hH), fun hw => ?_, fun _ p hp => ?_⟩
    · have hl := r0.len
      have e : ∀ xs : List D, xs.length = vs.length → cutD xs l u = xs := fun xs he => by
        unfold cutD
        rw [he, hw.1, hw.2, List.drop_zero, ← he, Nat.sub_zero, List.take_length]
      rw [e _ hl] at q
      exact q _ H3 f3 [] A3 (.tmp (.tup hH r0) no_mem_nil) S Kk
    · have rc := cut_rep r0 l u
      have x : Ext H3 (L2.upd H3 p (.tup (cutV vs l u))) [] := .updT hp
      obtain ⟨A4, R4, S4⟩ := fin_ext (G := []) A3 S x (upd_tup hp rc)
      exact q _ _ f3 [] A4 R4 S4 Kk
  · exact q.elim
end
theorem minOf_int : ∀ (x : Int) (xs : List Int), minOf x xs = xs.foldl min x
  | x, [] => rfl
  | x, y :: xs => by
    show minOf (if DatumOrd.lt y x = true then y else x) xs = xs.foldl min (min x y)
    rw [minOf_int]
    congr 1
    show (if decide (y < x) = true then y else x) = min x y
    by_cases h : y < x <;> simp [h] <;> omega
theorem maxOf_int : ∀ (x : Int) (xs : List Int), maxOf x xs = xs.foldl max x
  | x, [] => rfl
  | x, y :: xs => by
    show maxOf (if DatumOrd.lt x y = true then y else x) xs = xs.foldl max (max x y)
    rw [maxOf_int]
    congr 1
    show (if decide (x < y) = true then y else x) = max x y
    by_cases h : x < y <;> simp [h] <;> omega
theorem hold_ints {h : Heap} : ∀ {ns : List Int} {us : List Value}, Vals (ns.map V.int) us → HoldAll h us ns
  | [], _, .nil => ⟨[], .nil⟩
  | n :: ns, _, .cons r t => by
    obtain ⟨tk, rfl⟩ := r
    obtain ⟨as, ra⟩ := hold_ints (h := h) t
    exact ⟨[] ++ as, .cons (.int n tk) ra⟩
def rMinT (K : PySem.W.Frag) : List V → Hp → VK → Prop := fun vs H Q => ∃ (a : Addr) (x : Int) (ns : List Int), vs = [V.ref a] ∧ SqT K H a ((x :: ns).map V.int) ∧ Q (.int (ns.foldl min x)) H
def rMaxT (K : PySem.W.Frag) : List V → Hp → VK → Prop := fun vs H Q => ∃ (a : Addr) (x : Int) (ns : List Int), vs = [V.ref a] ∧ SqT K H a ((x :: ns).map V.int) ∧ Q (.int (ns.foldl max x)) H
section
variable {X : Cx}
theorem cr_minT (hx : Ok X) : CallR X (.builtin "min") (rMinT X.K) := by
  intro pins s σ H vs us Q I r h
  obtain ⟨a, x, ns, rfl, hs, q⟩ := h
  obtain ⟨its, rv, hl, _⟩ := I.tuple hs
  rw [Vals.ref1 r]
  refine min_tuple_datum (α := Int) (I.ok.hd hx.calm) hl (hold_ints rv) (by have := hx.un; show X.A.units + 1 + 0 < cLine; omega) fun i v h' tk hi hv hk => ?_
  obtain ⟨as, rr⟩ := hv
  rw [minOf_int] at rr
  cases rr with
  | int _ t => exact ⟨.int _, H, I.kept hk, ⟨t, rfl⟩, q⟩
theorem cr_maxT (hx : Ok X) : CallR X (.builtin "max") (rMaxT X.K) := by
  intro pins s σ H vs us Q I r h
  obtain ⟨a, x, ns, rfl, hs, q⟩ := h
  obtain ⟨its, rv, hl, _⟩ := I.tuple hs
  rw [Vals.ref1 r]
  refine max_tuple_datum (α := Int) (I.ok.hd hx.calm) hl (hold_ints rv) (by have := hx.un; show X.A.units + 1 + 0 < cLine; omega) fun i v h' tk hi hv hk => ?_
  obtain ⟨as, rr⟩ := hv
  rw [maxOf_int] at rr
  cases rr with
  | int _ t => exact ⟨.int _, H, I.kept hk, ⟨t, rfl⟩, q⟩
/-- of a list or a tuple -/
def bMinS (d : D) (k : D → Prop) : Prop := match d with
  | .lst xs => bMinL (.lst xs) k
  | .tup xs => match intL xs with
    | some (n :: ns) => k (.int (ns.foldl min n))
    | _ => False
  | _ => False
def bMaxS (d : D) (k : D → Prop) : Prop := match d with
  | .lst xs => bMaxL (.lst xs) k
  | .tup xs => match intL xs with
    | some (n :: ns) => k (.int (ns.foldl max n))
    | _ => False
  | _ => False
theorem cd_minS (hx : Ok X) : CallD X (.builtin "min") 2 (op1 bMinS) := call1 (by decide) (fun pins s σ H x us Q d g I rs r q => by
  unfold bMinS at q
  split at q
  · have c := cd_minL hx
    exact c.run pins s σ H _ us Q I rs ⟨[_], g ++ [], .cons r .nil (fun _ _ _ z => by simp at z), q⟩
  · split at q
    · rename_i xs _ n ns e
      obtain ⟨a, vs, rfl, ha, rr⟩ := r.tupleSq
      have e2 := rr.intL e
      subst e2
      exact cr_minT hx pins s σ H _ us Q I rs ⟨a, n, ns, rfl, ha, q _ H [] (.int _) ⟨fun b o h => h, fun b hb => by simp at hb⟩⟩
    · exact q.elim
  · exact q.elim) (fun d k k' h q => by
  unfold bMinS at q ⊢
  split at q
  · rename_i xs
    have m := (cd_minL hx).mono [.lst xs] k k' h
    exact m q
  · split at q
    · first
        | exact h _ q
        | (simp only [*]; exact h _ q)
    · exact q.elim
  · exact q.elim)
theorem cd_maxS (hx : Ok X) : CallD X (.builtin "max") 2 (op1 bMaxS) := call1 (by decide) (fun pins s σ H x us Q d g I rs r q => by
  unfold bMaxS at q
  split at q
  · have c := cd_maxL hx
    exact c.run pins s σ H _ us Q I rs ⟨[_], g ++ [], .cons r .nil (fun _ _ _ z => by simp at z), q⟩
  · split at q
    · rename_i xs _ n ns e
      obtain ⟨a, vs, rfl, ha, rr⟩ := r.tupleSq
      have e2 := rr.intL e
      subst e2
      exact cr_maxT hx pins s σ H _ us Q I rs ⟨a, n, ns, rfl, ha, q _ H [] (.int _) ⟨fun b o h => h, fun b hb => by simp at hb⟩⟩
    · exact q.elim
  · exact q.elim) (fun d k k' h q => by
  unfold bMaxS at q ⊢
  split at q
  · rename_i xs
    have m := (cd_maxL hx).mono [.lst xs] k k' h
    exact m q
  · split at q
    · first
        | exact h _ q
        | (simp only [*]; exact h _ q)
    · exact q.elim
  · exact q.elim)
end
end BX

namespace BX
open PySem PySem.Spec PyProof.Rows L2 RT L2.DX
def tFrz (t : TS) : TS := fun Dn σ H => ∃ d u, H d = some u ∧ Mut (some u) ∧ ∀ od, t Dn σ (L2.upd H d (.frz od u))
theorem ps_frz {X : Cx} {st : Stmt} {t : TS} (h : PS X st t) : PS X st (tFrz t) := ⟨fun pins s σ H Dn I ⟨d, u, hd, mu, hw⟩ => by
  obtain ⟨od, I1⟩ := I.lock hd mu
  exact h.run pins s σ _ Dn I1 (hw od)⟩
/-- a ghost's step ahead of a statement: the own dict in slot i is frozen -/
def sFrz (i : Nat) (t : XS) : XS := fun env nx rt => match env[i]? with
  | some (some (.dT kvs, .own)) => immL (kvs.map (·.2)) = true ∧ t (env.set i (some (.dF kvs, .own))) nx rt
  | _ => False
def kD : Key → D
  | .inl i => .int i
  | .inr s => .str s
def keysD (kvs : List (List Key × D)) : List D := kvs.map fun p => .tup (p.1.map kD)
section
variable {K : PySem.W.Frag} {σ : L2.St} {H : Hp} {env : En} {f : FA}
theorem frz_abs {i : Nat} {kvs : List (List Key × D)} (A : Abs K σ H env f) (e : env[i]? = some (some (.dT kvs, .own))) (im : immL (kvs.map (·.2)) = true) :
    ∃ a hs, H a = some (.dT hs) ∧ ∀ od, Abs K σ (L2.upd H a (.frz od (.dT hs))) (env.set i (some (.dF kvs, .own))) (fset f i []) ∧
      Stp H env f [] (L2.upd H a (.frz od (.dT hs))) (env.set i (some (.dF kvs, .own))) (fset f i []) [] ∧ Kq σ env f σ (env.set i (some (.dF kvs, .own))) (fset f i []) := by
  obtain ⟨v, hv, rp⟩ := A.rep _ _ _ e
  obtain ⟨a, hs, g, rfl, ha, ek, nd, rr, hf, nz⟩ := rp.dTAt (by decide)
  obtain ⟨rfl, r0⟩ := rr.imm (Nat.zero_le _) im
  have hi : i < env.length := (List.getElem?_eq_some_iff.mp e).1
  have ai : a ∈ f i := by rw [hf]; exact List.mem_cons_self ..
  have get : ∀ {j : Nat} {d : D} {m : Md}, j ≠ i → (env.set i (some (.dF kvs, .own)))[j]? = some (some (d, m)) → env[j]? = some (some (d, m)) := fun {j d m} hj h => by rwa [env_ne hj] at h
  have tk : ∀ (od : Obj) (b : Addr) (o : HO), b ≠ a → H b = some o → L2.upd H a (.frz od (.dT hs)) b = some o := fun od b o hb h => by rw [upd_ne hb]; exact h
  have im0 : ∀ (od : Obj), Reps K (L2.upd H a (.frz od (.dT hs))) 0 (kvs.map (·.2)) (hs.map (·.2)) [] := fun od => r0.keep fun b o h z => tk od b o (fun y => by
    rcases z with z | z
    · simp at z
    · rw [y, ha] at h; cases h; cases z) h
  refine ⟨a, hs, ha, fun od => ⟨⟨fun j d m h => ?_, fun j k d m d' m' hjk h1 h2 hl b hb => ?_, by rw [List.length_set]; exact A.len⟩, ⟨fun b o h z => ?_, fun b z => ?_⟩, ⟨fun j d h => ?_, fun j d h => ?_, fun j d h => ?_⟩⟩⟩
  · by_cases hj : j = i
    · subst hj
      rw [env_at hi] at h; cases h
      exact ⟨_, hv, by rw [fset_at]; exact .dF upd_same ek nd (im0 od)⟩
    · obtain ⟨w, h1, r1⟩ := A.rep _ _ _ (get hj h)
      refine ⟨w, h1, ?_⟩
      rw [fset_ne hj]
      refine r1.keep fun b o hb z => tk od b o (fun y => ?_) hb
      rcases z with z | z
      · subst y
        exact A.dis i j _ _ _ _ (Ne.symm hj) e (get hj h) rfl b ai z
      · rw [y, ha] at hb; cases hb; cases z
  · by_cases hj : j = i
    · subst hj
      rw [fset_at] at hb; simp at hb
    · rw [fset_ne hj] at hb
      by_cases hk : k = i
      · subst hk
        rw [fset_at]; simp
      · rw [fset_ne hk]
        exact A.dis j k _ _ _ _ hjk (get hj h1) (get hk h2) hl b hb
  · refine tk od b o (fun y => ?_) h
    rcases z with z | z
    · rw [y, ha] at h; cases h; cases z
    · exact z.1 ⟨i, _, _, e, rfl, by rw [y]; exact ai⟩
  · rcases z with ⟨j, d, m, h, hr, hb⟩ | z
    · by_cases hj : j = i
      · subst hj
        rw [fset_at] at hb; simp at hb
      · rw [fset_ne hj] at hb
        exact .inl ⟨j, d, m, get hj h, hr, hb⟩
    · simp at z
  · have hj : j ≠ i := fun z => by subst z; rw [e] at h; cases h
    exact ⟨rfl, d, by rw [env_ne hj]; exact h⟩
  · have hj : j ≠ i := fun z => by subst z; rw [e] at h; cases h
    exact ⟨rfl, by rw [env_ne hj]; exact h, fset_ne hj⟩
  · by_cases hj : j = i
    · subst hj
      rw [env_at hi] at h; cases h
    · exact get hj h
end
section
variable {X : Cx}
theorem ds_frz {i : Nat} {st : Stmt} {t : XS} (h : DS X st t) : DS X st (sFrz i t) := by
  refine ⟨PS.imp (ps_frz h.run) fun Dn σ H q => ?_, fun env nx nx' rt rt' h1 h2 q => ?_⟩
  · obtain ⟨env, f, A, q⟩ := q
    unfold sFrz at q
    split at q
    · rename_i kvs e
      obtain ⟨a, hs, ha, w⟩ := frz_abs A e q.1
      refine ⟨a, _, ha, True.intro, fun od => ?_⟩
      obtain ⟨A2, S2, K2⟩ := w od
      refine ⟨_, _, A2, h.mono _ _ _ _ _ (fun e2 q σ' H' f' A' S' K' => q σ' H' f' A' (S2.trans S') (K2.trans K')) (fun d e2 q => ?_) q.2⟩
      intro v σ' H' f' g A' r n S' K'
      exact q v σ' H' f' g A' r n (S2.trans S') (K2.trans K')
    · exact q.elim
  · unfold sFrz at q ⊢
    split at q
    · rename_i kvs e
      exact ⟨q.1, h.mono _ _ _ _ _ h1 h2 q.2⟩
    · exact q.elim
/-- the keys of a frozen dict -/
def iKs (i : Nat) : XI := fun env k => match env[i]? with
  | some (some (.dF kvs, _)) => k (keysD kvs) none none env
  | _ => False
theorem key_rep {K : PySem.W.Frag} {H : Hp} : ∀ ks : List Key, Reps K H 0 (ks.map kD) (ks.map kV) []
  | [] => .nil
  | .inl i :: ks => .cons (f := []) (g := []) (.int i) (key_rep ks) fun _ _ z => by cases z
  | .inr s :: ks => .cons (f := []) (g := []) (.str s) (key_rep ks) fun _ _ z => by cases z
theorem wk_keysT {K : PySem.W.Frag} {H1 : Hp} {P : List Addr} {a : Addr} {o : Obj} {hs : List (List Key × V)} {kvs : List (List Key × D)} (ha : H1 a = some (.frz o (.dT hs))) (ek : hs.map (·.1) = kvs.map (·.1)) :
    Wk K (Itkt a o hs) (keysD kvs) none H1 P := by
  have hl : hs.length = kvs.length := by have := congrArg List.length ek; simpa using this
  have hn : ∀ H, Near H1 P H → H a = some (.frz o (.dT hs)) := fun H n => n a _ ha (.inr rfl)
  refine ⟨fun i H n h => ⟨hn H n, by rw [hl]; simpa [keysD] using h⟩, fun i H n h => ⟨hn H n, by rw [hl]; simpa [keysD] using h⟩, fun i H x H' d n e y => ?_⟩
  obtain ⟨rfl, k, v, q, e1, rfl, hq⟩ := y
  refine ⟨fun b o h => h, ?_⟩
  have e2 : (kvs.map (·.1))[i]? = some k := by rw [← ek, List.getElem?_map, e1]; rfl
  rw [List.getElem?_map] at e2
  unfold keysD at e
  rw [List.getElem?_map] at e
  cases h : kvs[i]? with
  | none => rw [h] at e; cases e
  | some p =>
    rw [h] at e e2
    cases e
    have e3 : p.1 = k := Option.some.inj e2
    subst e3
    exact .tup hq (key_rep _)
theorem di_keys (i : Nat) {tg : Expr} {x : Str} {pos : Pos} (hN : X.N[i]? = some x := by rfl) (hv : Vis X.env.scope x := by first | exact Or.inl rfl | exact Or.inr (Or.inl rfl) | exact Or.inr (Or.inr rfl)) (hd : (x == ("__debug__" : Str)) = false := by decide)
    (hcd : (x == ("__classdict__" : Str)) = false := by decide) : DI X tg (.Name x pos) (iKs i) := by
  refine ⟨PI.imp (pi_keys (pe_var hN hv hd hcd)) fun σ H R q => ?_, fun env k k' h q => ?_⟩
  · obtain ⟨env, f, A, q⟩ := q
    unfold iKs at q
    split at q
    · rename_i kvs m e
      obtain ⟨v, h1, rp⟩ := A.rep _ _ _ e
      refine ⟨v, h1, ?_⟩
      obtain ⟨g, hg⟩ : ∃ g, g = f i := ⟨_, rfl⟩
      rw [← hg] at rp
      cases rp with
      | @dF a o hs _ ha ek nd rr =>
        exact ⟨a, o, rfl, .inr ⟨hs, ha, q _ H f [] env A .refl .refl .none (wk_keysT ha ek) (fun b hb => by simp at hb) (fun z => nomatch z)⟩⟩
    · exact q.elim
  · unfold iKs at q ⊢
    split at q
    · rename_i kvs m e
      exact h _ _ _ _ q
    · exact q.elim
end
end BX

namespace BX
open PySem PySem.Spec PyProof.Rows L2 RT L2.DX
def sApM (i m : Nat) (u : XA) : XS := fun env nx _ => dVar i env fun r1 e1 => r1 = .sl i ∧ (rd 2 r1 e1 fun d => d.isLst = true) ∧ u e1 fun rs e => i ≠ m ∧ rs.length ≤ 1000 ∧ ∃ rs0, rs = .sl m :: rs0 ∧ storL rs0 e fun ds => match e[m]? with
  | some (some (d, .own)) => bAppend (.sl i) (.tmp (.tup (d :: ds))) (e.set m none) fun _ e3 => nx e3
  | _ => False
section
variable {K : PySem.W.Frag} {σ : L2.St} {H : Hp} {env : En} {f : FA} {g0 : List Addr} {m : Nat} {d : D}
/-- an own slot is given away: what it held is free -/
theorem give_ok (A : Abs K σ H env f) (em : env[m]? = some (some (d, .own))) (n : ∀ b ∈ g0, ¬ L0 env f b ∧ ¬ Ro env f b) :
    Abs K σ H (env.set m none) f ∧ (∀ b ∈ f m ++ g0, ¬ L0 (env.set m none) f b ∧ ¬ Ro (env.set m none) f b) ∧ Stp H env f g0 H (env.set m none) f (f m ++ g0) ∧ Kq σ env f σ (env.set m none) f := by
  refine ⟨abs_drop A m, fun b hb => ?_, ⟨fun b o hb _ => hb, fun b z => ?_⟩, ⟨fun j d1 h => ?_, fun j d1 h => ?_, fun j d1 h => (drop_get h).1⟩⟩
  · rcases List.mem_append.mp hb with hb | hb
    · exact ⟨fun ⟨j, d1, m1, h, hl, z⟩ => A.dis m j _ _ _ _ (Ne.symm (drop_get h).2) em (drop_get h).1 rfl b hb z, fun ⟨j, d1, m1, h, hl, z⟩ => A.dis m j _ _ _ _ (Ne.symm (drop_get h).2) em (drop_get h).1 rfl b hb z⟩
    · exact ⟨fun ⟨j, d1, m1, h, hl, z⟩ => (n b hb).1 ⟨j, d1, m1, (drop_get h).1, hl, z⟩, fun ⟨j, d1, m1, h, hl, z⟩ => (n b hb).2 ⟨j, d1, m1, (drop_get h).1, hl, z⟩⟩
  · rcases z with ⟨j, d1, m1, h, hr, z⟩ | z
    · exact .inl ⟨j, d1, m1, (drop_get h).1, hr, z⟩
    · rcases List.mem_append.mp z with z | z
      · exact .inl ⟨m, _, _, em, rfl, z⟩
      · exact .inr (.inl z)
  · have hj : m ≠ j := fun z => by subst z; rw [em] at h; cases h
    exact ⟨rfl, d1, by rw [List.getElem?_set_ne hj]; exact h⟩
  · have hj : m ≠ j := fun z => by subst z; rw [em] at h; cases h
    exact ⟨rfl, by rw [List.getElem?_set_ne hj]; exact h, rfl⟩
end
section
variable {X : Cx}
theorem ds_appM (i m : Nat) {x : Str} {es : List Expr} {x1 : Nat} {u : XA} {p apos p2 cpos pos : Pos} (ha : DA X es u) (hN : X.N[i]? = some x := by rfl) (hv : Vis X.env.scope x := by first | exact Or.inl rfl | exact Or.inr (Or.inl rfl) | exact Or.inr (Or.inr rfl)) (hd : (x == ("__debug__" : Str)) = false := by decide)
    (hcd : (x == ("__classdict__" : Str)) = false := by decide) (hbase : attributeBase (.Name x p) "append" X.env (eval (.Name x p) X.env) = eval (.Name x p) X.env := by rfl)
    (hfew : ((backTo cpos (starEach [.Tuple es x1 p2] X.env)).all (fun x => !x.1) && (backToKw cpos (keywordEach [] X.env)).all (fun x => x.1.isSome)
      && decide (([.Tuple es x1 p2] : List Expr).length + ([] : List Keyword).length + (if ([] : List Keyword).isEmpty then 0 else 1) < 30)) = true := by rfl)
    (hline : (apos.endLine == cpos.line) = true := by rfl) (hs : starEach [.Tuple es x1 p2] X.env = (false, eval (.Tuple es x1 p2) X.env) :: starEach [] X.env := by rfl) (hplain : (backTo cpos (starEach [] X.env)).any (·.1) = false := by rfl)
    (hsw : swapsWith (.Call (.Attribute (.Name x p) "append" apos) [.Tuple es x1 p2] [] cpos) none pos.line X.env = pure false := by rfl) :
    DS X (.Expr (.Call (.Attribute (.Name x p) "append" apos) [.Tuple es x1 p2] [] cpos) pos) (sApM i m u) := by
  have dv : DE X (.Name x p) (dVar i) := de_var i hN hv hd hcd
  refine ⟨PS.imp (ps_expr (pe_bm PySem.F.plainAttrs_list PySem.F.slot_list_append PySem.F.type_list_append mt_append dv.run (pa_cons (pe_tup ha.run) pa_nil hs) hbase hfew hline hs hplain) hsw) fun Dn σ H q => ?_, fun env nx nx' rt rt' h h' q => ?_⟩
  · obtain ⟨env, f, A, q⟩ := q
    refine ⟨env, f, A, dv.mono _ _ _ (fun r1 e1 q => ?_) q⟩
    intro xv H1 f1 g1 A1 R1 S1 K1
    obtain ⟨rfl, ql, q⟩ := q
    obtain ⟨d0, g00, rp0, B0⟩ := rd_ok A1 R1 ql
    refine ⟨ty_lst _ _ _ _ rp0 B0, e1, f1, A1, ha.mono _ _ _ (fun rs e q => ?_) q⟩
    intro vs H2 f2 gs A2 R2 S2 K2
    obtain ⟨him, hlen, rs0, rfl, q⟩ := q
    refine ⟨by rw [← R2.len]; exact line1000 hlen, fun p hp => ?_⟩
    obtain ⟨R1', _⟩ := R1.wait A1 S2 K2
    cases R1 with
    | sl _ _ _ =>
    cases R2 with
    | @cons _ vm gm _ vs0 gs0 Rm R0 nd =>
      obtain ⟨ds, rp, q, n⟩ := storL_ok A2 R0 q
      split at q
      · rename_i d em
        cases Rm with
        | @sl _ _ d' m' h1 h2 h3 =>
          rw [em] at h2; cases h2
          obtain ⟨w, h4, rm⟩ := A2.rep _ _ _ em
          rw [h1] at h4; cases h4
          have x : Ext H2 (L2.upd H2 p (.tup (vm :: vs0))) [] := .updT hp
          have A3 := A2.ext x.same
          obtain ⟨A4, n4, S4, K4⟩ := give_ok (g0 := gs0) A3 em n
          have dj : ∀ b ∈ f2 m, b ∉ gs0 := fun b hb z => (n b z).1 ⟨m, _, _, em, rfl, hb⟩
          have rt : Rep X.K (L2.upd H2 p (.tup (vm :: vs0))) 0 (.tup (d :: ds)) (.ref p) (f2 m ++ gs0) := upd_tup hp (.cons rm rp fun _ => dj)
          have R1'' : ResOk X.K σ (L2.upd H2 p (.tup (vm :: vs0))) (e.set m none) f2 (.sl i) xv [] := by
            cases R1' with
            | sl k1 k2 k3 => exact .sl k1 (by rw [List.getElem?_set_ne (Ne.symm him)]; exact k2) k3
          show rAppend xv [V.ref p] _ (fun _ H1 => Dn.nx σ H1)
          refine m_append.run σ _ (e.set m none) f2 (.sl i) (.tmp (.tup (d :: ds))) _ _ [] (f2 m ++ gs0) _ _ A4 R1'' (.tmp rt n4) (fun b hb => by simp at hb) q fun v H' e' f' r' g' A' R' S' K' q => ?_
          exact q σ H' f' A' (((((S1.trans S2).ext x.same).trans S4).trans S').drop fun _ z => by simp at z) (((K1.trans K2).kq.trans K4).trans K'.kq)
      · exact q.elim
  · refine dv.mono _ _ _ (fun r1 e1 q => ⟨q.1, q.2.1, ha.mono _ _ _ (fun rs e q => ?_) q.2.2⟩) q
    obtain ⟨h1, h2, rs0, h3, q⟩ := q
    refine ⟨h1, h2, rs0, h3, storL_mono (fun ds q => ?_) q⟩
    split at q
    · exact (m_append (X := X)).mono _ _ _ _ _ (fun r e q => h _ q) q
    · exact q.elim
end
end BX

namespace BX
open PySem PySem.Spec PyProof.Rows L2 RT L2.DX
def enumD (ds : List D) : List D := ds.mapIdx fun i d => .tup [.int (i : Nat), d]
def iEnumD (t : XE) : XI := fun env k => t env fun r e => rd 2 r e fun d => match d with
  | .lst xs => lockOf r e (fun kd lk e1 => k (enumD xs) kd lk e1) (immL xs)
  | _ => False
section
variable {K : PySem.W.Frag} {H1 : Hp} {ds : List D}
theorem wk_enumL {lv : Nat} {a : Addr} {vs : List V} {gg P : List Addr} (hq : ∀ H, Near H1 P H → SqL K H a vs) (rr : Reps K H1 lv ds vs gg) (hg : ∀ b ∈ gg, b ∈ P) :
    (immL ds = true → lv ≤ 1 → Wk K (Ite K a) (enumD ds) none H1 P) ∧ ∀ c, lv = clv c → Wk K (Ite K a) (enumD ds) (some c) H1 P := by
  have el : (enumD ds).length = vs.length := by rw [← rr.len]; simp [enumD]
  have it : ∀ (i : Nat) (H : Hp) (x : V) (H' : Hp) (d : D), Near H1 P H → (enumD ds)[i]? = some d → (Ite K a).yld i H x H' → (∀ b o, H b = some o → H' b = some o) ∧ (∃ d0, d0 ∈ ds ∧ d = .tup [.int (i : Nat), d0]) ∧ ∃ g, Rep K H' lv d x g ∧ ∀ b ∈ g, b ∈ P := fun i H x H' d n e y => by
    obtain ⟨T, x0, rfl, hT, rfl, hx⟩ := y
    unfold enumD at e
    rw [List.getElem?_mapIdx] at e
    cases h : ds[i]? with
    | none => rw [h] at e; cases e
    | some d0 =>
      rw [h] at e
      cases e
      obtain ⟨v, g, e1, r, hs⟩ := rr.get h
      have := hx vs (hq _ n)
      rw [e1] at this; cases this
      have ex : Ext H (L2.upd H T (.tup [.int (i : Nat), x0])) [T] := .upd hT
      have r2 : Rep K (L2.upd H T (.tup [.int (i : Nat), x0])) lv d0 x0 g := (near_rep r n fun b hb => hg b (hs b hb)).keep fun b o e _ => ex.same b o e
      refine ⟨ex.same, ⟨d0, List.mem_of_getElem? h, rfl⟩, g, ?_, fun b hb => hg b (hs b hb)⟩
      have r3 : Reps K (L2.upd H T (.tup [.int (i : Nat), x0])) lv [.int (i : Nat), d0] [.int (i : Nat), x0] ([] ++ (g ++ [])) := .cons (.int _) (.cons r2 .nil fun _ b _ z => by cases z) fun _ b z => by cases z
      rw [List.nil_append, List.append_nil] at r3
      exact .tup upd_same r3
  have go : ∀ (i : Nat) (H : Hp), Near H1 P H → i < (enumD ds).length → (Ite K a).go i H := fun i H n h => ⟨vs, vs[i]'(by rw [← el]; exact h), hq H n, List.getElem?_eq_getElem _⟩
  have st : ∀ (i : Nat) (H : Hp), Near H1 P H → (enumD ds).length ≤ i → (Ite K a).stop i H := fun i H n h => ⟨vs, hq H n, by rw [← el]; exact h⟩
  refine ⟨fun im l => ⟨go, st, fun i H x H' d n e y => ?_⟩, fun c hc => ⟨go, st, fun i H x H' d n e y => ?_⟩⟩
  · obtain ⟨sm, ⟨d0, h0, rfl⟩, g, r, hs⟩ := it i H x H' d n e y
    refine ⟨sm, (item_of r hs).1 l ?_⟩
    rw [D.imm, immL, immL, immL, D.imm, immL_mem im d0 h0]; rfl
  · obtain ⟨sm, _, g, r, hs⟩ := it i H x H' d n e y
    exact ⟨sm, (item_of r hs).2 c hc⟩
end
section
variable {X : Cx} {e : Expr} {t : XE} {p pos tpos : Pos} {elts : List Expr} {kk : Nat}
theorem di_enum (ha : DE X e t) (hm : X.mg "enumerate" = none) (hg : Gl X "enumerate" := by rfl) (hs : starEach [e] X.env = [(false, eval e X.env)] := by rfl) : DI X (.Tuple elts kk tpos) (.Call (.Name "enumerate" p) [e] [] pos) (iEnumD t) := by
  refine ⟨PI.imp (pi_enum hg hm (pa_cons ha.run pa_nil hs) hs) fun σ H R q => ?_, fun env k k' h q => ha.mono _ _ _ (fun r e q => rd_mono (fun d q => ?_) q) q⟩
  · obtain ⟨env, f, A, q⟩ := q
    refine ⟨env, f, A, ha.mono _ _ _ (fun r1 e1 q => ?_) q⟩
    intro x H1 f1 g A1 R1 S1 K1
    obtain ⟨d, dd, q⟩ := rd_data q
    have rp0 : ∃ gg, Rep X.K H1 2 d x gg := by
      obtain ⟨d', gg, rp, hd⟩ := rd_ok (L := 2) (k := fun d' => d' = d) A1 R1 (by unfold rd; rw [dd])
      subst hd
      exact ⟨gg, rp⟩
    obtain ⟨gg0, rp0⟩ := rp0
    cases d with
    | lst ds =>
      obtain ⟨a, vs, g1, rfl, hq, hn, rr, hs⟩ := near_list rp0
      refine ⟨a, vs, rfl, hq, lock_ok A1 S1 K1 R1 (immL ds) q (fun lv gg z => ?_) dd⟩
      obtain ⟨a', vs', g2, e1, hq', hn', rr', hs'⟩ := near_list z
      cases e1
      exact wk_enumL hn' rr' hs'
    | _ => exact q.elim
  · cases d with
    | lst ds => exact lockOf_mono (fun kd lk e q => h _ _ _ _ q) q
    | _ => exact q.elim
end
end BX

namespace BX
open PySem PySem.Spec PyProof.Rows L2 RT L2.DX
def idxOf (d1 d2 : D) (k : D → Prop) : Prop := match d1 with
  | .lst xs => (eqOk (.lst xs) = true ∧ eqOk d2 = true) ∧ ∃ (j : Nat) (z : D), xs[j]? = some z ∧ deq z d2 = true ∧ (∀ (m : Nat) (z' : D), m < j → xs[m]? = some z' → deq z' d2 = false) ∧ k (.int (j : Nat))
  | _ => False
def bIdxOf : Bn := fun r1 rs e Q => match rs with
  | [r2] => rd 1 r1 e fun d1 => rd 1 r2 e fun d2 => idxOf d1 d2 fun d => Q (.tmp d) e
  | _ => False
theorem idxOf_mono {d1 d2 : D} {k k' : D → Prop} (h : ∀ d, k d → k' d) (q : idxOf d1 d2 k) : idxOf d1 d2 k' := by
  unfold idxOf at q ⊢
  split at q
  · obtain ⟨a, j, z, b, c, d, q⟩ := q
    exact ⟨a, j, z, b, c, d, h _ q⟩
  · exact q.elim
section
variable {X : Cx}
theorem m_index : MnOk X "list" D.isLst (rIndexD X.K) bIdxOf where
  ty := fun H d x g r e => ty_lst H d x g (r.up (by omega)) e
  mono := fun r1 rs e Q Q' h q => by
    unfold bIdxOf at q ⊢
    split at q
    · exact rd_mono (fun d1 q => rd_mono (fun d2 q => idxOf_mono (fun d q => h _ _ q) q) q) q
    · exact q.elim
  run := fun σ H e f r1 rs x ys g1 gs QQ Q A R1 R2 n q k => by
    unfold bIdxOf at q
    split at q
    · cases R2 with
      | cons R2 Rt _ =>
        cases Rt
        obtain ⟨d1, g1', p1, q⟩ := rd_ok A R1 q
        obtain ⟨d2, g2', p2, q⟩ := rd_ok A R2 q
        cases d1 with
        | lst xs =>
          obtain ⟨⟨e1, e2⟩, j, z, hz, hj, hno, q⟩ := q
          obtain ⟨a, vs, g, rfl, _⟩ := p1.listSq
          have l1 := (p1.eqd e1).1
          have s1 := (p1.eqd e1).2
          have py : (D.lst xs).py = .list (xs.map D.py) := by rw [D.py, pyL_map]
          rw [py] at l1 s1
          refine ⟨a, _, _, _, j, _, rfl, rfl, l1, (p2.eqd e2).1, s1, e2, by rw [List.getElem?_map, hz]; rfl, hj, fun m z' hm he => ?_, k _ _ _ _ _ [] A (.tmp (.int _) no_mem_nil) stp_drop .refl q⟩
          rw [List.getElem?_map] at he
          cases h : xs[m]? with
          | none => rw [h] at he; cases he
          | some z2 =>
            rw [h] at he
            cases he
            exact hno m z2 hm h
        | _ => exact q.elim
    · exact q.elim
variable {o e : Expr} {es : List Expr} {ta : XE} {u : XA} {cpos apos : Pos}
theorem de_index (hx : Ok X) (ho : DE X o ta) (ha : DA X (e :: es) u) (hbase : attributeBase o "index" X.env (eval o X.env) = eval o X.env := by rfl)
    (hfew : ((backTo cpos (starEach (e :: es) X.env)).all (fun x => !x.1) && (backToKw cpos (keywordEach [] X.env)).all (fun x => x.1.isSome)
      && decide ((e :: es).length + ([] : List Keyword).length + (if ([] : List Keyword).isEmpty then 0 else 1) < 30)) = true := by rfl)
    (hline : (apos.endLine == cpos.line) = true := by rfl) (hs : starEach (e :: es) X.env = (false, eval e X.env) :: starEach es X.env := by rfl) (hplain : (backTo cpos (starEach es X.env)).any (·.1) = false := by rfl) :
    DE X (.Call (.Attribute o "index" apos) (e :: es) [] cpos) (dMn D.isLst bIdxOf ta u) :=
  de_mn m_index PySem.F.plainAttrs_list PySem.F.slot_list_index PySem.F.type_list_index (mt_indexD (by have := hx.un; omega)) ho ha hbase hfew hline hs hplain
end
end BX

namespace BX
open PySem PySem.Spec PyProof.Rows L2
mutual
def D.pd : D → PyData
  | .non => .none
  | .bl b => .bool b
  | .int i => .int i
  | .str x => .str x
  | .tup xs => .tuple (pdL xs)
  | .lst xs => .list (pdL xs)
  | .dT _ => .none
  | .dK _ => .none
  | .dF _ => .none
def pdL : List D → List PyData
  | [] => []
  | d :: ds => d.pd :: pdL ds
end
mutual
/-- no dict within -/
def D.ndc : D → Bool
  | .non => true
  | .bl _ => true
  | .int _ => true
  | .str _ => true
  | .tup xs => ndcL xs
  | .lst xs => ndcL xs
  | .dT _ => false
  | .dK _ => false
  | .dF _ => false
def ndcL : List D → Bool
  | [] => true
  | d :: ds => d.ndc && ndcL ds
end
mutual
theorem pd_noDict : ∀ d : D, d.pd.hasDict = false
  | .non => by rw [D.pd]; rfl
  | .bl _ => by rw [D.pd]; rfl
  | .int _ => by rw [D.pd]; rfl
  | .str _ => by rw [D.pd]; rfl
  | .tup xs => by rw [D.pd]; exact pdL_noDict xs
  | .lst xs => by rw [D.pd]; exact pdL_noDict xs
  | .dT _ => by rw [D.pd]; rfl
  | .dK _ => by rw [D.pd]; rfl
  | .dF _ => by rw [D.pd]; rfl
theorem pdL_noDict : ∀ ds : List D, PyData.hasDictAll (pdL ds) = false
  | [] => by rw [pdL]; rfl
  | d :: ds => by rw [pdL]; show (d.pd.hasDict || _) = false; rw [pd_noDict d, pdL_noDict ds]; rfl
end
section
variable {X : Cx} {pins : List (Addr × Obj)} {σ : L2.St} {H : Hp} {s : Shared} {lv : Nat}
mutual
theorem Rep.reads (I : Inv X pins σ H s) : ∀ {d : D} {v : V} {f : List Addr} {u : Value}, Rep X.K H lv d v f → d.ndc = true → RelV v u → ∃ as, Reads s.heap u d.pd as
  | _, _, _, u, .non, _, r => by obtain rfl : u = .none := r; rw [D.pd]; exact ⟨_, .none⟩
  | _, _, _, u, .bl b, _, r => by obtain rfl : u = .bool b := r; rw [D.pd]; exact ⟨_, .bool b⟩
  | _, _, _, u, .int i, _, r => by obtain ⟨t, rfl⟩ : ∃ t, u = .int i t := r; rw [D.pd]; exact ⟨_, .int i t⟩
  | _, _, _, u, .str x, _, r => by obtain ⟨t, rfl⟩ : ∃ t, u = .str x t := r; rw [D.pd]; exact ⟨_, .str x t⟩
  | _, _, _, u, @Rep.tup _ _ _ a vs ds f h t, n, r => by
    obtain rfl : u = .ref a := r
    obtain ⟨its, rv, ⟨o, ho, hc, m, hd⟩, _⟩ := I.tuple (SqT.of h)
    rw [D.ndc] at n
    obtain ⟨as, ra⟩ := Reps.reads I t n rv
    rw [D.pd]
    exact ⟨as, .tuple ho hc hd (by simpa using ra)⟩
  | _, _, _, u, @Rep.tupK _ _ _ a vs ds f l h t, n, r => by
    obtain rfl : u = .ref a := r
    obtain ⟨its, rv, ⟨o, ho, hc, m, hd⟩, _⟩ := I.tuple h.sq
    rw [D.ndc] at n
    obtain ⟨as, ra⟩ := Reps.reads I t n rv
    rw [D.pd]
    exact ⟨as, .tuple ho hc hd (by simpa using ra)⟩
  | _, _, _, u, @Rep.lst _ _ _ a vs ds f h t m, n, r => by
    obtain rfl : u = .ref a := r
    obtain ⟨its, rv, ⟨o, m, ho, hc, _, hd⟩, _⟩ := I.list (SqL.of h)
    rw [D.ndc] at n
    obtain ⟨as, ra⟩ := Reps.reads I t n rv
    rw [D.pd]
    exact ⟨_, .list ho hc hd (by simpa using ra)⟩
  | _, _, _, u, @Rep.lstF _ _ _ a vs ds f l h t, n, r => by
    obtain rfl : u = .ref a := r
    obtain ⟨its, rv, ⟨o, m, ho, hc, _, hd⟩, _⟩ := I.list h.sq
    rw [D.ndc] at n
    obtain ⟨as, ra⟩ := Reps.reads I t n rv
    rw [D.pd]
    exact ⟨_, .list ho hc hd (by simpa using ra)⟩
  | _, _, _, _, .dT _ _ _ _ _, n, _ => by rw [D.ndc] at n; cases n
  | _, _, _, _, .dTF _ _ _ _ _, n, _ => by rw [D.ndc] at n; cases n
  | _, _, _, _, .dF _ _ _ _, n, _ => by rw [D.ndc] at n; cases n
  | _, _, _, _, .dK _ _ _ _ _, n, _ => by rw [D.ndc] at n; cases n
theorem Reps.reads (I : Inv X pins σ H s) : ∀ {ds : List D} {vs : List V} {f : List Addr} {us : List Value}, Reps X.K H lv ds vs f → ndcL ds = true → Vals vs us → ∃ as, ReadsAll s.heap us (pdL ds) as
  | _, _, _, _, .nil, _, .nil => by rw [pdL]; exact ⟨_, .nil⟩
  | _, _, _, _, .cons a t _, n, .cons r q => by
    rw [ndcL, Bool.and_eq_true] at n
    obtain ⟨as, h1⟩ := Rep.reads I a n.1 r
    obtain ⟨bs, h2⟩ := Reps.reads I t n.2 q
    rw [pdL]
    exact ⟨_, .cons h1 h2⟩
end
end
/-- what str tells of data -/
def strD (d : D) : Str := d.pd.shown
def ShOk (d : D) : Prop := d.ndc = true ∧ d.pd.showable = true ∧ d.pd.depth ≤ 90 ∧ d.pd.shown.length ≤ sizeLine
def bStr (d : D) (k : D → Prop) : Prop := match d with
  | .tup xs => ShOk (.tup xs) ∧ k (.str (strD (.tup xs)))
  | .lst xs => ShOk (.lst xs) ∧ k (.str (strD (.lst xs)))
  | .int i => i.natAbs.log2 < 1920 ∧ k (.str (toString i))
  | _ => False
section
variable {X : Cx}
theorem str_run {pins : List (Addr × Obj)} {σ : L2.St} {H : Hp} {s : Shared} {a : Addr} {d : D} {as : List Addr} {Q : VK} (hx : Ok X) (hg : X.A.guards = some []) (I : Inv X pins σ H s) (r : Reads s.heap (.ref a) d.pd as) (so : ShOk d)
    (q : Q (.str (strD d)) H) : wpAny (model X.prog X.w) X.A (call (.type "str") [.ref a]) (EP X pins σ Q) X.xe s := by
  have un := hx.un
  refine str_of_reads r so.2.1 (PyData.noDict_hsm (pd_noDict d)) hg (by have := so.2.2.1; omega) (fun _ _ e => e) (fun h' u tk kp => ?_) so.2.2.2
  exact ⟨.str (strD d), H, I.kept kp, ⟨u, rfl⟩, q⟩
theorem cd_str (hx : Ok X) (hg : X.A.guards = some []) : CallD X (.type "str") 2 (op1 bStr) := call1 (by decide) (fun pins s σ H x us Q d g I rs r q => by
  unfold bStr at q
  split at q
  · obtain ⟨a, vs, rfl, hs, rr⟩ := r.tupleSq
    obtain ⟨u, rfl, rx⟩ := vals1 rs
    obtain rfl : u = .ref a := rx
    obtain ⟨as, rd⟩ := r.reads I q.1.1 (show RelV (V.ref a) (Value.ref a) from rfl)
    exact str_run hx hg I rd q.1 (q.2 _ H [] (.str _) .refl)
  · obtain ⟨a, vs, g', rfl, hs, rr, _, _⟩ := r.listSq
    obtain ⟨u, rfl, rx⟩ := vals1 rs
    obtain rfl : u = .ref a := rx
    obtain ⟨as, rd⟩ := r.reads I q.1.1 (show RelV (V.ref a) (Value.ref a) from rfl)
    exact str_run hx hg I rd q.1 (q.2 _ H [] (.str _) .refl)
  · obtain ⟨rfl, _⟩ := r.intV
    exact call_str_int pins s σ H _ us Q I rs ⟨_, rfl, q.1, q.2 _ H [] (.str _) .refl⟩
  · exact q.elim) (fun d k k' h q => by
  unfold bStr at q ⊢
  split at q
  · exact ⟨q.1, h _ q.2⟩
  · exact ⟨q.1, h _ q.2⟩
  · exact ⟨q.1, h _ q.2⟩
  · exact q.elim)
end
end BX

namespace BX
open PySem PySem.Spec PyProof.Rows L2
/-- a promise for calls from where no repr is under way -/
structure FnG (P : Program) (w : World) (K : PySem.W.Frag) (mg : Str → Option Value) (base : Heap) (k : Nat) (f : Addr) (fd : FuncData) (ps : List Str) (sp : Sp) : Prop where
  ar : ∀ vs H Q E, sp vs H Q E → vs.length = ps.length
  go : ∀ {A : Around} {fr : List PySem.Env} {s : Shared} {H : Hp} {args : Args} {us : List Value} {vs : List V} {Q : VK} {E : XK},
    Room k A → A.guards = some [] → Env0 P w K mg base A fr s H → BindsTo s fd args (ps.zip us) → Vals vs us → sp vs H Q E →
      codeAny (model P w) A (.call (.ref f) args) (CR CX0 fr P w H s Q E) s
section
variable {P : Program} {w : World} {K : PySem.W.Frag} {mg : Str → Option Value} {base : Heap} {k : Nat} {f : Addr} {fd : FuncData} {ps : List Str} {sp : Sp}
theorem FnG.of (F : FnOk P w K mg base CX0 k f fd ps sp) : FnG P w K mg base k f fd ps sp := ⟨F.len, fun hr _ e b v h => F.run _ _ _ _ _ _ _ _ _ hr e b v h⟩
theorem FnG.up {j : Nat} (F : FnG P w K mg base j f fd ps sp) (l : j ≤ k) : FnG P w K mg base k f fd ps sp := ⟨F.ar, fun hr g e b v h => F.go (hr.mono l) g e b v h⟩
theorem FnG.less {sp' : Sp} (F : FnG P w K mg base k f fd ps sp) (h : ∀ vs H Q E, sp' vs H Q E → sp vs H Q E) : FnG P w K mg base k f fd ps sp' :=
  ⟨fun _ _ _ _ q => F.ar _ _ _ _ (h _ _ _ _ q), fun hr g e b v q => F.go hr g e b v (h _ _ _ _ q)⟩
/-- such a def by its body -/
theorem FnG.body {x qual : Str} {st : Stmt} {N : List Str} (U : Fun K x qual st f fd) (Sc : FnScope N ps (defScope st)) (ar : ∀ vs H Q E, sp vs H Q E → vs.length = ps.length)
    (hb : ∀ (cd : Value) (A : Around) (fr : List PySem.Env) (s : Shared) (H : Hp) (vs : List V) (Q : VK) (E : XK), Room k (A.deeper (envOfC qual (defScope st) s.heap.objs.size f cd)) → A.guards = some [] → sp vs H Q E →
      ∃ t, PSs (cxOf CX0 P w K mg base N qual (defScope st) f cd A fr s H E).nox (defBody st) t ∧ t { nx := fun _ H' => Q .non H', rt := Q } (L2.start N vs) H) : FnG P w K mg base (k + 1) f fd ps sp := by
  obtain ⟨oc, od, kV, doc, pm, an, cd, ct, sl, rfl, lk, hc⟩ := U.ex
  refine ⟨ar, ?_⟩
  intro A fr s H args us vs Q E hr hg e0 bd rv hs
  have inK : K.In s.heap := e0.mod.kin.keeps fun b o z => (e0.bs b o z).1
  have noL : s.heap.NoLimit := e0.mod.nolimit.keeps fun b o z => (e0.bs b o z).1
  have hk : ∀ y ∈ ps.zip us, (defScope st).names.lookup y.1 = some .local ∨
      ((defScope st).names.lookup y.1 = some .cell ∧ ((cellsFrom (s.heap.objs.size + 1) (defScope st).names []).lookup y.1).isSome = true) := by
    rintro ⟨n, v⟩ hy
    have hn := (List.of_mem_zip hy).1
    cases Sc.par n hn with
    | inl q => exact .inl q
    | inr q => exact .inr ⟨q, PySem.W.cellsFrom_some _ _ _ (.inl q)⟩
  refine codeAny_call_function hr.depth (inK _ _ lk) rfl Sc.co Sc.gen rfl (PySem.W.codeRec_of inK hc) (bd _ _ _ _ ?_)
  refine wpAny_newFunctionEnv_cells Sc.kind hk fun env he s1 x => ?_
  subst he
  refine ⟨noL.keeps x.toInCall.keep, codeAny_func ?_⟩
  obtain ⟨t, ht, hq⟩ := hb cd A fr s H vs Q E (hr.deeper _) hg hs
  have I : Inv (cxOf CX0 P w K mg base N qual (defScope st) f cd A fr s H E) [] (L2.start N vs) H s1 := inv_start Sc hr.hd e0 (ar _ _ _ _ hs) rv x
  have done : ∀ {τ : L2.St} {H' : Hp} {s' : Shared} {v : V} {u : Value}, Inv (cxOf CX0 P w K mg base N qual (defScope st) f cd A fr s H E) [] τ H' s' → RelV v u → Q v H' → CE fr P w H s Q u s' := by
    intro τ H' s' v u J r q
    exact ⟨v, H', J.os, J.bare, J.base, J.hok, r, q⟩
  refine wpAny_mono (ht.nox.run [] s1 (L2.start N vs) H _ I hq) (fun fl s' z => ?_) (fun _ _ z => z)
  cases fl with
  | next => obtain ⟨τ, H', J, q⟩ := z; exact done (v := .non) (u := .none) J rfl q
  | ret u => obtain ⟨v, τ, H', J, r, q⟩ := z; exact done J r q
  | brk => obtain ⟨_, _, _, q⟩ := z; exact q.elim
  | cont => obtain ⟨_, _, _, q⟩ := z; exact q.elim
end
section
variable {X : Cx} {k : Nat} {f : Addr} {fd : FuncData} {ps : List Str} {sp : Sp} {x : Str} {p pos : Pos} {e : Expr} {es : List Expr} {t : TA} {E : XK}
theorem gcall {pins : List (Addr × Obj)} {σ : L2.St} {H : Hp} {s : Shared} {Q : VK} {us : List Value} {vs : List V} (F : FnG X.prog X.w X.K X.mg X.base k f fd ps sp) (hr : Room k X.A) (hg : X.A.guards = some []) (hb : Binds X.K fd ps [])
    (hx : Passes CX0 X E) (I : Inv X pins σ H s) (r : Vals vs us) (h : sp vs H Q E) : wpAny (model X.prog X.w) X.A (call (.ref f) us) (EP X pins σ Q) X.xe s := by
  have n1 := F.ar _ _ _ _ h
  have n2 : (us ++ []).length = ps.length := by rw [List.append_nil, ← r.length, n1]
  have bt := hb s us I.kIn n2
  rw [List.append_nil] at bt
  refine wpAny_call (codeAny_mono (F.go hr hg I.env0 bt r h) ?_)
  intro res s' z
  match res, z with
  | .error e, z => exact hx pins σ H s e s' I z
  | .ok (.ret u), z => exact I.after z
  | .ok .next, z => exact z.elim
  | .ok .brk, z => exact z.elim
  | .ok .cont, z => exact z.elim
theorem pe_gcall (F : FnG X.prog X.w X.K X.mg X.base k f fd ps sp) (hr : Room k X.A) (hg : X.A.guards = some []) (gl : Gl X x) (hm : X.mg x = some (.ref f)) (hk : PySem.W.keepIn X.K (.ref f) = true) (hb : Binds X.K fd ps [])
    (hx : Passes CX0 X E) (ha : PA X (e :: es) t) (hdb : (x == ("__debug__" : Str)) = false) (he : starEach (e :: es) X.env = (false, eval e X.env) :: starEach es X.env)
    (hpl : (backTo pos (starEach es X.env)).any (·.1) = false) : PE X (.Call (.Name x p) (e :: es) [] pos) (tCall sp [] E t) := by
  constructor
  intro pins s σ H Q I h
  refine wpAny_Call_Name_kw (ld_glob I gl hm (PySem.W.callWith_K (h₀ := X.base) I.ok.mod.kin hk (thn (ha.run pos pins s σ H _ I h) ?_) he hpl) hdb)
  rintro us s1 ⟨vs, H1, I1, r, q⟩
  rw [List.append_nil] at q
  exact ⟨I1.kIn, gcall F hr hg hb hx I1 r q⟩
end
section
variable {X : Cx} {k : Nat} {ps : List Str} {x : Str} {p pos : Pos} {e : Expr} {es : List Expr} {u : XA} {S : FS}
structure Fg (P : Program) (w : World) (K : PySem.W.Frag) (mg : Str → Option Value) (base : Heap) (x : Str) (k : Nat) (ps : List Str) (S : FS) : Prop where
  ex : ∃ f fd, FnG P w K mg base k f fd ps (spOf K S) ∧ mg x = some (.ref f) ∧ PySem.W.keepIn K (.ref f) = true ∧ Binds K fd ps []
  mono : MonoF S
theorem Fg.up {P : Program} {w : World} {K : PySem.W.Frag} {mg : Str → Option Value} {base : Heap} {j : Nat} (F : Fg P w K mg base x j ps S) (l : j ≤ k) : Fg P w K mg base x k ps S :=
  let ⟨f, fd, a, b⟩ := F.ex; ⟨⟨f, fd, a.up l, b⟩, F.mono⟩
theorem fg_make {P : Program} {w : World} {K : PySem.W.Frag} {mg : Str → Option Value} {base : Heap} {st : Stmt} {f : Addr} {fd : FuncData} (F : Fun K x x st f fd) (ok : FnG P w K mg base k f fd ps (spOf K S)) (hm : mg x = some (.ref f)) (hb : Binds K fd ps []) (mo : MonoF S) : Fg P w K mg base x k ps S :=
  ⟨⟨f, fd, ok, hm, F.kp, hb⟩, mo⟩
theorem de_fg (F : Fg X.prog X.w X.K X.mg X.base x k ps S) (hr : Room k X.A) (hgd : X.A.guards = some []) (hg : Gl X x) (ha : DA X (e :: es) u) (hdb : (x == ("__debug__" : Str)) = false := by decide)
    (he : starEach (e :: es) X.env = (false, eval e X.env) :: starEach es X.env := by rfl) (hpl : (backTo pos (starEach es X.env)).any (·.1) = false := by rfl) : DE X (.Call (.Name x p) (e :: es) [] pos) (dFn S u) := by
  obtain ⟨f, fd, hF, hm, hk, hb⟩ := F.ex
  refine ⟨PE.imp (pe_gcall hF hr hgd hg hm hk hb pass0 ha.run hdb he hpl) fun σ H Q q => ?_, fun env Q Q' h q => ha.mono _ _ _ (fun rs e q => ⟨q.1, q.2.1, rdAll_mono (fun ds q => F.mono _ _ _ (fun d es q => h _ _ q) q) q.2.2⟩) q⟩
  obtain ⟨env, f, A, q⟩ := q
  refine ⟨env, f, A, ha.mono _ _ _ (fun rs e q => ?_) q⟩
  intro vs H1 f1 gs A1 R1 S1 K1
  obtain ⟨o1, o2, q⟩ := q
  obtain ⟨ds, fa, l1, l2, Aa, q, back⟩ := fn_args A1 R1 o1 o2 q
  rw [List.append_nil]
  refine ⟨l2, ds, fa, l1, Aa, F.mono _ _ _ (fun d ds' q => ?_) q⟩
  intro v H' f' g l' A' rv ng S' K'
  obtain ⟨f2, A2, R2, S2, K2⟩ := back v d H' f' g ds' l' A' rv ng S' K'
  exact q v H' f2 g A2 R2 (S1.trans S2) (K1.trans K2)
end
/-- what fn_data says, for such a def: the kit's own call of it is put aside -/
theorem fg_data {P : Program} {w : World} {K : PySem.W.Frag} {mg : Str → Option Value} {base : Heap} {x qual : Str} {st : Stmt} {f : Addr} {fd : FuncData} {N ps : List Str} {k : Nat} {S : FS} {t : XS} (F : Fun K x qual st f fd) (Sc : FnScope N ps (defScope st))
    (hms : S.ms.length = ps.length) (okm : ∀ m ∈ S.ms, m ≠ .own ∧ m ≠ .lk)
    (der : ∀ (cd : Value) (A : Around) (fr : List PySem.Env) (s : Shared) (H : Hp) (E : XK), Room k (A.deeper (envOfC qual (defScope st) s.heap.objs.size f cd)) → A.guards = some [] →
      DSs (cxOf CX0 P w K mg base N qual (defScope st) f cd A fr s H E).nox (defBody st) t) (body : BodyOk S N.length t) : FnG P w K mg base (k + 1) f fd ps (spOf K S) := by
  refine FnG.body F Sc (fun vs H Q E h => by rw [h.1, hms]) (fun cd A fr s H vs Q E hr hg h => ?_)
  have Dr := der cd A fr s H E hr hg
  refine ⟨_, Dr.run, ?_⟩
  exact body_lift Sc hms okm Dr body h
end BX

namespace BX
open PySem PySem.Spec PyProof.Rows L2
section
variable {P : Program} {w : World} {K : PySem.W.Frag} {mg mb : Str → Option Value} {k : Nat} {fa a : Addr} {fd : FuncData} {x : Str} {sp : Sp} {s : Shared} {vs : List Value} {ns : List Int}
/-- what the call leaves: True, and all that stood -/
def TopEnd (s : Shared) (r : Result) (s' : Shared) : Prop := r = .ok (.ret (.bool true)) ∧ OldK s.heap s'.heap ∧ s'.os = s.os ∧ AllBare s'.gens
theorem top_call (inK : K.In s.heap) (n1 : s.heap.Ns mainGlobals mg) (n2 : s.heap.Ns builtinsNs mb) (bb : ∀ y : Str, y ≠ "__name__" → mb y = bootBuiltins y) (lim : s.heap.NoLimit) (g0 : s.gens = #[])
    (ha : s.heap.get? a = some { cls := .type "list", data := .seq vs.toArray }) (hr : Room k callerA) (F : ∀ b : Heap, K.In b → b.Ns mainGlobals mg → FnG P w K mg b k fa fd [x] sp)
    (bd : ∀ (s : Shared) (u : Value), BindsTo s fd ⟨[u], []⟩ [(x, u)]) (H : Hp) (only : Only H) (hs : sp [.ref a] H (fun v _ => v = .bl true) fun _ _ _ => False)
    (hok : HOk P w H s.heap) (trk : ∀ b, H b ≠ none → b = a) (kn : H a ≠ none → K.lookup a = none) : codeAny (model P w) callerA (.call (.ref fa) ⟨[.ref a], []⟩) (TopEnd s) s := by
  have hide : ∀ {b : Addr} {o : Obj}, s.heap.get? b = some o → (b = a → H a = none) → (hidT s.heap H).get? b = some o := by
    intro b o z n
    refine hidT_get z (Classical.byContradiction fun c => ?_)
    have e := trk b c
    subst e
    exact c (n rfl)
  have kin : K.In (hidT s.heap H) := by
    intro b o z
    refine hide (inK b o z) fun e => Classical.byContradiction fun c => ?_
    subst e
    rw [kn c] at z
    cases z
  have nsT : ∀ {b : Addr} {m : Str → Option Value}, s.heap.Ns b m → (hidT s.heap H).Ns b m := by
    rintro b m ⟨o, es, ep, z, d, r⟩
    refine ⟨o, es, ep, hide z fun e => ?_, d, r⟩
    subst e
    rw [ha] at z
    cases z
    exact nomatch (show Data.seq vs.toArray _ = Data.dict es ep from d)
  have lim' : (hidT s.heap H).NoLimit := by
    obtain ⟨mc, l1, l2⟩ := lim
    exact ⟨mc, nsT l1, l2⟩
  have e0 : Env0 P w K mg (hidT s.heap H) callerA [] s H := by
    refine ⟨rfl, ⟨kin, nsT n1, ⟨mb, nsT n2, bb⟩, lim'⟩, fun b o z => of_hidT z, Nat.le_of_eq (hidT_size _ _), trivial, ?_, hok, .of_eq g0⟩
    intro b z
    exact absurd (show b ∈ ([] : List Addr) from z) List.not_mem_nil
  refine codeAny_mono ((F _ kin (nsT n1)).go (us := [Value.ref a]) (vs := [V.ref a]) hr rfl e0 (bd s (.ref a)) (.cons rfl .nil) hs) ?_
  intro r s' z
  match r, z with
  | .error _, z => exact z.elim
  | .ok .next, z => exact z.elim
  | .ok .brk, z => exact z.elim
  | .ok .cont, z => exact z.elim
  | .ok (.ret u), z =>
    obtain ⟨v, H', os, bare, un, hok', rv, q⟩ := z
    have q : v = .bl true := q
    subst q
    obtain rfl : u = Value.bool true := rv
    refine ⟨rfl, OldK.of_keep ?_, os, bare⟩
    intro b o z
    cases hb : H b with
    | none => exact un.keep b o z hb (fun y => absurd (show b ∈ ([] : List Addr) from y) List.not_mem_nil) (by simp)
    | some t =>
      obtain hn | ⟨ob, xs, hf⟩ := only b
      · rw [hb] at hn; cases hn
      · have old := (hok b _ hf).1
        have new := (hok' b _ (un.frzs b ob _ hf)).1
        rw [z] at old
        cases old
        exact new
/-- the script as the one thing that is tracked -/
def scrH (a : Addr) (o : Obj) (xs : List V) : Hp := fun b => if b = a then some (.frz o (.lst xs)) else none
theorem top_all (inK : K.In s.heap) (n1 : s.heap.Ns mainGlobals mg) (n2 : s.heap.Ns builtinsNs mb) (bb : ∀ y : Str, y ≠ "__name__" → mb y = bootBuiltins y) (lim : s.heap.NoLimit) (g0 : s.gens = #[])
    (ha : s.heap.get? a = some { cls := .type "list", data := .seq vs.toArray }) (hi : IntsAre vs ns) (hl : ns.length ≤ sizeLine) (hr : Room k callerA) (F : ∀ b : Heap, K.In b → b.Ns mainGlobals mg → FnG P w K mg b k fa fd [x] sp)
    (bd : ∀ (s : Shared) (u : Value), BindsTo s fd ⟨[u], []⟩ [(x, u)]) (hs : ∀ H : Hp, Only H → SqL K H a (ns.map V.int) → sp [.ref a] H (fun v _ => v = .bl true) fun _ _ _ => False) :
    codeAny (model P w) callerA (.call (.ref fa) ⟨[.ref a], []⟩) (TopEnd s) s := by
  have rv := vals_ints hi
  cases hk : K.lookup a with
  | some o =>
    have e := inK a o hk
    rw [ha] at e
    cases e
    have sq : SqL K (fun _ => none) a (ns.map V.int) := .inr ⟨_, vs.toArray, _, hk, rfl, rfl, rfl, by rw [List.size_toArray, hi.length]; exact hl, by simpa using rv⟩
    exact top_call inK n1 n2 bb lim g0 ha hr F bd (fun _ => none) (fun _ => .inl rfl) (hs _ (fun _ => .inl rfl) sq) (fun b u z => nomatch z) (fun b z => absurd rfl z) fun z => absurd rfl z
  | none =>
    have at_a : scrH a { cls := .type "list", data := .seq vs.toArray } (ns.map V.int) a = some (.frz { cls := .type "list", data := .seq vs.toArray } (.lst (ns.map V.int))) := if_pos rfl
    have off : ∀ {b : Addr}, b ≠ a → scrH a { cls := .type "list", data := .seq vs.toArray } (ns.map V.int) b = none := fun h => if_neg h
    have only : Only (scrH a { cls := .type "list", data := .seq vs.toArray } (ns.map V.int)) := by
      intro b
      by_cases e : b = a
      · subst e; exact .inr ⟨_, _, at_a⟩
      · exact .inl (off e)
    refine top_call inK n1 n2 bb lim g0 ha hr F bd _ only (hs _ only (.inl (.inr ⟨_, at_a⟩))) ?_ ?_ fun _ => hk
    · intro b u z
      by_cases e : b = a
      · subst e
        rw [at_a] at z
        cases z
        exact ⟨ha, by rw [List.length_map]; exact hl, vs, _, rv, ha⟩
      · rw [off e] at z; cases z
    · intro b z
      exact Classical.byContradiction fun e => z (off e)
end
/-- the goal that k_head leaves -/
theorem walk_g {l : PySem.W.OpenLaw} {n k : Nat} {q : Program} {loose : List Str} {XP : (Str → Option Value) → Heap → Prop} {YP : World → Heap → Prop} {d : DefRec} {K : Params → PySem.W.Frag} {sp : World → Sp} {x : Str}
    (hn : l.most = some n) (h63 : n ≤ sizeLine) (hdf : d.params.defaults = []) (hr : Room k callerA) (hY : ∀ (w : World) (h : Heap), YP w h → (K w.params).In h)
    (F : ∀ (w : World) (mg : Str → Option Value) (fa : Addr) (h : Heap), (K w.params).In h → h.Ns mainGlobals mg → mg d.name = some (.ref fa) →
      ∃ fd : FuncData, (∀ (s : Shared) (v : Value), BindsTo s fd ⟨[v], []⟩ [(x, v)]) ∧ ∀ b : Heap, (K w.params).In b → b.Ns mainGlobals mg → FnG l.prog w (K w.params) mg b k fa fd [x] (sp w))
    (hs : ∀ (w : World) (H : Hp) (a : Addr) (ns : List Int), ns.length ≤ n → Only H → SqL (K w.params) H a (ns.map V.int) → sp w [.ref a] H (fun v _ => v = .bl true) fun _ _ _ => False) :
    PySem.W.WalkO q loose XP YP l.row.toRowW d [] (fun f vs => PySem.call f vs) := by
  apply Att.attach_call hn hdf
  intro w s₀ s mg mb fa o pm cd doc a vs ns gr y ho hd hc hm hobj hi hlen hg
  obtain ⟨fd, hb, hF⟩ := F w mg fa _ (hY w _ y) gr.T.g hm
  exact top_all (hY w _ y) gr.T.g gr.T.b gr.T.builtins gr.T.nolimit hg hobj hi (Nat.le_trans hlen h63) hr hF hb fun H hO hS => hs w H a ns hlen hO hS
end BX

namespace BT
open PySem PySem.Spec PyProof.Rows L2

def stp : Nat → Nat → Nat
  | 0, i => i
  | k + 1, i => stp k i * 5 + 1
theorem stp_add : ∀ a b i, stp (a + b) i = stp a (stp b i)
  | 0, b, i => by rw [Nat.zero_add]; rfl
  | a + 1, b, i => by
    rw [show a + 1 + b = (a + b) + 1 by omega]
    show stp (a + b) i * 5 + 1 = stp a (stp b i) * 5 + 1
    rw [stp_add a b i]
theorem stp_pow : ∀ K : Nat, ∃ c d : Nat, ∀ i, stp (2 ^ K) i = (1 + 4 * 2 ^ K * c) * i + 2 ^ K * (1 + 2 * d)
  | 0 => ⟨1, 0, fun i => by show i * 5 + 1 = _; simp; omega⟩
  | K + 1 => by
    obtain ⟨c, d, h⟩ := stp_pow K
    refine ⟨c + 2 * 2 ^ K * c * c, d + 2 ^ K * c + 2 * d * 2 ^ K * c, fun i => ?_⟩
    rw [show 2 ^ (K + 1) = 2 ^ K + 2 ^ K by rw [Nat.pow_succ]; omega, stp_add, h, h]
    generalize 2 ^ K = M
    grind
theorem half {M x j : Nat} (hM : 0 < M) (h : x % M = j % M) (n : x % (M * 2) ≠ j % (M * 2)) : (x + M) % (M * 2) = j % (M * 2) := by
  rw [Nat.mod_mul, Nat.mod_mul] at n
  rw [Nat.mod_mul, Nat.mod_mul, Nat.add_mod_right, Nat.add_div_right _ hM, h]
  rw [h] at n
  have a := Nat.mod_lt (x / M) (show 0 < 2 by decide)
  have b := Nat.mod_lt (j / M) (show 0 < 2 by decide)
  have c : x / M % 2 ≠ j / M % 2 := fun z => n (by rw [z])
  have e : (x / M + 1) % 2 = j / M % 2 := by omega
  rw [e]
theorem stp_all : ∀ (K i j : Nat), ∃ k, k < 2 ^ K ∧ stp k i % 2 ^ K = j % 2 ^ K
  | 0, i, j => ⟨0, by decide, by simp [Nat.mod_one]⟩
  | K + 1, i, j => by
    obtain ⟨k, hk, e⟩ := stp_all K i j
    obtain ⟨c, d, h⟩ := stp_pow K
    by_cases q : stp k i % 2 ^ (K + 1) = j % 2 ^ (K + 1)
    · exact ⟨k, by rw [Nat.pow_succ]; omega, q⟩
    · refine ⟨2 ^ K + k, by rw [Nat.pow_succ]; omega, ?_⟩
      rw [stp_add, h]
      have e2 : (1 + 4 * 2 ^ K * c) * stp k i + 2 ^ K * (1 + 2 * d) = (stp k i + 2 ^ K) + 2 ^ (K + 1) * (2 * c * stp k i + d) := by
        rw [Nat.pow_succ]; generalize 2 ^ K = M; grind
      rw [e2, Nat.add_mul_mod_self_left, Nat.pow_succ]
      rw [Nat.pow_succ] at q
      exact half (Nat.pow_pos (by decide)) e q
/-- the masks up to 4914 members -/
def MG (m : Nat) : Prop := m = 7 ∨ m = 31 ∨ m = 127 ∨ m = 511 ∨ m = 2047 ∨ m = 8191
theorem MG.pow {m : Nat} (h : MG m) : ∃ K, m + 1 = 2 ^ K := by
  rcases h with rfl | rfl | rfl | rfl | rfl | rfl
  · exact ⟨3, rfl⟩
  · exact ⟨5, rfl⟩
  · exact ⟨7, rfl⟩
  · exact ⟨9, rfl⟩
  · exact ⟨11, rfl⟩
  · exact ⟨13, rfl⟩
theorem MG.odd {m : Nat} (h : MG m) : m % 2 = 1 := by rcases h with rfl | rfl | rfl | rfl | rfl | rfl <;> rfl
theorem MG.top {m : Nat} (h : MG m) : m ≤ 8191 := by rcases h with rfl | rfl | rfl | rfl | rfl | rfl <;> decide
theorem lcg_stp {m i : Nat} (hi : i ≤ m) : ∀ k, lcgI m i k = stp k i % (m + 1)
  | 0 => (Nat.mod_eq_of_lt (Nat.lt_succ_of_le hi)).symm
  | k + 1 => by
    show (lcgI m i k * 5 + 1) % (m + 1) = (stp k i * 5 + 1) % (m + 1)
    rw [lcg_stp hi k]
    simp [Nat.add_mod, Nat.mul_mod]
theorem MG.comes {m : Nat} (h : MG m) {i j : Nat} (hi : i ≤ m) (hj : j ≤ m) : ∃ k, k ≤ m ∧ lcgI m i k = j := by
  obtain ⟨K, e⟩ := h.pow
  obtain ⟨k, a, b⟩ := stp_all K i j
  rw [← e] at a b
  refine ⟨k, by omega, ?_⟩
  rw [lcg_stp hi, b, Nat.mod_eq_of_lt (by omega)]
/-- each slot begins a run -/
theorem MG.run {m : Nat} (hm : MG m) (h : Int) {j : Nat} (hj : j ≤ m) : ∃ n, n ≤ m + 12 ∧ runI m (SetTable.bits h) n = j := by
  obtain ⟨k, a, e⟩ := hm.comes (runI_le m (SetTable.bits h) 12) hj
  refine ⟨12 + k, by omega, ?_⟩
  rw [runI_tail (bits_lt h)]
  exact e
theorem way_in {m : Nat} (h : Int) (k : Nat) : way m h k ≤ m := by
  have a : SetTable.bits h % (m + 1) ≤ m := Nat.le_of_lt_succ (Nat.mod_lt _ (Nat.succ_pos m))
  have b := (runEnd_bd a).1
  have c := (runEnd_bd a).2.1
  have start : (runAt m (SetTable.bits h % (m + 1)) (SetTable.bits h)).j + (runAt m (SetTable.bits h % (m + 1)) (SetTable.bits h)).more ≤ m := by
    dsimp only [runAt]
    omega
  have z := nth_in k _ start
  dsimp only [way]
  omega
theorem MG.way {m : Nat} (hm : MG m) (h : Int) {j : Nat} (hj : j ≤ m) : ∃ k, k < 10 * SetTable.turns m ∧ way m h k = j := by
  obtain ⟨n, a, e⟩ := hm.run h hj
  obtain ⟨k, b, e'⟩ := run_nth m (SetTable.bits h) n
  refine ⟨k, ?_, ?_⟩
  · unfold SetTable.turns
    omega
  · show (nth m _ k).j = j
    rw [e']
    exact e

/-- each member is found again on its way -/
structure Tb (t : SetTable) (hs : List Int) : Prop where
  ris : Ris t.place.toList
  dm : t.dummies = #[]
  sz : t.place.size = hs.length
  mg : MG t.mask
  back : ∀ (i : Nat) (h : Int) (j : Nat), hs[i]? = some h → t.place.toList[i]? = some j → ∃ k, way t.mask h k = j ∧ ∀ c, c < k → way t.mask h c ∈ t.place.toList
section
variable {t : SetTable} {hs : List Int}
/-- K is the first hole on the way of h -/
def Hole (t : SetTable) (h : Int) (K : Nat) : Prop := way t.mask h K ∉ t.place.toList ∧ ∀ c, c < K → way t.mask h c ∈ t.place.toList
theorem Tb.hole (T : Tb t hs) (hl : hs.length ≤ t.mask) (h : Int) : ∃ K, K < 10 * SetTable.turns t.mask ∧ Hole t h K := by
  have few : t.place.toList.length < t.mask + 1 := by
    have := T.sz
    rw [Array.length_toList]
    omega
  obtain ⟨j, a, b⟩ := st_missing _ _ few
  obtain ⟨k, c, rfl⟩ := T.mg.way h (Nat.le_of_lt_succ a)
  obtain ⟨K, d, e, f⟩ := st_least (p := fun k => way t.mask h k ∉ t.place.toList) k b
  exact ⟨K, by omega, e, fun c' hc => Classical.not_not.mp (f c' hc)⟩
theorem Tb.ahead (T : Tb t hs) {h : Int} {K i j : Nat} (hK : Hole t h K) (hi : hs[i]? = some h) (hj : t.place.toList[i]? = some j) : ∃ k, k < K ∧ way t.mask h k = j := by
  obtain ⟨k, e, b⟩ := T.back i h j hi hj
  refine ⟨k, Nat.lt_of_not_le fun z => ?_, e⟩
  rcases Nat.lt_or_eq_of_le z with z | rfl
  · exact hK.1 (b K z)
  · exact hK.1 (e ▸ List.mem_of_getElem? hj)
/-- one more put into the hole -/
theorem Tb.put (T : Tb t hs) {h : Int} {K p j : Nat} (hK : Hole t h K) (ej : way t.mask h K = j) (ep : SetTable.below t.place j = p) :
    p ≤ hs.length ∧ Tb (t.put j).1 (hs.take p ++ h :: hs.drop p) ∧ (t.put j).1.fill = hs.length + 1 := by
  have hK1 := hK.1
  have hK2 := hK.2
  rw [ej] at hK1
  have cut := (below_cut T.ris j).1
  rw [ep] at cut
  have pl : p ≤ t.place.toList.length := by rw [Array.length_toList]; exact cut
  have ph : p ≤ hs.length := by rw [← T.sz]; exact cut
  have place : (t.put j).1.place.toList = t.place.toList.take p ++ j :: t.place.toList.drop p := by rw [put_place, ep]
  have many : (t.put j).1.place.size = hs.length + 1 := by
    rw [← Array.length_toList, place, len_ins _ pl, Array.length_toList, T.sz]
  have old : ∀ {x : Nat}, x ∈ t.place.toList → x ∈ (t.put j).1.place.toList := by
    intro x hx
    rw [place, mem_ins]
    exact .inr hx
  have new : t.place[SetTable.below t.place j]? ≠ some j := by
    intro e
    rw [← Array.getElem?_toList] at e
    exact hK1 (List.mem_of_getElem? e)
  refine ⟨ph, ⟨ris_insert T.ris new, put_dm T.dm j, by rw [len_ins _ ph]; exact many, T.mg, ?_⟩, ?_⟩
  · intro i h' j' e1 e2
    show ∃ k, way t.mask h' k = j' ∧ _
    rw [tins_get hs ph] at e1
    rw [place, tins_get _ pl] at e2
    by_cases c : i = p
    · subst c
      simp only [Nat.lt_irrefl, if_false, if_true, Option.some.injEq] at e1 e2
      subst e1 e2
      exact ⟨K, ej, fun c hc => old (hK2 c hc)⟩
    · obtain ⟨i', f1, f2⟩ : ∃ i', hs[i']? = some h' ∧ t.place.toList[i']? = some j' := by
        by_cases d : i < p
        · rw [if_pos d] at e1 e2
          exact ⟨i, e1, e2⟩
        · rw [if_neg d, if_neg c] at e1 e2
          exact ⟨i - 1, e1, e2⟩
      obtain ⟨k, e, b⟩ := T.back i' h' j' f1 f2
      exact ⟨k, e, fun c hc => old (b c hc)⟩
  · show (t.put j).1.place.size + (t.put j).1.dummies.size = _
    rw [many, put_dm T.dm j]
    rfl
end

theorem lay_free {m : Nat} (hm : MG m) (owner : Array (Option Nat)) (h : Int) {j : Nat} (hj : j ≤ m) (hf : oAt owner j = none) :
    ∃ K, SetTable.layClean.free m owner (SetTable.turns m) (SetTable.bits h % (m + 1)) (SetTable.bits h) = some (way m h K) ∧ oAt owner (way m h K) = none ∧ ∀ c, c < K → oAt owner (way m h c) ≠ none := by
  obtain ⟨n, a, e⟩ := hm.run h hj
  have at_n : way m h (off m (SetTable.bits h % (m + 1)) (SetTable.bits h) n) = j := by
    dsimp only [way]
    rw [nth_off, itL_run]
    exact e
  obtain ⟨K, b, c, d⟩ := st_least (p := fun k => oAt owner (way m h k) = none) _ (show oAt owner (way m h (off m (SetTable.bits h % (m + 1)) (SetTable.bits h) n)) = none by rw [at_n]; exact hf)
  have busy : ∀ k, k < K → (oAt owner (way m h k)).isNone = false := by
    intro k hk
    cases z : oAt owner (way m h k) with
    | none => exact absurd z (d k hk)
    | some _ => rfl
  refine ⟨K, ?_, c, d⟩
  apply free_spec m owner _ n _ _ K _ b busy
  · show (oAt owner (way m h K)).isNone = true
    rw [c]; rfl
  · unfold SetTable.turns; omega
theorem own_add {m : Nat} (hm : MG m) {done : List Int} {owner : Array (Option Nat)} (W : Own m done owner) (hl : done.length ≤ m) (h : Int) :
    ∃ j, SetTable.layClean.free m owner (SetTable.turns m) (SetTable.bits h % (m + 1)) (SetTable.bits h) = some j ∧ Own m (done ++ [h]) (owner.setIfInBounds j (some done.length)) := by
  obtain ⟨ps, np, inp⟩ := W.ps
  obtain ⟨j0, a, b⟩ := st_missing ps (m + 1) (by omega)
  have fr : oAt owner j0 = none := Classical.byContradiction fun z => b (inp j0 (Nat.le_of_lt_succ a) z)
  obtain ⟨K, e, f, g⟩ := lay_free hm owner h (Nat.le_of_lt_succ a) fr
  have top := way_in (m := m) h K
  generalize ej : way m h K = j at e f top
  have inb : j < owner.size := by rw [W.sz]; omega
  have at_j := oAt_set_self (some done.length) inb
  have at_i : ∀ {i : Nat}, i ≠ j → oAt (owner.setIfInBounds j (some done.length)) i = oAt owner i := fun n => oAt_set_ne _ n
  have stays : ∀ {i : Nat}, oAt owner i ≠ none → oAt (owner.setIfInBounds j (some done.length)) i ≠ none := by
    intro i z
    by_cases c : i = j
    · subst c; exact absurd f z
    · rw [at_i c]; exact z
  have tail : (done ++ [h])[done.length]? = some h := by simp
  refine ⟨j, e, ?_⟩
  constructor
  · rw [Array.size_setIfInBounds]; exact W.sz
  · intro i k hi z
    by_cases c : i = j
    · subst c
      rw [at_j] at z
      cases z
      exact ⟨h, K, tail, ej, fun c hc => stays (g c hc)⟩
    · rw [at_i c] at z
      obtain ⟨h', K', p1, p2, p3⟩ := W.at_ i k hi z
      have lt : k < done.length := (List.getElem?_eq_some_iff.mp p1).1
      exact ⟨h', K', by rw [List.getElem?_append_left lt]; exact p1, p2, fun c hc => stays (p3 c hc)⟩
  · intro k hk
    rw [List.length_append, List.length_singleton] at hk
    by_cases c : k = done.length
    · subst c; exact ⟨j, top, at_j⟩
    · obtain ⟨i, p1, p2⟩ := W.all k (by omega)
      refine ⟨i, p1, ?_⟩
      rw [at_i (fun z => by rw [z, f] at p2; cases p2)]
      exact p2
  · refine ⟨j :: ps, by simp [np], fun i hi z => ?_⟩
    by_cases c : i = j
    · subst c; exact .head _
    · rw [at_i c] at z
      exact .tail _ (inp i hi z)
theorem own_all {m : Nat} (hm : MG m) : ∀ (rest done : List Int) (owner : Array (Option Nat)), Own m done owner → done.length + rest.length ≤ m →
    ∃ o, rest.foldl (stepF m) (some (owner, done.length)) = some (o, (done ++ rest).length) ∧ Own m (done ++ rest) o := by
  intro rest
  induction rest with
  | nil => intro done owner W _; rw [List.append_nil]; exact ⟨owner, rfl, W⟩
  | cons h rest ih =>
    intro done owner W l
    rw [List.length_cons] at l
    obtain ⟨j, e, W'⟩ := own_add hm W (by omega) h
    obtain ⟨o, f, g⟩ := ih (done ++ [h]) _ W' (by simp; omega)
    have ea : done ++ [h] ++ rest = done ++ h :: rest := by simp
    rw [ea] at f g
    refine ⟨o, ?_, g⟩
    rw [List.foldl_cons, stepF_some e]
    simpa using f
theorem lay_all {m : Nat} (hm : MG m) {hs : Array Int} (l : hs.size ≤ m) : ∃ o, SetTable.layClean m hs = some o ∧ Own m hs.toList o := by
  obtain ⟨o, f, g⟩ := own_all hm hs.toList [] _ (Own.init m) (by simpa using l)
  refine ⟨o, ?_, by simpa using g⟩
  rw [layClean_eq]
  have f' : hs.toList.foldl (stepF m) (some (Array.replicate (m + 1) none, 0)) = some (o, ([] ++ hs.toList).length) := f
  rw [f']
  rfl
theorem relaid_tb (t : SetTable) {hs : Array Int} {wanted M : Nat} (hw : SetTable.sizeAbove wanted - 1 = M) (hM : MG M) (l : hs.size ≤ M) :
    ∃ t' order, t.relaid hs wanted = some (t', order) ∧ order.toList.Perm (List.range hs.size) ∧ Tb t' (order.toList.map fun i => hs.getD i 0) ∧ t'.mask = M ∧ t'.led = t.led := by
  obtain ⟨o, e, W⟩ := lay_all hM l
  have mem : ∀ {j k : Nat}, (j, k) ∈ liveOf M o ↔ j ≤ M ∧ oAt o j = some k := mem_live W.sz
  have up : Ris (List.range (M + 1)) := by
    unfold Ris
    first | exact List.pairwise_lt_range | exact List.pairwise_lt_range _
  obtain ⟨r1, r2⟩ := ris_live (fun j => o.getD j none) (List.range (M + 1)) up
  have r1 : Ris ((liveOf M o).map (·.1)) := r1
  have nd : ((liveOf M o).map (·.1)).Nodup := List.Pairwise.imp (fun h => Nat.ne_of_lt h) r1
  have many : (liveOf M o).length = hs.size := by
    obtain ⟨ps, p1, p2⟩ := W.ps
    have le1 := nat_nodup_len _ ps nd (by
      intro x hx
      obtain ⟨⟨j, k⟩, hq, rfl⟩ := List.mem_map.mp hx
      obtain ⟨b1, b2⟩ := mem.mp hq
      exact p2 j b1 (by rw [b2]; simp))
    have le2 := nat_nodup_len (List.range hs.size) ((liveOf M o).map (·.2)) List.nodup_range (by
      intro k hk
      obtain ⟨j, b1, b2⟩ := W.all k (by simpa using hk)
      exact List.mem_map.mpr ⟨(j, k), mem.mpr ⟨b1, b2⟩, rfl⟩)
    simp only [List.length_map, List.length_range, Array.length_toList] at le1 le2 p1
    omega
  refine ⟨tabOf t M o, ((liveOf M o).map (·.2)).toArray, ?_, ?_, ⟨r1, rfl, ?_, hM, ?_⟩, rfl, rfl⟩
  · rw [relaid_eq, hw, e]
    rfl
  · refine perm_range hs.size _ ?_ fun k hk => ?_
    · simpa using many
    · obtain ⟨j, b1, b2⟩ := W.all k (by simpa using hk)
      exact List.mem_map.mpr ⟨(j, k), mem.mpr ⟨b1, b2⟩, rfl⟩
  · show ((liveOf M o).map (·.1)).toArray.size = _
    simp
  · intro i h j e1 e2
    have e1 : (((liveOf M o).map (·.2)).map fun i => hs.getD i 0)[i]? = some h := e1
    have e2 : ((liveOf M o).map (·.1))[i]? = some j := e2
    rw [List.getElem?_map] at e2
    rw [List.getElem?_map, List.getElem?_map] at e1
    obtain ⟨⟨j', k⟩, hq, rfl⟩ := Option.map_eq_some_iff.mp e2
    rw [hq] at e1
    have e1 : hs.getD k 0 = h := Option.some.inj e1
    obtain ⟨b1, b2⟩ := mem.mp (List.mem_of_getElem? hq)
    obtain ⟨h0, K, a1, a2, a3⟩ := W.at_ j' k b1 b2
    have e0 : hs.getD k 0 = h0 := by rw [Array.getD_eq_getD_getElem?, ← Array.getElem?_toList, a1]; rfl
    obtain rfl : h0 = h := e0.symm.trans e1
    refine ⟨K, a2, fun c hc => ?_⟩
    show way M h0 c ∈ (liveOf M o).map (·.1)
    obtain ⟨k2, z⟩ := Option.ne_none_iff_exists'.mp (a3 c hc)
    exact List.mem_map.mpr ⟨(way M h0 c, k2), mem.mpr ⟨way_in _ _, z⟩, rfl⟩
theorem grow_ok {m n : Nat} (hm : MG m) (hr : n * 5 < m * 3) (full : (n + 1) * 5 ≥ m * 3) (few : n + 1 < 4096) :
    ∃ M, SetTable.sizeAbove (SetTable.grown (n + 1)) - 1 = M ∧ MG M ∧ SetTable.sizeAbove (SetTable.grown (n + 1)) ≤ 8192 ∧ (n + 1) * 5 < M * 3 := by
  rcases hm with rfl | rfl | rfl | rfl | rfl | rfl
  · obtain rfl : n = 4 := by omega
    have e : SetTable.sizeAbove (SetTable.grown 5) = 32 := by decide +kernel
    exact ⟨31, by rw [e], .inr (.inl rfl), by rw [e]; decide, by decide⟩
  · obtain rfl : n = 18 := by omega
    have e : SetTable.sizeAbove (SetTable.grown 19) = 128 := by decide +kernel
    exact ⟨127, by rw [e], .inr (.inr (.inl rfl)), by rw [e]; decide, by decide⟩
  · obtain rfl : n = 76 := by omega
    have e : SetTable.sizeAbove (SetTable.grown 77) = 512 := by decide +kernel
    exact ⟨511, by rw [e], .inr (.inr (.inr (.inl rfl))), by rw [e]; decide, by decide⟩
  · obtain rfl : n = 306 := by omega
    have e : SetTable.sizeAbove (SetTable.grown 307) = 2048 := by decide +kernel
    exact ⟨2047, by rw [e], .inr (.inr (.inr (.inr (.inl rfl)))), by rw [e]; decide, by decide⟩
  · obtain rfl : n = 1228 := by omega
    have e : SetTable.sizeAbove (SetTable.grown 1229) = 8192 := by decide +kernel
    exact ⟨8191, by rw [e], .inr (.inr (.inr (.inr (.inr rfl)))), by rw [e]; decide, by decide⟩
  · omega
end BT

namespace BT
open PySem PySem.Spec PyProof.Rows L2
/-- a kind of keys that sets may hold -/
structure Mild {P : Program} {w : World} {κ : Type} [DecidableEq κ] (HK : HeapKind P w κ) (byv : κ → Bool) : Prop where
  stay : ∀ {h h' : Heap} {k : κ} {a : Addr}, (∀ b o vs n, h.get? b = some o → o.data = .seq vs n → h'.get? b = some o) → HK.is h k a → HK.is h' k a
  rm : ∀ {A : Around}, A.units < cLine → HK.room A
  cls : ∀ {A : Around} {E : Value → Shared → Prop} {s : Shared} {k : κ} {b : Addr} {Q : Bool → Shared → Prop}, HK.is s.heap k b → Q false s → wpAny (model P w) A (ofAClassStatement 8 (.ref b)) Q E s
  val : ∀ {A : Around} {E : Value → Shared → Prop} {s : Shared} {k : κ} {b : Addr} {Q : Bool → Shared → Prop}, HK.is s.heap k b → Q (byv k) s → wpAny (model P w) A (hashByValue 8 (.ref b)) Q E s
section
variable {P : Program} {w : World} {κ : Type} [DecidableEq κ] {HK : HeapKind P w κ} {byv : κ → Bool}
def rowsG (HK : HeapKind P w κ) (L : List (Addr × κ)) : List (Int × Value) := L.map fun p => (HK.hash p.2, Value.ref p.1)
def hsh (HK : HeapKind P w κ) (L : List (Addr × κ)) : List Int := L.map fun p => HK.hash p.2
/-- the set at a has just the keys of L -/
structure StG (HK : HeapKind P w κ) (h : Heap) (a : Addr) (L : List (Addr × κ)) (es : Array (Int × Value)) (ep : Nat) (t : SetTable) : Prop where
  ob : ∃ o, h.get? a = some o ∧ o.ExactSet ∧ o.data = .set es ep t
  row : es.toList = rowsG HK L
  tab : Tb t (hsh HK L)
  nd : (L.map (·.2)).Nodup
  mem : ∀ p ∈ L, HK.is h p.2 p.1
  led : w.params.followText "set-order" = true ∨ t.led = true
  room : L.length * 5 < t.mask * 3
  few : L.length < 4096
variable {A : Around} {E : Value → Shared → Prop} {s : Shared} {a : Addr} {L : List (Addr × κ)} {es : Array (Int × Value)} {ep : Nat} {t : SetTable}
theorem hsh_len : (hsh HK L).length = L.length := List.length_map _
theorem row_size (h : es.toList = rowsG HK L) : es.size = L.length := by
  have := congrArg List.length h
  unfold rowsG at this
  simpa using this
theorem StG.fits (R : StG HK s.heap a L es ep t) : t.fits es.size = true := by
  have a := R.tab.sz
  have b := row_size R.row
  have c := R.room
  rw [hsh_len] at a
  unfold SetTable.fits SetTable.fill
  rw [R.tab.dm, Bool.and_eq_true, beq_iff_eq, decide_eq_true_eq]
  refine ⟨by omega, ?_⟩
  show t.place.size + 0 ≤ t.mask
  omega
theorem StG.at_ (R : StG HK s.heap a L es ep t) {i : Nat} {p : Addr × κ} (h : L[i]? = some p) : es[i]? = some (HK.hash p.2, Value.ref p.1) := by
  have e : es.toList[i]? = _ := congrArg (·[i]?) R.row
  rw [Array.getElem?_toList] at e
  rw [e]
  unfold rowsG
  simp [h]
theorem StG.whole (R : StG HK s.heap a L es ep t) : ¬ t.gaveWay = true := by
  unfold SetTable.gaveWay
  rw [R.tab.mg.odd]
  decide
/-- the c-th state of a search -/
abbrev pr (t : SetTable) (h : Int) (c : Nat) : SetTable.Probe := nth t.mask (runAt t.mask (SetTable.bits h % (t.mask + 1)) (SetTable.bits h)) c
theorem pr_add (t : SetTable) (h : Int) (c q : Nat) : nth t.mask (pr t h c) q = pr t h (c + q) := (nth_add t.mask c _ q).symm
theorem nth_dummy (m : Nat) : ∀ (n : Nat) (p : SetTable.Probe), p.dummy = none → (nth m p n).dummy = none
  | 0, _, h => h
  | n + 1, p, h => nth_dummy m n (adv m p) (by unfold adv; split <;> exact h)
/-- what a probe from the c-th state on meets -/
theorem probe_meets {hs : List Int} (T : Tb t hs) {h : Int} {K c : Nat} (hK : Hole t h K) (lt : K < 10 * SetTable.turns t.mask) (hc : c ≤ K) (f : Nat → Int) :
    (∃ q i, c ≤ q ∧ q < K ∧ t.place.toList[i]? = some (way t.mask h q) ∧ f i = h ∧ (∀ c' i', c ≤ c' → c' < q → t.place.toList[i']? = some (way t.mask h c') → f i' ≠ h) ∧
      t.probe f h (pr t h c) = some (.candidate (way t.mask h q) i (pr t h (q + 1)))) ∨
    ((∀ c' i', c ≤ c' → c' < K → t.place.toList[i']? = some (way t.mask h c') → f i' ≠ h) ∧ t.probe f h (pr t h c) = some (.empty (way t.mask h K) none)) := by
  have j_at : ∀ q, (nth t.mask (pr t h c) q).j = way t.mask h (c + q) := fun q => by rw [pr_add]
  have all := go_spec t T.ris T.dm f h (10 * SetTable.turns t.mask) (K - c) (pr t h c) (nth_dummy _ _ _ rfl) (by omega) (fun q hq => by rw [j_at]; exact hK.2 _ (by omega))
    (by rw [j_at, show c + (K - c) = K by omega]; exact hK.1)
  rcases all with ⟨q, i, l, e1, e2, e3, e4⟩ | ⟨e3, e4⟩
  · refine .inl ⟨c + q, i, by omega, by omega, by rw [← j_at]; exact e1, e2, fun c' i' l1 l2 e => ?_, ?_⟩
    · refine e3 (c' - c) i' (by omega) ?_
      rw [j_at, show c + (c' - c) = c' by omega]
      exact e
    · rw [← j_at, show c + q + 1 = c + (q + 1) by omega, ← pr_add]
      exact e4
  · refine .inr ⟨fun c' i' l1 l2 e => ?_, ?_⟩
    · refine e3 (c' - c) i' (by omega) ?_
      rw [j_at, show c + (c' - c) = c' by omega]
      exact e
    · have e5 := j_at (K - c)
      rw [show c + (K - c) = K by omega] at e5
      rw [← e5]
      exact e4
/-- a search among such keys shows nothing -/
theorem unseen (M : Mild HK byv) {k : κ} {b : Addr} {Q : Bool → Shared → Prop} (hk : HK.is s.heap k b) {ys : List Value} (hy : ∀ y ∈ ys, ∃ k' c, y = Value.ref c ∧ HK.is s.heap k' c) (h : Q false s) :
    wpAny (model P w) A (searchCouldBeSeen (.ref b) ys) Q E s := by
  unfold searchCouldBeSeen
  apply wpAny_bind
  refine wpAny_forIn_list _ (fun rest r s' => r.1 = none ∧ s' = s ∧ ∀ y ∈ rest, ∃ k' c, y = Value.ref c ∧ HK.is s.heap k' c) _ ?step ?fin _ _ ⟨rfl, rfl, hy⟩
  case step =>
    intro v rest r s' z
    obtain ⟨hr, rfl, all⟩ := z
    obtain ⟨k', c, rfl, hc⟩ := all v (.head _)
    have more := fun u hu => all u (.tail _ hu)
    dsimp only
    by_cases q : (b == c || (carriedByValue (.ref b) && carriedByValue (.ref c))) = true
    · exact wp_if_pos q (wpAny_pure ⟨rfl, rfl, more⟩)
    · refine wp_if_neg q (wpAny_bind (HK.quiet hk ?_))
      simp only [Bool.not_true, Bool.false_eq_true, if_false]
      refine wpAny_bind (HK.quiet hc ?_)
      simp only [Bool.not_true, Bool.false_eq_true, if_false]
      refine wpAny_bind (M.cls hk ?_)
      simp only [Bool.false_eq_true, if_false]
      refine wpAny_bind (M.cls hc ?_)
      simp only [Bool.false_eq_true, if_false]
      exact wpAny_pure ⟨rfl, rfl, more⟩
  case fin =>
    rintro ⟨r1, r2⟩ s' ⟨hr, rfl, _⟩
    have hr : r1 = none := hr
    subst hr
    exact wpAny_pure h

/-- the search from the c-th state on -/
theorem search_on (M : Mild HK byv) (R : StG HK s.heap a L es ep t) {x : Addr} {k : κ} (hx : HK.is s.heap k x) (hu : A.units < cLine) {K : Nat} (lt : K < 10 * SetTable.turns t.mask) (hK : Hole t (HK.hash k) K)
    {Q : SetFound → Shared → Prop} (hin : k ∈ L.map (·.2) → Q (.there none) s) (hout : k ∉ L.map (·.2) → Q (.free (way t.mask (HK.hash k) K) false) s) :
    ∀ (f c : Nat) (from' : Option SetTable.Probe), from'.getD (t.probeStart (HK.hash k)) = pr t (HK.hash k) c → c ≤ K → K - c < f →
      (∀ (i : Nat) p, L[i]? = some p → p.2 = k → ∃ c', c ≤ c' ∧ c' < K ∧ t.place.toList[i]? = some (way t.mask (HK.hash k) c')) →
      wpAny (model P w) A (setSearchFrom a (.ref x) (HK.hash k) true f from') Q E s := by
  intro f
  induction f with
  | zero => intro c _ _ _ z; exact absurd z (Nat.not_lt_zero _)
  | succ f ih =>
    intro c from' hfrom hc hf ahead
    obtain ⟨o, ho, hex, hd⟩ := R.ob
    have hashAt : ∀ {i : Nat} {p : Addr × κ}, L[i]? = some p → (es[i]?.map (·.1)).getD 0 = HK.hash p.2 := fun h => by rw [R.at_ h]; rfl
    rw [setSearchFrom_succ]
    refine wpAny_bind (wpAny_setState_of ho hd R.fits ?_)
    dsimp only
    refine wp_if_neg R.whole ?_
    try refine wpAny_bind (wpAny_pure ?_)
    rw [hfrom]
    rcases probe_meets R.tab hK lt hc (fun i => (es[i]?.map (·.1)).getD 0) with ⟨q, i, l1, l2, hi, hh, no, met⟩ | ⟨no, met⟩
    · rw [met]
      dsimp only
      have il : i < L.length := by
        have a := (List.getElem?_eq_some_iff.mp hi).1
        have b := R.tab.sz
        rw [hsh_len] at b
        rw [Array.length_toList] at a
        omega
      obtain ⟨p, hp⟩ : ∃ p, L[i]? = some p := ⟨_, List.getElem?_eq_getElem il⟩
      have pin := List.mem_of_getElem? hp
      have live := slot_live R.tab.ris hi
      have go : wpAny (model P w) A (searchRest a (.ref x) (HK.hash k) true f es t (way t.mask (HK.hash k) q) i (pr t (HK.hash k) (q + 1))) Q E s := by
        unfold searchRest
        rw [R.at_ hp]
        dsimp only
        refine wpAny_bind (wpAny_holding (HK.eqBool (M.rm hu) (R.mem p pin) hx (wpAny_bind (wpAny_setState_of ho hd R.fits ?_))))
        dsimp only
        by_cases same : p.2 = k
        · exact wp_if_pos (by simp [same]) (wpAny_pure (hin (List.mem_map.mpr ⟨p, pin, same⟩)))
        · refine wp_if_neg (by simp [same]) ?_
          try refine wpAny_bind (wpAny_pure ?_)
          rw [sameMem]
          dsimp only
          simp only [if_true, live, R.at_ hp]
          refine wpAny_bind (wpAny_isSame_ref_self (wpAny_bind (wpAny_pure ?_)))
          simp only [if_true]
          refine wp_if_neg (by simp [same]) (ih (q + 1) _ rfl (by omega) (by omega) ?_)
          intro i0 p0 h0 e0
          obtain ⟨c', b1, b2, b3⟩ := ahead i0 p0 h0 e0
          have h1 : (fun i => (es[i]?.map (·.1)).getD 0) i0 = HK.hash k := (hashAt h0).trans (congrArg HK.hash e0)
          refine ⟨c', ?_, b2, b3⟩
          rcases Nat.lt_trichotomy c' q with z | z | z
          · exact absurd h1 (no c' i0 b1 z b3)
          · subst z
            have l0 := slot_live R.tab.ris b3
            rw [live] at l0
            injection l0 with l0
            subst l0
            rw [hp] at h0
            cases h0
            exact absurd e0 same
          · exact z
      cases hl : t.led with
      | true =>
        refine wp_if_neg (by simp) ?_
        try refine wpAny_bind (wpAny_pure ?_)
        exact go
      | false =>
        refine wp_if_pos (by simp) (wpAny_bind (unseen M hx ?_ ?_))
        · intro y hy
          obtain ⟨e, he, rfl⟩ := List.mem_map.mp hy
          have he : e ∈ es.toList := by simp at he; simpa using he.1
          rw [R.row] at he
          obtain ⟨p2, m2, rfl⟩ := List.mem_map.mp he
          exact ⟨p2.2, p2.1, rfl, R.mem p2 m2⟩
        · refine wp_if_neg (by decide) ?_
          try refine wpAny_bind (wpAny_pure ?_)
          exact go
    · rw [met]
      dsimp only
      refine wpAny_pure (hout fun z => ?_)
      obtain ⟨p0, m0, e0⟩ := List.mem_map.mp z
      obtain ⟨i0, h0⟩ := List.getElem?_of_mem m0
      obtain ⟨c', b1, b2, b3⟩ := ahead i0 p0 h0 e0
      exact no c' i0 b1 b2 b3 ((hashAt h0).trans (congrArg HK.hash e0))
theorem search_all (M : Mild HK byv) (R : StG HK s.heap a L es ep t) {x : Addr} {k : κ} (hx : HK.is s.heap k x) (hu : A.units < cLine) {Q : SetFound → Shared → Prop}
    (hin : k ∈ L.map (·.2) → Q (.there none) s) (hout : ∀ K, k ∉ L.map (·.2) → Hole t (HK.hash k) K → Q (.free (way t.mask (HK.hash k) K) false) s) :
    wpAny (model P w) A (setSearch a (.ref x) (HK.hash k) true) Q E s := by
  have room := R.room
  obtain ⟨K, lt, hK⟩ := R.tab.hole (by rw [hsh_len]; omega) (HK.hash k)
  have small : 10 * SetTable.turns t.mask ≤ 82060 := by
    have := R.tab.mg.top
    unfold SetTable.turns
    omega
  unfold setSearch
  refine search_on M R hx hu lt hK hin (fun z => hout K z hK) 100000 0 none rfl (Nat.zero_le _) (by omega) ?_
  intro i p hp e
  have il : i < t.place.toList.length := by
    have a := (List.getElem?_eq_some_iff.mp hp).1
    have b := R.tab.sz
    rw [hsh_len] at b
    rw [Array.length_toList]
    omega
  have hj := List.getElem?_eq_getElem il
  have hi : (hsh HK L)[i]? = some (HK.hash k) := by
    unfold hsh
    rw [List.getElem?_map, hp, ← e]
    rfl
  obtain ⟨c, b1, b2⟩ := R.tab.ahead hK hi hj
  exact ⟨c, Nat.zero_le _, b1, by rw [hj, b2]⟩
end
end BT

namespace BT
open PySem PySem.Spec PyProof.Rows L2
section
variable {P : Program} {w : World} {κ : Type} [DecidableEq κ] {HK : HeapKind P w κ} {byv : κ → Bool}
variable {A : Around} {E : Value → Shared → Prop} {s : Shared} {a : Addr} {L : List (Addr × κ)} {es : Array (Int × Value)} {ep : Nat} {t : SetTable}
theorem Mild.but (M : Mild HK byv) {h h' : Heap} {k : κ} {b : Addr} {o : Obj} (x : HK.is h k b) (ho : h.get? a = some o) (hd : o.data = .set es ep t) (hs : Heap.SameBut a h h') : HK.is h' k b := by
  refine M.stay (fun c oc vs n e d => ?_) x
  rw [hs.2 c (fun z => ?_)]
  · exact e
  · subst z
    rw [ho] at e
    cases e
    rw [hd] at d
    cases d
theorem Mild.grow (M : Mild HK byv) {h h' : Heap} {k : κ} {b : Addr} (x : HK.is h k b) (kp : ∀ c o, h.get? c = some o → h'.get? c = some o) : HK.is h' k b := M.stay (fun c o _ _ e _ => kp c o e) x
/-- the members in another order -/
theorem reorder {ord : Array Nat} (hr : es.toList = rowsG HK L) (hp : ord.toList.Perm (List.range L.length)) :
    ∃ L', (ord.filterMap (es[·]?)).toList = rowsG HK L' ∧ L'.Perm L ∧ hsh HK L' = ord.toList.map fun i => (es.map (·.1)).getD i 0 := by
  have sz := row_size hr
  have entry : ∀ {i : Nat} {p : Addr × κ}, L[i]? = some p → es[i]? = some (HK.hash p.2, Value.ref p.1) := by
    intro i p h
    have e : es.toList[i]? = _ := congrArg (·[i]?) hr
    rw [Array.getElem?_toList] at e
    rw [e]
    unfold rowsG
    simp [h]
  refine ⟨ord.toList.filterMap (L[·]?), ?_, ?_, ?_⟩
  · have both : ∀ l : List Nat, (∀ i ∈ l, i < L.length) → l.filterMap (es[·]?) = rowsG HK (l.filterMap (L[·]?)) := by
      intro l
      induction l with
      | nil => intro _; rfl
      | cons i l ih =>
        intro hl
        have hi := List.getElem?_eq_getElem (hl i (.head _))
        rw [List.filterMap_cons_some (entry hi), List.filterMap_cons_some hi, ih fun j hj => hl j (.tail _ hj)]
        rfl
    have e := both ord.toList fun i hi => List.mem_range.mp (hp.mem_iff.mp hi)
    rw [← e]
    simp
  · have e : (List.range L.length).filterMap (L[·]?) = L := by
      apply List.ext_getElem?
      have pre : ∀ n, n ≤ L.length → (List.range n).filterMap (L[·]?) = L.take n := by
        intro n
        induction n with
        | zero => intro _; rfl
        | succ n ih =>
          intro hn
          have hi := List.getElem?_eq_getElem (show n < L.length from hn)
          rw [List.range_succ, List.filterMap_append, ih (Nat.le_of_lt hn), List.filterMap_cons_some hi, List.take_succ, hi]
          rfl
      intro i
      rw [pre _ (Nat.le_refl _), List.take_length]
    have q := hp.filterMap (L[·]?)
    rwa [e] at q
  · have each : ∀ l : List Nat, (∀ i ∈ l, i < L.length) → hsh HK (l.filterMap (L[·]?)) = l.map fun i => (es.map (·.1)).getD i 0 := by
      intro l
      induction l with
      | nil => intro _; rfl
      | cons i l ih =>
        intro hl
        have hi := List.getElem?_eq_getElem (hl i (.head _))
        have z : (es.map (·.1)).getD i 0 = HK.hash (L[i]'(hl i (.head _))).2 := by
          simp [Array.getD_eq_getD_getElem?, entry hi]
        rw [List.filterMap_cons_some hi, List.map_cons, z, ← ih fun j hj => hl j (.tail _ hj)]
        rfl
    exact each _ fun i hi => List.mem_range.mp (hp.mem_iff.mp hi)
/-- the table, laid anew -/
theorem relay (M : Mild HK byv) {o : Obj} (ho : s.heap.get? a = some o) (hex : o.ExactSet) (hd : o.data = .set es ep t) (hr : es.toList = rowsG HK L) (sz : t.place.size = es.size) (dm : t.dummies = #[]) (fl : es.size ≤ t.mask)
    (nd : (L.map (·.2)).Nodup) (mem : ∀ p ∈ L, HK.is s.heap p.2 p.1) (ld : w.params.followText "set-order" = true ∨ t.led = true) (few : L.length < 4096) {wanted N : Nat}
    (hw : SetTable.sizeAbove wanted - 1 = N) (hN : MG N) (top : SetTable.sizeAbove wanted ≤ 8192) (rm : L.length * 5 < N * 3) {Q : Unit → Shared → Prop}
    (q : ∀ h' L' es' ep' t', Heap.SameBut a s.heap h' → StG HK h' a L' es' ep' t' → L'.Perm L → Q () { s with heap := h' }) : wpAny (model P w) A (setRelay a wanted) Q E s := by
  have hz := row_size hr
  have fits : t.fits es.size = true := by
    unfold SetTable.fits SetTable.fill
    rw [dm, Bool.and_eq_true, beq_iff_eq, decide_eq_true_eq]
    refine ⟨sz, ?_⟩
    show t.place.size + 0 ≤ t.mask
    omega
  obtain ⟨t', ord, e, hp, T, em, el⟩ := relaid_tb t (hs := es.map (·.1)) hw hN (by rw [Array.size_map]; omega)
  rw [Array.size_map, hz] at hp
  obtain ⟨L', r1, r2, r3⟩ := reorder hr hp
  rw [← r3] at T
  have z2 : (ord.filterMap (es[·]?)).size = es.size := by rw [row_size r1, r2.length_eq, hz]
  rw [setRelay_eq]
  refine wpAny_bind (wpAny_setState_of ho hd fits ?_)
  dsimp only
  refine wp_if_neg (by rw [sizeLine_eq]; omega) ?_
  try refine wpAny_bind (wpAny_pure ?_)
  rw [e]
  dsimp only
  apply wpAny_bind
  refine wp_if_neg (by rw [z2]; simp) ?_
  try refine wpAny_bind (wpAny_pure ?_)
  apply wpAny_pure
  dsimp only
  have sb : Heap.SameBut a s.heap (s.heap.update a (Obj.putSet (ord.filterMap (es[·]?)) t')) := Heap.SameBut.update ..
  refine wpAny_storeSet_of ho hd (q _ L' (ord.filterMap (es[·]?)) (ep + 1) t' sb ?_ r2) (by rw [z2, hz, sizeLine_eq]; omega)
  constructor
  · exact ⟨_, store_at ho hd, ⟨hex.1, hex.2.1, hex.2.2⟩, rfl⟩
  · exact r1
  · exact T
  · exact (r2.map (·.2)).nodup_iff.mpr nd
  · exact fun p m => M.but (mem p (r2.mem_iff.mp m)) ho hd sb
  · rw [el]; exact ld
  · rw [r2.length_eq, em]; exact rm
  · rw [r2.length_eq]; exact few
/-- one more is added, or stands there -/
theorem add_one (M : Mild HK byv) (R : StG HK s.heap a L es ep t) {x : Addr} {k : κ} (hx : HK.is s.heap k x) (hu : A.units < cLine) (few : L.length + 1 < 4096) {Q : Bool → Shared → Prop}
    (q : ∀ b h' L' es' ep' t', Heap.SameBut a s.heap h' → StG HK h' a L' es' ep' t' → (k ∈ L.map (·.2) → L' = L) → (k ∉ L.map (·.2) → L'.Perm ((x, k) :: L)) → Q b { s with heap := h' }) :
    wpAny (model P w) A (setAddHashed a (.ref x) (HK.hash k)) Q E s := by
  obtain ⟨o, ho, hex, hd⟩ := R.ob
  have sz := row_size R.row
  have room := R.room
  unfold setAddHashed
  apply wpAny_holding
  rw [show (100000 : Nat) = 99999 + 1 from rfl, setAddHashedIn_succ]
  refine wpAny_bind (wpAny_setState_of ho hd R.fits ?_)
  dsimp only
  refine wp_if_neg (by simp [byScan, Value.scannable]) ?_
  try refine wpAny_bind (wpAny_pure ?_)
  refine wpAny_bind (search_all M R hx hu ?there ?hole)
  case there =>
    intro z
    dsimp only
    exact wpAny_pure (q false s.heap L es ep t (Heap.SameBut.refl a s.heap) R (fun _ => rfl) fun y => absurd z y)
  case hole =>
    intro K new hK
    dsimp only
    refine wpAny_bind (wpAny_setState_of ho hd R.fits ?_)
    dsimp only
    generalize ej : way t.mask (HK.hash k) K = j
    generalize epp : SetTable.below t.place j = p
    obtain ⟨lp, T, fill⟩ := R.tab.put hK ej epp
    have two : (t.put j).2 = p := epp
    have m1 : (t.put j).1.mask = t.mask := rfl
    have m2 : (t.put j).1.led = t.led := rfl
    generalize t.put j = pt at T fill two m1 m2 ⊢
    obtain ⟨t1, p1⟩ := pt
    dsimp only at T fill two m1 m2 ⊢
    subst two
    rw [hsh_len] at lp
    have ins : (SetTable.insertAt es p1 (HK.hash k, Value.ref x)).toList = rowsG HK (L.take p1 ++ (x, k) :: L.drop p1) := by
      rw [SetTable.toList_insertAt, R.row]
      unfold rowsG
      simp
    have hins : hsh HK (L.take p1 ++ (x, k) :: L.drop p1) = (hsh HK L).take p1 ++ HK.hash k :: (hsh HK L).drop p1 := by
      unfold hsh
      simp
    rw [← hins] at T
    have pm := put_perm L p1 (x, k)
    generalize L.take p1 ++ (x, k) :: L.drop p1 = L1 at ins T pm
    have l1 : L1.length = L.length + 1 := pm.length_eq
    have nd1 : (L1.map (·.2)).Nodup := (pm.map (·.2)).nodup_iff.mpr (List.nodup_cons.mpr ⟨new, R.nd⟩)
    have sz1 := row_size ins
    generalize SetTable.insertAt es p1 (HK.hash k, Value.ref x) = es1 at ins sz1 ⊢
    -- from here on the table t2, plain or not
    have main : ∀ t2 : SetTable, t2.mask = t1.mask → t2.place = t1.place → t2.dummies = t1.dummies → t2.led = t1.led →
        wpAny (model P w) A (do
          storeSet a es1 t2
          if !false && t2.tooFull then setRelay a (SetTable.grown (es.size + 1))
          return true) Q E s := by
      intro t2 b1 b2 b3 b4
      have T2 : Tb t2 (hsh HK L1) := ⟨by rw [b2]; exact T.ris, by rw [b3]; exact T.dm, by rw [b2]; exact T.sz, by rw [b1]; exact T.mg, by rw [b1, b2]; exact T.back⟩
      have fill2 : t2.fill = L.length + 1 := by
        have : t2.fill = t1.fill := by unfold SetTable.fill; rw [b2, b3]
        rw [this, fill, hsh_len]
      refine wpAny_bind (wpAny_storeSet_of ho hd ?_ (by rw [sz1, l1, sizeLine_eq]; omega))
      have sb : Heap.SameBut a s.heap (s.heap.update a (Obj.putSet es1 t2)) := Heap.SameBut.update ..
      have ho1 := store_at (es' := es1) (t' := t2) ho hd
      generalize s.heap.update a (Obj.putSet es1 t2) = h1 at sb ho1 ⊢
      have mem1 : ∀ p ∈ L1, HK.is h1 p.2 p.1 := by
        intro p hp
        rcases List.mem_cons.mp (pm.mem_iff.mp hp) with rfl | hp
        · exact M.but hx ho hd sb
        · exact M.but (R.mem p hp) ho hd sb
      have ld : w.params.followText "set-order" = true ∨ t2.led = true := by rw [b4, m2]; exact R.led
      have ex1 : ({ o with data := .set es1 (ep + 1) t2 } : Obj).ExactSet := ⟨hex.1, hex.2.1, hex.2.2⟩
      by_cases full : t2.tooFull = true
      · have over := full
        unfold SetTable.tooFull at over
        rw [decide_eq_true_eq, fill2, b1, m1] at over
        obtain ⟨N, n1, n2, n3, n4⟩ := grow_ok R.tab.mg room over few
        have end' : wpAny (model P w) A (setRelay a (SetTable.grown (es.size + 1))) (fun _ s' => wpAny (model P w) A (pure true) Q E s') E { s with heap := h1 } := by
          rw [sz]
          refine relay (s := { s with heap := h1 }) M ho1 ex1 rfl ins ?_ T2.dm ?_ nd1 mem1 ld (by omega) n1 n2 n3 (by rw [l1]; exact n4) ?_
          · rw [T2.sz, hsh_len, sz1]
          · rw [b1, m1, sz1, l1]; omega
          · intro h2 L2 es2 ep2 t3 sb2 R2 pm2
            exact wpAny_pure (q true h2 L2 es2 ep2 t3 (sb.trans sb2) R2 (fun z => absurd z new) fun _ => pm2.trans pm)
        first
          | (refine wpAny_bind ?_; refine wp_if_pos (by simp [full]) ?_; exact end')
          | (refine wp_if_pos (by simp [full]) ?_; refine wpAny_bind ?_; exact end')
      · have under := full
        unfold SetTable.tooFull at under
        rw [decide_eq_true_eq, fill2, b1, m1] at under
        have fine : wpAny (model P w) A (pure true) Q E { s with heap := h1 } := by
          refine wpAny_pure (q true h1 L1 es1 (ep + 1) t2 sb ⟨⟨_, ho1, ex1, rfl⟩, ins, T2, nd1, mem1, ld, ?_, by omega⟩ (fun z => absurd z new) fun _ => pm)
          rw [l1, b1, m1]
          omega
        first
          | (refine wp_if_neg (by simp [full]) ?_; exact fine)
          | (refine wpAny_bind ?_; refine wp_if_neg (by simp [full]) ?_; refine wpAny_pure ?_; exact fine)
    cases hpl : t1.plain with
    | true =>
      simp only [if_true]
      refine wpAny_bind (M.val hx ?_)
      cases hb : byv k with
      | true => simp only [if_true]; exact main t1 rfl rfl rfl rfl
      | false => simp only [Bool.false_eq_true, if_false]; exact main { t1 with plain := false } rfl rfl rfl rfl
    | false =>
      simp only [Bool.false_eq_true, if_false]
      try refine wpAny_bind (wpAny_pure ?_)
      simp only [if_true]
      exact main t1 rfl rfl rfl rfl
end
end BT

namespace BT
open PySem PySem.Spec PyProof.Rows L2
section
variable {P : Program} {w : World} {κ : Type} [DecidableEq κ] {HK : HeapKind P w κ} {byv : κ → Bool}
variable {A : Around} {E : Value → Shared → Prop} {s : Shared}
/-- L: the first i of ks, each key once -/
structure Upto (ks : List (Addr × κ)) (i : Nat) (L : List (Addr × κ)) : Prop where
  sub : ∀ p ∈ L, p ∈ ks
  all : ∀ (j : Nat) p, j < i → ks[j]? = some p → p.2 ∈ L.map (·.2)
  nd : (L.map (·.2)).Nodup
  len : L.length ≤ i
theorem Upto.step {ks L L' : List (Addr × κ)} {i : Nat} {x : Addr × κ} (g : Upto ks i L) (h : ks[i]? = some x) (nd : (L'.map (·.2)).Nodup) (c1 : x.2 ∈ L.map (·.2) → L' = L) (c2 : x.2 ∉ L.map (·.2) → L'.Perm (x :: L)) : Upto ks (i + 1) L' := by
  by_cases m : x.2 ∈ L.map (·.2)
  · obtain rfl := c1 m
    refine ⟨g.sub, fun j p hj e => ?_, nd, Nat.le_succ_of_le g.len⟩
    rcases Nat.lt_or_eq_of_le (Nat.le_of_lt_succ hj) with z | rfl
    · exact g.all j p z e
    · rw [h] at e; cases e; exact m
  · have pm := c2 m
    refine ⟨fun p hp => ?_, fun j p hj e => ?_, nd, ?_⟩
    · rcases List.mem_cons.mp (pm.mem_iff.mp hp) with rfl | z
      · exact List.mem_of_getElem? h
      · exact g.sub p z
    · rw [(pm.map (·.2)).mem_iff, List.map_cons]
      rcases Nat.lt_or_eq_of_le (Nat.le_of_lt_succ hj) with z | rfl
      · exact .tail _ (g.all j p z e)
      · rw [h] at e; cases e; exact .head _
    · rw [pm.length_eq]; exact Nat.succ_le_succ g.len
abbrev emptyT (w : World) : SetTable := .fresh 0 0 (!w.params.followText "set-order")
abbrev emptyO (w : World) : Obj := { cls := .type "set", dict := none, data := .set #[] 0 (emptyT w) }
theorem StG.empty {h : Heap} {a : Addr} (ho : h.get? a = some (emptyO w)) : StG HK h a [] #[] 0 (emptyT w) := by
  have tb : Tb (emptyT w) (hsh HK ([] : List (Addr × κ))) := ⟨List.Pairwise.nil, rfl, rfl, .inl rfl, fun i h j e => nomatch (show ([] : List Int)[i]? = some h from e)⟩
  refine ⟨⟨_, ho, ⟨rfl, rfl, rfl⟩, rfl⟩, rfl, tb, List.nodup_nil, (fun p hp => nomatch hp), ?_, by show 0 * 5 < 7 * 3; decide, by show 0 < 4096; decide⟩
  show (w.params.followText "set-order" = true ∨ (!w.params.followText "set-order") = true)
  cases w.params.followText "set-order" with
  | true => exact .inl rfl
  | false => exact .inr rfl
theorem StG.keep (M : Mild HK byv) {h h' : Heap} {a : Addr} {L : List (Addr × κ)} {es : Array (Int × Value)} {ep : Nat} {t : SetTable} (R : StG HK h a L es ep t) (ha : ∀ o, h.get? a = some o → h'.get? a = some o) (hm : ∀ p ∈ L, HK.is h' p.2 p.1) : StG HK h' a L es ep t := by
  obtain ⟨o, ho, r⟩ := R.ob
  exact { R with ob := ⟨o, ha o ho, r⟩, mem := hm }
/-- the loop of an update -/
theorem upd_loop (M : Mild HK byv) {I : Addr} {fp wr : List Addr} {G : Array GenState → Array GenState → Prop} {n : Nat} {Pv : Nat → Value → Prop} {St : Nat → Shared → Prop} {R : Result → Shared → Prop}
    (W : WalksS P w A.in1 I fp wr G n Pv St) (S : Addr) (hSf : S ∉ fp) (ks : List (Addr × κ)) (hn : n = ks.length) (few : ks.length < 4096) (hv : ∀ i v, Pv i v → ∃ p, ks[i]? = some p ∧ v = .ref p.1)
    (h0 : Heap) (hk : ∀ p ∈ ks, HK.is h0 p.2 p.1) (free : h0.get? S = none) (wfree : ∀ b ∈ wr, h0.get? b = none) (hu : A.in1.units < cLine) :
    ∀ (k i : Nat) (s : Shared), n - i = k → i ≤ n → St i s → (∀ b o, h0.get? b = some o → s.heap.get? b = some o) → (∃ L es ep t, StG HK s.heap S L es ep t ∧ Upto ks i L) →
      (∀ s' L es ep t, Moved (S :: wr) G s s' → StG HK s'.heap S L es ep t → Upto ks n L → (∀ b o, h0.get? b = some o → s'.heap.get? b = some o) → R (.ok (.ret .none)) s') →
      codeAny (model P w) A (.builtin "set.update.loop" ⟨[.ref S, .ref I], []⟩) R s := by
  have nw : S ∉ wr := fun h => hSf (W.sub _ h)
  have more : ∀ b ∈ wr, b ∈ S :: wr := fun b hb => .tail _ hb
  have still : ∀ {s s' : Shared}, Moved wr G s s' → (∀ b o, h0.get? b = some o → s.heap.get? b = some o) → ∀ b o, h0.get? b = some o → s'.heap.get? b = some o := by
    intro s s' hm kp b o e
    refine hm.heap b o (fun hb => ?_) (kp b o e)
    rw [wfree b hb] at e
    cases e
  intro k
  induction k with
  | zero =>
    intro i s hk' hi hst kp ⟨L, es, ep, t, hS, g⟩ hR
    obtain rfl : i = n := by omega
    refine codeAny_builtin F.entry_set_update_loop ?_
    rw [Around.under_plainId F.plain_set_update_loop _]
    show wpAny _ A.in1 (pyNext (.ref I) >>= _) _ _ s
    refine wpAny_bind (W.done s _ _ hst ?_)
    intro s' hm
    have kp' := still hm kp
    show wpAny _ A.in1 (ret Value.none) _ _ s'
    exact wpAny_pure (hR s' L es ep t (hm.mono more) (hS.keep M (fun o e => hm.heap S o nw e) fun p hp => M.grow (hk p (g.sub p hp)) kp') g kp')
  | succ k ih =>
    intro i s hk' hi hst kp ⟨L, es, ep, t, hS, g⟩ hR
    have lt : i < n := by omega
    refine codeAny_builtin F.entry_set_update_loop ?_
    rw [Around.under_plainId F.plain_set_update_loop _]
    show wpAny _ A.in1 (pyNext (.ref I) >>= _) _ _ s
    refine wpAny_bind (W.item i s _ _ lt hst ?_)
    intro v s' hP hst' hm
    obtain ⟨p, hp, rfl⟩ := hv i v hP
    have kp' := still hm kp
    have hS' : StG HK s'.heap S L es ep t := hS.keep M (fun o e => hm.heap S o nw e) fun q hq => M.grow (hk q (g.sub q hq)) kp'
    have hx : HK.is s'.heap p.2 p.1 := M.grow (hk p (List.mem_of_getElem? hp)) kp'
    show wpAny _ A.in1 (holding [Value.ref p.1] (setAdd S (.ref p.1)) >>= _) _ _ s'
    refine wpAny_bind (wpAny_holding ?_)
    unfold setAdd
    refine wpAny_holding (wpAny_bind (HK.pyHash (M.rm hu) hx ?_))
    refine add_one (s := { s' with toks := s'.toks + HK.draws p.2 }) M hS' hx hu (by have := g.len; omega) ?_
    intro b h' L' es' ep' t' sb hS2 c1 c2
    have g' : Upto ks (i + 1) L' := g.step hp hS2.nd c1 c2
    have kp2 : ∀ b o, h0.get? b = some o → h'.get? b = some o := by
      intro b o e
      rw [sb.2 b (fun z => by rw [z, free] at e; cases e)]
      exact kp' b o e
    refine wpAny_pure ⟨plainId_quiet F.plain_set_update_loop _, ih (i + 1) _ (by omega) lt (W.frame _ s' _ _ hst' (Nat.le_add_right _ _) ?_) kp2 ⟨L', es', ep', t', hS2, g'⟩ ?_⟩
    · intro b hb o e
      rw [sb.2 b (fun h : b = S => hSf (h ▸ hb))]
      exact e
    · intro s'' L2 es2 ep2 t2 hm'' hS'' g'' kp''
      refine hR s'' L2 es2 ep2 t2 (Moved.trans W.gtrans ((hm.mono more).then_heap (Nat.le_add_right _ _) ?_) hm'') hS'' g'' kp''
      intro b o hb e
      rw [sb.2 b (fun h : b = S => hb (h ▸ .head _))]
      exact e
set_option maxRecDepth 100000 in
set_option maxHeartbeats 3200000 in
/-- set(xs), xs a list -/
theorem set_of_list (M : Mild HK byv) {l : Addr} {its : Array Value} (ks : List (Addr × κ)) {Q : Value → Shared → Prop} (hh : A.handled = none) (hl : s.heap.IsList l its) (hit : its.toList = ks.map fun p => Value.ref p.1)
    (hk : ∀ p ∈ ks, HK.is s.heap p.2 p.1) (few : ks.length < 4096) (hu : A.units + 3 < cLine)
    (q : ∀ (h' : Heap) (tk : Nat) L es ep t, StG HK h' s.heap.objs.size L es ep t → Upto ks ks.length L → (∀ b o, s.heap.get? b = some o → h'.get? b = some o) → Q (.ref s.heap.objs.size) { s with heap := h', toks := tk }) :
    wpAny (model P w) A (call (.type "set") [.ref l]) Q E s := by
  have sz : its.size = ks.length := by
    have e := congrArg List.length hit
    simpa using e
  obtain ⟨c, tl, hmro⟩ := F.called_set.mro
  have hmade := F.called_set.made
  have hsub := F.called_set.sub
  refine wpAny_call (codeAny_of_tree ?_)
  show wpAny _ _ (callAny (.type "set") _) _ _ _
  apply wpAny_pure
  refine ⟨Code.quiet_builtin _ (by decide +kernel), codeAny_builtin F.entry_type_call ?_⟩
  rw [Around.under_plain (weight_type_call_type "set" [.ref l] []) rfl]
  have h1 := F.called_set.notType
  have h2 := F.called_set.canCreate
  have hct := F.typeCall_set_1 (.ref l)
  repeat (any_goals (first | assumption | wp_step))
  refine codeAny_mono (code_set_led1 (.ref l) (E := E) (Q₁ := fun o s₁ => o = .ref s.heap.objs.size ∧ s₁ = { s with heap := s.heap.push (emptyO w) }) ⟨rfl, rfl⟩) ?_
  intro r s₁ hr
  match r, hr with
  | .error e, hr => exact hr
  | .ok .next, hr => exact hr.elim
  | .ok .brk, hr => exact hr.elim
  | .ok .cont, hr => exact hr.elim
  | .ok (.ret o), hr =>
    obtain ⟨rfl, rfl⟩ := hr
    have at_S : (s.heap.push (emptyO w)).get? s.heap.objs.size = some (emptyO w) := Heap.get?_push_size _ rfl
    have hT : Shared.TypeIs { s with heap := s.heap.push (emptyO w) } (.ref s.heap.objs.size) "set" := ⟨_, at_S, rfl⟩
    have hli := F.called_set.init.lookup
    have hbi := F.called_set.init.bind (.ref s.heap.objs.size)
    repeat (any_goals (first | assumption | wp_step))
    refine codeAny_mono (codeAny_call_builtin (R := wants (fun r s₂ => r = .none ∧ ∃ h' tk L es ep t, s₂ = { s with heap := h', toks := tk } ∧ StG HK h' s.heap.objs.size L es ep t ∧ Upto ks ks.length L ∧ (∀ b o, s.heap.get? b = some o → h'.get? b = some o)) E)
      F.called_set.init.plain F.entry_set_init (check_set_init_1 hT ?init)) ?fin
    case fin =>
      intro r₂ s₂ z
      match r₂, z with
      | .error e, z => exact z
      | .ok .next, z => exact z.elim
      | .ok .brk, z => exact z.elim
      | .ok .cont, z => exact z.elim
      | .ok (.ret r), z =>
        obtain ⟨rfl, h', tk, L, es, ep, t, rfl, z1, z2, z3⟩ := z
        repeat (any_goals (first | assumption | wp_step))
        exact q _ _ _ _ _ _ z1 z2 z3
    case init =>
      have lS : l < s.heap.objs.size := by
        obtain ⟨o, ho, _⟩ := hl
        exact Heap.lt_size ho
      have hlS : (s.heap.push (emptyO w)).IsList l its := by
        obtain ⟨o, ho, r⟩ := hl
        exact ⟨o, Heap.get?_push_of_some _ ho, r⟩
      have size1 : (s.heap.push (emptyO w)).objs.size = s.heap.objs.size + 1 := Heap.size_push ..
      have nothing : ∀ b, s.heap.objs.size ≤ b → s.heap.get? b = none := by
        intro b hb
        cases e : s.heap.get? b with
        | none => rfl
        | some o => exact absurd (Heap.lt_size e) (Nat.not_lt.mpr hb)
      obtain ⟨ol, hol, hcl, nl, hdl⟩ := id hl
      obtain ⟨ocls, odict, odata, oslots⟩ := ol
      simp only at hcl hdl
      subst hcl; subst hdl
      have hol' : (s.heap.push (emptyO w)).get? l = some { cls := .type "list", dict := odict, data := .seq its nl, slots := oslots } := Heap.get?_push_of_some _ hol
      have hs1 := F.sub_list_set
      have hs2 := F.sub_list_frozenset
      have hs3 : (Value.type "list" == Value.type "dict") = false := by decide
      unfold Builtin.«set.__init__» noKeywords Builtin.Frozenset.updateFrom
      generalize hPI : pyIter = PI
      wp_walk
      subst hPI
      refine wpAny_pyIter_list hlS (wpAny_bind (wpAny_runValue ?_))
      have ne1 : l ≠ (s.heap.push (emptyO w)).objs.size := by rw [size1]; exact Nat.ne_of_lt (Nat.lt_succ_of_lt lS)
      have ne2 : s.heap.objs.size ∉ [(s.heap.push (emptyO w)).objs.size, l] := by
        rw [size1]
        simp only [List.mem_cons, List.not_mem_nil, or_false, not_or]
        exact ⟨Nat.ne_of_lt (Nat.lt_succ_self _), Nat.ne_of_gt lS⟩
      have val : ∀ (i : Nat) (v : Value), its[i]? = some v → ∃ p, ks[i]? = some p ∧ v = .ref p.1 := by
        intro i v e
        rw [← Array.getElem?_toList, hit, List.getElem?_map] at e
        obtain ⟨p, e1, e2⟩ := Option.map_eq_some_iff.mp e
        exact ⟨p, e1, e2.symm⟩
      refine upd_loop M ((Walks.list (show A.in1.in1.in1.handled = none by simp [hh]) _ l ne1 its).toS) s.heap.objs.size ne2 ks sz few val s.heap hk (nothing _ (Nat.le_refl _)) (fun b hb => nothing b ?low) hu
        (its.size - 0) 0 _ (by omega) (Nat.zero_le _) ⟨⟨_, Heap.get?_push_size _ rfl, rfl, rfl⟩, (hlS.push _)⟩ (fun b o e => Heap.get?_push_of_some _ (Heap.get?_push_of_some _ e)) ⟨[], #[], 0, _, StG.empty (Heap.get?_push_of_some _ at_S), ⟨(fun p hp => nomatch hp), fun j p hj _ => absurd hj (Nat.not_lt_zero _), List.nodup_nil, Nat.le_refl _⟩⟩ ?after
      case low =>
        rw [List.mem_singleton.mp hb, size1]
        exact Nat.le_succ _
      case after =>
        intro s' L es ep t hm hS' g' kp
        obtain ⟨h', g2, d', tk', os'⟩ := s'
        obtain rfl : g2 = s.gens := hm.gens
        obtain rfl : d' = s.drawn := hm.drawn
        obtain rfl : os' = s.os := hm.os
        show wpAny _ _ _ _ _ _
        refine wpAny_pure ?_
        show wpAny _ _ (ret Value.none) _ _ _
        rw [sz] at g'
        exact wpAny_pure ⟨rfl, h', tk', L, es, ep, t, rfl, hS', g', kp⟩
end
end BT

namespace BT
open PySem PySem.Spec PyProof.Rows L2
section
variable {P : Program} {w : World} {κ : Type} [DecidableEq κ] {HK : HeapKind P w κ} {byv : κ → Bool}
variable {A : Around} {E : Value → Shared → Prop} {s : Shared}
set_option maxRecDepth 100000 in
set_option maxHeartbeats 3200000 in
/-- set(xs), xs a tuple -/
theorem set_of_tuple (M : Mild HK byv) {l : Addr} {its : Array Value} (ks : List (Addr × κ)) {Q : Value → Shared → Prop} (hh : A.handled = none) (hl : s.heap.IsTuple l its) (hit : its.toList = ks.map fun p => Value.ref p.1)
    (hk : ∀ p ∈ ks, HK.is s.heap p.2 p.1) (few : ks.length < 4096) (hu : A.units + 3 < cLine)
    (q : ∀ (h' : Heap) (tk : Nat) L es ep t, StG HK h' s.heap.objs.size L es ep t → Upto ks ks.length L → (∀ b o, s.heap.get? b = some o → h'.get? b = some o) → Q (.ref s.heap.objs.size) { s with heap := h', toks := tk }) :
    wpAny (model P w) A (call (.type "set") [.ref l]) Q E s := by
  have sz : its.size = ks.length := by
    have e := congrArg List.length hit
    simpa using e
  obtain ⟨c, tl, hmro⟩ := F.called_set.mro
  have hmade := F.called_set.made
  have hsub := F.called_set.sub
  refine wpAny_call (codeAny_of_tree ?_)
  show wpAny _ _ (callAny (.type "set") _) _ _ _
  apply wpAny_pure
  refine ⟨Code.quiet_builtin _ (by decide +kernel), codeAny_builtin F.entry_type_call ?_⟩
  rw [Around.under_plain (weight_type_call_type "set" [.ref l] []) rfl]
  have h1 := F.called_set.notType
  have h2 := F.called_set.canCreate
  have hct := F.typeCall_set_1 (.ref l)
  repeat (any_goals (first | assumption | wp_step))
  refine codeAny_mono (code_set_led1 (.ref l) (E := E) (Q₁ := fun o s₁ => o = .ref s.heap.objs.size ∧ s₁ = { s with heap := s.heap.push (emptyO w) }) ⟨rfl, rfl⟩) ?_
  intro r s₁ hr
  match r, hr with
  | .error e, hr => exact hr
  | .ok .next, hr => exact hr.elim
  | .ok .brk, hr => exact hr.elim
  | .ok .cont, hr => exact hr.elim
  | .ok (.ret o), hr =>
    obtain ⟨rfl, rfl⟩ := hr
    have at_S : (s.heap.push (emptyO w)).get? s.heap.objs.size = some (emptyO w) := Heap.get?_push_size _ rfl
    have hT : Shared.TypeIs { s with heap := s.heap.push (emptyO w) } (.ref s.heap.objs.size) "set" := ⟨_, at_S, rfl⟩
    have hli := F.called_set.init.lookup
    have hbi := F.called_set.init.bind (.ref s.heap.objs.size)
    repeat (any_goals (first | assumption | wp_step))
    refine codeAny_mono (codeAny_call_builtin (R := wants (fun r s₂ => r = .none ∧ ∃ h' tk L es ep t, s₂ = { s with heap := h', toks := tk } ∧ StG HK h' s.heap.objs.size L es ep t ∧ Upto ks ks.length L ∧ (∀ b o, s.heap.get? b = some o → h'.get? b = some o)) E)
      F.called_set.init.plain F.entry_set_init (check_set_init_1 hT ?init)) ?fin
    case fin =>
      intro r₂ s₂ z
      match r₂, z with
      | .error e, z => exact z
      | .ok .next, z => exact z.elim
      | .ok .brk, z => exact z.elim
      | .ok .cont, z => exact z.elim
      | .ok (.ret r), z =>
        obtain ⟨rfl, h', tk, L, es, ep, t, rfl, z1, z2, z3⟩ := z
        repeat (any_goals (first | assumption | wp_step))
        exact q _ _ _ _ _ _ z1 z2 z3
    case init =>
      have lS : l < s.heap.objs.size := by
        obtain ⟨o, ho, _⟩ := hl
        exact Heap.lt_size ho
      have hlS : (s.heap.push (emptyO w)).IsTuple l its := by
        obtain ⟨o, ho, r⟩ := hl
        exact ⟨o, Heap.get?_push_of_some _ ho, r⟩
      have size1 : (s.heap.push (emptyO w)).objs.size = s.heap.objs.size + 1 := Heap.size_push ..
      have nothing : ∀ b, s.heap.objs.size ≤ b → s.heap.get? b = none := by
        intro b hb
        cases e : s.heap.get? b with
        | none => rfl
        | some o => exact absurd (Heap.lt_size e) (Nat.not_lt.mpr hb)
      obtain ⟨ol, hol, hcl, nl, hdl⟩ := id hl
      obtain ⟨ocls, odict, odata, oslots⟩ := ol
      simp only at hcl hdl
      subst hcl; subst hdl
      have hol' : (s.heap.push (emptyO w)).get? l = some { cls := .type "tuple", dict := odict, data := .seq its nl, slots := oslots } := Heap.get?_push_of_some _ hol
      have hs1 := F.sub_tuple_set
      have hs2 := F.sub_tuple_frozenset
      have hs3 : (Value.type "tuple" == Value.type "dict") = false := by decide
      unfold Builtin.«set.__init__» noKeywords Builtin.Frozenset.updateFrom
      generalize hPI : pyIter = PI
      wp_walk
      subst hPI
      refine wpAny_pyIter_tuple hlS (wpAny_bind (wpAny_runValue ?_))
      have ne1 : l ≠ (s.heap.push (emptyO w)).objs.size := by rw [size1]; exact Nat.ne_of_lt (Nat.lt_succ_of_lt lS)
      have ne2 : s.heap.objs.size ∉ [(s.heap.push (emptyO w)).objs.size, l] := by
        rw [size1]
        simp only [List.mem_cons, List.not_mem_nil, or_false, not_or]
        exact ⟨Nat.ne_of_lt (Nat.lt_succ_self _), Nat.ne_of_gt lS⟩
      have val : ∀ (i : Nat) (v : Value), its[i]? = some v → ∃ p, ks[i]? = some p ∧ v = .ref p.1 := by
        intro i v e
        rw [← Array.getElem?_toList, hit, List.getElem?_map] at e
        obtain ⟨p, e1, e2⟩ := Option.map_eq_some_iff.mp e
        exact ⟨p, e1, e2.symm⟩
      refine upd_loop M ((Walks.tuple (show A.in1.in1.in1.handled = none by simp [hh]) _ l ne1 its).toS) s.heap.objs.size ne2 ks sz few val s.heap hk (nothing _ (Nat.le_refl _)) (fun b hb => nothing b ?low) hu
        (its.size - 0) 0 _ (by omega) (Nat.zero_le _) ⟨⟨_, Heap.get?_push_size _ rfl, rfl, rfl⟩, (hlS.push _)⟩ (fun b o e => Heap.get?_push_of_some _ (Heap.get?_push_of_some _ e)) ⟨[], #[], 0, _, StG.empty (Heap.get?_push_of_some _ at_S), ⟨(fun p hp => nomatch hp), fun j p hj _ => absurd hj (Nat.not_lt_zero _), List.nodup_nil, Nat.le_refl _⟩⟩ ?after
      case low =>
        rw [List.mem_singleton.mp hb, size1]
        exact Nat.le_succ _
      case after =>
        intro s' L es ep t hm hS' g' kp
        obtain ⟨h', g2, d', tk', os'⟩ := s'
        obtain rfl : g2 = s.gens := hm.gens
        obtain rfl : d' = s.drawn := hm.drawn
        obtain rfl : os' = s.os := hm.os
        show wpAny _ _ _ _ _ _
        refine wpAny_pure ?_
        show wpAny _ _ (ret Value.none) _ _ _
        rw [sz] at g'
        exact wpAny_pure ⟨rfl, h', tk', L, es, ep, t, rfl, hS', g', kp⟩
end
end BT

namespace BX
open PySem PySem.Spec PyProof.Rows L2 BT
/-- each once -/
def dd {α : Type} [DecidableEq α] : List α → List α
  | [] => []
  | x :: xs => if x ∈ dd xs then dd xs else x :: dd xs
section
variable {α : Type} [DecidableEq α]
theorem dd_mem {x : α} : ∀ {l : List α}, x ∈ dd l ↔ x ∈ l
  | [] => .rfl
  | y :: l => by
    rw [dd]
    split
    · rename_i h
      rw [dd_mem, List.mem_cons]
      exact ⟨.inr, fun z => z.elim (fun e => e ▸ dd_mem.mp h) id⟩
    · rw [List.mem_cons, List.mem_cons, dd_mem]
theorem dd_nodup : ∀ l : List α, (dd l).Nodup
  | [] => List.nodup_nil
  | y :: l => by
    rw [dd]
    split
    · exact dd_nodup l
    · rename_i h
      exact List.nodup_cons.mpr ⟨h, dd_nodup l⟩
theorem dd_id : ∀ {l : List α}, l.Nodup → dd l = l
  | [], _ => rfl
  | y :: l, h => by
    obtain ⟨a, b⟩ := List.nodup_cons.mp h
    rw [dd, dd_id b, if_neg a]
theorem dd_perm {l m : List α} (n : m.Nodup) (h : ∀ x, x ∈ m ↔ x ∈ l) : m.Perm (dd l) := (List.perm_ext_iff_of_nodup n (dd_nodup l)).mpr fun x => by rw [h, dd_mem]
theorem dd_len : ∀ l : List α, (dd l).length ≤ l.length
  | [] => Nat.le_refl _
  | y :: l => by
    have := dd_len l
    rw [dd]
    split
    · rw [List.length_cons]; omega
    · rw [List.length_cons, List.length_cons]; omega
theorem dd_len_iff {l : List α} : (dd l).length = l.length ↔ l.Nodup := by
  induction l with
  | nil => simp [dd]
  | cons y l ih =>
    rw [dd, List.nodup_cons, ← ih]
    have := dd_len l
    split
    · rename_i h
      rw [List.length_cons]
      constructor
      · intro z; omega
      · intro z; exact absurd (dd_mem.mp h) z.1
    · rename_i h
      rw [List.length_cons, List.length_cons]
      constructor
      · intro z; exact ⟨fun q => h (dd_mem.mpr q), by omega⟩
      · intro z; omega
end
abbrev TM (P : Program) (w : World) : HeapKind P w (List Key) := tupleKind (mixKind P w)
def allInts (ks : List Key) : Bool := ks.all Sum.isLeft
section
variable {P : Program} {w : World} {A : Around} {E : Value → Shared → Prop} {s : Shared}
theorem mix_items {ks : List Key} {vs : List Value} (h : ItemsAre (mixKind P w) ks vs) : ∀ v ∈ vs, (∃ i t, v = Value.int i t) ∨ ∃ x t, v = Value.str x t := by
  induction h with
  | nil => intro v hv; cases hv
  | cons h1 _ ih =>
    intro v hv
    cases hv with
    | head => rcases keyIs_shape h1 with ⟨i, t, _, e⟩ | ⟨x, t, _, e⟩
              · exact .inl ⟨i, t, e⟩
              · exact .inr ⟨x, t, e⟩
    | tail _ hv => exact ih v hv
theorem mix_ints {ks : List Key} {vs : List Value} (h : ItemsAre (mixKind P w) ks vs) : allInts ks = vs.all fun v => match v with | .int _ _ => true | _ => false := by
  induction h with
  | nil => rfl
  | cons h1 _ ih =>
    unfold allInts at ih ⊢
    rw [List.all_cons, List.all_cons, ih]
    rcases keyIs_shape h1 with ⟨i, t, rfl, rfl⟩ | ⟨x, t, rfl, rfl⟩ <;> rfl
theorem mild_mix : Mild (TM P w) allInts where
  stay := fun hk ⟨o, its, n, ho, hc, hd, hi⟩ => ⟨o, its, n, hk _ _ _ _ ho hd, hc, hd, hi⟩
  rm := fun h => h
  cls := by
    intro A E s k b Q hk hq
    have hT := IsTupleKey.typeIs hk
    obtain ⟨o, its, n, ho, _, hd, hi⟩ := hk
    unfold ofAClassStatement
    refine wpAny_bind (wpAny_typeOf hT ?_)
    dsimp only
    simp only [show (("tuple" : String) == "tuple") = true by decide, if_true, Bool.not_true, Bool.false_eq_true, if_false]
    try refine wpAny_bind (wpAny_pure ?_)
    try simp only [Bool.not_true, Bool.false_eq_true, if_false]
    show wpAny _ _ (seqItems? (.ref b) >>= _) _ _ s
    refine wpAny_bind (wpAny_seqItems ho hd ?_)
    dsimp only
    apply wpAny_bind
    show wpAny _ _ (forIn its _ _) _ _ s
    rw [← Array.forIn_toList]
    refine wpAny_forIn_list _ (fun rest r s' => r.1 = none ∧ s' = s ∧ ∀ v ∈ rest, (∃ i t, v = Value.int i t) ∨ ∃ x t, v = Value.str x t) _ ?turn ?fin _ _ ⟨rfl, rfl, mix_items hi⟩
    case turn =>
      intro v rest r s' z
      obtain ⟨hr, rfl, all⟩ := z
      have more := fun u hu => all u (.tail _ hu)
      have no : ofAClassStatement 7 v = pure false := by
        rcases all v (.head _) with ⟨i, t, rfl⟩ | ⟨x, t, rfl⟩ <;> rfl
      rw [no]
      refine wpAny_bind (wpAny_pure ?_)
      simp only [Bool.false_eq_true, if_false]
      exact wpAny_pure ⟨rfl, rfl, more⟩
    case fin =>
      rintro ⟨r1, r2⟩ s' ⟨hr, rfl, _⟩
      have hr : r1 = none := hr
      subst hr
      exact wpAny_pure hq
  val := by
    intro A E s k b Q hk hq
    have hT := IsTupleKey.typeIs hk
    obtain ⟨o, its, n, ho, _, hd, hi⟩ := hk
    rw [mix_ints hi] at hq
    unfold hashByValue
    refine wpAny_bind (wpAny_specialOf hT F.slot_tuple_hash.lookup ?_)
    show wpAny _ _ (seqItems? (.ref b) >>= _) _ _ s
    refine wpAny_bind (wpAny_seqItems ho hd ?_)
    apply wpAny_bind
    show wpAny _ _ (forIn its _ _) _ _ s
    rw [← Array.forIn_toList]
    refine wpAny_forIn_list _ (fun rest r s' => r.1 = none ∧ s' = s ∧ (∀ v ∈ rest, (∃ i t, v = Value.int i t) ∨ ∃ x t, v = Value.str x t) ∧
      (its.toList.all fun v => match v with | .int _ _ => true | _ => false) = rest.all fun v => match v with | .int _ _ => true | _ => false) _ ?turn ?fin _ _ ⟨rfl, rfl, mix_items hi, rfl⟩
    case turn =>
      intro v rest r s' z
      obtain ⟨hr, rfl, all, e⟩ := z
      rcases all v (.head _) with ⟨i, t, rfl⟩ | ⟨x, t, rfl⟩
      · have yes : hashByValue 7 (.int i t) = pure true := rfl
        rw [yes]
        refine wpAny_bind (wpAny_pure ?_)
        simp only [Bool.not_true, Bool.false_eq_true, if_false]
        exact wpAny_pure ⟨rfl, rfl, fun u hu => all u (.tail _ hu), e⟩
      · have no : hashByValue 7 (.str x t) = pure false := rfl
        rw [no]
        refine wpAny_bind (wpAny_pure ?_)
        simp only [Bool.not_false, if_true]
        refine wpAny_pure ?_
        rw [e] at hq
        exact wpAny_pure hq
    case fin =>
      rintro ⟨r1, r2⟩ s' ⟨hr, rfl, _, e⟩
      have hr : r1 = none := hr
      subst hr
      rw [e] at hq
      exact wpAny_pure hq
end
def SetG0 (P : Program) (w : World) (h : Heap) (a : Addr) (L : List (Addr × List Key)) : Prop :=
  ∃ (es : Array (Int × Value)) (ep : Nat) (t : SetTable), (∃ o, h.get? a = some o ∧ o.ExactSet ∧ o.data = .set es ep t) ∧ es.toList = rowsG (TM P w) L ∧ Tb t (hsh (TM P w) L) ∧ (L.map (·.2)).Nodup ∧
    (w.params.followText "set-order" = true ∨ t.led = true) ∧ L.length * 5 < t.mask * 3 ∧ L.length < 4096
def SetGO (P : Program) (w : World) (a : Addr) (L : List (Addr × List Key)) : HO := .ext fun h => SetG0 P w h a L
theorem setGO_ok {P : Program} {w : World} {H : Hp} {h : Heap} {a : Addr} {L : List (Addr × List Key)} (R : SetG0 P w h a L) : ObjOk P w H h a (SetGO P w a L) := by
  refine ⟨R, ?_, fun h1 h2 p k => ?_⟩
  · obtain ⟨es, ep, t, ⟨o, ho, _⟩, _⟩ := R
    exact ⟨o, ho⟩
  · have p : SetG0 P w h1 a L := p
    obtain ⟨es, ep, t, ⟨o, ho, r⟩, q⟩ := p
    exact ⟨es, ep, t, ⟨o, k o ho, r⟩, q⟩
section
variable {X : Cx} {pins : List (Addr × Obj)} {σ : L2.St} {H : Hp} {s : Shared}
theorem isKey (I : Inv X pins σ H s) {b : Addr} {ks : List Key} (h : SqT X.K H b (ks.map kV)) : (TM X.prog X.w).is s.heap ks b := by
  obtain ⟨its, r, ⟨o, ho, hc, n, hd⟩, _⟩ := I.tuple h
  exact ⟨o, its.toArray, n, ho, hc, hd, by simpa using items_are r⟩
theorem refs_are : ∀ {ks : List (Addr × List Key)} {us : List Value}, Vals (ks.map fun p => V.ref p.1) us → us = ks.map fun p => Value.ref p.1
  | [], _, .nil => rfl
  | p :: ks, _, .cons r t => by cases r; rw [refs_are t]; rfl
/-- set(xs) -/
def rSet (K : PySem.W.Frag) (P : Program) (w : World) : List V → Hp → VK → Prop := fun xs H Q => ∃ (l : Addr) (ks : List (Addr × List Key)), xs = [V.ref l] ∧ (SqL K H l (ks.map fun p => V.ref p.1) ∨ SqT K H l (ks.map fun p => V.ref p.1)) ∧
  (∀ p ∈ ks, SqT K H p.1 (p.2.map kV)) ∧ ks.length < 4096 ∧ ∀ a L, H a = none → Upto ks ks.length L → Q (.ref a) (upd H a (SetGO P w a L))
theorem cr_set (hx : Ok X) : CallR X (.type "set") (rSet X.K X.prog X.w) := by
  intro pins s σ H xs us Q I r h
  obtain ⟨l, ks, rfl, hl, hk, few, q⟩ := h
  rw [Vals.ref1 r]
  have hu := hx.un
  have hn : H s.heap.objs.size = none := I.hok.fresh (Nat.le_refl _)
  have kk : ∀ p ∈ ks, (TM X.prog X.w).is s.heap p.2 p.1 := fun p hp => isKey I (hk p hp)
  have fin : ∀ (h' : Heap) (tk : Nat) L es ep t, StG (TM X.prog X.w) h' s.heap.objs.size L es ep t → Upto ks ks.length L → (∀ b o, s.heap.get? b = some o → h'.get? b = some o) →
      EP X pins σ Q (.ref s.heap.objs.size) { s with heap := h', toks := tk } := by
    intro h' tk L es ep t R g kp
    exact ⟨.ref s.heap.objs.size, _, I.laid (t' := tk) kp (Nat.le_refl _) (setGO_ok ⟨es, ep, t, R.ob, R.row, R.tab, R.nd, R.led, R.room, R.few⟩), rfl, q _ L hn g⟩
  rcases hl with hl | hl
  · obtain ⟨its, rv, pl, _⟩ := I.list hl
    exact set_of_list mild_mix ks (I.ok.hd hx.calm) pl.isList (by simpa using refs_are rv) kk few (by omega) fin
  · obtain ⟨its, rv, pl, _⟩ := I.tuple hl
    obtain ⟨o, ho, hc, n, hd⟩ := pl
    exact set_of_tuple mild_mix ks (I.ok.hd hx.calm) ⟨o, ho, hc, n, hd⟩ (by simpa using refs_are rv) kk few (by omega) fin
/-- len of a set -/
theorem cr_lenS : CallR X (.builtin "len") (fun xs H Q => ∃ a L, xs = [V.ref a] ∧ H a = some (SetGO X.prog X.w a L) ∧ Q (.int (L.length : Nat)) H) := by
  intro pins s σ H xs us Q I r h
  obtain ⟨a, L, rfl, ha, q⟩ := h
  rw [Vals.ref1 r]
  obtain ⟨es, ep, t, ⟨o, ho, ex, hd⟩, row, tab, _, _, room, few⟩ : SetG0 X.prog X.w s.heap a L := (I.hok a _ ha).1
  have sz := row_size row
  have fits : t.fits es.size = true := by
    have z := tab.sz
    rw [hsh_len] at z
    unfold SetTable.fits SetTable.fill
    rw [tab.dm, Bool.and_eq_true, beq_iff_eq, decide_eq_true_eq]
    refine ⟨by omega, ?_⟩
    show t.place.size + 0 ≤ t.mask
    omega
  refine call_len_set ho ex hd fits (by rw [sz]; omega) ?_
  exact ⟨.int (L.length : Nat), H, I.tok _, ⟨_, by rw [sz]⟩, q⟩
end
section
variable {prog : Program} {w : World} {A : Around} {E : Value → Shared → Prop} {s : Shared}
/-- the sorting of things that come in any order -/
theorem sorted_any {l : Addr} {vs : List Value} {Q : Value → Shared → Prop} (hz : vs.length ≤ sizeLine)
    (hc : ∀ (Q : List Value → Shared → Prop), (∀ s1 out, (∀ b o, s.heap.get? b = some o → s1.heap.get? b = some o) → s.heap.objs.size ≤ s1.heap.objs.size → s1.gens = s.gens → s1.os = s.os → out.Perm vs → Q out s1) → wpAny (model prog w) A.in1 (collect (.ref l)) Q E s)
    (hp : ∀ v ∈ vs, ∃ ns, TS.TupInts s.heap v ns ∧ ns ≠ [])
    (h : ∀ (out : List Value) (s1 : Shared) (h2 : Heap) (n : Nat), out.Perm vs → out.map (TS.intsOf s.heap) = sortI (vs.map (TS.intsOf s.heap)) → (∀ b o, s.heap.get? b = some o → s1.heap.get? b = some o) → s.heap.objs.size ≤ s1.heap.objs.size → s1.gens = s.gens → s1.os = s.os →
      (∀ b o, s1.heap.get? b = some o → h2.get? b = some o) → h2.get? s1.heap.objs.size = some (seqObj "list" out.toArray n) → Q (.ref s1.heap.objs.size) { s1 with heap := h2 }) :
    wpAny (model prog w) A (call (.builtin "sorted") [.ref l]) Q E s := by
  refine Calls.call_function_entry kind_sorted plain_sorted entry_sorted (args_sorted1 _) ?_
  unfold Builtin.«sorted»
  refine wpAny_bind (m := checkCount "sorted" 1 1 _) (wpAny_pure ?_)
  refine wpAny_bind (hc _ fun s1 ws kp up eg eo pw => ?_)
  have hz1 : ws.length ≤ sizeLine := by rw [pw.length_eq]; exact hz
  refine wpAny_bind (wpAny_newList ?_ hz1)
  have at_l : (s1.heap.push (seqObj "list" ws.toArray 0)).get? s1.heap.objs.size = some (seqObj "list" ws.toArray 0) := Heap.get?_push_size _ rfl
  have kp2 : ∀ b o, s.heap.get? b = some o → (s1.heap.push (seqObj "list" ws.toArray 0)).get? b = some o := fun b o e => Heap.get?_push_of_some _ (kp b o e)
  have tup2 : ∀ v ∈ ws, ∃ ns, TS.TupInts (s1.heap.push (seqObj "list" ws.toArray 0)) v ns ∧ ns ≠ [] := fun v hm => let ⟨ns, t, r⟩ := hp v (pw.mem_iff.mp hm); ⟨ns, t.keeps fun b o e _ => kp2 b o e, r⟩
  have same : ∀ v ∈ ws, TS.intsOf (s1.heap.push (seqObj "list" ws.toArray 0)) v = TS.intsOf s.heap v := fun v hm => by
    obtain ⟨ns, t, _⟩ := hp v (pw.mem_iff.mp hm)
    rw [t.ints, (t.keeps fun b o e _ => kp2 b o e).ints]
  refine wpAny_bind (wpAny_holding (wpAny_call_entry slot_list_sort ⟨_, at_l, rfl⟩ entry_list_sort (SrtO.list_sort_ord (s := { s1 with heap := s1.heap.push (seqObj "list" ws.toArray 0) }) (swoW (TS.intsOf (s1.heap.push (seqObj "list" ws.toArray 0)))) at_l hz1 (fun h2 => ?_) fun out hs hb => ⟨_, rfl, ?_⟩) (args_list_sort _)))
  · refine sortableW (s := { s1 with heap := s1.heap.push (seqObj "list" ws.toArray 0) }) (by omega) tup2 fun o e => ?_
    have e' : some o = some (seqObj "list" ws.toArray 0) := e.symm.trans at_l
    cases e'
    intro c
    exact absurd (Value.type.inj c) (by decide)
  · obtain ⟨n, hn⟩ := PyProof.Rows.sortedHeap_at (vs := ws) (out := out.toArray) at_l
    have pm : out.Perm ws := hb.perm
    have hm : out.map (TS.intsOf (s1.heap.push (seqObj "list" ws.toArray 0))) = out.map (TS.intsOf s.heap) := List.map_congr_left fun v hv => same v (pm.mem_iff.mp hv)
    refine wpAny_pure ⟨_, rfl, h out s1 _ n (pm.trans pw) ?_ kp up eg eo (fun b o e => ?_) hn⟩
    · refine sortI_uniq ?_ ((pm.trans pw).map _)
      rw [← hm, List.pairwise_map]
      exact hs
    · have hbb : b < s1.heap.objs.size := Heap.lt_size e
      rw [PyProof.Rows.sortedHeap_old (Nat.ne_of_lt hbb) (by rw [size_push']; exact Nat.lt_succ_of_lt hbb)]
      exact Heap.get?_push_of_some _ e
end
section
variable {X : Cx} {pins : List (Addr × Obj)} {σ : L2.St} {H : Hp} {s : Shared}
def keyInts (ks : List Key) : List Int := ks.filterMap fun k => match k with | .inl i => some i | .inr _ => none
theorem keyInts_of (ns : List Int) : keyInts (ns.map Sum.inl) = ns := by
  induction ns with
  | nil => rfl
  | cons n ns ih => unfold keyInts at ih ⊢; rw [List.map_cons, List.filterMap_cons]; simp only [ih]
/-- sorted of a set -/
theorem cr_sortS (hx : Ok X) : CallR X (.builtin "sorted") (fun xs H Q => ∃ a L, xs = [V.ref a] ∧ H a = some (SetGO X.prog X.w a L) ∧ (∀ p ∈ L, ∃ ns : List Int, p.2 = ns.map Sum.inl ∧ ns ≠ [] ∧ H p.1 = some (.tup (ns.map V.int))) ∧
    ∀ z H' g, Rep X.K H' 0 (.lst ((sortI (L.map fun p => keyInts p.2)).map tupI)) z g → Ext H H' g → Q z H') := by
  intro pins s σ H xs us Q I r h
  obtain ⟨a, L, rfl, ha, hL, q⟩ := h
  rw [Vals.ref1 r]
  obtain ⟨es, ep, t, ⟨o, ho, ex, hd⟩, row, tab, nd, led, room, few⟩ : SetG0 X.prog X.w s.heap a L := (I.hok a _ ha).1
  have sz := row_size row
  have fits : t.fits es.size = true := by
    have z := tab.sz
    rw [hsh_len] at z
    unfold SetTable.fits SetTable.fill
    rw [tab.dm, Bool.and_eq_true, beq_iff_eq, decide_eq_true_eq]
    refine ⟨by omega, ?_⟩
    show t.place.size + 0 ≤ t.mask
    omega
  have vals : es.toList.map (·.2) = L.map fun p => Value.ref p.1 := by
    rw [row]
    unfold rowsG
    rw [List.map_map]
    rfl
  have tup : ∀ p ∈ L, ∃ ns : List Int, p.2 = ns.map Sum.inl ∧ TS.TupInts s.heap (.ref p.1) ns ∧ ns ≠ [] := by
    intro p hp
    obtain ⟨ns, e1, e2, e3⟩ := hL p hp
    exact ⟨ns, e1, tupI_raw I (.of e3), e2⟩
  refine sorted_any (vs := L.map fun p => Value.ref p.1) (by rw [List.length_map, sizeLine_eq]; omega) (fun Q' q' => ?_) (fun v hv => ?_) fun out s1 h2 n pm hs k1 above g1 o1 k2 hn => ?_
  · refine collect_set (I.ok.hd hx.calm) ⟨o, ho, ex.1, hd⟩ fits (by unfold scanBound; omega) tab.ris led fun s1 out k up g o p => q' s1 out k up g o ?_
    rw [← vals]
    exact p
  · obtain ⟨p, hp, rfl⟩ := List.mem_map.mp hv
    obtain ⟨ns, _, t2, t3⟩ := tup p hp
    exact ⟨ns, t2, t3⟩
  · have from' : ∀ v ∈ out, (∃ b, v = Value.ref b) ∧ At H (bkV v) (TS.intsOf s.heap v) := by
      intro v hv
      obtain ⟨p, hp, rfl⟩ := List.mem_map.mp (pm.mem_iff.mp hv)
      obtain ⟨ns, e1, e2, e3⟩ := hL p hp
      have ti := tupI_raw I (.of e3 : SqT X.K H p.1 _)
      exact ⟨⟨_, rfl⟩, p.1, rfl, by rw [ti.ints]; exact e3, by rw [ti.ints]; exact e2⟩
    have whole : (L.map fun p => Value.ref p.1).map (TS.intsOf s.heap) = L.map fun p => keyInts p.2 := by
      rw [List.map_map]
      refine List.map_congr_left fun p hp => ?_
      obtain ⟨ns, e1, t2, _⟩ := tup p hp
      show TS.intsOf s.heap (.ref p.1) = _
      rw [t2.ints, e1, keyInts_of]
    rw [whole] at hs
    have hlen : (out.map bkV).length ≤ sizeLine := by rw [List.length_map, pm.length_eq, List.length_map, sizeLine_eq]; omega
    have kk : ∀ b o, s.heap.get? b = some o → h2.get? b = some o := fun b o e => k2 b o (k1 b o e)
    have hn0 : H s1.heap.objs.size = none := I.hok.fresh above
    have J : Inv X pins σ (upd H s1.heap.objs.size (.lst (out.map bkV))) { s with heap := h2, gens := s1.gens, drawn := s1.drawn, toks := s1.toks } :=
      I.call (ch := []) (Un.laid kk above hn0) (I.hok.laid kk above ⟨hlen, out, n, bkV_vals fun u hu => (from' u hu).1, hn⟩) (by rw [g1]; exact I.bare) (fun _ z => nomatch z)
    have es : ({ s1 with heap := h2 } : Shared) = { s with heap := h2, gens := s1.gens, drawn := s1.drawn, toks := s1.toks } := by
      cases s1
      cases s
      cases o1
      rfl
    rw [es]
    refine ⟨.ref s1.heap.objs.size, _, J, rfl, q _ _ _ (upd_lst hn0 ?_) (Ext.upd hn0)⟩
    rw [← hs, List.map_map]
    exact out_reps fun v hv => (from' v hv).2
end
end BX

namespace BX
open PySem PySem.Spec PyProof.Rows L2 BT
def tupKs : List D → Option (List (List Key))
  | [] => some []
  | .tup xs :: r => match dKeys xs, tupKs r with
    | some k, some l => some (k :: l)
    | _, _ => none
  | _ :: _ => none
def seqKs : D → Option (List (List Key))
  | .lst xs => tupKs xs
  | .tup xs => tupKs xs
  | _ => none
def seqTs : D → Option (List (List Int))
  | .lst xs => intTs xs
  | .tup xs => intTs xs
  | _ => none
def bLenSet (d : D) (k : D → Prop) : Prop := match seqKs d with
  | some l => l.length < 4096 ∧ k (.int ((dd l).length : Nat))
  | none => False
def bSortSet (d : D) (k : D → Prop) : Prop := match seqTs d with
  | some l => l.length < 4096 ∧ k (.lst ((sortI (dd l)).map tupI))
  | none => False
def dLenSet (t : XE) : XE := fun env Q => t env fun r e => rd 2 r e fun d => bLenSet d fun d' => Q (.tmp d') e
def dSortSet (t : XE) : XE := fun env Q => t env fun r e => rd 1 r e fun d => bSortSet d fun d' => Q (.tmp d') e
theorem bLenSet_mono {d : D} {k k' : D → Prop} (h : ∀ d, k d → k' d) (q : bLenSet d k) : bLenSet d k' := by
  unfold bLenSet at q ⊢
  split at q
  · exact ⟨q.1, h _ q.2⟩
  · exact q.elim
theorem bSortSet_mono {d : D} {k k' : D → Prop} (h : ∀ d, k d → k' d) (q : bSortSet d k) : bSortSet d k' := by
  unfold bSortSet at q ⊢
  split at q
  · exact ⟨q.1, h _ q.2⟩
  · exact q.elim
section
variable {K : PySem.W.Frag} {H : Hp} {lv : Nat}
theorem tupKs_at : ∀ {ds : List D} {vs : List V} {f : List Addr} {l : List (List Key)}, Reps K H lv ds vs f → tupKs ds = some l → ∃ ks : List (Addr × List Key), vs = (ks.map fun p => V.ref p.1) ∧ ks.map (·.2) = l ∧ ∀ p ∈ ks, SqT K H p.1 (p.2.map kV)
  | _, _, _, _, .nil, e => by cases e; exact ⟨[], rfl, rfl, fun p hp => nomatch hp⟩
  | _, _, _, l, .cons (d := d) r t _, e => by
    cases d with
    | tup ys =>
      rw [tupKs] at e
      split at e
      · rename_i k l' e1 e2
        cases e
        obtain ⟨a, vs, rfl, ha, rr⟩ := r.tupleSq
        rw [rr.dKeys e1] at ha
        obtain ⟨ks, rfl, rfl, h3⟩ := tupKs_at t e2
        refine ⟨(a, k) :: ks, rfl, rfl, fun p hp => ?_⟩
        rcases List.mem_cons.mp hp with rfl | hp
        · exact ha
        · exact h3 p hp
      · cases e
    | _ => simp [tupKs] at e
theorem at_ks : ∀ {xs : List V} {l : List (List Int)}, Paired (At H) xs l → ∃ ks : List (Addr × List Key), xs = (ks.map fun p => V.ref p.1) ∧ ks.map (·.2) = l.map (·.map Sum.inl) ∧
    ∀ p ∈ ks, ∃ ns : List Int, p.2 = ns.map Sum.inl ∧ ns ≠ [] ∧ H p.1 = some (.tup (ns.map V.int))
  | _, _, .nil => ⟨[], rfl, rfl, fun p hp => nomatch hp⟩
  | _, _, .cons (b := ns) ⟨b, e, hb, hn⟩ t => by
    obtain ⟨ks, rfl, h2, h3⟩ := at_ks t
    refine ⟨(b, ns.map Sum.inl) :: ks, by rw [e]; rfl, by rw [List.map_cons, List.map_cons, h2], fun p hp => ?_⟩
    rcases List.mem_cons.mp hp with rfl | hp
    · exact ⟨ns, rfl, hn, hb⟩
    · exact h3 p hp
theorem kV_inl (ns : List Int) : (ns.map Sum.inl : List Key).map kV = ns.map V.int := by rw [List.map_map]; rfl
theorem seqKs_at {d : D} {v : V} {f : List Addr} {l : List (List Key)} (r : Rep K H lv d v f) (e : seqKs d = some l) : ∃ (a : Addr) (ks : List (Addr × List Key)), v = .ref a ∧ (SqL K H a (ks.map fun p => V.ref p.1) ∨ SqT K H a (ks.map fun p => V.ref p.1)) ∧ ks.map (·.2) = l ∧ ∀ p ∈ ks, SqT K H p.1 (p.2.map kV) := by
  cases d with
  | lst xs =>
    obtain ⟨a, vs, g', rfl, hs, rr, _, _⟩ := r.listSq
    obtain ⟨ks, rfl, h2, h3⟩ := tupKs_at rr e
    exact ⟨a, ks, rfl, .inl hs, h2, h3⟩
  | tup xs =>
    obtain ⟨a, vs, rfl, hs, rr⟩ := r.tupleSq
    obtain ⟨ks, rfl, h2, h3⟩ := tupKs_at rr e
    exact ⟨a, ks, rfl, .inr hs, h2, h3⟩
  | _ => simp [seqKs] at e
theorem seqTs_at {X : Cx} {d : D} {v : V} {f : List Addr} {l : List (List Int)} (hl : lv ≤ 1) (r : Rep X.K H lv d v f) (e : seqTs d = some l) : ∃ (a : Addr) (ks : List (Addr × List Key)), v = .ref a ∧ (SqL X.K H a (ks.map fun p => V.ref p.1) ∨ SqT X.K H a (ks.map fun p => V.ref p.1)) ∧
    ks.map (·.2) = l.map (·.map Sum.inl) ∧ ∀ p ∈ ks, ∃ ns : List Int, p.2 = ns.map Sum.inl ∧ ns ≠ [] ∧ H p.1 = some (.tup (ns.map V.int)) := by
  cases d with
  | lst xs =>
    obtain ⟨a, vs, g', rfl, hs, rr, _, _⟩ := r.listSq
    obtain ⟨ks, rfl, h2, h3⟩ := at_ks (intTs_at hl rr e)
    exact ⟨a, ks, rfl, .inl hs, h2, h3⟩
  | tup xs =>
    obtain ⟨a, vs, rfl, hs, rr⟩ := r.tupleSq
    obtain ⟨ks, rfl, h2, h3⟩ := at_ks (intTs_at hl rr e)
    exact ⟨a, ks, rfl, .inr hs, h2, h3⟩
  | _ => simp [seqTs] at e
theorem upto_keys {ks L : List (Addr × List Key)} (u : Upto ks ks.length L) : (L.map (·.2)).Perm (dd (ks.map (·.2))) := by
  refine dd_perm u.nd fun k => ⟨fun h => ?_, fun h => ?_⟩
  · obtain ⟨p, hp, rfl⟩ := List.mem_map.mp h
    exact List.mem_map.mpr ⟨p, u.sub p hp, rfl⟩
  · obtain ⟨p, hp, rfl⟩ := List.mem_map.mp h
    obtain ⟨j, hj⟩ := List.getElem?_of_mem hp
    exact u.all j p (List.getElem?_eq_some_iff.mp hj).1 hj
theorem sortI_of_perm {l m : List (List Int)} (h : l.Perm m) : sortI l = sortI m := sortI_uniq (sortI_srt l) ((sortI_perm l).trans h)
theorem upto_ints {ks L : List (Addr × List Key)} {l : List (List Int)} (u : Upto ks ks.length L) (e : ks.map (·.2) = l.map (·.map Sum.inl)) (hL : ∀ p ∈ ks, ∃ ns : List Int, p.2 = ns.map Sum.inl) :
    (L.map fun p => keyInts p.2).Perm (dd l) := by
  have inj : (L.map fun p => keyInts p.2).map (·.map (Sum.inl : Int → Key)) = L.map (·.2) := by
    rw [List.map_map]
    refine List.map_congr_left fun p hp => ?_
    obtain ⟨ns, e⟩ := hL p (u.sub p hp)
    show (keyInts p.2).map Sum.inl = p.2
    rw [e, keyInts_of]
  have nd : (L.map fun p => keyInts p.2).Nodup := by
    have := u.nd
    rw [← inj] at this
    exact nodup_of_map this
  refine dd_perm nd fun ns => ?_
  have m1 : ns ∈ (L.map fun p => keyInts p.2) ↔ ns.map (Sum.inl : Int → Key) ∈ L.map (·.2) := by
    rw [← inj, List.mem_map (f := fun x : List Int => x.map (Sum.inl : Int → Key))]
    refine ⟨fun h => ⟨ns, h, rfl⟩, fun ⟨ms, h, e⟩ => ?_⟩
    have e2 := congrArg keyInts e
    rw [keyInts_of, keyInts_of] at e2
    rwa [← e2]
  rw [m1, (upto_keys u).mem_iff, dd_mem, e, List.mem_map]
  refine ⟨fun ⟨ms, h, e⟩ => ?_, fun h => ⟨ns, h, rfl⟩⟩
  have e2 := congrArg keyInts e
  rw [keyInts_of, keyInts_of] at e2
  rwa [← e2]
end
section
variable {X : Cx} {e : Expr} {t : XE} {p p2 q pos : Pos}
theorem de_lenSet (hx : Ok X) (he : DE X e t) (m1 : X.mg "len" = none) (m2 : X.mg "set" = none) (g1 : Gl X "len" := by rfl) (g2 : Gl X "set" := by rfl)
    (n1 : starEach [e] X.env = (false, eval e X.env) :: starEach [] X.env := by rfl) (n2 : starEach [Expr.Call (.Name "set" p2) [e] [] q] X.env = (false, eval (.Call (.Name "set" p2) [e] [] q) X.env) :: starEach [] X.env := by rfl)
    (b2 : bootBuiltins "set" = some (.type "set") := by decide +kernel) (b1 : bootBuiltins "len" = some (.builtin "len") := by decide +kernel) : DE X (.Call (.Name "len" p) [.Call (.Name "set" p2) [e] [] q] [] pos) (dLenSet t) := by
  refine ⟨PE.imp (pe_callB cr_lenS g1 m1 b1 (pa_cons (pe_callTy (cr_set hx) g2 m2 b2 (pa_cons he.run pa_nil n1) (by decide) (by decide) n1) pa_nil n2) (by decide) (by decide) n2) fun σ H Q q => ?_,
    fun env Q Q' h q => he.mono _ _ _ (fun r e q => rd_mono (fun d q => bLenSet_mono (fun d q => h _ _ q) q) q) q⟩
  obtain ⟨env, f, A, q⟩ := q
  refine ⟨env, f, A, he.mono _ _ _ (fun r e1 q => ?_) q⟩
  intro x H1 f1 g1 A1 R1 S1 K1
  obtain ⟨d, g', rp, q⟩ := rd_ok A1 R1 q
  unfold bLenSet at q
  split at q
  · rename_i l e
    obtain ⟨a, ks, rfl, hs, h2, h3⟩ := seqKs_at rp e
    have hl : ks.length = l.length := by rw [← h2, List.length_map]
    refine ⟨a, ks, rfl, hs, h3, by rw [hl]; exact q.1, fun S L hf up => ⟨S, L, rfl, upd_same, ?_⟩⟩
    have ex : Ext H1 (L2.upd H1 S (SetGO X.prog X.w S L)) [] := .updT hf
    have len : L.length = (dd l).length := by
      have := (upto_keys up).length_eq
      rw [List.length_map, h2] at this
      exact this
    rw [len]
    obtain ⟨A3, R3, S3⟩ := fin_ext A1 S1 ex (.int ((dd l).length : Nat))
    exact q.2 _ _ f1 [] A3 R3 S3 K1
  · exact q.elim
theorem de_sortSet (hx : Ok X) (he : DE X e t) (m1 : X.mg "sorted" = none) (m2 : X.mg "set" = none) (g1 : Gl X "sorted" := by rfl) (g2 : Gl X "set" := by rfl)
    (n1 : starEach [e] X.env = (false, eval e X.env) :: starEach [] X.env := by rfl) (n2 : starEach [Expr.Call (.Name "set" p2) [e] [] q] X.env = (false, eval (.Call (.Name "set" p2) [e] [] q) X.env) :: starEach [] X.env := by rfl)
    (b2 : bootBuiltins "set" = some (.type "set") := by decide +kernel) (b1 : bootBuiltins "sorted" = some (.builtin "sorted") := by decide +kernel) : DE X (.Call (.Name "sorted" p) [.Call (.Name "set" p2) [e] [] q] [] pos) (dSortSet t) := by
  refine ⟨PE.imp (pe_callB (cr_sortS hx) g1 m1 b1 (pa_cons (pe_callTy (cr_set hx) g2 m2 b2 (pa_cons he.run pa_nil n1) (by decide) (by decide) n1) pa_nil n2) (by decide) (by decide) n2) fun σ H Q q => ?_,
    fun env Q Q' h q => he.mono _ _ _ (fun r e q => rd_mono (fun d q => bSortSet_mono (fun d q => h _ _ q) q) q) q⟩
  obtain ⟨env, f, A, q⟩ := q
  refine ⟨env, f, A, he.mono _ _ _ (fun r e1 q => ?_) q⟩
  intro x H1 f1 g1 A1 R1 S1 K1
  obtain ⟨d, g', rp, q⟩ := rd_ok A1 R1 q
  unfold bSortSet at q
  split at q
  · rename_i l e
    obtain ⟨a, ks, rfl, hs, h2, h3⟩ := seqTs_at (X := X) (Nat.le_refl 1) rp e
    have hl : ks.length = l.length := by
      have := congrArg List.length h2
      simpa using this
    have sq : ∀ p ∈ ks, SqT X.K H1 p.1 (p.2.map kV) := fun p hp => by
      obtain ⟨ns, e1, _, e3⟩ := h3 p hp
      rw [e1, kV_inl]
      exact .of e3
    refine ⟨a, ks, rfl, hs, sq, by rw [hl]; exact q.1, fun S L hf up => ⟨S, L, rfl, upd_same, fun p hp => ?_, fun z H' g rz ex => ?_⟩⟩
    · obtain ⟨ns, e1, e2, e3⟩ := h3 p (up.sub p hp)
      refine ⟨ns, e1, e2, ?_⟩
      rw [upd_ne (fun z => by rw [z, hf] at e3; cases e3)]
      exact e3
    · have ex1 : Ext H1 (L2.upd H1 S (SetGO X.prog X.w S L)) [] := .updT hf
      have ex2 : Ext H1 H' g := ⟨fun b o h => ex.same b o (ex1.same b o h), fun b hb => by
        have := ex.new b hb
        by_cases z : b = S
        · rw [z]; exact hf
        · rwa [upd_ne z] at this⟩
      rw [sortI_of_perm (upto_ints up h2 fun p hp => let ⟨ns, e, _⟩ := h3 p hp; ⟨ns, e⟩)] at rz
      obtain ⟨A3, R3, S3⟩ := fin_ext A1 S1 ex2 rz
      exact q.2 _ _ f1 g A3 R3 S3 K1
  · exact q.elim
end
end BX

namespace BX
open PySem PySem.Spec PyProof.Rows L2
/-- so many parts at most, so deep at most, numbers small -/
structure Sw (n k : Nat) (d : D) : Prop where
  nd : d.ndc = true
  sh : d.pd.showable = true
  dp : d.pd.depth ≤ k
  lv : d.pd.leavesShort 13 = true
  bk : d.pd.bulk ≤ n
  ok : ∀ c ∈ d.pd.shown.cps.toList, c < 1114112
theorem Sw.up {n k n' k' : Nat} {d : D} (h : Sw n k d) (a : n ≤ n') (b : k ≤ k') : Sw n' k' d := ⟨h.nd, h.sh, Nat.le_trans h.dp b, h.lv, Nat.le_trans h.bk a, h.ok⟩
theorem sw_int {i : Int} (h : i.natAbs < 10 ^ 12) : Sw 0 0 (.int i) := by
  have e : D.pd (.int i) = .int i := by rw [D.pd]
  refine ⟨by rw [D.ndc], ?_, by rw [e]; exact Nat.le_refl 0, ?_, by rw [e]; exact Nat.le_refl 0, fun c hc => ?_⟩
  · rw [e]
    show decide (i.natAbs.log2 < 1920) = true
    have : i.natAbs.log2 < 40 := by
      by_cases z : i.natAbs = 0
      · rw [z]; decide
      · exact (Nat.log2_lt z).mpr (Nat.lt_trans h (by decide))
    exact decide_eq_true (by omega)
  · rw [e]
    exact decide_eq_true (PyData.shown_int_le h)
  · rw [e] at hc
    refine Nat.lt_of_not_le fun z => ?_
    exact shown_int_free' (k := c) (by omega) i hc
theorem sw_non : Sw 0 0 .non := by
  have e : D.pd .non = .none := by rw [D.pd]
  refine ⟨by rw [D.ndc], by rw [e]; rfl, by rw [e]; exact Nat.le_refl 0, by rw [e]; rfl, by rw [e]; exact Nat.le_refl 0, ?_⟩
  rw [e, PyData.shown_none]
  decide
theorem sw_bl (b : Bool) : Sw 0 0 (.bl b) := by
  have e : D.pd (.bl b) = .bool b := by rw [D.pd]
  refine ⟨by rw [D.ndc], by rw [e]; rfl, by rw [e]; exact Nat.le_refl 0, by rw [e]; rfl, by rw [e]; exact Nat.le_refl 0, ?_⟩
  rw [e, PyData.shown_bool]
  cases b <;> decide
theorem pdL_len : ∀ ds : List D, (pdL ds).length = ds.length
  | [] => by rw [pdL]; rfl
  | d :: ds => by rw [pdL, List.length_cons, List.length_cons, pdL_len ds]
theorem pdL_mem {x : PyData} : ∀ {ds : List D}, x ∈ pdL ds → ∃ d ∈ ds, x = d.pd
  | [], h => by rw [pdL] at h; cases h
  | d :: ds, h => by
    rw [pdL, List.mem_cons] at h
    rcases h with h | h
    · exact ⟨d, .head _, h⟩
    · obtain ⟨y, a, b⟩ := pdL_mem h
      exact ⟨y, .tail _ a, b⟩
theorem sw_list {n k : Nat} : ∀ {ds : List D}, (∀ d ∈ ds, Sw n k d) → ndcL ds = true ∧ PyData.showableAll (pdL ds) = true ∧ PyData.depthAll (pdL ds) ≤ k ∧ PyData.leavesShortAll 13 (pdL ds) = true ∧ PyData.bulkAll (pdL ds) ≤ ds.length * (n + 1)
  | [], _ => by rw [ndcL, pdL]; exact ⟨rfl, rfl, Nat.zero_le _, rfl, by simp [PyData.bulkAll]⟩
  | d :: ds, h => by
    obtain ⟨a1, a2, a3, a4, a5⟩ := sw_list fun x hx => h x (.tail _ hx)
    have hd := h d (.head _)
    rw [ndcL, pdL]
    refine ⟨by rw [hd.nd, a1]; rfl, ?_, ?_, ?_, ?_⟩
    · show (d.pd.showable && PyData.showableAll (pdL ds)) = true
      rw [hd.sh, a2]; rfl
    · show max d.pd.depth (PyData.depthAll (pdL ds)) ≤ k
      exact Nat.max_le.mpr ⟨hd.dp, a3⟩
    · show (d.pd.leavesShort 13 && PyData.leavesShortAll 13 (pdL ds)) = true
      rw [hd.lv, a4]; rfl
    · show d.pd.bulk + 1 + PyData.bulkAll (pdL ds) ≤ _
      have := hd.bk
      rw [List.length_cons, Nat.succ_mul]
      omega
theorem sw_free {n k c : Nat} (hc : 1114112 ≤ c) {ds : List D} (h : ∀ d ∈ ds, Sw n k d) : ∀ t ∈ PyData.shownAll (pdL ds), c ∉ t.cps.toList :=
  shownAll_free fun x hx z => by
    obtain ⟨d, hd, rfl⟩ := pdL_mem hx
    exact absurd ((h d hd).ok c z) (by omega)
theorem sw_lst {n k : Nat} {ds : List D} (h : ∀ d ∈ ds, Sw n k d) : Sw (ds.length * (n + 1)) (k + 1) (.lst ds) := by
  obtain ⟨a1, a2, a3, a4, a5⟩ := sw_list h
  have e : D.pd (.lst ds) = .list (pdL ds) := by rw [D.pd]
  refine ⟨by rw [D.ndc]; exact a1, by rw [e]; exact a2, by rw [e]; exact Nat.succ_le_succ a3, by rw [e]; exact a4, by rw [e]; exact a5, fun c hc => Nat.lt_of_not_le fun z => ?_⟩
  rw [e] at hc
  have fr := sw_free z h
  have hc : c ∈ (listText (PyData.shownAll (pdL ds))).cps.toList := hc
  rw [listText_eq_join, mem_cps_append, mem_cps_append, signs_lbrack, signs_rbrack, mem_join, signs_sep] at hc
  rcases hc with (hc | ⟨t, ht, hc⟩ | ⟨_, hc⟩) | hc
  · simp at hc; omega
  · exact fr t ht hc
  · simp at hc; omega
  · simp at hc; omega
theorem sw_tup {n k : Nat} {ds : List D} (h : ∀ d ∈ ds, Sw n k d) : Sw (ds.length * (n + 1)) (k + 1) (.tup ds) := by
  obtain ⟨a1, a2, a3, a4, a5⟩ := sw_list h
  have e : D.pd (.tup ds) = .tuple (pdL ds) := by rw [D.pd]
  refine ⟨by rw [D.ndc]; exact a1, by rw [e]; exact a2, by rw [e]; exact Nat.succ_le_succ a3, by rw [e]; exact a4, by rw [e]; exact a5, fun c hc => Nat.lt_of_not_le fun z => ?_⟩
  rw [e] at hc
  have fr := sw_free z h
  have hc : c ∈ (tupleText (PyData.shownAll (pdL ds))).cps.toList := hc
  unfold tupleText at hc
  rw [mem_cps_append, mem_cps_append, signs_lparen, mem_join, signs_sep, signs_tuple_end] at hc
  rcases hc with (hc | ⟨t, ht, hc⟩ | ⟨_, hc⟩) | hc
  · simp at hc; omega
  · exact fr t ht hc
  · simp at hc; omega
  · split at hc <;> (simp at hc; omega)
/-- may be shown -/
theorem Sw.go {n k : Nat} {d : D} (h : Sw n k d) (hn : n ≤ 1000000) (hk : k ≤ 90) : ShOk d ∧ PyData.strOk (strD d) = true := by
  refine ⟨⟨h.nd, h.sh, Nat.le_trans h.dp hk, ?_⟩, ?_⟩
  · have a := PyData.shown_le_bulk 13 (by decide) d.pd h.lv
    have b := h.bk
    rw [sizeLine_eq]
    omega
  · unfold PyData.strOk strD
    rw [← Array.all_toList, List.all_eq_true]
    intro c hc
    exact decide_eq_true (h.ok c hc)
end BX

namespace BX
open PySem PySem.Spec PyProof.Rows L2 RT L2.DX
def rPop1 : V → List V → Hp → VK → Prop := fun x xs H Q => ∃ (a : Addr) (kvs : List (List L2.Key × V)) (k : List L2.Key) (b : Addr) (v : V), x = .ref a ∧ xs = [.ref b] ∧ H a = some (.dT kvs) ∧ H b = some (.tup (k.map kV)) ∧
  valV kvs k = some v ∧ Q v (L2.upd H a (.dT (dropK kvs k)))
section
variable {X : Cx}
theorem mt_pop1 (hu : X.A.units + 1 < cLine) : MtR X "dict.pop" rPop1 := by
  intro pins s σ H x xs v us Q I rx rxs h
  obtain ⟨a, kvs, k, b, v0, rfl, rfl, ha, hb, ev, q⟩ := h
  cases rx
  obtain ⟨u1, rfl, r1⟩ := vals1 rxs
  cases r1
  obtain ⟨z, hd, xs', rel, dd⟩ := dt_of I.hok ha
  have hz : xs'.length ≤ sizeLine := by rw [← Paired.length rel]; exact z
  have r := rel.val k
  rw [ev] at r
  cases hp : atKey xs' k with
  | none => rw [hp] at r; exact (show False from r).elim
  | some p =>
    rw [hp] at r
    refine call_pop_heap (knd := tupleKind (mixKind X.prog X.w)) (more := []) (.inl rfl) (PySem.F.args_dict_pop_2 _ _) (tupleKind_room_in1 hu) (key_of I.hok hb) hd dd hp (fun h' dd' hs => ?_) hz
    obtain ⟨o, es, ep, hq, h2, h3, h4, _, h5⟩ := dd'
    refine ⟨v0, _, d_write (ob := .dT (dropK kvs k)) I (by rw [ha]; exact True.intro) hs ⟨o, hq⟩ ⟨Nat.le_trans (dropK_le kvs k) z, hd, _, (KT_drop k rel).keeps (fun c ys ec => ?_), o, es, ep, hq, h2, h3, h4, h5⟩, r, q⟩
    rw [upd_ne (ne_of ec ha (fun z => nomatch z))]
    exact ec
def bPop1 : Bn := fun r1 rs e Q => match rs with
  | [r2] => rd 1 r2 e fun d2 => match d2 with
    | .tup ds => match dKeys ds with
      | some ks => chgT r1 e fun i kvs m => immL (kvs.map (·.2)) = true ∧ match lookT kvs ks with
        | some d => Q (.tmp d) (e.set i (some (.dT (dropD kvs ks), m)))
        | none => False
      | none => False
    | _ => False
  | _ => False
theorem m_pop1 : MnOk X "dict" D.isDic rPop1 bPop1 where
  ty := ty_dic
  mono := fun r1 rs e Q Q' h q => by
    unfold bPop1 at q ⊢
    split at q
    · refine rd_mono (fun d2 q => ?_) q
      split at q
      · split at q
        · rename_i ks hk
          first
            | simp only [hk]
            | skip
          refine chgT_mono (fun i d m q => ⟨q.1, ?_⟩) q
          have q2 := q.2
          split at q2
          · rename_i d hl
            first
              | (simp only [hl]; exact h _ _ q2)
              | exact h _ _ q2
          · exact q2.elim
        · exact q.elim
      · exact q.elim
    · exact q.elim
  run := fun σ H e f r1 rs x ys g1 gs QQ Q A R1 R2 n q k => by
    unfold bPop1 at q
    split at q
    · cases R2 with
      | cons R2 Rt _ =>
        cases Rt
        obtain ⟨d2, g2', p2, q⟩ := rd_ok A R2 q
        split at q
        · split at q
          · rename_i ds ks hk
            obtain ⟨b, vs, rfl, hb, rb⟩ := p2.tupleAt (Nat.le_refl _)
            rw [rb.dKeys hk] at hb
            obtain ⟨i, kvs, m, a, hs, fp, rfl, e0, hm, hl, hv, hH, ek, nd, rk, hf, nfp, rfl, him, q⟩ := chgT_ok A R1 q
            obtain ⟨rfl, rk⟩ := rk.imm (Nat.zero_le _) him
            obtain ⟨h1, h2⟩ := drop_rep (k := ks) ek rk
            have nd2 : ((dropD kvs ks).map (·.1)).Nodup := nd.sublist ((List.filter_sublist).map _)
            split at q
            · rename_i d el
              obtain ⟨j, z, e1, e2, e3⟩ := valV_look ek el
              obtain ⟨A3, S3, K3, _⟩ := dT_chg (G := []) (G' := []) A e0 hm hl hv hH rfl hf nfp h1 nd2 h2 (fun b hb => by simp at hb) (fun b hb => by simp at hb) no_mem_nil
              rw [← dropK_eq] at A3 S3
              have rv : Rep X.K H 0 d z [] := rk.nilAt rfl j d z e1 e2
              refine ⟨a, hs, ks, b, z, rfl, rfl, hH, hb, e3, k _ _ _ _ _ [] A3 (.tmp (rv.keep fun b o hb q => ?_) no_mem_nil) (S3.more fun b hb => by simp at hb) K3 q⟩
              rcases q with q | q
              · simp at q
              · have : b ≠ a := fun z => by subst z; rw [hH] at hb; cases hb; cases q
                rw [upd_ne this]; exact hb
            · exact q.elim
          · exact q.elim
        · exact q.elim
    · exact q.elim
variable {o e : Expr} {es : List Expr} {ta te : XE} {u : XA} {cpos apos : Pos}
theorem de_pop1 (hx : Ok X) (ho : DE X o ta) (ha : DA X (e :: es) u) (hbase : attributeBase o "pop" X.env (eval o X.env) = eval o X.env := by rfl)
    (hfew : ((backTo cpos (starEach (e :: es) X.env)).all (fun x => !x.1) && (backToKw cpos (keywordEach [] X.env)).all (fun x => x.1.isSome)
      && decide ((e :: es).length + ([] : List Keyword).length + (if ([] : List Keyword).isEmpty then 0 else 1) < 30)) = true := by rfl)
    (hline : (apos.endLine == cpos.line) = true := by rfl) (hs : starEach (e :: es) X.env = (false, eval e X.env) :: starEach es X.env := by rfl) (hplain : (backTo cpos (starEach es X.env)).any (·.1) = false := by rfl) :
    DE X (.Call (.Attribute o "pop" apos) (e :: es) [] cpos) (dMn D.isDic bPop1 ta u) :=
  de_mn m_pop1 PySem.F.plainAttrs_dict PySem.F.slot_dict_pop PySem.F.type_dict_pop (mt_pop1 (by have := hx.un; omega)) ho ha hbase hfew hline hs hplain
end
/-- the pairs of a locked dict with tuple keys, each a new tuple -/
def Itit (d : Addr) (o : Obj) (kvs : List (List L2.Key × V)) : It :=
  ⟨fun i H => H d = some (.frz o (.dT kvs)) ∧ i < kvs.length,
   fun i H x H' => ∃ (T q : Addr) (k : List L2.Key) (v : V), kvs[i]? = some (k, v) ∧ x = .ref T ∧ H T = none ∧ H q = some (.tup (k.map kV)) ∧ H' = L2.upd H T (.tup [.ref q, v]),
   fun i H => H d = some (.frz o (.dT kvs)) ∧ kvs.length ≤ i⟩
section
variable {X : Cx} {pins : List (Addr × Obj)} {σ : L2.St} {H : Hp} {s : Shared} {d : Addr} {o : Obj}
theorem frz_entries {kvs : List (List L2.Key × V)} (I : Inv X pins σ H s) (h : H d = some (.frz o (.dT kvs))) :
    (d == sysModules) = false ∧ ∃ (es : Array DictEntry) (ep : Nat), o.data = .dict es ep ∧ s.heap.DictRaw d es ep ∧ es.size = kvs.length ∧
      ∀ (i : Nat) (k : List L2.Key) (v : V), kvs[i]? = some (k, v) → ∃ (en : DictEntry) (q : Addr), es[i]? = some en ∧ en.key = .ref q ∧ H q = some (.tup (k.map kV)) ∧ RelV v en.val := by
  obtain ⟨hd, z, hs, xs, pr, o', es, ep, ho, hx, hdt, he, _⟩ := I.hok d _ h
  rw [hd] at ho
  cases ho
  refine ⟨hs, es, ep, hdt, ⟨o, hd, hx, hdt⟩, ?_, fun i k v e => ?_⟩
  · have l1 : es.size = xs.length := size_of_entries he
    have l2 : kvs.length = xs.length := Paired.length pr
    omega
  · obtain ⟨b, hb, e1, e2, e3⟩ := paired_get pr e
    have q := entry_at he i
    rw [hb] at q
    exact ⟨_, b.2.1, q, rfl, e2, e3⟩
theorem turn_itemsT {P : Program} {w : World} {K : PySem.W.Frag} {es : Array DictEntry} {ep : Nat} {kvs : List (List L2.Key × V)} {elts : List Expr} {kk : Nat} {tpos : Pos} (it : Addr) (hod : o.data = .dict es ep) :
    Turn P w K (.Tuple elts kk tpos) (Itit d o kvs) [it] it (fun i h => ∃ ok ov, IsItemIter h it d i es.size ep ok ov) where
  mem := by simp
  obj := by
    rintro i h ⟨ok, ov, e⟩ b hb
    obtain rfl : b = it := by simpa using hb
    exact ⟨_, e, fun v z => nomatch z⟩
  keep := fun i h h' ⟨ok, ov, e⟩ k => ⟨ok, ov, k it (by simp) _ e⟩
  item := by
    intro X hP hw hK hc i pins s σ H E I hf st hg
    subst hP hw hK
    obtain ⟨hd, hi⟩ := hg
    obtain ⟨hs, es', ep', hdt, raw, hsz, ent⟩ := frz_entries I hd
    obtain ⟨rfl, rfl⟩ := dict_ep hod hdt
    obtain ⟨⟨k, v⟩, hkv⟩ : ∃ p, kvs[i]? = some p := ⟨kvs[i], List.getElem?_eq_getElem hi⟩
    obtain ⟨en, q, hen, hkey, hq, rv⟩ := ent i k v hkv
    obtain ⟨ok, ov, he⟩ := st
    have ie : i < es'.size := by omega
    have een : es'[i] = en := by rw [Array.getElem?_eq_getElem ie] at hen; exact Option.some.inj hen
    have hlt : it < s.heap.objs.size := Heap.lt_size he
    refine wpAny_pyNext_items_item_raw he raw ie fun h' ho hT hz hk => ?_
    rw [een, hkey] at ho hT
    refine ⟨_, rfl, wpAny_letOwnedTupleGo_items (s := { s with heap := h' }) ho fun h'' he' sb => ?_⟩
    have hT2 : h''.get? s.heap.objs.size = some { cls := .type "tuple", data := .seq #[.ref q, en.val] } := (sb.2 _ (Nat.ne_of_gt hlt)).trans hT
    have new : ObjOk X.prog X.w (L2.upd H s.heap.objs.size (.tup [.ref q, v])) h'' s.heap.objs.size (.tup [.ref q, v]) :=
      ⟨by show 2 ≤ sizeLine; decide, [.ref q, en.val], .cons rfl (.cons rv .nil), ⟨_, hT2, rfl, _, rfl⟩⟩
    have I1 : Inv X pins σ (L2.upd H s.heap.objs.size (.tup [.ref q, v])) { s with heap := h'' } :=
      I.turnedNew (t' := s.toks) (ch := [it]) (fun b ob hb e => (sb.2 b (by simpa using hb)).trans (hk b ob (by simpa using hb) e)) hf (Nat.le_refl _) new
    refine ⟨.ref s.heap.objs.size, _, I1, rfl, ⟨_, q, k, v, hkv, rfl, I.hok.fresh (Nat.le_refl _), hq, rfl⟩, ⟨_, _, he'⟩, fun b hb => ?_⟩
    obtain rfl : b = it := by simpa using hb
    rw [upd_ne (Nat.ne_of_lt hlt)]
    exact (hf b (by simp)).1
  done := by
    intro X hP hw hK hc i pins s σ H E I hf st hg
    subst hP hw hK
    obtain ⟨hd, hi⟩ := hg
    obtain ⟨f0, f1, f2, f3, f4, f5⟩ := hf it (by simp)
    obtain ⟨hs, es', ep', hdt, raw, hsz, ent⟩ := frz_entries I hd
    obtain ⟨rfl, rfl⟩ := dict_ep hod hdt
    obtain ⟨ok, ov, he⟩ := st
    exact wpAny_pyNext_items_end_raw (I.ok.hd hc) he raw (by omega) fun h' eb => ⟨rfl, I.turned (t' := s.toks) (fun b ob hb e => eb b ob hb e) f0 f1 f3 f4 f5⟩
  self := fun A i s Q E ⟨_, _, e⟩ h => PySem.W.kcp_self e h
end
/-- d.items(), d locked, or a new dict that is locked here -/
def iItems' (td : TE) : TI := fun σ H R => td σ H fun x H1 => ∃ (d : Addr) (kvs : List (List L2.Key × V)), x = .ref d ∧ ((∃ o, H1 d = some (.frz o (.dT kvs)) ∧ R (Itit d o kvs) H1) ∨ (H1 d = some (.dT kvs) ∧ ∀ o, R (Itit d o kvs) (L2.upd H1 d (.frz o (.dT kvs)))))
section
variable {X : Cx} {e : Expr} {td : TE} {apos cpos : Pos} {elts : List Expr} {kk : Nat} {tpos : Pos}
theorem pi_itemsT (he : PE X e td) (hbase : attributeBase e "items" X.env (eval e X.env) = eval e X.env := by rfl) (hline : (apos.endLine == cpos.line) = true := by rfl) :
    PI X (.Tuple elts kk tpos) (.Call (.Attribute e "items" apos) [] [] cpos) (iItems' td) := by
  refine ⟨fun pins s σ H R I h => ?_⟩
  refine wpAny_Call_method (T := "dict") (id := "dict.items") hbase rfl hline F.plainAttrs_dict F.slot_dict_items F.type_dict_items (thn (he.run pins s σ H _ I h) ?_)
  rintro u s1 ⟨x, H1, I1, rx, d, kvs, ex, q⟩
  subst ex
  obtain rfl : u = Value.ref d := rx
  obtain ⟨o, H2, hd, I2, q⟩ : ∃ o H2, H2 d = some (.frz o (.dT kvs)) ∧ Inv X pins σ H2 s1 ∧ R (Itit d o kvs) H2 := by
    rcases q with ⟨o, hd, q⟩ | ⟨hd, q⟩
    · exact ⟨o, H1, hd, I1, q⟩
    · obtain ⟨od, I2⟩ := I1.lock hd True.intro
      exact ⟨od, _, upd_same, I2, q od⟩
  obtain ⟨hs, es, ep, hdt, raw, hsz, ent⟩ := frz_entries I2 hd
  obtain ⟨oo, hoo, hxx, hdd⟩ := id raw
  have I3 : Inv X pins σ H2 { s1 with heap := s1.heap.push { cls := .type "dict_items", data := .fields #[.ref d] } } := I2.kept (t' := s1.toks) fun b ob q => Heap.get?_push_of_some _ q
  have fin : wpAny (model X.prog X.w) X.A (pyIter (.ref s1.heap.objs.size)) (PIE X pins σ (.Tuple elts kk tpos) R) X.xe { s1 with heap := s1.heap.push { cls := .type "dict_items", data := .fields #[.ref d] } } :=
    wpAny_pyIter_items_raw (d := d) ⟨_, Heap.get?_push_size _ rfl, rfl, rfl⟩ (raw.at fun o h => Heap.get?_push_of_some _ h) (pi_one (tk := s1.toks) I3 _ (turn_itemsT _ hdt) ⟨.none, .none, Heap.get?_push_size _ rfl⟩ q)
  refine ⟨raw.typeIs, fun b e => by cases e; exact ⟨oo, hoo, hxx.2.1⟩, ?_⟩
  · show wpAny _ _ (callWith cpos (.builtin "dict.items") [.ref d] [] []) _ X.xe s1
    exact method_meetsIn F.slot_dict_items F.entry_dict_items rfl (PySem.evalArgs_none ⟨rfl, raw.typeIs, F.args_dict_items_1 _, _, meets_dict_items_raw d hs, ⟨es, ep, raw⟩, fin⟩)
end
end BX

namespace BX
open PySem PySem.Spec PyProof.Rows L2 RT L2.DX
def itemsD (kvs : List (List Key × D)) : List D := kvs.map fun p => .tup [.tup (p.1.map kD), p.2]
/-- the items of a frozen dict -/
def iItm (i : Nat) : XI := fun env k => match env[i]? with
  | some (some (.dF kvs, .own)) => k (itemsD kvs) none none env
  | _ => False
/-- the items of a dict that nobody else has -/
def iItmT (t : XE) : XI := fun env k => t env fun r e => match r with
  | .tmp (.dT kvs) => immL (kvs.map (·.2)) = true ∧ k (itemsD kvs) none none e
  | _ => False
section
variable {K : PySem.W.Frag} {H H1 : Hp} {P : List Addr} {σ : L2.St} {env : En} {f : FA}
theorem wk_itemsT {a : Addr} {o : Obj} {hs : List (List Key × V)} {kvs : List (List Key × D)} (ha : H1 a = some (.frz o (.dT hs))) (ek : hs.map (·.1) = kvs.map (·.1)) (rr : Reps K H1 0 (kvs.map (·.2)) (hs.map (·.2)) []) :
    Wk K (Itit a o hs) (itemsD kvs) none H1 P := by
  have hl : hs.length = kvs.length := by have := congrArg List.length ek; simpa using this
  have hn : ∀ H, Near H1 P H → H a = some (.frz o (.dT hs)) := fun H n => n a _ ha (.inr rfl)
  refine ⟨fun i H n h => ⟨hn H n, by rw [hl]; simpa [itemsD] using h⟩, fun i H n h => ⟨hn H n, by rw [hl]; simpa [itemsD] using h⟩, fun i H x H' d n e y => ?_⟩
  obtain ⟨T, q, k, v, e1, rfl, hT, hq, rfl⟩ := y
  have up : ∀ b o, H b = some o → L2.upd H T (.tup [.ref q, v]) b = some o := fun b o h => by rw [upd_ne (ne_of_none h hT)]; exact h
  refine ⟨up, ?_⟩
  have e2 : (kvs.map (·.1))[i]? = some k := by rw [← ek, List.getElem?_map, e1]; rfl
  rw [List.getElem?_map] at e2
  unfold itemsD at e
  rw [List.getElem?_map] at e
  cases h : kvs[i]? with
  | none => rw [h] at e; cases e
  | some p =>
    rw [h] at e e2
    cases e
    have e3 : p.1 = k := Option.some.inj e2
    subst e3
    have rv : Rep K H1 0 p.2 v [] := rr.nilAt rfl i p.2 v (by rw [List.getElem?_map, h]; rfl) (by rw [List.getElem?_map, e1]; rfl)
    have rv2 : Rep K (L2.upd H T (.tup [.ref q, v])) 0 p.2 v [] := rv.keep fun b o hb z => up b o (n b o hb (z.imp_left fun y => by simp at y))
    have rk : Rep K (L2.upd H T (.tup [.ref q, v])) 0 (.tup (p.1.map kD)) (.ref q) [] := .tup (up _ _ hq) (key_rep _)
    show Rep K _ 0 (.tup [.tup (p.1.map kD), p.2]) (.ref T) []
    exact .tup upd_same (.cons (f := []) (g := []) rk (.cons (f := []) (g := []) rv2 .nil fun _ _ z => by cases z) fun _ _ z => by cases z)
/-- what is apart from all slots may change -/
theorem Abs.off {a : Addr} {u o : HO} (A : Abs K σ H env f) (ha : H a = some u) (hu : Mu u = true) (n : ¬ L0 env f a ∧ ¬ Ro env f a) : Abs K σ (L2.upd H a o) env f := by
  refine ⟨fun i d m h => ?_, A.dis, A.len⟩
  obtain ⟨v, h1, r⟩ := A.rep i d m h
  refine ⟨v, h1, r.keep fun b ob hb q => ?_⟩
  have : b ≠ a := fun z => by
    subst z
    rcases q with q | q
    · by_cases hl : m.lv = 0
      · exact n.1 ⟨i, d, m, h, hl, q⟩
      · exact n.2 ⟨i, d, m, h, hl, q⟩
    · rw [ha] at hb; cases hb; rw [hu] at q; cases q
  rw [upd_ne this]
  exact hb
end
section
variable {X : Cx} {apos cpos : Pos} {elts : List Expr} {kk : Nat} {tpos : Pos}
theorem di_items (i : Nat) {x : Str} {pos : Pos} (hN : X.N[i]? = some x := by rfl) (hv : Vis X.env.scope x := by first | exact Or.inl rfl | exact Or.inr (Or.inl rfl) | exact Or.inr (Or.inr rfl)) (hd : (x == ("__debug__" : Str)) = false := by decide)
    (hcd : (x == ("__classdict__" : Str)) = false := by decide) (hbase : attributeBase (.Name x pos) "items" X.env (eval (.Name x pos) X.env) = eval (.Name x pos) X.env := by rfl) (hline : (apos.endLine == cpos.line) = true := by rfl) :
    DI X (.Tuple elts kk tpos) (.Call (.Attribute (.Name x pos) "items" apos) [] [] cpos) (iItm i) := by
  refine ⟨PI.imp (pi_itemsT (pe_var hN hv hd hcd) hbase hline) fun σ H R q => ?_, fun env k k' h q => ?_⟩
  · obtain ⟨env, f, A, q⟩ := q
    unfold iItm at q
    split at q
    · rename_i kvs e
      obtain ⟨v, h1, rp⟩ := A.rep _ _ _ e
      refine ⟨v, h1, ?_⟩
      obtain ⟨g, hg⟩ : ∃ g, g = f i := ⟨_, rfl⟩
      rw [← hg] at rp
      cases rp with
      | @dF a o hs _ ha ek nd rr =>
        exact ⟨a, hs, rfl, .inl ⟨o, ha, q _ H f [] env A .refl .refl .none (wk_itemsT ha ek rr) (fun b hb => by simp at hb) (fun z => nomatch z)⟩⟩
    · exact q.elim
  · unfold iItm at q ⊢
    split at q
    · exact h _ _ _ _ q
    · exact q.elim
theorem di_itemsT {e : Expr} {t : XE} (he : DE X e t) (hbase : attributeBase e "items" X.env (eval e X.env) = eval e X.env := by rfl) (hline : (apos.endLine == cpos.line) = true := by rfl) :
    DI X (.Tuple elts kk tpos) (.Call (.Attribute e "items" apos) [] [] cpos) (iItmT t) := by
  refine ⟨PI.imp (pi_itemsT he.run hbase hline) fun σ H R q => ?_, fun env k k' h q => he.mono _ _ _ (fun r e q => ?_) q⟩
  · obtain ⟨env, f, A, q⟩ := q
    refine ⟨env, f, A, he.mono _ _ _ (fun r e1 q => ?_) q⟩
    intro x H1 f1 g1 A1 R1 S1 K1
    split at q
    · rename_i kvs
      obtain ⟨im, q⟩ := q
      cases R1 with
      | tmp rp n =>
        obtain ⟨a, hs, g, rfl, ha, ek, nd, rr, rfl, nz⟩ := rp.dTAt (by decide)
        obtain ⟨rfl, r0⟩ := rr.imm (Nat.zero_le _) im
        have na := n a (.head _)
        refine ⟨a, hs, rfl, .inr ⟨ha, fun o => ?_⟩⟩
        have r1 : Reps X.K (L2.upd H1 a (.frz o (.dT hs))) 0 (kvs.map (·.2)) (hs.map (·.2)) [] := r0.keep fun b ob hb z => by
          have : b ≠ a := fun y => by
            subst y
            rcases z with z | z
            · simp at z
            · rw [ha] at hb; cases hb; cases z
          rw [upd_ne this]
          exact hb
        have S2 : Stp H env f [] (L2.upd H1 a (.frz o (.dT hs))) e1 f1 [] := by
          refine ⟨fun b ob hb z => ?_, fun b z => ?_⟩
          · have h1 := S1.same b ob hb z
            have : b ≠ a := fun y => by
              subst y
              rw [ha] at h1
              cases h1
              rcases z with z | z
              · cases z
              · rcases S1.own b (.inr (.head _)) with y | y | y
                · exact z.1 y
                · simp at y
                · rw [hb] at y; cases y
            rw [upd_ne this]
            exact h1
          · rcases z with z | z
            · exact S1.own b (.inl z)
            · simp at z
        exact q _ _ f1 [] e1 (A1.off ha rfl na) S2 K1 .none (wk_itemsT upd_same ek r1) (fun b hb => by simp at hb) (fun z => nomatch z)
    · exact q.elim
  · split at q
    · exact ⟨q.1, h _ _ _ _ q.2⟩
    · exact q.elim
end
def tDct1 (tk tv : TE) : TE := fun σ H Q => ∀ p, H p = none → tk σ (L2.upd H p (.dT [])) fun x H1 => tv σ H1 fun y H2 => H2 p = some (.dT []) ∧ ∃ (b : Addr) (k : List Key), x = .ref b ∧ H2 b = some (.tup (k.map kV)) ∧ Q (.ref p) (L2.upd H2 p (.dT [(k, y)]))
theorem pe_dct1 {X : Cx} {k v : Expr} {tk tv : TE} {pos : Pos} (hu : X.A.units + 1 < cLine) (hk : PE X k tk) (hv : PE X v tv) : PE X (.Dict [some k] [v] pos) (tDct1 tk tv) := by
  refine ⟨fun pins s σ H Q I q => ?_⟩
  have hn := I.hok.fresh (Nat.le_refl s.heap.objs.size)
  have I1 := I.laid (a := s.heap.objs.size) (o := .dT []) (h' := s.heap.push { cls := .type "dict", data := .dict #[] }) (t' := s.toks) (fun _ _ q => Heap.get?_push_of_some _ q) (Nat.le_refl _) (dt_empty s.heap I.big)
  rw [arm_eval_Dict, zip_pairTrees [some k] [v] X.env pos rfl rfl, dictDisplay_pairs (pairTrees [some k] [v] X.env pos) (fun z => nomatch z) (by show 1 < 17; decide)]
  refine wpAny_bind (wpAny_standAt (wpAny_bind (wpAny_subDictH (knd := tupleKind (mixKind X.prog X.w)) (show X.A.units < cLine by omega) (by show 1 ≤ 15; decide) ?_)))
  refine pairTrees_cons_walk (thn (hk.run pins _ σ _ _ I1 (q _ hn)) fun u s1 ⟨x, H1, I2, rx, q1⟩ => thn (hv.run pins s1 σ H1 _ I2 q1) fun w2 s2 ⟨y, H2, I3, ry, q2⟩ => pairTrees_nil_walk ?_)
  obtain ⟨hp, b, ks, rfl, hb, q3⟩ := q2
  obtain rfl : u = Value.ref b := rx
  obtain ⟨z, hd, xs, rel, dd⟩ := dt_of I3.hok hp
  cases rel
  refine ⟨[(ks, b, w2)], ⟨rfl, rfl, key_of I3.hok hb, True.intro⟩, dd, fun h' tk dd' hs => ?_⟩
  have dd' : h'.DictOfH (tupleKind (mixKind X.prog X.w)) s.heap.objs.size [(ks, b, w2)] := dd'
  obtain ⟨o, es, ep, hq, h2, h3, h4, _, h5⟩ := dd'
  refine wpAny_pure ⟨.ref s.heap.objs.size, _, d_write (ob := .dT [(ks, y)]) I3 (by rw [hp]; exact True.intro) hs ⟨o, hq⟩ ⟨by show 1 ≤ sizeLine; decide, hd, [(ks, b, w2)], ?_, o, es, ep, hq, h2, h3, h4, h5⟩, rfl, q3⟩
  refine .cons ⟨rfl, ?_, ry⟩ .nil
  rw [upd_ne (ne_of hb hp (fun z => nomatch z))]
  exact hb
/-- {key: value} -/
def dDct1 (tk tv : XE) : XE := fun env Q => tk env fun r1 e1 => tv e1 fun r2 e2 => rd 1 r1 e2 fun d1 => stor r2 e2 fun d2 => match d1 with
  | .tup ds => match dKeys ds with
    | some k => d2.imm = true ∧ Q (.tmp (.dT [(k, d2)])) e2
    | none => False
  | _ => False
section
variable {X : Cx} {k v : Expr} {tk tv : XE} {pos : Pos}
theorem de_dct1 (hx : Ok X) (hk : DE X k tk) (hv : DE X v tv) : DE X (.Dict [some k] [v] pos) (dDct1 tk tv) := by
  refine ⟨PE.imp (pe_dct1 (by have := hx.un; omega) hk.run hv.run) fun σ H Q q => ?_, fun env Q Q' h q => hk.mono _ _ _ (fun r1 e1 q => hv.mono _ _ _ (fun r2 e2 q => rd_mono (fun d1 q => stor_mono (fun d2 q => ?_) q) q) q) q⟩
  · obtain ⟨env, f, A, q⟩ := q
    intro p hp
    have ex : ∀ b o, H b = some o → L2.upd H p (.dT []) b = some o := fun b o h => by rw [upd_ne (ne_of_none h hp)]; exact h
    have A' := A.ext ex
    have hpp : L2.upd H p (.dT []) p = some (.dT []) := upd_same
    refine ⟨env, f, A', hk.mono _ _ _ (fun r1 e1 q1 => ?_) q⟩
    intro x H1 f1 g1 A1 R1 S1 K1
    refine ⟨e1, f1, A1, hv.mono _ _ _ (fun r2 e2 q2 => ?_) q1⟩
    intro y H2 f2 g2 A2 R2 S2 K2
    obtain ⟨R1', n⟩ := R1.wait A1 S2 K2
    have S := S1.trans (S2.frame g1)
    have Kk := K1.trans K2
    have nl : ¬ L0 env f p := fun z => let ⟨o, ho, _⟩ := A.ldom z; by rw [hp] at ho; cases ho
    have nr : ¬ Ro env f p := fun z => let ⟨o, ho, _⟩ := A.rdom z; by rw [hp] at ho; cases ho
    have nw : ¬ W e2 f2 p := fun z => by
      rcases S.own p (.inl z) with y | y | y
      · exact nl y.l0
      · simp at y
      · rw [hpp] at y; cases y
    have nl2 : ¬ L0 e2 f2 p := fun z => (Kk.l0 z).elim nw nl
    have nr2 : ¬ Ro e2 f2 p := fun z => nr (Kk.ro' z)
    have h2p : H2 p = some (.dT []) := S.same p _ hpp (.inr ⟨fun z => nl z.l0, by simp⟩)
    obtain ⟨d1, g1', rp1, q2⟩ := rd_ok A2 R1' q2
    obtain ⟨d2, rp2, q2, _⟩ := stor_ok A2 R2 q2
    split at q2
    · rename_i ds
      split at q2
      · rename_i ks hks
        obtain ⟨him, q2⟩ := q2
        obtain ⟨b, vs, rfl, hb, rb⟩ := rp1.tupleAt (Nat.le_refl _)
        rw [rb.dKeys hks] at hb
        obtain ⟨_, r0⟩ := rp2.imm (Nat.zero_le _) him
        refine ⟨h2p, b, ks, rfl, hb, ?_⟩
        have r1 : Rep X.K (L2.upd H2 p (.dT [(ks, y)])) 0 d2 y [] := r0.keep fun c o hc z => by
          have : c ≠ p := fun w => by
            subst w
            rcases z with z | z
            · simp at z
            · rw [h2p] at hc; cases hc; cases z
          rw [upd_ne this]
          exact hc
        have rd : Rep X.K (L2.upd H2 p (.dT [(ks, y)])) 0 (.dT [(ks, d2)]) (.ref p) [p] := .dT upd_same rfl (by simp) (.cons (f := []) (g := []) r1 .nil fun _ _ z => by cases z) (fun _ z => by cases z)
        refine q2 _ _ f2 [p] (A2.off h2p rfl ⟨nl2, nr2⟩) (.tmp rd fun c hc => ?_) ⟨fun c o hc z => ?_, fun c z => ?_⟩ Kk
        · rw [List.mem_singleton.mp hc]; exact ⟨nl2, nr2⟩
        · have : c ≠ p := fun w => by rw [w, hp] at hc; cases hc
          rw [upd_ne this]
          exact S.same c o (ex c o hc) z
        · rcases z with z | z
          · rcases S.own c (.inl z) with y | y | y
            · exact .inl y
            · simp at y
            · by_cases w : c = p
              · rw [w]; exact .inr (.inr hp)
              · rw [upd_ne w] at y; exact .inr (.inr y)
          · rw [List.mem_singleton.mp z]; exact .inr (.inr hp)
      · exact q2.elim
    · exact q2.elim
  · split at q
    · split at q
      · exact ⟨q.1, h _ _ q.2⟩
      · exact q.elim
    · exact q.elim
end
end BX

namespace BX
open PySem PySem.Spec PyProof.Rows L2

/-- a real value that stands for d in every heap -/
def GR (K : PySem.W.Frag) (d : D) (u : Value) : Prop := ∃ v : V, RelV v u ∧ ∀ H, Rep K H 2 d v []
def GRs (K : PySem.W.Frag) (ds : List D) (us : List Value) : Prop := ∃ vs : List V, Vals vs us ∧ ∀ H, Reps K H 2 ds vs []
theorem gr_int {K : PySem.W.Frag} (i : Int) (t : Tok) : GR K (.int i) (.int i t) := ⟨.int i, ⟨_, rfl⟩, fun _ => .int i⟩
theorem gr_str {K : PySem.W.Frag} (i : Str) (t : Tok) : GR K (.str i) (.str i t) := ⟨.str i, ⟨_, rfl⟩, fun _ => .str i⟩
theorem grs_nil {K : PySem.W.Frag} : GRs K [] [] := ⟨[], .nil, fun _ => .nil⟩
theorem grs_cons {K : PySem.W.Frag} {d : D} {u : Value} {ds : List D} {us : List Value} (h : GR K d u) (t : GRs K ds us) : GRs K (d :: ds) (u :: us) := by
  obtain ⟨v, r, p⟩ := h
  obtain ⟨vs, rs, ps⟩ := t
  exact ⟨v :: vs, .cons r rs, fun H => .cons (f := []) (g := []) (p H) (ps H) fun z => by cases z⟩
theorem gr_tup {K : PySem.W.Frag} {a : Addr} {o : Obj} {its : Array Value} {n : Nat} {ds : List D} (l : K.lookup a = some o) (c : o.cls = .type "tuple") (e : o.data = .seq its n) (z : its.size ≤ sizeLine) (t : GRs K ds its.toList) : GR K (.tup ds) (.ref a) := by
  obtain ⟨vs, rs, ps⟩ := t
  exact ⟨.ref a, rfl, fun H => .tupK (Nat.le_refl _) ⟨o, its, n, l, c, e, z, rs⟩ (ps H)⟩
/-- the name x of the module stands for d -/
def Gv (K : PySem.W.Frag) (mg : Str → Option Value) (x : Str) (d : D) : Prop := ∃ u, mg x = some u ∧ GR K d u
theorem de_glob {X : Cx} {x : Str} {pos : Pos} {d : D} (hg : Gl X x) (h : Gv X.K X.mg x d) (hd : (x == ("__debug__" : Str)) = false := by decide) : DE X (.Name x pos) (dG d) := by
  obtain ⟨u, hm, v, rv, rp⟩ := h
  refine ⟨PE.imp (pe_glob hg hm rv hd) fun σ H Q q => ?_, fun env Q Q' h q => h _ _ q⟩
  obtain ⟨env, f, A, q⟩ := q
  have rp := rp H
  show Q v H
  have q : PostE X.K σ H env f Q (mkRo true d) env := q
  cases d with
  | non => exact q v H f _ A (.tmp rp.non0 no_mem_nil) .refl .refl
  | bl b => exact q v H f _ A (.tmp rp.bl0 no_mem_nil) .refl .refl
  | int b => exact q v H f _ A (.tmp rp.int0 no_mem_nil) .refl .refl
  | str b => exact q v H f _ A (.tmp rp.str0 no_mem_nil) .refl .refl
  | tup ds => exact q v H f _ A (.ro rp no_mem_nil) .refl .refl
  | lst ds => exact q v H f _ A (.ro rp no_mem_nil) .refl .refl
  | dT ds => exact q v H f _ A (.ro rp no_mem_nil) .refl .refl
  | dK ds => exact q v H f _ A (.ro rp no_mem_nil) .refl .refl
  | dF ds => exact q v H f _ A (.ro rp no_mem_nil) .refl .refl
end BX

namespace BX
open PySem PySem.Spec PyProof.Rows L2 RT
def opNeE : OP := fun a b k => match a, b with
  | .dT kvs, .dT [] => k (.bl (!kvs.isEmpty))
  | _, _ => False
theorem Rep.dT1 {K : PySem.W.Frag} {H : Hp} {kvs : List (List Key × D)} {v : V} {g : List Addr} (r : Rep K H 1 (.dT kvs) v g) : ∃ a hs, v = .ref a ∧ H a = some (.dT hs) ∧ hs.map (·.1) = kvs.map (·.1) := by
  cases r with
  | dT h e nd r n => exact ⟨_, _, rfl, h, e⟩
  | dTF l => omega
section
variable {prog : Program} {w : World} {A : Around} {E : Value → Shared → Prop} {s : Shared} {a b : Addr} {es es' : Array DictEntry} {ep ep' : Nat}
theorem same_none {nm : String} {Q : Bool → Shared → Prop} (ha : (a == sysModules) = false) (hb : (b == sysModules) = false) (da : s.heap.DictRaw a es ep) (db : s.heap.DictRaw b es' ep') (z : es'.size = 0) (h : Q (es.size == 0) s) :
    wpAny (model prog w) A (Builtin.Dict.samePairs nm a b) Q E s := by
  obtain ⟨oa, hoa, _, hda⟩ := da
  obtain ⟨ob, hob, _, hdb⟩ := db
  unfold Builtin.Dict.samePairs Builtin.Dict.showsAll
  rw [if_neg (by rw [ha]; exact Bool.false_ne_true), if_neg (by rw [hb]; exact Bool.false_ne_true)]
  apply wpAny_bind
  apply wpAny_pure
  apply wpAny_bind
  apply wpAny_pure
  apply wpAny_bind
  refine wpAny_dictEntries hoa hda ?_
  dsimp only
  apply wpAny_bind
  refine wpAny_dictEntries hob hdb ?_
  rw [z]
  by_cases n : es.size = 0
  · rw [n] at h ⊢
    rw [if_neg (by decide)]
    apply wpAny_bind
    refine wpAny_dictEpoch hoa hda ?_
    apply wpAny_bind
    rw [Std.Legacy.Range.forIn_eq_forIn_range']
    simp only [Std.Legacy.Range.size, Nat.sub_zero, Nat.add_sub_cancel, Nat.div_one, List.range'_zero, List.forIn_nil]
    apply wpAny_pure
    apply wpAny_pure
    exact h
  · rw [if_pos (by simpa using n)]
    have e : (es.size == 0) = false := by simpa using n
    rw [e] at h
    exact wpAny_bind (wpAny_rule (wpAny_pure h))
theorem ne_none {Q : Value → Shared → Prop} (ha : (a == sysModules) = false) (hb : (b == sysModules) = false) (da : s.heap.DictRaw a es ep) (db : s.heap.DictRaw b es' ep') (z : es'.size = 0) (hu : A.units < cLine) (h : Q (.bool (!(es.size == 0))) s) :
    wpAny (model prog w) A (compareOp .NotEq (.ref a) (.ref b)) Q E s := by
  refine wpAny_richCompare_same_room (op := .NotEq) da.typeIs db.typeIs PySem.F.slot_dict_ne (wpAny_call_entry PySem.F.slot_dict_ne da.typeIs PySem.F.entry_dict_ne ?_ (PySem.F.args_dict_ne_2 _ _)) hu
  show wpAny _ _ (Builtin.Dict.dictSlotArgs "__ne__" ⟨[.ref a, .ref b], []⟩ >>= _) _ _ s
  apply wpAny_bind
  unfold Builtin.Dict.dictSlotArgs
  refine wpAny_bind (wpAny_notOrdered_dict da.typeIs ?_)
  show wpAny _ _ (pure (Value.ref a, Value.ref b)) _ _ s
  apply wpAny_pure
  refine wpAny_bind (wpAny_isInstance (T := "dict") db.typeIs PySem.F.sub_dict_dict ?_)
  simp only [Bool.not_true, Bool.false_eq_true, if_false]
  apply wpAny_bind
  apply wpAny_pure
  apply wpAny_bind
  apply wpAny_pure
  apply wpAny_bind
  refine same_none ha hb da db z ?_
  exact wpAny_pure ⟨_, rfl, fun x => (nomatch x), by simpa using h⟩
end
section
variable {X : Cx} (hx : Ok X)
include hx
theorem od_neE : OpD X (compareOp .NotEq) 1 opNeE := .mk' (fun pins s σ H x y v u Q d1 d2 g1 g2 I rx ry r1 r2 q => by
  unfold opNeE at q
  split at q
  · rename_i kvs
    obtain ⟨a, hs, rfl, ha, ea⟩ := r1.dT1
    obtain ⟨b, hs', rfl, hb, eb⟩ := r2.dT1
    have eb : hs' = [] := by cases hs' with | nil => rfl | cons p t => cases eb
    subst eb
    cases rx
    cases ry
    obtain ⟨_, n1, xs1, rel1, dd1⟩ := dt_of I.hok ha
    obtain ⟨_, n2, xs2, rel2, dd2⟩ := dt_of I.hok hb
    have l1 : xs1.length = kvs.length := by rw [← Paired.length rel1, ← List.length_map (f := (·.1)) (as := hs), ea, List.length_map]
    have l2 : xs2 = [] := by
      have := Paired.length rel2
      cases xs2 with
      | nil => rfl
      | cons p t => cases this
    subst l2
    obtain ⟨o1, es1, ep1, g1, x1, t1, n1', _⟩ := dd1
    obtain ⟨o2, es2, ep2, g2, x2, t2, n2', _⟩ := dd2
    have z1 : es1.size = kvs.length := by rw [← l1, ← Array.length_toList, n1', List.length_map]
    refine ne_none n1 n2 ⟨o1, g1, x1, t1⟩ ⟨o2, g2, x2, t2⟩ (by rw [← Array.length_toList, n2']; rfl) (by have := hx.un; omega) ?_
    refine ⟨.bl _, H, I, rfl, ?_⟩
    have e : (!(es1.size == 0)) = !kvs.isEmpty := by rw [z1]; cases kvs <;> rfl
    rw [e]
    exact q _ _ [] (.bl _) .refl
  · exact q.elim) (fun a b k k' h q => by
  unfold opNeE at q ⊢
  split at q
  · exact h _ q
  · exact q.elim)
end
theorem bl_neE : BlOp opNeE := fun d1 d2 k q => by
  unfold opNeE at q ⊢
  split at q
  · exact ⟨⟨_, rfl⟩, q⟩
  · exact q.elim
end BX

namespace BX
open PySem PySem.Spec PyProof.Rows L2 RT PySem.W
/-- the pairs of ints that are the keys -/
def keyPs : List (List Key × D) → Option (List (Int × Int))
  | [] => some []
  | ([.inl x, .inl y], _) :: r => (keyPs r).map ((x, y) :: ·)
  | _ => none
def lessP (p q : Int × Int) : Bool := if p.1 = q.1 then decide (p.2 < q.2) else decide (p.1 < q.1)
def minP (x : Int × Int) (xs : List (Int × Int)) : Int × Int := xs.foldl (fun a y => if lessP y a = true then y else a) x
def bMinK (d : D) (k : D → Prop) : Prop := match d with
  | .dT kvs => match keyPs kvs with
    | some (p :: ps) => k (.tup [.int (minP p ps).1, .int (minP p ps).2])
    | _ => False
  | _ => False
def AtP (H : Hp) (b : Addr) (p : Int × Int) : Prop := H b = some (.tup [V.int p.1, V.int p.2])
theorem keyPs_at {H : Hp} {kvs : List (List Key × D)} : ∀ {hs : List (List Key × V)} {bs : List Addr} {l : List (Int × Int)}, IsKeys H hs bs → hs.map (·.1) = kvs.map (·.1) → keyPs kvs = some l → Paired (AtP H) bs l := by
  induction kvs with
  | nil =>
    intro hs bs l ik e1 e2
    cases hs with
    | nil => cases ik; cases e2; exact .nil
    | cons _ _ => simp at e1
  | cons p r ih =>
    intro hs bs l ik e1 e2
    cases ik with
    | nil => simp at e1
    | @cons h0 b hs bs hb t =>
      rw [List.map_cons, List.map_cons] at e1
      injection e1 with e3 e4
      obtain ⟨pk, pd⟩ := p
      unfold keyPs at e2
      split at e2
      · rename_i e; cases e
      · rename_i x y d r' e
        injection e with e5 e6
        subst e6
        injection e5 with e5 e7
        subst e5
        cases hk : keyPs r with
        | none => rw [hk] at e2; cases e2
        | some l' =>
          rw [hk] at e2
          cases e2
          refine .cons ?_ (ih t e4 hk)
          dsimp only at e3
          rw [e3] at hb
          exact hb
      · cases e2
theorem pair_get {H : Hp} {bs : List Addr} {l : List (Int × Int)} (p : Paired (AtP H) bs l) : ∀ {i : Nat} {b : Addr}, bs[i]? = some b → i < l.length ∧ AtP H b (l.getD i (0, 0)) := by
  induction p with
  | nil => intro i b e; simp at e
  | cons h t ih =>
    intro i b e
    cases i with
    | zero => cases e; exact ⟨Nat.succ_pos _, h⟩
    | succ i =>
      have := ih (i := i) (b := b) (by simpa using e)
      exact ⟨Nat.succ_lt_succ this.1, by simpa using this.2⟩
theorem lt_pair (p q : Int × Int) : DatumOrd.lt p q = lessP p q := rfl
section
variable {X : Cx} {pins : List (Addr × Obj)} {σ : L2.St} {H : Hp} {s : Shared}
theorem min_keys (hx : Ok X) {a : Addr} {p : Int × Int} {ps : List (Int × Int)} {bs : List Addr} {es : Array DictEntry} {ep : Nat} {Q : VK} (I : Inv X pins σ H s) (hd : (a == sysModules) = false) (hm : s.heap.DictRaw a es ep)
    (hk : ∀ (i : Nat) (h : i < es.size), ∃ b, bs[i]? = some b ∧ es[i].key = .ref b) (hl : es.size = ps.length + 1) (pp : Paired (AtP H) bs (p :: ps))
    (q : ∀ b, H b = some (.tup [V.int (minP p ps).1, V.int (minP p ps).2]) → Q (.ref b) H) : wpAny (model X.prog X.w) X.A (call (.builtin "min") [.ref a]) (EP X pins σ Q) X.xe s := by
  have hlt : a < s.heap.objs.size := by obtain ⟨_, e, _⟩ := hm; exact Heap.lt_size e
  have rd : ∀ (h' : Heap) (b : Addr) (y : Int × Int), (∀ b o, s.heap.get? b = some o → h'.get? b = some o) → AtP H b y → ∃ as, Reads h' (.ref b) (Datum.toD y) as := fun h' b y kp e => by
    obtain ⟨as, r⟩ := Dp.reads I (Datum.toD y) (.ref b) _ (.tup (xs := [V.int y.1, V.int y.2]) (.inl (.inl e)) (.cons (.int _) (.cons (.int _) .nil))) rfl
    exact ⟨as, Reads.keeps kp r⟩
  refine call_min_walkH (wpAny_pyIter_dict_raw hd hm ?_)
  refine ⟨s.heap.objs.size, [s.heap.objs.size, a], [s.heap.objs.size], (fun a b => b = a), es.size, _, _, s.heap, (fun i j => lessP ((p :: ps).getD i (0, 0)) ((p :: ps).getD j (0, 0))), rfl, ((PySem.Walks.rawKeys (A := X.A.in1) (I.ok.hd hx.calm) _ a (Nat.ne_of_lt hlt) es ep).toS), ⟨⟨_, Heap.get?_push_size _ rfl, rfl, rfl⟩, hm.at fun o e => Heap.get?_push_of_some _ e⟩, fun b hb => ?_, by omega, fun b o e hb => absurd (Heap.lt_size e) ((List.mem_singleton.mp hb) ▸ Nat.lt_irrefl _), fun b o e => Heap.get?_push_of_some _ e, ?_, ?_⟩
  · show b < (s.heap.push _).objs.size
    rw [Heap.size_push]
    rcases List.mem_cons.mp hb with rfl | hb
    · exact Nat.lt_succ_self _
    · rw [List.mem_singleton.mp hb]; exact Nat.lt_succ_of_lt hlt
  · intro i j vi vj s' Q E kp ⟨hi, ei⟩ ⟨hj, ej⟩ hq
    obtain ⟨b, hb, eb⟩ := hk i hi
    obtain ⟨c, hc, ec⟩ := hk j hj
    rw [eb] at ei
    rw [ec] at ej
    subst ei
    subst ej
    obtain ⟨l1, t1⟩ := pair_get pp hb
    obtain ⟨l2, t2⟩ := pair_get pp hc
    obtain ⟨as, r1⟩ := rd s'.heap b _ kp t1
    obtain ⟨cs, r2⟩ := rd s'.heap c _ kp t2
    refine rcLt_alike _ _ X.A.in1 s' _ _ _ _ r1 r2 (DatumOrd.alike _ _) (DatumOrd.notNone _) ?_ X.prog X.w E Q ?_
    · have h1 := Datum.depth_le ((p :: ps).getD i (0, 0))
      have h2 := Nat.min_le_left (Datum.toD ((p :: ps).getD i (0, 0))).depth (Datum.toD ((p :: ps).getD j (0, 0))).depth
      have h3 : Datum.depth (Int × Int) = 1 := rfl
      have := hx.un
      show X.A.units + 1 + _ < _
      omega
    · rw [DatumOrd.lt_eq, lt_pair]
      exact hq
  · intro v s' ⟨hi, ei⟩ m
    obtain ⟨h', tk, rfl, hk'⟩ := moved_old rfl rfl m
    obtain ⟨b, hb, eb⟩ := hk _ hi
    obtain ⟨l1, t1⟩ := pair_get pp hb
    have e1 : es.size - 1 = ps.length := by omega
    have e2 := (argBest_fold (fun a b => lessP a b) (0, 0) p ps ps.length (Nat.le_refl _)).2
    rw [List.take_length] at e2
    rw [e1] at t1
    rw [eb] at ei
    subst ei
    refine ⟨.ref b, H, I.kept hk', rfl, q b ?_⟩
    rw [e2] at t1
    exact t1
theorem cd_minK (hx : Ok X) : CallD X (.builtin "min") 1 (op1 bMinK) := call1 (by decide) (fun pins s σ H x us Q d g I rs r q => by
  obtain ⟨u, rfl, rx⟩ := vals1 rs
  unfold bMinK at q
  split at q
  · split at q
    · rename_i kvs p ps e
      cases r with
      | dTF l _ _ _ _ => exact absurd l (by omega)
      | @dT a hs kvs f ha he nd r nn =>
        cases rx
        obtain ⟨z, hss, ks, pr, o, es, ep, ho, hxx, hdt, hee, hn⟩ := (show ObjOk X.prog X.w H s.heap a (.dT hs) from I.hok a _ ha)
        have pp := keyPs_at (isKeys_of pr) he e
        have l1 : es.size = ks.length := size_of_entries hee
        have l3 := Paired.length pp
        rw [List.length_map, List.length_cons] at l3
        refine min_keys hx I hss ⟨o, ho, hxx, hdt⟩ (fun i hi => ?_) (by omega) pp fun b hb => ?_
        · have qe := entry_at hee i
          rw [Array.getElem?_eq_getElem hi] at qe
          cases hb : ks[i]? with
          | none => rw [hb] at qe; cases qe
          | some b =>
            rw [hb] at qe
            have e2 : es[i] = entryOfKey (tupleKind (mixKind X.prog X.w)) b := Option.some.inj qe
            exact ⟨b.2.1, by rw [List.getElem?_map, hb]; rfl, by rw [e2]; rfl⟩
        · exact q _ H [] (.tup hb (.cons (f := []) (g := []) (.int _) (.cons (f := []) (g := []) (.int _) .nil fun _ _ z => by simp at z) fun _ _ z => by simp at z)) ⟨fun b o h => h, fun b hb => by simp at hb⟩
    · exact q.elim
  · exact q.elim) (fun d k k' h q => by
  unfold bMinK at q ⊢
  split at q
  · split at q
    · first
        | exact h _ q
        | (simp only [*]; exact h _ q)
    · exact q.elim
  · exact q.elim)
end
end BX

namespace BX
open PySem PySem.Spec PyProof.Rows L2
/-- an unchanging thing, as one's own -/
def dTmp (t : XE) : XE := fun env Q => t env fun r e => rd 1 r e fun d => d.imm = true ∧ Q (.tmp d) e
section
variable {X : Cx} {e : Expr} {t : XE}
theorem de_tmp (h : DE X e t) : DE X e (dTmp t) := by
  refine ⟨PE.imp h.run fun σ H Q q => ?_, fun env Q Q' k q => h.mono _ _ _ (fun r e q => rd_mono (fun d q => ⟨q.1, k _ _ q.2⟩) q) q⟩
  obtain ⟨env, f, A, q⟩ := q
  refine ⟨env, f, A, h.mono _ _ _ (fun r e1 q1 => ?_) q⟩
  intro v H' f' g A' R S Kk
  obtain ⟨d, g', rp, im, q2⟩ := rd_ok A' R q1
  exact q2 v H' f' [] A' (.tmp (rp.imm (Nat.le_refl _) im).2 no_mem_nil) (S.drop no_mem_nil) Kk
end
/-- how many -/
def nC (i j c : Int) : Nat := ((j - i + c - 1) / c).toNat
def iRange3 (t u v : XE) : XI := fun env k => t env fun r e => u e fun r2 e2 => v e2 fun r3 e3 => rd 2 r e3 fun d => rd 2 r2 e3 fun d2 => rd 2 r3 e3 fun d3 => match d, d2, d3 with
  | .int i, .int j, .int c => RgC i j c (nC i j c) ∧ k ((List.range (nC i j c)).map fun n => .int (i + (n : Nat) * c)) none none e3
  | _, _, _ => False
theorem wk_rangeC {K : PySem.W.Frag} {H0 : Hp} {lo c : Int} {n : Nat} : Wk K (Itc lo c n) ((List.range n).map fun k => .int (lo + (k : Nat) * c)) none H0 [] where
  go := fun i H _ h => by show i < n; simpa using h
  stop := fun i H _ h => by show n ≤ i; simpa using h
  yld := fun i H x H' d _ h hy => by
    obtain ⟨rfl, rfl⟩ := hy
    refine ⟨fun b o h => h, ?_⟩
    rw [List.getElem?_map] at h
    cases e : (List.range n)[i]? with
    | none => rw [e] at h; cases h
    | some j =>
      rw [e] at h
      have hj : j = i := by
        obtain ⟨h1, h2⟩ := List.getElem?_eq_some_iff.mp e
        simpa using h2.symm
      subst hj
      cases h
      exact .int _
section
variable {X : Cx} {tg e e2 e3 : Expr} {t u v : XE} {p pos : Pos}
theorem di_range3 (ha : DE X e t) (hb : DE X e2 u) (hc : DE X e3 v) (hm : X.mg "range" = none) (hg : Gl X "range" := by rfl)
    (hs1 : starEach [e, e2, e3] X.env = (false, eval e X.env) :: starEach [e2, e3] X.env := by rfl) (hs2 : starEach [e2, e3] X.env = (false, eval e2 X.env) :: starEach [e3] X.env := by rfl) (hs3 : starEach [e3] X.env = (false, eval e3 X.env) :: starEach [] X.env := by rfl)
    (hpl : (backTo pos (starEach [e2, e3] X.env)).any (·.1) = false := by rfl) : DI X tg (.Call (.Name "range" p) [e, e2, e3] [] pos) (iRange3 t u v) := by
  refine ⟨PI.imp (pi_range3 hg hm (da_cons ha (da_cons hb (da_cons hc da_nil hs3) hs2) hs1).run hs1 hpl) fun σ H R q => ?_, fun env k k' h q => ha.mono _ _ _ (fun r e q => hb.mono _ _ _ (fun r2 e2 q => hc.mono _ _ _ (fun r3 e3 q => rd_mono (fun d q => rd_mono (fun d2 q => rd_mono (fun d3 q => ?_) q) q) q) q) q) q⟩
  · obtain ⟨env, f, A, q⟩ := q
    refine ⟨env, f, A, ha.mono _ _ _ (fun r1 e1 q => hb.mono _ _ _ (fun r2 e2 q => hc.mono _ _ _ (fun r3 e3 q => ?_) q) q) q⟩
    intro vs H1 f1 gs A1 R1 S1 K1
    cases R1 with
    | cons R1 Rt _ =>
      cases Rt with
      | cons R2 Rt _ =>
        cases Rt with
        | cons R3 Rt _ =>
          cases Rt
          obtain ⟨d, g', rp, q⟩ := rd_ok A1 R1 q
          obtain ⟨d2, g2', rp2, q⟩ := rd_ok A1 R2 q
          obtain ⟨d3, g3', rp3, q⟩ := rd_ok A1 R3 q
          split at q
          · obtain ⟨rfl, _⟩ := rp.intV
            obtain ⟨rfl, _⟩ := rp2.intV
            obtain ⟨rfl, _⟩ := rp3.intV
            exact ⟨_, _, _, _, rfl, q.1, q.2 _ H1 f1 [] e3 A1 (S1.drop fun _ z => by simp at z) K1 .none wk_rangeC (fun b hb => by simp at hb) (fun _ b hb => by simp at hb)⟩
          · exact q.elim
  · split at q
    · exact ⟨q.1, h _ _ _ _ q.2⟩
    · exact q.elim
end
end BX

namespace BX
open PySem PySem.Spec PyProof.Rows L2 RT PySem.W
structure SortDs (xs : List D) : Prop where
  imm : immL xs = true
  alike : AllAlike (xs.map D.py)
  kinds : Sortable (xs.map D.py)
  lay : ∀ d ∈ xs, d.py.canLay0 = true ∧ d.py.depth ≤ 40
def sortDs (xs : List D) : List D := xs.mergeSort (dataLe false D.py)
def bSortD (d : D) (k : D → Prop) : Prop := match d with
  | .lst xs => SortDs xs ∧ k (.lst (sortDs xs))
  | _ => False
def StF (K : PySem.W.Frag) (H : Hp) (v : Value) (d : D) : Prop := ∃ x : V, RelV x v ∧ Rep K H 0 d x []
theorem each_of {K : PySem.W.Frag} {H : Hp} {lv : Nat} (hl : lv ≤ 1) : ∀ {ds : List D} {xs : List V} {f : List Addr} {vs : List Value}, Reps K H lv ds xs f → immL ds = true → Vals xs vs → EachIs (StF K H) vs ds
  | _, _, _, _, .nil, _, .nil => .nil
  | d :: ds, _, _, _, .cons r t _, hi, .cons v vs => by
    rw [immL, Bool.and_eq_true] at hi
    exact .cons ⟨_, v, (r.imm hl hi.1).2⟩ (each_of hl t hi.2 vs)
theorem each_back {K : PySem.W.Frag} {H H' : Hp} (k : ∀ d x, Rep K H 0 d x [] → Rep K H' 0 d x []) : ∀ {ds : List D} {vs : List Value}, EachIs (StF K H) vs ds → ∃ xs : List V, Vals xs vs ∧ Reps K H' 0 ds xs []
  | _, _, .nil => ⟨[], .nil, .nil⟩
  | _, _, .cons ⟨x, r, p⟩ t => by
    obtain ⟨xs, rs, ps⟩ := each_back k t
    exact ⟨x :: xs, .cons r rs, .cons (f := []) (g := []) (k _ _ p) ps fun _ _ z => by simp at z⟩
section
variable {X : Cx}
theorem each_mono_mem {α β : Type} {R R' : α → β → Prop} : ∀ {as : List α} {bs : List β}, EachIs R as bs → (∀ a b, b ∈ bs → R a b → R' a b) → EachIs R' as bs
  | _, _, .nil, _ => .nil
  | _, _, .cons h t, k => .cons (k _ _ (List.mem_cons_self ..) h) (each_mono_mem t fun a b hb => k a b (List.mem_cons_of_mem _ hb))
theorem each_len {α β : Type} {R : α → β → Prop} : ∀ {as : List α} {bs : List β}, EachIs R as bs → as.length = bs.length
  | _, _, .nil => rfl
  | _, _, .cons _ t => congrArg (· + 1) (each_len t)
theorem cd_sortD (hx : Ok X) : CallD X (.builtin "sorted") 1 (op1 bSortD) := call1 (by decide) (fun pins s σ H x us Q d g I rs r q => by
  obtain ⟨u, rfl, rx⟩ := vals1 rs
  unfold bSortD at q
  split at q
  · rename_i xs
    obtain ⟨ok, q⟩ := q
    obtain ⟨a, vs, g', rfl, ha, ra, _⟩ := r.listAt1 (Nat.le_refl _)
    cases rx
    obtain ⟨its, rv, pl, hz⟩ := I.list (.inl (.inl ha) : SqL X.K H a vs)
    have e := each_of (Nat.le_refl _) ra ok.imm rv
    have er : EachIs (fun v b => ∃ as, Reads s.heap v (D.py b) as) its xs := each_mono_mem e fun v b hb ⟨y, rl, rp⟩ => Dp.reads I _ y v (rp.dp (ok.lay b hb).1) rl
    have hL : xs.length ≤ sizeLine := by rw [← each_len e, ← rv.length]; exact hz
    refine sorted_data pl.isList e er ok.alike ok.kinds hL (fun b hb => ?_) fun out hl eo => ?_
    · have h1 := (ok.lay b hb).2
      have := hx.un
      omega
    · have k1 : ∀ b o, s.heap.get? b = some o → (sortedAll s.heap its (List.toArray out)).get? b = some o := fun b o e => PyProof.Rows.sortedAll_old e
      obtain ⟨n, hn⟩ := PyProof.Rows.sortedAll_at s.heap its (List.toArray out)
      have hf : H (s.heap.objs.size + 1) = none := I.hok.fresh (Nat.le_succ _)
      obtain ⟨ys, ry, rp⟩ := each_back (fun d x r => r) eo
      refine ⟨.ref (s.heap.objs.size + 1), upd H (s.heap.objs.size + 1) (.lst ys), I.laid (t' := s.toks) k1 (Nat.le_succ _) ?_, rfl, q _ _ _ (upd_lst hf rp) (Ext.upd hf)⟩
      exact ⟨by rw [ry.length, hl]; exact hL, out, n, ry, hn⟩
  · exact q.elim) (fun d k k' h q => by
  unfold bSortD at q ⊢
  split at q
  · exact ⟨q.1, h _ q.2⟩
  · exact q.elim)
end
end BX

namespace BT
open PySem PySem.Spec PyProof.Rows L2
section
variable {P : Program} {w : World} {A : Around} {E : Value → Shared → Prop} {s : Shared}
set_option maxRecDepth 100000 in
set_option maxHeartbeats 3200000 in
/-- set(xs), xs a list -/
theorem set_of_ints {l : Addr} {its : Array Value} (ns : List Int) {Q : Value → Shared → Prop} (hh : A.handled = none) (hl : s.heap.IsList l its) (hit : IntsAre its.toList ns)
    (few : ns.length + 1 < scanBound)
    (q : ∀ (h' : Heap) (tk c : Nat), SetR w h' s.heap.objs.size (fun j => decide (j ∈ ns)) c → c ≤ ns.length → (∀ b o, s.heap.get? b = some o → h'.get? b = some o) → Q (.ref s.heap.objs.size) { s with heap := h', toks := tk }) :
    wpAny (model P w) A (call (.type "set") [.ref l]) Q E s := by
  have sz : its.size = ns.length := by
    have e := IntsAre.length hit
    simpa using e
  obtain ⟨c, tl, hmro⟩ := F.called_set.mro
  have hmade := F.called_set.made
  have hsub := F.called_set.sub
  refine wpAny_call (codeAny_of_tree ?_)
  show wpAny _ _ (callAny (.type "set") _) _ _ _
  apply wpAny_pure
  refine ⟨Code.quiet_builtin _ (by decide +kernel), codeAny_builtin F.entry_type_call ?_⟩
  rw [Around.under_plain (weight_type_call_type "set" [.ref l] []) rfl]
  have h1 := F.called_set.notType
  have h2 := F.called_set.canCreate
  have hct := F.typeCall_set_1 (.ref l)
  repeat (any_goals (first | assumption | wp_step))
  refine codeAny_mono (code_set_led1 (.ref l) (E := E) (Q₁ := fun o s₁ => o = .ref s.heap.objs.size ∧ s₁ = { s with heap := s.heap.push (emptyO w) }) ⟨rfl, rfl⟩) ?_
  intro r s₁ hr
  match r, hr with
  | .error e, hr => exact hr
  | .ok .next, hr => exact hr.elim
  | .ok .brk, hr => exact hr.elim
  | .ok .cont, hr => exact hr.elim
  | .ok (.ret o), hr =>
    obtain ⟨rfl, rfl⟩ := hr
    have at_S : (s.heap.push (emptyO w)).get? s.heap.objs.size = some (emptyO w) := Heap.get?_push_size _ rfl
    have hT : Shared.TypeIs { s with heap := s.heap.push (emptyO w) } (.ref s.heap.objs.size) "set" := ⟨_, at_S, rfl⟩
    have hli := F.called_set.init.lookup
    have hbi := F.called_set.init.bind (.ref s.heap.objs.size)
    repeat (any_goals (first | assumption | wp_step))
    refine codeAny_mono (codeAny_call_builtin (R := wants (fun r s₂ => r = .none ∧ ∃ h' tk c, s₂ = { s with heap := h', toks := tk } ∧ SetR w h' s.heap.objs.size (fun j => decide (j ∈ ns)) c ∧ c ≤ ns.length ∧ (∀ b o, s.heap.get? b = some o → h'.get? b = some o)) E)
      F.called_set.init.plain F.entry_set_init (check_set_init_1 hT ?init)) ?fin
    case fin =>
      intro r₂ s₂ z
      match r₂, z with
      | .error e, z => exact z
      | .ok .next, z => exact z.elim
      | .ok .brk, z => exact z.elim
      | .ok .cont, z => exact z.elim
      | .ok (.ret r), z =>
        obtain ⟨rfl, h', tk, c, rfl, z1, z2, z3⟩ := z
        repeat (any_goals (first | assumption | wp_step))
        exact q _ _ _ z1 z2 z3
    case init =>
      have lS : l < s.heap.objs.size := by
        obtain ⟨o, ho, _⟩ := hl
        exact Heap.lt_size ho
      have hlS : (s.heap.push (emptyO w)).IsList l its := by
        obtain ⟨o, ho, r⟩ := hl
        exact ⟨o, Heap.get?_push_of_some _ ho, r⟩
      have size1 : (s.heap.push (emptyO w)).objs.size = s.heap.objs.size + 1 := Heap.size_push ..
      have nothing : ∀ b, s.heap.objs.size ≤ b → s.heap.get? b = none := by
        intro b hb
        cases e : s.heap.get? b with
        | none => rfl
        | some o => exact absurd (Heap.lt_size e) (Nat.not_lt.mpr hb)
      obtain ⟨ol, hol, hcl, nl, hdl⟩ := id hl
      obtain ⟨ocls, odict, odata, oslots⟩ := ol
      simp only at hcl hdl
      subst hcl; subst hdl
      have hol' : (s.heap.push (emptyO w)).get? l = some { cls := .type "list", dict := odict, data := .seq its nl, slots := oslots } := Heap.get?_push_of_some _ hol
      have hs1 := F.sub_list_set
      have hs2 := F.sub_list_frozenset
      have hs3 : (Value.type "list" == Value.type "dict") = false := by decide
      unfold Builtin.«set.__init__» noKeywords Builtin.Frozenset.updateFrom
      generalize hPI : pyIter = PI
      wp_walk
      subst hPI
      refine wpAny_pyIter_list hlS (wpAny_bind (wpAny_runValue ?_))
      have ne1 : l ≠ (s.heap.push (emptyO w)).objs.size := by rw [size1]; exact Nat.ne_of_lt (Nat.lt_succ_of_lt lS)
      have ne2 : s.heap.objs.size ∉ [(s.heap.push (emptyO w)).objs.size, l] := by
        rw [size1]
        simp only [List.mem_cons, List.not_mem_nil, or_false, not_or]
        exact ⟨Nat.ne_of_lt (Nat.lt_succ_self _), Nat.ne_of_gt lS⟩
      have val : ∀ (i : Nat) (v : Value), its[i]? = some v → ∃ n t, ns[i]? = some n ∧ v = .int n t := by
        intro i v e
        have lt : i < ns.length := by rw [← sz]; exact (Array.getElem?_eq_some_iff.mp e).1
        obtain ⟨t, e2⟩ := IntsAre.int_at hit i v (by rw [Array.getElem?_toList]; exact e)
        exact ⟨ns[i], t, List.getElem?_eq_getElem lt, by rw [e2, List.getD_eq_getElem?_getD, List.getElem?_eq_getElem lt] <;> rfl⟩
      refine set_update_ints ((Walks.list (show A.in1.in1.in1.handled = none by simp [hh]) _ l ne1 its).toS) s.heap.objs.size ne2 ns sz few val
        (its.size - 0) 0 _ (by omega) (Nat.zero_le _) ⟨⟨_, Heap.get?_push_size _ rfl, rfl, rfl⟩, (hlS.push _)⟩ ⟨0, Nat.le_refl 0, setR_new_at (Heap.get?_push_of_some _ at_S)⟩ ?after
      case after =>
        intro s' c' hm g' hS'
        obtain ⟨h', g2, d', tk', os'⟩ := s'
        obtain rfl : g2 = s.gens := hm.gens
        obtain rfl : d' = s.drawn := hm.drawn
        obtain rfl : os' = s.os := hm.os
        show wpAny _ _ _ _ _ _
        refine wpAny_pure ?_
        show wpAny _ _ (ret Value.none) _ _ _
        rw [sz] at g'
        refine wpAny_pure ⟨rfl, h', tk', c', rfl, hS', g', fun b o e => ?_⟩
        refine hm.heap b o ?_ (Heap.get?_push_of_some _ (Heap.get?_push_of_some _ e))
        have hb := Heap.lt_size e
        simp only [List.mem_cons, List.not_mem_nil, or_false, not_or]
        exact ⟨Nat.ne_of_lt hb, by rw [size1]; exact Nat.ne_of_lt (Nat.lt_succ_of_lt hb)⟩
end
end BT

namespace BX
open PySem PySem.Spec PyProof.Rows L2 RT BT
/-- ints, rising, each once -/
def upI (ns : List Int) : List Int := (dd ns).mergeSort fun a b => decide (a ≤ b)
theorem upI_mem {ns : List Int} {x : Int} : x ∈ upI ns ↔ x ∈ ns := by
  unfold upI
  rw [(List.mergeSort_perm ..).mem_iff, dd_mem]
theorem upI_pw (ns : List Int) : (upI ns).Pairwise (· < ·) := by
  have h : (upI ns).Pairwise fun a b => decide (a ≤ b) = true := List.pairwise_mergeSort (fun a b c h1 h2 => by
    rw [decide_eq_true_eq] at *; omega) (fun a b => by rw [Bool.or_eq_true, decide_eq_true_eq, decide_eq_true_eq]; omega) _
  have n : (upI ns).Nodup := (List.mergeSort_perm ..).nodup_iff.mpr (dd_nodup ns)
  refine (h.and n).imp fun {a b} z => ?_
  have z1 := of_decide_eq_true z.1
  have z2 : a ≠ b := z.2
  omega
theorem up_uniq {a b : List Int} (ha : a.Pairwise (· < ·)) (hb : b.Pairwise (· < ·)) (h : ∀ x, x ∈ a ↔ x ∈ b) : a = b := by
  have na : a.Nodup := ha.imp fun {x y} z e => by omega
  have nb : b.Nodup := hb.imp fun {x y} z e => by omega
  exact List.Perm.eq_of_pairwise (le := (· < ·)) (fun x y _ _ p q => by omega) ha hb ((List.perm_ext_iff_of_nodup na nb).mpr h)
def rSetI (K : PySem.W.Frag) (w : World) : List V → Hp → VK → Prop := fun xs H Q => ∃ (l : Addr) (ns : List Int), xs = [V.ref l] ∧ SqL K H l (ns.map V.int) ∧ ns.length < 4000 ∧ ∀ a c, H a = none → c ≤ ns.length → Q (.ref a) (upd H a (SetO w a (fun j => decide (j ∈ ns)) c))
section
variable {X : Cx} {pins : List (Addr × Obj)} {σ : L2.St} {H : Hp} {s : Shared}
theorem cr_setI (hx : Ok X) : CallR X (.type "set") (rSetI X.K X.w) := by
  intro pins s σ H xs us Q I r h
  obtain ⟨l, ns, rfl, hl, few, q⟩ := h
  rw [Vals.ref1 r]
  have hn : H s.heap.objs.size = none := I.hok.fresh (Nat.le_refl _)
  obtain ⟨its, rv, pl, _⟩ := I.list hl
  refine set_of_ints ns (I.ok.hd hx.calm) pl.isList (by simpa using rv.ints) (by unfold scanBound; omega) fun h' tk c R hc kp => ?_
  exact ⟨.ref s.heap.objs.size, _, I.laid (t' := tk) kp (Nat.le_refl _) (setO_new R), rfl, q _ c hn hc⟩
def rSortSI (w : World) : List V → Hp → VK → Prop := fun xs H Q => ∃ (a : Addr) (ns : List Int) (c : Nat), xs = [V.ref a] ∧ H a = some (SetO w a (fun j => decide (j ∈ ns)) c) ∧ c < 4000 ∧ ∀ p, H p = none → Q (.ref p) (upd H p (.lst ((upI ns).map V.int)))
theorem cr_sortSI (hx : Ok X) : CallR X (.builtin "sorted") (rSortSI X.w) := by
  intro pins s σ H xs us Q I r h
  obtain ⟨a, ns, c, rfl, ha, few, q⟩ := h
  rw [Vals.ref1 r]
  obtain ⟨o, es, ep, t, ho, hex, hd, g, nd, hm, hb, hf, hn, hr, hl⟩ := setO_get I ha
  refine Calls.call_function_entry kind_sorted plain_sorted entry_sorted (args_sorted1 _) ?_
  unfold Builtin.«sorted»
  refine wpAny_bind (m := checkCount "sorted" 1 1 _) (wpAny_pure ?_)
  refine wpAny_bind (collect_set (I.ok.hd hx.calm) ⟨o, ho, hex.1, hd⟩ hf hb hr hl fun s1 vs k1 hz g1 o1 pm => ?_)
  have lv : vs.length = c := by rw [pm.length_eq, List.length_map, Array.length_toList]; exact hn
  have isI : ∀ v ∈ vs, ∃ i tk, v = Value.int i tk := fun v hv => by
    obtain ⟨e, he, q⟩ := List.mem_map.mp (pm.mem_iff.mp hv)
    obtain ⟨k, tk, h1, _⟩ := g e he
    exact ⟨k, tk, by rw [← q]; exact h1⟩
  have hI := SrtO.ints_iv isI
  have hz1 : vs.length ≤ sizeLine := by rw [lv, sizeLine_eq]; omega
  refine wpAny_bind (wpAny_newList ?_ hz1)
  have at_l : (s1.heap.push (seqObj "list" vs.toArray 0)).get? s1.heap.objs.size = some (seqObj "list" vs.toArray 0) := Heap.get?_push_size _ rfl
  refine wpAny_bind (wpAny_holding (wpAny_call_entry slot_list_sort ⟨_, at_l, rfl⟩ entry_list_sort (SrtO.list_sort_ord (s := { s1 with heap := s1.heap.push (seqObj "list" vs.toArray 0) }) SrtO.swo_int at_l hz1 (fun h2 => SrtO.ints_sortable hI h2) fun out hs hb' => ⟨_, rfl, ?_⟩) (args_list_sort _)))
  obtain ⟨k2, k3, k4⟩ := SrtO.ints_out hI hs hb'
  obtain ⟨n, hn'⟩ := PyProof.Rows.sortedHeap_at (vs := vs) (out := out.toArray) at_l
  have keys : (vs.map SrtO.iv).Perm (es.toList.map keyOf) := by
    have e : (es.toList.map (·.2)).map SrtO.iv = es.toList.map keyOf := by
      rw [List.map_map]
      refine List.map_congr_left fun e he => ?_
      obtain ⟨k, tk, h1, h2⟩ := g e he
      show SrtO.iv e.2 = keyOf e
      unfold keyOf
      rw [h1]
      rfl
    rw [← e]
    exact pm.map _
  have eo : out.map SrtO.iv = upI ns := by
    refine up_uniq ?_ (upI_pw ns) fun x => ?_
    · have n1 : (out.map SrtO.iv).Nodup := (k3.trans keys).nodup_iff.mpr nd
      refine (k4.and n1).imp fun {a b} z => ?_
      have z1 := z.1
      have z2 : a ≠ b := z.2
      omega
    · rw [(k3.trans keys).mem_iff, ← hm, decide_eq_true_eq, upI_mem]
  have fresh : H s1.heap.objs.size = none := I.hok.fresh hz
  refine wpAny_pure ⟨_, rfl, ?_⟩
  have kk : ∀ b u, s.heap.get? b = some u → (sortedHeap (s1.heap.push (seqObj "list" vs.toArray 0)) s1.heap.objs.size vs out.toArray).get? b = some u := fun b u e => by
    have q := k1 b u e
    have lt := Heap.lt_size q
    rw [PyProof.Rows.sortedHeap_old (Nat.ne_of_lt lt) (by rw [size_push']; exact Nat.lt_succ_of_lt lt)]
    exact Heap.get?_push_of_some _ q
  have hlen : ((upI ns).map V.int).length ≤ sizeLine := by
    rw [List.length_map, ← eo, k3.length_eq, List.length_map]
    exact hz1
  have J : Inv X pins σ (upd H s1.heap.objs.size (.lst ((upI ns).map V.int))) { s with heap := sortedHeap (s1.heap.push (seqObj "list" vs.toArray 0)) s1.heap.objs.size vs out.toArray, gens := s1.gens, drawn := s1.drawn, toks := s1.toks } :=
    I.call (ch := []) (Un.laid kk hz fresh) (I.hok.laid kk hz ⟨hlen, out, n, by rw [← eo]; exact vals_of_ints k2, hn'⟩) (by rw [g1]; exact I.bare) (fun _ z => nomatch z)
  have e : ({ s1 with heap := sortedHeap (s1.heap.push (seqObj "list" vs.toArray 0)) s1.heap.objs.size vs out.toArray } : Shared) = { s with heap := sortedHeap (s1.heap.push (seqObj "list" vs.toArray 0)) s1.heap.objs.size vs out.toArray, gens := s1.gens, drawn := s1.drawn, toks := s1.toks } := by
    cases s1
    cases s
    cases o1
    rfl
  rw [e]
  exact ⟨.ref _, _, J, rfl, q _ fresh⟩
end
def bSortSI (d : D) (k : D → Prop) : Prop := match d with
  | .lst xs => match intL xs with
    | some ns => ns.length < 4000 ∧ k (.lst ((upI ns).map .int))
    | none => False
  | _ => False
def dSortSI (t : XE) : XE := fun env Q => t env fun r e => rd 2 r e fun d => bSortSI d fun d' => Q (.tmp d') e
theorem bSortSI_mono {d : D} {k k' : D → Prop} (h : ∀ d, k d → k' d) (q : bSortSI d k) : bSortSI d k' := by
  unfold bSortSI at q ⊢
  split at q
  · split at q
    · exact ⟨q.1, h _ q.2⟩
    · exact q.elim
  · exact q.elim
section
variable {X : Cx} {e : Expr} {t : XE} {p p2 q pos : Pos}
theorem de_sortSI (hx : Ok X) (he : DE X e t) (m1 : X.mg "sorted" = none) (m2 : X.mg "set" = none) (g1 : Gl X "sorted" := by rfl) (g2 : Gl X "set" := by rfl)
    (n1 : starEach [e] X.env = (false, eval e X.env) :: starEach [] X.env := by rfl) (n2 : starEach [Expr.Call (.Name "set" p2) [e] [] q] X.env = (false, eval (.Call (.Name "set" p2) [e] [] q) X.env) :: starEach [] X.env := by rfl)
    (b2 : bootBuiltins "set" = some (.type "set") := by decide +kernel) (b1 : bootBuiltins "sorted" = some (.builtin "sorted") := by decide +kernel) : DE X (.Call (.Name "sorted" p) [.Call (.Name "set" p2) [e] [] q] [] pos) (dSortSI t) := by
  refine ⟨PE.imp (pe_callB (cr_sortSI hx) g1 m1 b1 (pa_cons (pe_callTy (cr_setI hx) g2 m2 b2 (pa_cons he.run pa_nil n1) (by decide) (by decide) n1) pa_nil n2) (by decide) (by decide) n2) fun σ H Q q => ?_,
    fun env Q Q' h q => he.mono _ _ _ (fun r e q => rd_mono (fun d q => bSortSI_mono (fun d q => h _ _ q) q) q) q⟩
  obtain ⟨env, f, A, q⟩ := q
  refine ⟨env, f, A, he.mono _ _ _ (fun r e1 q => ?_) q⟩
  intro x H1 f1 g1 A1 R1 S1 K1
  obtain ⟨d, g', rp, q⟩ := rd_ok A1 R1 q
  unfold bSortSI at q
  split at q
  · rename_i xs
    split at q
    · rename_i ns e
      obtain ⟨l, vs, g2, rfl, hs, rr, _, _⟩ := rp.listSq
      have e2 := rr.intL e
      subst e2
      refine ⟨l, ns, rfl, hs, q.1, fun a c hf hc => ⟨a, ns, c, rfl, upd_same, by have := q.1; omega, fun b hb => ?_⟩⟩
      have ex1 : Ext H1 (L2.upd H1 a (SetO X.w a (fun j => decide (j ∈ ns)) c)) [] := .updT hf
      have ex2 : Ext (L2.upd H1 a (SetO X.w a (fun j => decide (j ∈ ns)) c)) (L2.upd (L2.upd H1 a (SetO X.w a (fun j => decide (j ∈ ns)) c)) b (.lst ((upI ns).map V.int))) [b] := .upd hb
      have ex : Ext H1 (L2.upd (L2.upd H1 a (SetO X.w a (fun j => decide (j ∈ ns)) c)) b (.lst ((upI ns).map V.int))) [b] := ⟨fun y o h => ex2.same y o (ex1.same y o h), fun y hy => by
        have := ex2.new y hy
        by_cases z : y = a
        · rw [z]; exact hf
        · rwa [upd_ne z] at this⟩
      obtain ⟨A3, R3, S3⟩ := fin_ext A1 S1 ex (upd_lst hb (reps_ints _))
      exact q.2 _ _ f1 [b] A3 R3 S3 K1
    · exact q.elim
  · exact q.elim
end
end BX

namespace BX
open PySem PySem.Spec PyProof.Rows L2 RT
def RgO (a : Addr) (n : Int) : HO := .ext fun h => ∃ t u v, IsRange h a 0 n 1 t u v
theorem rgO_ok {P : Program} {w : World} {H : Hp} {h : Heap} {a : Addr} {n : Int} (R : ∃ t u v, IsRange h a 0 n 1 t u v) : ObjOk P w H h a (RgO a n) := by
  refine ⟨R, ?_, fun h1 h2 p k => ?_⟩
  · obtain ⟨t, u, v, R⟩ := R
    exact ⟨_, R⟩
  · obtain ⟨t, u, v, R⟩ := (show ∃ t u v, IsRange h1 a 0 n 1 t u v from p)
    exact ⟨t, u, v, k _ R⟩
def upN (n : Int) : List Int := (List.range n.toNat).map fun k : Nat => (k : Int)
section
variable {X : Cx}
theorem cr_rg1 : CallR X (.type "range") (fun xs H Q => ∃ n, xs = [V.int n] ∧ ∀ a, H a = none → Q (.ref a) (upd H a (RgO a n))) := by
  intro pins s σ H xs us Q I r h
  obtain ⟨n, rfl, q⟩ := h
  cases r with
  | cons r1 r2 =>
    cases r2
    obtain ⟨t, rfl⟩ := r1
    refine call_range_1 ?_
    exact ⟨.ref s.heap.objs.size, _, I.laid (fun b o e => Heap.get?_push_of_some _ e) (Nat.le_refl _) (rgO_ok ⟨_, _, _, IsRange.new ..⟩), rfl, q _ (I.hok.fresh (Nat.le_refl _))⟩
theorem cr_listRg (hx : Ok X) : CallR X (.type "list") (fun xs H Q => ∃ a n, xs = [V.ref a] ∧ H a = some (RgO a n) ∧ 0 ≤ n ∧ n ≤ 2 ^ 24 ∧ ∀ p, H p = none → Q (.ref p) (upd H p (.lst ((upN n).map V.int)))) := by
  intro pins s σ H xs us Q I r h
  obtain ⟨a, n, rfl, ha, h0, h1, q⟩ := h
  rw [Vals.ref1 r]
  obtain ⟨t, u, v, R⟩ : ∃ t u v, IsRange s.heap a 0 n 1 t u v := (I.hok a _ ha).1
  refine call_list_range (n := n.toNat) (I.ok.hd hx.calm) R (small_one (by omega) (by omega) (by omega) (by omega)) (by rw [rangeSize_one]; split <;> omega) (by omega) fun h' tk acc' c' kp at_l it => ?_
  have vals : Vals ((upN n).map V.int) acc'.toList := by
    have sz : acc'.size = n.toNat := it.1
    have key : ∀ (m : Nat) (us : List Value), us.length = m → (∀ i v, us[i]? = some v → ∃ t, v = Value.int (i : Nat) t) → Vals ((List.range m).map fun k : Nat => V.int (k : Int)) us := by
      intro m
      induction m with
      | zero =>
        intro us hl _
        cases us with
        | nil => exact .nil
        | cons => cases hl
      | succ m ih =>
        intro us hl hv
        have hne : us ≠ [] := fun z => by subst z; cases hl
        have e := List.dropLast_concat_getLast hne
        rw [List.range_succ, List.map_append, ← e]
        refine Vals.append (ih _ (by rw [List.length_dropLast]; omega) fun i v hi => hv i v ?_) (.cons ?_ .nil)
        · rw [List.getElem?_dropLast] at hi
          split at hi
          · exact hi
          · cases hi
        · obtain ⟨t, ht⟩ := hv m (us.getLast hne) (by rw [List.getLast_eq_getElem, List.getElem?_eq_getElem (by omega)]; congr 2; omega)
          exact ⟨t, ht⟩
    unfold upN
    rw [List.map_map]
    refine key _ _ (by rw [Array.length_toList, sz]) fun i v e => ?_
    rw [Array.getElem?_toList] at e
    obtain ⟨t, ht⟩ := it.2 i v e
    exact ⟨t, by rw [ht]; congr 1; omega⟩
  refine ⟨.ref s.heap.objs.size, upd H s.heap.objs.size (.lst ((upN n).map V.int)), I.laid (t' := tk) kp (Nat.le_refl _) ⟨?_, acc'.toList, c', vals, ?_⟩, rfl, q _ (I.hok.fresh (Nat.le_refl _))⟩
  · unfold upN
    rw [List.length_map, List.length_map, List.length_range, sizeLine_eq]
    omega
  · simpa [seqObj] using at_l
end
def dListR (t : XE) : XE := fun env Q => t env fun r e => rd 2 r e fun d => match d with
  | .int n => (0 ≤ n ∧ n ≤ 2 ^ 24) ∧ Q (.tmp (.lst ((upN n).map .int))) e
  | _ => False
section
variable {X : Cx} {e : Expr} {t : XE} {p p2 q pos : Pos}
theorem de_listR (hx : Ok X) (he : DE X e t) (m1 : X.mg "list" = none) (m2 : X.mg "range" = none) (g1 : Gl X "list" := by rfl) (g2 : Gl X "range" := by rfl)
    (n1 : starEach [e] X.env = (false, eval e X.env) :: starEach [] X.env := by rfl) (n2 : starEach [Expr.Call (.Name "range" p2) [e] [] q] X.env = (false, eval (.Call (.Name "range" p2) [e] [] q) X.env) :: starEach [] X.env := by rfl)
    (b2 : bootBuiltins "range" = some (.type "range") := by decide +kernel) (b1 : bootBuiltins "list" = some (.type "list") := by decide +kernel) : DE X (.Call (.Name "list" p) [.Call (.Name "range" p2) [e] [] q] [] pos) (dListR t) := by
  refine ⟨PE.imp (pe_callTy (cr_listRg hx) g1 m1 b1 (pa_cons (pe_callTy cr_rg1 g2 m2 b2 (pa_cons he.run pa_nil n1) (by decide) (by decide) n1) pa_nil n2) (by decide) (by decide) n2) fun σ H Q q => ?_,
    fun env Q Q' h q => he.mono _ _ _ (fun r e q => rd_mono (fun d q => by
      split at q
      · exact ⟨q.1, h _ _ q.2⟩
      · exact q.elim) q) q⟩
  obtain ⟨env, f, A, q⟩ := q
  refine ⟨env, f, A, he.mono _ _ _ (fun r e1 q => ?_) q⟩
  intro x H1 f1 g1 A1 R1 S1 K1
  obtain ⟨d, g', rp, q⟩ := rd_ok A1 R1 q
  split at q
  · rename_i n
    obtain ⟨rfl, _⟩ := rp.intV
    refine ⟨n, rfl, fun a hf => ⟨a, n, rfl, upd_same, q.1.1, q.1.2, fun b hb => ?_⟩⟩
    have ex1 : Ext H1 (L2.upd H1 a (RgO a n)) [] := .updT hf
    have ex2 : Ext (L2.upd H1 a (RgO a n)) (L2.upd (L2.upd H1 a (RgO a n)) b (.lst ((upN n).map V.int))) [b] := .upd hb
    have ex : Ext H1 (L2.upd (L2.upd H1 a (RgO a n)) b (.lst ((upN n).map V.int))) [b] := ⟨fun y o h => ex2.same y o (ex1.same y o h), fun y hy => by
      have := ex2.new y hy
      by_cases z : y = a
      · rw [z]; exact hf
      · rwa [upd_ne z] at this⟩
    obtain ⟨A3, R3, S3⟩ := fin_ext A1 S1 ex (upd_lst hb (reps_ints _))
    exact q.2 _ _ f1 [b] A3 R3 S3 K1
  · exact q.elim
end
end BX

namespace BX
open PySem PySem.Spec PyProof.Rows L2 RT
def sFrzL (i : Nat) (t : XS) : XS := fun env nx rt => match env[i]? with
  | some (some (.lst ds, .own)) => immL ds = true ∧ t (env.set i (some (.lst ds, .cst))) nx rt
  | _ => False
section
variable {K : PySem.W.Frag} {σ : L2.St} {H : Hp} {env : En} {f : FA}
theorem frzL_abs {i : Nat} {ds : List D} (A : Abs K σ H env f) (e : env[i]? = some (some (.lst ds, .own))) (im : immL ds = true) :
    ∃ a vs, H a = some (.lst vs) ∧ ∀ od, Abs K σ (L2.upd H a (.frz od (.lst vs))) (env.set i (some (.lst ds, .cst))) (fset f i []) ∧
      Stp H env f [] (L2.upd H a (.frz od (.lst vs))) (env.set i (some (.lst ds, .cst))) (fset f i []) [] ∧ Kq σ env f σ (env.set i (some (.lst ds, .cst))) (fset f i []) := by
  obtain ⟨v, hv, rp⟩ := A.rep _ _ _ e
  obtain ⟨a, vs, g, rfl, ha, rr, hf⟩ : ∃ a vs g, v = .ref a ∧ H a = some (.lst vs) ∧ Reps K H 0 ds vs g ∧ f i = a :: g := by
    generalize hfi : f i = fi at rp
    cases rp with
    | lst h r n => exact ⟨_, _, _, rfl, h, r, rfl⟩
    | lstF l h r => exact absurd l (by decide)
  obtain ⟨rfl, r0⟩ := rr.imm (Nat.zero_le _) im
  have hi : i < env.length := (List.getElem?_eq_some_iff.mp e).1
  have ai : a ∈ f i := by rw [hf]; exact List.mem_cons_self ..
  have get : ∀ {j : Nat} {d : D} {m : Md}, j ≠ i → (env.set i (some (.lst ds, .cst)))[j]? = some (some (d, m)) → env[j]? = some (some (d, m)) := fun {j d m} hj h => by rwa [env_ne hj] at h
  have tk : ∀ (od : Obj) (b : Addr) (o : HO), b ≠ a → H b = some o → L2.upd H a (.frz od (.lst vs)) b = some o := fun od b o hb h => by rw [upd_ne hb]; exact h
  have im0 : ∀ (od : Obj), Reps K (L2.upd H a (.frz od (.lst vs))) 2 ds vs [] := fun od => (r0.keep fun b o h z => tk od b o (fun y => by
    rcases z with z | z
    · simp at z
    · rw [y, ha] at h; cases h; cases z) h).up (Nat.zero_le _)
  refine ⟨a, vs, ha, fun od => ⟨⟨fun j d m h => ?_, fun j k d m d' m' hjk h1 h2 hl b hb => ?_, by rw [List.length_set]; exact A.len⟩, ⟨fun b o h z => ?_, fun b z => ?_⟩, ⟨fun j d h => ?_, fun j d h => ?_, fun j d h => ?_⟩⟩⟩
  · by_cases hj : j = i
    · subst hj
      rw [env_at hi] at h; cases h
      exact ⟨_, hv, by rw [fset_at]; exact .lstF (Nat.le_refl _) (.inl ⟨od, upd_same⟩) (im0 od)⟩
    · obtain ⟨w, h1, r1⟩ := A.rep _ _ _ (get hj h)
      refine ⟨w, h1, ?_⟩
      rw [fset_ne hj]
      refine r1.keep fun b o hb z => tk od b o (fun y => ?_) hb
      rcases z with z | z
      · subst y
        exact A.dis i j _ _ _ _ (Ne.symm hj) e (get hj h) rfl b ai z
      · rw [y, ha] at hb; cases hb; cases z
  · by_cases hj : j = i
    · subst hj
      rw [env_at hi] at h1; cases h1
      cases hl
    · rw [fset_ne hj] at hb
      by_cases hk : k = i
      · subst hk
        rw [fset_at]; simp
      · rw [fset_ne hk]
        exact A.dis j k _ _ _ _ hjk (get hj h1) (get hk h2) hl b hb
  · refine tk od b o (fun y => ?_) h
    rcases z with z | z
    · rw [y, ha] at h; cases h; cases z
    · exact z.1 ⟨i, _, _, e, rfl, by rw [y]; exact ai⟩
  · rcases z with ⟨j, d, m, h, hr, hb⟩ | z
    · by_cases hj : j = i
      · subst hj
        rw [fset_at] at hb; simp at hb
      · rw [fset_ne hj] at hb
        exact .inl ⟨j, d, m, get hj h, hr, hb⟩
    · simp at z
  · have hj : j ≠ i := fun z => by subst z; rw [e] at h; cases h
    exact ⟨rfl, d, by rw [env_ne hj]; exact h⟩
  · have hj : j ≠ i := fun z => by subst z; rw [e] at h; cases h
    exact ⟨rfl, by rw [env_ne hj]; exact h, fset_ne hj⟩
  · by_cases hj : j = i
    · subst hj
      rw [env_at hi] at h; cases h
    · exact get hj h
end
section
variable {X : Cx}
theorem ds_frzL {i : Nat} {st : Stmt} {t : XS} (h : DS X st t) : DS X st (sFrzL i t) := by
  refine ⟨PS.imp (ps_frz h.run) fun Dn σ H q => ?_, fun env nx nx' rt rt' h1 h2 q => ?_⟩
  · obtain ⟨env, f, A, q⟩ := q
    unfold sFrzL at q
    split at q
    · rename_i ds e
      obtain ⟨a, vs, ha, w⟩ := frzL_abs A e q.1
      refine ⟨a, _, ha, True.intro, fun od => ?_⟩
      obtain ⟨A2, S2, K2⟩ := w od
      refine ⟨_, _, A2, h.mono _ _ _ _ _ (fun e2 q σ' H' f' A' S' K' => q σ' H' f' A' (S2.trans S') (K2.trans K')) (fun d e2 q => ?_) q.2⟩
      intro v σ' H' f' g A' r n S' K'
      exact q v σ' H' f' g A' r n (S2.trans S') (K2.trans K')
    · exact q.elim
  · unfold sFrzL at q ⊢
    split at q
    · exact ⟨q.1, h.mono _ _ _ _ _ h1 h2 q.2⟩
    · exact q.elim
end
def rdC (r : R) (k : D → Prop) : Prop := match r with
  | .ro _ d => k d
  | .tmp d => d.imm = true ∧ k d
  | .sl _ => False
def rdCs : List R → (List D → Prop) → Prop
  | [], k => k []
  | r :: rs, k => rdC r fun d => rdCs rs fun ds => k (d :: ds)
theorem rdC_mono {r : R} {k k' : D → Prop} (h : ∀ d, k d → k' d) (q : rdC r k) : rdC r k' := by
  cases r with
  | tmp d => exact ⟨q.1, h _ q.2⟩
  | ro c d => exact h _ q
  | sl i => exact q.elim
theorem rdCs_mono : ∀ {rs : List R} {k k' : List D → Prop}, (∀ d, k d → k' d) → rdCs rs k → rdCs rs k'
  | [], _, _, h, q => h _ q
  | _ :: _, _, _, h, q => rdC_mono (fun _ q => rdCs_mono (fun _ q => h _ q) q) q
theorem rdC_ok {K : PySem.W.Frag} {σ : L2.St} {H : Hp} {env : En} {f : FA} {r : R} {v : V} {g : List Addr} {k : D → Prop} (h : ResOk K σ H env f r v g) (q : rdC r k) : ∃ d g', Rep K H 2 d v g' ∧ (∀ b ∈ g', Ro env f b) ∧ k d := by
  cases h with
  | tmp r n => exact ⟨_, [], (r.imm (Nat.zero_le _) q.1).2.up (Nat.zero_le _), fun b hb => by simp at hb, q.2⟩
  | @ro c d _ g r n => exact ⟨_, g, r.up (by cases c <;> decide), n, q⟩
  | sl => exact q.elim
theorem rdCs_ok {K : PySem.W.Frag} {σ : L2.St} {H : Hp} {env : En} {f : FA} : ∀ {rs : List R} {vs : List V} {gs : List Addr} {k : List D → Prop}, ResOks K σ H env f rs vs gs → rdCs rs k → ∃ ds g, Reps K H 2 ds vs g ∧ (∀ b ∈ g, Ro env f b) ∧ k ds
  | _, _, _, _, .nil, q => ⟨[], [], .nil, fun b hb => by simp at hb, q⟩
  | _, _, _, _, .cons h t _, q => by
    obtain ⟨d, g1, r1, n1, q⟩ := rdC_ok h q
    obtain ⟨ds, g2, r2, n2, q⟩ := rdCs_ok t q
    refine ⟨d :: ds, g1 ++ g2, .cons r1 r2 (fun z => by cases z), fun b hb => ?_, q⟩
    rcases List.mem_append.mp hb with z | z
    · exact n1 b z
    · exact n2 b z
def dTupC (u : XA) : XE := fun env Q => u env fun rs e => rs.length ≤ 1000 ∧ rdCs rs fun ds => Q (.ro true (.tup ds)) e
section
variable {X : Cx} {es : List Expr} {u : XA} {pos : Pos}
theorem de_tupC {x1} (ha : DA X es u) : DE X (.Tuple es x1 pos) (dTupC u) := by
  refine ⟨PE.imp (pe_tup ha.run) fun σ H Q q => ?_, fun env Q Q' h q => ha.mono _ _ _ (fun r e q => ⟨q.1, rdCs_mono (fun ds q => h _ _ q) q.2⟩) q⟩
  obtain ⟨env, f, A, q⟩ := q
  refine ⟨env, f, A, ha.mono _ _ _ (fun rs e q => ?_) q⟩
  intro vs H1 f1 gs A1 R1 S1 K1
  obtain ⟨ds, g, rp, n, q'⟩ := rdCs_ok R1 q.2
  refine ⟨by rw [← R1.len]; exact line1000 q.1, fun p hp => ?_⟩
  have x : Ext H1 (L2.upd H1 p (.tup vs)) [] := .updT hp
  exact q' _ _ f1 [] (A1.ext x.same) (.ro (.tup upd_same (rp.keep fun b o e _ => x.same b o e)) n) ((S1.drop no_mem_nil).ext x.same) K1
/-- one out of a list just laid -/
def dPick (u : XA) (i : Nat) : XE := fun env Q => u env fun rs e => rs.length ≤ 1000 ∧ rdCs rs fun ds => match e[i]? with
  | some (some (.int j, _)) => match atI ds j with
    | some d => Q (mkRo true d) e
    | none => False
  | _ => False
theorem dPick_mono (ha : MonoA u) (i : Nat) : MonoE (dPick u i) := fun env Q Q' h q => ha _ _ _ (fun rs e q => ⟨q.1, rdCs_mono (fun ds q => by
  split at q
  · split at q
    · exact h _ _ q
    · exact q.elim
  · exact q.elim) q.2⟩) q
theorem Reps.getC {K : PySem.W.Frag} {H : Hp} {lv : Nat} : ∀ {ds : List D} {vs : List V} {g : List Addr}, Reps K H lv ds vs g → ∀ {j : Nat} {d : D}, ds[j]? = some d → ∃ v g', vs[j]? = some v ∧ Rep K H lv d v g' ∧ ∀ b ∈ g', b ∈ g := fun {ds vs g} r {j d} e => by
  obtain ⟨v, g2, e1, r1, h⟩ := r.get e
  exact ⟨v, g2, e1, r1, h⟩
theorem de_pick {x : Str} {pos2 pos3 : Pos} (i : Nat) (ha : DA X es u) (hN : X.N[i]? = some x := by rfl) (hv : Vis X.env.scope x := by first | exact Or.inl rfl | exact Or.inr (Or.inl rfl) | exact Or.inr (Or.inr rfl)) (hd : (x == ("__debug__" : Str)) = false := by decide)
    (hcd : (x == ("__classdict__" : Str)) = false := by decide) (hs : PlainIx (.Name x pos3) := by intro _ _; rfl) : DE X (.Subscript (.List es pos2) (.Name x pos3) pos) (dPick u i) := by
  refine ⟨PE.imp (pe_ix (ix_list (X := X)) (pe_lst ha.run) (pe_var hN hv hd hcd) hs) fun σ H Q q => ?_, dPick_mono ha.mono i⟩
  obtain ⟨env, f, A, q⟩ := q
  refine ⟨env, f, A, ha.mono _ _ _ (fun rs e q => ?_) q⟩
  intro vs H1 f1 gs A1 R1 S1 K1
  obtain ⟨ds, g, rp, n, q'⟩ := rdCs_ok R1 q.2
  refine ⟨by rw [← R1.len]; exact line1000 q.1, fun p hp => ?_⟩
  have x : Ext H1 (L2.upd H1 p (.lst vs)) [p] := .upd hp
  split at q'
  · rename_i j m ei
    split at q'
    · rename_i d ed
      obtain ⟨w, hw, rw1⟩ := A1.rep _ _ _ ei
      obtain ⟨rfl, _⟩ := rw1.intV
      obtain ⟨k, z, e1, e2, e3⟩ := atI_map rp.len ed
      obtain ⟨z', g2, e4, rz, hg⟩ := rp.get e1
      rw [e2] at e4
      cases e4
      refine ⟨.int j, hw, p, vs, j, z, rfl, rfl, .inl (.inl upd_same), e3, ?_⟩
      have A2 := A1.ext x.same
      have rz2 : Rep X.K (L2.upd H1 p (.lst vs)) 2 d z g2 := rz.keep fun b o e _ => x.same b o e
      have ng : ∀ b ∈ g2, Ro e f1 b := fun b hb => n b (hg b hb)
      have S2 : Stp H env f [] (L2.upd H1 p (.lst vs)) e f1 [] := (S1.drop no_mem_nil).ext x.same
      have done : ∀ r, ResOk X.K σ (L2.upd H1 p (.lst vs)) e f1 r z [] → PostE X.K σ H env f Q r e → Q z (L2.upd H1 p (.lst vs)) := fun r R q => q z _ f1 [] A2 R S2 K1
      cases d with
      | non => exact done _ (.tmp rz2.non0 no_mem_nil) q'
      | bl b => exact done _ (.tmp rz2.bl0 no_mem_nil) q'
      | int b => exact done _ (.tmp rz2.int0 no_mem_nil) q'
      | str b => exact done _ (.tmp rz2.str0 no_mem_nil) q'
      | tup ds => exact done _ (.ro (c := true) rz2 ng) q'
      | lst ds => exact done _ (.ro (c := true) rz2 ng) q'
      | dT ds => exact done _ (.ro (c := true) rz2 ng) q'
      | dK ds => exact done _ (.ro (c := true) rz2 ng) q'
      | dF ds => exact done _ (.ro (c := true) rz2 ng) q'
    · exact q'.elim
  · exact q'.elim
end
def bTupI (d : D) (k : D → Prop) : Prop := match d with
  | .lst xs => match intL xs with
    | some ns => k (.tup (ns.map .int))
    | none => False
  | _ => False
section
variable {X : Cx}
theorem cd_tupI : CallD X (.type "tuple") 2 (op1 bTupI) := call1 (by decide) (fun pins s σ H x us Q d g I rs r q => by
  unfold bTupI at q
  split at q
  · split at q
    · rename_i xs ns e
      obtain ⟨a, vs, g', rfl, hs, rr, _, _⟩ := r.listSq
      have e2 := rr.intL e
      subst e2
      exact call_tuple_of pins s σ H _ us Q I rs ⟨_, _, rfl, .inl ⟨hs, fun l hl => q _ _ _ (upd_tup hl (reps_ints _)) (.updT hl)⟩⟩
    · exact q.elim
  · exact q.elim) (fun d k k' h q => by
  unfold bTupI at q ⊢
  split at q
  · split at q
    · first
        | exact h _ q
        | (simp only [*]; exact h _ q)
    · exact q.elim
  · exact q.elim)
def sRetTup (i : Nat) : XS := fun env _ rt => match env[i]? with
  | some (some (.lst ds, .own)) => rt (.tup ds) env
  | _ => False
theorem ds_retTup {x : Str} {pos p1 p2 p3 : Pos} (i : Nat) (mt : X.mg "tuple" = none) (hN : X.N[i]? = some x := by rfl) (hv : Vis X.env.scope x := by first | exact Or.inl rfl | exact Or.inr (Or.inl rfl) | exact Or.inr (Or.inr rfl)) (hd : (x == ("__debug__" : Str)) = false := by decide)
    (hcd : (x == ("__classdict__" : Str)) = false := by decide) (gt : Gl X "tuple" := by rfl) (bt : bootBuiltins "tuple" = some (.type "tuple") := by decide +kernel) (n1 : starEach [Expr.Name x p1] X.env = (false, eval (.Name x p1) X.env) :: starEach [] X.env := by rfl) :
    DS X (.Return (some (.Call (.Name "tuple" p2) [.Name x p1] [] p3)) pos) (sRetTup i) := by
  refine ⟨PS.imp (ps_ret (pe_callTy call_tuple_of gt mt bt (pa_cons (pe_var hN hv hd hcd) pa_nil n1) (by decide) (by decide) n1)) fun Dn σ H q => ?_, fun env nx nx' rt rt' h1 h2 q => ?_⟩
  · obtain ⟨env, f, A, q⟩ := q
    unfold sRetTup at q
    split at q
    · rename_i ds e
      obtain ⟨v, hv, rp⟩ := A.rep _ _ _ e
      obtain ⟨a, vs, g, rfl, ha, rr, hf⟩ : ∃ a vs g, v = .ref a ∧ H a = some (.lst vs) ∧ Reps X.K H 0 ds vs g ∧ f i = a :: g := by
        generalize hfi : f i = fi at rp
        cases rp with
        | lst h r n => exact ⟨_, _, _, rfl, h, r, rfl⟩
        | lstF l h r => exact absurd l (by decide)
      refine ⟨.ref a, hv, a, vs, rfl, .inl ⟨.inl (.inl ha), fun p hp => ?_⟩⟩
      have x : Ext H (L2.upd H p (.tup vs)) [] := .updT hp
      have sub : ∀ b ∈ g, b ∈ f i := fun b hb => by rw [hf]; exact .tail _ hb
      refine q (.ref p) σ _ f g (A.ext x.same) (upd_tup hp rr) (fun b hb j d m e2 em => ?_) ⟨fun b o h _ => x.same b o h, fun b z => ?_⟩ .refl
      · by_cases hj : i = j
        · subst hj
          rw [e] at e2
          cases e2
          rcases em with z | z <;> cases z
        · exact A.dis i j _ _ _ _ hj e e2 rfl b (sub b hb)
      · rcases z with z | z
        · exact .inl z
        · exact .inl ⟨i, _, _, e, rfl, sub b z⟩
    · exact q.elim
  · unfold sRetTup at q ⊢
    split at q
    · exact h2 _ _ q
    · exact q.elim
end
end BX

namespace BX
open PySem PySem.Spec PyProof.Rows L2
theorem forL_idx {g : XG} {tb : XS} {kd : Option Bool} {nx : En → Prop} {rt : D → En → Prop} : ∀ (ds : List D) (I : Nat → En → Prop) (e : En), I 0 e → (∀ e, I ds.length e → nx e) →
    (∀ (i : Nat) (d : D) (e : En), ds[i]? = some d → I i e → ∀ nx' : En → Prop, (∀ e2, I (i + 1) e2 → nx' e2) → g (mkI kd d) e fun e1 => tb e1 nx' rt) → forL g tb kd ds e nx rt
  | [], I, e, h0, hn, _ => hn _ h0
  | d :: ds, I, e, h0, hn, hs => hs 0 d e rfl h0 _ fun e2 h2 => forL_idx ds (fun i => I (i + 1)) e2 h2 (fun e h => hn e (by simpa using h)) fun i d' e' hd h nx' hx => hs (i + 1) d' e' (by simpa using hd) h nx' hx
theorem lcL_pure {g : XG} {tt : XT} {te : XE} {kd : Option Bool} {vs : List Nat} {k : List D → En → Prop} {E : En} (p : D → Bool) (F : D → D) : ∀ (ds : List D) (acc : List D), acc.length + ds.length ≤ sizeLine → k (acc ++ (ds.filter p).map F) E →
    (∀ d ∈ ds, ∀ (c : Prop) (k1 : D → En → Prop) (k2 : En → Prop), c → (p d = true → k1 (F d) E) → (p d = false → k2 E) → g (mkI kd d) E fun e1 => tt e1 fun b e2 => (b = true → te e2 fun r e3 => stor r e3 fun dd => c ∧ k1 dd (wipeE vs e3)) ∧ (b = false → k2 (wipeE vs e2))) →
    lcL g tt te kd vs ds E acc k
  | [], acc, hl, h, hs => by
    show k acc E
    simpa using h
  | d :: ds, acc, hl, h, hs => by
    rw [List.length_cons] at hl
    refine hs d (List.mem_cons_self ..) (acc.length < sizeLine) (fun dd e => lcL g tt te kd vs ds e (acc ++ [dd]) k) (fun e => lcL g tt te kd vs ds e acc k) (by omega) (fun hp => ?_) (fun hp => ?_)
    · refine lcL_pure p F ds (acc ++ [F d]) (by rw [List.length_append, List.length_singleton]; omega) ?_ fun d' hd' => hs d' (List.mem_cons_of_mem _ hd')
      rw [List.filter_cons_of_pos hp, List.map_cons] at h
      rw [List.append_assoc, List.singleton_append]
      exact h
    · refine lcL_pure p F ds acc (by omega) ?_ fun d' hd' => hs d' (List.mem_cons_of_mem _ hd')
      rw [List.filter_cons_of_neg (by rw [hp]; decide)] at h
      exact h
/-- no test: each item is kept -/
theorem lcL_map {g : XG} {te : XE} {kd : Option Bool} {vs : List Nat} {k : List D → En → Prop} {E : En} (F : D → D) : ∀ (ds acc : List D), acc.length + ds.length ≤ sizeLine → k (acc ++ ds.map F) E →
    (∀ d ∈ ds, ∀ (c : Prop) (k1 : D → En → Prop), c → k1 (F d) E → g (mkI kd d) E fun e1 => te e1 fun r e3 => stor r e3 fun dd => c ∧ k1 dd (wipeE vs e3)) →
    lcL g xYes te kd vs ds E acc k
  | [], acc, hl, h, hs => by
    show k acc E
    simpa using h
  | d :: ds, acc, hl, h, hs => by
    rw [List.length_cons] at hl
    have q := hs d (List.mem_cons_self ..) (acc.length < sizeLine) (fun dd e => lcL g xYes te kd vs ds e (acc ++ [dd]) k) (by omega) (lcL_map F ds (acc ++ [F d]) (by rw [List.length_append, List.length_singleton]; omega) (by simpa using h) fun d' hd' => hs d' (List.mem_cons_of_mem _ hd'))
    have e : (fun e1 => te e1 fun r e3 => stor r e3 fun dd => acc.length < sizeLine ∧ lcL g xYes te kd vs ds (wipeE vs e3) (acc ++ [dd]) k) = fun e1 => xYes e1 fun b e2 => (b = true → te e2 fun r e3 => stor r e3 fun dd => acc.length < sizeLine ∧ lcL g xYes te kd vs ds (wipeE vs e3) (acc ++ [dd]) k) ∧ (b = false → lcL g xYes te kd vs ds (wipeE vs e2) acc k) :=
      funext fun e1 => propext ⟨fun z => ⟨fun _ => z, fun z => nomatch z⟩, fun z => z.1 rfl⟩
    rw [e] at q
    exact q
theorem lcL_pureA {α : Type} {g : XG} {tt : XT} {te : XE} {kd : Option Bool} {vs : List Nat} {k : List D → En → Prop} {E : En} (p : α → Bool) (F G : α → D) : ∀ (as : List α) (acc : List D), acc.length + as.length ≤ sizeLine → k (acc ++ (as.filter p).map F) E →
    (∀ a ∈ as, ∀ (c : Prop) (k1 : D → En → Prop) (k2 : En → Prop), c → (p a = true → k1 (F a) E) → (p a = false → k2 E) → g (mkI kd (G a)) E fun e1 => tt e1 fun b e2 => (b = true → te e2 fun r e3 => stor r e3 fun dd => c ∧ k1 dd (wipeE vs e3)) ∧ (b = false → k2 (wipeE vs e2))) →
    lcL g tt te kd vs (as.map G) E acc k
  | [], acc, hl, h, hs => by
    show k acc E
    simpa using h
  | a :: as, acc, hl, h, hs => by
    rw [List.length_cons] at hl
    refine hs a (List.mem_cons_self ..) (acc.length < sizeLine) (fun dd e => lcL g tt te kd vs (as.map G) e (acc ++ [dd]) k) (fun e => lcL g tt te kd vs (as.map G) e acc k) (by omega) (fun hp => ?_) (fun hp => ?_)
    · refine lcL_pureA p F G as (acc ++ [F a]) (by rw [List.length_append, List.length_singleton]; omega) ?_ fun a' ha' => hs a' (List.mem_cons_of_mem _ ha')
      rw [List.filter_cons_of_pos hp, List.map_cons] at h
      rw [List.append_assoc, List.singleton_append]
      exact h
    · refine lcL_pureA p F G as acc (by omega) ?_ fun a' ha' => hs a' (List.mem_cons_of_mem _ ha')
      rw [List.filter_cons_of_neg (by rw [hp]; decide)] at h
      exact h
theorem lcL_mapA {α : Type} {g : XG} {te : XE} {kd : Option Bool} {vs : List Nat} {k : List D → En → Prop} {E : En} (F G : α → D) (as : List α) (hl : as.length ≤ sizeLine) (h : k (as.map F) E)
    (hs : ∀ a ∈ as, ∀ (c : Prop) (k1 : D → En → Prop), c → k1 (F a) E → g (mkI kd (G a)) E fun e1 => te e1 fun r e3 => stor r e3 fun dd => c ∧ k1 dd (wipeE vs e3)) :
    lcL g xYes te kd vs (as.map G) E [] k := by
  refine lcL_pureA (fun _ => true) F G as [] (by simpa using hl) (by rw [List.filter_eq_self.mpr (fun _ _ => rfl)]; exact h) fun a ha c k1 k2 hc h1 h2 => ?_
  have q := hs a ha c k1 hc (h1 rfl)
  have e : (fun e1 => te e1 fun r e3 => stor r e3 fun dd => c ∧ k1 dd (wipeE vs e3)) = fun e1 => xYes e1 fun b e2 => (b = true → te e2 fun r e3 => stor r e3 fun dd => c ∧ k1 dd (wipeE vs e3)) ∧ (b = false → k2 (wipeE vs e2)) :=
    funext fun e1 => propext ⟨fun z => ⟨fun _ => z, fun z => nomatch z⟩, fun z => z.1 rfl⟩
  rw [e] at q
  exact q
theorem bools_map {α : Type} (F : α → Bool) : ∀ as : List α, bools (as.map fun a => D.bl (F a)) = some (as.map F)
  | [] => rfl
  | a :: as => by rw [List.map_cons, bools, bools_map F as]; rfl
theorem immL_map {α : Type} {F : α → D} (h : ∀ a, (F a).imm = true) (l : List α) : immL (l.map F) = true := immL_all fun d hd => by
  obtain ⟨a, _, rfl⟩ := List.mem_map.mp hd
  exact h a
theorem seq_cut {t u : XS} {env : En} {nx : En → Prop} {rt : D → En → Prop} (I : En → Prop) (h1 : ∀ K : En → Prop, (∀ e, I e → K e) → t env K rt) (h2 : ∀ e, I e → u e nx rt) : sSeq t u env nx rt := h1 _ h2
theorem atI_map' {α : Type} {F : α → D} {xs : List α} {k : Nat} {a : α} (h : xs[k]? = some a) : atI (xs.map F) (k : Int) = some (F a) := atI_nat (by rw [List.getElem?_map, h]; rfl)
theorem mulOk_l {i j : Int} (h1 : -(2 ^ 64) < i) (h2 : i < 2 ^ 64) : IntMulOk i j := CMul.ok (.inl ⟨h1, h2⟩)
theorem mulOk_r {i j : Int} (h1 : -(2 ^ 64) < j) (h2 : j < 2 ^ 64) : IntMulOk i j := CMul.ok (.inr ⟨h1, h2⟩)

theorem slotPos_rd : ∀ {ms : List Md} {rs : List R} {i : Nat}, (∀ m ∈ ms, m.rd = true) → slotPos ms rs i = none
  | [], _, _, _ => by unfold slotPos; rfl
  | _ :: _, [], _, _ => by unfold slotPos; rfl
  | m :: ms, r :: rs, i, h => by
    rw [slotPos, h m (List.mem_cons_self ..), slotPos_rd fun x hx => h x (List.mem_cons_of_mem _ hx)]
    rfl
theorem putB_rd {ms : List Md} {rs : List R} {ds : List D} (h : ∀ m ∈ ms, m.rd = true) : ∀ (k : Nat) (e : En), putB ms rs ds k e = e
  | _, [] => by rw [putB]
  | k, x :: xs => by rw [putB, putB_rd h (k + 1) xs, back1, slotPos_rd h]
theorem dFn1 {S : FS} {te : XE} {e : En} {Q : R → En → Prop} (hS : S.ms = [.cst]) : dFn S (aCons te aNil) e Q = te e fun r e1 => rd 2 r e1 fun d => S.wp [d] fun d' _ => Q (.tmp d') e1 := by
  have h : ∀ m ∈ S.ms, m.rd = true := by rw [hS]; simp [Md.rd]
  unfold dFn aCons aNil
  refine congrArg (te e) (funext fun r => funext fun e1 => ?_)
  rw [hS] at h ⊢
  have e1' : okArgs [Md.cst] [r] e1 = true := by cases r <;> rfl
  have e2 : apart [Md.cst] [r] = true := by cases r <;> simp [apart, Md.rd]
  simp only [e1', e2, true_and, putB_rd h]
  rfl
theorem dFn2 {S : FS} {te tf : XE} {e : En} {Q : R → En → Prop} (hS : S.ms = [.cst, .cst]) : dFn S (aCons te (aCons tf aNil)) e Q = te e fun r e1 => tf e1 fun r2 e2 => rd 2 r e2 fun d => rd 2 r2 e2 fun d2 => S.wp [d, d2] fun d' _ => Q (.tmp d') e2 := by
  have h : ∀ m ∈ S.ms, m.rd = true := by rw [hS]; simp [Md.rd]
  unfold dFn aCons aNil
  refine congrArg (te e) (funext fun r => funext fun e1 => congrArg (tf e1) (funext fun r2 => funext fun e2 => ?_))
  rw [hS] at h ⊢
  have e1' : okArgs [Md.cst, Md.cst] [r, r2] e2 = true := by cases r <;> cases r2 <;> rfl
  have e2' : apart [Md.cst, Md.cst] [r, r2] = true := by
    unfold apart
    rw [List.all_eq_true]
    intro p hp
    rw [List.all_eq_true]
    intro q hq
    have hp' : p < 2 := by simpa using hp
    have hq' : q < 2 := by simpa using hq
    match p, q, hp', hq' with
    | 0, 0, _, _ => rfl
    | 1, 1, _, _ => rfl
    | 0, 1, _, _ => cases r <;> cases r2 <;> rfl
    | 1, 0, _, _ => cases r <;> cases r2 <;> rfl
  simp only [e1', e2', true_and, putB_rd h]
  rfl
/-- a comprehension that changes slots as it goes -/
theorem lcL_st {g : XG} {te : XE} {kd : Option Bool} {vs : List Nat} {k : List D → En → Prop} (I : List D → En → Prop) : ∀ (ds : List D) (E : En) (acc : List D), acc.length + ds.length ≤ sizeLine → I acc E → (∀ acc' E', acc'.length = acc.length + ds.length → I acc' E' → k acc' E') →
    (∀ d ∈ ds, ∀ acc E, I acc E → ∀ (c : Prop) (k1 : D → En → Prop), c → (∀ dd e, I (acc ++ [dd]) e → k1 dd e) → g (mkI kd d) E fun e1 => te e1 fun r e3 => stor r e3 fun dd => c ∧ k1 dd (wipeE vs e3)) → lcL g xYes te kd vs ds E acc k
  | [], E, acc, hl, h0, hk, hs => hk acc E rfl h0
  | d :: ds, E, acc, hl, h0, hk, hs => by
    rw [List.length_cons] at hl
    have q := hs d (List.mem_cons_self ..) acc E h0 (acc.length < sizeLine) (fun dd e => lcL g xYes te kd vs ds e (acc ++ [dd]) k) (by omega) fun dd e hi =>
      lcL_st I ds e (acc ++ [dd]) (by rw [List.length_append, List.length_singleton]; omega) hi (fun a e' hl' hi' => hk a e' (by rw [hl', List.length_append, List.length_singleton, List.length_cons]; omega) hi') fun d' hd' => hs d' (List.mem_cons_of_mem _ hd')
    have e : (fun e1 => te e1 fun r e3 => stor r e3 fun dd => acc.length < sizeLine ∧ lcL g xYes te kd vs ds (wipeE vs e3) (acc ++ [dd]) k) = fun e1 => xYes e1 fun b e2 => (b = true → te e2 fun r e3 => stor r e3 fun dd => acc.length < sizeLine ∧ lcL g xYes te kd vs ds (wipeE vs e3) (acc ++ [dd]) k) ∧ (b = false → lcL g xYes te kd vs ds (wipeE vs e2) acc k) :=
      funext fun e1 => propext ⟨fun z => ⟨fun _ => z, fun z => nomatch z⟩, fun z => z.1 rfl⟩
    rw [e] at q
    exact q
theorem putB_io {i : Nat} {d2 : D} {md : Md} : ∀ {e : En} {d : D} (k : Nat), e[i]? = some (some (d, md)) → putB [.io] [.sl (k + i)] [d2] k e = e.set i (some (d2, md)) := by
  have no : ∀ (e : En) (k j : Nat), j < k → putB [.io] [.sl j] [d2] k e = e := by
    intro e
    induction e with
    | nil => intro k j h; rw [putB]
    | cons x xs ih =>
      intro k j h
      have hb : (j == k) = false := beq_eq_false_iff_ne.mpr (by omega)
      rw [putB, ih (k + 1) j (by omega)]
      congr 1
      simp [back1, slotPos, isSl, Md.rd, hb]
  intro e
  induction e generalizing i with
  | nil => intro d k h; simp at h
  | cons x xs ih =>
    intro d k h
    rw [putB]
    cases i with
    | zero =>
      simp only [List.getElem?_cons_zero, Option.some.injEq] at h
      subst h
      rw [no xs (k + 1) (k + 0) (by omega)]
      have hb : (k == k) = true := by simp
      simp [back1, slotPos, isSl, Md.rd]
    | succ i =>
      have hb : (k + (i + 1) == k) = false := beq_eq_false_iff_ne.mpr (by omega)
      have := ih (i := i) (k + 1) (by simpa using h)
      rw [show k + 1 + i = k + (i + 1) by omega] at this
      rw [this, List.set_cons_succ]
      congr 1
      simp [back1, slotPos, isSl, Md.rd, hb]
theorem dFnIo {S : FS} {i : Nat} {e : En} {Q : R → En → Prop} {xs : List D} {md : Md} (hS : S.ms = [.io]) (he : e[i]? = some (some (.lst xs, md))) (hm : md = .own ∨ md = .io) (h : S.wp [.lst xs] fun d' ds' => Q (.tmp d') (putB [.io] [.sl i] ds' 0 e)) : dFn S (aCons (dVar i) aNil) e Q := by
  unfold dFn
  show dVar i e _
  have key : (fun rs e => okArgs S.ms rs e = true ∧ apart S.ms rs = true ∧ rdAll 2 rs e fun ds => S.wp ds fun d ds' => Q (.tmp d) (putB S.ms rs ds' 0 e)) [.sl i] e := by
    rw [hS]
    refine ⟨?_, rfl, ?_⟩
    · simp only [okArgs, okArg, he]
      rcases hm with rfl | rfl <;> rfl
    · simp only [rdAll, rd, R.data, he]
      rcases hm with rfl | rfl <;> exact h
  unfold dVar
  rw [he]
  rcases hm with rfl | rfl <;> exact key

section
variable {env e : En} {i j n : Nat} {z : Int} {b c : Bool} {s t : Str} {d d1 d2 : D} {m : Md} {xs ys : List D} {kvs : List (List Key × D)} {kws : List (Key × D)} {k : D → Prop} {Q : R → En → Prop} {nx : En → Prop} {r : R} {x y : Option (D × Md)}
def varM (i : Nat) (m : Md) (d : D) (e : En) (Q : R → En → Prop) : Prop := match m with
  | .ro => Q (.ro false d) e
  | .cst => Q (.ro true d) e
  | .own => Q (.sl i) e
  | .io => Q (.sl i) e
  | .lk => Q (.sl i) e
def varS (i : Nat) (x : Option (Option (D × Md))) (e : En) (Q : R → En → Prop) : Prop := match x with
  | some (some (.int z, _)) => Q (.tmp (.int z)) e
  | some (some (.bl z, _)) => Q (.tmp (.bl z)) e
  | some (some (.str z, _)) => Q (.tmp (.str z)) e
  | some (some (.non, _)) => Q (.tmp .non) e
  | some (some (.dF kvs, .own)) => Q (.ro true (.dT kvs)) e
  | some (some (d, m)) => varM i m d e Q
  | _ => False
theorem xVar : dVar i env Q = varS i env[i]? env Q := by
  unfold dVar varS
  cases env[i]? with
  | none => rfl
  | some x => cases x with
    | none => rfl
    | some p =>
      obtain ⟨d, m⟩ := p
      cases d <;> cases m <;> rfl
def rdS (L : Nat) (x : Option (Option (D × Md))) (k : D → Prop) : Prop := match x with
  | some (some (d, m)) => match m.okL L with
    | true => k d
    | false => False
  | _ => False
theorem xRdS {L : Nat} : rd L (.sl i) e k = rdS L e[i]? k := by
  unfold rd rdS R.data
  dsimp only
  cases e[i]? with
  | none => rfl
  | some x => cases x with
    | none => rfl
    | some p =>
      obtain ⟨d, m⟩ := p
      cases h : m.okL L <;> simp only [h]
theorem xRd2 : rd 2 (.ro c d) e k = k d := by cases c <;> rfl
theorem xRdS2 : rdS 2 (some (some (d, m))) k = k d := by cases m <;> rfl
def storM (d : D) (k : List D → Prop) : Prop := match d with
  | .lst ys => immL ys = true ∧ k ys
  | _ => False
theorem xStorER {kk : List D → Prop} : storE (.ro c d) e kk = rd 1 (.ro c d) e fun d => storM d kk := rfl
theorem xStorES {kk : List D → Prop} : storE (.sl i) e kk = rd 1 (.sl i) e fun d => storM d kk := rfl
def chgS (i : Nat) (x : Option (Option (D × Md))) (k : Nat → D → Md → Prop) : Prop := match x with
  | some (some (d, .own)) => k i d .own
  | some (some (d, .io)) => k i d .io
  | _ => False
def lstM (k : Nat → List D → Md → Prop) (i : Nat) (d : D) (m : Md) : Prop := match d with
  | .lst xs => k i xs m
  | _ => False
def dTM (k : Nat → List (List Key × D) → Md → Prop) (i : Nat) (d : D) (m : Md) : Prop := match d with
  | .dT xs => k i xs m
  | _ => False
def retS (x : Option (Option (D × Md))) (k : D → Prop) : Prop := match x with
  | some (some (d, m)) => (match m with
    | .own => True
    | _ => d.imm = true) ∧ k d
  | _ => False
theorem xRetO : retS (some (some (d, .own))) k = k d := by unfold retS; simp
def setS (x : Option (Option (D × Md))) : Bool := match x with
  | some (some (_, .io)) => false
  | some (some (_, .lk)) => false
  | some _ => true
  | none => false
def gNS (i : Nat) (x : Option (Option (D × Md))) (e : En) (k : En → Prop) : Prop := match x with
  | some (some (d, _)) => d.imm = true ∧ k (e.set i (some (d, .own)))
  | _ => False
def tupT (n : Nat) (gs : XGs) (r : R) (e : En) (k : En → Prop) (d : D) : Prop := match d with
  | .tup xs => xs.length = n ∧ kdOf r xs fun kd => gs kd xs e k
  | _ => False
def thS (i : Nat) (m : Md) (x : Option (Option (D × Md))) (e : En) (k : En → Prop) : Prop := match x with
  | some (some (d, .lk)) => k (e.set i (some (d, m)))
  | _ => False
def lockS (i : Nat) (x : Option (Option (D × Md))) (e : En) (k : Option Bool → Lok → En → Prop) (im : Bool) : Prop := match x with
  | some (some (d, m)) => im = true ∧ k none (some (i, m)) (e.set i (some (d, .lk)))
  | _ => False
def seqS (d : D) (r : R) (e : En) (k : List D → Option Bool → Lok → En → Prop) : Prop := match d with
  | .lst xs => lockOf r e (fun kd lk e1 => k xs kd lk e1) (immL xs)
  | .tup xs => lockOf r e (fun kd lk e1 => k xs kd lk e1) (immL xs)
  | _ => False
def rng1S (d : D) (e : En) (k : List D → Option Bool → Lok → En → Prop) : Prop := match d with
  | .int j => -(2 ^ 62) ≤ j ∧ j < 2 ^ 62 ∧ k ((List.range j.toNat).map fun n => .int (n : Nat)) none none e
  | _ => False
def rng2S (d d2 : D) (e : En) (k : List D → Option Bool → Lok → En → Prop) : Prop := match d, d2 with
  | .int i, .int j => (-(2 ^ 62) ≤ i ∧ i < 2 ^ 62 ∧ -(2 ^ 62) ≤ j ∧ j < 2 ^ 62) ∧ k ((List.range (j - i).toNat).map fun n => .int (i + (n : Nat))) none none e
  | _, _ => False
def keyT (ds : List D) (k : List Key → Prop) : Prop := match dKeys ds with
  | some ks => k ks
  | none => False
def optD (o : Option D) (k : D → Prop) : Prop := match o with
  | some d => k d
  | none => False
def boolsD (xs : List D) (k : List Bool → Prop) : Prop := match bools xs with
  | some bs => k bs
  | none => False
def intsD (xs : List D) (k : List Int → Prop) : Prop := match intL xs with
  | some bs => k bs
  | none => False
theorem xVint : varS i (some (some (.int z, m))) e Q = Q (.tmp (.int z)) e := rfl
theorem xVbl : varS i (some (some (.bl b, m))) e Q = Q (.tmp (.bl b)) e := rfl
theorem xVstr : varS i (some (some (.str s, m))) e Q = Q (.tmp (.str s)) e := rfl
theorem xVnon : varS i (some (some (.non, m))) e Q = Q (.tmp .non) e := rfl
theorem xVtup : varS i (some (some (.tup xs, m))) e Q = varM i m (.tup xs) e Q := rfl
theorem xVlst : varS i (some (some (.lst xs, m))) e Q = varM i m (.lst xs) e Q := rfl
theorem xVdT : varS i (some (some (.dT kvs, m))) e Q = varM i m (.dT kvs) e Q := rfl
theorem xVdK : varS i (some (some (.dK kws, m))) e Q = varM i m (.dK kws) e Q := rfl
theorem xVmro : varM i .ro d e Q = Q (.ro false d) e := rfl
theorem xVmcst : varM i .cst d e Q = Q (.ro true d) e := rfl
theorem xVmown : varM i .own d e Q = Q (.sl i) e := rfl
theorem xVmio : varM i .io d e Q = Q (.sl i) e := rfl
theorem xVmlk : varM i .lk d e Q = Q (.sl i) e := rfl
theorem xRdT : rd n (.tmp d) e k = k d := rfl
theorem xRdR1 : rd 1 (.ro false d) e k = k d := rfl
theorem xRdS1own : rdS 1 (some (some (d, .own))) k = k d := rfl
theorem xRdS1io : rdS 1 (some (some (d, .io))) k = k d := rfl
theorem xRdS1lk : rdS 1 (some (some (d, .lk))) k = k d := rfl
theorem xRdS1ro : rdS 1 (some (some (d, .ro))) k = k d := rfl
theorem xElT {kk : R → Prop} : elem (.tmp d1) d kk = kk (.tmp d) := rfl
theorem xElR {kk : R → Prop} : elem (.ro c d1) d kk = kk (mkRo c d) := rfl
theorem xElS {kk : R → Prop} : elem (.sl i) d kk = (d.imm = true ∧ kk (.tmp d)) := rfl
theorem xMint : mkRo c (.int z) = .tmp (.int z) := rfl
theorem xMbl : mkRo c (.bl b) = .tmp (.bl b) := rfl
theorem xMstr : mkRo c (.str s) = .tmp (.str s) := rfl
theorem xMnon : mkRo c .non = .tmp .non := rfl
theorem xMtup : mkRo c (.tup xs) = .ro c (.tup xs) := rfl
theorem xMlst : mkRo c (.lst xs) = .ro c (.lst xs) := rfl
theorem xMdT : mkRo c (.dT kvs) = .ro c (.dT kvs) := rfl
theorem xMdK : mkRo c (.dK kws) = .ro c (.dK kws) := rfl
theorem xStT : stor (.tmp d) e k = k d := rfl
theorem xStR : stor (.ro c d) e k = rd 1 (.ro c d) e fun d => d.imm = true ∧ k d := rfl
theorem xStS : stor (.sl i) e k = rd 1 (.sl i) e fun d => d.imm = true ∧ k d := rfl
theorem xSeT {kk : List D → Prop} : storE (.tmp (.lst ys)) e kk = kk ys := rfl
theorem xSmL {kk : List D → Prop} : storM (.lst ys) kk = (immL ys = true ∧ kk ys) := rfl
theorem xChL {kk : Nat → List D → Md → Prop} : chgL (.sl i) e kk = chgS i e[i]? (lstM kk) := rfl
theorem xChT {kk : Nat → List (List Key × D) → Md → Prop} : chgT (.sl i) e kk = chgS i e[i]? (dTM kk) := rfl
theorem xChG {kk : Nat → D → Md → Prop} : chg (.sl i) e kk = chgS i e[i]? kk := rfl
theorem xCsO {kk : Nat → D → Md → Prop} : chgS i (some (some (d, .own))) kk = kk i d .own := rfl
theorem xCsI {kk : Nat → D → Md → Prop} : chgS i (some (some (d, .io))) kk = kk i d .io := rfl
theorem xLm {kk : Nat → List D → Md → Prop} : lstM kk i (.lst xs) m = kk i xs m := rfl
theorem xTm {kk : Nat → List (List Key × D) → Md → Prop} : dTM kk i (.dT kvs) m = kk i kvs m := rfl
theorem xReT : retR (.tmp d) e k = k d := rfl
theorem xReR : retR (.ro c d) e k = (c = false ∧ d.imm = true ∧ k d) := rfl
theorem xReS : retR (.sl i) e k = retS e[i]? k := rfl
theorem xRsio : retS (some (some (d, .io))) k = (d.imm = true ∧ k d) := rfl
theorem xRslk : retS (some (some (d, .lk))) k = (d.imm = true ∧ k d) := rfl
theorem xRsro : retS (some (some (d, .ro))) k = (d.imm = true ∧ k d) := rfl
theorem xRscst : retS (some (some (d, .cst))) k = (d.imm = true ∧ k d) := rfl
theorem xSetOk : setOk e i = setS e[i]? := rfl
theorem xSn : setS (some none) = true := rfl
theorem xSsown : setS (some (some (d, .own))) = true := rfl
theorem xSsro : setS (some (some (d, .ro))) = true := rfl
theorem xSscst : setS (some (some (d, .cst))) = true := rfl
theorem xGnT : gN i (.tmp d) e nx = (setS e[i]? = true ∧ nx (e.set i (some (d, .own)))) := rfl
theorem xGnR : gN i (.ro c d) e nx = (setS e[i]? = true ∧ nx (e.set i (some (d, roMd c)))) := rfl
theorem xGnS : gN i (.sl j) e nx = (setS e[i]? = true ∧ gNS i e[j]? e nx) := rfl
theorem xGns : gNS i (some (some (d, m))) e nx = (d.imm = true ∧ nx (e.set i (some (d, .own)))) := rfl
theorem xRmF : roMd false = .ro := rfl
theorem xRmT : roMd true = .cst := rfl
theorem xMkN : mkI none d = .tmp d := rfl
theorem xMkS : mkI (some c) d = mkRo c d := rfl
theorem xGT {gs : XGs} : gT n gs r e nx = rd 2 r e (tupT n gs r e nx) := rfl
theorem xTT {gs : XGs} : tupT n gs r e nx (.tup xs) = (xs.length = n ∧ kdOf r xs fun kd => gs kd xs e nx) := rfl
theorem xKdT {kk : Option Bool → Prop} : kdOf (.tmp d) xs kk = kk none := rfl
theorem xKdR {kk : Option Bool → Prop} : kdOf (.ro c d) xs kk = kk (some c) := rfl
theorem xKdS {kk : Option Bool → Prop} : kdOf (.sl i) xs kk = (immL xs = true ∧ kk none) := rfl
theorem xGsN {kd : Option Bool} : gsNil kd [] e nx = nx e := rfl
theorem xGsC {kd : Option Bool} {g : XG} {gs : XGs} : gsCons g gs kd (d :: xs) e nx = g (mkI kd d) e fun e => gs kd xs e nx := rfl
theorem xThN : thaw none e nx = nx e := rfl
theorem xThS : thaw (some (i, m)) e nx = thS i m e[i]? e nx := rfl
theorem xTs : thS i m (some (some (d, .lk))) e nx = nx (e.set i (some (d, m))) := rfl
theorem xLoT {kk : Option Bool → Lok → En → Prop} : lockOf (.tmp d) e kk b = (b = true ∧ kk none none e) := rfl
theorem xLoR {kk : Option Bool → Lok → En → Prop} : lockOf (.ro c d) e kk b = kk (some c) none e := rfl
theorem xLoS {kk : Option Bool → Lok → En → Prop} : lockOf (.sl i) e kk b = lockS i e[i]? e kk b := rfl
theorem xLos {kk : Option Bool → Lok → En → Prop} : lockS i (some (some (d, m))) e kk b = (b = true ∧ kk none (some (i, m)) (e.set i (some (d, .lk)))) := rfl
theorem xSeq {u : XE} {kk : List D → Option Bool → Lok → En → Prop} : iSeq u e kk = u e fun r e => rd 2 r e fun d => seqS d r e kk := rfl
theorem xSqL {kk : List D → Option Bool → Lok → En → Prop} : seqS (.lst xs) r e kk = lockOf r e (fun kd lk e1 => kk xs kd lk e1) (immL xs) := rfl
theorem xSqT {kk : List D → Option Bool → Lok → En → Prop} : seqS (.tup xs) r e kk = lockOf r e (fun kd lk e1 => kk xs kd lk e1) (immL xs) := rfl
theorem xR1 {u : XE} {kk : List D → Option Bool → Lok → En → Prop} : iRange1 u e kk = u e fun r e => rd 2 r e fun d => rng1S d e kk := rfl
theorem xR1i {kk : List D → Option Bool → Lok → En → Prop} : rng1S (.int z) e kk = (-(2 ^ 62) ≤ z ∧ z < 2 ^ 62 ∧ kk ((List.range z.toNat).map fun n => .int (n : Nat)) none none e) := rfl
theorem xR2 {u v : XE} {kk : List D → Option Bool → Lok → En → Prop} : iRange2 u v e kk = u e fun r e => v e fun r2 e2 => rd 2 r e2 fun d => rd 2 r2 e2 fun d2 => rng2S d d2 e2 kk := rfl
theorem xR2i {w : Int} {kk : List D → Option Bool → Lok → En → Prop} : rng2S (.int z) (.int w) e kk = ((-(2 ^ 62) ≤ z ∧ z < 2 ^ 62 ∧ -(2 ^ 62) ≤ w ∧ w < 2 ^ 62) ∧ kk ((List.range (w - z).toNat).map fun n => .int (z + (n : Nat))) none none e) := rfl
theorem xAddI {w : Int} : opAdd (.int z) (.int w) k = k (.int (z + w)) := rfl
theorem xAddS : opAdd (.str s) (.str t) k = (s.length + t.length ≤ sizeLine ∧ k (.str (s ++ t))) := rfl
theorem xAddL : opAdd (.lst xs) (.lst ys) k = (immL xs = true ∧ immL ys = true ∧ xs.length + ys.length ≤ sizeLine ∧ k (.lst (xs ++ ys))) := rfl
theorem xAddT : opAdd (.tup xs) (.tup ys) k = (immL xs = true ∧ immL ys = true ∧ xs.length + ys.length ≤ sizeLine ∧ k (.tup (xs ++ ys))) := rfl
theorem xMulI {w : Int} : opMul (.int z) (.int w) k = (IntMulOk z w ∧ k (.int (z * w))) := rfl
theorem xMulL {w : Int} : opMul (.lst xs) (.int w) k = (immL xs = true ∧ -(2 ^ 63) ≤ w ∧ w < 2 ^ 63 ∧ xs.length * w.toNat ≤ sizeLine ∧ k (.lst (List.replicate w.toNat xs).flatten)) := rfl
theorem xOpI {g : Int → Int → D} {w : Int} : opInt g (.int z) (.int w) k = k (g z w) := rfl
theorem xOpC {C : Int → Int → Prop} {g : Int → Int → D} {w : Int} : opIntC C g (.int z) (.int w) k = (C z w ∧ k (g z w)) := rfl
theorem xLtI {w : Int} : opLt (.int z) (.int w) k = k (.bl (decide (z < w))) := rfl
theorem xTrint {kk : Bool → Prop} : tru (.int z) kk = kk (z != 0) := rfl
theorem xTrbl {kk : Bool → Prop} : tru (.bl b) kk = kk (b) := rfl
theorem xTrlst {kk : Bool → Prop} : tru (.lst xs) kk = kk (!xs.isEmpty) := rfl
theorem xTrtup {kk : Bool → Prop} : tru (.tup xs) kk = kk (!xs.isEmpty) := rfl
theorem xTrdK {kk : Bool → Prop} : tru (.dK kws) kk = kk (!kws.isEmpty) := rfl
theorem xTrnon {kk : Bool → Prop} : tru .non kk = kk false := rfl
theorem xTrstr {kk : Bool → Prop} : tru (.str s) kk = (s.length ≤ sizeLine ∧ kk ((s.length : Int) != 0)) := rfl
theorem xIsint : opIs (.int z) .non k = k (.bl false) := rfl
theorem xInint : opIsNot (.int z) .non k = k (.bl true) := rfl
theorem xIsbl : opIs (.bl b) .non k = k (.bl false) := rfl
theorem xInbl : opIsNot (.bl b) .non k = k (.bl true) := rfl
theorem xIsstr : opIs (.str s) .non k = k (.bl false) := rfl
theorem xInstr : opIsNot (.str s) .non k = k (.bl true) := rfl
theorem xIstup : opIs (.tup xs) .non k = k (.bl false) := rfl
theorem xIntup : opIsNot (.tup xs) .non k = k (.bl true) := rfl
theorem xIslst : opIs (.lst xs) .non k = k (.bl false) := rfl
theorem xInlst : opIsNot (.lst xs) .non k = k (.bl true) := rfl
theorem xIsdT : opIs (.dT kvs) .non k = k (.bl false) := rfl
theorem xIndT : opIsNot (.dT kvs) .non k = k (.bl true) := rfl
theorem xIsdK : opIs (.dK kws) .non k = k (.bl false) := rfl
theorem xIndK : opIsNot (.dK kws) .non k = k (.bl true) := rfl
theorem xIsnon : opIs .non .non k = k (.bl true) := rfl
theorem xInnon : opIsNot .non .non k = k (.bl false) := rfl
theorem xIsB : opIs (.bl b) (.bl c) k = k (.bl (decide (b = c))) := rfl
theorem xInB : opIsNot (.bl b) (.bl c) k = k (.bl (!decide (b = c))) := rfl
theorem xInT : opInB b (.tup xs) (.dT kvs) k = keyT xs fun ks => k (.bl (b != hasT kvs ks)) := rfl
theorem xInL : opInB b d (.lst xs) k = (eqOk d = true ∧ eqOk (.lst xs) = true ∧ k (.bl (b != findIn d xs))) := rfl
theorem xInTu : opInB b d (.tup xs) k = (eqOk d = true ∧ eqOk (.tup xs) = true ∧ k (.bl (b != findIn d xs))) := rfl
theorem xInS : opInB b (.str t) (.str s) k = k (.bl (b != !(Builtin.Str.occurrences s t 0 s.length 1).isEmpty)) := rfl
theorem xIxL : ixd (.lst xs) (.int z) k = optD (atI xs z) k := rfl
theorem xIxT : ixd (.tup xs) (.int z) k = optD (atI xs z) k := rfl
theorem xIxD : ixd (.dT kvs) (.tup xs) k = keyT xs fun ks => optD (lookT kvs ks) k := rfl
theorem xOp : optD (some d) k = k d := rfl
theorem xLnL : bLen (.lst xs) k = k (.int xs.length) := rfl
theorem xLnT : bLen (.tup xs) k = k (.int xs.length) := rfl
theorem xLnS : bLen (.str s) k = (s.length ≤ sizeLine ∧ k (.int s.length)) := rfl
theorem xLnD : bLen (.dT kvs) k = k (.int kvs.length) := rfl
theorem xLnK : bLen (.dK kws) k = k (.int kws.length) := rfl
theorem xAbs : bAbs (.int z) k = k (.int (if z < 0 then -z else z)) := rfl
theorem xIntI : bInt (.int z) k = k (.int z) := rfl
theorem xIntB : bInt (.bl b) k = k (.int (if b then 1 else 0)) := rfl
theorem xMin {w : Int} : bMin2 (.int z) (.int w) k = k (.int (if w < z then w else z)) := rfl
theorem xMax {w : Int} : bMax2 (.int z) (.int w) k = k (.int (if w > z then w else z)) := rfl
theorem xTuL : bTuple (.lst xs) k = (immL xs = true ∧ k (.tup xs)) := rfl
theorem xTuT : bTuple (.tup xs) k = (immL xs = true ∧ k (.tup xs)) := rfl
theorem xLiL : bList (.lst xs) k = (immL xs = true ∧ k (.lst xs)) := rfl
theorem xLiT : bList (.tup xs) k = (immL xs = true ∧ k (.lst xs)) := rfl
theorem xAll : bAll (.lst xs) k = boolsD xs fun bs => k (.bl (bs.all id)) := rfl
theorem xAny : bAny (.lst xs) k = boolsD xs fun bs => k (.bl (bs.any id)) := rfl
theorem xSum : bSum (.lst xs) k = intsD xs fun bs => k (.int bs.sum) := rfl
theorem xOp1 {h : D → (D → Prop) → Prop} : op1 h [d] k = h d k := rfl
theorem xOp2 {h : D → D → (D → Prop) → Prop} : op2 h [d, d1] k = h d d1 k := rfl
theorem xIsl : D.isLst (.lst xs) = true := rfl
theorem xImI : D.imm (.int z) = true := by rw [D.imm]
theorem xImB : D.imm (.bl b) = true := by rw [D.imm]
theorem xImS : D.imm (.str s) = true := by rw [D.imm]
theorem xImN : D.imm .non = true := by rw [D.imm]
theorem xImT : D.imm (.tup xs) = immL xs := by rw [D.imm]
theorem xImC : immL (d :: xs) = (d.imm && immL xs) := by rw [immL]
theorem xImE : immL [] = true := by rw [immL]
theorem xSlN {kk : List D → Prop} : storL [] e kk = kk [] := rfl
theorem xSlC {rs : List R} {kk : List D → Prop} : storL (r :: rs) e kk = stor r e fun d => storL rs e fun ds => kk (d :: ds) := rfl
theorem xRaN {kk : List D → Prop} : rdAll n [] e kk = kk [] := rfl
theorem xRaC {rs : List R} {kk : List D → Prop} : rdAll n (r :: rs) e kk = rd n r e fun d => rdAll n rs e fun ds => kk (d :: ds) := rfl

def putM (di d : D) (e : En) (nx : En → Prop) (i : Nat) (dd : D) (m : Md) : Prop := match dd with
  | .lst xs => match di with
    | .int j => match ixN xs.length j with
      | some n => nx (e.set i (some (.lst (xs.set n d), m)))
      | none => False
    | _ => False
  | .dT kvs => match di with
    | .tup ks => match dKeys ks with
      | some k => kvs.length < sizeLine ∧ nx (e.set i (some (.dT (putD k d kvs), m)))
      | none => False
    | _ => False
  | _ => False
def optN (o : Option Nat) (k : Nat → Prop) : Prop := match o with
  | some d => k d
  | none => False
def optL (o : Option (List (List Int))) (k : List (List Int) → Prop) : Prop := match o with
  | some d => k d
  | none => False
def okIo (x : Option (Option (D × Md))) : Bool := match x with
  | some (some (_, .own)) => true
  | some (some (_, .io)) => true
  | _ => false
theorem xIntS {kk : Int → Prop} : intS (some (some (.int z, m))) kk = kk z := rfl
theorem xIntD {kk : Int → Prop} : intD (.int z) kk = kk z := rfl
theorem xBlD {kk : Bool → Prop} : blD (.bl b) kk = kk b := rfl
theorem xPut : putR (.sl i) d1 d e nx = chgS i e[i]? (putM d1 d e nx) := rfl
theorem xPutL : putM (.int z) d e nx i (.lst xs) m = optN (ixN xs.length z) fun n => nx (e.set i (some (.lst (xs.set n d), m))) := rfl
theorem xPutT : putM (.tup ys) d e nx i (.dT kvs) m = keyT ys fun ks => kvs.length < sizeLine ∧ nx (e.set i (some (.dT (putD ks d kvs), m))) := rfl
theorem xOpN {kk : Nat → Prop} : optN (some n) kk = kk n := rfl
theorem xSoL : bSorted (.lst xs) k = optL (intTs xs) fun l => k (.lst ((sortI l).map tupI)) := rfl
theorem xSoT : bSorted (.tup xs) k = optL (intTs xs) fun l => k (.lst ((sortI l).map tupI)) := rfl
theorem xSoD : bSorted (.dT kvs) k = optL (keyTs kvs) fun l => k (.lst ((sortI l).map tupI)) := rfl
theorem xAt0 {l : List D} : atI (d :: l) 0 = some d := atI_nat (j := 0) rfl
theorem xAt1 {l : List D} : atI (d :: d1 :: l) 1 = some d1 := atI_nat (j := 1) rfl
theorem xAt2 {l : List D} : atI (d :: d1 :: d2 :: l) 2 = some d2 := atI_nat (j := 2) rfl
theorem xAt3 {l : List D} {d3 : D} : atI (d :: d1 :: d2 :: d3 :: l) 3 = some d3 := atI_nat (j := 3) rfl
theorem xZiR {kk : List D → Option Bool → Lok → En → Prop} : zipS (.ro b d1) (.ro c d2) (.lst xs) (.lst ys) e kk = kk (zipL xs ys) (some (b || c)) none e := rfl
theorem xZiT {kk : List D → Option Bool → Lok → En → Prop} : zipS (.ro b d1) (.ro c d2) (.tup xs) (.tup ys) e kk = kk (zipL xs ys) (some (b || c)) none e := rfl
theorem xOkIo : okArg .io (.sl i) e = okIo e[i]? := rfl
theorem xOkIoT : okArg .io (.tmp d) e = true := rfl
theorem xTyintnon : isiB "int" .non = false := by simp [isiB, D.ty]
theorem xTyintbl : isiB "int" (.bl b) = true := by simp [isiB, D.ty]
theorem xTyintint : isiB "int" (.int z) = true := by simp [isiB, D.ty]
theorem xTyintstr : isiB "int" (.str s) = false := by simp [isiB, D.ty]
theorem xTyinttup : isiB "int" (.tup xs) = false := by simp [isiB, D.ty]
theorem xTyintlst : isiB "int" (.lst xs) = false := by simp [isiB, D.ty]
theorem xTyintdT : isiB "int" (.dT kvs) = false := by simp [isiB, D.ty]
theorem xTyintdK : isiB "int" (.dK kws) = false := by simp [isiB, D.ty]
theorem xTyboolnon : isiB "bool" .non = false := by simp [isiB, D.ty]
theorem xTyboolbl : isiB "bool" (.bl b) = true := by simp [isiB, D.ty]
theorem xTyboolint : isiB "bool" (.int z) = false := by simp [isiB, D.ty]
theorem xTyboolstr : isiB "bool" (.str s) = false := by simp [isiB, D.ty]
theorem xTybooltup : isiB "bool" (.tup xs) = false := by simp [isiB, D.ty]
theorem xTyboollst : isiB "bool" (.lst xs) = false := by simp [isiB, D.ty]
theorem xTybooldT : isiB "bool" (.dT kvs) = false := by simp [isiB, D.ty]
theorem xTybooldK : isiB "bool" (.dK kws) = false := by simp [isiB, D.ty]
theorem xTystrnon : isiB "str" .non = false := by simp [isiB, D.ty]
theorem xTystrbl : isiB "str" (.bl b) = false := by simp [isiB, D.ty]
theorem xTystrint : isiB "str" (.int z) = false := by simp [isiB, D.ty]
theorem xTystrstr : isiB "str" (.str s) = true := by simp [isiB, D.ty]
theorem xTystrtup : isiB "str" (.tup xs) = false := by simp [isiB, D.ty]
theorem xTystrlst : isiB "str" (.lst xs) = false := by simp [isiB, D.ty]
theorem xTystrdT : isiB "str" (.dT kvs) = false := by simp [isiB, D.ty]
theorem xTystrdK : isiB "str" (.dK kws) = false := by simp [isiB, D.ty]
theorem xTytuplenon : isiB "tuple" .non = false := by simp [isiB, D.ty]
theorem xTytuplebl : isiB "tuple" (.bl b) = false := by simp [isiB, D.ty]
theorem xTytupleint : isiB "tuple" (.int z) = false := by simp [isiB, D.ty]
theorem xTytuplestr : isiB "tuple" (.str s) = false := by simp [isiB, D.ty]
theorem xTytupletup : isiB "tuple" (.tup xs) = true := by simp [isiB, D.ty]
theorem xTytuplelst : isiB "tuple" (.lst xs) = false := by simp [isiB, D.ty]
theorem xTytupledT : isiB "tuple" (.dT kvs) = false := by simp [isiB, D.ty]
theorem xTytupledK : isiB "tuple" (.dK kws) = false := by simp [isiB, D.ty]
theorem xTylistnon : isiB "list" .non = false := by simp [isiB, D.ty]
theorem xTylistbl : isiB "list" (.bl b) = false := by simp [isiB, D.ty]
theorem xTylistint : isiB "list" (.int z) = false := by simp [isiB, D.ty]
theorem xTyliststr : isiB "list" (.str s) = false := by simp [isiB, D.ty]
theorem xTylisttup : isiB "list" (.tup xs) = false := by simp [isiB, D.ty]
theorem xTylistlst : isiB "list" (.lst xs) = true := by simp [isiB, D.ty]
theorem xTylistdT : isiB "list" (.dT kvs) = false := by simp [isiB, D.ty]
theorem xTylistdK : isiB "list" (.dK kws) = false := by simp [isiB, D.ty]
theorem xEkint : eqOk (.int z) = true := rfl
theorem xEkbl : eqOk (.bl b) = true := rfl
theorem xEknon : eqOk .non = true := rfl
theorem xDqI {w : Int} : deq (.int z) (.int w) = decide (z = w) := by unfold deq; rw [D.py, D.py, PyData.eqv]; rfl
theorem xDqB : deq (.bl b) (.bl c) = decide (b = c) := by unfold deq; cases b <;> cases c <;> simp [D.py, PyData.eqv]
theorem xDqS : deq (.str s) (.str t) = (s == t) := by unfold deq; rw [D.py, D.py, PyData.eqv]
theorem xKe2 {w : Int} {kk : List Key → Prop} : keyT [.int z, .int w] kk = kk [.inl z, .inl w] := rfl
theorem xKe3 {w x3 : Int} {kk : List Key → Prop} : keyT [.int z, .int w, .int x3] kk = kk [.inl z, .inl w, .inl x3] := rfl
theorem xKe4 {w x3 x4 : Int} {kk : List Key → Prop} : keyT [.int z, .int w, .int x3, .int x4] kk = kk [.inl z, .inl w, .inl x3, .inl x4] := rfl
theorem xKe3s {w x3 : Int} {kk : List Key → Prop} : keyT [.str s, .int w, .int x3] kk = kk [.inr s, .inl w, .inl x3] := rfl
theorem xKe4s {w x3 x4 : Int} {kk : List Key → Prop} : keyT [.str s, .int w, .int x3, .int x4] kk = kk [.inr s, .inl w, .inl x3, .inl x4] := rfl
theorem xOkA : okArgs [] [] e = true := rfl
theorem xOkB {ms : List Md} {rs : List R} : okArgs (m :: ms) (r :: rs) e = (okArg m r e && okArgs ms rs e) := rfl
theorem xOkC : okArg .cst r e = true := rfl
theorem xIoO : okIo (some (some (d, .own))) = true := rfl
theorem xIoI : okIo (some (some (d, .io))) = true := rfl
end

theorem forL_range {g : XG} {tb : XS} {kd : Option Bool} {nx : En → Prop} {rt : D → En → Prop} {F : Nat → D} (n : Nat) (I : Nat → En → Prop) (e : En) (h0 : I 0 e) (hn : ∀ e, I n e → nx e)
    (hs : ∀ (i : Nat) (e : En), i < n → I i e → ∀ nx' : En → Prop, (∀ e2, I (i + 1) e2 → nx' e2) → g (mkI kd (F i)) e fun e1 => tb e1 nx' rt) : forL g tb kd ((List.range n).map F) e nx rt :=
  forL_idx _ I e h0 (fun e h => hn e (by simpa using h)) fun i d e hd h nx' hx => by
    rw [List.getElem?_map] at hd
    cases q : (List.range n)[i]? with
    | none => rw [q] at hd; cases hd
    | some j =>
      rw [q] at hd; cases hd
      obtain ⟨h1, h2⟩ := List.getElem?_eq_some_iff.mp q
      rw [List.getElem_range] at h2
      subst h2
      exact hs i e (by simpa using h1) h nx' hx
theorem forL_pre {α : Type} {g : XG} {tb : XS} {kd : Option Bool} {nx : En → Prop} {rt : D → En → Prop} {F : α → D} (I : List α → En → Prop) : ∀ (pre xs : List α) (e : En), I pre e → (∀ e, I (pre ++ xs) e → nx e) →
    (∀ (p : List α) (a : α) (q : List α) (e : En), pre ++ xs = p ++ a :: q → I p e → ∀ nx' : En → Prop, (∀ e2, I (p ++ [a]) e2 → nx' e2) → g (mkI kd (F a)) e fun e1 => tb e1 nx' rt) → forL g tb kd (xs.map F) e nx rt
  | pre, [], e, h0, hn, _ => hn e (by simpa using h0)
  | pre, a :: xs, e, h0, hn, hs => hs pre a xs e rfl h0 _ fun e2 h2 => forL_pre I (pre ++ [a]) xs e2 h2 (fun e h => hn e (by simpa using h)) fun p b q e hq => hs p b q e (by simpa using hq)
end BX

namespace COM
open PySem PySem.Spec PyProof.Rows L2 BX
local macro_rules
  | `(tactic| and_intros) => `(tactic| simp -implicitDefEqProofs only [sNil, sSeq, sExpr, sRet, sRetN, sIf, sNever, sAsg, dC, dG, dLst, dTup, aNil, aCons, dBin, dAnd, dOr, dNot, dIf, xVal, xAnd, xOr, xNot, xYes, dIdx, dCall, dM1, bAppend, bExtend, wipeE, restE, opEq, opNe, sFor, dLc, dNeg, dNotV, xIsi, xIsi2, sPar, sAug, sPut, iZip2, dChn, eq_self, true_implies, decide_true, Bool.not_true, decide_false, putB, back1, slotPos, isSl, Md.rd, Option.map_none, Option.map_some, Bool.not_true, Bool.not_false, Bool.false_and, Bool.and_false, Nat.reduceBEq, Bool.or_true, Bool.true_or, Bool.or_false, Bool.false_or, Bool.or_self, xVar, xRdS, xRd2, xRdS2, xStorER, xStorES, xRetO, xVint, xVbl, xVstr, xVnon, xVtup, xVlst, xVdT, xVdK, xVmro, xVmcst, xVmown, xVmio, xVmlk, xRdT, xRdR1, xRdS1own, xRdS1io, xRdS1lk, xRdS1ro, xElT, xElR, xElS, xMint, xMbl, xMstr, xMnon, xMtup, xMlst, xMdT, xMdK, xStT, xStR, xStS, xSeT, xSmL, xChL, xChT, xChG, xCsO, xCsI, xLm, xTm, xReT, xReR, xReS, xRsio, xRslk, xRsro, xRscst, xSetOk, xSn, xSsown, xSsro, xSscst, xGnT, xGnR, xGnS, xGns, xRmF, xRmT, xMkN, xMkS, xGT, xTT, xKdT, xKdR, xKdS, xGsN, xGsC, xThN, xThS, xTs, xLoT, xLoR, xLoS, xLos, xSeq, xSqL, xSqT, xR1, xR1i, xR2, xR2i, xAddI, xAddS, xAddL, xAddT, xMulI, xMulL, xOpI, xOpC, xLtI, xTrint, xTrbl, xTrlst, xTrtup, xTrdK, xTrnon, xTrstr, xIsint, xInint, xIsbl, xInbl, xIsstr, xInstr, xIstup, xIntup, xIslst, xInlst, xIsdT, xIndT, xIsdK, xIndK, xIsnon, xInnon, xIsB, xInB, xInT, xInL, xInTu, xInS, xIxL, xIxT, xIxD, xOp, xLnL, xLnT, xLnS, xLnD, xLnK, xAbs, xIntI, xIntB, xMin, xMax, xTuL, xTuT, xLiL, xLiT, xAll, xAny, xSum, xOp1, xOp2, xIsl, xImI, xImB, xImS, xImN, xImT, xImC, xImE, xSlN, xSlC, xRaN, xRaC, xIntS, xIntD, xBlD, xPut, xPutL, xPutT, xOpN, xSoL, xSoT, xSoD, xAt0, xAt1, xAt2, xAt3, xZiR, xZiT, xOkIo, xOkIoT, xTyintnon, xTyintbl, xTyintint, xTyintstr, xTyinttup, xTyintlst, xTyintdT, xTyintdK, xTyboolnon, xTyboolbl, xTyboolint, xTyboolstr, xTybooltup, xTyboollst, xTybooldT, xTybooldK, xTystrnon, xTystrbl, xTystrint, xTystrstr, xTystrtup, xTystrlst, xTystrdT, xTystrdK, xTytuplenon, xTytuplebl, xTytupleint, xTytuplestr, xTytupletup, xTytuplelst, xTytupledT, xTytupledK, xTylistnon, xTylistbl, xTylistint, xTyliststr, xTylisttup, xTylistlst, xTylistdT, xTylistdK, xEkint, xEkbl, xEknon, xDqI, xDqB, xDqS, xKe2, xKe3, xKe4, xKe3s, xKe4s, xOkA, xOkB, xOkC, xIoO, xIoI, List.getElem?_cons_zero, List.getElem?_cons_succ, List.set_cons_zero, List.set_cons_succ, List.length_cons, List.length_nil, List.getD_cons_zero, List.getD_cons_succ, true_and, and_true, Bool.and_self, Bool.and_true, Bool.true_and, List.all_cons, List.all_nil, List.nil_append, List.cons_append, forall_const, Nat.reduceAdd, Nat.reduceLeDiff, Nat.reduceSub, Nat.reduceMul, reduceCtorEq, false_implies, penv, BX.fill, List.zipWith_cons_cons, List.zipWith_nil_left, List.zipWith_nil_right, List.replicate_succ, List.replicate_zero, Nat.zero_add])
def t__law_tape : XS :=
  (sSeq (sAsg (dC (.int 0)) (gN 2))
  (sSeq (sIf (xVal (dBin 2 opLt (dVar 1) (dCall 2 (op1 bLen) (aCons (dVar 0) aNil)))) (sAsg (dIdx (dVar 0) (dVar 1)) (gN 2)) sNil)
  (sSeq (sAsg (dBin 1 opMul (dCall 2 (op1 bAbs) (aCons (dVar 2) aNil)) (dCall 2 (op1 bInt) (aCons (dBin 2 opGe (dCall 2 (op1 bAbs) (aCons (dVar 2) aNil)) (dBin 2 opPow (dC (.int 10)) (dC (.int 18)))) aNil))) (gN 3))
  (sRet (dLst (aCons (dVar 3) (aCons (dBin 2 opMod (dBin 1 opMul (dBin 2 opMod (dBin 1 opAdd (dBin 1 opAdd (dVar 2) (dBin 1 opMul (dC (.int 7919)) (dVar 1))) (dC (.int 1))) (dC (.int 2147483647))) (dC (.int 48271))) (dC (.int 2147483647))) aNil)))))))
def t__law_draw : XS :=
  (sSeq (sIf (xVal (dBin 2 opGt (dIdx (dVar 0) (dC (.int 0))) (dC (.int 0)))) (sSeq (sAsg (dBin 2 opMod (dIdx (dVar 0) (dC (.int 0))) (dVar 1)) (gN 2))
  (sSeq (sPut (dBin 2 opDiv (dIdx (dVar 0) (dC (.int 0))) (dVar 1)) (dVar 0) (dC (.int 0)))
  (sRet (dVar 2)))) sNil)
  (sSeq (sPut (dBin 2 opMod (dBin 1 opAdd (dBin 1 opMul (dIdx (dVar 0) (dC (.int 1))) (dC (.int 48271))) (dC (.int 12345))) (dC (.int 2147483647))) (dVar 0) (dC (.int 1)))
  (sSeq (sAsg (dBin 2 opMod (dBin 1 opMul (dIdx (dVar 0) (dC (.int 1))) (dBin 1 opAdd (dBin 2 opMod (dIdx (dVar 0) (dC (.int 1))) (dC (.int 1009))) (dC (.int 3)))) (dC (.int 2147483629))) (gN 3))
  (sRet (dBin 2 opMod (dBin 2 opMod (dBin 1 opMul (dVar 3) (dBin 1 opAdd (dBin 2 opMod (dVar 3) (dC (.int 997))) (dC (.int 5)))) (dC (.int 998244353))) (dVar 1))))))

def TapeOk (a b : Int) : Prop := 0 ≤ a ∧ 0 ≤ b ∧ b < 2 ^ 31
def S_tape : FS := ⟨[.cst, .cst], fun ds Q => ∃ (ns : List Int) (k : Nat), ds = [.lst (ns.map .int), .int k] ∧ k ≤ 1000 ∧ ∀ a b, TapeOk a b → Q (.lst [.int a, .int b]) ds⟩
theorem b_tape : BodyOk S_tape 4 t__law_tape := by
  intro ds Q hl h
  obtain ⟨ns, k, rfl, hk, q⟩ := h
  generalize hrt : outD S_tape _ Q = rt
  generalize outD S_tape _ Q _ = nx
  have p62 : (2 : Int) ^ 62 = 4611686018427387904 := by decide
  have p63 : (2 : Int) ^ 63 = 9223372036854775808 := by decide
  have p31 : (2 : Int) ^ 31 = 2147483648 := by decide
  have p64 : (2 : Int) ^ 64 = 18446744073709551616 := by decide
  unfold t__law_tape
  refine seq_cut (fun e => e = [some (.lst (ns.map .int), .cst), some (.int k, .cst), some (.int 0, .own), none]) (fun K hK => ?_) ?_
  · simp only [S_tape]
    and_intros
    exact hK _ rfl
  rintro _ rfl
  refine seq_cut (fun e => ∃ c : Int, e = [some (.lst (ns.map .int), .cst), some (.int k, .cst), some (.int c, .own), none]) (fun K hK => ?_) ?_
  · and_intros
    refine ⟨fun h => ?_, fun _ => hK _ ⟨0, rfl⟩⟩
    have h' := of_decide_eq_true h
    rw [List.length_map] at h'
    have hlt : k < ns.length := by omega
    rw [atI_map' (List.getElem?_eq_getElem hlt)]
    and_intros
    exact hK _ ⟨_, rfl⟩
  rintro _ ⟨c, rfl⟩
  and_intros
  subst hrt
  refine ⟨by unfold CPow; decide, mulOk_r ?_ ?_, mulOk_l (by omega) (by omega), by decide, mulOk_r (by omega) (by omega), by decide, ?_⟩
  · split <;> omega
  · split <;> omega
  · refine q _ _ ⟨?_, ?_, ?_⟩
    · split <;> split <;> omega
    · omega
    · omega
def S_draw : FS := ⟨[.io, .cst], fun ds Q => ∃ a b m : Int, ds = [.lst [.int a, .int b], .int m] ∧ TapeOk a b ∧ (1 ≤ m ∧ m ≤ 1000000) ∧ ∀ r a' b', 0 ≤ r → r < m → TapeOk a' b' → Q (.int r) [.lst [.int a', .int b'], .int m]⟩
theorem draw_ok {a b m : Int} {Q : D → List D → Prop} (h : TapeOk a b) (h1 : 1 ≤ m) (h2 : m ≤ 1000000) (q : ∀ r a' b', 0 ≤ r → r < m → TapeOk a' b' → Q (.int r) [.lst [.int a', .int b'], .int m]) : S_draw.wp [.lst [.int a, .int b], .int m] Q := ⟨a, b, m, rfl, h, ⟨h1, h2⟩, q⟩
theorem m_draw : MonoF S_draw := fun ds Q Q' h ⟨a, b, m, e, t, hm, q⟩ => ⟨a, b, m, e, t, hm, fun r a' b' h0 h1 h2 => h _ _ (q r a' b' h0 h1 h2)⟩
theorem m_tape : MonoF S_tape := fun ds Q Q' h ⟨ns, k, e, hk, q⟩ => ⟨ns, k, e, hk, fun a b t => h _ _ (q a b t)⟩
theorem b_draw : BodyOk S_draw 4 t__law_draw := by
  intro ds Q hl h
  obtain ⟨a, b, m, rfl, ⟨ha0, hb0, hb1⟩, ⟨hm0, hm1⟩, q⟩ := h
  have p63 : (2 : Int) ^ 63 = 9223372036854775808 := by decide
  have p31 : (2 : Int) ^ 31 = 2147483648 := by decide
  have p64 : (2 : Int) ^ 64 = 18446744073709551616 := by decide
  have out : ∀ (r a' b' : Int) (x2 x3 : Option (D × Md)), 0 ≤ r → r < m → TapeOk a' b' → outD S_draw [.lst [.int a, .int b], .int m] Q (.int r) [some (.lst [.int a', .int b'], .io), some (.int m, .cst), x2, x3] := fun r a' b' x2 x3 h0 h1 h2 => q r a' b' h0 h1 h2
  generalize outD S_draw _ Q = rt at out ⊢
  generalize rt _ = nx
  have n0 : ixN 2 0 = some 0 := rfl
  have n1 : ixN 2 1 = some 1 := rfl
  unfold t__law_draw
  refine seq_cut (fun e => e = [some (.lst [.int a, .int b], .io), some (.int m, .cst), none, none]) (fun K hK => ?_) ?_
  · simp only [S_draw]
    and_intros
    simp only [n0]
    and_intros
    refine ⟨fun h => ?_, fun h => hK _ rfl⟩
    simp only [decide_eq_true_eq] at h
    refine ⟨by omega, ⟨by omega, by omega⟩, out _ _ _ _ _ (Int.emod_nonneg _ (by omega)) (Int.emod_lt_of_pos _ (by omega)) ⟨Int.ediv_nonneg ha0 (by omega), hb0, hb1⟩⟩
  rintro _ rfl
  refine seq_cut (fun e => ∃ b : Int, 0 ≤ b ∧ b < 2 ^ 31 ∧ e = [some (.lst [.int a, .int b], .io), some (.int m, .cst), none, none]) (fun K hK => ?_) ?_
  · and_intros
    simp only [n1]
    and_intros
    exact ⟨mulOk_l (by omega) (by omega), by decide, hK _ ⟨_, Int.emod_nonneg _ (by decide), Int.lt_trans (Int.emod_lt_of_pos _ (by decide)) (by decide), rfl⟩⟩
  rintro _ ⟨b, hb0, hb1, rfl⟩
  refine seq_cut (fun e => ∃ c : Int, 0 ≤ c ∧ c < 2 ^ 31 ∧ e = [some (.lst [.int a, .int b], .io), some (.int m, .cst), none, some (.int c, .own)]) (fun K hK => ?_) ?_
  · and_intros
    exact ⟨by decide, mulOk_l (by omega) (by omega), by decide, hK _ ⟨_, Int.emod_nonneg _ (by decide), Int.lt_trans (Int.emod_lt_of_pos _ (by decide)) (by decide), rfl⟩⟩
  rintro _ ⟨c, hc0, hc1, rfl⟩
  and_intros
  exact ⟨by decide, mulOk_l (by omega) (by omega), by decide, by omega, out _ _ _ _ _ (Int.emod_nonneg _ (by omega)) (Int.emod_lt_of_pos _ (by omega)) ⟨ha0, hb0, hb1⟩⟩
def t__law_same (S__law_same : FS) : XS :=
  (sSeq (sIf (xVal (dBin 2 opIs (dVar 1) (dC .non))) (sRet (dBin 2 opIs (dVar 0) (dC .non))) sNil)
  (sSeq (sIf (xVal (xIsi2 "list" "tuple" (dVar 1))) (sSeq (sIf (xOr (xVal (dBin 2 opNe (xIsi "list" (dVar 0)) (xIsi "list" (dVar 1)))) (xVal (dBin 2 opNe (xIsi "tuple" (dVar 0)) (xIsi "tuple" (dVar 1))))) (sRet (dC (.bl false))) sNil)
  (sRet (dAnd (dBin 2 opEq (dCall 2 (op1 bLen) (aCons (dVar 0) aNil)) (dCall 2 (op1 bLen) (aCons (dVar 1) aNil))) (dCall 2 (op1 bAll) (aCons (dLc (iZip2 (dVar 0) (dVar 1)) (gT 2 (gsCons (gN 2) (gsCons (gN 3) gsNil))) xYes (dFn S__law_same (aCons (dVar 2) (aCons (dVar 3) aNil))) [2, 3]) aNil))))) sNil)
  (sSeq (sIf (xVal (xIsi "bool" (dVar 1))) (sRet (dAnd (xIsi "bool" (dVar 0)) (dBin 2 opEq (dVar 0) (dVar 1)))) sNil)
  (sSeq (sIf (xVal (xIsi "str" (dVar 1))) (sRet (dAnd (xIsi "str" (dVar 0)) (dBin 2 opEq (dVar 0) (dVar 1)))) sNil)
  (sRet (dAnd (xIsi "int" (dVar 0)) (dAnd (dNotV (xIsi "bool" (dVar 0))) (dBin 2 opEq (dVar 0) (dVar 1)))))))))

def SameOk : Nat → D → Prop
  | 0, _ => False
  | n + 1, d => match d with
    | .non => True
    | .bl _ => True
    | .int _ => True
    | .str s => eqOk (.str s) = true
    | .tup xs => xs.length ≤ 1000000 ∧ ∀ x ∈ xs, SameOk n x
    | .lst xs => xs.length ≤ 1000000 ∧ ∀ x ∈ xs, SameOk n x
    | _ => False
def S_same (n : Nat) : FS := ⟨[.cst, .cst], fun ds Q => ∃ d, ds = [d, d] ∧ SameOk n d ∧ Q (.bl true) ds⟩
theorem m_same (n : Nat) : MonoF (S_same n) := fun ds Q Q' h ⟨d, e, t, q⟩ => ⟨d, e, t, h _ _ q⟩
theorem b_same (n : Nat) : BodyOk (S_same (n + 1)) 4 (t__law_same (S_same n)) := by
  intro ds Q hl h
  obtain ⟨d, rfl, hd, q⟩ := h
  have out : ∀ (x2 x3 : Option (D × Md)), outD (S_same (n + 1)) [d, d] Q (.bl true) [some (d, .cst), some (d, .cst), x2, x3] := fun x2 x3 => q
  generalize outD (S_same (n + 1)) _ Q = rt at out ⊢
  generalize rt _ = nx
  unfold t__law_same
  simp only [show (S_same (n + 1)).ms = [Md.cst, Md.cst] from rfl]
  have lcs : ∀ xs : List D, xs.length ≤ 1000000 → (∀ x ∈ xs, SameOk n x) → ∀ (e0 : En) (kk : List D → En → Prop), (e0 = [some (.tup xs, .cst), some (.tup xs, .cst), none, none] ∨ e0 = [some (.lst xs, .cst), some (.lst xs, .cst), none, none]) → kk (xs.map fun _ => .bl true) e0 →
      lcL (gT 2 (gsCons (gN 2) (gsCons (gN 3) gsNil))) xYes (dFn (S_same n) (aCons (dVar 2) (aCons (dVar 3) aNil))) (some true) [2, 3] (zipL xs xs) e0 [] kk := by
    intro xs hlen hx e0 kk he hk
    have e : zipL xs xs = xs.map fun x => .tup [x, x] := by
      clear hlen hx hk he
      induction xs with
      | nil => rfl
      | cons x xs ih => rw [List.map_cons, ← ih]; rfl
    rw [e]
    refine lcL_map (fun _ => .bl true) _ _ ?_ ?_ ?_
    · rw [List.length_map, sizeLine_eq]; simp; omega
    · rw [List.map_map]; exact hk
    · intro d hd c k1 hc h1
      obtain ⟨x, hxm, rfl⟩ := List.mem_map.mp hd
      have sx := hx x hxm
      rcases he with rfl | rfl
      · and_intros
        cases n with
        | zero => exact sx.elim
        | succ n =>
          cases x with
          | dT _ => exact sx.elim
          | dK _ => exact sx.elim
          | dF _ => exact sx.elim
          | _ =>
            simp only [dFn2 (S := S_same (n + 1)) rfl]
            and_intros
            exact ⟨_, rfl, sx, hc, h1⟩
      · and_intros
        cases n with
        | zero => exact sx.elim
        | succ n =>
          cases x with
          | dT _ => exact sx.elim
          | dK _ => exact sx.elim
          | dF _ => exact sx.elim
          | _ =>
            simp only [dFn2 (S := S_same (n + 1)) rfl]
            and_intros
            exact ⟨_, rfl, sx, hc, h1⟩
  have bt : ∀ xs : List D, bools (xs.map fun _ => D.bl true) = some (xs.map fun _ => true) := fun xs => by
    induction xs with
    | nil => rfl
    | cons x xs ih => rw [List.map_cons, bools, ih]; rfl
  have ba : ∀ xs : List D, (xs.map fun _ => true).all id = true := fun xs => by simp
  cases d with
  | non =>
    and_intros
    exact out _ _
  | bl b =>
    and_intros
    exact out _ _
  | int i =>
    and_intros
    exact out _ _
  | str s =>
    and_intros
    have he : eqOk (.str s) = true := hd
    simp only [he]
    and_intros
    have e : (s == s) = true := by first | exact beq_self_eq_true s | simp
    rw [e]
    exact out _ _
  | tup xs =>
    and_intros
    refine lcs xs hd.1 hd.2 _ _ (.inl rfl) ?_
    unfold boolsD
    rw [bt]
    and_intros
    rw [ba]
    exact out _ _
  | lst xs =>
    and_intros
    refine lcs xs hd.1 hd.2 _ _ (.inr rfl) ?_
    unfold boolsD
    rw [bt]
    and_intros
    rw [ba]
    exact out _ _
  | dT _ => exact hd.elim
  | dK _ => exact hd.elim
  | dF _ => exact hd.elim

/-- one draw from the tape in slot i -/
theorem draw_c {i : Nat} {u : XE} {e : En} {Q : R → En → Prop} {a b m : Int} {md : Md} (hu : ∀ Q' : R → En → Prop, Q' (.tmp (.int m)) e → u e Q') (ht : TapeOk a b) (h1 : 1 ≤ m) (h2 : m ≤ 1000000)
    (q : ∀ r a' b', 0 ≤ r → r < m → TapeOk a' b' → Q (.tmp (.int r)) (e.set i (some (.lst [.int a', .int b'], md))))
    (he : e[i]? = some (some (.lst [.int a, .int b], md)) := by rfl) (hm : md = .own ∨ md = .io := by decide) : dFn S_draw (aCons (dVar i) (aCons u aNil)) e Q := by
  have pb : ∀ (r : Int) (a' b' : Int) (e' : En) (k : Nat), putB S_draw.ms [.sl i, .tmp (.int m)] [.lst [.int a', .int b'], .int m] k e' = e'.mapIdx fun j x => back1 S_draw.ms [.sl i, .tmp (.int m)] [.lst [.int a', .int b'], .int m] (k + j) x := by
    intro r a' b' e'
    induction e' with
    | nil => intro k; rfl
    | cons x xs ih =>
      intro k
      rw [putB, ih, List.mapIdx_cons]
      congr 1
      congr 1
      funext j y
      rw [show k + 1 + j = k + (j + 1) by omega]
  have sp : ∀ j, slotPos S_draw.ms [.sl i, .tmp (.int m)] j = if i = j then some 0 else none := by
    intro j
    show slotPos [Md.io, Md.cst] [.sl i, .tmp (.int m)] j = _
    by_cases h : i = j
    · subst h
      simp [slotPos, isSl, Md.rd]
    · rw [if_neg h]
      have hb : (i == j) = false := beq_eq_false_iff_ne.mpr h
      simp [slotPos, isSl, Md.rd, hb]
  have eq : ∀ a' b' : Int, putB S_draw.ms [.sl i, .tmp (.int m)] [.lst [.int a', .int b'], .int m] 0 e = e.set i (some (.lst [.int a', .int b'], md)) := by
    intro a' b'
    rw [pb 0]
    apply List.ext_getElem?
    intro j
    rw [List.getElem?_mapIdx, List.getElem?_set]
    by_cases h : i = j
    · subst h
      have hi : i < e.length := (List.getElem?_eq_some_iff.mp he).1
      rw [he, if_pos rfl, if_pos hi]
      simp only [Option.map_some, Nat.zero_add, back1, sp, if_true]
      rfl
    · rw [if_neg h]
      cases e[j]? with
      | none => rfl
      | some x => simp only [Option.map_some, Nat.zero_add, back1, sp, if_neg h]
  unfold dFn
  show dVar i e _
  rw [xVar, he]
  have ok1 : okArgs S_draw.ms [.sl i, .tmp (.int m)] e = true := by
    show okArgs [Md.io, Md.cst] _ e = true
    rw [xOkB, xOkB, xOkIo, he]
    rcases hm with rfl | rfl <;> rfl
  have fin : (fun rs e => okArgs S_draw.ms rs e = true ∧ apart S_draw.ms rs = true ∧ rdAll 2 rs e fun ds => S_draw.wp ds fun d ds' => Q (.tmp d) (putB S_draw.ms rs ds' 0 e)) [.sl i, .tmp (.int m)] e := by
    refine ⟨ok1, ?_, ?_⟩
    · unfold apart
      rw [List.all_eq_true]
      intro p hp
      rw [List.all_eq_true]
      intro q hq
      have hp' : p < 2 := by simpa using hp
      have hq' : q < 2 := by simpa using hq
      match p, q, hp', hq' with
      | 0, 0, _, _ => rfl
      | 1, 1, _, _ => rfl
      | 0, 1, _, _ => rfl
      | 1, 0, _, _ => rfl
    · rw [xRaC, xRdS, he]
      have : ∀ kk : D → Prop, kk (.lst [.int a, .int b]) → rdS 2 (some (some (.lst [.int a, .int b], md))) kk := fun kk h => by rw [xRdS2]; exact h
      refine this _ ?_
      refine draw_ok ht h1 h2 fun r a' b' r0 r1 t => ?_
      rw [eq]
      exact q r a' b' r0 r1 t
  rcases hm with rfl | rfl
  · exact hu _ fin
  · exact hu _ fin
end COM

namespace TX
open PySem PySem.Spec PyProof.Rows L2 BX

section
variable {α β γ δ κ : Type}
abbrev eI : Int → D := D.int
abbrev eB : Bool → D := D.bl
abbrev eS : Str → D := D.str
def eN (_ : Unit) : D := .non
def eA (d : D) : D := d
def eT1 (f : α → D) (p : α) : D := .tup [f p]
def eT2 (f : α → D) (g : β → D) (p : α × β) : D := .tup [f p.1, g p.2]
def eT3 (f : α → D) (g : β → D) (h : γ → D) (p : α × β × γ) : D := .tup [f p.1, g p.2.1, h p.2.2]
def eT4 (f : α → D) (g : β → D) (h : γ → D) (i : δ → D) (p : α × β × γ × δ) : D := .tup [f p.1, g p.2.1, h p.2.2.1, i p.2.2.2]
def eL (f : α → D) (l : List α) : D := .lst (l.map f)
def eV (f : α → D) (l : List α) : D := .tup (l.map f)
def eO (f : α → D) : Option α → D
  | none => .non
  | some a => f a
def eDT (kf : κ → List Key) (f : α → D) (l : List (κ × α)) : D := .dT (l.map fun p => (kf p.1, f p.2))
def eDK (kf : κ → Key) (f : α → D) (l : List (κ × α)) : D := .dK (l.map fun p => (kf p.1, f p.2))
def eL2 (a b : Int) : D := .lst [.int a, .int b]
/-- a tape -/
def eP (t : Int × Int) : D := .lst [.int t.1, .int t.2]

/-- nothing in it changes -/
class Im (f : α → D) : Prop where
  im : ∀ a, (f a).imm = true
instance : Im D.int := ⟨fun _ => by rw [D.imm]⟩
instance : Im D.bl := ⟨fun _ => by rw [D.imm]⟩
instance : Im D.str := ⟨fun _ => by rw [D.imm]⟩
instance : Im eN := ⟨fun _ => by rw [eN, D.imm]⟩
instance {f : α → D} [hf : Im f] : Im (eT1 f) := ⟨fun p => by simp [eT1, D.imm, immL, hf.im]⟩
instance {f : α → D} {g : β → D} [hf : Im f] [hg : Im g] : Im (eT2 f g) := ⟨fun p => by simp [eT2, D.imm, immL, hf.im, hg.im]⟩
instance {f : α → D} {g : β → D} {h : γ → D} [hf : Im f] [hg : Im g] [hh : Im h] : Im (eT3 f g h) := ⟨fun p => by simp [eT3, D.imm, immL, hf.im, hg.im, hh.im]⟩
instance {f : α → D} {g : β → D} {h : γ → D} {i : δ → D} [hf : Im f] [hg : Im g] [hh : Im h] [hi : Im i] : Im (eT4 f g h i) := ⟨fun p => by simp [eT4, D.imm, immL, hf.im, hg.im, hh.im, hi.im]⟩
theorem imL {f : α → D} [hf : Im f] (l : List α) : immL (l.map f) = true := immL_map hf.im l
instance {f : α → D} [hf : Im f] : Im (eV f) := ⟨fun p => by rw [eV, D.imm]; exact imL p⟩
instance {f : α → D} [hf : Im f] : Im (eO f) := ⟨fun p => by cases p with
  | none => rw [eO, D.imm]
  | some a => rw [eO]; exact hf.im a⟩

/-- `==` is equality -/
class Eqd [DecidableEq α] (f : α → D) (n : outParam Nat) : Prop where
  lay : ∀ a, PyData.canLay0 (f a).py = true ∧ PyData.depth (f a).py ≤ n
  eq : ∀ a b, PyData.eqv (f a).py (f b).py = decide (a = b)
end

abbrev aR (Q : R → En → Prop) (r : R) (e : En) : Prop := Q r e
abbrev aB (Q : Bool → En → Prop) (b : Bool) (e : En) : Prop := Q b e
abbrev aL (Q : List R → En → Prop) (rs : List R) (e : En) : Prop := Q rs e
abbrev aN (nx : En → Prop) (e : En) : Prop := nx e
abbrev aD (rt : D → En → Prop) (d : D) (e : En) : Prop := rt d e
abbrev aI (k : List D → Option Bool → Lok → En → Prop) (ds : List D) (kd : Option Bool) (lk : Lok) (e : En) : Prop := k ds kd lk e
abbrev aK (k : List D → En → Prop) (ds : List D) (e : En) : Prop := k ds e

def D.big : D → Bool
  | .int _ => false
  | .bl _ => false
  | .str _ => false
  | .non => false
  | .dF _ => false
  | _ => true
/-- the result r reads as d, at level L -/
inductive Rv (e : En) : Nat → R → D → Prop
  | tmp {L : Nat} {d : D} : Rv e L (.tmp d) d
  | ro {L : Nat} {d : D} : Rv e (L + 1) (.ro false d) d
  | cst {L : Nat} {d : D} : Rv e (L + 2) (.ro true d) d
  | sl {L : Nat} {i : Nat} {d : D} {m : Md} : e[i]? = some (some (d, m)) → m.okL L = true → Rv e L (.sl i) d
section
variable {e : En} {L : Nat} {r r1 r2 : R} {d d1 d2 : D}
theorem Rv.rd (h : Rv e L r d) {k : D → Prop} (q : k d) : rd L r e k := by
  cases h with
  | tmp => exact q
  | ro => exact q
  | cst => exact q
  | sl h hm => unfold BX.rd R.data; simp only [h, hm]; exact q
theorem okL_up {m : Md} {L : Nat} (h : m.okL L = true) : m.okL (L + 1) = true := by
  cases m <;> first | rfl | (cases L with
    | zero => first | exact h | cases h | rfl
    | succ n => cases n with
      | zero => first | exact h | cases h | rfl
      | succ n => rfl)
theorem Rv.up (h : Rv e 1 r d) : Rv e 2 r d := by
  cases h with
  | tmp => exact .tmp
  | ro => exact .ro
  | sl h hm => exact .sl h (okL_up hm)
/-- may be put into a list, a tuple -/
def St (e : En) (r : R) (d : D) : Prop := ∀ k : D → Prop, k d → stor r e k
theorem St.tmp : St e (.tmp d) d := fun k q => q
theorem St.of (h : Rv e 1 r d) (hi : d.imm = true) : St e r d := fun k q => by
  cases r with
  | tmp x => cases h; exact q
  | ro c x => exact h.rd ⟨hi, q⟩
  | sl i => exact h.rd ⟨hi, q⟩
inductive StL (e : En) : List R → List D → Prop
  | nil : StL e [] []
  | cons {r : R} {d : D} {rs : List R} {ds : List D} : St e r d → StL e rs ds → StL e (r :: rs) (d :: ds)
theorem StL.go : ∀ {rs : List R} {ds : List D}, StL e rs ds → ∀ {k : List D → Prop}, k ds → storL rs e k
  | _, _, .nil, k, q => q
  | _, _, .cons h t, k, q => h _ (t.go (k := fun ds => k (_ :: ds)) q)
inductive RvL (e : En) (L : Nat) : List R → List D → Prop
  | nil : RvL e L [] []
  | cons {r : R} {d : D} {rs : List R} {ds : List D} : Rv e L r d → RvL e L rs ds → RvL e L (r :: rs) (d :: ds)
theorem RvL.go : ∀ {rs : List R} {ds : List D}, RvL e L rs ds → ∀ {k : List D → Prop}, k ds → rdAll L rs e k
  | _, _, .nil, k, q => q
  | _, _, .cons h t, k, q => h.rd (t.go (k := fun ds => k (_ :: ds)) q)
end
end TX

namespace TX
open PySem PySem.Spec PyProof.Rows L2 BX
section
variable {e e1 e' : En} {L : Nat} {r r1 r2 : R} {d d1 d2 d3 : D} {Q : R → En → Prop} {QB : Bool → En → Prop} {QA : List R → En → Prop} {i j : Nat} {α β : Type}

def vr (e : En) (i : Nat) : Option R := match e[i]? with
  | some (some (.int z, _)) => some (.tmp (.int z))
  | some (some (.bl z, _)) => some (.tmp (.bl z))
  | some (some (.str z, _)) => some (.tmp (.str z))
  | some (some (.non, _)) => some (.tmp .non)
  | some (some (.dF kvs, .own)) => some (.ro true (.dT kvs))
  | some (some (d, .ro)) => some (.ro false d)
  | some (some (d, .cst)) => some (.ro true d)
  | some (some (_, .own)) => some (.sl i)
  | some (some (_, .io)) => some (.sl i)
  | some (some (_, .lk)) => some (.sl i)
  | _ => none
theorem c_var (h0 : vr e i = some r) (q : aR Q r e) : dVar i e Q := by
  unfold vr at h0
  unfold dVar
  cases he : e[i]? with
  | none => rw [he] at h0; cases h0
  | some x => cases x with
    | none => rw [he] at h0; cases h0
    | some p =>
      obtain ⟨d, m⟩ := p
      rw [he] at h0
      cases d <;> first | (cases h0; exact q) | (cases m <;> (cases h0; exact q))
def D.isF : D → Bool
  | .dF _ => true
  | _ => false
theorem eO_noF {f : α → D} {o : Option α} (h : ∀ x, D.isF (f x) = false) : D.isF (eO f o) = false := by
  cases o with
  | none => rfl
  | some x => exact h x
theorem c_varU {m : Md} (h0 : e[i]? = some (some (d, m))) (hm : m.okL 1 = true) (q : ∀ r, Rv e 1 r d → aR Q r e) (hd : D.isF d = false := by first | rfl | exact eO_noF fun _ => rfl) : dVar i e Q := by
  have hs : Rv e 1 (.sl i) d := .sl h0 hm
  unfold dVar
  rw [h0]
  cases d <;> first | (cases hd; done) | exact q _ .tmp | (cases m <;> first | exact q _ .ro | (cases hm; done) | exact q _ hs)
theorem c_varU2 (h0 : e[i]? = some (some (d, .cst))) (q : ∀ r, Rv e 2 r d → aR Q r e) : dVar i e Q := by
  unfold dVar
  rw [h0]
  cases d <;> first | exact q _ .tmp | exact q _ .cst
theorem c_C (q : aR Q (.tmp d) e) : dC d e Q := q
theorem c_G (q : aR Q (mkRo true d) e) : dG d e Q := q

def OpTo (op : OP) (d1 d2 d : D) : Prop := ∀ k : D → Prop, k d → op d1 d2 k
theorem c_bin {op : OP} {t u : XE} (q : t e fun r1 e1 => u e1 fun r2 e2 => rd L r1 e2 fun d1 => rd L r2 e2 fun d2 => op d1 d2 fun d => aR Q (.tmp d) e2) : dBin L op t u e Q := q
theorem o_bin {op : OP} (h1 : Rv e L r1 d1) (h2 : Rv e L r2 d2) (ho : OpTo op d1 d2 d) (q : aR Q (.tmp d) e) : rd L r1 e fun d1 => rd L r2 e fun d2 => op d1 d2 fun d => aR Q (.tmp d) e := h1.rd (h2.rd (ho (fun d => aR Q (.tmp d) e) q))
section
variable {a b : Int}
theorem op_addI : OpTo opAdd (.int a) (.int b) (.int (a + b)) := fun k q => q
theorem op_subI : OpTo opSub (.int a) (.int b) (.int (a - b)) := fun k q => q
theorem op_mulI (h : IntMulOk a b) : OpTo opMul (.int a) (.int b) (.int (a * b)) := fun k q => ⟨h, q⟩
theorem op_modI (h : 0 < b) : OpTo opMod (.int a) (.int b) (.int (a % b)) := fun k q => ⟨h, q⟩
theorem op_divI (h : CDiv a b) : OpTo opDiv (.int a) (.int b) (.int (a / b)) := fun k q => ⟨h, q⟩
theorem op_powI (h : CPow a b) : OpTo opPow (.int a) (.int b) (.int (a ^ b.toNat)) := fun k q => ⟨h, q⟩
theorem op_ltI : OpTo opLt (.int a) (.int b) (.bl (decide (a < b))) := fun k q => q
theorem op_leI : OpTo opLe (.int a) (.int b) (.bl (decide (a ≤ b))) := fun k q => q
theorem op_gtI : OpTo opGt (.int a) (.int b) (.bl (decide (b < a))) := fun k q => q
theorem op_geI : OpTo opGe (.int a) (.int b) (.bl (decide (b ≤ a))) := fun k q => q
end
theorem op_addS {a b : Str} (h : a.length + b.length ≤ sizeLine) : OpTo opAdd (.str a) (.str b) (.str (a ++ b)) := fun k q => ⟨h, q⟩
theorem op_addL {f : α → D} [Im f] {a b : List α} (h : a.length + b.length ≤ sizeLine) : OpTo opAdd (eL f a) (eL f b) (eL f (a ++ b)) := fun k q => ⟨imL a, imL b, by simpa using h, by rw [← List.map_append]; exact q⟩
theorem op_addV {f : α → D} [Im f] {a b : List α} (h : a.length + b.length ≤ sizeLine) : OpTo opAdd (eV f a) (eV f b) (eV f (a ++ b)) := fun k q => ⟨imL a, imL b, by simpa using h, by rw [← List.map_append]; exact q⟩
theorem op_mulL {f : α → D} [Im f] {a : List α} {b : Int} (h : -(2 ^ 63) ≤ b ∧ b < 2 ^ 63) (h2 : a.length * b.toNat ≤ sizeLine) : OpTo opMul (eL f a) (.int b) (eL f (List.replicate b.toNat a).flatten) := fun k q => ⟨imL a, h.1, h.2, by simpa using h2, by
  have : (List.replicate b.toNat (a.map f)).flatten = ((List.replicate b.toNat a).flatten).map f := by simp [List.map_flatten]
  rw [this]; exact q⟩
/-- tuples of ints -/
class Ints (f : α → D) (tl : outParam (α → List Int)) : Prop where
  isx : ∀ a, f a = .tup ((tl a).map .int)
  ne : ∀ a, tl a ≠ []
def tl2 (c : Int × Int) : List Int := [c.1, c.2]
def tl3 (c : Int × Int × Int) : List Int := [c.1, c.2.1, c.2.2]
def tl4 (c : Int × Int × Int × Int) : List Int := [c.1, c.2.1, c.2.2.1, c.2.2.2]
instance : Ints (eT2 D.int D.int) tl2 := ⟨fun _ => rfl, fun _ => by simp [tl2]⟩
instance : Ints (eT3 D.int D.int D.int) tl3 := ⟨fun _ => rfl, fun _ => by simp [tl3]⟩
instance : Ints (eT4 D.int D.int D.int D.int) tl4 := ⟨fun _ => rfl, fun _ => by simp [tl4]⟩
theorem intL_ints : ∀ l : List Int, intL (l.map .int) = some l
  | [] => rfl
  | i :: l => by rw [List.map_cons, BX.intL, intL_ints l]; rfl
theorem op_ltT {f : α → D} {tl : α → List Int} [h : Ints f tl] {a b : α} : OpTo opLt (f a) (f b) (.bl (HT.lexLt (tl a) (tl b))) := fun k q => by
  rw [h.isx a, h.isx b]
  unfold opLt
  simp only [intL_ints]
  exact q
section
variable [DecidableEq α] {f : α → D} {n : Nat} [hf : Eqd f n] {a b : α}
theorem Eqd.ok (hn : n ≤ 64) (a : α) : eqOk (f a) = true := by
  have := hf.lay a
  unfold eqOk SeqAt.shaped
  simp only [this.1, Bool.true_and, decide_eq_true_eq]
  omega
theorem op_eq (hn : n ≤ 64 := by decide) : OpTo opEq (f a) (f b) (.bl (decide (a = b))) := fun k q => ⟨Eqd.ok hn a, Eqd.ok hn b, by rw [deq, hf.eq]; exact q⟩
theorem op_ne (hn : n ≤ 64 := by decide) : OpTo opNe (f a) (f b) (.bl (!decide (a = b))) := fun k q => ⟨Eqd.ok hn a, Eqd.ok hn b, by rw [deq, hf.eq]; exact q⟩
end
end
end TX

namespace TX
open PySem PySem.Spec PyProof.Rows L2 BX
section
variable {α β γ δ κ : Type}
instance : Eqd D.int 0 := ⟨fun a => by simp [D.py, PyData.canLay0, PyData.depth], fun a b => by simp only [D.py, PyData.eqv]; by_cases h : a = b <;> simp [h]⟩
instance : Eqd D.bl 0 := ⟨fun a => by simp [D.py, PyData.canLay0, PyData.depth], fun a b => by cases a <;> cases b <;> simp [D.py, PyData.eqv]⟩
section
variable [DecidableEq α] [DecidableEq β] [DecidableEq γ] [DecidableEq δ] {f : α → D} {g : β → D} {h : γ → D} {i : δ → D} {n m k l : Nat}
instance [hf : Eqd f n] [hg : Eqd g m] : Eqd (eT2 f g) (n + m + 1) := ⟨fun a => by
  have h1 := hf.lay a.1; have h2 := hg.lay a.2
  simp only [eT2, D.py, pyL, PyData.canLay0, PyData.canLayAll0, PyData.depth, PyData.depthAll, h1.1, h2.1, Bool.and_self, Bool.true_and, true_and]
  omega, fun a b => by
  simp only [eT2, D.py, pyL, PyData.eqv, PyData.eqvAll, hf.eq, hg.eq, Bool.and_true, Prod.ext_iff, Bool.decide_and]⟩
instance [hf : Eqd f n] [hg : Eqd g m] [hh : Eqd h k] : Eqd (eT3 f g h) (n + m + k + 1) := ⟨fun a => by
  have h1 := hf.lay a.1; have h2 := hg.lay a.2.1; have h3 := hh.lay a.2.2
  simp only [eT3, D.py, pyL, PyData.canLay0, PyData.canLayAll0, PyData.depth, PyData.depthAll, h1.1, h2.1, h3.1, Bool.and_self, Bool.true_and, true_and]
  omega, fun a b => by
  simp only [eT3, D.py, pyL, PyData.eqv, PyData.eqvAll, hf.eq, hg.eq, hh.eq, Bool.and_true, Prod.ext_iff, Bool.decide_and]⟩
instance [hf : Eqd f n] [hg : Eqd g m] [hh : Eqd h k] [hi : Eqd i l] : Eqd (eT4 f g h i) (n + m + k + l + 1) := ⟨fun a => by
  have h1 := hf.lay a.1; have h2 := hg.lay a.2.1; have h3 := hh.lay a.2.2.1; have h4 := hi.lay a.2.2.2
  simp only [eT4, D.py, pyL, PyData.canLay0, PyData.canLayAll0, PyData.depth, PyData.depthAll, h1.1, h2.1, h3.1, h4.1, Bool.and_self, Bool.true_and, true_and]
  omega, fun a b => by
  simp only [eT4, D.py, pyL, PyData.eqv, PyData.eqvAll, hf.eq, hg.eq, hh.eq, hi.eq, Bool.and_true, Prod.ext_iff, Bool.decide_and]⟩
theorem eqL_lay [hf : Eqd f n] : ∀ l : List α, PyData.canLayAll0 (pyL (l.map f)) = true ∧ PyData.depthAll (pyL (l.map f)) ≤ n
  | [] => by simp [pyL, PyData.canLayAll0, PyData.depthAll]
  | a :: l => by
    have h1 := hf.lay a; have h2 := eqL_lay l
    simp only [List.map_cons, pyL, PyData.canLayAll0, PyData.depthAll, h1.1, h2.1, Bool.and_self, true_and]
    omega
theorem eqL_eq [hf : Eqd f n] : ∀ l m : List α, PyData.eqvAll (pyL (l.map f)) (pyL (m.map f)) = decide (l = m)
  | [], [] => by simp [pyL, PyData.eqvAll]
  | [], b :: m => by simp [pyL, PyData.eqvAll]
  | a :: l, [] => by simp [pyL, PyData.eqvAll]
  | a :: l, b :: m => by
    have := eqL_eq l m
    simp only [List.map_cons, pyL, PyData.eqvAll, hf.eq, this, List.cons.injEq, Bool.decide_and]
instance [hf : Eqd f n] : Eqd (eL f) (n + 1) := ⟨fun a => by
  have := eqL_lay (f := f) a
  simp only [eL, D.py, PyData.canLay0, PyData.depth, this.1, true_and]; omega, fun a b => by simp only [eL, D.py, PyData.eqv, eqL_eq]⟩
instance [hf : Eqd f n] : Eqd (eV f) (n + 1) := ⟨fun a => by
  have := eqL_lay (f := f) a
  simp only [eV, D.py, PyData.canLay0, PyData.depth, this.1, true_and]; omega, fun a b => by simp only [eV, D.py, PyData.eqv, eqL_eq]⟩
theorem findIn_eq [hf : Eqd f n] (a : α) : ∀ l : List α, findIn (f a) (l.map f) = decide (a ∈ l)
  | [] => by simp [findIn]
  | b :: l => by
    rw [List.map_cons, findIn, findIn_eq a l, deq, hf.eq]
    simp only [List.mem_cons]
    by_cases h1 : b = a
    · subst h1; simp
    · have h2 : ¬ a = b := fun z => h1 z.symm
      simp [h1, h2]
variable {e : En}
theorem op_inL [hf : Eqd f n] {a : α} {l : List α} (hn : n + 1 ≤ 64 := by decide) : OpTo opIn (f a) (eL f l) (.bl (decide (a ∈ l))) := fun k q => by
  refine ⟨Eqd.ok (by omega) a, Eqd.ok (f := eL f) hn l, ?_⟩
  rw [findIn_eq]; simpa using q
theorem op_inV [hf : Eqd f n] {a : α} {l : List α} (hn : n + 1 ≤ 64 := by decide) : OpTo opIn (f a) (eV f l) (.bl (decide (a ∈ l))) := fun k q => by
  refine ⟨Eqd.ok (by omega) a, Eqd.ok (f := eV f) hn l, ?_⟩
  rw [findIn_eq]; simpa using q
theorem op_ninL [hf : Eqd f n] {a : α} {l : List α} (hn : n + 1 ≤ 64 := by decide) : OpTo opNotIn (f a) (eL f l) (.bl (!decide (a ∈ l))) := fun k q => by
  refine ⟨Eqd.ok (by omega) a, Eqd.ok (f := eL f) hn l, ?_⟩
  rw [findIn_eq]; simpa using q
theorem op_ninV [hf : Eqd f n] {a : α} {l : List α} (hn : n + 1 ≤ 64 := by decide) : OpTo opNotIn (f a) (eV f l) (.bl (!decide (a ∈ l))) := fun k q => by
  refine ⟨Eqd.ok (by omega) a, Eqd.ok (f := eV f) hn l, ?_⟩
  rw [findIn_eq]; simpa using q
end
def hasA [DecidableEq κ] (l : List (κ × α)) (k : κ) : Bool := l.any fun p => decide (p.1 = k)
def getA [DecidableEq κ] (l : List (κ × α)) (k : κ) : Option α := (l.find? fun p => decide (p.1 = k)).map (·.2)
def putA [DecidableEq κ] (k : κ) (v : α) : List (κ × α) → List (κ × α)
  | [] => [(k, v)]
  | p :: r => if p.1 = k then (p.1, v) :: r else p :: putA k v r
/-- f tells tuples that may be keys: kf the keys -/
class Kt (f : κ → D) (kf : outParam (κ → List Key)) : Prop where
  key : ∀ c, ∃ ds, f c = .tup ds ∧ dKeys ds = some (kf c)
  inj : ∀ c d, kf c = kf d → c = d
class Kk (f : κ → D) (kf : outParam (κ → Key)) : Prop where
  key : ∀ c, dKey (f c) = some (kf c)
  inj : ∀ c d, kf c = kf d → c = d
instance : Kk D.int Sum.inl := ⟨fun _ => rfl, fun _ _ h => Sum.inl.inj h⟩
instance : Kk D.str Sum.inr := ⟨fun _ => rfl, fun _ _ h => Sum.inr.inj h⟩
def kf2 (k : α → Key) (l : β → Key) (p : α × β) : List Key := [k p.1, l p.2]
def kf3 (k : α → Key) (l : β → Key) (m : γ → Key) (p : α × β × γ) : List Key := [k p.1, l p.2.1, m p.2.2]
def kf4 (k : α → Key) (l : β → Key) (m : γ → Key) (o : δ → Key) (p : α × β × γ × δ) : List Key := [k p.1, l p.2.1, m p.2.2.1, o p.2.2.2]
instance {f : α → D} {g : β → D} {k : α → Key} {l : β → Key} [hf : Kk f k] [hg : Kk g l] : Kt (eT2 f g) (kf2 k l) := ⟨fun c => ⟨_, rfl, by simp [dKeys, hf.key, hg.key, kf2]⟩, fun c d h => by
  simp only [kf2, List.cons.injEq, and_true] at h
  exact Prod.ext (hf.inj _ _ h.1) (hg.inj _ _ h.2)⟩
instance {f : α → D} {g : β → D} {h : γ → D} {k : α → Key} {l : β → Key} {m : γ → Key} [hf : Kk f k] [hg : Kk g l] [hh : Kk h m] : Kt (eT3 f g h) (kf3 k l m) := ⟨fun c => ⟨_, rfl, by simp [dKeys, hf.key, hg.key, hh.key, kf3]⟩, fun c d h => by
  simp only [kf3, List.cons.injEq, and_true] at h
  exact Prod.ext (hf.inj _ _ h.1) (Prod.ext (hg.inj _ _ h.2.1) (hh.inj _ _ h.2.2))⟩
instance {f : α → D} {g : β → D} {h : γ → D} {i : δ → D} {k : α → Key} {l : β → Key} {m : γ → Key} {o : δ → Key} [hf : Kk f k] [hg : Kk g l] [hh : Kk h m] [hi : Kk i o] : Kt (eT4 f g h i) (kf4 k l m o) := ⟨fun c => ⟨_, rfl, by simp [dKeys, hf.key, hg.key, hh.key, hi.key, kf4]⟩, fun c d h => by
  simp only [kf4, List.cons.injEq, and_true] at h
  exact Prod.ext (hf.inj _ _ h.1) (Prod.ext (hg.inj _ _ h.2.1) (Prod.ext (hh.inj _ _ h.2.2.1) (hi.inj _ _ h.2.2.2)))⟩
section
variable [DecidableEq κ] {c : κ → D} {kf : κ → List Key} [hk : Kt c kf] {f : α → D} {l : List (κ × α)} {k : κ} {v : α}
include hk in
theorem kinj {a b : κ} : kf a = kf b ↔ a = b := ⟨hk.inj a b, fun h => h ▸ rfl⟩
include hk in
theorem hasT_eq : hasT (l.map fun p => (kf p.1, f p.2)) (kf k) = hasA l k := by
  unfold hasT hasA
  rw [List.any_map]
  congr 1
  funext p
  simp only [Function.comp, kinj (c := c)]
include hk in
theorem lookT_eq : lookT (l.map fun p => (kf p.1, f p.2)) (kf k) = (getA l k).map f := by
  unfold lookT getA
  induction l with
  | nil => rfl
  | cons p l ih =>
    rw [List.map_cons, List.find?_cons, List.find?_cons]
    by_cases h : p.1 = k
    · simp [h]
    · have : ¬ kf p.1 = kf k := fun z => h (hk.inj _ _ z)
      simp only [h, this, decide_false]
      exact ih
include hk in
theorem putD_eq : putD (kf k) (f v) (l.map fun p => (kf p.1, f p.2)) = (putA k v l).map fun p => (kf p.1, f p.2) := by
  induction l with
  | nil => rfl
  | cons p l ih =>
    rw [List.map_cons, putD, putA]
    by_cases h : p.1 = k
    · simp [h]
    · have : ¬ kf p.1 = kf k := fun z => h (hk.inj _ _ z)
      rw [if_neg this, if_neg h, ih]; rfl
theorem op_inT : OpTo opIn (c k) (eDT kf f l) (.bl (hasA l k)) := fun kk q => by
  obtain ⟨ds, h1, h2⟩ := hk.key k
  rw [h1]
  unfold eDT opIn opInB
  simp only [h2, hasT_eq (c := c)]
  simpa using q
theorem op_ninT : OpTo opNotIn (c k) (eDT kf f l) (.bl (!hasA l k)) := fun kk q => by
  obtain ⟨ds, h1, h2⟩ := hk.key k
  rw [h1]
  unfold eDT opNotIn opInB
  simp only [h2, hasT_eq (c := c)]
  simpa using q
end
section
variable [DecidableEq κ] {c : κ → D} {kf : κ → Key} [hk : Kk c kf] {f : α → D} {l : List (κ × α)} {k : κ} {v : α}
include hk in
theorem hasK_eq : hasK (l.map fun p => (kf p.1, f p.2)) (kf k) = hasA l k := by
  unfold hasK hasA
  rw [List.any_map]
  congr 1
  funext p
  have : kf p.1 = kf k ↔ p.1 = k := ⟨hk.inj _ _, fun h => h ▸ rfl⟩
  simp only [Function.comp, this]
include hk in
theorem lookK_eq : lookK (l.map fun p => (kf p.1, f p.2)) (kf k) = (getA l k).map f := by
  unfold lookK getA
  induction l with
  | nil => rfl
  | cons p l ih =>
    rw [List.map_cons, List.find?_cons, List.find?_cons]
    by_cases h : p.1 = k
    · simp [h]
    · have : ¬ kf p.1 = kf k := fun z => h (hk.inj _ _ z)
      simp only [h, this, decide_false]
      exact ih
theorem op_inK : OpTo opIn (c k) (eDK kf f l) (.bl (hasA l k)) := fun kk q => by
  unfold eDK opIn opInB
  simp only [hk.key, hasK_eq (c := c)]
  simpa using q
theorem op_ninK : OpTo opNotIn (c k) (eDK kf f l) (.bl (!hasA l k)) := fun kk q => by
  unfold eDK opNotIn opInB
  simp only [hk.key, hasK_eq (c := c)]
  simpa using q
end
/-- x is None -/
theorem isNon_big {d : D} (h : BX.isNon d = false) {k : D → Prop} (q : k (.bl false)) : opIs d .non k := by
  unfold opIs; simp only [h]; exact q
class Nn (f : α → D) : Prop where
  nn : ∀ a, BX.isNon (f a) = false
instance : Nn D.int := ⟨fun _ => rfl⟩
instance : Nn D.bl := ⟨fun _ => rfl⟩
instance : Nn D.str := ⟨fun _ => rfl⟩
instance {f : α → D} {g : β → D} : Nn (eT2 f g) := ⟨fun _ => rfl⟩
instance {f : α → D} {g : β → D} {h : γ → D} : Nn (eT3 f g h) := ⟨fun _ => rfl⟩
instance {f : α → D} {g : β → D} {h : γ → D} {i : δ → D} : Nn (eT4 f g h i) := ⟨fun _ => rfl⟩
instance {f : α → D} : Nn (eV f) := ⟨fun _ => rfl⟩
instance {f : α → D} : Nn (eL f) := ⟨fun _ => rfl⟩
theorem op_isO {f : α → D} [hf : Nn f] {a : Option α} : OpTo opIs (eO f a) .non (.bl a.isNone) := fun k q => by
  cases a with
  | none => exact q
  | some a => exact isNon_big (hf.nn a) q
theorem op_isNotO {f : α → D} [hf : Nn f] {a : Option α} : OpTo opIsNot (eO f a) .non (.bl a.isSome) := fun k q => by
  cases a with
  | none => exact q
  | some a =>
    unfold opIsNot eO
    simp only [hf.nn a]
    exact q
end
end TX

namespace TX
open PySem PySem.Spec PyProof.Rows L2 BX
section
variable {e e1 e' : En} {L : Nat} {r r1 r2 r' : R} {d d1 d2 d3 : D} {Q : R → En → Prop} {QB : Bool → En → Prop} {QA : List R → En → Prop} {i j : Nat} {α β γ κ : Type}
def TruTo (d : D) (b : Bool) : Prop := ∀ k : Bool → Prop, k b → tru d k
theorem tr_b {b : Bool} : TruTo (.bl b) b := fun k q => q
theorem tr_i {a : Int} : TruTo (.int a) (a != 0) := fun k q => q
theorem tr_n : TruTo .non false := fun k q => q
theorem tr_l {f : α → D} {l : List α} : TruTo (eL f l) (!l.isEmpty) := fun k q => by unfold eL tru; simpa using q
theorem tr_v {f : α → D} {l : List α} : TruTo (eV f l) (!l.isEmpty) := fun k q => by unfold eV tru; simpa using q
theorem c_val {t : XE} (q : t e fun r e => rd 2 r e fun d => tru d fun b => aB QB b e) : xVal t e QB := q
theorem o_val {b : Bool} (h : Rv e 2 r d) (ht : TruTo d b) (q : aB QB b e) : rd 2 r e fun d => tru d fun b => aB QB b e := h.rd (ht (fun b => aB QB b e) q)
theorem c_notT {t : XT} (q : t e fun b e => aB QB (!b) e) : xNot t e QB := q
theorem c_andT {t u : XT} (b1 b2 : Bool) (h1 : ∀ Q : Bool → En → Prop, aB Q b1 e → t e Q) (h2 : b1 = true → ∀ Q : Bool → En → Prop, aB Q b2 e → u e Q) (q : aB QB (b1 && b2) e) : xAnd t u e QB := by
  refine h1 _ ⟨fun h => h2 h _ ?_, fun h => ?_⟩
  · rw [h, Bool.true_and] at q; exact q
  · rw [h, Bool.false_and] at q; exact q
theorem c_orT {t u : XT} (b1 b2 : Bool) (h1 : ∀ Q : Bool → En → Prop, aB Q b1 e → t e Q) (h2 : b1 = false → ∀ Q : Bool → En → Prop, aB Q b2 e → u e Q) (q : aB QB (b1 || b2) e) : xOr t u e QB := by
  refine h1 _ ⟨fun h => ?_, fun h => h2 h _ ?_⟩
  · rw [h, Bool.true_or] at q; exact q
  · rw [h, Bool.false_or] at q; exact q
theorem c_andV {t u : XE} (b1 b2 : Bool) (h1 : ∀ Q : R → En → Prop, aR Q (.tmp (.bl b1)) e → t e Q) (h2 : b1 = true → ∀ Q : R → En → Prop, aR Q (.tmp (.bl b2)) e → u e Q) (q : aR Q (.tmp (.bl (b1 && b2))) e) : dAnd t u e Q := by
  refine h1 _ ⟨fun h => h2 h _ ?_, fun h => ?_⟩
  · rw [h, Bool.true_and] at q; exact q
  · rw [h, Bool.false_and] at q; rw [h]; exact q
theorem c_orV {t u : XE} (b1 b2 : Bool) (h1 : ∀ Q : R → En → Prop, aR Q (.tmp (.bl b1)) e → t e Q) (h2 : b1 = false → ∀ Q : R → En → Prop, aR Q (.tmp (.bl b2)) e → u e Q) (q : aR Q (.tmp (.bl (b1 || b2))) e) : dOr t u e Q := by
  refine h1 _ ⟨fun h => ?_, fun h => h2 h _ ?_⟩
  · rw [h, Bool.true_or] at q; rw [h]; exact q
  · rw [h, Bool.false_or] at q; exact q
/-- unfoldings where a part does things -/
theorem c_andTi {t u : XT} (q : t e fun b e => (b = true → u e QB) ∧ (b = false → aB QB false e)) : xAnd t u e QB := q
theorem c_orTi {t u : XT} (q : t e fun b e => (b = true → aB QB true e) ∧ (b = false → u e QB)) : xOr t u e QB := q
theorem c_andVi {t u : XE} (q : t e fun r e => rd 2 r e fun d => tru d fun b => (b = true → u e Q) ∧ (b = false → aR Q r e)) : dAnd t u e Q := q
theorem c_orVi {t u : XE} (q : t e fun r e => rd 2 r e fun d => tru d fun b => (b = true → aR Q r e) ∧ (b = false → u e Q)) : dOr t u e Q := q
theorem o_valB {b : Bool} {k : Bool → Prop} (h : Rv e 2 r (.bl b)) (q : k b) : rd 2 r e fun d => tru d k := h.rd q
theorem c_notV {t : XE} (q : t e fun r e => rd 2 r e fun d => tru d fun b => aR Q (.tmp (.bl (!b))) e) : dNotV t e Q := q
theorem o_notV {b : Bool} (h : Rv e 2 r d) (ht : TruTo d b) (q : aR Q (.tmp (.bl (!b))) e) : rd 2 r e fun d => tru d fun b => aR Q (.tmp (.bl (!b))) e := h.rd (ht (fun b => aR Q (.tmp (.bl (!b))) e) q)
theorem c_neg {t : XE} (q : t e fun r e => rd 2 r e fun d => intD d fun z => aR Q (.tmp (.int (-z))) e) : dNeg t e Q := q
theorem o_neg {a : Int} (h : Rv e 2 r (.int a)) (q : aR Q (.tmp (.int (-a))) e) : rd 2 r e fun d => intD d fun z => aR Q (.tmp (.int (-z))) e := h.rd q
/-- b if c else d, both new -/
theorem c_ifV {c : XT} {t u : XE} {f : α → D} (b : Bool) (v1 v2 : α) (hc : ∀ Q : Bool → En → Prop, aB Q b e → c e Q) (h1 : b = true → ∀ Q : R → En → Prop, aR Q (.tmp (f v1)) e → t e Q) (h2 : b = false → ∀ Q : R → En → Prop, aR Q (.tmp (f v2)) e → u e Q) (q : aR Q (.tmp (f (if b then v1 else v2))) e) : dIf c t u e Q := by
  refine hc _ ⟨fun h => h1 h _ ?_, fun h => h2 h _ ?_⟩
  · rw [h] at q; exact q
  · rw [h] at q; exact q
/-- the same, each as it reads -/
theorem c_ifU {c : XT} {t u : XE} {f : α → D} (b : Bool) (v1 v2 : α) (hc : ∀ Q : Bool → En → Prop, aB Q b e → c e Q) (h1 : b = true → ∀ Q : R → En → Prop, (∀ r, Rv e L r (f v1) → aR Q r e) → t e Q) (h2 : b = false → ∀ Q : R → En → Prop, (∀ r, Rv e L r (f v2) → aR Q r e) → u e Q) (q : ∀ r, Rv e L r (f (if b then v1 else v2)) → aR Q r e) : dIf c t u e Q := by
  refine hc _ ⟨fun h => h1 h _ ?_, fun h => h2 h _ ?_⟩
  · rw [h] at q; exact q
  · rw [h] at q; exact q
theorem c_ifi {c : XT} {t u : XE} (q : c e fun b e => (b = true → t e Q) ∧ (b = false → u e Q)) : dIf c t u e Q := q
theorem c_chn {op op' : OP} {L' : Nat} {t u v : XE} (q : t e fun r1 e1 => u e1 fun r2 e2 => rd L r1 e2 fun d1 => rd L r2 e2 fun d2 => op d1 d2 fun d => blD d fun b =>
  (b = true → v e2 fun r3 e3 => rd L' r2 e3 fun d2 => rd L' r3 e3 fun d3 => op' d2 d3 fun d => aR Q (.tmp d) e3) ∧ (b = false → aR Q (.tmp (.bl false)) e2)) : dChn L op L' op' t u v e Q := q
theorem o_chn {op op' : OP} {L' : Nat} {v : XE} (b1 b2 : Bool) (h1 : Rv e L r1 d1) (h2 : Rv e L r2 d2) (h2' : Rv e L' r2 d2) (ho : OpTo op d1 d2 (.bl b1)) (hv : b1 = true → ∀ Q : R → En → Prop, (∀ r, Rv e L' r d3 → aR Q r e) → v e Q) (ho' : b1 = true → OpTo op' d2 d3 (.bl b2)) (q : aR Q (.tmp (.bl (b1 && b2))) e) :
    rd L r1 e fun d1 => rd L r2 e fun d2 => op d1 d2 fun d => blD d fun b => (b = true → v e fun r3 e3 => rd L' r2 e3 fun d2 => rd L' r3 e3 fun d3 => op' d2 d3 fun d => aR Q (.tmp d) e3) ∧ (b = false → aR Q (.tmp (.bl false)) e) := by
  refine h1.rd (h2.rd (ho (fun d => blD d fun b => (b = true → v e fun r3 e3 => rd L' r2 e3 fun d2 => rd L' r3 e3 fun d3 => op' d2 d3 fun d => aR Q (.tmp d) e3) ∧ (b = false → aR Q (.tmp (.bl false)) e)) ⟨fun h => ?_, fun h => ?_⟩))
  · refine hv h _ fun r3 h3 => h2'.rd (h3.rd (ho' h (fun d => aR Q (.tmp d) e) ?_))
    rw [h, Bool.true_and] at q; exact q
  · rw [h, Bool.false_and] at q; exact q
theorem c_isi {T : String} {t : XE} (q : t e fun r e => rd 2 r e fun d => aR Q (.tmp (.bl (isiB T d))) e) : xIsi T t e Q := q
theorem o_isi {T : String} (h : Rv e 2 r d) (q : aR Q (.tmp (.bl (isiB T d))) e) : rd 2 r e fun d => aR Q (.tmp (.bl (isiB T d))) e := h.rd q
theorem c_isi2 {T U : String} {t : XE} (q : t e fun r e => rd 2 r e fun d => aR Q (.tmp (.bl (isiB T d || isiB U d))) e) : xIsi2 T U t e Q := q
theorem o_isi2 {T U : String} (h : Rv e 2 r d) (q : aR Q (.tmp (.bl (isiB T d || isiB U d))) e) : rd 2 r e fun d => aR Q (.tmp (.bl (isiB T d || isiB U d))) e := h.rd q
theorem c_aNil (q : aL QA [] e) : aNil e QA := q
theorem c_aCons {t : XE} {u : XA} (q : t e fun r e => u e fun rs e2 => aL QA (r :: rs) e2) : aCons t u e QA := q
theorem c_tup {u : XA} (q : u e fun rs e => rs.length ≤ 1000 ∧ storL rs e fun ds => aR Q (.tmp (.tup ds)) e) : dTup u e Q := q
theorem c_lst {u : XA} (q : u e fun rs e => rs.length ≤ 1000 ∧ storL rs e fun ds => aR Q (.tmp (.lst ds)) e) : dLst u e Q := q
theorem o_tup {rs : List R} {ds : List D} (h : StL e rs ds) (q : aR Q (.tmp (.tup ds)) e) (hl : rs.length ≤ 1000 := by simp) : rs.length ≤ 1000 ∧ storL rs e fun ds => aR Q (.tmp (.tup ds)) e := ⟨hl, h.go (k := fun ds => aR Q (.tmp (.tup ds)) e) q⟩
theorem o_lst {rs : List R} {ds : List D} (h : StL e rs ds) (q : aR Q (.tmp (.lst ds)) e) (hl : rs.length ≤ 1000 := by simp) : rs.length ≤ 1000 ∧ storL rs e fun ds => aR Q (.tmp (.lst ds)) e := ⟨hl, h.go (k := fun ds => aR Q (.tmp (.lst ds)) e) q⟩
def IxTo (d1 d2 d : D) : Prop := ∀ k : D → Prop, k d → ixd d1 d2 k
inductive ElTo : R → D → R → Prop
  | tmp {x d : D} : ElTo (.tmp x) d (.tmp d)
  | ro {c : Bool} {x d : D} {r : R} : mkRo c d = r → ElTo (.ro c x) d r
  | sl {i : Nat} {d : D} : d.imm = true → ElTo (.sl i) d (.tmp d)
theorem ElTo.go (h : ElTo r d r') {k : R → Prop} (q : k r') : elem r d k := by
  cases h with
  | tmp => exact q
  | ro h => subst h; exact q
  | sl h => exact ⟨h, q⟩
theorem c_idx {t u : XE} (q : t e fun r1 e1 => u e1 fun r2 e2 => rd 2 r1 e2 fun d1 => rd 1 r2 e2 fun d2 => ixd d1 d2 fun d => elem r1 d fun r => aR Q r e2) : dIdx t u e Q := q
theorem o_idx (h1 : Rv e 2 r1 d1) (h2 : Rv e 1 r2 d2) (hi : IxTo d1 d2 d) (hel : ElTo r1 d r') (q : aR Q r' e) : rd 2 r1 e fun d1 => rd 1 r2 e fun d2 => ixd d1 d2 fun d => elem r1 d fun r => aR Q r e :=
  h1.rd (h2.rd (hi (fun d => elem r1 d fun r => aR Q r e) (hel.go (k := fun r => aR Q r e) q)))
theorem ix_T {ds : List D} {i : Int} (h : atI ds i = some d) : IxTo (.tup ds) (.int i) d := fun k q => by unfold ixd; simp only [h]; exact q
theorem atI_map {α : Type} {f : α → D} {l : List α} {i : Int} {a : α} (h : atI l i = some a) : atI (l.map f) i = some (f a) := by
  unfold atI at h ⊢
  rw [List.length_map]
  cases e : ixN l.length i with
  | none => rw [e] at h; cases h
  | some j =>
    rw [e] at h
    simp only [Option.bind_some] at h ⊢
    rw [List.getElem?_map, h]; rfl
theorem ix_L {f : α → D} {l : List α} {i : Int} {a : α} (h : atI l i = some a) : IxTo (eL f l) (.int i) (f a) := fun k q => by unfold eL ixd; simp only [atI_map h]; exact q
theorem ix_V {f : α → D} {l : List α} {i : Int} {a : α} (h : atI l i = some a) : IxTo (eV f l) (.int i) (f a) := fun k q => by unfold eV ixd; simp only [atI_map h]; exact q
theorem ix_DT [DecidableEq κ] {c : κ → D} {kf : κ → List Key} [hk : Kt c kf] {f : α → D} {l : List (κ × α)} {k : κ} {a : α} (h : getA l k = some a) : IxTo (eDT kf f l) (c k) (f a) := fun kk q => by
  obtain ⟨ds, h1, h2⟩ := hk.key k
  rw [h1]
  unfold eDT ixd
  simp only [h2, lookT_eq (c := c), h, Option.map_some]
  exact q
theorem ix_DK [DecidableEq κ] {c : κ → D} {kf : κ → Key} [hk : Kk c kf] {f : α → D} {l : List (κ × α)} {k : κ} {a : α} (h : getA l k = some a) : IxTo (eDK kf f l) (c k) (f a) := fun kk q => by
  unfold eDK ixd
  simp only [hk.key, lookK_eq (c := c), h, Option.map_some]
  exact q
def mkS {α κ : Type} (ms : List Md) (ia : α → List D) (w : α → (κ → Prop) → Prop) (fo : κ → D) (od : α → κ → List D) : FS := ⟨ms, fun ds Q => ∃ a k, ds = ia a ∧ w a k ∧ ∀ r, k r → Q (fo r) (od a r)⟩
theorem mkS_mono {α κ : Type} {ms : List Md} {ia : α → List D} {w : α → (κ → Prop) → Prop} {fo : κ → D} {od : α → κ → List D} : MonoF (mkS ms ia w fo od) := fun ds Q Q' h ⟨a, k, e, w, q⟩ => ⟨a, k, e, w, fun r hr => h _ _ (q r hr)⟩
theorem c_fn {S : FS} {u : XA} (q : u e fun rs e => okArgs S.ms rs e = true ∧ apart S.ms rs = true ∧ rdAll 2 rs e fun ds => S.wp ds fun d ds' => aR Q (.tmp d) (putB S.ms rs ds' 0 e)) : dFn S u e Q := q
theorem x_call {α κ : Type} {ms : List Md} {ia : α → List D} {w : α → (κ → Prop) → Prop} {fo : κ → D} {od : α → κ → List D} {rs : List R} (a : α) (fe : κ → En) {k : κ → Prop} (h : w a k) (hr : RvL e 2 rs (ia a)) (h1 : okArgs ms rs e = true) (h2 : apart ms rs = true)
    (he : ∀ r, putB ms rs (od a r) 0 e = fe r) (q : ∀ r, k r → aR Q (.tmp (fo r)) (fe r)) :
    okArgs (mkS ms ia w fo od).ms rs e = true ∧ apart (mkS ms ia w fo od).ms rs = true ∧ rdAll 2 rs e fun ds => (mkS ms ia w fo od).wp ds fun d ds' => aR Q (.tmp d) (putB (mkS ms ia w fo od).ms rs ds' 0 e) :=
  ⟨h1, h2, hr.go (k := fun ds => (mkS ms ia w fo od).wp ds fun d ds' => aR Q (.tmp d) (putB (mkS ms ia w fo od).ms rs ds' 0 e)) ⟨a, k, rfl, h, fun r hk => by
    show aR Q _ (putB ms rs (od a r) 0 e)
    rw [he]; exact q r hk⟩⟩
theorem ok_nil : okArgs [] [] e = true := rfl
theorem ok_cons {m : Md} {ms : List Md} {rs : List R} (h : okArg m r e = true) (t : okArgs ms rs e = true) : okArgs (m :: ms) (r :: rs) e = true := by rw [okArgs, h, t]; rfl
theorem ok_cst : okArg .cst r e = true := rfl
theorem ok_ro (h : Rv e 1 r d) : okArg .ro r e = true := by cases h <;> rfl
theorem apart_rd {ms : List Md} {rs : List R} (h : ms.all Md.rd = true) : apart ms rs = true := by
  unfold apart
  rw [List.all_eq_true]
  intro p _
  rw [List.all_eq_true]
  intro q _
  rw [Bool.or_eq_true]
  refine .inr ?_
  split
  · rename_i m i j h1 h2 h3
    have := List.all_eq_true.mp h _ (List.mem_of_getElem? h1)
    rw [this]; rfl
  · rfl
def OpN (op : OPn) (ds : List D) (d : D) : Prop := ∀ k : D → Prop, k d → op ds k
theorem c_call {op : OPn} {u : XA} (q : u e fun rs e => rdAll L rs e fun ds => op ds fun d => aR Q (.tmp d) e) : dCall L op u e Q := q
theorem o_call {op : OPn} {rs : List R} {ds : List D} (h : RvL e L rs ds) (ho : OpN op ds d) (q : aR Q (.tmp d) e) : rdAll L rs e fun ds => op ds fun d => aR Q (.tmp d) e := h.go (k := fun ds => op ds fun d => aR Q (.tmp d) e) (ho (fun d => aR Q (.tmp d) e) q)
def absI (i : Int) : Int := if i < 0 then -i else i
def intB (b : Bool) : Int := if b then 1 else 0
section
variable {f : α → D} {l : List α} {a b : Int} {κf : κ → List Key} {κg : κ → Key} {m : List (κ × α)}
theorem n_lenL : OpN (op1 bLen) [eL f l] (.int l.length) := fun k q => by unfold op1 bLen eL; simpa using q
theorem n_lenV : OpN (op1 bLen) [eV f l] (.int l.length) := fun k q => by unfold op1 bLen eV; simpa using q
theorem n_lenDT : OpN (op1 bLen) [eDT κf f m] (.int m.length) := fun k q => by unfold op1 bLen eDT; simpa using q
theorem n_lenDK : OpN (op1 bLen) [eDK κg f m] (.int m.length) := fun k q => by unfold op1 bLen eDK; simpa using q
theorem n_abs : OpN (op1 bAbs) [.int a] (.int (absI a)) := fun k q => q
theorem n_intI : OpN (op1 bInt) [.int a] (.int a) := fun k q => q
theorem n_intB {b : Bool} : OpN (op1 bInt) [.bl b] (.int (intB b)) := fun k q => q
theorem n_min2 : OpN (op2 bMin2) [.int a, .int b] (.int (min a b)) := fun k q => by
  show k (.int (if b < a then b else a))
  have : (if b < a then b else a) = min a b := by split <;> omega
  rw [this]; exact q
theorem n_max2 : OpN (op2 bMax2) [.int a, .int b] (.int (max a b)) := fun k q => by
  show k (.int (if b > a then b else a))
  have : (if b > a then b else a) = max a b := by split <;> omega
  rw [this]; exact q
theorem n_tupL [Im f] : OpN (op1 bTuple) [eL f l] (eV f l) := fun k q => ⟨imL l, q⟩
theorem n_tupV [Im f] : OpN (op1 bTuple) [eV f l] (eV f l) := fun k q => ⟨imL l, q⟩
theorem n_listL [Im f] : OpN (op1 bList) [eL f l] (eL f l) := fun k q => ⟨imL l, q⟩
theorem n_listV [Im f] : OpN (op1 bList) [eV f l] (eL f l) := fun k q => ⟨imL l, q⟩
theorem bools_bl : ∀ l : List Bool, bools (l.map .bl) = some l
  | [] => rfl
  | b :: l => by rw [List.map_cons, bools, bools_bl l]; rfl
theorem n_all {l : List Bool} : OpN (op1 bAll) [eL .bl l] (.bl (l.all id)) := fun k q => by unfold op1 bAll eL; simp only [bools_bl]; exact q
theorem n_any {l : List Bool} : OpN (op1 bAny) [eL .bl l] (.bl (l.any id)) := fun k q => by unfold op1 bAny eL; simp only [bools_bl]; exact q
theorem n_sum {l : List Int} : OpN (op1 bSum) [eL .int l] (.int l.sum) := fun k q => by unfold op1 bSum eL; simp only [intL_ints]; exact q
/-- rising, by the ints -/
def srt (tl : α → List Int) (l : List α) : List α := l.mergeSort fun a b => !HT.lexLt (tl b) (tl a)
theorem intTs_map {tl : α → List Int} [h : Ints f tl] : ∀ l : List α, intTs (l.map f) = some (l.map tl)
  | [] => rfl
  | a :: l => by
    rw [List.map_cons, h.isx, intTs, intL_ints, intTs_map l]
    have := h.ne a
    cases e : tl a with
    | nil => exact absurd e this
    | cons x xs => simp [e]
theorem sort_map {tl : α → List Int} [h : Ints f tl] (l : List α) : (sortI (l.map tl)).map tupI = (srt tl l).map f := by
  unfold sortI srt
  rw [← List.map_mergeSort (r := fun a b => !HT.lexLt (tl b) (tl a)) (s := fun a b => !HT.lexLt b a) (f := tl) (fun a _ b _ => rfl), List.map_map]
  exact List.map_congr_left fun a _ => (h.isx a).symm
theorem n_sortL {tl : α → List Int} [h : Ints f tl] : OpN (op1 bSorted) [eL f l] (eL f (srt tl l)) := fun k q => by
  unfold op1 bSorted eL
  simp only [intTs_map, sort_map (f := f)]
  exact q
theorem n_sortV {tl : α → List Int} [h : Ints f tl] : OpN (op1 bSorted) [eV f l] (eL f (srt tl l)) := fun k q => by
  unfold op1 bSorted eV
  simp only [intTs_map, sort_map (f := f)]
  exact q
class Ki (kf : κ → List Key) (tl : outParam (κ → List Int)) : Prop where
  ki : ∀ c, keyI (kf c) = some (tl c)
instance : Ki (kf2 (Sum.inl (α := Int)) Sum.inl) tl2 := ⟨fun _ => rfl⟩
instance : Ki (kf3 (Sum.inl (α := Int)) Sum.inl Sum.inl) tl3 := ⟨fun _ => rfl⟩
instance : Ki (kf4 (Sum.inl (α := Int)) Sum.inl Sum.inl Sum.inl) tl4 := ⟨fun _ => rfl⟩
theorem keyTs_map {c : κ → D} {kf : κ → List Key} {tl : κ → List Int} {f : α → D} [h : Ki kf tl] [hc : Ints c tl] : ∀ l : List (κ × α), keyTs (l.map fun p => (kf p.1, f p.2)) = some (l.map fun p => tl p.1)
  | [] => rfl
  | p :: l => by
    rw [List.map_cons, keyTs, keyTs_map (c := c) l]
    simp only [h.ki]
    have := hc.ne p.1
    cases e : tl p.1 with
    | nil => exact absurd e this
    | cons x xs => simp [e]
theorem n_sortDT {c : κ → D} {kf : κ → List Key} {tl : κ → List Int} {m : List (κ × α)} [h : Ki kf tl] [hc : Ints c tl] : OpN (op1 bSorted) [eDT kf f m] (eL c (srt tl (m.map (·.1)))) := fun k q => by
  unfold op1 bSorted eDT
  have e : (m.map fun p => tl p.1) = (m.map (·.1)).map tl := by rw [List.map_map]; rfl
  simp only [keyTs_map (c := c), e, sort_map (f := c)]
  exact q
def putAs [DecidableEq κ] (m : List (κ × α)) (l : List (κ × α)) : List (κ × α) := l.foldl (fun a x => putA x.1 x.2 a) m
theorem putDs_map [DecidableEq κ] {c : κ → D} {kf : κ → List Key} [hk : Kt c kf] : ∀ (l m : List (κ × α)), putDs (m.map fun p => (kf p.1, f p.2)) (l.map fun p => (kf p.1, f p.2)) = (putAs m l).map fun p => (kf p.1, f p.2)
  | [], m => rfl
  | p :: l, m => by
    have := putDs_map (c := c) l (putA p.1 p.2 m)
    rw [← putD_eq (c := c)] at this
    exact this
theorem pairT_map [DecidableEq κ] {c : κ → D} {kf : κ → List Key} [hk : Kt c kf] [hf : Im f] : ∀ l : List (κ × α), pairT (l.map (eT2 c f)) = some (l.map fun p => (kf p.1, f p.2))
  | [] => rfl
  | p :: l => by
    rw [List.map_cons, pairT, pairT_map (c := c) l]
    have : BX.pairD (eT2 c f p) = some (kf p.1, f p.2) := by
      obtain ⟨ds, h1, h2⟩ := hk.key p.1
      unfold eT2
      rw [h1]
      unfold BX.pairD
      simp only [h2, hf.im]
    rw [this]; rfl
theorem n_dict [DecidableEq κ] {c : κ → D} {kf : κ → List Key} [hk : Kt c kf] [hf : Im f] {l : List (κ × α)} : OpN (op1 bDict) [eL (eT2 c f) l] (eDT kf f (putAs [] l)) := fun k q => by
  unfold op1 bDict eL
  simp only [pairT_map (c := c) (f := f)]
  have := putDs_map (c := c) (f := f) (kf := kf) l []
  rw [List.map_nil] at this
  rw [this]; exact q
end
end
end TX

namespace TX
open PySem PySem.Spec PyProof.Rows L2 BX
section
variable {e e1 e' : En} {L : Nat} {r r1 r2 r' : R} {d d1 d2 d3 : D} {Q : R → En → Prop} {nx : En → Prop} {rt : D → En → Prop} {i j : Nat} {α β γ κ σ : Type} {kE : En → Prop}
/-- a value by a name -/
def lt {α : Type} (v : α) (k : α → Prop) : Prop := k v
def forW {α σ : Type} : List α → σ → (α → σ → (σ → Prop) → Prop) → (σ → Prop) → Prop
  | [], s, _, k => k s
  | a :: as, s, body, k => body a s fun s' => forW as s' body k
def whW {σ : Type} (s0 : σ) (step : σ → (σ → Prop) → Prop) : Prop := ∃ I : Nat → σ → Prop, (∃ m, I m s0) ∧ ∀ m s, I m s → step s fun s' => ∃ m', m' < m ∧ I m' s'
def lcW {α β σ : Type} : List α → List β → σ → (α → σ → (Option β → σ → Prop) → Prop) → (List β → σ → Prop) → Prop
  | [], acc, s, _, k => k acc s
  | a :: as, acc, s, body, k => body a s fun o s' => lcW as (acc ++ o.toList) s' body k
def ifW {σ : Type} (b : Bool) (A B : (σ → Prop) → Prop) (k : σ → Prop) : Prop := (b = true → A k) ∧ (b = false → B k)
def ifP (b : Bool) (A B : Prop) : Prop := (b = true → A) ∧ (b = false → B)
/-- one there: its value -/
def exW {α : Type} (o : Option α) (k : α → Prop) : Prop := ∃ a, o = some a ∧ k a

theorem s_seq {t u : XS} (q : t e (fun e => u e nx rt) rt) : sSeq t u e nx rt := q
theorem s_nil (q : aN nx e) : sNil e nx rt := q
theorem s_expr {t : XE} (q : t e fun _ e => aN nx e) : sExpr t e nx rt := q
theorem s_asg {t : XE} {g : XG} (q : t e fun r e => g r e nx) : sAsg t g e nx rt := q
theorem s_ret {t : XE} (q : t e fun r e => retR r e fun d => aD rt d e) : sRet t e nx rt := q
theorem s_retN (q : aD rt .non e) : sRetN e nx rt := q
theorem o_ret (q : aD rt d e) : retR (.tmp d) e fun d => aD rt d e := q
theorem o_retSl {m : Md} (h : e[i]? = some (some (d, .own))) (q : aD rt d e) : retR (.sl i) e fun d => aD rt d e := by
  unfold retR; simp only [h]; exact ⟨trivial, q⟩
theorem o_retU (h : Rv e 1 r d) (hi : d.imm = true) (q : aD rt d e) : retR r e fun d => aD rt d e := by
  cases h with
  | tmp => exact q
  | ro => exact ⟨rfl, hi, q⟩
  | sl h hm => unfold retR; simp only [h]; refine ⟨?_, q⟩; split <;> first | trivial | exact hi
theorem s_if {c : XT} {t u : XS} (q : c e fun b e => (b = true → t e nx rt) ∧ (b = false → u e nx rt)) : sIf c t u e nx rt := q
theorem o_ifP {b : Bool} {A B G1 G2 : Prop} (h : ifP b A B) (h1 : b = true → A → G1) (h2 : b = false → B → G2) : (b = true → G1) ∧ (b = false → G2) := ⟨fun z => h1 z (h.1 z), fun z => h2 z (h.2 z)⟩
theorem o_ifW {b : Bool} {A B : (σ → Prop) → Prop} {k : σ → Prop} {t u : XS} (sh : σ → En → Prop) (h : ifW b A B k)
    (h1 : b = true → ∀ (kk : σ → Prop) (nx' : En → Prop), (∀ s e, sh s e → kk s → nx' e) → A kk → t e nx' rt) (h2 : b = false → ∀ (kk : σ → Prop) (nx' : En → Prop), (∀ s e, sh s e → kk s → nx' e) → B kk → u e nx' rt) (hJ : ∀ s e, sh s e → k s → aN nx e) :
    (b = true → t e nx rt) ∧ (b = false → u e nx rt) := ⟨fun z => h1 z _ _ hJ (h.1 z), fun z => h2 z _ _ hJ (h.2 z)⟩
/-- the same inside an expression -/
theorem o_ifE {b : Bool} {A B : (σ → Prop) → Prop} {k : σ → Prop} {T U : (En → Prop) → Prop} {N : En → Prop} (sh : σ → En → Prop) (h : ifW b A B k) (hJ : ∀ s e, sh s e → k s → N e)
    (h1 : b = true → ∀ (kk : σ → Prop) (N' : En → Prop), (∀ s e, sh s e → kk s → N' e) → A kk → T N') (h2 : b = false → ∀ (kk : σ → Prop) (N' : En → Prop), (∀ s e, sh s e → kk s → N' e) → B kk → U N') :
    (b = true → T N) ∧ (b = false → U N) := ⟨fun z => h1 z _ _ hJ (h.1 z), fun z => h2 z _ _ hJ (h.2 z)⟩

theorem g_N {f : α → D} {v : α} {P : α → Prop} (ee : α → En) (h : lt v P) (hs : setOk e i = true) (he : ∀ x, e.set i (some (f x, .own)) = ee x) (q : ∀ x, P x → aN kE (ee x)) : gN i (.tmp (f v)) e kE :=
  ⟨hs, by show aN kE _; rw [he]; exact q v h⟩
theorem g_Nro {f : α → D} {v : α} {P : α → Prop} {c : Bool} (ee : α → En) (h : lt v P) (hs : setOk e i = true) (he : ∀ x, e.set i (some (f x, roMd c)) = ee x) (q : ∀ x, P x → aN kE (ee x)) : gN i (.ro c (f v)) e kE :=
  ⟨hs, by show aN kE _; rw [he]; exact q v h⟩
theorem g_Nsl {f : α → D} [hf : Im f] {v : α} {P : α → Prop} {m : Md} (ee : α → En) (h : lt v P) (h0 : e[j]? = some (some (f v, m))) (hs : setOk e i = true) (he : ∀ x, e.set i (some (f x, .own)) = ee x) (q : ∀ x, P x → aN kE (ee x)) : gN i (.sl j) e kE := by
  refine ⟨hs, ?_⟩
  simp only [h0]
  exact ⟨hf.im v, by rw [he]; exact q v h⟩
/-- without a new name for the value -/
theorem g_n (hs : setOk e i = true) (he : e.set i (some (d, .own)) = e') (q : aN kE e') : gN i (.tmp d) e kE := ⟨hs, by subst he; exact q⟩
theorem g_nro {c : Bool} (hs : setOk e i = true) (he : e.set i (some (d, roMd c)) = e') (q : aN kE e') : gN i (.ro c d) e kE := ⟨hs, by subst he; exact q⟩
theorem g_T {n : Nat} {gs : XGs} {xs : List D} (hn : xs.length = n) (q : gs none xs e kE) : gT n gs (.tmp (.tup xs)) e kE := ⟨hn, q⟩
theorem g_Tro {n : Nat} {gs : XGs} {xs : List D} {c : Bool} (hn : xs.length = n) (q : gs (some c) xs e kE) : gT n gs (.ro c (.tup xs)) e kE := by
  unfold gT rd R.data; cases c <;> exact ⟨hn, q⟩
theorem g_Tsl {n : Nat} {gs : XGs} {xs : List D} {m : Md} (h0 : e[j]? = some (some (.tup xs, m))) (hm : m.okL 2 = true) (hi : immL xs = true) (hn : xs.length = n) (q : gs none xs e kE) : gT n gs (.sl j) e kE := by
  unfold gT rd R.data; simp only [h0, hm]; exact ⟨hn, hi, q⟩
theorem g_cons {g : XG} {gs : XGs} {kd : Option Bool} {ds : List D} (q : g (mkI kd d) e fun e => gs kd ds e kE) : gsCons g gs kd (d :: ds) e kE := q
theorem g_nil {kd : Option Bool} (q : aN kE e) : gsNil kd [] e kE := q

variable {kI : List D → Option Bool → Lok → En → Prop} {xs : List D}
theorem c_iSeq {t : XE} (q : t e fun r e => rd 2 r e fun d => match d with
  | .lst xs => lockOf r e (fun kd lk e1 => aI kI xs kd lk e1) (immL xs)
  | .tup xs => lockOf r e (fun kd lk e1 => aI kI xs kd lk e1) (immL xs)
  | _ => False) : iSeq t e kI := q
abbrev seqK (e : En) (kI : List D → Option Bool → Lok → En → Prop) (r : R) (d : D) : Prop := match d with
  | .lst xs => lockOf r e (fun kd lk e1 => aI kI xs kd lk e1) (immL xs)
  | .tup xs => lockOf r e (fun kd lk e1 => aI kI xs kd lk e1) (immL xs)
  | _ => False
class Sq (f : α → D) (F : outParam (List α → D)) : Prop where
  sq : True
theorem o_sqT {f : α → D} [Im f] {l : List α} (q : aI kI (l.map f) none none e) : (rd 2 (.tmp (eL f l)) e fun d => seqK e kI (.tmp (eL f l)) d) := ⟨imL l, q⟩
theorem o_sqTv {f : α → D} [Im f] {l : List α} (q : aI kI (l.map f) none none e) : (rd 2 (.tmp (eV f l)) e fun d => seqK e kI (.tmp (eV f l)) d) := ⟨imL l, q⟩
theorem o_sqR {f : α → D} {c : Bool} {l : List α} (q : aI kI (l.map f) (some c) none e) : (rd 2 (.ro c (eL f l)) e fun d => seqK e kI (.ro c (eL f l)) d) := by
  unfold rd R.data; cases c <;> exact q
theorem o_sqRv {f : α → D} {c : Bool} {l : List α} (q : aI kI (l.map f) (some c) none e) : (rd 2 (.ro c (eV f l)) e fun d => seqK e kI (.ro c (eV f l)) d) := by
  unfold rd R.data; cases c <;> exact q
theorem o_sqS {f : α → D} [Im f] {l : List α} {m : Md} (h : e[i]? = some (some (eL f l, m))) (hm : m.okL 2 = true) (he : e.set i (some (eL f l, .lk)) = e') (q : aI kI (l.map f) none (some (i, m)) e') : (rd 2 (.sl i) e fun d => seqK e kI (.sl i) d) := by
  subst he
  unfold rd R.data; simp only [h, hm]
  unfold eL at h ⊢
  simp only [seqK, lockOf, h]
  exact ⟨imL l, q⟩
theorem o_sqSv {f : α → D} [Im f] {l : List α} {m : Md} (h : e[i]? = some (some (eV f l, m))) (hm : m.okL 2 = true) (he : e.set i (some (eV f l, .lk)) = e') (q : aI kI (l.map f) none (some (i, m)) e') : (rd 2 (.sl i) e fun d => seqK e kI (.sl i) d) := by
  subst he
  unfold rd R.data; simp only [h, hm]
  unfold eV at h ⊢
  simp only [seqK, lockOf, h]
  exact ⟨imL l, q⟩
/-- the ints from a on, below b -/
def rng (a b : Int) : List Int := (List.range (b - a).toNat).map fun n => a + (n : Nat)
def RngOk (a b : Int) : Prop := -(2 ^ 62) ≤ a ∧ a < 2 ^ 62 ∧ -(2 ^ 62) ≤ b ∧ b < 2 ^ 62
theorem c_rg1 {t : XE} (q : t e fun r e => rd 2 r e fun d => match d with
  | .int j => -(2 ^ 62) ≤ j ∧ j < 2 ^ 62 ∧ aI kI ((List.range j.toNat).map fun n => .int (n : Nat)) none none e
  | _ => False) : iRange1 t e kI := q
theorem o_rg1 {b : Int} (h : RngOk 0 b) (q : aI kI ((rng 0 b).map D.int) none none e) : (rd 2 (.tmp (.int b)) e fun d => match d with
  | .int j => -(2 ^ 62) ≤ j ∧ j < 2 ^ 62 ∧ aI kI ((List.range j.toNat).map fun n => .int (n : Nat)) none none e
  | _ => False) := ⟨h.2.2.1, h.2.2.2, by
    have : (rng 0 b).map D.int = (List.range b.toNat).map fun n => .int (n : Nat) := by simp [rng]
    rw [← this]; exact q⟩
theorem c_rg2 {t u : XE} (q : t e fun r e => u e fun r2 e2 => rd 2 r e2 fun d => rd 2 r2 e2 fun d2 => match d, d2 with
  | .int i, .int j => (-(2 ^ 62) ≤ i ∧ i < 2 ^ 62 ∧ -(2 ^ 62) ≤ j ∧ j < 2 ^ 62) ∧ aI kI ((List.range (j - i).toNat).map fun n => .int (i + (n : Nat))) none none e2
  | _, _ => False) : iRange2 t u e kI := q
theorem o_rg2 {a b : Int} (h : RngOk a b) (q : aI kI ((rng a b).map D.int) none none e) : (rd 2 (.tmp (.int a)) e fun d => rd 2 (.tmp (.int b)) e fun d2 => match d, d2 with
  | .int i, .int j => (-(2 ^ 62) ≤ i ∧ i < 2 ^ 62 ∧ -(2 ^ 62) ≤ j ∧ j < 2 ^ 62) ∧ aI kI ((List.range (j - i).toNat).map fun n => .int (i + (n : Nat))) none none e
  | _, _ => False) := ⟨h, by
    have : (rng a b).map D.int = (List.range (b - a).toNat).map fun n => .int (a + (n : Nat)) := by simp [rng]
    rw [← this]; exact q⟩

theorem s_for {it : XI} {g : XG} {tb : XS} (q : it e fun ds kd lk e1 => forL g tb kd ds e1 (fun e2 => thaw lk e2 nx) (fun d e2 => thaw lk e2 fun e3 => aD rt d e3)) : sFor it g tb e nx rt := q
theorem o_for {g : XG} {tb : XS} {kd : Option Bool} {fI : α → D} {body : α → σ → (σ → Prop) → Prop} {k : σ → Prop} (sh : σ → En → Prop) :
    ∀ {l : List α} {s0 : σ} {e : En}, forW l s0 body k → sh s0 e →
    (∀ a, a ∈ l → ∀ s e, sh s e → ∀ (kk : σ → Prop) (nx' : En → Prop), (∀ s' e', sh s' e' → kk s' → nx' e') → body a s kk → g (mkI kd (fI a)) e fun e1 => tb e1 nx' rt) →
    (∀ s e, sh s e → k s → aN nx e) → forL g tb kd (l.map fI) e nx rt
  | [], s0, e, h, h0, hb, hn => hn _ _ h0 h
  | a :: l, s0, e, h, h0, hb, hn => hb a (List.mem_cons_self ..) s0 e h0 _ _ (fun s' e' hs hk => o_for sh hk hs (fun a ha => hb a (List.mem_cons_of_mem _ ha)) hn) h
theorem s_while {c : XT} {tb : XS} {s0 : σ} {step : σ → (σ → Prop) → Prop} (sh : σ → En → Prop) (h : whW s0 step) (h0 : sh s0 e)
    (hb : ∀ s e, sh s e → ∀ (kk : σ → Prop) (nx' : En → Prop), (∀ s' e', sh s' e' → kk s' → nx' e') → step s kk → c e fun b e1 => (b = true → tb e1 nx' rt) ∧ (b = false → aN nx e1)) : sWhile c tb e nx rt := by
  obtain ⟨I, ⟨m0, i0⟩, turn⟩ := h
  refine ⟨fun m e => ∃ s, sh s e ∧ I m s, ⟨m0, s0, h0, i0⟩, fun m e ⟨s, hs, hi⟩ => hb s e hs _ _ (fun s' e' hs' ⟨m', hm, hi'⟩ => ⟨m', hm, s', hs', hi'⟩) (turn m s hi)⟩

theorem c_lc {it : XI} {g : XG} {tt : XT} {te : XE} {vs : List Nat} (q : it e fun ds kd lk e1 => (vs.all fun v => setOk e1 v) = true ∧ lcL g tt te kd vs ds (wipeE vs e1) [] fun acc e2 => thaw lk (restE vs e1 e2) fun e3 => aR Q (.tmp (.lst acc)) e3) : dLc it g tt te vs e Q := q
theorem c_yes {A B : En → Prop} (q : A e) : xYes e fun b e2 => (b = true → A e2) ∧ (b = false → B e2) := ⟨fun _ => q, fun z => nomatch z⟩
theorem o_lcF {g : XG} {tt : XT} {te : XE} {kd : Option Bool} {vs : List Nat} {kk : List D → En → Prop} {fI : α → D} {fo : β → D} {l : List α} (p : α → Bool) (F : α → β) (hs : (vs.all fun v => setOk e1 v) = true) (hl : l.length ≤ sizeLine) (he : wipeE vs e1 = e)
    (hb : ∀ a ∈ l, ∀ (c : Prop) (k1 : D → En → Prop) (k2 : En → Prop), c → (p a = true → k1 (fo (F a)) e) → (p a = false → k2 e) → g (mkI kd (fI a)) e fun e1 => tt e1 fun b e2 => (b = true → te e2 fun r e3 => stor r e3 fun dd => c ∧ k1 dd (wipeE vs e3)) ∧ (b = false → k2 (wipeE vs e2)))
    (q : aK kk (((l.filter p).map F).map fo) e) : (vs.all fun v => setOk e1 v) = true ∧ lcL g tt te kd vs (l.map fI) (wipeE vs e1) [] kk := by
  refine ⟨hs, ?_⟩
  rw [he]
  exact lcL_pureA p (fun a => fo (F a)) fI l [] (by simpa using hl) (by rw [List.map_map] at q; exact q) fun a ha c k1 k2 hc h1 h2 => hb a ha c k1 k2 hc h1 h2
theorem o_lcM {g : XG} {te : XE} {kd : Option Bool} {vs : List Nat} {kk : List D → En → Prop} {fI : α → D} {fo : β → D} {l : List α} (F : α → β) (hs : (vs.all fun v => setOk e1 v) = true) (hl : l.length ≤ sizeLine) (he : wipeE vs e1 = e)
    (hb : ∀ a ∈ l, ∀ (c : Prop) (k1 : D → En → Prop), c → k1 (fo (F a)) e → g (mkI kd (fI a)) e fun e1 => te e1 fun r e3 => stor r e3 fun dd => c ∧ k1 dd (wipeE vs e3))
    (q : aK kk ((l.map F).map fo) e) : (vs.all fun v => setOk e1 v) = true ∧ lcL g xYes te kd vs (l.map fI) (wipeE vs e1) [] kk := by
  refine ⟨hs, ?_⟩
  rw [he]
  exact lcL_mapA (fun a => fo (F a)) fI l hl (by rw [List.map_map] at q; exact q) hb
/-- a part is kept: its last step -/
theorem o_el {c : Prop} {k1 : D → En → Prop} {vs : List Nat} {E : En} (h : St e r d) (hc : c) (he : wipeE vs e = E) (q : k1 d E) : stor r e fun dd => c ∧ k1 dd (wipeE vs e) := h _ ⟨hc, by rw [he]; exact q⟩
theorem o_lcW {g : XG} {tt : XT} {te : XE} {kd : Option Bool} {vs : List Nat} {kk : List D → En → Prop} {fI : α → D} {fo : β → D} {body : α → σ → (Option β → σ → Prop) → Prop} {k : List β → σ → Prop} (sh : σ → En → Prop) {l : List α} {s0 : σ} (h : lcW l [] s0 body k) (hs : (vs.all fun v => setOk e1 v) = true) (hl : l.length ≤ sizeLine) (h0 : sh s0 (wipeE vs e1))
    (hb : ∀ a ∈ l, ∀ s e, sh s e → ∀ (w : Option β → σ → Prop) (c : Prop) (k1 : D → En → Prop) (k2 : En → Prop), c → (∀ b s' e', sh s' e' → w (some b) s' → k1 (fo b) e') → (∀ s' e', sh s' e' → w none s' → k2 e') → body a s w →
      g (mkI kd (fI a)) e fun e1 => tt e1 fun b e2 => (b = true → te e2 fun r e3 => stor r e3 fun dd => c ∧ k1 dd (wipeE vs e3)) ∧ (b = false → k2 (wipeE vs e2)))
    (hn : ∀ acc s e, sh s e → k acc s → aK kk (acc.map fo) e) : (vs.all fun v => setOk e1 v) = true ∧ lcL g tt te kd vs (l.map fI) (wipeE vs e1) [] kk := by
  refine ⟨hs, ?_⟩
  have main : ∀ (m : List α) (acc : List β) (s : σ) (e : En), (∀ a ∈ m, a ∈ l) → acc.length + m.length ≤ sizeLine → lcW m acc s body k → sh s e → lcL g tt te kd vs (m.map fI) e (acc.map fo) kk := by
    intro m
    induction m with
    | nil => intro acc s e _ _ h hs; exact hn _ _ _ hs h
    | cons a m ih =>
      intro acc s e hm hlen h hsh
      rw [List.length_cons] at hlen
      refine hb a (hm a (List.mem_cons_self ..)) s e hsh _ ((acc.map fo).length < sizeLine) (fun dd e => lcL g tt te kd vs (m.map fI) e (acc.map fo ++ [dd]) kk) (fun e => lcL g tt te kd vs (m.map fI) e (acc.map fo) kk) (by rw [List.length_map]; omega) (fun b s' e' hs' hw => ?_) (fun s' e' hs' hw => ?_) h
      · have := ih (acc ++ [b]) s' e' (fun x hx => hm x (List.mem_cons_of_mem _ hx)) (by simp; omega) hw hs'
        rw [List.map_append] at this
        exact this
      · have hw' : lcW m acc s' body k := by simpa using hw
        exact ih acc s' e' (fun x hx => hm x (List.mem_cons_of_mem _ hx)) (by omega) hw' hs'
  exact main l [] s0 _ (fun _ h => h) (by simpa using hl) h h0

theorem c_m1 {isT : D → Bool} {B : B1} {te : XE} {m : Md} (h : e[i]? = some (some (d, m))) (hb : D.big d = true) (hm : m = .own ∨ m = .io := by decide) (ht : isT d = true) (q : te e fun r2 e2 => B (.sl i) r2 e2 Q) : dM1 isT B (dVar i) te e Q := by
  unfold dM1 dVar
  rw [h]
  have key : (rd 2 (.sl i) e fun d => isT d = true) ∧ te e fun r2 e2 => B (.sl i) r2 e2 Q := ⟨by
    unfold rd R.data
    rcases hm with rfl | rfl <;> (simp only [h]; exact ht), q⟩
  rcases hm with rfl | rfl <;> cases d <;> first | (cases hb; done) | exact key
theorem o_append {f : α → D} {l : List α} {v : α} {m : Md} {P : List α → Prop} (ee : List α → En) (h : lt (l ++ [v]) P) (hr : St e r (f v)) (h0 : e[i]? = some (some (eL f l, m))) (hl : l.length < sizeLine) (he : ∀ x, e.set i (some (eL f x, m)) = ee x) (q : ∀ x, P x → aR Q (.tmp .non) (ee x)) (hm : m = .own ∨ m = .io := by decide) : bAppend (.sl i) r e Q := by
  refine hr _ ?_
  have q := q _ h
  rw [← he] at q
  unfold eL at h0 q
  rw [List.map_append] at q
  unfold chgL chg
  rcases hm with rfl | rfl <;> (simp only [h0]; exact ⟨by simpa using hl, q⟩)
/-- a list whose parts may go elsewhere -/
theorem o_extendT {f : α → D} {l ys : List α} {m : Md} {P : List α → Prop} (ee : List α → En) (h : lt (l ++ ys) P) (h0 : e[i]? = some (some (eL f l, m))) (hl : l.length + ys.length ≤ sizeLine) (he : ∀ x, e.set i (some (eL f x, m)) = ee x) (q : ∀ x, P x → aR Q (.tmp .non) (ee x)) (hm : m = .own ∨ m = .io := by decide) : bExtend (.sl i) (.tmp (eL f ys)) e Q := by
  have q := q _ h
  rw [← he] at q
  unfold eL at h0 q ⊢
  rw [List.map_append] at q
  rw [bExtend, xSeT]
  unfold chgL chg
  rcases hm with rfl | rfl <;> (simp only [h0]; exact ⟨by simpa using hl, q⟩)
theorem o_extendU {f : α → D} [Im f] {l ys : List α} {m : Md} {P : List α → Prop} (ee : List α → En) (h : lt (l ++ ys) P) (hr : Rv e 1 r (eL f ys)) (h0 : e[i]? = some (some (eL f l, m))) (hl : l.length + ys.length ≤ sizeLine) (he : ∀ x, e.set i (some (eL f x, m)) = ee x) (q : ∀ x, P x → aR Q (.tmp .non) (ee x)) (hm : m = .own ∨ m = .io := by decide) : bExtend (.sl i) r e Q := by
  have fin : chgL (.sl i) e fun i xs m => xs.length + (ys.map f).length ≤ sizeLine ∧ aR Q (.tmp .non) (e.set i (some (.lst (xs ++ ys.map f), m))) := by
    have q := q _ h
    rw [← he] at q
    unfold eL at h0 q
    rw [List.map_append] at q
    unfold chgL chg
    rcases hm with rfl | rfl <;> (simp only [h0]; exact ⟨by simpa using hl, q⟩)
  unfold bExtend storE
  cases r with
  | tmp x => cases hr; exact fin
  | ro c x => exact hr.rd ⟨imL ys, fin⟩
  | sl j => exact hr.rd ⟨imL ys, fin⟩
theorem s_put {te to ti : XE} (q : te e fun r e1 => to e1 fun ro e2 => ti e2 fun ri e3 => stor r e3 fun d => rd 1 ri e3 fun di => putR ro di d e3 nx) : sPut te to ti e nx rt := q
theorem o_putDT [DecidableEq κ] {c : κ → D} {kf : κ → List Key} [hk : Kt c kf] {f : α → D} {l : List (κ × α)} {k : κ} {v : α} {m : Md} {ri : R} {P : List (κ × α) → Prop} (ee : List (κ × α) → En) (h : lt (putA k v l) P) (hr : St e r (f v)) (hi : Rv e 1 ri (c k)) (h0 : e[i]? = some (some (eDT kf f l, m))) (hl : l.length < sizeLine) (he : ∀ x, e.set i (some (eDT kf f x, m)) = ee x) (q : ∀ x, P x → aN nx (ee x)) (hm : m = .own ∨ m = .io := by decide) :
    stor r e fun d => rd 1 ri e fun di => putR (.sl i) di d e nx := by
  have q := q _ h
  rw [← he] at q
  refine hr _ (hi.rd ?_)
  obtain ⟨ds, h1, h2⟩ := hk.key k
  rw [h1]
  unfold eDT at h0 q
  rw [← putD_eq (c := c)] at q
  unfold putR chg
  rcases hm with rfl | rfl <;> (simp only [h0, h2]; exact ⟨by simpa using hl, q⟩)
theorem o_putL {f : α → D} {l : List α} {n : Int} {v : α} {k : Nat} {m : Md} {ri : R} {P : List α → Prop} (ee : List α → En) (h : lt (l.set k v) P) (hr : St e r (f v)) (hi : Rv e 1 ri (.int n)) (h0 : e[i]? = some (some (eL f l, m))) (hk : ixN l.length n = some k) (he : ∀ x, e.set i (some (eL f x, m)) = ee x) (q : ∀ x, P x → aN nx (ee x)) (hm : m = .own ∨ m = .io := by decide) :
    stor r e fun d => rd 1 ri e fun di => putR (.sl i) di d e nx := by
  have q := q _ h
  rw [← he] at q
  refine hr _ (hi.rd ?_)
  unfold eL at h0 q
  rw [List.map_set] at q
  unfold putR chg
  rcases hm with rfl | rfl <;> (simp only [h0, List.length_map, hk]; exact q)
theorem s_aug {g : Int → Int → Int} {te : XE} {a : Int} {m : Md} (h : e[i]? = some (some (.int a, m))) (q : te e fun r e1 => rd 2 r e1 fun d => intD d fun w => setOk e1 i = true ∧ aN nx (e1.set i (some (.int (g a w), .own)))) : sAug g i te e nx rt := by
  unfold sAug; rw [h]; exact q
theorem o_aug {g : Int → Int → Int} {a w : Int} {P : Int → Prop} (ee : Int → En) (hw : Rv e 2 r (.int w)) (h : lt (g a w) P) (hs : setOk e i = true) (he : ∀ x, e.set i (some (.int x, .own)) = ee x) (q : ∀ x, P x → aN nx (ee x)) : rd 2 r e fun d => intD d fun w => setOk e i = true ∧ aN nx (e.set i (some (.int (g a w), .own))) :=
  hw.rd ⟨hs, by rw [he]; exact q _ h⟩
theorem s_par {u : XA} (q : u e fun rs e => storL rs e fun ds => match ds with
  | [d1, d2] => setOk e i = true ∧ setOk e j = true ∧ aN nx ((e.set i (some (d1, .own))).set j (some (d2, .own)))
  | _ => False) : sPar i j u e nx rt := q
theorem o_par {f : α → D} {g : β → D} {v : α} {w : β} {P : α → β → Prop} (ee : α → β → En) (h1 : St e r1 (f v)) (h2 : St e r2 (g w)) (h : lt v fun x => lt w (P x)) (hs : setOk e i = true) (hs2 : setOk e j = true) (he : ∀ x y, (e.set i (some (f x, .own))).set j (some (g y, .own)) = ee x y) (q : ∀ x y, P x y → aN nx (ee x y)) :
    storL [r1, r2] e fun ds => match ds with
    | [d1, d2] => setOk e i = true ∧ setOk e j = true ∧ aN nx ((e.set i (some (d1, .own))).set j (some (d2, .own)))
    | _ => False := h1 _ (h2 _ ⟨hs, hs2, by rw [he]; exact q v w h⟩)
end
end TX

namespace TX
open PySem PySem.Spec PyProof.Rows L2 BX
section
variable {e e1 e' : En} {L : Nat} {r r1 r2 r' : R} {d d1 d2 d3 : D} {Q : R → En → Prop} {QB : Bool → En → Prop} {nx : En → Prop} {rt : D → En → Prop} {i j : Nat} {α β γ κ σ : Type} {kE : En → Prop}
theorem b_env {t : XS} (he : e = e') (q : t e' nx rt) : t e nx rt := by rw [he]; exact q
theorem o_thaw {m : Md} (h : e[i]? = some (some (d, .lk))) (he : e.set i (some (d, m)) = e') (q : aN kE e') : thaw (some (i, m)) e kE := by
  subst he; unfold thaw; simp only [h]; exact q
theorem o_thaw0 (q : aN kE e) : thaw none e kE := q
theorem o_rest {lk : Lok} {vs : List Nat} (he : restE vs e1 e = e') (q : thaw lk e' kE) : thaw lk (restE vs e1 e) kE := by rw [he]; exact q
theorem all1 {v : Nat} (h : setOk e v = true) : (([v] : List Nat).all fun v => setOk e v) = true := by simp [h]
theorem all2 {v w : Nat} (h : setOk e v = true) (h2 : setOk e w = true) : (([v, w] : List Nat).all fun v => setOk e v) = true := by simp [h, h2]
theorem all3 {v w x : Nat} (h : setOk e v = true) (h2 : setOk e w = true) (h3 : setOk e x = true) : (([v, w, x] : List Nat).all fun v => setOk e v) = true := by simp [h, h2, h3]
theorem all4 {v w x y : Nat} (h : setOk e v = true) (h2 : setOk e w = true) (h3 : setOk e x = true) (h4 : setOk e y = true) : (([v, w, x, y] : List Nat).all fun v => setOk e v) = true := by simp [h, h2, h3, h4]
theorem s_asgIf {c : XT} {t u : XE} {g : XG} (q : sIf c (sAsg t g) (sAsg u g) e nx rt) : sAsg (dIf c t u) g e nx rt := q
theorem s_retIf {c : XT} {t u : XE} (q : sIf c (sRet t) (sRet u) e nx rt) : sRet (dIf c t u) e nx rt := q
theorem c_dct {kf : κ → List Key} {f : α → D} (q : aR Q (.tmp (eDT kf f [])) e) : dC (.dT []) e Q := q
theorem o_lstL {rs : List R} (f : α → D) (l : List α) (h : StL e rs (l.map f)) (q : aR Q (.tmp (eL f l)) e) (hl : rs.length ≤ 1000 := by simp) : rs.length ≤ 1000 ∧ storL rs e fun ds => aR Q (.tmp (.lst ds)) e := o_lst h q hl
theorem o_tup0 (f : α → D) (q : aR Q (.tmp (eV f [])) e) : ([] : List R).length ≤ 1000 ∧ storL [] e fun ds => aR Q (.tmp (.tup ds)) e := ⟨Nat.zero_le _, q⟩
theorem o_tupV {rs : List R} (f : α → D) (l : List α) (h : StL e rs (l.map f)) (q : aR Q (.tmp (eV f l)) e) (hl : rs.length ≤ 1000 := by simp) : rs.length ≤ 1000 ∧ storL rs e fun ds => aR Q (.tmp (.tup ds)) e := o_tup h q hl
theorem o_tup1 (f : α → D) (a : α) (h : StL e [r1] [f a]) (q : aR Q (.tmp (eT1 f a)) e) : [r1].length ≤ 1000 ∧ storL [r1] e fun ds => aR Q (.tmp (.tup ds)) e := o_tup h q
theorem o_tup2 (f : α → D) (g : β → D) (a : α) (b : β) (h : StL e [r1, r2] [f a, g b]) (q : aR Q (.tmp (eT2 f g (a, b))) e) : [r1, r2].length ≤ 1000 ∧ storL [r1, r2] e fun ds => aR Q (.tmp (.tup ds)) e := o_tup h q
theorem o_tup3 {r3 : R} (f : α → D) (g : β → D) (i : γ → D) (a : α) (b : β) (c : γ) (h : StL e [r1, r2, r3] [f a, g b, i c]) (q : aR Q (.tmp (eT3 f g i (a, b, c))) e) : [r1, r2, r3].length ≤ 1000 ∧ storL [r1, r2, r3] e fun ds => aR Q (.tmp (.tup ds)) e := o_tup h q
theorem o_tup4 {r3 r4 : R} (f : α → D) (g : β → D) (i : γ → D) (j : κ → D) (a : α) (b : β) (c : γ) (k : κ) (h : StL e [r1, r2, r3, r4] [f a, g b, i c, j k]) (q : aR Q (.tmp (eT4 f g i j (a, b, c, k))) e) : [r1, r2, r3, r4].length ≤ 1000 ∧ storL [r1, r2, r3, r4] e fun ds => aR Q (.tmp (.tup ds)) e := o_tup h q
section
variable {δ : Type} {f : α → D} {g : β → D} {h : γ → D} {i : δ → D}
theorem ix_10 {p : α} : IxTo (eT1 f p) (.int 0) (f p) := ix_T (by rfl)
theorem ix_20 {p : α × β} : IxTo (eT2 f g p) (.int 0) (f p.1) := ix_T (by rfl)
theorem ix_21 {p : α × β} : IxTo (eT2 f g p) (.int 1) (g p.2) := ix_T (by rfl)
theorem ix_30 {p : α × β × γ} : IxTo (eT3 f g h p) (.int 0) (f p.1) := ix_T (by rfl)
theorem ix_31 {p : α × β × γ} : IxTo (eT3 f g h p) (.int 1) (g p.2.1) := ix_T (by rfl)
theorem ix_32 {p : α × β × γ} : IxTo (eT3 f g h p) (.int 2) (h p.2.2) := ix_T (by rfl)
theorem ix_40 {p : α × β × γ × δ} : IxTo (eT4 f g h i p) (.int 0) (f p.1) := ix_T (by rfl)
theorem ix_41 {p : α × β × γ × δ} : IxTo (eT4 f g h i p) (.int 1) (g p.2.1) := ix_T (by rfl)
theorem ix_42 {p : α × β × γ × δ} : IxTo (eT4 f g h i p) (.int 2) (h p.2.2.1) := ix_T (by rfl)
theorem ix_43 {p : α × β × γ × δ} : IxTo (eT4 f g h i p) (.int 3) (i p.2.2.2) := ix_T (by rfl)
end
/-- joins: a truth -/
theorem o_andTi {b : Bool} {s0 : σ} {u : XT} {A : (Bool × σ → Prop) → Prop} {k : Bool × σ → Prop} (sh : σ → En → Prop) (h : ifW b A (fun kk => kk (false, s0)) k) (h0 : sh s0 e)
    (h1 : b = true → ∀ (kk : Bool × σ → Prop) (N : Bool → En → Prop), (∀ (v : Bool × σ) e, sh v.2 e → kk v → aB N v.1 e) → A kk → u e N) (hJ : ∀ (v : Bool × σ) e, sh v.2 e → k v → aB QB v.1 e) :
    (b = true → u e QB) ∧ (b = false → aB QB false e) := ⟨fun z => h1 z _ _ hJ (h.1 z), fun z => hJ (false, s0) _ h0 (h.2 z)⟩
theorem o_orTi {b : Bool} {s0 : σ} {u : XT} {A : (Bool × σ → Prop) → Prop} {k : Bool × σ → Prop} (sh : σ → En → Prop) (h : ifW b (fun kk => kk (true, s0)) A k) (h0 : sh s0 e)
    (h1 : b = false → ∀ (kk : Bool × σ → Prop) (N : Bool → En → Prop), (∀ (v : Bool × σ) e, sh v.2 e → kk v → aB N v.1 e) → A kk → u e N) (hJ : ∀ (v : Bool × σ) e, sh v.2 e → k v → aB QB v.1 e) :
    (b = true → aB QB true e) ∧ (b = false → u e QB) := ⟨fun z => hJ (true, s0) _ h0 (h.1 z), fun z => h1 z _ _ hJ (h.2 z)⟩
theorem o_andVi {b : Bool} {s0 : σ} {u : XE} {A : (Bool × σ → Prop) → Prop} {k : Bool × σ → Prop} (sh : σ → En → Prop) (h : ifW b A (fun kk => kk (false, s0)) k) (h0 : sh s0 e)
    (h1 : b = true → ∀ (kk : Bool × σ → Prop) (N : R → En → Prop), (∀ (v : Bool × σ) e, sh v.2 e → kk v → aR N (.tmp (.bl v.1)) e) → A kk → u e N) (hJ : ∀ (v : Bool × σ) e, sh v.2 e → k v → aR Q (.tmp (.bl v.1)) e) :
    (b = true → u e Q) ∧ (b = false → aR Q (.tmp (.bl b)) e) := ⟨fun z => h1 z _ _ hJ (h.1 z), fun z => by
  have := hJ (false, s0) _ h0 (h.2 z)
  rw [z]; exact this⟩
theorem o_orVi {b : Bool} {s0 : σ} {u : XE} {A : (Bool × σ → Prop) → Prop} {k : Bool × σ → Prop} (sh : σ → En → Prop) (h : ifW b (fun kk => kk (true, s0)) A k) (h0 : sh s0 e)
    (h1 : b = false → ∀ (kk : Bool × σ → Prop) (N : R → En → Prop), (∀ (v : Bool × σ) e, sh v.2 e → kk v → aR N (.tmp (.bl v.1)) e) → A kk → u e N) (hJ : ∀ (v : Bool × σ) e, sh v.2 e → k v → aR Q (.tmp (.bl v.1)) e) :
    (b = true → aR Q (.tmp (.bl b)) e) ∧ (b = false → u e Q) := ⟨fun z => by
  have := hJ (true, s0) _ h0 (h.1 z)
  rw [z]; exact this, fun z => h1 z _ _ hJ (h.2 z)⟩
theorem o_lcFi {g : XG} {tt : XT} {te : XE} {kd : Option Bool} {vs : List Nat} {kk : List D → En → Prop} {fI : α → D} {fo : α → D} {l : List α} (p : α → Bool) (hs : (vs.all fun v => setOk e1 v) = true) (hl : l.length ≤ sizeLine) (he : wipeE vs e1 = e)
    (hb : ∀ a ∈ l, ∀ (c : Prop) (k1 : D → En → Prop) (k2 : En → Prop), c → (p a = true → k1 (fo a) e) → (p a = false → k2 e) → g (mkI kd (fI a)) e fun e1 => tt e1 fun b e2 => (b = true → te e2 fun r e3 => stor r e3 fun dd => c ∧ k1 dd (wipeE vs e3)) ∧ (b = false → k2 (wipeE vs e2)))
    (q : aK kk ((l.filter p).map fo) e) : (vs.all fun v => setOk e1 v) = true ∧ lcL g tt te kd vs (l.map fI) (wipeE vs e1) [] kk := o_lcF (fo := fo) p (fun a => a) hs hl he hb (by simpa using q)
theorem o_lcMi {g : XG} {te : XE} {kd : Option Bool} {vs : List Nat} {kk : List D → En → Prop} {fI : α → D} {fo : α → D} {l : List α} (hs : (vs.all fun v => setOk e1 v) = true) (hl : l.length ≤ sizeLine) (he : wipeE vs e1 = e)
    (hb : ∀ a ∈ l, ∀ (c : Prop) (k1 : D → En → Prop), c → k1 (fo a) e → g (mkI kd (fI a)) e fun e1 => te e1 fun r e3 => stor r e3 fun dd => c ∧ k1 dd (wipeE vs e3))
    (q : aK kk (l.map fo) e) : (vs.all fun v => setOk e1 v) = true ∧ lcL g xYes te kd vs (l.map fI) (wipeE vs e1) [] kk := o_lcM (fo := fo) (fun a => a) hs hl he hb (by simpa using q)
theorem body_imp {S S' : FS} {n : Nat} {t : XS} (b : BodyOk S n t) (hm : S.ms = S'.ms) (hw : ∀ ds Q, S'.wp ds Q → S.wp ds Q) : BodyOk S' n t := by
  intro ds Q hl h
  have := b ds Q (by rw [hm]; exact hl) (hw ds Q h)
  have he : outD S ds Q = outD S' ds Q := funext fun d => funext fun e => by unfold outD; rw [hm]
  rw [hm, he] at this
  exact this
end
end TX

namespace TX
open PySem PySem.Spec PyProof.Rows L2 BX
section
variable {e e1 e' : En} {L : Nat} {r r1 r2 r3 r' : R} {d d1 d2 d3 : D} {Q : R → En → Prop} {i j : Nat} {α β γ κ σ : Type} {kI : List D → Option Bool → Lok → En → Prop}
theorem c_mn {isT : D → Bool} {B : Bn} {u : XA} (h0 : vr e i = some r) (hr : Rv e 1 r d) (ht : isT d = true) (q : u e fun rs e2 => B r rs e2 Q) : dMn isT B (dVar i) u e Q := c_var h0 ⟨hr.rd ht, q⟩
section
variable [DecidableEq κ] {c : κ → D} {kf : κ → List Key} [hk : Kt c kf] {f : α → D} [hf : Im f] {l : List (κ × α)} {k : κ} {v : α}
theorem o_get2 (h1 : Rv e 1 r1 (eDT kf f l)) (h2 : Rv e 1 r2 (c k)) (h3 : Rv e 1 r3 (f v)) (q : aR Q (.tmp (f ((getA l k).getD v))) e) : bGet r1 [r2, r3] e Q := by
  refine h1.rd (h2.rd (h3.rd ⟨hf.im v, ?_⟩))
  obtain ⟨ds, e1, e2⟩ := hk.key k
  rw [e1]
  unfold eDT lookD
  simp only [e2, lookT_eq (c := c)]
  cases h : getA l k with
  | none => rw [h] at q; exact q
  | some a => rw [h] at q; exact ⟨hf.im a, q⟩
theorem o_get1 (h1 : Rv e 1 r1 (eDT kf f l)) (h2 : Rv e 1 r2 (c k)) (q : aR Q (.tmp (eO f (getA l k))) e) : bGet r1 [r2] e Q := by
  refine h1.rd (h2.rd ?_)
  obtain ⟨ds, e1, e2⟩ := hk.key k
  rw [e1]
  unfold eDT lookD
  simp only [e2, lookT_eq (c := c)]
  cases h : getA l k with
  | none => rw [h] at q; exact q
  | some a => rw [h] at q; exact ⟨hf.im a, q⟩
theorem imm_vals : ∀ l : List (κ × α), immL ((l.map fun p => (kf p.1, f p.2)).map (·.2)) = true := fun l => immL_all fun d hd => by
  simp only [List.map_map, List.mem_map, Function.comp] at hd
  obtain ⟨p, _, rfl⟩ := hd
  exact hf.im _
theorem o_upd {ys : List (κ × α)} {m : Md} {P : List (κ × α) → Prop} (ee : List (κ × α) → En) (h : lt (putAs l ys) P) (hr : Rv e 1 r2 (eL (eT2 c f) ys)) (h0 : e[i]? = some (some (eDT kf f l, m))) (hl : l.length + ys.length ≤ sizeLine) (he : ∀ x, e.set i (some (eDT kf f x, m)) = ee x) (q : ∀ x, P x → aR Q (.tmp .non) (ee x)) (hm : m = .own ∨ m = .io := by decide) :
    bUpd (.sl i) [r2] e Q := by
  have q := q _ h
  rw [← he] at q
  refine hr.rd ?_
  unfold eDT at h0 q
  unfold eL
  simp only [pairT_map (c := c) (f := f)]
  rw [← putDs_map (c := c)] at q
  unfold chgT chg
  rcases hm with rfl | rfl <;> (simp only [h0]; exact ⟨imm_vals l, by simpa using hl, q⟩)
def delA (k : κ) (l : List (κ × α)) : List (κ × α) := l.filter fun p => !decide (p.1 = k)
include hk in
theorem dropD_eq : dropD (l.map fun p => (kf p.1, f p.2)) (kf k) = (delA k l).map fun p => (kf p.1, f p.2) := by
  unfold dropD delA
  rw [List.filter_map]
  congr 1
  refine List.filter_congr fun p _ => ?_
  simp only [Function.comp, kinj (c := c)]
theorem o_popT {m : Md} {P : α → List (κ × α) → Prop} (ee : List (κ × α) → En) (h : lt ((getA l k).getD v) fun a => lt (delA k l) (P a)) (h2 : Rv e 1 r2 (c k)) (h3 : Rv e 1 r3 (f v)) (h0 : e[i]? = some (some (eDT kf f l, m))) (he : ∀ x, e.set i (some (eDT kf f x, m)) = ee x) (q : ∀ a x, P a x → aR Q (.tmp (f a)) (ee x)) (hm : m = .own ∨ m = .io := by decide) :
    bPopT (.sl i) [r2, r3] e Q := by
  have q := q _ _ h
  rw [← he] at q
  refine h2.rd (h3.rd ?_)
  obtain ⟨ds, e1, e2⟩ := hk.key k
  rw [e1]
  unfold eDT at h0 q
  rw [← dropD_eq (c := c)] at q
  simp only [e2]
  unfold chgT chg
  have el : (lookT (l.map fun p => (kf p.1, f p.2)) (kf k)).getD (f v) = f ((getA l k).getD v) := by
    rw [lookT_eq (c := c)]; cases getA l k <;> rfl
  rcases hm with rfl | rfl <;> (simp only [h0]; refine ⟨imm_vals l, hf.im v, ?_⟩; rw [el]; exact q)
end
theorem o_pop {f : α → D} [hf : Im f] {l : List α} {a : α} {m : Md} {P : List α → Prop} (ee : List α → En) (h : lt l.dropLast P) (ha : l.getLast? = some a) (h0 : e[i]? = some (some (eL f l, m))) (he : ∀ x, e.set i (some (eL f x, m)) = ee x) (q : ∀ x, P x → aR Q (.tmp (f a)) (ee x)) (hm : m = .own ∨ m = .io := by decide) : bPop (.sl i) [] e Q := by
  have q := q _ h
  rw [← he] at q
  unfold eL at h0 q
  rw [List.map_dropLast] at q
  have hl : (l.map f)[(l.map f).length - 1]? = some (f a) := by
    rw [List.length_map, List.getElem?_map, ← List.getLast?_eq_getElem?, ha]; rfl
  show chgL _ _ _
  unfold chgL chg
  rcases hm with rfl | rfl <;> (simp only [h0, hl]; exact ⟨imL l, q⟩)
theorem o_rev {f : α → D} [hf : Im f] {l : List α} {m : Md} {P : List α → Prop} (ee : List α → En) (h : lt l.reverse P) (h0 : e[i]? = some (some (eL f l, m))) (he : ∀ x, e.set i (some (eL f x, m)) = ee x) (q : ∀ x, P x → aR Q (.tmp .non) (ee x)) (hm : m = .own ∨ m = .io := by decide) : bRev (.sl i) [] e Q := by
  have q := q _ h
  rw [← he] at q
  unfold eL at h0 q
  rw [List.map_reverse] at q
  show chgL _ _ _
  unfold chgL chg
  rcases hm with rfl | rfl <;> (simp only [h0]; exact ⟨imL l, q⟩)
theorem n_maxL {l : List Int} {m : Int} (h : l.max? = some m) : OpN (op1 bMaxL) [eL .int l] (.int m) := fun k q => by unfold op1 bMaxL eL; simp only [intL_ints]; exact ⟨m, h, q⟩
theorem n_minL {l : List Int} {m : Int} (h : l.min? = some m) : OpN (op1 bMinL) [eL .int l] (.int m) := fun k q => by unfold op1 bMinL eL; simp only [intL_ints]; exact ⟨m, h, q⟩
abbrev revK (e : En) (kI : List D → Option Bool → Lok → En → Prop) (r : R) (d : D) : Prop := match d with
  | .lst xs => lockOf r e (fun kd lk e1 => aI kI xs.reverse kd lk e1) (immL xs)
  | .tup xs => lockOf r e (fun kd lk e1 => aI kI xs.reverse kd lk e1) (immL xs)
  | _ => False
theorem c_rev {t : XE} (q : t e fun r e => rd 2 r e fun d => revK e kI r d) : iRev t e kI := q
theorem o_rvT {f : α → D} [Im f] {l : List α} (q : aI kI (l.reverse.map f) none none e) : (rd 2 (.tmp (eL f l)) e fun d => revK e kI (.tmp (eL f l)) d) := by
  rw [List.map_reverse] at q; exact ⟨imL l, q⟩
theorem o_rvTv {f : α → D} [Im f] {l : List α} (q : aI kI (l.reverse.map f) none none e) : (rd 2 (.tmp (eV f l)) e fun d => revK e kI (.tmp (eV f l)) d) := by
  rw [List.map_reverse] at q; exact ⟨imL l, q⟩
theorem o_rvR {f : α → D} {c : Bool} {l : List α} (q : aI kI (l.reverse.map f) (some c) none e) : (rd 2 (.ro c (eL f l)) e fun d => revK e kI (.ro c (eL f l)) d) := by
  rw [List.map_reverse] at q; unfold rd R.data; cases c <;> exact q
theorem o_rvRv {f : α → D} {c : Bool} {l : List α} (q : aI kI (l.reverse.map f) (some c) none e) : (rd 2 (.ro c (eV f l)) e fun d => revK e kI (.ro c (eV f l)) d) := by
  rw [List.map_reverse] at q; unfold rd R.data; cases c <;> exact q
theorem o_rvS {f : α → D} [Im f] {l : List α} {m : Md} (h : e[i]? = some (some (eL f l, m))) (hm : m.okL 2 = true) (he : e.set i (some (eL f l, .lk)) = e') (q : aI kI (l.reverse.map f) none (some (i, m)) e') : (rd 2 (.sl i) e fun d => revK e kI (.sl i) d) := by
  subst he
  rw [List.map_reverse] at q
  unfold rd R.data; simp only [h, hm]
  unfold eL at h ⊢
  simp only [revK, lockOf, h]
  exact ⟨imL l, q⟩
theorem o_rvSv {f : α → D} [Im f] {l : List α} {m : Md} (h : e[i]? = some (some (eV f l, m))) (hm : m.okL 2 = true) (he : e.set i (some (eV f l, .lk)) = e') (q : aI kI (l.reverse.map f) none (some (i, m)) e') : (rd 2 (.sl i) e fun d => revK e kI (.sl i) d) := by
  subst he
  rw [List.map_reverse] at q
  unfold rd R.data; simp only [h, hm]
  unfold eV at h ⊢
  simp only [revK, lockOf, h]
  exact ⟨imL l, q⟩
theorem Rv.imm0 {d : D} (h : Rv e L r d) (hb : D.big d = false) : Rv e L r d := h
/-- an item of what is read somehow -/
theorem o_idxU (h1 : Rv e 1 r1 d1) (h2 : Rv e 1 r2 d2) (hi : IxTo d1 d2 d) (him : d.imm = true) (q : ∀ r, Rv e 1 r d → aR Q r e) : rd 2 r1 e fun d1 => rd 1 r2 e fun d2 => ixd d1 d2 fun d => elem r1 d fun r => aR Q r e := by
  refine h1.up.rd (h2.rd (hi (fun d => elem r1 d fun r => aR Q r e) ?_))
  cases r1 with
  | tmp x => exact q _ .tmp
  | sl j => exact ⟨him, q _ .tmp⟩
  | ro c x =>
    cases h1
    show aR Q (mkRo false d) e
    unfold mkRo
    split <;> first | exact q _ .tmp | exact q _ .ro
end
end TX

namespace TX
open PySem PySem.Spec PyProof.Rows L2 BX
section
variable {e e1 e' : En} {L : Nat} {r r1 r2 r3 r' : R} {d d1 d2 d3 : D} {Q : R → En → Prop} {nx : En → Prop} {rt : D → En → Prop} {i j m : Nat} {α β γ κ σ : Type} {kI : List D → Option Bool → Lok → En → Prop}
theorem s_mv {u : XA} (q : u e fun rs e => rs.length ≤ 1000 ∧ ∃ rs0, rs = rs0 ++ [.sl m] ∧ storL rs0 e fun ds => match e[m]? with
  | some (some (d, .own)) => setOk (e.set m none) i = true ∧ aN nx ((e.set m none).set i (some (.lst (ds ++ [d]), .own)))
  | _ => False) : sMv i m u e nx rt := q
theorem o_mv {f : α → D} {rs rs0 : List R} {l : List α} {v : α} {P : List α → Prop} (ee : List α → En) (h : lt (l ++ [v]) P) (hs : StL e rs0 (l.map f)) (h0 : e[m]? = some (some (f v, .own))) (hset : setOk (e.set m none) i = true) (he : ∀ x, (e.set m none).set i (some (eL f x, .own)) = ee x) (q : ∀ x, P x → aN nx (ee x)) (hl : rs.length ≤ 1000 := by simp) (hr : rs = rs0 ++ [.sl m] := by rfl) :
    rs.length ≤ 1000 ∧ ∃ rs0, rs = rs0 ++ [.sl m] ∧ storL rs0 e fun ds => match e[m]? with
    | some (some (d, .own)) => setOk (e.set m none) i = true ∧ aN nx ((e.set m none).set i (some (.lst (ds ++ [d]), .own)))
    | _ => False := by
  refine ⟨hl, rs0, hr, hs.go (k := fun ds => match e[m]? with
    | some (some (d, .own)) => setOk (e.set m none) i = true ∧ aN nx ((e.set m none).set i (some (.lst (ds ++ [d]), .own)))
    | _ => False) ?_⟩
  have q := q _ h
  rw [← he] at q
  unfold eL at q
  rw [List.map_append] at q
  simp only [h0]
  exact ⟨hset, q⟩
theorem c_iSeqR {t : XE} (q : t e fun r e => match r with
  | .tmp (.lst xs) => aI kI xs (some false) none e
  | .tmp (.tup xs) => aI kI xs (some false) none e
  | _ => False) : iSeqR t e kI := q
abbrev seqR (e : En) (kI : List D → Option Bool → Lok → En → Prop) (r : R) : Prop := match r with
  | .tmp (.lst xs) => aI kI xs (some false) none e
  | .tmp (.tup xs) => aI kI xs (some false) none e
  | _ => False
theorem o_sqX {f : α → D} {l : List α} (q : aI kI (l.map f) (some false) none e) : seqR e kI (.tmp (eL f l)) := q
theorem o_sqXv {f : α → D} {l : List α} (q : aI kI (l.map f) (some false) none e) : seqR e kI (.tmp (eV f l)) := q
theorem op_inT2 {a : Int} {c : Int × Int} : OpTo opIn (.int a) (eT2 D.int D.int c) (.bl (decide (c.1 = a) || decide (c.2 = a))) := fun k q => by
  have h := op_inV (f := D.int) (a := a) (l := [c.1, c.2]) (by decide) k
  have e1 : (decide (c.1 = a) || decide (c.2 = a)) = decide (a ∈ [c.1, c.2]) := by
    by_cases h1 : c.1 = a
    · simp [h1]
    · by_cases h2 : c.2 = a
      · simp [h2]
      · have h1' : ¬ a = c.1 := fun z => h1 z.symm
        have h2' : ¬ a = c.2 := fun z => h2 z.symm
        simp [h1, h2, h1', h2']
  rw [e1] at q
  exact h q
theorem strok {a : Str} (h : PyData.strOk a = true) : eqOk (.str a) = true := by
  unfold eqOk SeqAt.shaped
  simp [D.py, PyData.canLay0, PyData.depth, h]
theorem op_eqS {a b : Str} (h1 : PyData.strOk a = true) (h2 : PyData.strOk b = true) : OpTo opEq (.str a) (.str b) (.bl (decide (a = b))) := fun k q => ⟨strok h1, strok h2, by
  have : deq (.str a) (.str b) = decide (a = b) := by
    unfold deq
    simp only [D.py, PyData.eqv]
    by_cases h : a = b
    · subst h; simp
    · simp [h]
  rw [this]; exact q⟩
theorem op_neS {a b : Str} (h1 : PyData.strOk a = true) (h2 : PyData.strOk b = true) : OpTo opNe (.str a) (.str b) (.bl (!decide (a = b))) := fun k q => ⟨strok h1, strok h2, by
  have : deq (.str a) (.str b) = decide (a = b) := by
    unfold deq
    simp only [D.py, PyData.eqv]
    by_cases h : a = b
    · subst h; simp
    · simp [h]
  rw [this]; exact q⟩
end
end TX

namespace TX
open PySem PySem.Spec PyProof.Rows L2 BX
abbrev aO (Q : Option Int → En → Prop) (o : Option Int) (e : En) : Prop := Q o e
def eDF {α κ : Type} (kf : κ → List Key) (f : α → D) (l : List (κ × α)) : D := .dF (l.map fun p => (kf p.1, f p.2))
def cutA {α : Type} (xs : List α) (lo hi : Option Int) : List α := (xs.drop (HT.sIx xs.length 0 lo)).take (HT.sIx xs.length xs.length hi - HT.sIx xs.length 0 lo)
theorem cutD_map {α : Type} {f : α → D} (xs : List α) (lo hi : Option Int) : BX.cutD (xs.map f) lo hi = (cutA xs lo hi).map f := by
  unfold BX.cutD cutA
  rw [List.length_map, List.map_take, List.map_drop]
theorem dKey_inv : ∀ {d : D} {k : Key}, dKey d = some k → d = kD k := fun {d k} h => by
  cases d with
  | int i => rw [dKey] at h; cases h; rfl
  | str s => rw [dKey] at h; cases h; rfl
  | _ => rw [dKey] at h <;> first | (cases h) | (intro i z; cases z)
theorem dKeys_inv : ∀ {ds : List D} {ks : List Key}, dKeys ds = some ks → ds = ks.map kD
  | [], ks, h => by rw [dKeys] at h; cases h; rfl
  | d :: ds, ks, h => by
    rw [dKeys] at h
    split at h
    · rename_i k ks' h1 h2
      cases h
      rw [dKey_inv h1, dKeys_inv h2]; rfl
    · cases h
section
variable {e e1 e' : En} {L : Nat} {r r1 r2 r3 r' : R} {d d1 d2 d3 : D} {Q : R → En → Prop} {QO : Option Int → En → Prop} {nx : En → Prop} {rt : D → En → Prop} {i j m : Nat} {α β γ κ σ : Type} {kI : List D → Option Bool → Lok → En → Prop}
section
variable {c : κ → D} {kf : κ → List Key} [hk : Kt c kf] {f : α → D} {l : List (κ × α)}
theorem s_frz [hf : Im f] {t : XS} (h0 : e[i]? = some (some (eDT kf f l, .own))) (he : e.set i (some (eDF kf f l, .own)) = e') (q : t e' nx rt) : sFrz i t e nx rt := by
  subst he
  unfold eDT at h0
  unfold sFrz
  simp only [h0]
  refine ⟨immL_all fun d hd => ?_, q⟩
  simp only [List.map_map, List.mem_map, Function.comp] at hd
  obtain ⟨p, _, rfl⟩ := hd
  exact hf.im _
theorem o_ks (h0 : e[i]? = some (some (eDF kf f l, .own))) (q : aI kI ((l.map (·.1)).map c) none none e) : iKs i e kI := by
  unfold eDF at h0
  unfold iKs
  simp only [h0]
  have : keysD (l.map fun p => (kf p.1, f p.2)) = (l.map (·.1)).map c := by
    unfold keysD
    rw [List.map_map, List.map_map]
    refine List.map_congr_left fun p _ => ?_
    obtain ⟨ds, e1, e2⟩ := hk.key p.1
    show D.tup ((kf p.1).map kD) = c p.1
    rw [e1, dKeys_inv e2]
  rw [this]
  exact q
end
def memB [DecidableEq α] (a : α) (l : List α) : Bool := decide (a ∈ l)
theorem memB_iff [DecidableEq α] {a : α} {l : List α} : memB a l = true ↔ a ∈ l := by unfold memB; exact decide_eq_true_iff
theorem memB_no [DecidableEq α] {a : α} {l : List α} : memB a l = false ↔ a ∉ l := by unfold memB; exact decide_eq_false_iff_not
theorem rv_un {f : α → D} {o : Option α} {v : α} (h : Rv e L r (eO f o)) (p : o = some v) : Rv e L r (f v) := by subst p; exact h
theorem c_slice {t : XE} {lo hi : XO} (q : t e fun r e => lo e fun l e1 => hi e1 fun u e2 => rd 1 r e2 fun d => sliceD d l u fun d' => aR Q (.tmp d') e2) : dSlice t lo hi e Q := q
theorem c_oNone (q : aO QO none e) : oNone e QO := q
theorem c_oSome {t : XE} (q : t e fun r e => rd 2 r e fun d => intD d fun z => aO QO (some z) e) : oSome t e QO := q
theorem o_oSome {z : Int} (h : Rv e 2 r (.int z)) (q : aO QO (some z) e) : rd 2 r e fun d => intD d fun z => aO QO (some z) e := h.rd q
theorem o_slL {f : α → D} [hf : Im f] {l : List α} {lo hi : Option Int} (h : Rv e 1 r (eL f l)) (q : aR Q (.tmp (eL f (cutA l lo hi))) e) : rd 1 r e fun d => sliceD d lo hi fun d' => aR Q (.tmp d') e := by
  refine h.rd ?_
  unfold eL at q ⊢
  rw [← cutD_map] at q
  exact ⟨imL l, q⟩
theorem o_slV {f : α → D} [hf : Im f] {l : List α} {lo hi : Option Int} (h : Rv e 1 r (eV f l)) (q : aR Q (.tmp (eV f (cutA l lo hi))) e) : rd 1 r e fun d => sliceD d lo hi fun d' => aR Q (.tmp d') e := by
  refine h.rd ?_
  unfold eV at q ⊢
  rw [← cutD_map] at q
  exact ⟨imL l, q⟩
theorem o_slT {ds : List D} {lo hi : Option Int} (ds' : List D) (h : Rv e 1 r (.tup ds)) (hi' : (D.tup ds).imm = true) (hc : BX.cutD ds lo hi = ds') (q : aR Q (.tmp (.tup ds')) e) : rd 1 r e fun d => sliceD d lo hi fun d' => aR Q (.tmp d') e := by
  refine h.rd ?_
  subst hc
  rw [D.imm] at hi'
  exact ⟨hi', q⟩
theorem n_minSL {l : List Int} {m : Int} (h : l.min? = some m) : OpN (op1 bMinS) [eL .int l] (.int m) := fun k q => n_minL h k q
theorem n_maxSL {l : List Int} {m : Int} (h : l.max? = some m) : OpN (op1 bMaxS) [eL .int l] (.int m) := fun k q => n_maxL h k q
theorem n_minST {p : Int × Int} : OpN (op1 bMinS) [eT2 .int .int p] (.int (min p.1 p.2)) := fun k q => by
  unfold op1 bMinS eT2
  exact q
theorem n_maxST {p : Int × Int} : OpN (op1 bMaxS) [eT2 .int .int p] (.int (max p.1 p.2)) := fun k q => by
  unfold op1 bMaxS eT2
  exact q
theorem s_apM {u : XA} {f : α → D} {l : List α} (h0 : e[i]? = some (some (eL f l, .own))) (q : u e fun rs e => i ≠ m ∧ rs.length ≤ 1000 ∧ ∃ rs0, rs = .sl m :: rs0 ∧ storL rs0 e fun ds => match e[m]? with
  | some (some (d, .own)) => bAppend (.sl i) (.tmp (.tup (d :: ds))) (e.set m none) fun _ e3 => aN nx e3
  | _ => False) : sApM i m u e nx rt := by
  unfold sApM dVar
  unfold eL at h0
  rw [h0]
  refine ⟨rfl, ?_, q⟩
  unfold rd R.data
  simp only [h0]
  rfl
theorem o_apM {f : α → D} {g : β → D} {l : List (α × β)} {v : α} {w : β} {P : List (α × β) → Prop} (ee : List (α × β) → En) (h : lt (l ++ [(v, w)]) P) (hr : St e r (g w)) (h0 : e[m]? = some (some (f v, .own)))
    (h1 : (e.set m none)[i]? = some (some (eL (eT2 f g) l, .own))) (hl : l.length < sizeLine) (hne : i ≠ m) (he : ∀ x, (e.set m none).set i (some (eL (eT2 f g) x, .own)) = ee x) (q : ∀ x, P x → aN nx (ee x)) :
    i ≠ m ∧ [R.sl m, r].length ≤ 1000 ∧ ∃ rs0, [R.sl m, r] = .sl m :: rs0 ∧ storL rs0 e fun ds => match e[m]? with
  | some (some (d, .own)) => bAppend (.sl i) (.tmp (.tup (d :: ds))) (e.set m none) fun _ e3 => aN nx e3
  | _ => False := by
  refine ⟨hne, by simp, [r], rfl, hr _ ?_⟩
  show (match e[m]? with
    | some (some (d, .own)) => bAppend (.sl i) (.tmp (.tup (d :: [g w]))) (e.set m none) fun _ e3 => aN nx e3
    | _ => False)
  rw [h0]
  exact o_append (f := eT2 f g) (v := (v, w)) (Q := fun _ e3 => aN nx e3) ee h (r := .tmp (.tup [f v, g w])) .tmp h1 hl he q
end
end TX

namespace TX
open PySem PySem.Spec PyProof.Rows L2 BX
def enumA {α : Type} (l : List α) : List (Int × α) := l.mapIdx fun i a => (((i : Nat) : Int), a)
theorem enumD_map {α : Type} {f : α → D} (l : List α) : enumD (l.map f) = (enumA l).map (eT2 D.int f) := by
  unfold enumD enumA
  refine List.ext_getElem? fun i => ?_
  rw [List.getElem?_mapIdx, List.getElem?_map, List.getElem?_map, List.getElem?_mapIdx]
  cases l[i]? <;> rfl
section
variable {e e1 e' : En} {r : R} {i j m : Nat} {α : Type} {kI : List D → Option Bool → Lok → En → Prop}
abbrev enumK (e : En) (kI : List D → Option Bool → Lok → En → Prop) (r : R) (d : D) : Prop := match d with
  | .lst xs => lockOf r e (fun kd lk e1 => aI kI (enumD xs) kd lk e1) (immL xs)
  | _ => False
theorem c_enum {t : XE} (q : t e fun r e => rd 2 r e fun d => enumK e kI r d) : iEnumD t e kI := q
theorem o_enT {f : α → D} [Im f] {l : List α} (q : aI kI ((enumA l).map (eT2 D.int f)) none none e) : (rd 2 (.tmp (eL f l)) e fun d => enumK e kI (.tmp (eL f l)) d) := by
  rw [← enumD_map] at q
  exact ⟨imL l, q⟩
theorem o_enR {f : α → D} {c : Bool} {l : List α} (q : aI kI ((enumA l).map (eT2 D.int f)) (some c) none e) : (rd 2 (.ro c (eL f l)) e fun d => enumK e kI (.ro c (eL f l)) d) := by
  rw [← enumD_map] at q
  unfold rd R.data; cases c <;> exact q
theorem o_enS {f : α → D} [Im f] {l : List α} {m : Md} (h : e[i]? = some (some (eL f l, m))) (hm : m.okL 2 = true) (he : e.set i (some (eL f l, .lk)) = e') (q : aI kI ((enumA l).map (eT2 D.int f)) none (some (i, m)) e') : (rd 2 (.sl i) e fun d => enumK e kI (.sl i) d) := by
  subst he
  rw [← enumD_map] at q
  unfold rd R.data; simp only [h, hm]
  unfold eL at h q ⊢
  show lockOf _ _ _ _
  unfold lockOf
  simp only [h]
  exact ⟨imL l, q⟩
theorem op_isB {a b : Bool} : OpTo opIs (.bl a) (.bl b) (.bl (decide (a = b))) := fun k q => q
theorem op_isNotB {a b : Bool} : OpTo opIsNot (.bl a) (.bl b) (.bl (!decide (a = b))) := fun k q => q
end
end TX

namespace TX
open PySem PySem.Spec PyProof.Rows L2 BX
def idxA (l : List Int) (v : Int) : Option Int := (l.findIdx? fun x => decide (x = v)).map fun n => ((n : Nat) : Int)
section
variable {e e1 e' : En} {r r1 r2 r3 : R} {Q : R → En → Prop} {i : Nat} {α κ : Type} {n : Nat}
theorem o_index {l : List Int} {v z : Int} (h1 : Rv e 1 r1 (eL .int l)) (h2 : Rv e 1 r2 (.int v)) (hp : idxA l v = some z) (q : aR Q (.tmp (.int z)) e) : bIdxOf r1 [r2] e Q := by
  refine h1.rd (h2.rd ?_)
  unfold idxA at hp
  cases h : l.findIdx? fun x => decide (x = v) with
  | none => rw [h] at hp; cases hp
  | some j =>
    rw [h] at hp
    cases hp
    obtain ⟨hj, e1, e2⟩ := List.findIdx?_eq_some_iff_getElem.mp h
    refine ⟨⟨Eqd.ok (f := eL D.int) (by decide) l, Eqd.ok (f := D.int) (by decide) v⟩, j, .int l[j], ?_, ?_, fun m z' hm hz => ?_, q⟩
    · rw [List.getElem?_map, List.getElem?_eq_getElem hj]; rfl
    · show PyData.eqv _ _ = true
      rw [Eqd.eq (f := D.int)]; simpa using e1
    · have hml : m < l.length := by omega
      rw [List.getElem?_map, List.getElem?_eq_getElem hml] at hz
      cases hz
      show PyData.eqv _ _ = false
      rw [Eqd.eq (f := D.int)]
      have := e2 m hm
      simpa using this
section
variable [DecidableEq κ] {c : κ → D} {kf : κ → List Key} [hk : Kt c kf] {f : α → D} [hf : Im f] {l : List (κ × α)} {k : κ}
theorem o_popN {m : Md} {P : List (κ × α) → Prop} (ee : List (κ × α) → En) (h : lt (delA k l) P) (h2 : Rv e 1 r2 (c k)) (h3 : Rv e 1 r3 .non) (h0 : e[i]? = some (some (eDT kf f l, m))) (he : ∀ x, e.set i (some (eDT kf f x, m)) = ee x) (q : ∀ x, P x → aR Q (.tmp (eO f (getA l k))) (ee x)) (hm : m = .own ∨ m = .io := by decide) :
    bPopT (.sl i) [r2, r3] e Q := by
  have q := q _ h
  rw [← he] at q
  refine h2.rd (h3.rd ?_)
  obtain ⟨ds, e1, e2⟩ := hk.key k
  rw [e1]
  unfold eDT at h0 q
  rw [← dropD_eq (c := c)] at q
  simp only [e2]
  unfold chgT chg
  have el : (lookT (l.map fun p => (kf p.1, f p.2)) (kf k)).getD .non = eO f (getA l k) := by
    rw [lookT_eq (c := c)]; cases getA l k <;> rfl
  rcases hm with rfl | rfl <;> (simp only [h0]; refine ⟨imm_vals l, by rw [D.imm], ?_⟩; rw [el]; exact q)
end
theorem eqv_non : ∀ {d : D}, BX.isNon d = false → PyData.eqv .none d.py = false ∧ PyData.eqv d.py .none = false := fun {d} h => by
  cases d <;> first | (cases h; done) | (constructor <;> simp [D.py, PyData.eqv])
instance [DecidableEq α] {f : α → D} [hf : Eqd f n] [hn : Nn f] : Eqd (eO f) n := ⟨fun a => by
    cases a with
    | none => exact ⟨by simp [eO, D.py, PyData.canLay0], by simp [eO, D.py, PyData.depth]⟩
    | some x => exact hf.lay x, fun a b => by
    cases a with
    | none => cases b with
      | none => simp [eO, D.py, PyData.eqv]
      | some y => rw [show (eO f none).py = .none by simp [eO, D.py], show (eO f (some y)) = f y from rfl, (eqv_non (hn.nn y)).1]; simp
    | some x => cases b with
      | none => rw [show (eO f none).py = .none by simp [eO, D.py], show (eO f (some x)) = f x from rfl, (eqv_non (hn.nn x)).2]; simp
      | some y => rw [show (eO f (some x)) = f x from rfl, show (eO f (some y)) = f y from rfl, hf.eq]; simp⟩
end
end TX

namespace TX
open PySem PySem.Spec PyProof.Rows L2 BX
def isSq : D → Bool
  | .tup _ => true
  | .lst _ => true
  | _ => false
theorem n_str {d : D} (h : ShOk d) (hq : isSq d = true := by rfl) : OpN (op1 bStr) [d] (.str (strD d)) := fun k q => by
  cases d with
  | tup xs => exact ⟨h, q⟩
  | lst xs => exact ⟨h, q⟩
  | _ => cases hq
theorem n_strI {i : Int} (h : i.natAbs.log2 < 1920) : OpN (op1 bStr) [.int i] (.str (Str.ofString (toString i))) := fun k q => ⟨h, q⟩
section
variable {α : Type} [DecidableEq α] {f : α → D} {l : List α} {e : En} {r : R} {Q : R → En → Prop}
theorem dd_map {β : Type} [DecidableEq β] {g : α → β} (inj : ∀ a b, g a = g b → a = b) : ∀ l : List α, BX.dd (l.map g) = (BX.dd l).map g
  | [] => rfl
  | x :: l => by
    rw [List.map_cons, BX.dd, BX.dd, dd_map inj l]
    have m : g x ∈ (BX.dd l).map g ↔ x ∈ BX.dd l := by
      rw [List.mem_map]
      exact ⟨fun ⟨y, hy, e⟩ => inj _ _ e ▸ hy, fun h => ⟨x, h, rfl⟩⟩
    by_cases h : x ∈ BX.dd l
    · rw [if_pos h, if_pos (m.mpr h)]
    · rw [if_neg h, if_neg fun z => h (m.mp z), List.map_cons]
theorem tupKs_map {kf : α → List Key} [hk : Kt f kf] : ∀ l : List α, tupKs (l.map f) = some (l.map kf)
  | [] => rfl
  | a :: l => by
    obtain ⟨ds, e1, e2⟩ := hk.key a
    rw [List.map_cons, e1, tupKs, tupKs_map l, e2]
    rfl
theorem lenset_of {kf : α → List Key} [hk : Kt f kf] {d : D} (hd : seqKs d = some (l.map kf)) (h : Rv e 2 r d) (few : l.length < 4096) (q : aR Q (.tmp (.int ((BX.dd l).length : Nat))) e) :
    rd 2 r e fun d => bLenSet d fun d' => aR Q (.tmp d') e := by
  refine h.rd ?_
  unfold bLenSet
  simp only [hd]
  refine ⟨by rw [List.length_map]; exact few, ?_⟩
  rw [dd_map hk.inj, List.length_map]
  exact q
theorem o_lenSetL {kf : α → List Key} [hk : Kt f kf] (h : Rv e 2 r (eL f l)) (few : l.length < 4096) (q : aR Q (.tmp (.int ((BX.dd l).length : Nat))) e) :
    rd 2 r e fun d => bLenSet d fun d' => aR Q (.tmp d') e := lenset_of (f := f) (d := eL f l) (show seqKs (.lst (l.map f)) = _ from tupKs_map l) h few q
theorem o_lenSetV {kf : α → List Key} [hk : Kt f kf] (h : Rv e 2 r (eV f l)) (few : l.length < 4096) (q : aR Q (.tmp (.int ((BX.dd l).length : Nat))) e) :
    rd 2 r e fun d => bLenSet d fun d' => aR Q (.tmp d') e := lenset_of (f := f) (d := eV f l) (show seqKs (.tup (l.map f)) = _ from tupKs_map l) h few q
theorem c_lenSet {t : XE} (q : t e fun r e => rd 2 r e fun d => bLenSet d fun d' => aR Q (.tmp d') e) : dLenSet t e Q := q
theorem c_sortSet {t : XE} (q : t e fun r e => rd 1 r e fun d => bSortSet d fun d' => aR Q (.tmp d') e) : dSortSet t e Q := q
class Inj {α : Type} (tl : α → List Int) : Prop where
  inj : ∀ a b, tl a = tl b → a = b
instance : Inj tl2 := ⟨fun a b h => by simp only [tl2, List.cons.injEq, and_true] at h; exact Prod.ext h.1 h.2⟩
instance : Inj tl3 := ⟨fun a b h => by simp only [tl3, List.cons.injEq, and_true] at h; exact Prod.ext h.1 (Prod.ext h.2.1 h.2.2)⟩
instance : Inj tl4 := ⟨fun a b h => by simp only [tl4, List.cons.injEq, and_true] at h; exact Prod.ext h.1 (Prod.ext h.2.1 (Prod.ext h.2.2.1 h.2.2.2))⟩
theorem sortset_of {tl : α → List Int} [h : Ints f tl] [hi : Inj tl] {d : D} (hd : seqTs d = some (l.map tl)) (hr : Rv e 1 r d) (few : l.length < 4096) (q : aR Q (.tmp (eL f (srt tl (BX.dd l)))) e) :
    rd 1 r e fun d => bSortSet d fun d' => aR Q (.tmp d') e := by
  refine hr.rd ?_
  unfold bSortSet
  simp only [hd]
  refine ⟨by rw [List.length_map]; exact few, ?_⟩
  rw [dd_map hi.inj, sort_map (f := f)]
  exact q
theorem o_sortSetL {tl : α → List Int} [h : Ints f tl] [hi : Inj tl] (hr : Rv e 1 r (eL f l)) (few : l.length < 4096) (q : aR Q (.tmp (eL f (srt tl (BX.dd l)))) e) :
    rd 1 r e fun d => bSortSet d fun d' => aR Q (.tmp d') e := sortset_of (f := f) (d := eL f l) (show seqTs (.lst (l.map f)) = _ from intTs_map l) hr few q
theorem o_sortSetV {tl : α → List Int} [h : Ints f tl] [hi : Inj tl] (hr : Rv e 1 r (eV f l)) (few : l.length < 4096) (q : aR Q (.tmp (eL f (srt tl (BX.dd l)))) e) :
    rd 1 r e fun d => bSortSet d fun d' => aR Q (.tmp d') e := sortset_of (f := f) (d := eV f l) (show seqTs (.tup (l.map f)) = _ from intTs_map l) hr few q
end
end TX

namespace TX
open PySem PySem.Spec PyProof.Rows L2 BX
section
variable {e e' : En} {r r1 r2 : R} {Q : R → En → Prop} {kI : List D → Option Bool → Lok → En → Prop} {i : Nat} {α κ : Type} {c : κ → D} {kf : κ → List Key} [hk : Kt c kf] {f : α → D} {l : List (κ × α)}
include hk in
theorem items_map : itemsD (l.map fun p => (kf p.1, f p.2)) = l.map (eT2 c f) := by
  unfold itemsD
  rw [List.map_map]
  refine List.map_congr_left fun p _ => ?_
  obtain ⟨ds, e1, e2⟩ := hk.key p.1
  show D.tup [.tup ((kf p.1).map kD), f p.2] = .tup [c p.1, f p.2]
  rw [e1, dKeys_inv e2]
theorem o_itm (h0 : e[i]? = some (some (eDF kf f l, .own))) (q : aI kI (l.map (eT2 c f)) none none e) : iItm i e kI := by
  unfold eDF at h0
  unfold iItm
  simp only [h0]
  rw [items_map (c := c)]
  exact q
abbrev itmK (e : En) (kI : List D → Option Bool → Lok → En → Prop) (r : R) : Prop := match r with
  | .tmp (.dT kvs) => immL (kvs.map (·.2)) = true ∧ aI kI (itemsD kvs) none none e
  | _ => False
theorem c_itmT {t : XE} (q : t e fun r e => itmK e kI r) : iItmT t e kI := q
theorem o_itmT [hf : Im f] (q : aI kI (l.map (eT2 c f)) none none e) : itmK e kI (.tmp (eDT kf f l)) := by
  unfold eDT
  refine ⟨immL_all fun d hd => ?_, ?_⟩
  · simp only [List.map_map, List.mem_map, Function.comp] at hd
    obtain ⟨p, _, rfl⟩ := hd
    exact hf.im _
  · rw [items_map (c := c)]
    exact q
theorem o_dct1 [hf : Im f] {k : κ} {v : α} (h1 : Rv e 1 r1 (c k)) (h2 : St e r2 (f v)) (q : aR Q (.tmp (eDT kf f [(k, v)])) e) :
    rd 1 r1 e fun d1 => stor r2 e fun d2 => match d1 with
      | .tup ds => match dKeys ds with
        | some k => d2.imm = true ∧ aR Q (.tmp (.dT [(k, d2)])) e
        | none => False
      | _ => False := by
  refine h1.rd (h2 _ ?_)
  obtain ⟨ds, e1, e2⟩ := hk.key k
  rw [e1]
  simp only [e2]
  exact ⟨hf.im v, q⟩
theorem c_dct1 {t u : XE} (q : t e fun r1 e1 => u e1 fun r2 e2 => rd 1 r1 e2 fun d1 => stor r2 e2 fun d2 => match d1 with
      | .tup ds => match dKeys ds with
        | some k => d2.imm = true ∧ aR Q (.tmp (.dT [(k, d2)])) e2
        | none => False
      | _ => False) : dDct1 t u e Q := q
theorem o_pop1 [DecidableEq κ] [hf : Im f] {k : κ} {v : α} {m : Md} {P : List (κ × α) → Prop} (ee : List (κ × α) → En) (h : lt (delA k l) P) (hv : getA l k = some v) (h2 : Rv e 1 r2 (c k)) (h0 : e[i]? = some (some (eDT kf f l, m)))
    (he : ∀ x, e.set i (some (eDT kf f x, m)) = ee x) (q : ∀ x, P x → aR Q (.tmp (f v)) (ee x)) (hm : m = .own ∨ m = .io := by decide) : bPop1 (.sl i) [r2] e Q := by
  have q := q _ h
  rw [← he] at q
  refine h2.rd ?_
  obtain ⟨ds, e1, e2⟩ := hk.key k
  rw [e1]
  unfold eDT at h0 q
  rw [← dropD_eq (c := c)] at q
  simp only [e2]
  unfold chgT chg
  have el : lookT (l.map fun p => (kf p.1, f p.2)) (kf k) = some (f v) := by
    rw [lookT_eq (c := c), hv]; rfl
  rcases hm with rfl | rfl <;> (simp only [h0, el]; exact ⟨imm_vals l, q⟩)
end
end TX

namespace TX
open PySem PySem.Spec PyProof.Rows L2 BX
theorem c_GV {α : Type} {f : α → D} {xs : List α} {e : En} {Q : R → En → Prop} (q : aR Q (.ro true (eV f xs)) e) : dG (eV f xs) e Q := q
theorem c_GS {s : Str} {e : En} {Q : R → En → Prop} (q : aR Q (.tmp (.str s)) e) : dG (.str s) e Q := q
theorem op_neE {α κ : Type} {kf : κ → List Key} {f : α → D} {l : List (κ × α)} : OpTo opNeE (eDT kf f l) (eDT kf f []) (.bl (!l.isEmpty)) := fun k q => by
  show k (.bl (!(l.map _).isEmpty))
  rw [List.isEmpty_map]
  exact q
/-- a list or a tuple -/
abbrev eLV {α : Type} (f : α → D) (p : Bool × List α) : D := match p.1 with
  | true => eV f p.2
  | false => eL f p.2
theorem eLV_noF {α : Type} {f : α → D} {p : Bool × List α} : D.isF (eLV f p) = false := by
  obtain ⟨b, l⟩ := p
  cases b <;> rfl
theorem n_sortLV {α : Type} {f : α → D} {tl : α → List Int} [h : Ints f tl] {p : Bool × List α} : OpN (op1 bSorted) [eLV f p] (eL f (srt tl p.2)) := by
  obtain ⟨b, l⟩ := p
  cases b
  · exact n_sortL
  · exact n_sortV
/-- the first of the least keys -/
def minKs {α : Type} : List ((Int × Int) × α) → Option (Int × Int)
  | [] => none
  | p :: ps => some (minP p.1 (ps.map (·.1)))
theorem keyPs_map {α : Type} {f : α → D} : ∀ l : List ((Int × Int) × α), keyPs (l.map fun p => (kf2 Sum.inl Sum.inl p.1, f p.2)) = some (l.map (·.1))
  | [] => rfl
  | p :: l => by
    rw [List.map_cons]
    show (keyPs _).map _ = _
    rw [keyPs_map l]
    rfl
theorem n_minK {α : Type} {f : α → D} {l : List ((Int × Int) × α)} {m : Int × Int} (h : minKs l = some m) : OpN (op1 bMinK) [eDT (kf2 Sum.inl Sum.inl) f l] (eT2 .int .int m) := fun k q => by
  unfold op1 eDT bMinK
  dsimp only
  rw [keyPs_map]
  cases l with
  | nil => cases h
  | cons p ps => cases h; exact q
end TX
namespace BX
open PySem TX
def BESIDE_ : List (Int × Int) := [(1, 0), (0, 1), (-1, 0), (0, -1)]
def AROUND_ : List (Int × Int) := [(1, 0), (0, 1), (-1, 0), (0, -1), (1, 1), (1, -1), (-1, 1), (-1, -1)]
def ACROSS_ : Str := Str.ofString "across"
def UP_ : Str := Str.ofString "up"
def KINDS_ : List Str := [Str.ofString "none", Str.ofString "outer", Str.ofString "", Str.ofString "inner", Str.ofString "within"]
abbrev c_BESIDE : D := eV (eT2 D.int D.int) BESIDE_
abbrev c_AROUND : D := eV (eT2 D.int D.int) AROUND_
abbrev c_STEPS : D := eV (eT2 D.int D.int) BESIDE_
abbrev c_ACROSS : D := .str ACROSS_
abbrev c_UP : D := .str UP_
abbrev c_KINDS : D := eV D.str KINDS_
end BX

namespace BC
open PySem PySem.Spec PyProof.Rows L2 BX TX COM
def TpOk (t : Int × Int) : Prop := TapeOk t.1 t.2
def w__law_tape (script : List Int) (k : Int) (kr : Int × Int → Prop) : Prop := (0 ≤ k ∧ k ≤ 1000) ∧ ∀ t, TpOk t → kr t
def S__law_tape : FS := mkS (α := List Int × Int) (κ := Int × Int) [.cst, .cst] (fun a => [eL D.int a.1, D.int a.2]) (fun a => w__law_tape a.1 a.2) (fun r => eP r) fun a r => [eL D.int a.1, D.int a.2]
theorem v__law_tape : BodyOk S__law_tape 4 t__law_tape := body_imp b_tape rfl fun ds Q h => by
  obtain ⟨⟨ns, k⟩, kr, rfl, ⟨hk, h⟩, q⟩ := h
  refine ⟨ns, k.toNat, ?_, ?_, fun a b t => q (a, b) (h (a, b) t)⟩
  · show [eL D.int ns, D.int k] = _
    have hk' : k = (k.toNat : Int) := by simp only at hk; omega
    rw [← hk']; rfl
  · simp only at hk; omega
def w__law_draw (t : Int × Int) (m : Int) (kr : Int × (Int × Int) → Prop) : Prop := TpOk t ∧ (1 ≤ m ∧ m ≤ 1000000) ∧ ∀ r : Int × (Int × Int), 0 ≤ r.1 → r.1 < m → TpOk r.2 → kr r
def S__law_draw : FS := mkS (α := (Int × Int) × Int) (κ := Int × (Int × Int)) [.io, .cst] (fun a => [eP a.1, D.int a.2]) (fun a => w__law_draw a.1 a.2) (fun r => D.int r.1) fun a r => [eP r.2, D.int a.2]
theorem v__law_draw : BodyOk S__law_draw 4 t__law_draw := body_imp b_draw rfl fun ds Q h => by
  obtain ⟨⟨t, m⟩, kr, rfl, ⟨ht, hm, h⟩, q⟩ := h
  exact ⟨t.1, t.2, m, rfl, ht, hm, fun r a b h0 h1 h2 => q (r, (a, b)) (h (r, (a, b)) h0 h1 h2)⟩
/-- the same thing twice -/
def w__law_sameN (n : Nat) (x y : D) (kr : Bool → Prop) : Prop := x = y ∧ SameOk n x ∧ kr true
def S__law_sameN (n : Nat) : FS := mkS (α := D × D) (κ := Bool) [.cst, .cst] (fun a => [eA a.1, eA a.2]) (fun a => w__law_sameN n a.1 a.2) (fun r => D.bl r) fun a r => [eA a.1, eA a.2]
theorem dFn_eq {S S' : FS} (h : S = S') : dFn S = dFn S' := by rw [h]
theorem v__law_same (n : Nat) : BodyOk (S__law_sameN (n + 1)) 4 (t__law_same (S_same n)) := body_imp (b_same n) rfl fun ds Q h => by
  obtain ⟨⟨x, y⟩, kr, rfl, ⟨hxy, hs, h⟩, q⟩ := h
  have hxy : x = y := hxy
  subst hxy
  exact ⟨x, rfl, hs, q true h⟩
end BC

namespace BC
open PySem PySem.Spec PyProof.Rows L2 BX TX COM
def t__law_cells : XS :=
  (sSeq (sAsg (dLst aNil) (gN 4))
  (sSeq (sFor (iRange1 (dVar 2)) (gN 5) (sExpr (dM1 D.isLst bExtend (dVar 4) (dLc (iRange1 (dVar 3)) (gN 6) xYes (dTup (aCons (dBin 1 opAdd (dVar 0) (dVar 5)) (aCons (dBin 1 opAdd (dVar 1) (dVar 6)) aNil))) [6]))))
  (sRet (dVar 4))))
def w__law_cells (x : Int) (y : Int) (wide : Int) (high : Int) (kr : (List (Int × Int)) → Prop) : Prop :=
lt (([] : List (Int × Int)) : (List (Int × Int))) fun found =>
(RngOk 0 wide) ∧
forW (rng 0 wide) found (fun k' (found : (List (Int × Int))) kk2 => (RngOk 0 high) ∧
((rng 0 high).length ≤ sizeLine) ∧
(found.length + ((rng 0 high).map (fun j => ((x + k'), (y + j)))).length ≤ sizeLine) ∧
lt (found ++ ((rng 0 high).map (fun j => ((x + k'), (y + j))))) fun found =>
kk2 found) fun found =>
kr found
def S__law_cells : FS := mkS (α := (Int × Int × Int × Int)) (κ := (List (Int × Int))) [.cst, .cst, .cst, .cst] (fun a => [D.int a.1, D.int a.2.1, D.int a.2.2.1, D.int a.2.2.2]) (fun a => w__law_cells a.1 a.2.1 a.2.2.1 a.2.2.2) (fun r => (eL (eT2 D.int D.int)) r) fun a r => [D.int a.1, D.int a.2.1, D.int a.2.2.1, D.int a.2.2.2]
theorem v__law_cells : BodyOk S__law_cells 7 t__law_cells := by
  intro ds Q hl h
  obtain ⟨⟨x, y, wide, high⟩, kr, rfl, h, q⟩ := h
  refine b_env (e' := [some (D.int x, .cst), some (D.int y, .cst), some (D.int wide, .cst), some (D.int high, .cst), none, none, none]) rfl ?_
  unfold t__law_cells
  unfold w__law_cells at h
  refine s_seq ?_
  refine s_asg ?_
  refine c_lst ?_
  refine c_aNil ?_
  refine o_lstL (eT2 D.int D.int) ([] : List (Int × Int)) .nil ?_
  refine g_N (f := (eL (eT2 D.int D.int))) (fun found => [some (D.int x, .cst), some (D.int y, .cst), some (D.int wide, .cst), some (D.int high, .cst), some ((eL (eT2 D.int D.int)) found, .own), none, none]) h rfl (fun _ => rfl) fun found h => ?_
  refine s_seq ?_
  refine s_for ?_
  refine c_rg1 ?_
  refine c_var rfl ?_
  obtain ⟨p1, h⟩ := h
  refine o_rg1 p1 ?_
  refine o_for (fI := D.int) (sh := fun (found : (List (Int × Int))) e => ∃ c5 : Option (D × Md), (setS (some c5) = true) ∧ e = [some (D.int x, .cst), some (D.int y, .cst), some (D.int wide, .cst), some (D.int high, .cst), some ((eL (eT2 D.int D.int)) found, .own), c5, none]) h ⟨_, rfl, rfl⟩ (fun k' ha found e hs kk2 nxkk2 hJ2 h => ?_) ?_
  · skip
    obtain ⟨c5, hc5, rfl⟩ := hs
    refine g_n (e' := [some (D.int x, .cst), some (D.int y, .cst), some (D.int wide, .cst), some (D.int high, .cst), some ((eL (eT2 D.int D.int)) found, .own), some (D.int k', .own), none]) hc5 rfl (?_)
    refine s_expr ?_
    refine c_m1 (by rfl) (by rfl) (by decide) (by rfl) ?_
    refine c_lc ?_
    refine c_rg1 ?_
    refine c_var rfl ?_
    obtain ⟨p3, h⟩ := h
    refine o_rg1 p3 ?_
    obtain ⟨p4, h⟩ := h
    refine o_lcM (e := [some (D.int x, .cst), some (D.int y, .cst), some (D.int wide, .cst), some (D.int high, .cst), some ((eL (eT2 D.int D.int)) found, .own), some (D.int k', .own), none]) (fI := D.int) (fo := (eT2 D.int D.int)) (fun j => ((x + k'), (y + j))) (all1 rfl) p4 rfl (fun j ha c k1 hc h1 => ?_) ?_
    · skip
      refine g_n (e' := [some (D.int x, .cst), some (D.int y, .cst), some (D.int wide, .cst), some (D.int high, .cst), some ((eL (eT2 D.int D.int)) found, .own), some (D.int k', .own), some (D.int j, .own)]) rfl rfl (?_)
      refine c_tup ?_
      refine c_aCons ?_
      refine c_bin ?_
      refine c_var rfl ?_
      refine c_var rfl ?_
      refine o_bin .tmp .tmp op_addI ?_
      refine c_aCons ?_
      refine c_bin ?_
      refine c_var rfl ?_
      refine c_var rfl ?_
      refine o_bin .tmp .tmp op_addI ?_
      refine c_aNil ?_
      refine o_tup2 D.int D.int (x + k') (y + j) (.cons .tmp (.cons .tmp .nil)) ?_
      exact o_el .tmp hc rfl h1
    refine o_rest (e' := [some (D.int x, .cst), some (D.int y, .cst), some (D.int wide, .cst), some (D.int high, .cst), some ((eL (eT2 D.int D.int)) found, .own), some (D.int k', .own), none]) rfl ?_
    refine o_thaw0 ?_
    obtain ⟨p5, h⟩ := h
    refine o_extendT (fun found => [some (D.int x, .cst), some (D.int y, .cst), some (D.int wide, .cst), some (D.int high, .cst), some ((eL (eT2 D.int D.int)) found, .own), some (D.int k', .own), none]) h (by rfl) p5 (fun _ => rfl) fun found h => ?_
    exact hJ2 found _ ⟨_, rfl, rfl⟩ h
  rintro found e hs h
  obtain ⟨c5, hc5, rfl⟩ := hs
  refine o_thaw0 ?_
  refine s_ret ?_
  refine c_var rfl ?_
  refine o_retSl (m := .own) (by rfl) ?_
  exact q found h

def t__law_shape (S__law_draw S__law_cells : FS) : XS :=
  (sSeq (sAsg (dFn S__law_draw (aCons (dVar 0) (aCons (dC (.int 9)) aNil))) (gN 3))
  (sSeq (sAsg (dFn S__law_cells (aCons (dC (.int 0)) (aCons (dC (.int 0)) (aCons (dVar 1) (aCons (dVar 2) aNil))))) (gN 4))
  (sSeq (sIf (xVal (dBin 2 opLt (dVar 3) (dC (.int 2)))) (sRet (dLc (iSeq (dVar 4)) (gN 12) (xVal (dBin 2 opGt (dFn S__law_draw (aCons (dVar 0) (aCons (dC (.int 3)) aNil))) (dBin 2 opMod (dVar 3) (dC (.int 2))))) (dVar 12) [12])) sNil)
  (sSeq (sIf (xVal (dBin 2 opLt (dVar 3) (dC (.int 5)))) (sSeq (sAsg (dC (.dT [])) (gN 5))
  (sSeq (sFor (iRange1 (dBin 1 opAdd (dC (.int 1)) (dFn S__law_draw (aCons (dVar 0) (aCons (dC (.int 5)) aNil))))) (gN 6) (sSeq (sPar 7 8 (aCons (dFn S__law_draw (aCons (dVar 0) (aCons (dVar 1) aNil))) (aCons (dFn S__law_draw (aCons (dVar 0) (aCons (dVar 2) aNil))) aNil)))
  (sSeq (sAsg (dFn S__law_cells (aCons (dVar 7) (aCons (dVar 8) (aCons (dBin 1 opAdd (dC (.int 1)) (dFn S__law_draw (aCons (dVar 0) (aCons (dBin 2 opSub (dVar 1) (dVar 7)) aNil)))) (aCons (dBin 1 opAdd (dC (.int 1)) (dFn S__law_draw (aCons (dVar 0) (aCons (dBin 2 opSub (dVar 2) (dVar 8)) aNil)))) aNil))))) (gN 9))
  (sSeq (sAsg (dOr (dBin 2 opEq (dVar 6) (dC (.int 0))) (dBin 2 opGt (dFn S__law_draw (aCons (dVar 0) (aCons (dC (.int 3)) aNil))) (dC (.int 0)))) (gN 10))
  (sExpr (dMn D.isDic bUpd (dVar 5) (aCons (dLc (iSeq (dVar 9)) (gN 12) xYes (dTup (aCons (dVar 12) (aCons (dVar 10) aNil))) [12]) aNil)))))))
  (sRet (dLc (iSeq (dVar 4)) (gN 12) (xVal (dMn D.isDic bGet (dVar 5) (aCons (dVar 12) (aCons (dC (.bl false)) aNil)))) (dVar 12) [12])))) sNil)
  (sSeq (sIf (xVal (dBin 2 opEq (dVar 3) (dC (.int 5)))) (sRet (dLc (iSeq (dVar 4)) (gN 12) (xVal (dBin 2 opGt (dFn S__law_draw (aCons (dVar 0) (aCons (dC (.int 6)) aNil))) (dC (.int 0)))) (dVar 12) [12])) sNil)
  (sSeq (sIf (xVal (dBin 2 opEq (dVar 3) (dC (.int 6)))) (sSeq (sAsg (dLc (iRange1 (dVar 1)) (gN 7) xYes (dBin 1 opAdd (dC (.int 1)) (dFn S__law_draw (aCons (dVar 0) (aCons (dVar 2) aNil)))) [7]) (gN 11))
  (sRet (dLc (iSeq (dVar 4)) (gN 12) (xVal (dBin 2 opLt (dIdx (dVar 12) (dC (.int 1))) (dIdx (dLst (aCons (dIdx (dVar 11) (dIdx (dVar 12) (dC (.int 0)))) (aCons (dC (.int 1)) aNil))) (dBin 1 opMul (dBin 2 opMod (dIdx (dVar 12) (dC (.int 0))) (dC (.int 2))) (dFn S__law_draw (aCons (dVar 0) (aCons (dC (.int 2)) aNil))))))) (dVar 12) [12]))) sNil)
  (sSeq (sIf (xVal (dBin 2 opEq (dVar 3) (dC (.int 7)))) (sRet (dLc (iSeq (dVar 4)) (gN 12) (xOr (xVal (dBin 2 opEq (dBin 2 opMod (dIdx (dVar 12) (dC (.int 0))) (dC (.int 3))) (dC (.int 0)))) (xOr (xVal (dBin 2 opEq (dBin 2 opMod (dIdx (dVar 12) (dC (.int 1))) (dC (.int 3))) (dC (.int 0)))) (xVal (dBin 2 opEq (dFn S__law_draw (aCons (dVar 0) (aCons (dC (.int 8)) aNil))) (dC (.int 0)))))) (dVar 12) [12])) sNil)
  (sRet (dLc (iSeq (dVar 4)) (gN 12) (xOr (xVal (dBin 2 opEq (dBin 2 opMod (dBin 1 opAdd (dIdx (dVar 12) (dC (.int 0))) (dIdx (dVar 12) (dC (.int 1)))) (dC (.int 2))) (dC (.int 0)))) (xVal (dBin 2 opEq (dFn S__law_draw (aCons (dVar 0) (aCons (dC (.int 2)) aNil))) (dC (.int 0))))) (dVar 12) [12])))))))))
def w__law_shape (tape : (Int × Int)) (wide : Int) (high : Int) (kr : ((List (Int × Int)) × (Int × Int)) → Prop) : Prop :=
w__law_draw tape 9 fun t1 =>
w__law_cells 0 0 wide high fun t2 =>
ifP (decide (t1.1 < 2)) ((t2.length ≤ sizeLine) ∧
lcW t2 ([] : List (Int × Int)) t1.2 (fun cell (s : (Int × Int)) w => w__law_draw s 3 fun t4 =>
ifP (decide ((t1.1 % 2) < t4.1)) (w (some cell) t4.2) (w none t4.2)) fun l5 s6 =>
kr (l5, s6)) <|
ifP (decide (t1.1 < 5)) (lt (([] : (List ((Int × Int) × Bool))) : (List ((Int × Int) × Bool))) fun there =>
w__law_draw t1.2 5 fun t7 =>
(RngOk 0 (1 + t7.1)) ∧
forW (rng 0 (1 + t7.1)) (t7.2, there) (fun turn (s9 : ((Int × Int) × (List ((Int × Int) × Bool)))) kk10 => w__law_draw s9.1 wide fun t11 =>
w__law_draw t11.2 high fun t12 =>
lt (t11.1 : Int) fun x =>
lt (t12.1 : Int) fun y =>
w__law_draw t12.2 (wide - x) fun t13 =>
w__law_draw t13.2 (high - y) fun t14 =>
w__law_cells x y (1 + t13.1) (1 + t14.1) fun t15 =>
ifW (decide (turn = 0)) (fun kk16 => kk16 (true, t14.2)) (fun kk16 => w__law_draw t14.2 3 fun t17 =>
kk16 ((decide (0 < t17.1)), t17.2)) fun (b18 : Bool × (Int × Int)) =>
(t15.length ≤ sizeLine) ∧
(s9.2.length + (t15.map (fun cell => (cell, b18.1))).length ≤ sizeLine) ∧
lt (putAs s9.2 (t15.map (fun cell => (cell, b18.1)))) fun there =>
kk10 (b18.2, there)) fun s9 =>
(t2.length ≤ sizeLine) ∧
kr ((t2.filter (fun cell => ((getA s9.2 cell).getD false))), s9.1)) <|
ifP (decide (t1.1 = 5)) ((t2.length ≤ sizeLine) ∧
lcW t2 ([] : List (Int × Int)) t1.2 (fun cell (s : (Int × Int)) w => w__law_draw s 6 fun t23 =>
ifP (decide (0 < t23.1)) (w (some cell) t23.2) (w none t23.2)) fun l24 s25 =>
kr (l24, s25)) <|
ifP (decide (t1.1 = 6)) ((RngOk 0 wide) ∧
((rng 0 wide).length ≤ sizeLine) ∧
lcW (rng 0 wide) ([] : List Int) t1.2 (fun x (s : (Int × Int)) w => w__law_draw s high fun t28 =>
w (some (1 + t28.1)) t28.2) fun l29 s30 =>
(t2.length ≤ sizeLine) ∧
lcW t2 ([] : List (Int × Int)) s30 (fun cell (s : (Int × Int)) w => exW (atI l29 cell.1) fun x32 =>
w__law_draw s 2 fun t34 =>
(IntMulOk (cell.1 % 2) t34.1) ∧
exW (atI [x32, 1] ((cell.1 % 2) * t34.1)) fun x36 =>
ifP (decide (cell.2 < x36)) (w (some cell) t34.2) (w none t34.2)) fun l38 s39 =>
kr (l38, s39)) <|
ifP (decide (t1.1 = 7)) ((t2.length ≤ sizeLine) ∧
lcW t2 ([] : List (Int × Int)) t1.2 (fun cell (s : (Int × Int)) w => ifW (decide ((cell.1 % 3) = 0)) (fun kk41 => kk41 (true, s)) (fun kk41 => ifW (decide ((cell.2 % 3) = 0)) (fun kk42 => kk42 (true, s)) (fun kk42 => w__law_draw s 8 fun t43 =>
kk42 ((decide (t43.1 = 0)), t43.2)) fun (b44 : Bool × (Int × Int)) =>
kk41 (b44.1, b44.2)) fun (b45 : Bool × (Int × Int)) =>
ifP b45.1 (w (some cell) b45.2) (w none b45.2)) fun l46 s47 =>
kr (l46, s47)) <|
(t2.length ≤ sizeLine) ∧
lcW t2 ([] : List (Int × Int)) t1.2 (fun cell (s : (Int × Int)) w => ifW (decide (((cell.1 + cell.2) % 2) = 0)) (fun kk49 => kk49 (true, s)) (fun kk49 => w__law_draw s 2 fun t50 =>
kk49 ((decide (t50.1 = 0)), t50.2)) fun (b51 : Bool × (Int × Int)) =>
ifP b51.1 (w (some cell) b51.2) (w none b51.2)) fun l52 s53 =>
kr (l52, s53)
def S__law_shape : FS := mkS (α := ((Int × Int) × Int × Int)) (κ := ((List (Int × Int)) × (Int × Int))) [.io, .cst, .cst] (fun a => [eP a.1, D.int a.2.1, D.int a.2.2]) (fun a => w__law_shape a.1 a.2.1 a.2.2) (fun r => (eL (eT2 D.int D.int)) r.1) fun a r => [eP r.2, D.int a.2.1, D.int a.2.2]
theorem v__law_shape : BodyOk S__law_shape 13 (t__law_shape S__law_draw S__law_cells) := by
  intro ds Q hl h
  obtain ⟨⟨tape, wide, high⟩, kr, rfl, h, q⟩ := h
  refine b_env (e' := [some (eP tape, .io), some (D.int wide, .cst), some (D.int high, .cst), none, none, none, none, none, none, none, none, none, none]) rfl ?_
  unfold t__law_shape
  unfold w__law_shape at h
  refine s_seq ?_
  refine s_asg ?_
  refine c_fn ?_
  refine c_aCons ?_
  refine c_var rfl ?_
  refine c_aCons ?_
  refine c_C ?_
  refine c_aNil ?_
  refine x_call (tape, 9) (fun t1 => [some (eP t1.2, .io), some (D.int wide, .cst), some (D.int high, .cst), none, none, none, none, none, none, none, none, none, none]) h (.cons (.sl (by rfl) (by rfl)) (.cons .tmp .nil)) (ok_cons (by rfl) (ok_cons ok_cst ok_nil)) (by rfl) (fun _ => rfl) fun t1 h => ?_
  refine g_n (e' := [some (eP t1.2, .io), some (D.int wide, .cst), some (D.int high, .cst), some (D.int t1.1, .own), none, none, none, none, none, none, none, none, none]) rfl rfl ?_
  refine s_seq ?_
  refine s_asg ?_
  refine c_fn ?_
  refine c_aCons ?_
  refine c_C ?_
  refine c_aCons ?_
  refine c_C ?_
  refine c_aCons ?_
  refine c_var rfl ?_
  refine c_aCons ?_
  refine c_var rfl ?_
  refine c_aNil ?_
  refine x_call (0, 0, wide, high) (fun t2 => [some (eP t1.2, .io), some (D.int wide, .cst), some (D.int high, .cst), some (D.int t1.1, .own), none, none, none, none, none, none, none, none, none]) h (.cons .tmp (.cons .tmp (.cons .tmp (.cons .tmp .nil)))) (ok_cons ok_cst (ok_cons ok_cst (ok_cons ok_cst (ok_cons ok_cst ok_nil)))) (apart_rd (by rfl)) (fun _ => rfl) fun t2 h => ?_
  refine g_n (e' := [some (eP t1.2, .io), some (D.int wide, .cst), some (D.int high, .cst), some (D.int t1.1, .own), some ((eL (eT2 D.int D.int)) t2, .own), none, none, none, none, none, none, none, none]) rfl rfl ?_
  refine s_seq ?_
  refine s_if ?_
  refine c_val ?_
  refine c_bin ?_
  refine c_var rfl ?_
  refine c_C ?_
  refine o_bin .tmp .tmp op_ltI ?_
  refine o_val .tmp tr_b ?_
  refine o_ifP h (fun hb h => ?_) (fun hb h => ?_)
  · skip
    refine s_ret ?_
    refine c_lc ?_
    refine c_iSeq ?_
    refine c_var rfl ?_
    refine o_sqS (e' := [some (eP t1.2, .io), some (D.int wide, .cst), some (D.int high, .cst), some (D.int t1.1, .own), some ((eL (eT2 D.int D.int)) t2, .lk), none, none, none, none, none, none, none, none]) rfl rfl rfl ?_
    obtain ⟨p3, h⟩ := h
    refine o_lcW (fI := (eT2 D.int D.int)) (fo := (eT2 D.int D.int)) (sh := fun (s : (Int × Int)) e => e = [some (eP s, .io), some (D.int wide, .cst), some (D.int high, .cst), some (D.int t1.1, .own), some ((eL (eT2 D.int D.int)) t2, .lk), none, none, none, none, none, none, none, none]) h (all1 rfl) p3 rfl (fun cell ha s e hs w c k1 k2 hc h1 h2 h => ?_) ?_
    · obtain rfl := hs
      refine g_n (e' := [some (eP s, .io), some (D.int wide, .cst), some (D.int high, .cst), some (D.int t1.1, .own), some ((eL (eT2 D.int D.int)) t2, .lk), none, none, none, none, none, none, none, some ((eT2 D.int D.int) cell, .own)]) rfl rfl (?_)
      refine c_val ?_
      refine c_bin ?_
      refine c_fn ?_
      refine c_aCons ?_
      refine c_var rfl ?_
      refine c_aCons ?_
      refine c_C ?_
      refine c_aNil ?_
      refine x_call (s, 3) (fun t4 => [some (eP t4.2, .io), some (D.int wide, .cst), some (D.int high, .cst), some (D.int t1.1, .own), some ((eL (eT2 D.int D.int)) t2, .lk), none, none, none, none, none, none, none, some ((eT2 D.int D.int) cell, .own)]) h (.cons (.sl (by rfl) (by rfl)) (.cons .tmp .nil)) (ok_cons (by rfl) (ok_cons ok_cst ok_nil)) (by rfl) (fun _ => rfl) fun t4 h => ?_
      refine c_bin ?_
      refine c_var rfl ?_
      refine c_C ?_
      refine o_bin .tmp .tmp (op_modI (by decide)) ?_
      refine o_bin .tmp .tmp op_gtI ?_
      refine o_val .tmp tr_b ?_
      refine o_ifP h (fun hb h => ?_) (fun hb h => h2 t4.2 _ rfl h)
      refine c_var rfl ?_
      exact o_el (.of (.sl (by rfl) (by rfl)) (Im.im (f := (eT2 D.int D.int)) _)) hc rfl (h1 _ t4.2 _ rfl h)
    rintro l5 s6 e hs h
    obtain rfl := hs
    refine o_rest (e' := [some (eP s6, .io), some (D.int wide, .cst), some (D.int high, .cst), some (D.int t1.1, .own), some ((eL (eT2 D.int D.int)) t2, .lk), none, none, none, none, none, none, none, none]) rfl ?_
    refine o_thaw (e' := [some (eP s6, .io), some (D.int wide, .cst), some (D.int high, .cst), some (D.int t1.1, .own), some ((eL (eT2 D.int D.int)) t2, .own), none, none, none, none, none, none, none, none]) rfl rfl ?_
    refine o_ret ?_
    exact q (l5, s6) h
  refine s_nil ?_
  refine s_seq ?_
  refine s_if ?_
  refine c_val ?_
  refine c_bin ?_
  refine c_var rfl ?_
  refine c_C ?_
  refine o_bin .tmp .tmp op_ltI ?_
  refine o_val .tmp tr_b ?_
  refine o_ifP h (fun hb h => ?_) (fun hb h => ?_)
  · skip
    refine s_seq ?_
    refine s_asg ?_
    refine c_dct (kf := (kf2 Sum.inl Sum.inl)) (f := D.bl) ?_
    refine g_N (f := (eDT (kf2 Sum.inl Sum.inl) D.bl)) (fun there => [some (eP t1.2, .io), some (D.int wide, .cst), some (D.int high, .cst), some (D.int t1.1, .own), some ((eL (eT2 D.int D.int)) t2, .own), some ((eDT (kf2 Sum.inl Sum.inl) D.bl) there, .own), none, none, none, none, none, none, none]) h rfl (fun _ => rfl) fun there h => ?_
    refine s_seq ?_
    refine s_for ?_
    refine c_rg1 ?_
    refine c_bin ?_
    refine c_C ?_
    refine c_fn ?_
    refine c_aCons ?_
    refine c_var rfl ?_
    refine c_aCons ?_
    refine c_C ?_
    refine c_aNil ?_
    refine x_call (t1.2, 5) (fun t7 => [some (eP t7.2, .io), some (D.int wide, .cst), some (D.int high, .cst), some (D.int t1.1, .own), some ((eL (eT2 D.int D.int)) t2, .own), some ((eDT (kf2 Sum.inl Sum.inl) D.bl) there, .own), none, none, none, none, none, none, none]) h (.cons (.sl (by rfl) (by rfl)) (.cons .tmp .nil)) (ok_cons (by rfl) (ok_cons ok_cst ok_nil)) (by rfl) (fun _ => rfl) fun t7 h => ?_
    refine o_bin .tmp .tmp op_addI ?_
    obtain ⟨p8, h⟩ := h
    refine o_rg1 p8 ?_
    refine o_for (fI := D.int) (sh := fun (s9 : ((Int × Int) × (List ((Int × Int) × Bool)))) e => ∃ c6 c7 c8 c9 c10 : Option (D × Md), (setS (some c6) = true ∧ setS (some c7) = true ∧ setS (some c8) = true ∧ setS (some c9) = true ∧ setS (some c10) = true) ∧ e = [some (eP s9.1, .io), some (D.int wide, .cst), some (D.int high, .cst), some (D.int t1.1, .own), some ((eL (eT2 D.int D.int)) t2, .own), some ((eDT (kf2 Sum.inl Sum.inl) D.bl) s9.2, .own), c6, c7, c8, c9, c10, none, none]) h ⟨_, _, _, _, _, ⟨rfl, rfl, rfl, rfl, rfl⟩, rfl⟩ (fun turn ha s9 e hs kk10 nxkk10 hJ10 h => ?_) ?_
    · skip
      obtain ⟨c6, c7, c8, c9, c10, ⟨hc6, hc7, hc8, hc9, hc10⟩, rfl⟩ := hs
      refine g_n (e' := [some (eP s9.1, .io), some (D.int wide, .cst), some (D.int high, .cst), some (D.int t1.1, .own), some ((eL (eT2 D.int D.int)) t2, .own), some ((eDT (kf2 Sum.inl Sum.inl) D.bl) s9.2, .own), some (D.int turn, .own), c7, c8, c9, c10, none, none]) hc6 rfl (?_)
      refine s_seq ?_
      refine s_par ?_
      refine c_aCons ?_
      refine c_fn ?_
      refine c_aCons ?_
      refine c_var rfl ?_
      refine c_aCons ?_
      refine c_var rfl ?_
      refine c_aNil ?_
      refine x_call (s9.1, wide) (fun t11 => [some (eP t11.2, .io), some (D.int wide, .cst), some (D.int high, .cst), some (D.int t1.1, .own), some ((eL (eT2 D.int D.int)) t2, .own), some ((eDT (kf2 Sum.inl Sum.inl) D.bl) s9.2, .own), some (D.int turn, .own), c7, c8, c9, c10, none, none]) h (.cons (.sl (by rfl) (by rfl)) (.cons .tmp .nil)) (ok_cons (by rfl) (ok_cons ok_cst ok_nil)) (by rfl) (fun _ => rfl) fun t11 h => ?_
      refine c_aCons ?_
      refine c_fn ?_
      refine c_aCons ?_
      refine c_var rfl ?_
      refine c_aCons ?_
      refine c_var rfl ?_
      refine c_aNil ?_
      refine x_call (t11.2, high) (fun t12 => [some (eP t12.2, .io), some (D.int wide, .cst), some (D.int high, .cst), some (D.int t1.1, .own), some ((eL (eT2 D.int D.int)) t2, .own), some ((eDT (kf2 Sum.inl Sum.inl) D.bl) s9.2, .own), some (D.int turn, .own), c7, c8, c9, c10, none, none]) h (.cons (.sl (by rfl) (by rfl)) (.cons .tmp .nil)) (ok_cons (by rfl) (ok_cons ok_cst ok_nil)) (by rfl) (fun _ => rfl) fun t12 h => ?_
      refine c_aNil ?_
      refine o_par (f := D.int) (g := D.int) (fun x y => [some (eP t12.2, .io), some (D.int wide, .cst), some (D.int high, .cst), some (D.int t1.1, .own), some ((eL (eT2 D.int D.int)) t2, .own), some ((eDT (kf2 Sum.inl Sum.inl) D.bl) s9.2, .own), some (D.int turn, .own), some (D.int x, .own), some (D.int y, .own), c9, c10, none, none]) .tmp .tmp h hc7 hc8 (fun _ _ => rfl) fun x y h => ?_
      refine s_seq ?_
      refine s_asg ?_
      refine c_fn ?_
      refine c_aCons ?_
      refine c_var rfl ?_
      refine c_aCons ?_
      refine c_var rfl ?_
      refine c_aCons ?_
      refine c_bin ?_
      refine c_C ?_
      refine c_fn ?_
      refine c_aCons ?_
      refine c_var rfl ?_
      refine c_aCons ?_
      refine c_bin ?_
      refine c_var rfl ?_
      refine c_var rfl ?_
      refine o_bin .tmp .tmp op_subI ?_
      refine c_aNil ?_
      refine x_call (t12.2, (wide - x)) (fun t13 => [some (eP t13.2, .io), some (D.int wide, .cst), some (D.int high, .cst), some (D.int t1.1, .own), some ((eL (eT2 D.int D.int)) t2, .own), some ((eDT (kf2 Sum.inl Sum.inl) D.bl) s9.2, .own), some (D.int turn, .own), some (D.int x, .own), some (D.int y, .own), c9, c10, none, none]) h (.cons (.sl (by rfl) (by rfl)) (.cons .tmp .nil)) (ok_cons (by rfl) (ok_cons ok_cst ok_nil)) (by rfl) (fun _ => rfl) fun t13 h => ?_
      refine o_bin .tmp .tmp op_addI ?_
      refine c_aCons ?_
      refine c_bin ?_
      refine c_C ?_
      refine c_fn ?_
      refine c_aCons ?_
      refine c_var rfl ?_
      refine c_aCons ?_
      refine c_bin ?_
      refine c_var rfl ?_
      refine c_var rfl ?_
      refine o_bin .tmp .tmp op_subI ?_
      refine c_aNil ?_
      refine x_call (t13.2, (high - y)) (fun t14 => [some (eP t14.2, .io), some (D.int wide, .cst), some (D.int high, .cst), some (D.int t1.1, .own), some ((eL (eT2 D.int D.int)) t2, .own), some ((eDT (kf2 Sum.inl Sum.inl) D.bl) s9.2, .own), some (D.int turn, .own), some (D.int x, .own), some (D.int y, .own), c9, c10, none, none]) h (.cons (.sl (by rfl) (by rfl)) (.cons .tmp .nil)) (ok_cons (by rfl) (ok_cons ok_cst ok_nil)) (by rfl) (fun _ => rfl) fun t14 h => ?_
      refine o_bin .tmp .tmp op_addI ?_
      refine c_aNil ?_
      refine x_call (x, y, (1 + t13.1), (1 + t14.1)) (fun t15 => [some (eP t14.2, .io), some (D.int wide, .cst), some (D.int high, .cst), some (D.int t1.1, .own), some ((eL (eT2 D.int D.int)) t2, .own), some ((eDT (kf2 Sum.inl Sum.inl) D.bl) s9.2, .own), some (D.int turn, .own), some (D.int x, .own), some (D.int y, .own), c9, c10, none, none]) h (.cons .tmp (.cons .tmp (.cons .tmp (.cons .tmp .nil)))) (ok_cons ok_cst (ok_cons ok_cst (ok_cons ok_cst (ok_cons ok_cst ok_nil)))) (apart_rd (by rfl)) (fun _ => rfl) fun t15 h => ?_
      refine g_n (e' := [some (eP t14.2, .io), some (D.int wide, .cst), some (D.int high, .cst), some (D.int t1.1, .own), some ((eL (eT2 D.int D.int)) t2, .own), some ((eDT (kf2 Sum.inl Sum.inl) D.bl) s9.2, .own), some (D.int turn, .own), some (D.int x, .own), some (D.int y, .own), some ((eL (eT2 D.int D.int)) t15, .own), c10, none, none]) hc9 rfl ?_
      refine s_seq ?_
      refine s_asg ?_
      refine c_orVi ?_
      refine c_bin ?_
      refine c_var rfl ?_
      refine c_C ?_
      refine o_bin .tmp .tmp (op_eq (f := D.int)) ?_
      refine o_valB .tmp ?_
      refine o_orVi (sh := fun (s : (Int × Int)) e => e = [some (eP s, .io), some (D.int wide, .cst), some (D.int high, .cst), some (D.int t1.1, .own), some ((eL (eT2 D.int D.int)) t2, .own), some ((eDT (kf2 Sum.inl Sum.inl) D.bl) s9.2, .own), some (D.int turn, .own), some (D.int x, .own), some (D.int y, .own), some ((eL (eT2 D.int D.int)) t15, .own), c10, none, none]) h rfl (fun hb kk16 N hJ16 h => ?_) ?_
      · skip
        refine c_bin ?_
        refine c_fn ?_
        refine c_aCons ?_
        refine c_var rfl ?_
        refine c_aCons ?_
        refine c_C ?_
        refine c_aNil ?_
        refine x_call (t14.2, 3) (fun t17 => [some (eP t17.2, .io), some (D.int wide, .cst), some (D.int high, .cst), some (D.int t1.1, .own), some ((eL (eT2 D.int D.int)) t2, .own), some ((eDT (kf2 Sum.inl Sum.inl) D.bl) s9.2, .own), some (D.int turn, .own), some (D.int x, .own), some (D.int y, .own), some ((eL (eT2 D.int D.int)) t15, .own), c10, none, none]) h (.cons (.sl (by rfl) (by rfl)) (.cons .tmp .nil)) (ok_cons (by rfl) (ok_cons ok_cst ok_nil)) (by rfl) (fun _ => rfl) fun t17 h => ?_
        refine c_C ?_
        refine o_bin .tmp .tmp op_gtI ?_
        exact hJ16 ((decide (0 < t17.1)), t17.2) _ rfl h
      rintro b18 e hs h
      obtain rfl := hs
      refine g_n (e' := [some (eP b18.2, .io), some (D.int wide, .cst), some (D.int high, .cst), some (D.int t1.1, .own), some ((eL (eT2 D.int D.int)) t2, .own), some ((eDT (kf2 Sum.inl Sum.inl) D.bl) s9.2, .own), some (D.int turn, .own), some (D.int x, .own), some (D.int y, .own), some ((eL (eT2 D.int D.int)) t15, .own), some (D.bl b18.1, .own), none, none]) hc10 rfl ?_
      refine s_expr ?_
      refine c_mn (by rfl) (.sl (by rfl) (by rfl)) (by rfl) ?_
      refine c_aCons ?_
      refine c_lc ?_
      refine c_iSeq ?_
      refine c_var rfl ?_
      refine o_sqS (e' := [some (eP b18.2, .io), some (D.int wide, .cst), some (D.int high, .cst), some (D.int t1.1, .own), some ((eL (eT2 D.int D.int)) t2, .own), some ((eDT (kf2 Sum.inl Sum.inl) D.bl) s9.2, .own), some (D.int turn, .own), some (D.int x, .own), some (D.int y, .own), some ((eL (eT2 D.int D.int)) t15, .lk), some (D.bl b18.1, .own), none, none]) rfl rfl rfl ?_
      obtain ⟨p19, h⟩ := h
      refine o_lcM (e := [some (eP b18.2, .io), some (D.int wide, .cst), some (D.int high, .cst), some (D.int t1.1, .own), some ((eL (eT2 D.int D.int)) t2, .own), some ((eDT (kf2 Sum.inl Sum.inl) D.bl) s9.2, .own), some (D.int turn, .own), some (D.int x, .own), some (D.int y, .own), some ((eL (eT2 D.int D.int)) t15, .lk), some (D.bl b18.1, .own), none, none]) (fI := (eT2 D.int D.int)) (fo := (eT2 (eT2 D.int D.int) D.bl)) (fun cell => (cell, b18.1)) (all1 rfl) p19 rfl (fun cell ha c k1 hc h1 => ?_) ?_
      · skip
        refine g_n (e' := [some (eP b18.2, .io), some (D.int wide, .cst), some (D.int high, .cst), some (D.int t1.1, .own), some ((eL (eT2 D.int D.int)) t2, .own), some ((eDT (kf2 Sum.inl Sum.inl) D.bl) s9.2, .own), some (D.int turn, .own), some (D.int x, .own), some (D.int y, .own), some ((eL (eT2 D.int D.int)) t15, .lk), some (D.bl b18.1, .own), none, some ((eT2 D.int D.int) cell, .own)]) rfl rfl (?_)
        refine c_tup ?_
        refine c_aCons ?_
        refine c_var rfl ?_
        refine c_aCons ?_
        refine c_var rfl ?_
        refine c_aNil ?_
        refine o_tup2 (eT2 D.int D.int) D.bl cell b18.1 (.cons (.of (.sl (by rfl) (by rfl)) (Im.im (f := (eT2 D.int D.int)) _)) (.cons .tmp .nil)) ?_
        exact o_el .tmp hc rfl h1
      refine o_rest (e' := [some (eP b18.2, .io), some (D.int wide, .cst), some (D.int high, .cst), some (D.int t1.1, .own), some ((eL (eT2 D.int D.int)) t2, .own), some ((eDT (kf2 Sum.inl Sum.inl) D.bl) s9.2, .own), some (D.int turn, .own), some (D.int x, .own), some (D.int y, .own), some ((eL (eT2 D.int D.int)) t15, .lk), some (D.bl b18.1, .own), none, none]) rfl ?_
      refine o_thaw (e' := [some (eP b18.2, .io), some (D.int wide, .cst), some (D.int high, .cst), some (D.int t1.1, .own), some ((eL (eT2 D.int D.int)) t2, .own), some ((eDT (kf2 Sum.inl Sum.inl) D.bl) s9.2, .own), some (D.int turn, .own), some (D.int x, .own), some (D.int y, .own), some ((eL (eT2 D.int D.int)) t15, .own), some (D.bl b18.1, .own), none, none]) rfl rfl ?_
      refine c_aNil ?_
      obtain ⟨p20, h⟩ := h
      refine o_upd (c := (eT2 D.int D.int)) (f := D.bl) (fun there => [some (eP b18.2, .io), some (D.int wide, .cst), some (D.int high, .cst), some (D.int t1.1, .own), some ((eL (eT2 D.int D.int)) t2, .own), some ((eDT (kf2 Sum.inl Sum.inl) D.bl) there, .own), some (D.int turn, .own), some (D.int x, .own), some (D.int y, .own), some ((eL (eT2 D.int D.int)) t15, .own), some (D.bl b18.1, .own), none, none]) h .tmp (by rfl) p20 (fun _ => rfl) fun there h => ?_
      exact hJ10 (b18.2, there) _ ⟨_, _, _, _, _, ⟨rfl, rfl, rfl, rfl, rfl⟩, rfl⟩ h
    rintro s9 e hs h
    obtain ⟨c6, c7, c8, c9, c10, ⟨hc6, hc7, hc8, hc9, hc10⟩, rfl⟩ := hs
    refine o_thaw0 ?_
    refine s_ret ?_
    refine c_lc ?_
    refine c_iSeq ?_
    refine c_var rfl ?_
    refine o_sqS (e' := [some (eP s9.1, .io), some (D.int wide, .cst), some (D.int high, .cst), some (D.int t1.1, .own), some ((eL (eT2 D.int D.int)) t2, .lk), some ((eDT (kf2 Sum.inl Sum.inl) D.bl) s9.2, .own), c6, c7, c8, c9, c10, none, none]) rfl rfl rfl ?_
    obtain ⟨p21, h⟩ := h
    refine o_lcFi (e := [some (eP s9.1, .io), some (D.int wide, .cst), some (D.int high, .cst), some (D.int t1.1, .own), some ((eL (eT2 D.int D.int)) t2, .lk), some ((eDT (kf2 Sum.inl Sum.inl) D.bl) s9.2, .own), c6, c7, c8, c9, c10, none, none]) (fI := (eT2 D.int D.int)) (fo := (eT2 D.int D.int)) (fun cell => ((getA s9.2 cell).getD false)) (all1 rfl) p21 rfl (fun cell ha c k1 k2 hc h1 h2 => ?_) ?_
    · skip
      refine g_n (e' := [some (eP s9.1, .io), some (D.int wide, .cst), some (D.int high, .cst), some (D.int t1.1, .own), some ((eL (eT2 D.int D.int)) t2, .lk), some ((eDT (kf2 Sum.inl Sum.inl) D.bl) s9.2, .own), c6, c7, c8, c9, c10, none, some ((eT2 D.int D.int) cell, .own)]) rfl rfl (?_)
      refine c_val ?_
      refine c_mn (by rfl) (.sl (by rfl) (by rfl)) (by rfl) ?_
      refine c_aCons ?_
      refine c_var rfl ?_
      refine c_aCons ?_
      refine c_C ?_
      refine c_aNil ?_
      refine o_get2 (c := (eT2 D.int D.int)) (f := D.bl) (.sl (by rfl) (by rfl)) (.sl (by rfl) (by rfl)) .tmp ?_
      refine o_val .tmp tr_b ?_
      refine ⟨fun hb => ?_, fun hb => h2 hb⟩
      refine c_var rfl ?_
      exact o_el (.of (.sl (by rfl) (by rfl)) (Im.im (f := (eT2 D.int D.int)) _)) hc rfl (h1 hb)
    refine o_rest (e' := [some (eP s9.1, .io), some (D.int wide, .cst), some (D.int high, .cst), some (D.int t1.1, .own), some ((eL (eT2 D.int D.int)) t2, .lk), some ((eDT (kf2 Sum.inl Sum.inl) D.bl) s9.2, .own), c6, c7, c8, c9, c10, none, none]) rfl ?_
    refine o_thaw (e' := [some (eP s9.1, .io), some (D.int wide, .cst), some (D.int high, .cst), some (D.int t1.1, .own), some ((eL (eT2 D.int D.int)) t2, .own), some ((eDT (kf2 Sum.inl Sum.inl) D.bl) s9.2, .own), c6, c7, c8, c9, c10, none, none]) rfl rfl ?_
    refine o_ret ?_
    exact q ((t2.filter (fun cell => ((getA s9.2 cell).getD false))), s9.1) h
  refine s_nil ?_
  refine s_seq ?_
  refine s_if ?_
  refine c_val ?_
  refine c_bin ?_
  refine c_var rfl ?_
  refine c_C ?_
  refine o_bin .tmp .tmp (op_eq (f := D.int)) ?_
  refine o_val .tmp tr_b ?_
  refine o_ifP h (fun hb h => ?_) (fun hb h => ?_)
  · skip
    refine s_ret ?_
    refine c_lc ?_
    refine c_iSeq ?_
    refine c_var rfl ?_
    refine o_sqS (e' := [some (eP t1.2, .io), some (D.int wide, .cst), some (D.int high, .cst), some (D.int t1.1, .own), some ((eL (eT2 D.int D.int)) t2, .lk), none, none, none, none, none, none, none, none]) rfl rfl rfl ?_
    obtain ⟨p22, h⟩ := h
    refine o_lcW (fI := (eT2 D.int D.int)) (fo := (eT2 D.int D.int)) (sh := fun (s : (Int × Int)) e => e = [some (eP s, .io), some (D.int wide, .cst), some (D.int high, .cst), some (D.int t1.1, .own), some ((eL (eT2 D.int D.int)) t2, .lk), none, none, none, none, none, none, none, none]) h (all1 rfl) p22 rfl (fun cell ha s e hs w c k1 k2 hc h1 h2 h => ?_) ?_
    · obtain rfl := hs
      refine g_n (e' := [some (eP s, .io), some (D.int wide, .cst), some (D.int high, .cst), some (D.int t1.1, .own), some ((eL (eT2 D.int D.int)) t2, .lk), none, none, none, none, none, none, none, some ((eT2 D.int D.int) cell, .own)]) rfl rfl (?_)
      refine c_val ?_
      refine c_bin ?_
      refine c_fn ?_
      refine c_aCons ?_
      refine c_var rfl ?_
      refine c_aCons ?_
      refine c_C ?_
      refine c_aNil ?_
      refine x_call (s, 6) (fun t23 => [some (eP t23.2, .io), some (D.int wide, .cst), some (D.int high, .cst), some (D.int t1.1, .own), some ((eL (eT2 D.int D.int)) t2, .lk), none, none, none, none, none, none, none, some ((eT2 D.int D.int) cell, .own)]) h (.cons (.sl (by rfl) (by rfl)) (.cons .tmp .nil)) (ok_cons (by rfl) (ok_cons ok_cst ok_nil)) (by rfl) (fun _ => rfl) fun t23 h => ?_
      refine c_C ?_
      refine o_bin .tmp .tmp op_gtI ?_
      refine o_val .tmp tr_b ?_
      refine o_ifP h (fun hb h => ?_) (fun hb h => h2 t23.2 _ rfl h)
      refine c_var rfl ?_
      exact o_el (.of (.sl (by rfl) (by rfl)) (Im.im (f := (eT2 D.int D.int)) _)) hc rfl (h1 _ t23.2 _ rfl h)
    rintro l24 s25 e hs h
    obtain rfl := hs
    refine o_rest (e' := [some (eP s25, .io), some (D.int wide, .cst), some (D.int high, .cst), some (D.int t1.1, .own), some ((eL (eT2 D.int D.int)) t2, .lk), none, none, none, none, none, none, none, none]) rfl ?_
    refine o_thaw (e' := [some (eP s25, .io), some (D.int wide, .cst), some (D.int high, .cst), some (D.int t1.1, .own), some ((eL (eT2 D.int D.int)) t2, .own), none, none, none, none, none, none, none, none]) rfl rfl ?_
    refine o_ret ?_
    exact q (l24, s25) h
  refine s_nil ?_
  refine s_seq ?_
  refine s_if ?_
  refine c_val ?_
  refine c_bin ?_
  refine c_var rfl ?_
  refine c_C ?_
  refine o_bin .tmp .tmp (op_eq (f := D.int)) ?_
  refine o_val .tmp tr_b ?_
  refine o_ifP h (fun hb h => ?_) (fun hb h => ?_)
  · skip
    refine s_seq ?_
    refine s_asg ?_
    refine c_lc ?_
    refine c_rg1 ?_
    refine c_var rfl ?_
    obtain ⟨p26, h⟩ := h
    refine o_rg1 p26 ?_
    obtain ⟨p27, h⟩ := h
    refine o_lcW (fI := D.int) (fo := D.int) (sh := fun (s : (Int × Int)) e => e = [some (eP s, .io), some (D.int wide, .cst), some (D.int high, .cst), some (D.int t1.1, .own), some ((eL (eT2 D.int D.int)) t2, .own), none, none, none, none, none, none, none, none]) h (all1 rfl) p27 rfl (fun x ha s e hs w c k1 k2 hc h1 h2 h => ?_) ?_
    · obtain rfl := hs
      refine g_n (e' := [some (eP s, .io), some (D.int wide, .cst), some (D.int high, .cst), some (D.int t1.1, .own), some ((eL (eT2 D.int D.int)) t2, .own), none, none, some (D.int x, .own), none, none, none, none, none]) rfl rfl (?_)
      refine c_yes ?_
      refine c_bin ?_
      refine c_C ?_
      refine c_fn ?_
      refine c_aCons ?_
      refine c_var rfl ?_
      refine c_aCons ?_
      refine c_var rfl ?_
      refine c_aNil ?_
      refine x_call (s, high) (fun t28 => [some (eP t28.2, .io), some (D.int wide, .cst), some (D.int high, .cst), some (D.int t1.1, .own), some ((eL (eT2 D.int D.int)) t2, .own), none, none, some (D.int x, .own), none, none, none, none, none]) h (.cons (.sl (by rfl) (by rfl)) (.cons .tmp .nil)) (ok_cons (by rfl) (ok_cons ok_cst ok_nil)) (by rfl) (fun _ => rfl) fun t28 h => ?_
      refine o_bin .tmp .tmp op_addI ?_
      exact o_el .tmp hc rfl (h1 _ t28.2 _ rfl h)
    rintro l29 s30 e hs h
    obtain rfl := hs
    refine o_rest (e' := [some (eP s30, .io), some (D.int wide, .cst), some (D.int high, .cst), some (D.int t1.1, .own), some ((eL (eT2 D.int D.int)) t2, .own), none, none, none, none, none, none, none, none]) rfl ?_
    refine o_thaw0 ?_
    refine g_n (e' := [some (eP s30, .io), some (D.int wide, .cst), some (D.int high, .cst), some (D.int t1.1, .own), some ((eL (eT2 D.int D.int)) t2, .own), none, none, none, none, none, none, some ((eL D.int) l29, .own), none]) rfl rfl ?_
    refine s_ret ?_
    refine c_lc ?_
    refine c_iSeq ?_
    refine c_var rfl ?_
    refine o_sqS (e' := [some (eP s30, .io), some (D.int wide, .cst), some (D.int high, .cst), some (D.int t1.1, .own), some ((eL (eT2 D.int D.int)) t2, .lk), none, none, none, none, none, none, some ((eL D.int) l29, .own), none]) rfl rfl rfl ?_
    obtain ⟨p31, h⟩ := h
    refine o_lcW (fI := (eT2 D.int D.int)) (fo := (eT2 D.int D.int)) (sh := fun (s : (Int × Int)) e => e = [some (eP s, .io), some (D.int wide, .cst), some (D.int high, .cst), some (D.int t1.1, .own), some ((eL (eT2 D.int D.int)) t2, .lk), none, none, none, none, none, none, some ((eL D.int) l29, .own), none]) h (all1 rfl) p31 rfl (fun cell ha s e hs w c k1 k2 hc h1 h2 h => ?_) ?_
    · obtain rfl := hs
      refine g_n (e' := [some (eP s, .io), some (D.int wide, .cst), some (D.int high, .cst), some (D.int t1.1, .own), some ((eL (eT2 D.int D.int)) t2, .lk), none, none, none, none, none, none, some ((eL D.int) l29, .own), some ((eT2 D.int D.int) cell, .own)]) rfl rfl (?_)
      refine c_val ?_
      refine c_bin ?_
      refine c_idx ?_
      refine c_var rfl ?_
      refine c_C ?_
      refine o_idx (.sl (by rfl) (by rfl)) .tmp ix_21 (.sl (Im.im (f := D.int) _)) ?_
      refine c_idx ?_
      refine c_lst ?_
      refine c_aCons ?_
      refine c_idx ?_
      refine c_var rfl ?_
      refine c_idx ?_
      refine c_var rfl ?_
      refine c_C ?_
      refine o_idx (.sl (by rfl) (by rfl)) .tmp ix_20 (.sl (Im.im (f := D.int) _)) ?_
      obtain ⟨x32, p33, h⟩ := h
      refine o_idx (.sl (by rfl) (by rfl)) .tmp (ix_L p33) (.sl (Im.im (f := D.int) _)) ?_
      refine c_aCons ?_
      refine c_C ?_
      refine c_aNil ?_
      refine o_lstL D.int [x32, 1] (.cons .tmp (.cons .tmp .nil)) ?_
      refine c_bin ?_
      refine c_bin ?_
      refine c_idx ?_
      refine c_var rfl ?_
      refine c_C ?_
      refine o_idx (.sl (by rfl) (by rfl)) .tmp ix_20 (.sl (Im.im (f := D.int) _)) ?_
      refine c_C ?_
      refine o_bin .tmp .tmp (op_modI (by decide)) ?_
      refine c_fn ?_
      refine c_aCons ?_
      refine c_var rfl ?_
      refine c_aCons ?_
      refine c_C ?_
      refine c_aNil ?_
      refine x_call (s, 2) (fun t34 => [some (eP t34.2, .io), some (D.int wide, .cst), some (D.int high, .cst), some (D.int t1.1, .own), some ((eL (eT2 D.int D.int)) t2, .lk), none, none, none, none, none, none, some ((eL D.int) l29, .own), some ((eT2 D.int D.int) cell, .own)]) h (.cons (.sl (by rfl) (by rfl)) (.cons .tmp .nil)) (ok_cons (by rfl) (ok_cons ok_cst ok_nil)) (by rfl) (fun _ => rfl) fun t34 h => ?_
      obtain ⟨p35, h⟩ := h
      refine o_bin .tmp .tmp (op_mulI p35) ?_
      obtain ⟨x36, p37, h⟩ := h
      refine o_idx .tmp .tmp (ix_L p37) .tmp ?_
      refine o_bin .tmp .tmp op_ltI ?_
      refine o_val .tmp tr_b ?_
      refine o_ifP h (fun hb h => ?_) (fun hb h => h2 t34.2 _ rfl h)
      refine c_var rfl ?_
      exact o_el (.of (.sl (by rfl) (by rfl)) (Im.im (f := (eT2 D.int D.int)) _)) hc rfl (h1 _ t34.2 _ rfl h)
    rintro l38 s39 e hs h
    obtain rfl := hs
    refine o_rest (e' := [some (eP s39, .io), some (D.int wide, .cst), some (D.int high, .cst), some (D.int t1.1, .own), some ((eL (eT2 D.int D.int)) t2, .lk), none, none, none, none, none, none, some ((eL D.int) l29, .own), none]) rfl ?_
    refine o_thaw (e' := [some (eP s39, .io), some (D.int wide, .cst), some (D.int high, .cst), some (D.int t1.1, .own), some ((eL (eT2 D.int D.int)) t2, .own), none, none, none, none, none, none, some ((eL D.int) l29, .own), none]) rfl rfl ?_
    refine o_ret ?_
    exact q (l38, s39) h
  refine s_nil ?_
  refine s_seq ?_
  refine s_if ?_
  refine c_val ?_
  refine c_bin ?_
  refine c_var rfl ?_
  refine c_C ?_
  refine o_bin .tmp .tmp (op_eq (f := D.int)) ?_
  refine o_val .tmp tr_b ?_
  refine o_ifP h (fun hb h => ?_) (fun hb h => ?_)
  · skip
    refine s_ret ?_
    refine c_lc ?_
    refine c_iSeq ?_
    refine c_var rfl ?_
    refine o_sqS (e' := [some (eP t1.2, .io), some (D.int wide, .cst), some (D.int high, .cst), some (D.int t1.1, .own), some ((eL (eT2 D.int D.int)) t2, .lk), none, none, none, none, none, none, none, none]) rfl rfl rfl ?_
    obtain ⟨p40, h⟩ := h
    refine o_lcW (fI := (eT2 D.int D.int)) (fo := (eT2 D.int D.int)) (sh := fun (s : (Int × Int)) e => e = [some (eP s, .io), some (D.int wide, .cst), some (D.int high, .cst), some (D.int t1.1, .own), some ((eL (eT2 D.int D.int)) t2, .lk), none, none, none, none, none, none, none, none]) h (all1 rfl) p40 rfl (fun cell ha s e hs w c k1 k2 hc h1 h2 h => ?_) ?_
    · obtain rfl := hs
      refine g_n (e' := [some (eP s, .io), some (D.int wide, .cst), some (D.int high, .cst), some (D.int t1.1, .own), some ((eL (eT2 D.int D.int)) t2, .lk), none, none, none, none, none, none, none, some ((eT2 D.int D.int) cell, .own)]) rfl rfl (?_)
      refine c_orTi ?_
      refine c_val ?_
      refine c_bin ?_
      refine c_bin ?_
      refine c_idx ?_
      refine c_var rfl ?_
      refine c_C ?_
      refine o_idx (.sl (by rfl) (by rfl)) .tmp ix_20 (.sl (Im.im (f := D.int) _)) ?_
      refine c_C ?_
      refine o_bin .tmp .tmp (op_modI (by decide)) ?_
      refine c_C ?_
      refine o_bin .tmp .tmp (op_eq (f := D.int)) ?_
      refine o_val .tmp tr_b ?_
      refine o_orTi (sh := fun (s : (Int × Int)) e => e = [some (eP s, .io), some (D.int wide, .cst), some (D.int high, .cst), some (D.int t1.1, .own), some ((eL (eT2 D.int D.int)) t2, .lk), none, none, none, none, none, none, none, some ((eT2 D.int D.int) cell, .own)]) h rfl (fun hb kk41 N hJ41 h => ?_) ?_
      · skip
        refine c_orTi ?_
        refine c_val ?_
        refine c_bin ?_
        refine c_bin ?_
        refine c_idx ?_
        refine c_var rfl ?_
        refine c_C ?_
        refine o_idx (.sl (by rfl) (by rfl)) .tmp ix_21 (.sl (Im.im (f := D.int) _)) ?_
        refine c_C ?_
        refine o_bin .tmp .tmp (op_modI (by decide)) ?_
        refine c_C ?_
        refine o_bin .tmp .tmp (op_eq (f := D.int)) ?_
        refine o_val .tmp tr_b ?_
        refine o_orTi (sh := fun (s : (Int × Int)) e => e = [some (eP s, .io), some (D.int wide, .cst), some (D.int high, .cst), some (D.int t1.1, .own), some ((eL (eT2 D.int D.int)) t2, .lk), none, none, none, none, none, none, none, some ((eT2 D.int D.int) cell, .own)]) h rfl (fun hb kk42 N hJ42 h => ?_) ?_
        · skip
          refine c_val ?_
          refine c_bin ?_
          refine c_fn ?_
          refine c_aCons ?_
          refine c_var rfl ?_
          refine c_aCons ?_
          refine c_C ?_
          refine c_aNil ?_
          refine x_call (s, 8) (fun t43 => [some (eP t43.2, .io), some (D.int wide, .cst), some (D.int high, .cst), some (D.int t1.1, .own), some ((eL (eT2 D.int D.int)) t2, .lk), none, none, none, none, none, none, none, some ((eT2 D.int D.int) cell, .own)]) h (.cons (.sl (by rfl) (by rfl)) (.cons .tmp .nil)) (ok_cons (by rfl) (ok_cons ok_cst ok_nil)) (by rfl) (fun _ => rfl) fun t43 h => ?_
          refine c_C ?_
          refine o_bin .tmp .tmp (op_eq (f := D.int)) ?_
          refine o_val .tmp tr_b ?_
          exact hJ42 ((decide (t43.1 = 0)), t43.2) _ rfl h
        rintro b44 e hs h
        obtain rfl := hs
        exact hJ41 (b44.1, b44.2) _ rfl h
      rintro b45 e hs h
      obtain rfl := hs
      refine o_ifP h (fun hb h => ?_) (fun hb h => h2 b45.2 _ rfl h)
      refine c_var rfl ?_
      exact o_el (.of (.sl (by rfl) (by rfl)) (Im.im (f := (eT2 D.int D.int)) _)) hc rfl (h1 _ b45.2 _ rfl h)
    rintro l46 s47 e hs h
    obtain rfl := hs
    refine o_rest (e' := [some (eP s47, .io), some (D.int wide, .cst), some (D.int high, .cst), some (D.int t1.1, .own), some ((eL (eT2 D.int D.int)) t2, .lk), none, none, none, none, none, none, none, none]) rfl ?_
    refine o_thaw (e' := [some (eP s47, .io), some (D.int wide, .cst), some (D.int high, .cst), some (D.int t1.1, .own), some ((eL (eT2 D.int D.int)) t2, .own), none, none, none, none, none, none, none, none]) rfl rfl ?_
    refine o_ret ?_
    exact q (l46, s47) h
  refine s_nil ?_
  refine s_ret ?_
  refine c_lc ?_
  refine c_iSeq ?_
  refine c_var rfl ?_
  refine o_sqS (e' := [some (eP t1.2, .io), some (D.int wide, .cst), some (D.int high, .cst), some (D.int t1.1, .own), some ((eL (eT2 D.int D.int)) t2, .lk), none, none, none, none, none, none, none, none]) rfl rfl rfl ?_
  obtain ⟨p48, h⟩ := h
  refine o_lcW (fI := (eT2 D.int D.int)) (fo := (eT2 D.int D.int)) (sh := fun (s : (Int × Int)) e => e = [some (eP s, .io), some (D.int wide, .cst), some (D.int high, .cst), some (D.int t1.1, .own), some ((eL (eT2 D.int D.int)) t2, .lk), none, none, none, none, none, none, none, none]) h (all1 rfl) p48 rfl (fun cell ha s e hs w c k1 k2 hc h1 h2 h => ?_) ?_
  · obtain rfl := hs
    refine g_n (e' := [some (eP s, .io), some (D.int wide, .cst), some (D.int high, .cst), some (D.int t1.1, .own), some ((eL (eT2 D.int D.int)) t2, .lk), none, none, none, none, none, none, none, some ((eT2 D.int D.int) cell, .own)]) rfl rfl (?_)
    refine c_orTi ?_
    refine c_val ?_
    refine c_bin ?_
    refine c_bin ?_
    refine c_bin ?_
    refine c_idx ?_
    refine c_var rfl ?_
    refine c_C ?_
    refine o_idx (.sl (by rfl) (by rfl)) .tmp ix_20 (.sl (Im.im (f := D.int) _)) ?_
    refine c_idx ?_
    refine c_var rfl ?_
    refine c_C ?_
    refine o_idx (.sl (by rfl) (by rfl)) .tmp ix_21 (.sl (Im.im (f := D.int) _)) ?_
    refine o_bin .tmp .tmp op_addI ?_
    refine c_C ?_
    refine o_bin .tmp .tmp (op_modI (by decide)) ?_
    refine c_C ?_
    refine o_bin .tmp .tmp (op_eq (f := D.int)) ?_
    refine o_val .tmp tr_b ?_
    refine o_orTi (sh := fun (s : (Int × Int)) e => e = [some (eP s, .io), some (D.int wide, .cst), some (D.int high, .cst), some (D.int t1.1, .own), some ((eL (eT2 D.int D.int)) t2, .lk), none, none, none, none, none, none, none, some ((eT2 D.int D.int) cell, .own)]) h rfl (fun hb kk49 N hJ49 h => ?_) ?_
    · skip
      refine c_val ?_
      refine c_bin ?_
      refine c_fn ?_
      refine c_aCons ?_
      refine c_var rfl ?_
      refine c_aCons ?_
      refine c_C ?_
      refine c_aNil ?_
      refine x_call (s, 2) (fun t50 => [some (eP t50.2, .io), some (D.int wide, .cst), some (D.int high, .cst), some (D.int t1.1, .own), some ((eL (eT2 D.int D.int)) t2, .lk), none, none, none, none, none, none, none, some ((eT2 D.int D.int) cell, .own)]) h (.cons (.sl (by rfl) (by rfl)) (.cons .tmp .nil)) (ok_cons (by rfl) (ok_cons ok_cst ok_nil)) (by rfl) (fun _ => rfl) fun t50 h => ?_
      refine c_C ?_
      refine o_bin .tmp .tmp (op_eq (f := D.int)) ?_
      refine o_val .tmp tr_b ?_
      exact hJ49 ((decide (t50.1 = 0)), t50.2) _ rfl h
    rintro b51 e hs h
    obtain rfl := hs
    refine o_ifP h (fun hb h => ?_) (fun hb h => h2 b51.2 _ rfl h)
    refine c_var rfl ?_
    exact o_el (.of (.sl (by rfl) (by rfl)) (Im.im (f := (eT2 D.int D.int)) _)) hc rfl (h1 _ b51.2 _ rfl h)
  rintro l52 s53 e hs h
  obtain rfl := hs
  refine o_rest (e' := [some (eP s53, .io), some (D.int wide, .cst), some (D.int high, .cst), some (D.int t1.1, .own), some ((eL (eT2 D.int D.int)) t2, .lk), none, none, none, none, none, none, none, none]) rfl ?_
  refine o_thaw (e' := [some (eP s53, .io), some (D.int wide, .cst), some (D.int high, .cst), some (D.int t1.1, .own), some ((eL (eT2 D.int D.int)) t2, .own), none, none, none, none, none, none, none, none]) rfl rfl ?_
  refine o_ret ?_
  exact q (l52, s53) h

def t__law_room (S__law_draw S__law_cells S__law_shape : FS) : XS :=
  (sSeq (sPar 2 3 (aCons (dBin 1 opAdd (dC (.int 1)) (dFn S__law_draw (aCons (dVar 0) (aCons (dC (.int 5)) aNil)))) (aCons (dBin 1 opAdd (dC (.int 1)) (dFn S__law_draw (aCons (dVar 0) (aCons (dC (.int 5)) aNil)))) aNil)))
  (sSeq (sIf (xVal (dVar 1)) (sPar 2 3 (aCons (dBin 1 opAdd (dC (.int 7)) (dFn S__law_draw (aCons (dVar 0) (aCons (dC (.int 6)) aNil)))) (aCons (dBin 1 opAdd (dC (.int 7)) (dFn S__law_draw (aCons (dVar 0) (aCons (dC (.int 6)) aNil)))) aNil))) sNil)
  (sSeq (sAsg (dFn S__law_shape (aCons (dVar 0) (aCons (dVar 2) (aCons (dVar 3) aNil)))) (gN 4))
  (sSeq (sIf (xAnd (xVal (dBin 2 opEq (dVar 4) (dLst aNil))) (xVal (dBin 2 opGt (dFn S__law_draw (aCons (dVar 0) (aCons (dC (.int 4)) aNil))) (dC (.int 0))))) (sAsg (dFn S__law_cells (aCons (dC (.int 0)) (aCons (dC (.int 0)) (aCons (dVar 2) (aCons (dVar 3) aNil))))) (gN 4)) sNil)
  (sSeq (sAsg (dLst (aCons (dC (.int 0)) (aCons (dC (.int 0)) aNil))) (gN 5))
  (sSeq (sIf (xVal (dBin 2 opEq (dFn S__law_draw (aCons (dVar 0) (aCons (dC (.int 4)) aNil))) (dC (.int 0)))) (sAsg (dIdx (dLst (aCons (dLst (aCons (dFn S__law_draw (aCons (dVar 0) (aCons (dC (.int 20)) aNil))) (aCons (dFn S__law_draw (aCons (dVar 0) (aCons (dC (.int 20)) aNil))) aNil))) (aCons (dLst (aCons (dBin 2 opSub (dC (.int 41)) (dVar 2)) (aCons (dBin 2 opSub (dC (.int 41)) (dVar 3)) aNil))) aNil))) (dFn S__law_draw (aCons (dVar 0) (aCons (dC (.int 2)) aNil)))) (gN 5)) sNil)
  (sRet (dCall 1 (op1 bTuple) (aCons (dCall 1 (op1 bSorted) (aCons (dLc (iSeq (dVar 4)) (gT 2 (gsCons (gN 6) (gsCons (gN 7) gsNil))) xYes (dTup (aCons (dBin 1 opAdd (dVar 6) (dIdx (dVar 5) (dC (.int 0)))) (aCons (dBin 1 opAdd (dVar 7) (dIdx (dVar 5) (dC (.int 1)))) aNil))) [6, 7]) aNil)) aNil)))))))))
def w__law_room (tape : (Int × Int)) (great : Bool) (kr : ((List (Int × Int)) × (Int × Int)) → Prop) : Prop :=
w__law_draw tape 5 fun t1 =>
w__law_draw t1.2 5 fun t2 =>
lt ((1 + t1.1) : Int) fun wide =>
lt ((1 + t2.1) : Int) fun high =>
ifW great (fun kk4 => w__law_draw t2.2 6 fun t5 =>
w__law_draw t5.2 6 fun t6 =>
lt ((7 + t5.1) : Int) fun wide =>
lt ((7 + t6.1) : Int) fun high =>
kk4 (t6.2, wide, high)) (fun kk4 => kk4 (t2.2, wide, high)) fun (s3 : ((Int × Int) × Int × Int)) =>
w__law_shape s3.1 s3.2.1 s3.2.2 fun t7 =>
ifW (decide (t7.1 = ([] : List (Int × Int)))) (fun kk8 => w__law_draw t7.2 4 fun t9 =>
kk8 ((decide (0 < t9.1)), t9.2)) (fun kk8 => kk8 (false, t7.2)) fun (b10 : Bool × (Int × Int)) =>
ifW b10.1 (fun kk11 => w__law_cells 0 0 s3.2.1 s3.2.2 fun t12 =>
kk11 t12) (fun kk11 => kk11 t7.1) fun (cells : (List (Int × Int))) =>
lt ([0, 0] : (List Int)) fun far =>
w__law_draw b10.2 4 fun t13 =>
ifW (decide (t13.1 = 0)) (fun kk15 => w__law_draw t13.2 20 fun t16 =>
w__law_draw t16.2 20 fun t17 =>
w__law_draw t17.2 2 fun t18 =>
exW (atI [[t16.1, t17.1], [(41 - s3.2.1), (41 - s3.2.2)]] t18.1) fun x19 =>
kk15 (t18.2, x19)) (fun kk15 => kk15 (t13.2, far)) fun (s14 : ((Int × Int) × (List Int))) =>
(cells.length ≤ sizeLine) ∧
lcW cells ([] : List (Int × Int)) () (fun a21 (s : Unit) w => exW (atI s14.2 0) fun x23 =>
exW (atI s14.2 1) fun x25 =>
w (some ((a21.1 + x23), (a21.2 + x25))) ()) fun l27 s28 =>
kr ((srt tl2 l27), s14.1)
def S__law_room : FS := mkS (α := ((Int × Int) × Bool)) (κ := ((List (Int × Int)) × (Int × Int))) [.io, .cst] (fun a => [eP a.1, D.bl a.2]) (fun a => w__law_room a.1 a.2) (fun r => (eV (eT2 D.int D.int)) r.1) fun a r => [eP r.2, D.bl a.2]
theorem v__law_room : BodyOk S__law_room 8 (t__law_room S__law_draw S__law_cells S__law_shape) := by
  intro ds Q hl h
  obtain ⟨⟨tape, great⟩, kr, rfl, h, q⟩ := h
  refine b_env (e' := [some (eP tape, .io), some (D.bl great, .cst), none, none, none, none, none, none]) rfl ?_
  unfold t__law_room
  unfold w__law_room at h
  refine s_seq ?_
  refine s_par ?_
  refine c_aCons ?_
  refine c_bin ?_
  refine c_C ?_
  refine c_fn ?_
  refine c_aCons ?_
  refine c_var rfl ?_
  refine c_aCons ?_
  refine c_C ?_
  refine c_aNil ?_
  refine x_call (tape, 5) (fun t1 => [some (eP t1.2, .io), some (D.bl great, .cst), none, none, none, none, none, none]) h (.cons (.sl (by rfl) (by rfl)) (.cons .tmp .nil)) (ok_cons (by rfl) (ok_cons ok_cst ok_nil)) (by rfl) (fun _ => rfl) fun t1 h => ?_
  refine o_bin .tmp .tmp op_addI ?_
  refine c_aCons ?_
  refine c_bin ?_
  refine c_C ?_
  refine c_fn ?_
  refine c_aCons ?_
  refine c_var rfl ?_
  refine c_aCons ?_
  refine c_C ?_
  refine c_aNil ?_
  refine x_call (t1.2, 5) (fun t2 => [some (eP t2.2, .io), some (D.bl great, .cst), none, none, none, none, none, none]) h (.cons (.sl (by rfl) (by rfl)) (.cons .tmp .nil)) (ok_cons (by rfl) (ok_cons ok_cst ok_nil)) (by rfl) (fun _ => rfl) fun t2 h => ?_
  refine o_bin .tmp .tmp op_addI ?_
  refine c_aNil ?_
  refine o_par (f := D.int) (g := D.int) (fun wide high => [some (eP t2.2, .io), some (D.bl great, .cst), some (D.int wide, .own), some (D.int high, .own), none, none, none, none]) .tmp .tmp h rfl rfl (fun _ _ => rfl) fun wide high h => ?_
  refine s_seq ?_
  refine s_if ?_
  refine c_val ?_
  refine c_var rfl ?_
  refine o_val .tmp tr_b ?_
  refine o_ifW (sh := fun (s3 : ((Int × Int) × Int × Int)) e => e = [some (eP s3.1, .io), some (D.bl great, .cst), some (D.int s3.2.1, .own), some (D.int s3.2.2, .own), none, none, none, none]) h (fun hb kk4 nxkk4 hJ4 h => ?_) (fun hb kk4 nxkk4 hJ4 h => ?_) ?_
  · skip
    refine s_par ?_
    refine c_aCons ?_
    refine c_bin ?_
    refine c_C ?_
    refine c_fn ?_
    refine c_aCons ?_
    refine c_var rfl ?_
    refine c_aCons ?_
    refine c_C ?_
    refine c_aNil ?_
    refine x_call (t2.2, 6) (fun t5 => [some (eP t5.2, .io), some (D.bl great, .cst), some (D.int wide, .own), some (D.int high, .own), none, none, none, none]) h (.cons (.sl (by rfl) (by rfl)) (.cons .tmp .nil)) (ok_cons (by rfl) (ok_cons ok_cst ok_nil)) (by rfl) (fun _ => rfl) fun t5 h => ?_
    refine o_bin .tmp .tmp op_addI ?_
    refine c_aCons ?_
    refine c_bin ?_
    refine c_C ?_
    refine c_fn ?_
    refine c_aCons ?_
    refine c_var rfl ?_
    refine c_aCons ?_
    refine c_C ?_
    refine c_aNil ?_
    refine x_call (t5.2, 6) (fun t6 => [some (eP t6.2, .io), some (D.bl great, .cst), some (D.int wide, .own), some (D.int high, .own), none, none, none, none]) h (.cons (.sl (by rfl) (by rfl)) (.cons .tmp .nil)) (ok_cons (by rfl) (ok_cons ok_cst ok_nil)) (by rfl) (fun _ => rfl) fun t6 h => ?_
    refine o_bin .tmp .tmp op_addI ?_
    refine c_aNil ?_
    refine o_par (f := D.int) (g := D.int) (fun wide high => [some (eP t6.2, .io), some (D.bl great, .cst), some (D.int wide, .own), some (D.int high, .own), none, none, none, none]) .tmp .tmp h rfl rfl (fun _ _ => rfl) fun wide high h => ?_
    exact hJ4 (t6.2, wide, high) _ rfl h
  · skip
    refine s_nil ?_
    exact hJ4 (t2.2, wide, high) _ rfl h
  rintro s3 e hs h
  obtain rfl := hs
  refine s_seq ?_
  refine s_asg ?_
  refine c_fn ?_
  refine c_aCons ?_
  refine c_var rfl ?_
  refine c_aCons ?_
  refine c_var rfl ?_
  refine c_aCons ?_
  refine c_var rfl ?_
  refine c_aNil ?_
  refine x_call (s3.1, s3.2.1, s3.2.2) (fun t7 => [some (eP t7.2, .io), some (D.bl great, .cst), some (D.int s3.2.1, .own), some (D.int s3.2.2, .own), none, none, none, none]) h (.cons (.sl (by rfl) (by rfl)) (.cons .tmp (.cons .tmp .nil))) (ok_cons (by rfl) (ok_cons ok_cst (ok_cons ok_cst ok_nil))) (by rfl) (fun _ => rfl) fun t7 h => ?_
  refine g_n (e' := [some (eP t7.2, .io), some (D.bl great, .cst), some (D.int s3.2.1, .own), some (D.int s3.2.2, .own), some ((eL (eT2 D.int D.int)) t7.1, .own), none, none, none]) rfl rfl ?_
  refine s_seq ?_
  refine s_if ?_
  refine c_andTi ?_
  refine c_val ?_
  refine c_bin ?_
  refine c_var rfl ?_
  refine c_lst ?_
  refine c_aNil ?_
  refine o_lstL (eT2 D.int D.int) ([] : List (Int × Int)) .nil ?_
  refine o_bin (.sl (by rfl) (by rfl)) .tmp (op_eq (f := (eL (eT2 D.int D.int)))) ?_
  refine o_val .tmp tr_b ?_
  refine o_andTi (sh := fun (s : (Int × Int)) e => e = [some (eP s, .io), some (D.bl great, .cst), some (D.int s3.2.1, .own), some (D.int s3.2.2, .own), some ((eL (eT2 D.int D.int)) t7.1, .own), none, none, none]) h rfl (fun hb kk8 N hJ8 h => ?_) ?_
  · skip
    refine c_val ?_
    refine c_bin ?_
    refine c_fn ?_
    refine c_aCons ?_
    refine c_var rfl ?_
    refine c_aCons ?_
    refine c_C ?_
    refine c_aNil ?_
    refine x_call (t7.2, 4) (fun t9 => [some (eP t9.2, .io), some (D.bl great, .cst), some (D.int s3.2.1, .own), some (D.int s3.2.2, .own), some ((eL (eT2 D.int D.int)) t7.1, .own), none, none, none]) h (.cons (.sl (by rfl) (by rfl)) (.cons .tmp .nil)) (ok_cons (by rfl) (ok_cons ok_cst ok_nil)) (by rfl) (fun _ => rfl) fun t9 h => ?_
    refine c_C ?_
    refine o_bin .tmp .tmp op_gtI ?_
    refine o_val .tmp tr_b ?_
    exact hJ8 ((decide (0 < t9.1)), t9.2) _ rfl h
  rintro b10 e hs h
  obtain rfl := hs
  refine o_ifW (sh := fun (cells : (List (Int × Int))) e => e = [some (eP b10.2, .io), some (D.bl great, .cst), some (D.int s3.2.1, .own), some (D.int s3.2.2, .own), some ((eL (eT2 D.int D.int)) cells, .own), none, none, none]) h (fun hb kk11 nxkk11 hJ11 h => ?_) (fun hb kk11 nxkk11 hJ11 h => ?_) ?_
  · skip
    refine s_asg ?_
    refine c_fn ?_
    refine c_aCons ?_
    refine c_C ?_
    refine c_aCons ?_
    refine c_C ?_
    refine c_aCons ?_
    refine c_var rfl ?_
    refine c_aCons ?_
    refine c_var rfl ?_
    refine c_aNil ?_
    refine x_call (0, 0, s3.2.1, s3.2.2) (fun t12 => [some (eP b10.2, .io), some (D.bl great, .cst), some (D.int s3.2.1, .own), some (D.int s3.2.2, .own), some ((eL (eT2 D.int D.int)) t7.1, .own), none, none, none]) h (.cons .tmp (.cons .tmp (.cons .tmp (.cons .tmp .nil)))) (ok_cons ok_cst (ok_cons ok_cst (ok_cons ok_cst (ok_cons ok_cst ok_nil)))) (apart_rd (by rfl)) (fun _ => rfl) fun t12 h => ?_
    refine g_n (e' := [some (eP b10.2, .io), some (D.bl great, .cst), some (D.int s3.2.1, .own), some (D.int s3.2.2, .own), some ((eL (eT2 D.int D.int)) t12, .own), none, none, none]) rfl rfl ?_
    exact hJ11 t12 _ rfl h
  · skip
    refine s_nil ?_
    exact hJ11 t7.1 _ rfl h
  rintro cells e hs h
  obtain rfl := hs
  refine s_seq ?_
  refine s_asg ?_
  refine c_lst ?_
  refine c_aCons ?_
  refine c_C ?_
  refine c_aCons ?_
  refine c_C ?_
  refine c_aNil ?_
  refine o_lstL D.int [0, 0] (.cons .tmp (.cons .tmp .nil)) ?_
  refine g_N (f := (eL D.int)) (fun far => [some (eP b10.2, .io), some (D.bl great, .cst), some (D.int s3.2.1, .own), some (D.int s3.2.2, .own), some ((eL (eT2 D.int D.int)) cells, .own), some ((eL D.int) far, .own), none, none]) h rfl (fun _ => rfl) fun far h => ?_
  refine s_seq ?_
  refine s_if ?_
  refine c_val ?_
  refine c_bin ?_
  refine c_fn ?_
  refine c_aCons ?_
  refine c_var rfl ?_
  refine c_aCons ?_
  refine c_C ?_
  refine c_aNil ?_
  refine x_call (b10.2, 4) (fun t13 => [some (eP t13.2, .io), some (D.bl great, .cst), some (D.int s3.2.1, .own), some (D.int s3.2.2, .own), some ((eL (eT2 D.int D.int)) cells, .own), some ((eL D.int) far, .own), none, none]) h (.cons (.sl (by rfl) (by rfl)) (.cons .tmp .nil)) (ok_cons (by rfl) (ok_cons ok_cst ok_nil)) (by rfl) (fun _ => rfl) fun t13 h => ?_
  refine c_C ?_
  refine o_bin .tmp .tmp (op_eq (f := D.int)) ?_
  refine o_val .tmp tr_b ?_
  refine o_ifW (sh := fun (s14 : ((Int × Int) × (List Int))) e => e = [some (eP s14.1, .io), some (D.bl great, .cst), some (D.int s3.2.1, .own), some (D.int s3.2.2, .own), some ((eL (eT2 D.int D.int)) cells, .own), some ((eL D.int) s14.2, .own), none, none]) h (fun hb kk15 nxkk15 hJ15 h => ?_) (fun hb kk15 nxkk15 hJ15 h => ?_) ?_
  · skip
    refine s_asg ?_
    refine c_idx ?_
    refine c_lst ?_
    refine c_aCons ?_
    refine c_lst ?_
    refine c_aCons ?_
    refine c_fn ?_
    refine c_aCons ?_
    refine c_var rfl ?_
    refine c_aCons ?_
    refine c_C ?_
    refine c_aNil ?_
    refine x_call (t13.2, 20) (fun t16 => [some (eP t16.2, .io), some (D.bl great, .cst), some (D.int s3.2.1, .own), some (D.int s3.2.2, .own), some ((eL (eT2 D.int D.int)) cells, .own), some ((eL D.int) far, .own), none, none]) h (.cons (.sl (by rfl) (by rfl)) (.cons .tmp .nil)) (ok_cons (by rfl) (ok_cons ok_cst ok_nil)) (by rfl) (fun _ => rfl) fun t16 h => ?_
    refine c_aCons ?_
    refine c_fn ?_
    refine c_aCons ?_
    refine c_var rfl ?_
    refine c_aCons ?_
    refine c_C ?_
    refine c_aNil ?_
    refine x_call (t16.2, 20) (fun t17 => [some (eP t17.2, .io), some (D.bl great, .cst), some (D.int s3.2.1, .own), some (D.int s3.2.2, .own), some ((eL (eT2 D.int D.int)) cells, .own), some ((eL D.int) far, .own), none, none]) h (.cons (.sl (by rfl) (by rfl)) (.cons .tmp .nil)) (ok_cons (by rfl) (ok_cons ok_cst ok_nil)) (by rfl) (fun _ => rfl) fun t17 h => ?_
    refine c_aNil ?_
    refine o_lstL D.int [t16.1, t17.1] (.cons .tmp (.cons .tmp .nil)) ?_
    refine c_aCons ?_
    refine c_lst ?_
    refine c_aCons ?_
    refine c_bin ?_
    refine c_C ?_
    refine c_var rfl ?_
    refine o_bin .tmp .tmp op_subI ?_
    refine c_aCons ?_
    refine c_bin ?_
    refine c_C ?_
    refine c_var rfl ?_
    refine o_bin .tmp .tmp op_subI ?_
    refine c_aNil ?_
    refine o_lstL D.int [(41 - s3.2.1), (41 - s3.2.2)] (.cons .tmp (.cons .tmp .nil)) ?_
    refine c_aNil ?_
    refine o_lstL (eL D.int) [[t16.1, t17.1], [(41 - s3.2.1), (41 - s3.2.2)]] (.cons .tmp (.cons .tmp .nil)) ?_
    refine c_fn ?_
    refine c_aCons ?_
    refine c_var rfl ?_
    refine c_aCons ?_
    refine c_C ?_
    refine c_aNil ?_
    refine x_call (t17.2, 2) (fun t18 => [some (eP t18.2, .io), some (D.bl great, .cst), some (D.int s3.2.1, .own), some (D.int s3.2.2, .own), some ((eL (eT2 D.int D.int)) cells, .own), some ((eL D.int) far, .own), none, none]) h (.cons (.sl (by rfl) (by rfl)) (.cons .tmp .nil)) (ok_cons (by rfl) (ok_cons ok_cst ok_nil)) (by rfl) (fun _ => rfl) fun t18 h => ?_
    obtain ⟨x19, p20, h⟩ := h
    refine o_idx .tmp .tmp (ix_L p20) .tmp ?_
    refine g_n (e' := [some (eP t18.2, .io), some (D.bl great, .cst), some (D.int s3.2.1, .own), some (D.int s3.2.2, .own), some ((eL (eT2 D.int D.int)) cells, .own), some ((eL D.int) x19, .own), none, none]) rfl rfl ?_
    exact hJ15 (t18.2, x19) _ rfl h
  · skip
    refine s_nil ?_
    exact hJ15 (t13.2, far) _ rfl h
  rintro s14 e hs h
  obtain rfl := hs
  refine s_ret ?_
  refine c_call ?_
  refine c_aCons ?_
  refine c_call ?_
  refine c_aCons ?_
  refine c_lc ?_
  refine c_iSeq ?_
  refine c_var rfl ?_
  refine o_sqS (e' := [some (eP s14.1, .io), some (D.bl great, .cst), some (D.int s3.2.1, .own), some (D.int s3.2.2, .own), some ((eL (eT2 D.int D.int)) cells, .lk), some ((eL D.int) s14.2, .own), none, none]) rfl rfl rfl ?_
  obtain ⟨p22, h⟩ := h
  refine o_lcW (fI := (eT2 D.int D.int)) (fo := (eT2 D.int D.int)) (sh := fun (s : Unit) e => e = [some (eP s14.1, .io), some (D.bl great, .cst), some (D.int s3.2.1, .own), some (D.int s3.2.2, .own), some ((eL (eT2 D.int D.int)) cells, .lk), some ((eL D.int) s14.2, .own), none, none]) h (all2 rfl rfl) p22 rfl (fun a21 ha s e hs w c k1 k2 hc h1 h2 h => ?_) ?_
  · obtain rfl := hs
    refine g_T (by rfl) (g_cons (g_n (e' := [some (eP s14.1, .io), some (D.bl great, .cst), some (D.int s3.2.1, .own), some (D.int s3.2.2, .own), some ((eL (eT2 D.int D.int)) cells, .lk), some ((eL D.int) s14.2, .own), some (D.int a21.1, .own), none]) rfl rfl (g_cons (g_n (e' := [some (eP s14.1, .io), some (D.bl great, .cst), some (D.int s3.2.1, .own), some (D.int s3.2.2, .own), some ((eL (eT2 D.int D.int)) cells, .lk), some ((eL D.int) s14.2, .own), some (D.int a21.1, .own), some (D.int a21.2, .own)]) rfl rfl (g_nil (?_))))))
    refine c_yes ?_
    refine c_tup ?_
    refine c_aCons ?_
    refine c_bin ?_
    refine c_var rfl ?_
    refine c_idx ?_
    refine c_var rfl ?_
    refine c_C ?_
    obtain ⟨x23, p24, h⟩ := h
    refine o_idx (.sl (by rfl) (by rfl)) .tmp (ix_L p24) (.sl (Im.im (f := D.int) _)) ?_
    refine o_bin .tmp .tmp op_addI ?_
    refine c_aCons ?_
    refine c_bin ?_
    refine c_var rfl ?_
    refine c_idx ?_
    refine c_var rfl ?_
    refine c_C ?_
    obtain ⟨x25, p26, h⟩ := h
    refine o_idx (.sl (by rfl) (by rfl)) .tmp (ix_L p26) (.sl (Im.im (f := D.int) _)) ?_
    refine o_bin .tmp .tmp op_addI ?_
    refine c_aNil ?_
    refine o_tup2 D.int D.int (a21.1 + x23) (a21.2 + x25) (.cons .tmp (.cons .tmp .nil)) ?_
    exact o_el .tmp hc rfl (h1 _ () _ rfl h)
  rintro l27 s28 e hs h
  obtain rfl := hs
  refine o_rest (e' := [some (eP s14.1, .io), some (D.bl great, .cst), some (D.int s3.2.1, .own), some (D.int s3.2.2, .own), some ((eL (eT2 D.int D.int)) cells, .lk), some ((eL D.int) s14.2, .own), none, none]) rfl ?_
  refine o_thaw (e' := [some (eP s14.1, .io), some (D.bl great, .cst), some (D.int s3.2.1, .own), some (D.int s3.2.2, .own), some ((eL (eT2 D.int D.int)) cells, .own), some ((eL D.int) s14.2, .own), none, none]) rfl rfl ?_
  refine c_aNil ?_
  refine o_call (.cons .tmp .nil) (n_sortL (f := (eT2 D.int D.int))) ?_
  refine c_aNil ?_
  refine o_call (.cons .tmp .nil) (n_tupL (f := (eT2 D.int D.int))) ?_
  refine o_ret ?_
  exact q ((srt tl2 l27), s14.1) h

def t__law_some_room (S__law_room S__law_draw : FS) : XS :=
  (sRet (dFn S__law_room (aCons (dVar 0) (aCons (dAnd (dBin 2 opEq (dVar 1) (dC (.int 0))) (dBin 2 opEq (dFn S__law_draw (aCons (dVar 0) (aCons (dC (.int 8)) aNil))) (dC (.int 0)))) aNil))))
def w__law_some_room (tape : (Int × Int)) (k' : Int) (kr : ((List (Int × Int)) × (Int × Int)) → Prop) : Prop :=
ifW (decide (k' = 0)) (fun kk1 => w__law_draw tape 8 fun t2 =>
kk1 ((decide (t2.1 = 0)), t2.2)) (fun kk1 => kk1 (false, tape)) fun (b3 : Bool × (Int × Int)) =>
w__law_room b3.2 b3.1 fun t4 =>
kr (t4.1, t4.2)
def S__law_some_room : FS := mkS (α := ((Int × Int) × Int)) (κ := ((List (Int × Int)) × (Int × Int))) [.io, .cst] (fun a => [eP a.1, D.int a.2]) (fun a => w__law_some_room a.1 a.2) (fun r => (eV (eT2 D.int D.int)) r.1) fun a r => [eP r.2, D.int a.2]
theorem v__law_some_room : BodyOk S__law_some_room 2 (t__law_some_room S__law_room S__law_draw) := by
  intro ds Q hl h
  obtain ⟨⟨tape, k'⟩, kr, rfl, h, q⟩ := h
  refine b_env (e' := [some (eP tape, .io), some (D.int k', .cst)]) rfl ?_
  unfold t__law_some_room
  unfold w__law_some_room at h
  refine s_ret ?_
  refine c_fn ?_
  refine c_aCons ?_
  refine c_var rfl ?_
  refine c_aCons ?_
  refine c_andVi ?_
  refine c_bin ?_
  refine c_var rfl ?_
  refine c_C ?_
  refine o_bin .tmp .tmp (op_eq (f := D.int)) ?_
  refine o_valB .tmp ?_
  refine o_andVi (sh := fun (s : (Int × Int)) e => e = [some (eP s, .io), some (D.int k', .cst)]) h rfl (fun hb kk1 N hJ1 h => ?_) ?_
  · skip
    refine c_bin ?_
    refine c_fn ?_
    refine c_aCons ?_
    refine c_var rfl ?_
    refine c_aCons ?_
    refine c_C ?_
    refine c_aNil ?_
    refine x_call (tape, 8) (fun t2 => [some (eP t2.2, .io), some (D.int k', .cst)]) h (.cons (.sl (by rfl) (by rfl)) (.cons .tmp .nil)) (ok_cons (by rfl) (ok_cons ok_cst ok_nil)) (by rfl) (fun _ => rfl) fun t2 h => ?_
    refine c_C ?_
    refine o_bin .tmp .tmp (op_eq (f := D.int)) ?_
    exact hJ1 ((decide (t2.1 = 0)), t2.2) _ rfl h
  rintro b3 e hs h
  obtain rfl := hs
  refine c_aNil ?_
  refine x_call (b3.2, b3.1) (fun t4 => [some (eP t4.2, .io), some (D.int k', .cst)]) h (.cons (.sl (by rfl) (by rfl)) (.cons .tmp .nil)) (ok_cons (by rfl) (ok_cons ok_cst ok_nil)) (by rfl) (fun _ => rfl) fun t4 h => ?_
  refine o_ret ?_
  exact q (t4.1, t4.2) h

end BC

namespace BC
open PySem PySem.Spec PyProof.Rows L2 BX TX COM
section
variable {α β σ : Type}
theorem forW_pre {body : α → σ → (σ → Prop) → Prop} {k : σ → Prop} (I : List α → σ → Prop) : ∀ (l pre : List α) (s : σ), I pre s → (∀ (p : List α) (a : α) (q : List α) (s : σ) (kk : σ → Prop), pre ++ l = p ++ a :: q → I p s → (∀ s', I (p ++ [a]) s' → kk s') → body a s kk) → (∀ s, I (pre ++ l) s → k s) → forW l s body k
  | [], pre, s, h0, hs, hk => hk s (by simpa using h0)
  | a :: l, pre, s, h0, hs, hk => hs pre a l s _ rfl h0 fun s' h' => forW_pre I l (pre ++ [a]) s' h' (fun p b q s kk e => hs p b q s kk (by rw [← e]; simp)) (fun s h => hk s (by simpa using h))
/-- an invariant by what has been walked -/
theorem forW_inv {body : α → σ → (σ → Prop) → Prop} {k : σ → Prop} (I : List α → σ → Prop) {l : List α} {s : σ} (h0 : I [] s) (hs : ∀ (p : List α) (a : α) (q : List α) (s : σ) (kk : σ → Prop), l = p ++ a :: q → I p s → (∀ s', I (p ++ [a]) s' → kk s') → body a s kk) (hk : ∀ s, I l s → k s) : forW l s body k :=
  forW_pre I l [] s h0 (fun p a q s kk e => hs p a q s kk (by simpa using e)) (by simpa using hk)
/-- an invariant that doesn't tell how far -/
theorem forW_any {body : α → σ → (σ → Prop) → Prop} {k : σ → Prop} (I : σ → Prop) {l : List α} {s : σ} (h0 : I s) (hs : ∀ a ∈ l, ∀ (s : σ) (kk : σ → Prop), I s → (∀ s', I s' → kk s') → body a s kk) (hk : ∀ s, I s → k s) : forW l s body k :=
  forW_inv (fun _ s => I s) h0 (fun p a q s kk e h hkk => hs a (by rw [e]; simp) s kk h hkk) hk
/-- each turn does one thing -/
theorem forW_fold {body : α → σ → (σ → Prop) → Prop} {k : σ → Prop} (F : σ → α → σ) : ∀ {l : List α} {s : σ}, (∀ a ∈ l, ∀ (s : σ) (kk : σ → Prop), kk (F s a) → body a s kk) → k (l.foldl F s) → forW l s body k
  | [], s, _, hk => hk
  | a :: l, s, hs, hk => hs a (List.mem_cons_self ..) s _ (forW_fold F (fun b hb => hs b (List.mem_cons_of_mem _ hb)) hk)
theorem lcW_mf {body : α → σ → (Option β → σ → Prop) → Prop} {k : List β → σ → Prop} (F : α → Option β) : ∀ {l : List α} {acc : List β} {s : σ}, (∀ a ∈ l, ∀ (w : Option β → σ → Prop), w (F a) s → body a s w) → k (acc ++ l.filterMap F) s → lcW l acc s body k
  | [], acc, s, _, hk => by
    show k acc s
    simpa using hk
  | a :: l, acc, s, hs, hk => hs a (List.mem_cons_self ..) _ (lcW_mf F (fun b hb => hs b (List.mem_cons_of_mem _ hb)) (by
    rw [List.append_assoc]
    have : (F a).toList ++ l.filterMap F = (a :: l).filterMap F := by
      rw [List.filterMap_cons]; cases F a <;> rfl
    rw [this]; exact hk))
theorem lcW_map {body : α → σ → (Option β → σ → Prop) → Prop} {k : List β → σ → Prop} (F : α → β) {l : List α} {s : σ} (hs : ∀ a ∈ l, ∀ (w : Option β → σ → Prop), w (some (F a)) s → body a s w) (hk : k (l.map F) s) : lcW l [] s body k :=
  lcW_mf (fun a => some (F a)) hs (by
    have : l.filterMap (fun a => some (F a)) = l.map F := by
      induction l with
      | nil => rfl
      | cons a l ih => simp
    rw [this]; exact hk)
theorem lcW_filter {body : α → σ → (Option α → σ → Prop) → Prop} {k : List α → σ → Prop} (p : α → Bool) {l : List α} {s : σ} (hs : ∀ a ∈ l, ∀ (w : Option α → σ → Prop), (p a = true → w (some a) s) → (p a = false → w none s) → body a s w) (hk : k (l.filter p) s) : lcW l [] s body k :=
  lcW_mf (fun a => if p a then some a else none) (fun a ha w h => hs a ha w (fun e => by simpa [e] using h) (fun e => by simpa [e] using h)) (by
    have : l.filterMap (fun a => if p a then some a else none) = l.filter p := by
      clear hs hk
      induction l with
      | nil => rfl
      | cons a l ih => by_cases h : p a = true <;> simp [h, ih]
    rw [this]; exact hk)
/-- some of the items, and a state -/
theorem lcW_sub {body : α → σ → (Option α → σ → Prop) → Prop} {k : List α → σ → Prop} (T : σ → Prop) : ∀ {l acc : List α} {s : σ}, T s → (∀ a ∈ l, ∀ (s : σ) (w : Option α → σ → Prop), T s → (∀ s', T s' → w (some a) s') → (∀ s', T s' → w none s') → body a s w) → (∀ m s, m.Sublist l → T s → k (acc ++ m) s) → lcW l acc s body k
  | [], acc, s, h0, _, hk => by
    have := hk [] s .slnil h0
    show k acc s
    simpa using this
  | a :: l, acc, s, h0, hs, hk => hs a (List.mem_cons_self ..) s _ h0
    (fun s' h' => lcW_sub T h' (fun b hb => hs b (List.mem_cons_of_mem _ hb)) fun m s hm ht => by
      have := hk (a :: m) s (hm.cons_cons a) ht
      simpa using this)
    (fun s' h' => lcW_sub T h' (fun b hb => hs b (List.mem_cons_of_mem _ hb)) fun m s hm ht => by
      have := hk m s (hm.cons a) ht
      simpa using this)
/-- items with a property, and a state -/
theorem lcW_all {body : α → σ → (Option β → σ → Prop) → Prop} {k : List β → σ → Prop} (T : σ → Prop) (P : β → Prop) : ∀ {l : List α} {acc : List β} {s : σ}, T s → (∀ b ∈ acc, P b) → (∀ a ∈ l, ∀ (s : σ) (w : Option β → σ → Prop), T s → (∀ b s', P b → T s' → w (some b) s') → body a s w) → (∀ m s, m.length = acc.length + l.length → (∀ b ∈ m, P b) → T s → k m s) → lcW l acc s body k
  | [], acc, s, h0, hp, _, hk => hk acc s rfl hp h0
  | a :: l, acc, s, h0, hp, hs, hk => by
    refine hs a (List.mem_cons_self ..) s _ h0 fun b s' hb h' => ?_
    have hp' : ∀ c ∈ acc ++ (some b).toList, P c := fun c hc => by
      rcases List.mem_append.mp hc with hc | hc
      · exact hp c hc
      · have e : c = b := by simpa using hc
        rw [e]; exact hb
    exact lcW_all T P h' hp' (fun b hb => hs b (List.mem_cons_of_mem _ hb)) fun m s hm hp ht => hk m s (by rw [hm]; simp; omega) hp ht
end
theorem mem_rng {a b x : Int} : x ∈ rng a b ↔ a ≤ x ∧ x < b := by
  unfold rng
  simp only [List.mem_map, List.mem_range]
  constructor
  · rintro ⟨n, h1, rfl⟩; omega
  · rintro ⟨h1, h2⟩; exact ⟨(x - a).toNat, by omega, by omega⟩
theorem len_rng {a b : Int} : (rng a b).length = (b - a).toNat := by simp [rng]
theorem rng_ok {a b : Int} (h1 : -1000000 ≤ a) (h2 : a ≤ 1000000) (h3 : -1000000 ≤ b) (h4 : b ≤ 1000000) : RngOk a b := by
  unfold RngOk; omega
theorem sz : sizeLine = 16777216 := sizeLine_eq
theorem rng_srt (a b : Int) : (rng a b).Pairwise (· < ·) := by
  unfold rng
  rw [List.pairwise_map]
  exact List.Pairwise.imp (R := fun a b : Nat => a < b) (fun {a b} h => by omega) List.pairwise_lt_range
theorem rng_succ {a b : Int} (h : a ≤ b) : rng a (b + 1) = rng a b ++ [b] := by
  unfold rng
  have e : (b + 1 - a).toNat = (b - a).toNat + 1 := by omega
  rw [e, List.range_succ, List.map_append]
  congr 1
  simp; omega
theorem rng_nil {a b : Int} (h : b ≤ a) : rng a b = [] := by
  unfold rng
  rw [show (b - a).toNat = 0 by omega]; rfl
theorem rng_cons {a b : Int} (h : a < b) : rng a b = a :: rng (a + 1) b := by
  unfold rng
  rw [show (b - a).toNat = (b - (a + 1)).toNat + 1 by omega, List.range_succ_eq_map]
  simp only [List.map_cons, List.map_map, List.cons.injEq]
  refine ⟨by simp, List.map_congr_left fun n _ => ?_⟩
  simp; omega
def ltC (c d : Int × Int) : Prop := c.1 < d.1 ∨ (c.1 = d.1 ∧ c.2 < d.2)
instance (c d : Int × Int) : Decidable (ltC c d) := by unfold ltC; infer_instance
theorem ltC_ne {c d : Int × Int} (h : ltC c d) : c ≠ d := by
  rintro rfl
  unfold ltC at h
  omega
theorem srt_nodup {l : List (Int × Int)} (h : l.Pairwise ltC) : l.Nodup := h.imp fun {a b} h => ltC_ne h
theorem srt_eq {l m : List (Int × Int)} (h1 : l.Pairwise ltC) (h2 : m.Pairwise ltC) (h : ∀ c, c ∈ l ↔ c ∈ m) : l = m :=
  List.Perm.eq_of_pairwise (le := ltC) (fun a b _ _ x y => by unfold ltC at x y; omega) h1 h2 ((List.perm_ext_iff_of_nodup (srt_nodup h1) (srt_nodup h2)).mpr h)
theorem lex2 (a b : Int × Int) : HT.lexLt (tl2 a) (tl2 b) = decide (ltC a b) := by
  unfold tl2 ltC
  rw [HT.lexLt_cons]
  by_cases e : a.1 = b.1
  · rw [if_pos e, HT.lexLt_cons]
    by_cases e2 : a.2 = b.2
    · rw [if_pos e2, HT.lexLt]; simp [e, e2]
    · rw [if_neg e2]; simp [e]
  · rw [if_neg e]; simp [e]
end BC

namespace BC
open PySem PySem.Spec PyProof.Rows L2 BX TX COM
theorem draw_w {t : Int × Int} {m : Int} {kr : Int × (Int × Int) → Prop} (ht : TpOk t) (h1 : 1 ≤ m) (h2 : m ≤ 1000000) (h : ∀ (r : Int) (t' : Int × Int), 0 ≤ r → r < m → TpOk t' → kr (r, t')) : w__law_draw t m kr :=
  ⟨ht, ⟨h1, h2⟩, fun r a b c => h r.1 r.2 a b c⟩
def gridL (x y w h : Int) : List (Int × Int) := (rng 0 w).flatMap fun i => (rng 0 h).map fun j => (x + i, y + j)
theorem mem_gridL {x y w h : Int} {c : Int × Int} : c ∈ gridL x y w h ↔ (x ≤ c.1 ∧ c.1 < x + w) ∧ y ≤ c.2 ∧ c.2 < y + h := by
  unfold gridL
  simp only [List.mem_flatMap, List.mem_map, mem_rng]
  constructor
  · rintro ⟨i, hi, j, hj, rfl⟩; simp only; omega
  · rintro ⟨h1, h2⟩
    exact ⟨c.1 - x, by omega, c.2 - y, by omega, Prod.ext (by simp only; omega) (by simp only; omega)⟩
theorem gridL_srt (x y w h : Int) : (gridL x y w h).Pairwise ltC := by
  unfold gridL
  rw [List.pairwise_flatMap]
  refine ⟨fun i _ => ?_, (rng_srt 0 w).imp fun {i j} hij a ha b hb => ?_⟩
  · rw [List.pairwise_map]
    exact (rng_srt 0 h).imp fun {a b} hab => .inr ⟨rfl, by simp only; omega⟩
  · simp only [List.mem_map] at ha hb
    obtain ⟨_, _, rfl⟩ := ha
    obtain ⟨_, _, rfl⟩ := hb
    exact .inl (by simp only; omega)
theorem gridL_len {x y w h : Int} (h1 : 0 ≤ w) (h2 : 0 ≤ h) : ((gridL x y w h).length : Int) = w * h := by
  have : (gridL x y w h).length = w.toNat * h.toNat := by
    unfold gridL
    simp [List.length_flatMap, len_rng, List.map_const', List.sum_replicate_nat]
  rw [this]
  obtain ⟨a, rfl⟩ := Int.eq_ofNat_of_zero_le h1
  obtain ⟨b, rfl⟩ := Int.eq_ofNat_of_zero_le h2
  simp
theorem cells_w {x y w h : Int} {kr : List (Int × Int) → Prop} (h1 : 0 ≤ w) (h2 : w ≤ 1000) (h3 : 0 ≤ h) (h4 : h ≤ 1000) (hk : kr (gridL x y w h)) : w__law_cells x y w h kr := by
  unfold w__law_cells
  simp only [lt]
  refine ⟨rng_ok (by omega) (by omega) (by omega) (by omega), forW_inv (fun p s => s = p.flatMap fun i => (rng 0 h).map fun j => (x + i, y + j)) rfl ?_ ?_⟩
  · rintro p a q s kk e rfl hkk
    have hl : (p.flatMap fun i => (rng 0 h).map fun j => (x + i, y + j)).length ≤ 1000 * 1000 := by
      have : (p.flatMap fun i => (rng 0 h).map fun j => (x + i, y + j)).length = p.length * h.toNat := by
        simp [List.length_flatMap, len_rng, List.map_const', List.sum_replicate_nat]
      rw [this]
      have : p.length ≤ (rng 0 w).length := by rw [e]; simp
      rw [len_rng] at this
      exact Nat.mul_le_mul (by omega) (by omega)
    refine ⟨rng_ok (by omega) (by omega) (by omega) (by omega), ?_, ?_, hkk _ ?_⟩
    · rw [len_rng, sz]; omega
    · rw [List.length_map, len_rng, sz]; omega
    · simp
  · rintro s rfl
    exact hk
theorem grid_sz {x y w h : Int} (h1 : 0 ≤ w) (h2 : w ≤ 12) (h3 : 0 ≤ h) (h4 : h ≤ 12) : (gridL x y w h).length ≤ 144 := by
  have := gridL_len (x := x) (y := y) h1 h3
  have : w * h ≤ 12 * 12 := Int.mul_le_mul h2 h4 h3 (by decide)
  omega
theorem len_putAs {κ α : Type} [DecidableEq κ] (l : List (κ × α)) : ∀ m : List (κ × α), (putAs m l).length ≤ m.length + l.length := by
  have put : ∀ (k : κ) (v : α) (m : List (κ × α)), (putA k v m).length ≤ m.length + 1 := fun k v m => by
    induction m with
    | nil => simp [putA]
    | cons p m ih => rw [putA]; split <;> simp <;> omega
  induction l with
  | nil => intro m; simp [putAs]
  | cons p l ih =>
    intro m
    have := ih (putA p.1 p.2 m)
    have := put p.1 p.2 m
    show (putAs (putA p.1 p.2 m) l).length ≤ _
    rw [List.length_cons]; omega
theorem shape_w {t : Int × Int} {w h : Int} {kr : List (Int × Int) × (Int × Int) → Prop} (ht : TpOk t) (h1 : 1 ≤ w) (h2 : w ≤ 12) (h3 : 1 ≤ h) (h4 : h ≤ 12) (hk : ∀ m s, m.Sublist (gridL 0 0 w h) → TpOk s → kr (m, s)) : w__law_shape t w h kr := by
  unfold w__law_shape
  refine draw_w ht (by decide) (by decide) fun way t hw0 hw1 ht => ?_
  refine cells_w (by omega) (by omega) (by omega) (by omega) ?_
  have hz := sz
  have gl := grid_sz (x := 0) (y := 0) (w := w) (h := h) (by omega) (by omega) (by omega) (by omega)
  have gz : (gridL 0 0 w h).length ≤ sizeLine := by omega
  have sub : ∀ m s, m.Sublist (gridL 0 0 w h) → TpOk s → kr ([] ++ m, s) := fun m s hm hs => hk m s hm hs
  refine ⟨fun _ => ⟨gz, lcW_sub TpOk ht ?_ sub⟩, fun _ => ⟨fun _ => ?_, fun _ => ⟨fun _ => ⟨gz, lcW_sub TpOk ht ?_ sub⟩, fun _ => ⟨fun _ => ?_, fun _ => ⟨fun _ => ⟨gz, lcW_sub TpOk ht ?_ sub⟩, fun _ => ⟨gz, lcW_sub TpOk ht ?_ sub⟩⟩⟩⟩⟩⟩
  · intro c hc s w' hs hy hn
    exact draw_w hs (by decide) (by decide) fun r t' _ _ h' => ⟨fun _ => hy _ h', fun _ => hn _ h'⟩
  · refine draw_w ht (by decide) (by decide) fun r t' hr0 hr1 ht => ⟨rng_ok (by omega) (by omega) (by omega) (by omega), ?_⟩
    refine forW_inv (fun p s => TpOk s.1 ∧ s.2.length ≤ 144 * p.length) ⟨ht, Nat.zero_le _⟩ ?_ ?_
    · rintro p a q s kk e ⟨ht, hl⟩ hkk
      have hp : p.length ≤ 5 := by
        have : p.length ≤ (rng 0 (1 + r)).length := by rw [e]; simp
        rw [len_rng] at this; omega
      refine draw_w ht (by omega) (by omega) fun x t1 hx0 hx1 ht => draw_w ht (by omega) (by omega) fun y t2 hy0 hy1 ht => ?_
      refine draw_w ht (by omega) (by omega) fun u t3 hu0 hu1 ht => draw_w ht (by omega) (by omega) fun v t4 hv0 hv1 ht => ?_
      refine cells_w (by omega) (by omega) (by omega) (by omega) ?_
      have gl2 := grid_sz (x := x) (y := y) (w := 1 + u) (h := 1 + v) (by omega) (by omega) (by omega) (by omega)
      have rest : ∀ (b : Bool) (t5 : Int × Int), TpOk t5 → (fun (b16 : Bool × (Int × Int)) => ((gridL x y (1 + u) (1 + v)).length ≤ sizeLine) ∧ (s.2.length + ((gridL x y (1 + u) (1 + v)).map (fun cell => (cell, b16.1))).length ≤ sizeLine) ∧
          lt (putAs s.2 ((gridL x y (1 + u) (1 + v)).map (fun cell => (cell, b16.1)))) fun there => kk (b16.2, there)) (b, t5) := fun b t5 ht => by
        refine ⟨by omega, by rw [List.length_map]; omega, hkk _ ⟨ht, ?_⟩⟩
        have := len_putAs ((gridL x y (1 + u) (1 + v)).map (fun cell => (cell, b))) s.2
        rw [List.length_map] at this
        simp only [List.length_append, List.length_singleton]
        omega
      exact ⟨fun _ => rest _ _ ht, fun _ => draw_w ht (by decide) (by decide) fun z t5 _ _ ht => rest _ _ ht⟩
    · rintro s ⟨ht, -⟩
      exact ⟨gz, hk _ _ List.filter_sublist ht⟩
  · intro c hc s w' hs hy hn
    exact draw_w hs (by decide) (by decide) fun r t' _ _ h' => ⟨fun _ => hy _ h', fun _ => hn _ h'⟩
  · refine ⟨rng_ok (by omega) (by omega) (by omega) (by omega), by rw [len_rng]; omega, lcW_all TpOk (fun _ => True) ht (fun b hb => trivial) ?_ ?_⟩
    · intro a ha s w' hs hy
      exact draw_w hs (by omega) (by omega) fun r t' _ _ h' => hy _ _ trivial h'
    · intro tall s hl _ hs
      rw [len_rng] at hl
      refine ⟨gz, lcW_sub TpOk hs ?_ sub⟩
      intro c hc s w' hs hy hn
      have hc := mem_gridL.mp hc
      obtain ⟨v, hv⟩ : ∃ v, atI tall c.1 = some v := by
        have h0 : (c.1.toNat : Int) = c.1 := by omega
        have h1 : c.1.toNat < tall.length := by simp only [List.length_nil] at hl; omega
        rw [← h0]
        exact ⟨_, atI_nat (List.getElem?_eq_getElem h1)⟩
      refine ⟨v, hv, draw_w hs (by decide) (by decide) fun r t' hr0 hr1 h' => ⟨mulOk_l (by omega) (by omega), ?_⟩⟩
      have hr : r = 0 ∨ r = 1 := by omega
      have hm : c.1 % 2 = 0 ∨ c.1 % 2 = 1 := by omega
      have hv2 : ∃ u, atI [v, 1] (c.1 % 2 * r) = some u := by
        rcases hr with rfl | rfl <;> rcases hm with e | e <;> rw [e] <;> exact ⟨_, rfl⟩
      obtain ⟨u, hu⟩ := hv2
      exact ⟨u, hu, fun _ => hy _ h', fun _ => hn _ h'⟩
  · intro c hc s w' hs hy hn
    refine ⟨fun _ => ?_, fun _ => ⟨fun _ => ?_, fun _ => draw_w hs (by decide) (by decide) fun r t' _ _ h' => ?_⟩⟩
    · exact ⟨fun _ => hy _ hs, fun _ => hn _ hs⟩
    · exact ⟨fun _ => hy _ hs, fun _ => hn _ hs⟩
    · exact ⟨fun _ => hy _ h', fun _ => hn _ h'⟩
  · intro c hc s w' hs hy hn
    refine ⟨fun _ => ?_, fun _ => draw_w hs (by decide) (by decide) fun r t' _ _ h' => ?_⟩
    · exact ⟨fun _ => hy _ hs, fun _ => hn _ hs⟩
    · exact ⟨fun _ => hy _ h', fun _ => hn _ h'⟩
def RoomOk (r : List (Int × Int)) : Prop := r.Pairwise ltC ∧ r.length ≤ 144 ∧ ∀ c ∈ r, (0 ≤ c.1 ∧ c.1 ≤ 60) ∧ 0 ≤ c.2 ∧ c.2 ≤ 60
theorem ltC_trans {a b c : Int × Int} (h : ltC a b) (h' : ltC b c) : ltC a c := by unfold ltC at *; omega
theorem srt_perm (l : List (Int × Int)) : (srt tl2 l).Perm l := List.mergeSort_perm ..
theorem srt_mem {l : List (Int × Int)} {c : Int × Int} : c ∈ srt tl2 l ↔ c ∈ l := (srt_perm l).mem_iff
theorem srt_pw (l : List (Int × Int)) (hn : l.Nodup) : (srt tl2 l).Pairwise ltC := by
  have h1 : (srt tl2 l).Pairwise fun a b => (!HT.lexLt (tl2 b) (tl2 a)) = true := List.pairwise_mergeSort (fun a b c => by
      simp only [lex2, Bool.not_eq_true', decide_eq_false_iff_not]
      unfold ltC; omega) (fun a b => by
      simp only [lex2, Bool.or_eq_true, Bool.not_eq_true', decide_eq_false_iff_not]
      unfold ltC; omega) l
  have h2 : (srt tl2 l).Nodup := (srt_perm l).nodup_iff.mpr hn
  refine (h1.and h2).imp fun {a b} h => ?_
  have h3 := h.1
  simp only [lex2, Bool.not_eq_true', decide_eq_false_iff_not] at h3
  have : a ≠ b := h.2
  have : ¬ (a.1 = b.1 ∧ a.2 = b.2) := fun z => this (Prod.ext z.1 z.2)
  unfold ltC at h3 ⊢
  omega
/-- sorting what rises already -/
theorem srt_id {l : List (Int × Int)} (h : l.Pairwise ltC) : srt tl2 l = l := srt_eq (srt_pw l (srt_nodup h)) h fun c => srt_mem
theorem room_w {t : Int × Int} {g : Bool} {kr : List (Int × Int) × (Int × Int) → Prop} (ht : TpOk t) (hk : ∀ r s, RoomOk r → TpOk s → kr (r, s)) : w__law_room t g kr := by
  unfold w__law_room
  refine draw_w ht (by decide) (by decide) fun a t1 ha0 ha1 ht => draw_w ht (by decide) (by decide) fun b t2 hb0 hb1 ht => ?_
  simp only [lt]
  have rest : ∀ (t : Int × Int) (w h : Int), TpOk t → 1 ≤ w → w ≤ 12 → 1 ≤ h → h ≤ 12 → (fun (s3 : ((Int × Int) × Int × Int)) => w__law_shape s3.1 s3.2.1 s3.2.2 fun t6 =>
      ifW (decide (t6.1 = ([] : List (Int × Int)))) (fun kk => w__law_draw t6.2 4 fun t7 => kk ((decide (0 < t7.1)), t7.2)) (fun kk => kk (false, t6.2)) fun (b8 : Bool × (Int × Int)) =>
      ifW b8.1 (fun kk => w__law_cells 0 0 s3.2.1 s3.2.2 fun t9 => kk t9) (fun kk => kk t6.1) fun (cells : (List (Int × Int))) =>
      w__law_draw b8.2 4 fun t10 =>
      ifW (decide (t10.1 = 0)) (fun kk => w__law_draw t10.2 20 fun t12 => w__law_draw t12.2 20 fun t13 => w__law_draw t13.2 2 fun t14 => exW (atI [[t12.1, t13.1], [(41 - s3.2.1), (41 - s3.2.2)]] t14.1) fun x15 => kk (t14.2, x15)) (fun kk => kk (t10.2, [0, 0])) fun (s11 : ((Int × Int) × (List Int))) =>
      (cells.length ≤ sizeLine) ∧ lcW cells ([] : List (Int × Int)) () (fun a17 (s : Unit) w => exW (atI s11.2 0) fun x19 => exW (atI s11.2 1) fun x21 => w (some ((a17.1 + x19), (a17.2 + x21))) ()) fun l23 s24 => kr ((srt tl2 l23), s11.1)) (t, w, h) := by
    intro t w h ht hw0 hw1 hh0 hh1
    refine shape_w ht hw0 hw1 hh0 hh1 fun m s hm hs => ?_
    have gl := grid_sz (x := 0) (y := 0) (w := w) (h := h) (by omega) (by omega) (by omega) (by omega)
    have fin : ∀ (m : List (Int × Int)) (s : Int × Int), m.Sublist (gridL 0 0 w h) → TpOk s → w__law_draw s 4 fun t10 =>
        ifW (decide (t10.1 = 0)) (fun kk => w__law_draw t10.2 20 fun t12 => w__law_draw t12.2 20 fun t13 => w__law_draw t13.2 2 fun t14 => exW (atI [[t12.1, t13.1], [(41 - w), (41 - h)]] t14.1) fun x15 => kk (t14.2, x15)) (fun kk => kk (t10.2, [0, 0])) fun (s11 : ((Int × Int) × (List Int))) =>
        (m.length ≤ sizeLine) ∧ lcW m ([] : List (Int × Int)) () (fun a17 (s : Unit) w => exW (atI s11.2 0) fun x19 => exW (atI s11.2 1) fun x21 => w (some ((a17.1 + x19), (a17.2 + x21))) ()) fun l23 s24 => kr ((srt tl2 l23), s11.1) := by
      intro m s hm hs
      refine draw_w hs (by decide) (by decide) fun z s1 _ _ hs => ?_
      have last : ∀ (s2 : Int × Int) (u v : Int), TpOk s2 → 0 ≤ u → u ≤ 40 → 0 ≤ v → v ≤ 40 → (fun (s11 : ((Int × Int) × (List Int))) =>
          (m.length ≤ sizeLine) ∧ lcW m ([] : List (Int × Int)) () (fun a17 (s : Unit) w => exW (atI s11.2 0) fun x19 => exW (atI s11.2 1) fun x21 => w (some ((a17.1 + x19), (a17.2 + x21))) ()) fun l23 s24 => kr ((srt tl2 l23), s11.1)) (s2, [u, v]) := by
        intro s2 u v hs hu0 hu1 hv0 hv1
        have hml : m.length ≤ 144 := Nat.le_trans hm.length_le gl
        refine ⟨by rw [sz]; omega, lcW_map (fun c => (c.1 + u, c.2 + v)) (fun c hc w' hw => ⟨u, rfl, v, rfl, hw⟩) (hk _ _ ⟨srt_pw _ ?_, ?_, ?_⟩ hs)⟩
        · refine (List.pairwise_map).mpr (((srt_nodup (gridL_srt 0 0 w h)).sublist hm).imp fun {a b} hab e => hab ?_)
          simp only [Prod.mk.injEq] at e
          exact Prod.ext (by omega) (by omega)
        · rw [(srt_perm _).length_eq, List.length_map]; exact hml
        · intro c hc
          rw [srt_mem, List.mem_map] at hc
          obtain ⟨d, hd, rfl⟩ := hc
          have := mem_gridL.mp (hm.mem hd)
          simp only; omega
      refine ⟨fun _ => ?_, fun _ => last _ 0 0 hs (by omega) (by omega) (by omega) (by omega)⟩
      refine draw_w hs (by decide) (by decide) fun u s2 hu0 hu1 hs => draw_w hs (by decide) (by decide) fun v s3 hv0 hv1 hs => draw_w hs (by decide) (by decide) fun z s4 hz0 hz1 hs => ?_
      have hz : z = 0 ∨ z = 1 := by omega
      rcases hz with rfl | rfl
      · exact ⟨_, rfl, last _ u v hs (by omega) (by omega) (by omega) (by omega)⟩
      · exact ⟨_, rfl, last _ _ _ hs (by omega) (by omega) (by omega) (by omega)⟩
    have mid : ∀ (b : Bool) (s : Int × Int), TpOk s → (fun (b8 : Bool × (Int × Int)) =>
        ifW b8.1 (fun kk => w__law_cells 0 0 w h fun t9 => kk t9) (fun kk => kk m) fun (cells : (List (Int × Int))) =>
        w__law_draw b8.2 4 fun t10 =>
        ifW (decide (t10.1 = 0)) (fun kk => w__law_draw t10.2 20 fun t12 => w__law_draw t12.2 20 fun t13 => w__law_draw t13.2 2 fun t14 => exW (atI [[t12.1, t13.1], [(41 - w), (41 - h)]] t14.1) fun x15 => kk (t14.2, x15)) (fun kk => kk (t10.2, [0, 0])) fun (s11 : ((Int × Int) × (List Int))) =>
        (cells.length ≤ sizeLine) ∧ lcW cells ([] : List (Int × Int)) () (fun a17 (s : Unit) w => exW (atI s11.2 0) fun x19 => exW (atI s11.2 1) fun x21 => w (some ((a17.1 + x19), (a17.2 + x21))) ()) fun l23 s24 => kr ((srt tl2 l23), s11.1)) (b, s) := by
      intro b s hs
      exact ⟨fun _ => cells_w (by omega) (by omega) (by omega) (by omega) (fin _ _ (List.Sublist.refl _) hs), fun _ => fin _ _ hm hs⟩
    exact ⟨fun _ => draw_w hs (by decide) (by decide) fun z s1 _ _ hs => mid _ _ hs, fun _ => mid _ _ hs⟩
  refine ⟨fun _ => draw_w ht (by decide) (by decide) fun c t3 hc0 hc1 ht => draw_w ht (by decide) (by decide) fun d t4 hd0 hd1 ht => rest _ _ _ ht (by omega) (by omega) (by omega) (by omega), fun _ => rest _ _ _ ht (by omega) (by omega) (by omega) (by omega)⟩
theorem some_room_w {t : Int × Int} {k : Int} {kr : List (Int × Int) × (Int × Int) → Prop} (ht : TpOk t) (hk : ∀ r s, RoomOk r → TpOk s → kr (r, s)) : w__law_some_room t k kr := by
  unfold w__law_some_room
  have rest : ∀ (b : Bool) (s : Int × Int), TpOk s → (fun (b2 : Bool × (Int × Int)) => w__law_room b2.2 b2.1 fun t3 => kr (t3.1, t3.2)) (b, s) := fun b s hs => room_w hs hk
  exact ⟨fun _ => draw_w ht (by decide) (by decide) fun z s1 _ _ hs => rest _ _ hs, fun _ => rest _ _ ht⟩
theorem tape_w {ns : List Int} {k : Int} {kr : Int × Int → Prop} (h1 : 0 ≤ k) (h2 : k ≤ 1000) (h : ∀ t, TpOk t → kr t) : w__law_tape ns k kr := ⟨⟨h1, h2⟩, h⟩
end BC

namespace BC
open PySem PySem.Spec PyProof.Rows L2 BX TX COM
abbrev C2 := Int × Int
abbrev B4 := Int × Int × Int × Int
section
variable {κ α : Type} [DecidableEq κ]
theorem getA_put {k c : κ} {v : α} : ∀ {l : List (κ × α)}, getA (putA k v l) c = if c = k then some v else getA l c
  | [] => by
    unfold getA putA
    by_cases h : c = k
    · simp [h]
    · have : ¬ k = c := fun z => h z.symm
      simp [h, this]
  | p :: l => by
    have ih := getA_put (k := k) (c := c) (v := v) (l := l)
    unfold getA at ih ⊢
    rw [putA]
    by_cases h1 : p.1 = k
    · rw [if_pos h1, List.find?_cons, List.find?_cons]
      by_cases h : c = k
      · simp [h, h1]
      · have : ¬ p.1 = c := fun z => h (by rw [← z]; exact h1)
        simp [h, this]
    · rw [if_neg h1, List.find?_cons, List.find?_cons]
      by_cases h : p.1 = c
      · have : ¬ c = k := fun z => h1 (by rw [h]; exact z)
        simp [h, this]
      · simp only [h, decide_false]
        exact ih
theorem hasA_get {k : κ} : ∀ {l : List (κ × α)}, hasA l k = (getA l k).isSome
  | [] => rfl
  | p :: l => by
    have ih := hasA_get (k := k) (l := l)
    unfold hasA getA at ih ⊢
    rw [List.any_cons, List.find?_cons]
    by_cases h : p.1 = k
    · simp [h]
    · simp only [h, decide_false, Bool.false_or]
      exact ih
theorem len_put {k : κ} {v : α} : ∀ {m : List (κ × α)}, (putA k v m).length ≤ m.length + 1
  | [] => by simp [putA]
  | p :: m => by
    have := len_put (k := k) (v := v) (m := m)
    rw [putA]; split <;> simp <;> omega
theorem getA_puts {c : κ} : ∀ {l m : List (κ × α)}, (∀ v, (c, v) ∉ l) → getA (putAs m l) c = getA m c
  | [], m, _ => rfl
  | p :: l, m, h => by
    show getA (putAs (putA p.1 p.2 m) l) c = _
    rw [getA_puts fun v hv => h v (List.mem_cons_of_mem _ hv), getA_put]
    split
    · rename_i e
      exact absurd (List.mem_cons_self ..) (e ▸ h p.2)
    · rfl
theorem has_all {β : Type} {f : β → κ} {v : β → α} {c : κ} : ∀ {l : List β} {m : List (κ × α)}, hasA (putAs m (l.map fun b => (f b, v b))) c = (hasA m c || decide (c ∈ l.map f))
  | [], m => by simp [putAs]
  | b :: l, m => by
    show hasA (putAs (putA (f b) (v b) m) (l.map _)) c = _
    rw [has_all (l := l), hasA_get, getA_put, hasA_get]
    by_cases h : c = f b
    · simp [h]
    · simp [h]
/-- a dict of things, all true: which things are there -/
theorem has_dict {l : List κ} {v : α} {c : κ} [d : Decidable (c ∈ l)] : hasA (putAs [] (l.map fun b => (b, v))) c = decide (c ∈ l) := by
  have := has_all (f := fun b : κ => b) (v := fun _ => v) (l := l) (m := ([] : List (κ × α))) (c := c)
  rw [this]
  by_cases h : c ∈ l <;> simp [hasA, h]
end
section
variable {α β γ δ : Type} {f : α → D}
theorem so_int {n : Nat} {i : Int} : SameOk (n + 1) (.int i) := trivial
theorem so_bl {n : Nat} {b : Bool} : SameOk (n + 1) (.bl b) := trivial
theorem so_L {n : Nat} {l : List α} (h : l.length ≤ 1000000) (h2 : ∀ a ∈ l, SameOk n (f a)) : SameOk (n + 1) (eL f l) := ⟨by simpa using h, fun x hx => by
  obtain ⟨a, ha, rfl⟩ := List.mem_map.mp hx
  exact h2 a ha⟩
theorem so_V {n : Nat} {l : List α} (h : l.length ≤ 1000000) (h2 : ∀ a ∈ l, SameOk n (f a)) : SameOk (n + 1) (eV f l) := ⟨by simpa using h, fun x hx => by
  obtain ⟨a, ha, rfl⟩ := List.mem_map.mp hx
  exact h2 a ha⟩
theorem so_T2 {g : β → D} {n : Nat} {p : α × β} (h1 : SameOk n (f p.1)) (h2 : SameOk n (g p.2)) : SameOk (n + 1) (eT2 f g p) := ⟨by simp, fun x hx => by
  simp at hx; rcases hx with rfl | rfl <;> assumption⟩
theorem so_T4 {g : β → D} {h : γ → D} {i : δ → D} {n : Nat} {p : α × β × γ × δ} (h1 : SameOk n (f p.1)) (h2 : SameOk n (g p.2.1)) (h3 : SameOk n (h p.2.2.1)) (h4 : SameOk n (i p.2.2.2)) : SameOk (n + 1) (eT4 f g h i p) := ⟨by simp, fun x hx => by
  simp at hx; rcases hx with rfl | rfl | rfl | rfl <;> assumption⟩
theorem so_box {n : Nat} (b : B4) : SameOk (n + 2) (eT4 D.int D.int D.int D.int b) := so_T4 so_int so_int so_int so_int
theorem so_cell {n : Nat} (b : C2) : SameOk (n + 2) (eT2 D.int D.int b) := so_T2 so_int so_int
end
def RoomB (r : List C2) : Prop := r.Pairwise ltC ∧ r.length ≤ 1000 ∧ ∀ c ∈ r, (0 ≤ c.1 ∧ c.1 ≤ 60) ∧ 0 ≤ c.2 ∧ c.2 ≤ 60
theorem RoomOk.b {r : List C2} (h : RoomOk r) : RoomB r := ⟨h.1, by have := h.2.1; omega, h.2.2⟩
end BC

namespace BC
open PySem PySem.Spec PyProof.Rows L2 BX TX COM
section
variable {κ α : Type} [DecidableEq κ]
theorem keys_put {k : κ} {v : α} : ∀ {m : List (κ × α)}, (putA k v m).map (·.1) = if k ∈ m.map (·.1) then m.map (·.1) else m.map (·.1) ++ [k]
  | [] => by simp [putA]
  | p :: m => by
    have ih := keys_put (k := k) (v := v) (m := m)
    rw [putA]
    by_cases h : p.1 = k
    · simp [h]
    · have h' : ¬ k = p.1 := fun z => h z.symm
      rw [if_neg h, List.map_cons, ih]
      by_cases g : k ∈ m.map (·.1)
      · simp [g]
      · simp [g, h']
theorem keys_nd : ∀ {l m : List (κ × α)}, (m.map (·.1)).Nodup → ((putAs m l).map (·.1)).Nodup
  | [], m, h => h
  | p :: l, m, h => by
    show ((putAs (putA p.1 p.2 m) l).map (·.1)).Nodup
    refine keys_nd ?_
    rw [keys_put]
    split
    · exact h
    · rename_i g
      rw [List.nodup_append]
      refine ⟨h, by simp, fun a ha b hb => ?_⟩
      rw [List.mem_singleton.mp hb]
      exact fun z => g (z ▸ ha)
theorem keys_mem {c : κ} : ∀ {l m : List (κ × α)}, c ∈ (putAs m l).map (·.1) ↔ c ∈ m.map (·.1) ∨ c ∈ l.map (·.1)
  | [], m => by simp [putAs]
  | p :: l, m => by
    show c ∈ (putAs (putA p.1 p.2 m) l).map (·.1) ↔ _
    rw [keys_mem, keys_put, List.map_cons, List.mem_cons]
    split
    · rename_i g
      constructor
      · rintro (h | h)
        · exact .inl h
        · exact .inr (.inr h)
      · rintro (h | h | h)
        · exact .inl h
        · exact .inl (h ▸ g)
        · exact .inr h
    · rw [List.mem_append, List.mem_singleton, or_assoc]
end
theorem has_memB {κ α : Type} [DecidableEq κ] {l : List κ} {v : α} {c : κ} : hasA (putAs [] (l.map fun b => (b, v))) c = memB c l := by
  unfold memB
  exact BC.has_dict
theorem pairs_keys {κ α : Type} {l : List κ} {v : α} : (l.map fun c => (c, v)).map (·.1) = l := by rw [List.map_map]; exact List.map_id' _
/-- the sorted keys of a dict of cells are the sorted set of them -/
theorem srt_keys {α : Type} (l : List C2) (v : α) : srt tl2 ((putAs ([] : List (C2 × α)) (l.map fun c => (c, v))).map (·.1)) = srt tl2 (BX.dd l) :=
  srt_eq (srt_pw _ (keys_nd List.nodup_nil)) (srt_pw _ (BX.dd_nodup l)) fun c => by
    rw [srt_mem, srt_mem, BX.dd_mem, keys_mem, pairs_keys]
    simp
section
variable {α : Type} {f : α → D} {n k : Nat} {l : List α}
theorem sw_L (h : ∀ a ∈ l, Sw n k (f a)) : Sw (l.length * (n + 1)) (k + 1) (eL f l) := by
  have := sw_lst (ds := l.map f) fun d hd => by
    obtain ⟨a, ha, rfl⟩ := List.mem_map.mp hd
    exact h a ha
  rwa [List.length_map] at this
theorem sw_V (h : ∀ a ∈ l, Sw n k (f a)) : Sw (l.length * (n + 1)) (k + 1) (eV f l) := by
  have := sw_tup (ds := l.map f) fun d hd => by
    obtain ⟨a, ha, rfl⟩ := List.mem_map.mp hd
    exact h a ha
  rwa [List.length_map] at this
theorem sw_T2 {β : Type} {g : β → D} {p : α × β} (h1 : Sw n k (f p.1)) (h2 : Sw n k (g p.2)) : Sw (2 * (n + 1)) (k + 1) (eT2 f g p) :=
  sw_tup (ds := [f p.1, g p.2]) fun d hd => by simp at hd; rcases hd with rfl | rfl <;> assumption
theorem sw_T4 {β γ δ : Type} {g : β → D} {h : γ → D} {i : δ → D} {p : α × β × γ × δ} (h1 : Sw n k (f p.1)) (h2 : Sw n k (g p.2.1)) (h3 : Sw n k (h p.2.2.1)) (h4 : Sw n k (i p.2.2.2)) : Sw (4 * (n + 1)) (k + 1) (eT4 f g h i p) :=
  sw_tup (ds := [f p.1, g p.2.1, h p.2.2.1, i p.2.2.2]) fun d hd => by simp at hd; rcases hd with rfl | rfl | rfl | rfl <;> assumption
end
theorem sw_cell {c : C2} (h : -1000000 < c.1 ∧ c.1 < 1000000) (h' : -1000000 < c.2 ∧ c.2 < 1000000) : Sw 2 1 (eT2 D.int D.int c) := sw_T2 (sw_int (by omega)) (sw_int (by omega))
theorem sw_room {r : List C2} (h : RoomB r) : Sw 3000 2 (eV (eT2 D.int D.int) r) :=
  (sw_V (n := 2) (k := 1) fun c hc => by have := h.2.2 c hc; exact sw_cell (by omega) (by omega)).up (by have := h.2.1; omega) (Nat.le_refl _)
theorem sh_room {r : List C2} (h : RoomB r) : ShOk (eV (eT2 D.int D.int) r) ∧ PyData.strOk (strD (eV (eT2 D.int D.int) r)) = true := (sw_room h).go (by decide) (by decide)
end BC

namespace TX
open PySem PySem.Spec PyProof.Rows L2 BX
section
variable {e : En} {Q : R → En → Prop} {kI : List D → Option Bool → Lok → En → Prop}
theorem c_tmp {t : XE} (q : t e fun r e => rd 1 r e fun d => d.imm = true ∧ aR Q (.tmp d) e) : dTmp t e Q := q
theorem o_tmp {r : R} {d : D} (hr : Rv e 1 r d) (hi : d.imm = true) (q : aR Q (.tmp d) e) : rd 1 r e fun d => d.imm = true ∧ aR Q (.tmp d) e := hr.rd ⟨hi, q⟩
/-- a, a + c, .. below b -/
def rng3 (a b c : Int) : List Int := (List.range (nC a b c)).map fun n => a + (n : Nat) * c
theorem c_rg3 {t u v : XE} (q : t e fun r e => u e fun r2 e2 => v e2 fun r3 e3 => rd 2 r e3 fun d => rd 2 r2 e3 fun d2 => rd 2 r3 e3 fun d3 => match d, d2, d3 with
  | .int i, .int j, .int c => RgC i j c (nC i j c) ∧ aI kI ((List.range (nC i j c)).map fun n => .int (i + (n : Nat) * c)) none none e3
  | _, _, _ => False) : iRange3 t u v e kI := q
theorem o_rg3 {a b c : Int} (h : RgC a b c (nC a b c)) (q : aI kI ((rng3 a b c).map D.int) none none e) : (rd 2 (.tmp (.int a)) e fun d => rd 2 (.tmp (.int b)) e fun d2 => rd 2 (.tmp (.int c)) e fun d3 => match d, d2, d3 with
  | .int i, .int j, .int c => RgC i j c (nC i j c) ∧ aI kI ((List.range (nC i j c)).map fun n => .int (i + (n : Nat) * c)) none none e
  | _, _, _ => False) := ⟨h, by
    have e : (rng3 a b c).map D.int = (List.range (nC a b c)).map fun n => .int (a + (n : Nat) * c) := by unfold rng3; rw [List.map_map]; rfl
    rw [← e]; exact q⟩
end
theorem chord_ok {a : Str × Int × Int × Int} (h : PyData.strOk a.1 = true) : eqOk (eT4 .str .int .int .int a) = true := by
  unfold eqOk SeqAt.shaped
  simp [eT4, D.py, pyL, PyData.canLay0, PyData.canLayAll0, PyData.depth, PyData.depthAll, h]
theorem chord_eq {a b : Str × Int × Int × Int} : deq (eT4 .str .int .int .int a) (eT4 .str .int .int .int b) = decide (a = b) := by
  unfold deq
  simp only [eT4, D.py, pyL, PyData.eqv, PyData.eqvAll, Bool.and_true]
  obtain ⟨a1, a2, a3, a4⟩ := a
  obtain ⟨b1, b2, b3, b4⟩ := b
  rw [Bool.eq_iff_iff]
  simp [Prod.ext_iff]
theorem op_eqCh {a b : Str × Int × Int × Int} (h1 : PyData.strOk a.1 = true) (h2 : PyData.strOk b.1 = true) : OpTo opEq (eT4 .str .int .int .int a) (eT4 .str .int .int .int b) (.bl (decide (a = b))) := fun k q => ⟨chord_ok h1, chord_ok h2, by rw [chord_eq]; exact q⟩
theorem op_neCh {a b : Str × Int × Int × Int} (h1 : PyData.strOk a.1 = true) (h2 : PyData.strOk b.1 = true) : OpTo opNe (eT4 .str .int .int .int a) (eT4 .str .int .int .int b) (.bl (!decide (a = b))) := fun k q => ⟨chord_ok h1, chord_ok h2, by rw [chord_eq]; exact q⟩
end TX

namespace TX
open PySem PySem.Spec PyProof.Rows L2 BX
section
variable {e : En} {r : R} {Q : R → En → Prop}
theorem c_sortSI {t : XE} (q : t e fun r e => rd 2 r e fun d => bSortSI d fun d' => aR Q (.tmp d') e) : dSortSI t e Q := q
theorem o_sortSI {l : List Int} (hr : Rv e 2 r (eL D.int l)) (few : l.length < 4000) (q : aR Q (.tmp (eL D.int (upI l))) e) : rd 2 r e fun d => bSortSI d fun d' => aR Q (.tmp d') e := hr.rd (by
  unfold bSortSI eL
  simp only [intL_ints]
  exact ⟨few, q⟩)
theorem c_listR {t : XE} (q : t e fun r e => rd 2 r e fun d => match d with
  | .int n => (0 ≤ n ∧ n ≤ 2 ^ 24) ∧ aR Q (.tmp (.lst ((upN n).map .int))) e
  | _ => False) : dListR t e Q := q
theorem o_listR {n : Int} (hr : Rv e 2 r (.int n)) (h : 0 ≤ n ∧ n ≤ 2 ^ 24) (q : aR Q (.tmp (eL D.int (upN n))) e) : rd 2 r e fun d => match d with
  | .int n => (0 ≤ n ∧ n ≤ 2 ^ 24) ∧ aR Q (.tmp (.lst ((upN n).map .int))) e
  | _ => False := hr.rd ⟨h, q⟩
end
end TX

namespace TX
open PySem PySem.Spec PyProof.Rows L2 BX
section
variable {e e' : En} {Q : R → En → Prop} {i : Nat} {r r1 r2 r' : R} {nx : En → Prop} {rt : D → En → Prop}
theorem s_frzL {t : XS} {ds : List D} (h : e[i]? = some (some (.lst ds, .own))) (im : immL ds = true) (he : e.set i (some (.lst ds, .cst)) = e') (q : t e' nx rt) : sFrzL i t e nx rt := by
  unfold sFrzL
  rw [h]
  exact ⟨im, by rw [he]; exact q⟩
theorem immL_of {α : Type} {f : α → D} [Im f] (l : List α) : immL (l.map f) = true := immL_iff.mpr fun d hd => by
  obtain ⟨a, _, rfl⟩ := List.mem_map.mp hd
  exact Im.im a
/-- read as a constant -/
inductive Rc : R → D → Prop
  | ro {c : Bool} {d : D} : Rc (.ro c d) d
  | tmp {d : D} : d.imm = true → Rc (.tmp d) d
theorem Rc.go {d : D} (h : Rc r d) {k : D → Prop} (q : k d) : rdC r k := by
  cases h with
  | ro => exact q
  | tmp im => exact ⟨im, q⟩
theorem c_tupC {u : XA} (q : u e fun rs e => rs.length ≤ 1000 ∧ rdCs rs fun ds => aR Q (.ro true (.tup ds)) e) : dTupC u e Q := q
theorem o_tupC2 {α β : Type} {f : α → D} {g : β → D} (a : α) (b : β) (h1 : Rc r1 (f a)) (h2 : Rc r2 (g b)) (q : aR Q (.ro true (eT2 f g (a, b))) e) : [r1, r2].length ≤ 1000 ∧ rdCs [r1, r2] fun ds => aR Q (.ro true (.tup ds)) e :=
  ⟨by show 2 ≤ 1000; decide, h1.go (k := fun d => rdCs [r2] fun ds => aR Q (.ro true (.tup (d :: ds))) e) (h2.go (k := fun d' => rdCs [] fun ds => aR Q (.ro true (.tup (f a :: d' :: ds))) e) q)⟩
def pickP (i : Nat) (e : En) (Q : R → En → Prop) (ds : List D) : Prop := match e[i]? with
  | some (some (.int j, _)) => match atI ds j with
    | some d => Q (mkRo true d) e
    | none => False
  | _ => False
theorem c_pick {u : XA} (q : u e fun rs e => rs.length ≤ 1000 ∧ rdCs rs (pickP i e Q)) : dPick u i e Q := q
theorem o_pick2 {α : Type} {f : α → D} (a b : α) {x : α} {j : Int} {m : Md} (h1 : Rc r1 (f a)) (h2 : Rc r2 (f b)) (hi : e[i]? = some (some (.int j, m))) (hx : atI [a, b] j = some x) (q : aR Q (mkRo true (f x)) e) : [r1, r2].length ≤ 1000 ∧ rdCs [r1, r2] (pickP i e Q) := by
  refine ⟨by show 2 ≤ 1000; decide, ?_⟩
  have hm : atI [f a, f b] j = some (f x) := atI_map (f := f) hx
  have fin : pickP i e Q [f a, f b] := by
    unfold pickP
    rw [hi]
    simp only [hm]
    exact q
  unfold rdCs
  refine h1.go ?_
  unfold rdCs
  refine h2.go ?_
  exact fin
theorem n_tupI {l : List Int} : OpN (op1 bTupI) [eL D.int l] (eV D.int l) := fun k q => by
  unfold op1 eL bTupI
  simp only [intL_ints]
  exact q
theorem s_retTup {ds : List D} (h : e[i]? = some (some (.lst ds, .own))) (q : aD rt (.tup ds) e) : sRetTup i e nx rt := by
  unfold sRetTup
  rw [h]
  exact q
/-- an int out of what is read somehow -/
theorem o_idxI {d1 d2 : D} {n : Int} (h1 : Rv e 2 r1 d1) (h2 : Rv e 1 r2 d2) (hi : IxTo d1 d2 (.int n)) (q : aR Q (.tmp (.int n)) e) : rd 2 r1 e fun d1 => rd 1 r2 e fun d2 => ixd d1 d2 fun d => elem r1 d fun r => aR Q r e := by
  refine h1.rd (h2.rd (hi (fun d => elem r1 d fun r => aR Q r e) ?_))
  cases r1 with
  | tmp x => exact q
  | sl j => exact ⟨rfl, q⟩
  | ro c x => exact q
theorem ix_Y {α : Type} {f : α → D} {p : Bool × List α} {i : Int} {a : α} (h : atI p.2 i = some a) : IxTo (eLV f p) (.int i) (f a) := by
  obtain ⟨b, l⟩ := p
  cases b
  · exact ix_L h
  · exact ix_V h
theorem ix_TV {c : Int × Int} {i a : Int} (h : atI [c.1, c.2] i = some a) : IxTo (eT2 D.int D.int c) (.int i) (.int a) := ix_T (ds := [D.int c.1, D.int c.2]) (atI_map (f := D.int) h)
theorem mkRo_Y {α : Type} {c : Bool} {f : α → D} {p : Bool × List α} : mkRo c (eLV f p) = .ro c (eLV f p) := by
  obtain ⟨b, l⟩ := p
  cases b <;> rfl
theorem g_nroY {α : Type} {c : Bool} {f : α → D} {p : Bool × List α} {kE : En → Prop} (hs : setOk e i = true) (he : e.set i (some (eLV f p, roMd c)) = e') (q : aN kE e') : gN i (mkI (some c) (eLV f p)) e kE := by
  show gN i (mkRo c (eLV f p)) e kE
  rw [mkRo_Y]
  exact ⟨hs, by subst he; exact q⟩
end
end TX

namespace K30
open PySem PySem.Spec PyProof.Rows L2 BX TX COM BC
def w__law_same (x y : D) (kr : Bool → Prop) : Prop := w__law_sameN 4 x y kr
def S__law_same : FS := mkS (α := D × D) (κ := Bool) [.cst, .cst] (fun a => [eA a.1, eA a.2]) (fun a => w__law_same a.1 a.2) (fun r => D.bl r) fun a r => [eA a.1, eA a.2]
def t_area : XS :=
  (sSeq (sAsg (dVar 1) (gT 2 (gsCons (gN 2) (gsCons (gN 3) gsNil))))
  (sRet (dCall 2 (op1 bSum) (aCons (dLc (iSeq (dVar 0)) (gT 2 (gsCons (gN 4) (gsCons (gN 5) gsNil))) xYes (dBin 1 opMul (dIdx (dVar 2) (dVar 4)) (dIdx (dVar 3) (dVar 5))) [4, 5]) aNil))))
def w_area (room : (List (Int × Int))) (measure : ((Bool × List Int) × (Bool × List Int))) (kr : Int → Prop) : Prop :=
(room.length ≤ sizeLine) ∧
lcW room ([] : List Int) () (fun a1 (s : Unit) w => exW (atI measure.1.2 a1.1) fun x5 =>
exW (atI measure.2.2 a1.2) fun x9 =>
(IntMulOk x5 x9) ∧
w (some (x5 * x9)) ()) fun l12 s13 =>
kr (l12.sum)
def S_area : FS := mkS (α := ((List (Int × Int)) × ((Bool × List Int) × (Bool × List Int)))) (κ := Int) [.ro, .cst] (fun a => [(eV (eT2 D.int D.int)) a.1, (eT2 (eLV D.int) (eLV D.int)) a.2]) (fun a => w_area a.1 a.2) (fun r => D.int r) fun a r => [(eV (eT2 D.int D.int)) a.1, (eT2 (eLV D.int) (eLV D.int)) a.2]
theorem v_area : BodyOk S_area 6 t_area := by
  intro ds Q hl h
  obtain ⟨⟨room, measure⟩, kr, rfl, h, q⟩ := h
  refine b_env (e' := [some ((eV (eT2 D.int D.int)) room, .ro), some ((eT2 (eLV D.int) (eLV D.int)) measure, .cst), none, none, none, none]) rfl ?_
  unfold t_area
  unfold w_area at h
  refine s_seq ?_
  refine s_asg ?_
  refine c_var rfl ?_
  refine g_Tro (by rfl) (g_cons (g_nroY (e' := [some ((eV (eT2 D.int D.int)) room, .ro), some ((eT2 (eLV D.int) (eLV D.int)) measure, .cst), some ((eLV D.int) measure.1, .cst), none, none, none]) rfl rfl (g_cons (g_nroY (e' := [some ((eV (eT2 D.int D.int)) room, .ro), some ((eT2 (eLV D.int) (eLV D.int)) measure, .cst), some ((eLV D.int) measure.1, .cst), some ((eLV D.int) measure.2, .cst), none, none]) rfl rfl (g_nil (?_))))))
  refine s_ret ?_
  refine c_call ?_
  refine c_aCons ?_
  refine c_lc ?_
  refine c_iSeq ?_
  refine c_var rfl ?_
  refine o_sqRv ?_
  obtain ⟨p2, h⟩ := h
  refine o_lcW (fI := (eT2 D.int D.int)) (fo := D.int) (sh := fun (s : Unit) e => e = [some ((eV (eT2 D.int D.int)) room, .ro), some ((eT2 (eLV D.int) (eLV D.int)) measure, .cst), some ((eLV D.int) measure.1, .cst), some ((eLV D.int) measure.2, .cst), none, none]) h (all2 rfl rfl) p2 rfl (fun a1 ha s e hs w c k1 k2 hc h1 h2 h => ?_) ?_
  · obtain rfl := hs
    refine g_Tro (by rfl) (g_cons (g_n (e' := [some ((eV (eT2 D.int D.int)) room, .ro), some ((eT2 (eLV D.int) (eLV D.int)) measure, .cst), some ((eLV D.int) measure.1, .cst), some ((eLV D.int) measure.2, .cst), some (D.int a1.1, .own), none]) rfl rfl (g_cons (g_n (e' := [some ((eV (eT2 D.int D.int)) room, .ro), some ((eT2 (eLV D.int) (eLV D.int)) measure, .cst), some ((eLV D.int) measure.1, .cst), some ((eLV D.int) measure.2, .cst), some (D.int a1.1, .own), some (D.int a1.2, .own)]) rfl rfl (g_nil (?_))))))
    refine c_yes ?_
    refine c_bin ?_
    refine c_idx ?_
    refine c_varU2 (by rfl) fun r3 hr4 => ?_
    refine c_var rfl ?_
    obtain ⟨x5, p6, h⟩ := h
    refine o_idxI hr4 .tmp (ix_Y p6) ?_
    refine c_idx ?_
    refine c_varU2 (by rfl) fun r7 hr8 => ?_
    refine c_var rfl ?_
    obtain ⟨x9, p10, h⟩ := h
    refine o_idxI hr8 .tmp (ix_Y p10) ?_
    obtain ⟨p11, h⟩ := h
    refine o_bin .tmp .tmp (op_mulI p11) ?_
    exact o_el .tmp hc rfl (h1 _ () _ rfl h)
  rintro l12 s13 e hs h
  obtain rfl := hs
  refine o_rest (e' := [some ((eV (eT2 D.int D.int)) room, .ro), some ((eT2 (eLV D.int) (eLV D.int)) measure, .cst), some ((eLV D.int) measure.1, .cst), some ((eLV D.int) measure.2, .cst), none, none]) rfl ?_
  refine o_thaw0 ?_
  refine c_aNil ?_
  refine o_call (.cons .tmp .nil) n_sum ?_
  refine o_ret ?_
  exact q (l12.sum) h

def t_sides_beside : XS :=
  (sSeq (sAsg (dVar 1) (gT 2 (gsCons (gN 2) (gsCons (gN 3) gsNil))))
  (sSeq (sPar 4 5 (aCons (dIdx (dIdx (dVar 0) (dC (.int 0))) (dVar 2)) (aCons (dIdx (dIdx (dVar 0) (dC (.int 1))) (dVar 3)) aNil)))
  (sRet (dLst (aCons (dTup (aCons (dTup (aCons (dBin 2 opSub (dVar 2) (dC (.int 1))) (aCons (dVar 3) aNil))) (aCons (dVar 5) aNil))) (aCons (dTup (aCons (dTup (aCons (dBin 1 opAdd (dVar 2) (dC (.int 1))) (aCons (dVar 3) aNil))) (aCons (dVar 5) aNil))) (aCons (dTup (aCons (dTup (aCons (dVar 2) (aCons (dBin 2 opSub (dVar 3) (dC (.int 1))) aNil))) (aCons (dVar 4) aNil))) (aCons (dTup (aCons (dTup (aCons (dVar 2) (aCons (dBin 1 opAdd (dVar 3) (dC (.int 1))) aNil))) (aCons (dVar 4) aNil))) aNil))))))))
def w_sides_beside (measure : ((Bool × List Int) × (Bool × List Int))) (cell : (Int × Int)) (kr : (List ((Int × Int) × Int)) → Prop) : Prop :=
exW (atI measure.1.2 cell.1) fun x1 =>
exW (atI measure.2.2 cell.2) fun x3 =>
lt (x1 : Int) fun wide =>
lt (x3 : Int) fun high =>
kr [(((cell.1 - 1), cell.2), high), (((cell.1 + 1), cell.2), high), ((cell.1, (cell.2 - 1)), wide), ((cell.1, (cell.2 + 1)), wide)]
def S_sides_beside : FS := mkS (α := (((Bool × List Int) × (Bool × List Int)) × (Int × Int))) (κ := (List ((Int × Int) × Int))) [.cst, .ro] (fun a => [(eT2 (eLV D.int) (eLV D.int)) a.1, (eT2 D.int D.int) a.2]) (fun a => w_sides_beside a.1 a.2) (fun r => (eL (eT2 (eT2 D.int D.int) D.int)) r) fun a r => [(eT2 (eLV D.int) (eLV D.int)) a.1, (eT2 D.int D.int) a.2]
theorem v_sides_beside : BodyOk S_sides_beside 6 t_sides_beside := by
  intro ds Q hl h
  obtain ⟨⟨measure, cell⟩, kr, rfl, h, q⟩ := h
  refine b_env (e' := [some ((eT2 (eLV D.int) (eLV D.int)) measure, .cst), some ((eT2 D.int D.int) cell, .ro), none, none, none, none]) rfl ?_
  unfold t_sides_beside
  unfold w_sides_beside at h
  refine s_seq ?_
  refine s_asg ?_
  refine c_var rfl ?_
  refine g_Tro (by rfl) (g_cons (g_n (e' := [some ((eT2 (eLV D.int) (eLV D.int)) measure, .cst), some ((eT2 D.int D.int) cell, .ro), some (D.int cell.1, .own), none, none, none]) rfl rfl (g_cons (g_n (e' := [some ((eT2 (eLV D.int) (eLV D.int)) measure, .cst), some ((eT2 D.int D.int) cell, .ro), some (D.int cell.1, .own), some (D.int cell.2, .own), none, none]) rfl rfl (g_nil (?_))))))
  refine s_seq ?_
  refine s_par ?_
  refine c_aCons ?_
  refine c_idx ?_
  refine c_idx ?_
  refine c_var rfl ?_
  refine c_C ?_
  refine o_idx .cst .tmp ix_20 (.ro mkRo_Y) ?_
  refine c_var rfl ?_
  obtain ⟨x1, p2, h⟩ := h
  refine o_idx .cst .tmp (ix_Y p2) (.ro rfl) ?_
  refine c_aCons ?_
  refine c_idx ?_
  refine c_idx ?_
  refine c_var rfl ?_
  refine c_C ?_
  refine o_idx .cst .tmp ix_21 (.ro mkRo_Y) ?_
  refine c_var rfl ?_
  obtain ⟨x3, p4, h⟩ := h
  refine o_idx .cst .tmp (ix_Y p4) (.ro rfl) ?_
  refine c_aNil ?_
  refine o_par (f := D.int) (g := D.int) (fun wide high => [some ((eT2 (eLV D.int) (eLV D.int)) measure, .cst), some ((eT2 D.int D.int) cell, .ro), some (D.int cell.1, .own), some (D.int cell.2, .own), some (D.int wide, .own), some (D.int high, .own)]) .tmp .tmp h rfl rfl (fun _ _ => rfl) fun wide high h => ?_
  refine s_ret ?_
  refine c_lst ?_
  refine c_aCons ?_
  refine c_tup ?_
  refine c_aCons ?_
  refine c_tup ?_
  refine c_aCons ?_
  refine c_bin ?_
  refine c_var rfl ?_
  refine c_C ?_
  refine o_bin .tmp .tmp op_subI ?_
  refine c_aCons ?_
  refine c_var rfl ?_
  refine c_aNil ?_
  refine o_tup2 D.int D.int (cell.1 - 1) cell.2 (.cons .tmp (.cons .tmp .nil)) ?_
  refine c_aCons ?_
  refine c_var rfl ?_
  refine c_aNil ?_
  refine o_tup2 (eT2 D.int D.int) D.int ((cell.1 - 1), cell.2) high (.cons .tmp (.cons .tmp .nil)) ?_
  refine c_aCons ?_
  refine c_tup ?_
  refine c_aCons ?_
  refine c_tup ?_
  refine c_aCons ?_
  refine c_bin ?_
  refine c_var rfl ?_
  refine c_C ?_
  refine o_bin .tmp .tmp op_addI ?_
  refine c_aCons ?_
  refine c_var rfl ?_
  refine c_aNil ?_
  refine o_tup2 D.int D.int (cell.1 + 1) cell.2 (.cons .tmp (.cons .tmp .nil)) ?_
  refine c_aCons ?_
  refine c_var rfl ?_
  refine c_aNil ?_
  refine o_tup2 (eT2 D.int D.int) D.int ((cell.1 + 1), cell.2) high (.cons .tmp (.cons .tmp .nil)) ?_
  refine c_aCons ?_
  refine c_tup ?_
  refine c_aCons ?_
  refine c_tup ?_
  refine c_aCons ?_
  refine c_var rfl ?_
  refine c_aCons ?_
  refine c_bin ?_
  refine c_var rfl ?_
  refine c_C ?_
  refine o_bin .tmp .tmp op_subI ?_
  refine c_aNil ?_
  refine o_tup2 D.int D.int cell.1 (cell.2 - 1) (.cons .tmp (.cons .tmp .nil)) ?_
  refine c_aCons ?_
  refine c_var rfl ?_
  refine c_aNil ?_
  refine o_tup2 (eT2 D.int D.int) D.int (cell.1, (cell.2 - 1)) wide (.cons .tmp (.cons .tmp .nil)) ?_
  refine c_aCons ?_
  refine c_tup ?_
  refine c_aCons ?_
  refine c_tup ?_
  refine c_aCons ?_
  refine c_var rfl ?_
  refine c_aCons ?_
  refine c_bin ?_
  refine c_var rfl ?_
  refine c_C ?_
  refine o_bin .tmp .tmp op_addI ?_
  refine c_aNil ?_
  refine o_tup2 D.int D.int cell.1 (cell.2 + 1) (.cons .tmp (.cons .tmp .nil)) ?_
  refine c_aCons ?_
  refine c_var rfl ?_
  refine c_aNil ?_
  refine o_tup2 (eT2 D.int D.int) D.int (cell.1, (cell.2 + 1)) wide (.cons .tmp (.cons .tmp .nil)) ?_
  refine c_aNil ?_
  refine o_lstL (eT2 (eT2 D.int D.int) D.int) [(((cell.1 - 1), cell.2), high), (((cell.1 + 1), cell.2), high), ((cell.1, (cell.2 - 1)), wide), ((cell.1, (cell.2 + 1)), wide)] (.cons .tmp (.cons .tmp (.cons .tmp (.cons .tmp .nil)))) ?_
  refine o_ret ?_
  exact q [(((cell.1 - 1), cell.2), high), (((cell.1 + 1), cell.2), high), ((cell.1, (cell.2 - 1)), wide), ((cell.1, (cell.2 + 1)), wide)] h

def t_length_around (S_sides_beside : FS) : XS :=
  (sSeq (sAsg (dCall 1 (op1 bDict) (aCons (dLc (iSeq (dVar 0)) (gN 4) xYes (dTup (aCons (dVar 4) (aCons (dC (.bl true)) aNil))) [4]) aNil)) (gN 2))
  (sSeq (sAsg (dC (.int 0)) (gN 3))
  (sSeq (sFor (iSeq (dVar 0)) (gN 4) (sAug (fun i j => i + j) 3 (dCall 2 (op1 bSum) (aCons (dLc (iSeq (dFn S_sides_beside (aCons (dVar 1) (aCons (dVar 4) aNil)))) (gT 2 (gsCons (gN 5) (gsCons (gN 6) gsNil))) (xVal (dBin 1 opNotIn (dVar 5) (dVar 2))) (dVar 6) [5, 6]) aNil))))
  (sRet (dVar 3)))))
def w_length_around (cells : (List (Int × Int))) (measure : ((Bool × List Int) × (Bool × List Int))) (kr : Int → Prop) : Prop :=
(cells.length ≤ sizeLine) ∧
lt ((putAs [] (cells.map (fun cell => (cell, true)))) : (List ((Int × Int) × Bool))) fun there =>
forW cells 0 (fun cell (total : Int) kk3 => w_sides_beside measure cell fun t4 =>
(t4.length ≤ sizeLine) ∧
lt (total + (((t4.filter (fun a5 => (!hasA there a5.1))).map (fun a5 => a5.2)).sum)) fun total =>
kk3 total) fun total =>
kr total
def S_length_around : FS := mkS (α := ((List (Int × Int)) × ((Bool × List Int) × (Bool × List Int)))) (κ := Int) [.ro, .cst] (fun a => [(eV (eT2 D.int D.int)) a.1, (eT2 (eLV D.int) (eLV D.int)) a.2]) (fun a => w_length_around a.1 a.2) (fun r => D.int r) fun a r => [(eV (eT2 D.int D.int)) a.1, (eT2 (eLV D.int) (eLV D.int)) a.2]
theorem v_length_around : BodyOk S_length_around 7 (t_length_around S_sides_beside) := by
  intro ds Q hl h
  obtain ⟨⟨cells, measure⟩, kr, rfl, h, q⟩ := h
  refine b_env (e' := [some ((eV (eT2 D.int D.int)) cells, .ro), some ((eT2 (eLV D.int) (eLV D.int)) measure, .cst), none, none, none, none, none]) rfl ?_
  unfold t_length_around
  unfold w_length_around at h
  refine s_seq ?_
  refine s_asg ?_
  refine c_call ?_
  refine c_aCons ?_
  refine c_lc ?_
  refine c_iSeq ?_
  refine c_var rfl ?_
  refine o_sqRv ?_
  obtain ⟨p1, h⟩ := h
  refine o_lcM (e := [some ((eV (eT2 D.int D.int)) cells, .ro), some ((eT2 (eLV D.int) (eLV D.int)) measure, .cst), none, none, none, none, none]) (fI := (eT2 D.int D.int)) (fo := (eT2 (eT2 D.int D.int) D.bl)) (fun cell => (cell, true)) (all1 rfl) p1 rfl (fun cell ha c k1 hc h1 => ?_) ?_
  · skip
    refine g_nro (e' := [some ((eV (eT2 D.int D.int)) cells, .ro), some ((eT2 (eLV D.int) (eLV D.int)) measure, .cst), none, none, some ((eT2 D.int D.int) cell, .ro), none, none]) rfl rfl (?_)
    refine c_tup ?_
    refine c_aCons ?_
    refine c_var rfl ?_
    refine c_aCons ?_
    refine c_C ?_
    refine c_aNil ?_
    refine o_tup2 (eT2 D.int D.int) D.bl cell true (.cons (.of .ro (Im.im (f := (eT2 D.int D.int)) _)) (.cons .tmp .nil)) ?_
    exact o_el .tmp hc rfl h1
  refine o_rest (e' := [some ((eV (eT2 D.int D.int)) cells, .ro), some ((eT2 (eLV D.int) (eLV D.int)) measure, .cst), none, none, none, none, none]) rfl ?_
  refine o_thaw0 ?_
  refine c_aNil ?_
  refine o_call (.cons .tmp .nil) (n_dict (c := (eT2 D.int D.int)) (f := D.bl)) ?_
  refine g_N (f := (eDT (kf2 Sum.inl Sum.inl) D.bl)) (fun there => [some ((eV (eT2 D.int D.int)) cells, .ro), some ((eT2 (eLV D.int) (eLV D.int)) measure, .cst), some ((eDT (kf2 Sum.inl Sum.inl) D.bl) there, .own), none, none, none, none]) h rfl (fun _ => rfl) fun there h => ?_
  refine s_seq ?_
  refine s_asg ?_
  refine c_C ?_
  refine g_n (e' := [some ((eV (eT2 D.int D.int)) cells, .ro), some ((eT2 (eLV D.int) (eLV D.int)) measure, .cst), some ((eDT (kf2 Sum.inl Sum.inl) D.bl) there, .own), some (D.int 0, .own), none, none, none]) rfl rfl ?_
  refine s_seq ?_
  refine s_for ?_
  refine c_iSeq ?_
  refine c_var rfl ?_
  refine o_sqRv ?_
  refine o_for (fI := (eT2 D.int D.int)) (sh := fun (total : Int) e => ∃ c2 : Option (D × Md), (setS (some c2) = true) ∧ e = [some ((eV (eT2 D.int D.int)) cells, .ro), some ((eT2 (eLV D.int) (eLV D.int)) measure, .cst), some ((eDT (kf2 Sum.inl Sum.inl) D.bl) there, .own), some (D.int total, .own), c2, none, none]) h ⟨_, rfl, rfl⟩ (fun cell ha total e hs kk3 nxkk3 hJ3 h => ?_) ?_
  · skip
    obtain ⟨c2, hc2, rfl⟩ := hs
    refine g_nro (e' := [some ((eV (eT2 D.int D.int)) cells, .ro), some ((eT2 (eLV D.int) (eLV D.int)) measure, .cst), some ((eDT (kf2 Sum.inl Sum.inl) D.bl) there, .own), some (D.int total, .own), some ((eT2 D.int D.int) cell, .ro), none, none]) hc2 rfl (?_)
    refine s_aug rfl ?_
    refine c_call ?_
    refine c_aCons ?_
    refine c_lc ?_
    refine c_iSeq ?_
    refine c_fn ?_
    refine c_aCons ?_
    refine c_var rfl ?_
    refine c_aCons ?_
    refine c_var rfl ?_
    refine c_aNil ?_
    refine x_call (measure, cell) (fun t4 => [some ((eV (eT2 D.int D.int)) cells, .ro), some ((eT2 (eLV D.int) (eLV D.int)) measure, .cst), some ((eDT (kf2 Sum.inl Sum.inl) D.bl) there, .own), some (D.int total, .own), some ((eT2 D.int D.int) cell, .ro), none, none]) h (.cons .cst (.cons .ro .nil)) (ok_cons ok_cst (ok_cons (ok_ro .ro) ok_nil)) (apart_rd (by rfl)) (fun _ => rfl) fun t4 h => ?_
    refine o_sqT ?_
    obtain ⟨p6, h⟩ := h
    refine o_lcF (e := [some ((eV (eT2 D.int D.int)) cells, .ro), some ((eT2 (eLV D.int) (eLV D.int)) measure, .cst), some ((eDT (kf2 Sum.inl Sum.inl) D.bl) there, .own), some (D.int total, .own), some ((eT2 D.int D.int) cell, .ro), none, none]) (fI := (eT2 (eT2 D.int D.int) D.int)) (fo := D.int) (fun a5 => (!hasA there a5.1)) (fun a5 => a5.2) (all2 rfl rfl) p6 rfl (fun a5 ha c k1 k2 hc h1 h2 => ?_) ?_
    · skip
      refine g_T (by rfl) (g_cons (g_n (e' := [some ((eV (eT2 D.int D.int)) cells, .ro), some ((eT2 (eLV D.int) (eLV D.int)) measure, .cst), some ((eDT (kf2 Sum.inl Sum.inl) D.bl) there, .own), some (D.int total, .own), some ((eT2 D.int D.int) cell, .ro), some ((eT2 D.int D.int) a5.1, .own), none]) rfl rfl (g_cons (g_n (e' := [some ((eV (eT2 D.int D.int)) cells, .ro), some ((eT2 (eLV D.int) (eLV D.int)) measure, .cst), some ((eDT (kf2 Sum.inl Sum.inl) D.bl) there, .own), some (D.int total, .own), some ((eT2 D.int D.int) cell, .ro), some ((eT2 D.int D.int) a5.1, .own), some (D.int a5.2, .own)]) rfl rfl (g_nil (?_))))))
      refine c_val ?_
      refine c_bin ?_
      refine c_var rfl ?_
      refine c_var rfl ?_
      refine o_bin (.sl (by rfl) (by rfl)) (.sl (by rfl) (by rfl)) (op_ninT (c := (eT2 D.int D.int))) ?_
      refine o_val .tmp tr_b ?_
      refine ⟨fun hb => ?_, fun hb => h2 hb⟩
      refine c_var rfl ?_
      exact o_el .tmp hc rfl (h1 hb)
    refine o_rest (e' := [some ((eV (eT2 D.int D.int)) cells, .ro), some ((eT2 (eLV D.int) (eLV D.int)) measure, .cst), some ((eDT (kf2 Sum.inl Sum.inl) D.bl) there, .own), some (D.int total, .own), some ((eT2 D.int D.int) cell, .ro), none, none]) rfl ?_
    refine o_thaw0 ?_
    refine c_aNil ?_
    refine o_call (.cons .tmp .nil) n_sum ?_
    refine o_aug (fun total => [some ((eV (eT2 D.int D.int)) cells, .ro), some ((eT2 (eLV D.int) (eLV D.int)) measure, .cst), some ((eDT (kf2 Sum.inl Sum.inl) D.bl) there, .own), some (D.int total, .own), some ((eT2 D.int D.int) cell, .ro), none, none]) .tmp h rfl (fun _ => rfl) fun total h => ?_
    exact hJ3 total _ ⟨_, rfl, rfl⟩ h
  rintro total e hs h
  obtain ⟨c2, hc2, rfl⟩ := hs
  refine o_thaw0 ?_
  refine s_ret ?_
  refine c_var rfl ?_
  refine o_ret ?_
  exact q total h

def t_round_length (S_length_around : FS) : XS :=
  (sRet (dFn S_length_around (aCons (dVar 0) (aCons (dVar 1) aNil))))
def w_round_length (room : (List (Int × Int))) (measure : ((Bool × List Int) × (Bool × List Int))) (kr : Int → Prop) : Prop :=
w_length_around room measure fun t1 =>
kr t1
def S_round_length : FS := mkS (α := ((List (Int × Int)) × ((Bool × List Int) × (Bool × List Int)))) (κ := Int) [.ro, .cst] (fun a => [(eV (eT2 D.int D.int)) a.1, (eT2 (eLV D.int) (eLV D.int)) a.2]) (fun a => w_round_length a.1 a.2) (fun r => D.int r) fun a r => [(eV (eT2 D.int D.int)) a.1, (eT2 (eLV D.int) (eLV D.int)) a.2]
theorem v_round_length : BodyOk S_round_length 2 (t_round_length S_length_around) := by
  intro ds Q hl h
  obtain ⟨⟨room, measure⟩, kr, rfl, h, q⟩ := h
  refine b_env (e' := [some ((eV (eT2 D.int D.int)) room, .ro), some ((eT2 (eLV D.int) (eLV D.int)) measure, .cst)]) rfl ?_
  unfold t_round_length
  unfold w_round_length at h
  refine s_ret ?_
  refine c_fn ?_
  refine c_aCons ?_
  refine c_var rfl ?_
  refine c_aCons ?_
  refine c_var rfl ?_
  refine c_aNil ?_
  refine x_call (room, measure) (fun t1 => [some ((eV (eT2 D.int D.int)) room, .ro), some ((eT2 (eLV D.int) (eLV D.int)) measure, .cst)]) h (.cons .ro (.cons .cst .nil)) (ok_cons (ok_ro .ro) (ok_cons ok_cst ok_nil)) (apart_rd (by rfl)) (fun _ => rfl) fun t1 h => ?_
  refine o_ret ?_
  exact q t1 h

def t__law_some_room (S__law_room S__law_draw : FS) : XS :=
  (sRet (dFn S__law_room (aCons (dVar 0) (aCons (dAnd (dBin 2 opEq (dVar 1) (dC (.int 0))) (dBin 2 opEq (dFn S__law_draw (aCons (dVar 0) (aCons (dC (.int 8)) aNil))) (dC (.int 0)))) aNil))))
def w__law_some_room (tape : (Int × Int)) (k' : Int) (kr : ((List (Int × Int)) × (Int × Int)) → Prop) : Prop :=
ifW (decide (k' = 0)) (fun kk1 => w__law_draw tape 8 fun t2 =>
kk1 ((decide (t2.1 = 0)), t2.2)) (fun kk1 => kk1 (false, tape)) fun (b3 : Bool × (Int × Int)) =>
w__law_room b3.2 b3.1 fun t4 =>
kr (t4.1, t4.2)
def S__law_some_room : FS := mkS (α := ((Int × Int) × Int)) (κ := ((List (Int × Int)) × (Int × Int))) [.io, .cst] (fun a => [eP a.1, D.int a.2]) (fun a => w__law_some_room a.1 a.2) (fun r => (eV (eT2 D.int D.int)) r.1) fun a r => [eP r.2, D.int a.2]
theorem v__law_some_room : BodyOk S__law_some_room 2 (t__law_some_room S__law_room S__law_draw) := by
  intro ds Q hl h
  obtain ⟨⟨tape, k'⟩, kr, rfl, h, q⟩ := h
  refine b_env (e' := [some (eP tape, .io), some (D.int k', .cst)]) rfl ?_
  unfold t__law_some_room
  unfold w__law_some_room at h
  refine s_ret ?_
  refine c_fn ?_
  refine c_aCons ?_
  refine c_var rfl ?_
  refine c_aCons ?_
  refine c_andVi ?_
  refine c_bin ?_
  refine c_var rfl ?_
  refine c_C ?_
  refine o_bin .tmp .tmp (op_eq (f := D.int)) ?_
  refine o_valB .tmp ?_
  refine o_andVi (sh := fun (s : (Int × Int)) e => e = [some (eP s, .io), some (D.int k', .cst)]) h rfl (fun hb kk1 N hJ1 h => ?_) ?_
  · skip
    refine c_bin ?_
    refine c_fn ?_
    refine c_aCons ?_
    refine c_var rfl ?_
    refine c_aCons ?_
    refine c_C ?_
    refine c_aNil ?_
    refine x_call (tape, 8) (fun t2 => [some (eP t2.2, .io), some (D.int k', .cst)]) h (.cons (.sl (by rfl) (by rfl)) (.cons .tmp .nil)) (ok_cons (by rfl) (ok_cons ok_cst ok_nil)) (by rfl) (fun _ => rfl) fun t2 h => ?_
    refine c_C ?_
    refine o_bin .tmp .tmp (op_eq (f := D.int)) ?_
    exact hJ1 ((decide (t2.1 = 0)), t2.2) _ rfl h
  rintro b3 e hs h
  obtain rfl := hs
  refine c_aNil ?_
  refine x_call (b3.2, b3.1) (fun t4 => [some (eP t4.2, .io), some (D.int k', .cst)]) h (.cons (.sl (by rfl) (by rfl)) (.cons .tmp .nil)) (ok_cons (by rfl) (ok_cons ok_cst ok_nil)) (by rfl) (fun _ => rfl) fun t4 h => ?_
  refine o_ret ?_
  exact q (t4.1, t4.2) h

def t__law_measure (S__law_draw : FS) : XS :=
  (sSeq (sAsg (dFn S__law_draw (aCons (dVar 0) (aCons (dC (.int 4)) aNil))) (gN 2))
  (sSeq (sAsg (dLst aNil) (gN 3))
  (sSeq (sFor (iRange1 (dC (.int 2))) (gN 4) (sSeq (sAsg (dBin 1 opAdd (dBin 1 opAdd (dCall 2 (op1 bMaxS) (aCons (dBin 1 opAdd (dLc (iSeq (dVar 1)) (gN 7) xYes (dIdx (dVar 7) (dVar 4)) [7]) (dLst (aCons (dC (.int 0)) aNil))) aNil)) (dC (.int 1))) (dFn S__law_draw (aCons (dVar 0) (aCons (dC (.int 3)) aNil)))) (gN 5))
  (sExpr (dM1 D.isLst bAppend (dVar 3) (dLc (iRange1 (dVar 5)) (gN 6) xYes (dIdx (dLst (aCons (dC (.int 1)) (aCons (dBin 1 opAdd (dC (.int 1)) (dFn S__law_draw (aCons (dVar 0) (aCons (dC (.int 3)) aNil)))) (aCons (dBin 1 opAdd (dC (.int 1)) (dFn S__law_draw (aCons (dVar 0) (aCons (dC (.int 999)) aNil)))) (aCons (dC (.int 999)) aNil))))) (dVar 2)) [6])))))
  (sRetTup 3))))
def w__law_measure (tape : (Int × Int)) (room : (List (Int × Int))) (kr : (((List Int) × (List Int)) × (Int × Int)) → Prop) : Prop :=
w__law_draw tape 4 fun t1 =>
lt (([] : List (List Int)) : (List (List Int))) fun found =>
(RngOk 0 2) ∧
forW (rng 0 2) (t1.2, found) (fun side (s3 : ((Int × Int) × (List (List Int)))) kk6 => (room.length ≤ sizeLine) ∧
lcW room ([] : List Int) () (fun cell (s : Unit) w => exW (atI [cell.1, cell.2] side) fun x8 =>
w (some x8) ()) fun l10 s11 =>
(l10.length + [0].length ≤ sizeLine) ∧
exW (l10 ++ [0]).max? fun x13 =>
w__law_draw s3.1 3 fun t15 =>
lt (((x13 + 1) + t15.1) : Int) fun many =>
(RngOk 0 many) ∧
((rng 0 many).length ≤ sizeLine) ∧
lcW (rng 0 many) ([] : List Int) t15.2 (fun k' (s : (Int × Int)) w => w__law_draw s 3 fun t18 =>
w__law_draw t18.2 999 fun t19 =>
exW (atI [1, (1 + t18.1), (1 + t19.1), 999] t1.1) fun x20 =>
w (some x20) t19.2) fun l22 s23 =>
(s3.2.length < sizeLine) ∧
lt (s3.2 ++ [l22]) fun found =>
kk6 (s23, found)) fun s3 =>
∃ x25 x26, s3.2 = [x25, x26] ∧
kr ((x25, x26), s3.1)
def S__law_measure : FS := mkS (α := ((Int × Int) × (List (Int × Int)))) (κ := (((List Int) × (List Int)) × (Int × Int))) [.io, .ro] (fun a => [eP a.1, (eV (eT2 D.int D.int)) a.2]) (fun a => w__law_measure a.1 a.2) (fun r => (eT2 (eL D.int) (eL D.int)) r.1) fun a r => [eP r.2, (eV (eT2 D.int D.int)) a.2]
theorem v__law_measure : BodyOk S__law_measure 8 (t__law_measure S__law_draw) := by
  intro ds Q hl h
  obtain ⟨⟨tape, room⟩, kr, rfl, h, q⟩ := h
  refine b_env (e' := [some (eP tape, .io), some ((eV (eT2 D.int D.int)) room, .ro), none, none, none, none, none, none]) rfl ?_
  unfold t__law_measure
  unfold w__law_measure at h
  refine s_seq ?_
  refine s_asg ?_
  refine c_fn ?_
  refine c_aCons ?_
  refine c_var rfl ?_
  refine c_aCons ?_
  refine c_C ?_
  refine c_aNil ?_
  refine x_call (tape, 4) (fun t1 => [some (eP t1.2, .io), some ((eV (eT2 D.int D.int)) room, .ro), none, none, none, none, none, none]) h (.cons (.sl (by rfl) (by rfl)) (.cons .tmp .nil)) (ok_cons (by rfl) (ok_cons ok_cst ok_nil)) (by rfl) (fun _ => rfl) fun t1 h => ?_
  refine g_n (e' := [some (eP t1.2, .io), some ((eV (eT2 D.int D.int)) room, .ro), some (D.int t1.1, .own), none, none, none, none, none]) rfl rfl ?_
  refine s_seq ?_
  refine s_asg ?_
  refine c_lst ?_
  refine c_aNil ?_
  refine o_lstL (eL D.int) ([] : List (List Int)) .nil ?_
  refine g_N (f := (eL (eL D.int))) (fun found => [some (eP t1.2, .io), some ((eV (eT2 D.int D.int)) room, .ro), some (D.int t1.1, .own), some ((eL (eL D.int)) found, .own), none, none, none, none]) h rfl (fun _ => rfl) fun found h => ?_
  refine s_seq ?_
  refine s_for ?_
  refine c_rg1 ?_
  refine c_C ?_
  obtain ⟨p2, h⟩ := h
  refine o_rg1 p2 ?_
  refine o_for (fI := D.int) (sh := fun (s3 : ((Int × Int) × (List (List Int)))) e => ∃ c4 c5 : Option (D × Md), (setS (some c4) = true ∧ setS (some c5) = true) ∧ e = [some (eP s3.1, .io), some ((eV (eT2 D.int D.int)) room, .ro), some (D.int t1.1, .own), some ((eL (eL D.int)) s3.2, .own), c4, c5, none, none]) h ⟨_, _, ⟨rfl, rfl⟩, rfl⟩ (fun side ha s3 e hs kk6 nxkk6 hJ6 h => ?_) ?_
  · skip
    obtain ⟨c4, c5, ⟨hc4, hc5⟩, rfl⟩ := hs
    refine g_n (e' := [some (eP s3.1, .io), some ((eV (eT2 D.int D.int)) room, .ro), some (D.int t1.1, .own), some ((eL (eL D.int)) s3.2, .own), some (D.int side, .own), c5, none, none]) hc4 rfl (?_)
    refine s_seq ?_
    refine s_asg ?_
    refine c_bin ?_
    refine c_bin ?_
    refine c_call ?_
    refine c_aCons ?_
    refine c_bin ?_
    refine c_lc ?_
    refine c_iSeq ?_
    refine c_var rfl ?_
    refine o_sqRv ?_
    obtain ⟨p7, h⟩ := h
    refine o_lcW (fI := (eT2 D.int D.int)) (fo := D.int) (sh := fun (s : Unit) e => e = [some (eP s3.1, .io), some ((eV (eT2 D.int D.int)) room, .ro), some (D.int t1.1, .own), some ((eL (eL D.int)) s3.2, .own), some (D.int side, .own), c5, none, none]) h (all1 rfl) p7 rfl (fun cell ha s e hs w c k1 k2 hc h1 h2 h => ?_) ?_
    · obtain rfl := hs
      refine g_nro (e' := [some (eP s3.1, .io), some ((eV (eT2 D.int D.int)) room, .ro), some (D.int t1.1, .own), some ((eL (eL D.int)) s3.2, .own), some (D.int side, .own), c5, none, some ((eT2 D.int D.int) cell, .ro)]) rfl rfl (?_)
      refine c_yes ?_
      refine c_idx ?_
      refine c_var rfl ?_
      refine c_var rfl ?_
      obtain ⟨x8, p9, h⟩ := h
      refine o_idx .ro .tmp (ix_TV p9) (.ro rfl) ?_
      exact o_el .tmp hc rfl (h1 _ () _ rfl h)
    rintro l10 s11 e hs h
    obtain rfl := hs
    refine o_rest (e' := [some (eP s3.1, .io), some ((eV (eT2 D.int D.int)) room, .ro), some (D.int t1.1, .own), some ((eL (eL D.int)) s3.2, .own), some (D.int side, .own), c5, none, none]) rfl ?_
    refine o_thaw0 ?_
    refine c_lst ?_
    refine c_aCons ?_
    refine c_C ?_
    refine c_aNil ?_
    refine o_lstL D.int [0] (.cons .tmp .nil) ?_
    obtain ⟨p12, h⟩ := h
    refine o_bin .tmp .tmp (op_addL (f := D.int) p12) ?_
    refine c_aNil ?_
    obtain ⟨x13, p14, h⟩ := h
    refine o_call (.cons .tmp .nil) (n_maxSL p14) ?_
    refine c_C ?_
    refine o_bin .tmp .tmp op_addI ?_
    refine c_fn ?_
    refine c_aCons ?_
    refine c_var rfl ?_
    refine c_aCons ?_
    refine c_C ?_
    refine c_aNil ?_
    refine x_call (s3.1, 3) (fun t15 => [some (eP t15.2, .io), some ((eV (eT2 D.int D.int)) room, .ro), some (D.int t1.1, .own), some ((eL (eL D.int)) s3.2, .own), some (D.int side, .own), c5, none, none]) h (.cons (.sl (by rfl) (by rfl)) (.cons .tmp .nil)) (ok_cons (by rfl) (ok_cons ok_cst ok_nil)) (by rfl) (fun _ => rfl) fun t15 h => ?_
    refine o_bin .tmp .tmp op_addI ?_
    refine g_N (f := D.int) (fun many => [some (eP t15.2, .io), some ((eV (eT2 D.int D.int)) room, .ro), some (D.int t1.1, .own), some ((eL (eL D.int)) s3.2, .own), some (D.int side, .own), some (D.int many, .own), none, none]) h hc5 (fun _ => rfl) fun many h => ?_
    refine s_expr ?_
    refine c_m1 (by rfl) (by rfl) (by decide) (by rfl) ?_
    refine c_lc ?_
    refine c_rg1 ?_
    refine c_var rfl ?_
    obtain ⟨p16, h⟩ := h
    refine o_rg1 p16 ?_
    obtain ⟨p17, h⟩ := h
    refine o_lcW (fI := D.int) (fo := D.int) (sh := fun (s : (Int × Int)) e => e = [some (eP s, .io), some ((eV (eT2 D.int D.int)) room, .ro), some (D.int t1.1, .own), some ((eL (eL D.int)) s3.2, .own), some (D.int side, .own), some (D.int many, .own), none, none]) h (all1 rfl) p17 rfl (fun k' ha s e hs w c k1 k2 hc h1 h2 h => ?_) ?_
    · obtain rfl := hs
      refine g_n (e' := [some (eP s, .io), some ((eV (eT2 D.int D.int)) room, .ro), some (D.int t1.1, .own), some ((eL (eL D.int)) s3.2, .own), some (D.int side, .own), some (D.int many, .own), some (D.int k', .own), none]) rfl rfl (?_)
      refine c_yes ?_
      refine c_idx ?_
      refine c_lst ?_
      refine c_aCons ?_
      refine c_C ?_
      refine c_aCons ?_
      refine c_bin ?_
      refine c_C ?_
      refine c_fn ?_
      refine c_aCons ?_
      refine c_var rfl ?_
      refine c_aCons ?_
      refine c_C ?_
      refine c_aNil ?_
      refine x_call (s, 3) (fun t18 => [some (eP t18.2, .io), some ((eV (eT2 D.int D.int)) room, .ro), some (D.int t1.1, .own), some ((eL (eL D.int)) s3.2, .own), some (D.int side, .own), some (D.int many, .own), some (D.int k', .own), none]) h (.cons (.sl (by rfl) (by rfl)) (.cons .tmp .nil)) (ok_cons (by rfl) (ok_cons ok_cst ok_nil)) (by rfl) (fun _ => rfl) fun t18 h => ?_
      refine o_bin .tmp .tmp op_addI ?_
      refine c_aCons ?_
      refine c_bin ?_
      refine c_C ?_
      refine c_fn ?_
      refine c_aCons ?_
      refine c_var rfl ?_
      refine c_aCons ?_
      refine c_C ?_
      refine c_aNil ?_
      refine x_call (t18.2, 999) (fun t19 => [some (eP t19.2, .io), some ((eV (eT2 D.int D.int)) room, .ro), some (D.int t1.1, .own), some ((eL (eL D.int)) s3.2, .own), some (D.int side, .own), some (D.int many, .own), some (D.int k', .own), none]) h (.cons (.sl (by rfl) (by rfl)) (.cons .tmp .nil)) (ok_cons (by rfl) (ok_cons ok_cst ok_nil)) (by rfl) (fun _ => rfl) fun t19 h => ?_
      refine o_bin .tmp .tmp op_addI ?_
      refine c_aCons ?_
      refine c_C ?_
      refine c_aNil ?_
      refine o_lstL D.int [1, (1 + t18.1), (1 + t19.1), 999] (.cons .tmp (.cons .tmp (.cons .tmp (.cons .tmp .nil)))) ?_
      refine c_var rfl ?_
      obtain ⟨x20, p21, h⟩ := h
      refine o_idx .tmp .tmp (ix_L p21) .tmp ?_
      exact o_el .tmp hc rfl (h1 _ t19.2 _ rfl h)
    rintro l22 s23 e hs h
    obtain rfl := hs
    refine o_rest (e' := [some (eP s23, .io), some ((eV (eT2 D.int D.int)) room, .ro), some (D.int t1.1, .own), some ((eL (eL D.int)) s3.2, .own), some (D.int side, .own), some (D.int many, .own), none, none]) rfl ?_
    refine o_thaw0 ?_
    obtain ⟨p24, h⟩ := h
    refine o_append (fun found => [some (eP s23, .io), some ((eV (eT2 D.int D.int)) room, .ro), some (D.int t1.1, .own), some ((eL (eL D.int)) found, .own), some (D.int side, .own), some (D.int many, .own), none, none]) h .tmp (by rfl) p24 (fun _ => rfl) fun found h => ?_
    exact hJ6 (s23, found) _ ⟨_, _, ⟨rfl, rfl⟩, rfl⟩ h
  rintro s3 e hs h
  obtain ⟨c4, c5, ⟨hc4, hc5⟩, rfl⟩ := hs
  refine o_thaw0 ?_
  refine s_retTup (by rfl) ?_
  obtain ⟨x25, x26, e2, h⟩ := h
  rw [e2]
  exact q ((x25, x26), s3.1) h

def t__law_around : XS :=
  (sSeq (sAsg (dCall 1 (op1 bDict) (aCons (dLc (iSeq (dVar 0)) (gN 8) xYes (dTup (aCons (dVar 8) (aCons (dC (.bl true)) aNil))) [8]) aNil)) (gN 2))
  (sSeq (sAsg (dC (.int 0)) (gN 3))
  (sSeq (sFor (iSeq (dVar 0)) (gT 2 (gsCons (gN 4) (gsCons (gN 5) gsNil))) (sSeq (sPar 6 7 (aCons (dIdx (dIdx (dVar 1) (dC (.int 1))) (dVar 5)) (aCons (dIdx (dIdx (dVar 1) (dC (.int 0))) (dVar 4)) aNil)))
  (sSeq (sAsg (dBin 1 opAdd (dBin 1 opAdd (dVar 3) (dBin 1 opMul (dVar 6) (dCall 2 (op1 bInt) (aCons (dBin 1 opNotIn (dTup (aCons (dBin 2 opSub (dVar 4) (dC (.int 1))) (aCons (dVar 5) aNil))) (dVar 2)) aNil)))) (dBin 1 opMul (dVar 6) (dCall 2 (op1 bInt) (aCons (dBin 1 opNotIn (dTup (aCons (dBin 1 opAdd (dVar 4) (dC (.int 1))) (aCons (dVar 5) aNil))) (dVar 2)) aNil)))) (gN 3))
  (sAsg (dBin 1 opAdd (dBin 1 opAdd (dVar 3) (dBin 1 opMul (dVar 7) (dCall 2 (op1 bInt) (aCons (dBin 1 opNotIn (dTup (aCons (dVar 4) (aCons (dBin 2 opSub (dVar 5) (dC (.int 1))) aNil))) (dVar 2)) aNil)))) (dBin 1 opMul (dVar 7) (dCall 2 (op1 bInt) (aCons (dBin 1 opNotIn (dTup (aCons (dVar 4) (aCons (dBin 1 opAdd (dVar 5) (dC (.int 1))) aNil))) (dVar 2)) aNil)))) (gN 3)))))
  (sRet (dVar 3)))))
def w__law_around (cells : (List (Int × Int))) (measure : ((Bool × List Int) × (Bool × List Int))) (kr : Int → Prop) : Prop :=
(cells.length ≤ sizeLine) ∧
lt ((putAs [] (cells.map (fun cell => (cell, true)))) : (List ((Int × Int) × Bool))) fun there =>
forW cells 0 (fun a6 (total : Int) kk7 => exW (atI measure.2.2 a6.2) fun x8 =>
exW (atI measure.1.2 a6.1) fun x10 =>
lt (x8 : Int) fun high =>
lt (x10 : Int) fun wide =>
(IntMulOk high (intB (!hasA there ((a6.1 - 1), a6.2)))) ∧
(IntMulOk high (intB (!hasA there ((a6.1 + 1), a6.2)))) ∧
lt (((total + (high * (intB (!hasA there ((a6.1 - 1), a6.2))))) + (high * (intB (!hasA there ((a6.1 + 1), a6.2))))) : Int) fun total =>
(IntMulOk wide (intB (!hasA there (a6.1, (a6.2 - 1))))) ∧
(IntMulOk wide (intB (!hasA there (a6.1, (a6.2 + 1))))) ∧
lt (((total + (wide * (intB (!hasA there (a6.1, (a6.2 - 1)))))) + (wide * (intB (!hasA there (a6.1, (a6.2 + 1)))))) : Int) fun total =>
kk7 total) fun total =>
kr total
def S__law_around : FS := mkS (α := ((List (Int × Int)) × ((Bool × List Int) × (Bool × List Int)))) (κ := Int) [.ro, .cst] (fun a => [(eV (eT2 D.int D.int)) a.1, (eT2 (eLV D.int) (eLV D.int)) a.2]) (fun a => w__law_around a.1 a.2) (fun r => D.int r) fun a r => [(eV (eT2 D.int D.int)) a.1, (eT2 (eLV D.int) (eLV D.int)) a.2]
theorem v__law_around : BodyOk S__law_around 9 t__law_around := by
  intro ds Q hl h
  obtain ⟨⟨cells, measure⟩, kr, rfl, h, q⟩ := h
  refine b_env (e' := [some ((eV (eT2 D.int D.int)) cells, .ro), some ((eT2 (eLV D.int) (eLV D.int)) measure, .cst), none, none, none, none, none, none, none]) rfl ?_
  unfold t__law_around
  unfold w__law_around at h
  refine s_seq ?_
  refine s_asg ?_
  refine c_call ?_
  refine c_aCons ?_
  refine c_lc ?_
  refine c_iSeq ?_
  refine c_var rfl ?_
  refine o_sqRv ?_
  obtain ⟨p1, h⟩ := h
  refine o_lcM (e := [some ((eV (eT2 D.int D.int)) cells, .ro), some ((eT2 (eLV D.int) (eLV D.int)) measure, .cst), none, none, none, none, none, none, none]) (fI := (eT2 D.int D.int)) (fo := (eT2 (eT2 D.int D.int) D.bl)) (fun cell => (cell, true)) (all1 rfl) p1 rfl (fun cell ha c k1 hc h1 => ?_) ?_
  · skip
    refine g_nro (e' := [some ((eV (eT2 D.int D.int)) cells, .ro), some ((eT2 (eLV D.int) (eLV D.int)) measure, .cst), none, none, none, none, none, none, some ((eT2 D.int D.int) cell, .ro)]) rfl rfl (?_)
    refine c_tup ?_
    refine c_aCons ?_
    refine c_var rfl ?_
    refine c_aCons ?_
    refine c_C ?_
    refine c_aNil ?_
    refine o_tup2 (eT2 D.int D.int) D.bl cell true (.cons (.of .ro (Im.im (f := (eT2 D.int D.int)) _)) (.cons .tmp .nil)) ?_
    exact o_el .tmp hc rfl h1
  refine o_rest (e' := [some ((eV (eT2 D.int D.int)) cells, .ro), some ((eT2 (eLV D.int) (eLV D.int)) measure, .cst), none, none, none, none, none, none, none]) rfl ?_
  refine o_thaw0 ?_
  refine c_aNil ?_
  refine o_call (.cons .tmp .nil) (n_dict (c := (eT2 D.int D.int)) (f := D.bl)) ?_
  refine g_N (f := (eDT (kf2 Sum.inl Sum.inl) D.bl)) (fun there => [some ((eV (eT2 D.int D.int)) cells, .ro), some ((eT2 (eLV D.int) (eLV D.int)) measure, .cst), some ((eDT (kf2 Sum.inl Sum.inl) D.bl) there, .own), none, none, none, none, none, none]) h rfl (fun _ => rfl) fun there h => ?_
  refine s_seq ?_
  refine s_asg ?_
  refine c_C ?_
  refine g_n (e' := [some ((eV (eT2 D.int D.int)) cells, .ro), some ((eT2 (eLV D.int) (eLV D.int)) measure, .cst), some ((eDT (kf2 Sum.inl Sum.inl) D.bl) there, .own), some (D.int 0, .own), none, none, none, none, none]) rfl rfl ?_
  refine s_seq ?_
  refine s_for ?_
  refine c_iSeq ?_
  refine c_var rfl ?_
  refine o_sqRv ?_
  refine o_for (fI := (eT2 D.int D.int)) (sh := fun (total : Int) e => ∃ c2 c3 c4 c5 : Option (D × Md), (setS (some c2) = true ∧ setS (some c3) = true ∧ setS (some c4) = true ∧ setS (some c5) = true) ∧ e = [some ((eV (eT2 D.int D.int)) cells, .ro), some ((eT2 (eLV D.int) (eLV D.int)) measure, .cst), some ((eDT (kf2 Sum.inl Sum.inl) D.bl) there, .own), some (D.int total, .own), c2, c3, c4, c5, none]) h ⟨_, _, _, _, ⟨rfl, rfl, rfl, rfl⟩, rfl⟩ (fun a6 ha total e hs kk7 nxkk7 hJ7 h => ?_) ?_
  · skip
    obtain ⟨c2, c3, c4, c5, ⟨hc2, hc3, hc4, hc5⟩, rfl⟩ := hs
    refine g_Tro (by rfl) (g_cons (g_n (e' := [some ((eV (eT2 D.int D.int)) cells, .ro), some ((eT2 (eLV D.int) (eLV D.int)) measure, .cst), some ((eDT (kf2 Sum.inl Sum.inl) D.bl) there, .own), some (D.int total, .own), some (D.int a6.1, .own), c3, c4, c5, none]) hc2 rfl (g_cons (g_n (e' := [some ((eV (eT2 D.int D.int)) cells, .ro), some ((eT2 (eLV D.int) (eLV D.int)) measure, .cst), some ((eDT (kf2 Sum.inl Sum.inl) D.bl) there, .own), some (D.int total, .own), some (D.int a6.1, .own), some (D.int a6.2, .own), c4, c5, none]) hc3 rfl (g_nil (?_))))))
    refine s_seq ?_
    refine s_par ?_
    refine c_aCons ?_
    refine c_idx ?_
    refine c_idx ?_
    refine c_var rfl ?_
    refine c_C ?_
    refine o_idx .cst .tmp ix_21 (.ro mkRo_Y) ?_
    refine c_var rfl ?_
    obtain ⟨x8, p9, h⟩ := h
    refine o_idx .cst .tmp (ix_Y p9) (.ro rfl) ?_
    refine c_aCons ?_
    refine c_idx ?_
    refine c_idx ?_
    refine c_var rfl ?_
    refine c_C ?_
    refine o_idx .cst .tmp ix_20 (.ro mkRo_Y) ?_
    refine c_var rfl ?_
    obtain ⟨x10, p11, h⟩ := h
    refine o_idx .cst .tmp (ix_Y p11) (.ro rfl) ?_
    refine c_aNil ?_
    refine o_par (f := D.int) (g := D.int) (fun high wide => [some ((eV (eT2 D.int D.int)) cells, .ro), some ((eT2 (eLV D.int) (eLV D.int)) measure, .cst), some ((eDT (kf2 Sum.inl Sum.inl) D.bl) there, .own), some (D.int total, .own), some (D.int a6.1, .own), some (D.int a6.2, .own), some (D.int high, .own), some (D.int wide, .own), none]) .tmp .tmp h hc4 hc5 (fun _ _ => rfl) fun high wide h => ?_
    refine s_seq ?_
    refine s_asg ?_
    refine c_bin ?_
    refine c_bin ?_
    refine c_var rfl ?_
    refine c_bin ?_
    refine c_var rfl ?_
    refine c_call ?_
    refine c_aCons ?_
    refine c_bin ?_
    refine c_tup ?_
    refine c_aCons ?_
    refine c_bin ?_
    refine c_var rfl ?_
    refine c_C ?_
    refine o_bin .tmp .tmp op_subI ?_
    refine c_aCons ?_
    refine c_var rfl ?_
    refine c_aNil ?_
    refine o_tup2 D.int D.int (a6.1 - 1) a6.2 (.cons .tmp (.cons .tmp .nil)) ?_
    refine c_var rfl ?_
    refine o_bin .tmp (.sl (by rfl) (by rfl)) (op_ninT (c := (eT2 D.int D.int))) ?_
    refine c_aNil ?_
    refine o_call (.cons .tmp .nil) n_intB ?_
    obtain ⟨p12, h⟩ := h
    refine o_bin .tmp .tmp (op_mulI p12) ?_
    refine o_bin .tmp .tmp op_addI ?_
    refine c_bin ?_
    refine c_var rfl ?_
    refine c_call ?_
    refine c_aCons ?_
    refine c_bin ?_
    refine c_tup ?_
    refine c_aCons ?_
    refine c_bin ?_
    refine c_var rfl ?_
    refine c_C ?_
    refine o_bin .tmp .tmp op_addI ?_
    refine c_aCons ?_
    refine c_var rfl ?_
    refine c_aNil ?_
    refine o_tup2 D.int D.int (a6.1 + 1) a6.2 (.cons .tmp (.cons .tmp .nil)) ?_
    refine c_var rfl ?_
    refine o_bin .tmp (.sl (by rfl) (by rfl)) (op_ninT (c := (eT2 D.int D.int))) ?_
    refine c_aNil ?_
    refine o_call (.cons .tmp .nil) n_intB ?_
    obtain ⟨p13, h⟩ := h
    refine o_bin .tmp .tmp (op_mulI p13) ?_
    refine o_bin .tmp .tmp op_addI ?_
    refine g_N (f := D.int) (fun total => [some ((eV (eT2 D.int D.int)) cells, .ro), some ((eT2 (eLV D.int) (eLV D.int)) measure, .cst), some ((eDT (kf2 Sum.inl Sum.inl) D.bl) there, .own), some (D.int total, .own), some (D.int a6.1, .own), some (D.int a6.2, .own), some (D.int high, .own), some (D.int wide, .own), none]) h rfl (fun _ => rfl) fun total h => ?_
    refine s_asg ?_
    refine c_bin ?_
    refine c_bin ?_
    refine c_var rfl ?_
    refine c_bin ?_
    refine c_var rfl ?_
    refine c_call ?_
    refine c_aCons ?_
    refine c_bin ?_
    refine c_tup ?_
    refine c_aCons ?_
    refine c_var rfl ?_
    refine c_aCons ?_
    refine c_bin ?_
    refine c_var rfl ?_
    refine c_C ?_
    refine o_bin .tmp .tmp op_subI ?_
    refine c_aNil ?_
    refine o_tup2 D.int D.int a6.1 (a6.2 - 1) (.cons .tmp (.cons .tmp .nil)) ?_
    refine c_var rfl ?_
    refine o_bin .tmp (.sl (by rfl) (by rfl)) (op_ninT (c := (eT2 D.int D.int))) ?_
    refine c_aNil ?_
    refine o_call (.cons .tmp .nil) n_intB ?_
    obtain ⟨p14, h⟩ := h
    refine o_bin .tmp .tmp (op_mulI p14) ?_
    refine o_bin .tmp .tmp op_addI ?_
    refine c_bin ?_
    refine c_var rfl ?_
    refine c_call ?_
    refine c_aCons ?_
    refine c_bin ?_
    refine c_tup ?_
    refine c_aCons ?_
    refine c_var rfl ?_
    refine c_aCons ?_
    refine c_bin ?_
    refine c_var rfl ?_
    refine c_C ?_
    refine o_bin .tmp .tmp op_addI ?_
    refine c_aNil ?_
    refine o_tup2 D.int D.int a6.1 (a6.2 + 1) (.cons .tmp (.cons .tmp .nil)) ?_
    refine c_var rfl ?_
    refine o_bin .tmp (.sl (by rfl) (by rfl)) (op_ninT (c := (eT2 D.int D.int))) ?_
    refine c_aNil ?_
    refine o_call (.cons .tmp .nil) n_intB ?_
    obtain ⟨p15, h⟩ := h
    refine o_bin .tmp .tmp (op_mulI p15) ?_
    refine o_bin .tmp .tmp op_addI ?_
    refine g_N (f := D.int) (fun total => [some ((eV (eT2 D.int D.int)) cells, .ro), some ((eT2 (eLV D.int) (eLV D.int)) measure, .cst), some ((eDT (kf2 Sum.inl Sum.inl) D.bl) there, .own), some (D.int total, .own), some (D.int a6.1, .own), some (D.int a6.2, .own), some (D.int high, .own), some (D.int wide, .own), none]) h rfl (fun _ => rfl) fun total h => ?_
    exact hJ7 total _ ⟨_, _, _, _, ⟨rfl, rfl, rfl, rfl⟩, rfl⟩ h
  rintro total e hs h
  obtain ⟨c2, c3, c4, c5, ⟨hc2, hc3, hc4, hc5⟩, rfl⟩ := hs
  refine o_thaw0 ?_
  refine s_ret ?_
  refine c_var rfl ?_
  refine o_ret ?_
  exact q total h

def t_law (S_round_length S_area S__law_same S__law_around S__law_measure S__law_some_room S__law_tape : FS) : XS :=
  (sSeq (sFor (iRange1 (dBin 1 opAdd (dC (.int 1)) (dCall 2 (op2 bMin2) (aCons (dC (.int 6)) (aCons (dCall 2 (op1 bLen) (aCons (dVar 0) aNil)) aNil))))) (gN 1) (sSeq (sAsg (dFn S__law_tape (aCons (dVar 0) (aCons (dVar 1) aNil))) (gN 2))
  (sSeq (sAsg (dFn S__law_some_room (aCons (dVar 2) (aCons (dVar 1) aNil))) (gN 3))
  (sFor (iRange1 (dC (.int 2))) (gN 4) (sSeq (sAsg (dFn S__law_measure (aCons (dVar 2) (aCons (dVar 3) aNil))) (gT 2 (gsCons (gN 5) (gsCons (gN 6) gsNil))))
  (sSeq (sFrzL 5 (sFrzL 6 (sAsg (dPick (aCons (dTupC (aCons (dVar 5) (aCons (dVar 6) aNil))) (aCons (dTup (aCons (dCall 2 (op1 bTupI) (aCons (dVar 5) aNil)) (aCons (dCall 2 (op1 bTupI) (aCons (dVar 6) aNil)) aNil))) aNil)) 4) (gN 7))))
  (sSeq (sAsg (dCall 2 (op1 bStr) (aCons (dVar 7) aNil)) (gN 8))
  (sSeq (sAsg (dLst (aCons (dCall 2 (op1 bSum) (aCons (dLc (iSeq (dVar 3)) (gT 2 (gsCons (gN 11) (gsCons (gN 12) gsNil))) xYes (dBin 1 opMul (dIdx (dVar 5) (dVar 11)) (dIdx (dVar 6) (dVar 12))) [11, 12]) aNil)) (aCons (dFn S__law_around (aCons (dVar 3) (aCons (dTupC (aCons (dVar 5) (aCons (dVar 6) aNil))) aNil))) aNil))) (gN 9))
  (sSeq (sAsg (dLst (aCons (dFn S_area (aCons (dVar 3) (aCons (dVar 7) aNil))) (aCons (dFn S_round_length (aCons (dVar 3) (aCons (dVar 7) aNil))) aNil))) (gN 10))
  (sIf (xOr (xNot (xVal (dFn S__law_same (aCons (dVar 10) (aCons (dVar 9) aNil))))) (xVal (dBin 2 opNe (dCall 2 (op1 bStr) (aCons (dVar 7) aNil)) (dVar 8)))) (sRet (dC (.bl false))) sNil))))))))))
  (sRet (dAnd (dBin 2 opEq (dFn S_area (aCons (dTup aNil) (aCons (dTup (aCons (dLst aNil) (aCons (dLst aNil) aNil))) aNil))) (dC (.int 0))) (dBin 2 opEq (dFn S_round_length (aCons (dTup aNil) (aCons (dTup (aCons (dTup aNil) (aCons (dTup aNil) aNil))) aNil))) (dC (.int 0))))))
def w_law (script : (List Int)) (kr : Bool → Prop) : Prop :=
(RngOk 0 (1 + (min 6 (script.length : Int)))) ∧
forW (rng 0 (1 + (min 6 (script.length : Int)))) () (fun k' (s2 : Unit) kk13 => w__law_tape script k' fun t14 =>
w__law_some_room t14 k' fun t15 =>
(RngOk 0 2) ∧
forW (rng 0 2) t15.2 (fun turn (tape : (Int × Int)) kk24 => w__law_measure tape t15.1 fun t25 =>
exW (atI [((false, t25.1.1), (false, t25.1.2)), ((true, t25.1.1), (true, t25.1.2))] turn) fun x26 =>
(ShOk ((eT2 (eLV D.int) (eLV D.int)) x26)) ∧
lt ((strD ((eT2 (eLV D.int) (eLV D.int)) x26)) : Str) fun kept =>
(t15.1.length ≤ sizeLine) ∧
lcW t15.1 ([] : List Int) () (fun a29 (s : Unit) w => exW (atI t25.1.1 a29.1) fun x31 =>
exW (atI t25.1.2 a29.2) fun x33 =>
(IntMulOk x31 x33) ∧
w (some (x31 * x33)) ()) fun l36 s37 =>
w__law_around t15.1 ((false, t25.1.1), (false, t25.1.2)) fun t38 =>
lt ([(l36.sum), t38] : (List Int)) fun due =>
w_area t15.1 x26 fun t39 =>
w_round_length t15.1 x26 fun t40 =>
lt ([t39, t40] : (List Int)) fun found =>
w__law_same ((eL D.int) found) ((eL D.int) due) fun t41 =>
ifW (!t41) (fun kk42 => kk42 (true, ())) (fun kk42 => (ShOk ((eT2 (eLV D.int) (eLV D.int)) x26)) ∧
(PyData.strOk (strD ((eT2 (eLV D.int) (eLV D.int)) x26)) = true ∧ PyData.strOk kept = true) ∧
kk42 ((!(decide ((strD ((eT2 (eLV D.int) (eLV D.int)) x26)) = kept))), ())) fun (b45 : Bool × Unit) =>
ifP b45.1 (kr false) <|
kk24 t25.2) fun tape =>
kk13 ()) fun s2 =>
w_area ([] : (List (Int × Int))) ((false, ([] : List Int)), (false, ([] : List Int))) fun t46 =>
ifW (decide (t46 = 0)) (fun kk47 => w_round_length ([] : (List (Int × Int))) ((true, ([] : (List Int))), (true, ([] : (List Int)))) fun t48 =>
kk47 ((decide (t48 = 0)), ())) (fun kk47 => kk47 (false, ())) fun (b49 : Bool × Unit) =>
kr b49.1
def S_law : FS := mkS (α := (List Int)) (κ := Bool) [.cst] (fun a => [(eL D.int) a]) (fun a => w_law a) (fun r => D.bl r) fun a r => [(eL D.int) a]
theorem v_law : BodyOk S_law 13 (t_law S_round_length S_area S__law_same S__law_around S__law_measure S__law_some_room S__law_tape) := by
  intro ds Q hl h
  obtain ⟨script, kr, rfl, h, q⟩ := h
  refine b_env (e' := [some ((eL D.int) script, .cst), none, none, none, none, none, none, none, none, none, none, none, none]) rfl ?_
  unfold t_law
  unfold w_law at h
  refine s_seq ?_
  refine s_for ?_
  refine c_rg1 ?_
  refine c_bin ?_
  refine c_C ?_
  refine c_call ?_
  refine c_aCons ?_
  refine c_C ?_
  refine c_aCons ?_
  refine c_call ?_
  refine c_aCons ?_
  refine c_var rfl ?_
  refine c_aNil ?_
  refine o_call (.cons .cst .nil) n_lenL ?_
  refine c_aNil ?_
  refine o_call (.cons .tmp (.cons .tmp .nil)) n_min2 ?_
  refine o_bin .tmp .tmp op_addI ?_
  obtain ⟨p1, h⟩ := h
  refine o_rg1 p1 ?_
  refine o_for (fI := D.int) (sh := fun (s2 : Unit) e => ∃ c3 c4 c5 c6 c7 c8 c9 c10 c11 c12 : Option (D × Md), (setS (some c3) = true ∧ setS (some c4) = true ∧ setS (some c5) = true ∧ setS (some c6) = true ∧ setS (some c7) = true ∧ setS (some c8) = true ∧ setS (some c9) = true ∧ setS (some c10) = true ∧ setS (some c11) = true ∧ setS (some c12) = true) ∧ e = [some ((eL D.int) script, .cst), c3, c4, c5, c6, c7, c8, c9, c10, c11, c12, none, none]) h ⟨_, _, _, _, _, _, _, _, _, _, ⟨rfl, rfl, rfl, rfl, rfl, rfl, rfl, rfl, rfl, rfl⟩, rfl⟩ (fun k' ha s2 e hs kk13 nxkk13 hJ13 h => ?_) ?_
  · skip
    obtain ⟨c3, c4, c5, c6, c7, c8, c9, c10, c11, c12, ⟨hc3, hc4, hc5, hc6, hc7, hc8, hc9, hc10, hc11, hc12⟩, rfl⟩ := hs
    refine g_n (e' := [some ((eL D.int) script, .cst), some (D.int k', .own), c4, c5, c6, c7, c8, c9, c10, c11, c12, none, none]) hc3 rfl (?_)
    refine s_seq ?_
    refine s_asg ?_
    refine c_fn ?_
    refine c_aCons ?_
    refine c_var rfl ?_
    refine c_aCons ?_
    refine c_var rfl ?_
    refine c_aNil ?_
    refine x_call (script, k') (fun t14 => [some ((eL D.int) script, .cst), some (D.int k', .own), c4, c5, c6, c7, c8, c9, c10, c11, c12, none, none]) h (.cons .cst (.cons .tmp .nil)) (ok_cons ok_cst (ok_cons ok_cst ok_nil)) (apart_rd (by rfl)) (fun _ => rfl) fun t14 h => ?_
    refine g_n (e' := [some ((eL D.int) script, .cst), some (D.int k', .own), some (eP t14, .own), c5, c6, c7, c8, c9, c10, c11, c12, none, none]) hc4 rfl ?_
    refine s_seq ?_
    refine s_asg ?_
    refine c_fn ?_
    refine c_aCons ?_
    refine c_var rfl ?_
    refine c_aCons ?_
    refine c_var rfl ?_
    refine c_aNil ?_
    refine x_call (t14, k') (fun t15 => [some ((eL D.int) script, .cst), some (D.int k', .own), some (eP t15.2, .own), c5, c6, c7, c8, c9, c10, c11, c12, none, none]) h (.cons (.sl (by rfl) (by rfl)) (.cons .tmp .nil)) (ok_cons (by rfl) (ok_cons ok_cst ok_nil)) (by rfl) (fun _ => rfl) fun t15 h => ?_
    refine g_n (e' := [some ((eL D.int) script, .cst), some (D.int k', .own), some (eP t15.2, .own), some ((eV (eT2 D.int D.int)) t15.1, .own), c6, c7, c8, c9, c10, c11, c12, none, none]) hc5 rfl ?_
    refine s_for ?_
    refine c_rg1 ?_
    refine c_C ?_
    obtain ⟨p16, h⟩ := h
    refine o_rg1 p16 ?_
    refine o_for (fI := D.int) (sh := fun (tape : (Int × Int)) e => ∃ c17 c18 c19 c20 c21 c22 c23 : Option (D × Md), (setS (some c17) = true ∧ setS (some c18) = true ∧ setS (some c19) = true ∧ setS (some c20) = true ∧ setS (some c21) = true ∧ setS (some c22) = true ∧ setS (some c23) = true) ∧ e = [some ((eL D.int) script, .cst), some (D.int k', .own), some (eP tape, .own), some ((eV (eT2 D.int D.int)) t15.1, .own), c17, c18, c19, c20, c21, c22, c23, none, none]) h ⟨_, _, _, _, _, _, _, ⟨hc6, hc7, hc8, hc9, hc10, hc11, hc12⟩, rfl⟩ (fun turn ha tape e hs kk24 nxkk24 hJ24 h => ?_) ?_
    · skip
      obtain ⟨c17, c18, c19, c20, c21, c22, c23, ⟨hc17, hc18, hc19, hc20, hc21, hc22, hc23⟩, rfl⟩ := hs
      refine g_n (e' := [some ((eL D.int) script, .cst), some (D.int k', .own), some (eP tape, .own), some ((eV (eT2 D.int D.int)) t15.1, .own), some (D.int turn, .own), c18, c19, c20, c21, c22, c23, none, none]) hc17 rfl (?_)
      refine s_seq ?_
      refine s_asg ?_
      refine c_fn ?_
      refine c_aCons ?_
      refine c_var rfl ?_
      refine c_aCons ?_
      refine c_var rfl ?_
      refine c_aNil ?_
      refine x_call (tape, t15.1) (fun t25 => [some ((eL D.int) script, .cst), some (D.int k', .own), some (eP t25.2, .own), some ((eV (eT2 D.int D.int)) t15.1, .own), some (D.int turn, .own), c18, c19, c20, c21, c22, c23, none, none]) h (.cons (.sl (by rfl) (by rfl)) (.cons (.sl (by rfl) (by rfl)) .nil)) (ok_cons (by rfl) (ok_cons (ok_ro (.sl (by rfl) (by rfl))) ok_nil)) (by rfl) (fun _ => rfl) fun t25 h => ?_
      refine g_T (by rfl) (g_cons (g_n (e' := [some ((eL D.int) script, .cst), some (D.int k', .own), some (eP t25.2, .own), some ((eV (eT2 D.int D.int)) t15.1, .own), some (D.int turn, .own), some ((eL D.int) t25.1.1, .own), c19, c20, c21, c22, c23, none, none]) hc18 rfl (g_cons (g_n (e' := [some ((eL D.int) script, .cst), some (D.int k', .own), some (eP t25.2, .own), some ((eV (eT2 D.int D.int)) t15.1, .own), some (D.int turn, .own), some ((eL D.int) t25.1.1, .own), some ((eL D.int) t25.1.2, .own), c20, c21, c22, c23, none, none]) hc19 rfl (g_nil (?_))))))
      refine s_seq ?_
      refine s_frzL (e' := [some ((eL D.int) script, .cst), some (D.int k', .own), some (eP t25.2, .own), some ((eV (eT2 D.int D.int)) t15.1, .own), some (D.int turn, .own), some ((eL D.int) t25.1.1, .cst), some ((eL D.int) t25.1.2, .own), c20, c21, c22, c23, none, none]) (by rfl) (immL_of (f := D.int) _) rfl ?_
      refine s_frzL (e' := [some ((eL D.int) script, .cst), some (D.int k', .own), some (eP t25.2, .own), some ((eV (eT2 D.int D.int)) t15.1, .own), some (D.int turn, .own), some ((eL D.int) t25.1.1, .cst), some ((eL D.int) t25.1.2, .cst), c20, c21, c22, c23, none, none]) (by rfl) (immL_of (f := D.int) _) rfl ?_
      refine s_asg ?_
      refine c_pick ?_
      refine c_aCons ?_
      refine c_tupC ?_
      refine c_aCons ?_
      refine c_var rfl ?_
      refine c_aCons ?_
      refine c_var rfl ?_
      refine c_aNil ?_
      refine o_tupC2 (f := (eLV D.int)) (g := (eLV D.int)) (false, t25.1.1) (false, t25.1.2) .ro .ro ?_
      refine c_aCons ?_
      refine c_tup ?_
      refine c_aCons ?_
      refine c_call ?_
      refine c_aCons ?_
      refine c_var rfl ?_
      refine c_aNil ?_
      refine o_call (.cons .cst .nil) n_tupI ?_
      refine c_aCons ?_
      refine c_call ?_
      refine c_aCons ?_
      refine c_var rfl ?_
      refine c_aNil ?_
      refine o_call (.cons .cst .nil) n_tupI ?_
      refine c_aNil ?_
      refine o_tup2 (eLV D.int) (eLV D.int) (true, t25.1.1) (true, t25.1.2) (.cons .tmp (.cons .tmp .nil)) ?_
      refine c_aNil ?_
      obtain ⟨x26, p27, h⟩ := h
      refine o_pick2 (f := (eT2 (eLV D.int) (eLV D.int))) ((false, t25.1.1), (false, t25.1.2)) ((true, t25.1.1), (true, t25.1.2)) .ro (.tmp (Im.im (f := eT2 (eV D.int) (eV D.int)) (_, _))) (by rfl) p27 ?_
      refine g_nro (e' := [some ((eL D.int) script, .cst), some (D.int k', .own), some (eP t25.2, .own), some ((eV (eT2 D.int D.int)) t15.1, .own), some (D.int turn, .own), some ((eL D.int) t25.1.1, .cst), some ((eL D.int) t25.1.2, .cst), some ((eT2 (eLV D.int) (eLV D.int)) x26, .cst), c21, c22, c23, none, none]) hc20 rfl ?_
      refine s_seq ?_
      refine s_asg ?_
      refine c_call ?_
      refine c_aCons ?_
      refine c_var rfl ?_
      refine c_aNil ?_
      obtain ⟨p28, h⟩ := h
      refine o_call (.cons .cst .nil) (n_str p28) ?_
      refine g_N (f := D.str) (fun kept => [some ((eL D.int) script, .cst), some (D.int k', .own), some (eP t25.2, .own), some ((eV (eT2 D.int D.int)) t15.1, .own), some (D.int turn, .own), some ((eL D.int) t25.1.1, .cst), some ((eL D.int) t25.1.2, .cst), some ((eT2 (eLV D.int) (eLV D.int)) x26, .cst), some (D.str kept, .own), c22, c23, none, none]) h hc21 (fun _ => rfl) fun kept h => ?_
      refine s_seq ?_
      refine s_asg ?_
      refine c_lst ?_
      refine c_aCons ?_
      refine c_call ?_
      refine c_aCons ?_
      refine c_lc ?_
      refine c_iSeq ?_
      refine c_var rfl ?_
      refine o_sqSv (e' := [some ((eL D.int) script, .cst), some (D.int k', .own), some (eP t25.2, .own), some ((eV (eT2 D.int D.int)) t15.1, .lk), some (D.int turn, .own), some ((eL D.int) t25.1.1, .cst), some ((eL D.int) t25.1.2, .cst), some ((eT2 (eLV D.int) (eLV D.int)) x26, .cst), some (D.str kept, .own), c22, c23, none, none]) rfl rfl rfl ?_
      obtain ⟨p30, h⟩ := h
      refine o_lcW (fI := (eT2 D.int D.int)) (fo := D.int) (sh := fun (s : Unit) e => e = [some ((eL D.int) script, .cst), some (D.int k', .own), some (eP t25.2, .own), some ((eV (eT2 D.int D.int)) t15.1, .lk), some (D.int turn, .own), some ((eL D.int) t25.1.1, .cst), some ((eL D.int) t25.1.2, .cst), some ((eT2 (eLV D.int) (eLV D.int)) x26, .cst), some (D.str kept, .own), c22, c23, none, none]) h (all2 rfl rfl) p30 rfl (fun a29 ha s e hs w c k1 k2 hc h1 h2 h => ?_) ?_
      · obtain rfl := hs
        refine g_T (by rfl) (g_cons (g_n (e' := [some ((eL D.int) script, .cst), some (D.int k', .own), some (eP t25.2, .own), some ((eV (eT2 D.int D.int)) t15.1, .lk), some (D.int turn, .own), some ((eL D.int) t25.1.1, .cst), some ((eL D.int) t25.1.2, .cst), some ((eT2 (eLV D.int) (eLV D.int)) x26, .cst), some (D.str kept, .own), c22, c23, some (D.int a29.1, .own), none]) rfl rfl (g_cons (g_n (e' := [some ((eL D.int) script, .cst), some (D.int k', .own), some (eP t25.2, .own), some ((eV (eT2 D.int D.int)) t15.1, .lk), some (D.int turn, .own), some ((eL D.int) t25.1.1, .cst), some ((eL D.int) t25.1.2, .cst), some ((eT2 (eLV D.int) (eLV D.int)) x26, .cst), some (D.str kept, .own), c22, c23, some (D.int a29.1, .own), some (D.int a29.2, .own)]) rfl rfl (g_nil (?_))))))
        refine c_yes ?_
        refine c_bin ?_
        refine c_idx ?_
        refine c_var rfl ?_
        refine c_var rfl ?_
        obtain ⟨x31, p32, h⟩ := h
        refine o_idx .cst .tmp (ix_L p32) (.ro rfl) ?_
        refine c_idx ?_
        refine c_var rfl ?_
        refine c_var rfl ?_
        obtain ⟨x33, p34, h⟩ := h
        refine o_idx .cst .tmp (ix_L p34) (.ro rfl) ?_
        obtain ⟨p35, h⟩ := h
        refine o_bin .tmp .tmp (op_mulI p35) ?_
        exact o_el .tmp hc rfl (h1 _ () _ rfl h)
      rintro l36 s37 e hs h
      obtain rfl := hs
      refine o_rest (e' := [some ((eL D.int) script, .cst), some (D.int k', .own), some (eP t25.2, .own), some ((eV (eT2 D.int D.int)) t15.1, .lk), some (D.int turn, .own), some ((eL D.int) t25.1.1, .cst), some ((eL D.int) t25.1.2, .cst), some ((eT2 (eLV D.int) (eLV D.int)) x26, .cst), some (D.str kept, .own), c22, c23, none, none]) rfl ?_
      refine o_thaw (e' := [some ((eL D.int) script, .cst), some (D.int k', .own), some (eP t25.2, .own), some ((eV (eT2 D.int D.int)) t15.1, .own), some (D.int turn, .own), some ((eL D.int) t25.1.1, .cst), some ((eL D.int) t25.1.2, .cst), some ((eT2 (eLV D.int) (eLV D.int)) x26, .cst), some (D.str kept, .own), c22, c23, none, none]) rfl rfl ?_
      refine c_aNil ?_
      refine o_call (.cons .tmp .nil) n_sum ?_
      refine c_aCons ?_
      refine c_fn ?_
      refine c_aCons ?_
      refine c_var rfl ?_
      refine c_aCons ?_
      refine c_tupC ?_
      refine c_aCons ?_
      refine c_var rfl ?_
      refine c_aCons ?_
      refine c_var rfl ?_
      refine c_aNil ?_
      refine o_tupC2 (f := (eLV D.int)) (g := (eLV D.int)) (false, t25.1.1) (false, t25.1.2) .ro .ro ?_
      refine c_aNil ?_
      refine x_call (t15.1, ((false, t25.1.1), (false, t25.1.2))) (fun t38 => [some ((eL D.int) script, .cst), some (D.int k', .own), some (eP t25.2, .own), some ((eV (eT2 D.int D.int)) t15.1, .own), some (D.int turn, .own), some ((eL D.int) t25.1.1, .cst), some ((eL D.int) t25.1.2, .cst), some ((eT2 (eLV D.int) (eLV D.int)) x26, .cst), some (D.str kept, .own), c22, c23, none, none]) h (.cons (.sl (by rfl) (by rfl)) (.cons .cst .nil)) (ok_cons (ok_ro (.sl (by rfl) (by rfl))) (ok_cons ok_cst ok_nil)) (apart_rd (by rfl)) (fun _ => rfl) fun t38 h => ?_
      refine c_aNil ?_
      refine o_lstL D.int [(l36.sum), t38] (.cons .tmp (.cons .tmp .nil)) ?_
      refine g_N (f := (eL D.int)) (fun due => [some ((eL D.int) script, .cst), some (D.int k', .own), some (eP t25.2, .own), some ((eV (eT2 D.int D.int)) t15.1, .own), some (D.int turn, .own), some ((eL D.int) t25.1.1, .cst), some ((eL D.int) t25.1.2, .cst), some ((eT2 (eLV D.int) (eLV D.int)) x26, .cst), some (D.str kept, .own), some ((eL D.int) due, .own), c23, none, none]) h hc22 (fun _ => rfl) fun due h => ?_
      refine s_seq ?_
      refine s_asg ?_
      refine c_lst ?_
      refine c_aCons ?_
      refine c_fn ?_
      refine c_aCons ?_
      refine c_var rfl ?_
      refine c_aCons ?_
      refine c_var rfl ?_
      refine c_aNil ?_
      refine x_call (t15.1, x26) (fun t39 => [some ((eL D.int) script, .cst), some (D.int k', .own), some (eP t25.2, .own), some ((eV (eT2 D.int D.int)) t15.1, .own), some (D.int turn, .own), some ((eL D.int) t25.1.1, .cst), some ((eL D.int) t25.1.2, .cst), some ((eT2 (eLV D.int) (eLV D.int)) x26, .cst), some (D.str kept, .own), some ((eL D.int) due, .own), c23, none, none]) h (.cons (.sl (by rfl) (by rfl)) (.cons .cst .nil)) (ok_cons (ok_ro (.sl (by rfl) (by rfl))) (ok_cons ok_cst ok_nil)) (apart_rd (by rfl)) (fun _ => rfl) fun t39 h => ?_
      refine c_aCons ?_
      refine c_fn ?_
      refine c_aCons ?_
      refine c_var rfl ?_
      refine c_aCons ?_
      refine c_var rfl ?_
      refine c_aNil ?_
      refine x_call (t15.1, x26) (fun t40 => [some ((eL D.int) script, .cst), some (D.int k', .own), some (eP t25.2, .own), some ((eV (eT2 D.int D.int)) t15.1, .own), some (D.int turn, .own), some ((eL D.int) t25.1.1, .cst), some ((eL D.int) t25.1.2, .cst), some ((eT2 (eLV D.int) (eLV D.int)) x26, .cst), some (D.str kept, .own), some ((eL D.int) due, .own), c23, none, none]) h (.cons (.sl (by rfl) (by rfl)) (.cons .cst .nil)) (ok_cons (ok_ro (.sl (by rfl) (by rfl))) (ok_cons ok_cst ok_nil)) (apart_rd (by rfl)) (fun _ => rfl) fun t40 h => ?_
      refine c_aNil ?_
      refine o_lstL D.int [t39, t40] (.cons .tmp (.cons .tmp .nil)) ?_
      refine g_N (f := (eL D.int)) (fun found => [some ((eL D.int) script, .cst), some (D.int k', .own), some (eP t25.2, .own), some ((eV (eT2 D.int D.int)) t15.1, .own), some (D.int turn, .own), some ((eL D.int) t25.1.1, .cst), some ((eL D.int) t25.1.2, .cst), some ((eT2 (eLV D.int) (eLV D.int)) x26, .cst), some (D.str kept, .own), some ((eL D.int) due, .own), some ((eL D.int) found, .own), none, none]) h hc23 (fun _ => rfl) fun found h => ?_
      refine s_if ?_
      refine c_orTi ?_
      refine c_notT ?_
      refine c_val ?_
      refine c_fn ?_
      refine c_aCons ?_
      refine c_var rfl ?_
      refine c_aCons ?_
      refine c_var rfl ?_
      refine c_aNil ?_
      refine x_call (((eL D.int) found), ((eL D.int) due)) (fun t41 => [some ((eL D.int) script, .cst), some (D.int k', .own), some (eP t25.2, .own), some ((eV (eT2 D.int D.int)) t15.1, .own), some (D.int turn, .own), some ((eL D.int) t25.1.1, .cst), some ((eL D.int) t25.1.2, .cst), some ((eT2 (eLV D.int) (eLV D.int)) x26, .cst), some (D.str kept, .own), some ((eL D.int) due, .own), some ((eL D.int) found, .own), none, none]) h (.cons (.sl (by rfl) (by rfl)) (.cons (.sl (by rfl) (by rfl)) .nil)) (ok_cons ok_cst (ok_cons ok_cst ok_nil)) (apart_rd (by rfl)) (fun _ => rfl) fun t41 h => ?_
      refine o_val .tmp tr_b ?_
      refine o_orTi (sh := fun (s : Unit) e => e = [some ((eL D.int) script, .cst), some (D.int k', .own), some (eP t25.2, .own), some ((eV (eT2 D.int D.int)) t15.1, .own), some (D.int turn, .own), some ((eL D.int) t25.1.1, .cst), some ((eL D.int) t25.1.2, .cst), some ((eT2 (eLV D.int) (eLV D.int)) x26, .cst), some (D.str kept, .own), some ((eL D.int) due, .own), some ((eL D.int) found, .own), none, none]) h rfl (fun hb kk42 N hJ42 h => ?_) ?_
      · skip
        refine c_val ?_
        refine c_bin ?_
        refine c_call ?_
        refine c_aCons ?_
        refine c_var rfl ?_
        refine c_aNil ?_
        obtain ⟨p43, h⟩ := h
        refine o_call (.cons .cst .nil) (n_str p43) ?_
        refine c_var rfl ?_
        obtain ⟨p44, h⟩ := h
        refine o_bin .tmp .tmp (op_neS p44.1 p44.2) ?_
        refine o_val .tmp tr_b ?_
        exact hJ42 ((!(decide ((strD ((eT2 (eLV D.int) (eLV D.int)) x26)) = kept))), ()) _ rfl h
      rintro b45 e hs h
      obtain rfl := hs
      refine o_ifP h (fun hb h => ?_) (fun hb h => ?_)
      · skip
        refine s_ret ?_
        refine c_C ?_
        refine o_ret ?_
        refine o_thaw0 ?_
        refine o_thaw0 ?_
        exact q false h
      refine s_nil ?_
      exact hJ24 t25.2 _ ⟨_, _, _, _, _, _, _, ⟨rfl, rfl, rfl, rfl, rfl, rfl, rfl⟩, rfl⟩ h
    rintro tape e hs h
    obtain ⟨c17, c18, c19, c20, c21, c22, c23, ⟨hc17, hc18, hc19, hc20, hc21, hc22, hc23⟩, rfl⟩ := hs
    refine o_thaw0 ?_
    exact hJ13 () _ ⟨_, _, _, _, _, _, _, _, _, _, ⟨rfl, rfl, rfl, hc17, hc18, hc19, hc20, hc21, hc22, hc23⟩, rfl⟩ h
  rintro s2 e hs h
  obtain ⟨c3, c4, c5, c6, c7, c8, c9, c10, c11, c12, ⟨hc3, hc4, hc5, hc6, hc7, hc8, hc9, hc10, hc11, hc12⟩, rfl⟩ := hs
  refine o_thaw0 ?_
  refine s_ret ?_
  refine c_andVi ?_
  refine c_bin ?_
  refine c_fn ?_
  refine c_aCons ?_
  refine c_tup ?_
  refine c_aNil ?_
  refine o_tup0 (eT2 D.int D.int) ?_
  refine c_aCons ?_
  refine c_tup ?_
  refine c_aCons ?_
  refine c_lst ?_
  refine c_aNil ?_
  refine o_lstL D.int ([] : List Int) .nil ?_
  refine c_aCons ?_
  refine c_lst ?_
  refine c_aNil ?_
  refine o_lstL D.int ([] : List Int) .nil ?_
  refine c_aNil ?_
  refine o_tup2 (eLV D.int) (eLV D.int) (false, ([] : List Int)) (false, ([] : List Int)) (.cons .tmp (.cons .tmp .nil)) ?_
  refine c_aNil ?_
  refine x_call (([] : (List (Int × Int))), ((false, ([] : List Int)), (false, ([] : List Int)))) (fun t46 => [some ((eL D.int) script, .cst), c3, c4, c5, c6, c7, c8, c9, c10, c11, c12, none, none]) h (.cons .tmp (.cons .tmp .nil)) (ok_cons (ok_ro .tmp) (ok_cons ok_cst ok_nil)) (apart_rd (by rfl)) (fun _ => rfl) fun t46 h => ?_
  refine c_C ?_
  refine o_bin .tmp .tmp (op_eq (f := D.int)) ?_
  refine o_valB .tmp ?_
  refine o_andVi (sh := fun (s : Unit) e => e = [some ((eL D.int) script, .cst), c3, c4, c5, c6, c7, c8, c9, c10, c11, c12, none, none]) h rfl (fun hb kk47 N hJ47 h => ?_) ?_
  · skip
    refine c_bin ?_
    refine c_fn ?_
    refine c_aCons ?_
    refine c_tup ?_
    refine c_aNil ?_
    refine o_tup0 (eT2 D.int D.int) ?_
    refine c_aCons ?_
    refine c_tup ?_
    refine c_aCons ?_
    refine c_tup ?_
    refine c_aNil ?_
    refine o_tup0 D.int ?_
    refine c_aCons ?_
    refine c_tup ?_
    refine c_aNil ?_
    refine o_tup0 D.int ?_
    refine c_aNil ?_
    refine o_tup2 (eLV D.int) (eLV D.int) (true, ([] : (List Int))) (true, ([] : (List Int))) (.cons .tmp (.cons .tmp .nil)) ?_
    refine c_aNil ?_
    refine x_call (([] : (List (Int × Int))), ((true, ([] : (List Int))), (true, ([] : (List Int))))) (fun t48 => [some ((eL D.int) script, .cst), c3, c4, c5, c6, c7, c8, c9, c10, c11, c12, none, none]) h (.cons .tmp (.cons .tmp .nil)) (ok_cons (ok_ro .tmp) (ok_cons ok_cst ok_nil)) (apart_rd (by rfl)) (fun _ => rfl) fun t48 h => ?_
    refine c_C ?_
    refine o_bin .tmp .tmp (op_eq (f := D.int)) ?_
    exact hJ47 ((decide (t48 = 0)), ()) _ rfl h
  rintro b49 e hs h
  obtain rfl := hs
  refine o_ret ?_
  exact q b49.1 h

end K30

namespace K30
open PySem PySem.Spec PyProof.Rows L2 BX TX COM BC
theorem same_w {x y : D} {kr : Bool → Prop} (e : x = y) (h : SameOk 4 x) (hk : kr true) : w__law_same x y kr := ⟨e, h, hk⟩
def gI (l : List Int) (i : Int) : Int := l.getD i.toNat 0
theorem at_gI {l : List Int} {i : Int} (h0 : 0 ≤ i) (h1 : i < l.length) : atI l i = some (gI l i) := by
  have e : i = ((i.toNat : Nat) : Int) := by omega
  have hl : i.toNat < l.length := by omega
  rw [e]
  refine atI_nat ?_
  unfold gI
  rw [Int.toNat_natCast, List.getD_eq_getElem?_getD, List.getElem?_eq_getElem hl]
  rfl
/-- sizes for a room -/
structure MOk (r : List C2) (w h : List Int) : Prop where
  lw : w.length ≤ 100
  lh : h.length ≤ 100
  bw : ∀ x ∈ w, 0 ≤ x ∧ x ≤ 1000
  bh : ∀ x ∈ h, 0 ≤ x ∧ x ≤ 1000
  all : ∀ c ∈ r, (0 ≤ c.1 ∧ c.1 < w.length) ∧ 0 ≤ c.2 ∧ c.2 < h.length
theorem gI_bd {l : List Int} (h : ∀ x ∈ l, 0 ≤ x ∧ x ≤ 1000) {i : Int} (h0 : 0 ≤ i) (h1 : i < l.length) : 0 ≤ gI l i ∧ gI l i ≤ 1000 := by
  have hl : i.toNat < l.length := by omega
  unfold gI
  rw [List.getD_eq_getElem?_getD, List.getElem?_eq_getElem hl]
  exact h _ (List.getElem_mem hl)
def areaF (r : List C2) (w h : List Int) : Int := (r.map fun c => gI w c.1 * gI h c.2).sum
def term (r : List C2) (w h : List Int) (c : C2) : Int :=
  gI h c.2 * intB (!memB (c.1 - 1, c.2) r) + gI h c.2 * intB (!memB (c.1 + 1, c.2) r) + gI w c.1 * intB (!memB (c.1, c.2 - 1) r) + gI w c.1 * intB (!memB (c.1, c.2 + 1) r)
def aroundF (r : List C2) (w h : List Int) : Int := (r.map (term r w h)).sum
theorem mul_ok {i j : Int} (h0 : 0 ≤ i) (h1 : i ≤ 1000) : IntMulOk i j := mulOk_l (by omega) (by omega)
theorem area_w {r : List C2} {m : (Bool × List Int) × (Bool × List Int)} {kr : Int → Prop} (hl : r.length ≤ 1000) (hm : MOk r m.1.2 m.2.2) (hk : kr (areaF r m.1.2 m.2.2)) : w_area r m kr := by
  refine ⟨by rw [sz]; omega, lcW_map (fun c : C2 => gI m.1.2 c.1 * gI m.2.2 c.2) (fun c hc w hw => ?_) hk⟩
  obtain ⟨a, b⟩ := hm.all c hc
  have bd := gI_bd hm.bw a.1 a.2
  exact ⟨_, at_gI a.1 a.2, _, at_gI b.1 b.2, mul_ok bd.1 bd.2, hw⟩
theorem around_w {r : List C2} {m : (Bool × List Int) × (Bool × List Int)} {kr : Int → Prop} (hl : r.length ≤ 1000) (hm : MOk r m.1.2 m.2.2) (hk : kr (aroundF r m.1.2 m.2.2)) : w_length_around r m kr := by
  unfold w_length_around w_sides_beside
  simp only [lt]
  refine ⟨by rw [sz]; omega, forW_inv (fun p s => s = (p.map (term r m.1.2 m.2.2)).sum) rfl ?_ ?_⟩
  · rintro p c q s kk e rfl hkk
    have hc : c ∈ r := by rw [e]; simp
    obtain ⟨a, b⟩ := hm.all c hc
    refine ⟨_, at_gI a.1 a.2, _, at_gI b.1 b.2, by rw [sz]; simp, hkk _ ?_⟩
    rw [List.map_append, List.sum_append]
    congr 1
    simp only [List.filter_cons, List.filter_nil, has_memB]
    unfold term
    show _ = term r m.1.2 m.2.2 c + 0
    unfold term
    cases memB (c.1 - 1, c.2) r <;> cases memB (c.1 + 1, c.2) r <;> cases memB (c.1, c.2 - 1) r <;> cases memB (c.1, c.2 + 1) r <;> simp [intB] <;> omega
  · rintro s rfl
    exact hk
theorem law_around_w {r : List C2} {m : (Bool × List Int) × (Bool × List Int)} {kr : Int → Prop} (hl : r.length ≤ 1000) (hm : MOk r m.1.2 m.2.2) (hk : kr (aroundF r m.1.2 m.2.2)) : w__law_around r m kr := by
  unfold w__law_around
  simp only [lt]
  refine ⟨by rw [sz]; omega, forW_inv (fun p s => s = (p.map (term r m.1.2 m.2.2)).sum) rfl ?_ ?_⟩
  · rintro p c q s kk e rfl hkk
    have hc : c ∈ r := by rw [e]; simp
    obtain ⟨a, b⟩ := hm.all c hc
    have bw := gI_bd hm.bw a.1 a.2
    have bh := gI_bd hm.bh b.1 b.2
    refine ⟨_, at_gI b.1 b.2, _, at_gI a.1 a.2, mul_ok bh.1 bh.2, mul_ok bh.1 bh.2, mul_ok bw.1 bw.2, mul_ok bw.1 bw.2, hkk _ ?_⟩
    rw [List.map_append, List.sum_append, has_memB, has_memB, has_memB, has_memB]
    show _ = _ + (term r m.1.2 m.2.2 c + 0)
    unfold term
    omega
  · rintro s rfl
    exact hk
theorem some_room_w {t : Int × Int} {k : Int} {kr : List C2 × (Int × Int) → Prop} (ht : TpOk t) (hk : ∀ r s, RoomOk r → TpOk s → kr (r, s)) : w__law_some_room t k kr :=
  ⟨fun _ => draw_w ht (by decide) (by decide) fun a t1 _ _ h1 => room_w h1 hk, fun _ => room_w ht hk⟩
theorem lcW_len {α β σ : Type} {body : α → σ → (Option β → σ → Prop) → Prop} {k : List β → σ → Prop} (T : σ → Prop) (P : β → Prop) : ∀ {l : List α} {acc : List β} {s : σ}, T s → (∀ b ∈ acc, P b) →
    (∀ a ∈ l, ∀ (s : σ) (w : Option β → σ → Prop), T s → (∀ b s', P b → T s' → w (some b) s') → body a s w) → (∀ m s, (∀ b ∈ m, P b) → m.length = acc.length + l.length → T s → k m s) → lcW l acc s body k
  | [], acc, s, ht, ha, _, hk => hk acc s ha rfl ht
  | a :: l, acc, s, ht, ha, hb, hk => hb a (List.mem_cons_self ..) s _ ht fun b s' pb ts' => lcW_len T P (l := l) (acc := acc ++ [b]) ts' (fun x hx => by
      rcases List.mem_append.mp hx with z | z
      · exact ha x z
      · rw [List.mem_singleton.mp z]; exact pb) (fun a ha => hb a (List.mem_cons_of_mem _ ha)) fun m s hm hl ts => hk m s hm (by rw [hl, List.length_append, List.length_cons]; simp; omega) ts
theorem measure_w {r : List C2} {t : Int × Int} {kr : (List Int × List Int) × (Int × Int) → Prop} (hr : RoomB r) (ht : TpOk t) (hk : ∀ w h u, MOk r w h → TpOk u → kr ((w, h), u)) : w__law_measure t r kr := by
  unfold w__law_measure
  simp only [lt]
  have hl := hr.2.1
  refine draw_w ht (by decide) (by decide) fun way t1 w0 w1 h1 => ⟨rng_ok (by decide) (by decide) (by decide) (by decide), ?_⟩
  have one : ∀ (co : C2 → Int) (side : Int), (∀ c : C2, atI [c.1, c.2] side = some (co c)) → (∀ c ∈ r, 0 ≤ co c ∧ co c ≤ 60) → ∀ (u : Int × Int) (fd : List (List Int)) (kk : (Int × Int) → List Int → Prop), TpOk u → fd.length ≤ 5 →
      (∀ (l : List Int) u', TpOk u' → l.length ≤ 100 → (∀ x ∈ l, 0 ≤ x ∧ x ≤ 1000) → (∀ c ∈ r, co c < l.length) → kk u' l) →
      ((r.length ≤ sizeLine) ∧ lcW r ([] : List Int) () (fun cell (s : Unit) w => exW (atI [cell.1, cell.2] side) fun x8 => w (some x8) ()) fun l10 s11 =>
      (l10.length + [0].length ≤ sizeLine) ∧ exW (l10 ++ [0]).max? fun x13 => w__law_draw u 3 fun t15 => (RngOk 0 ((x13 + 1) + t15.1)) ∧ ((rng 0 ((x13 + 1) + t15.1)).length ≤ sizeLine) ∧
      lcW (rng 0 ((x13 + 1) + t15.1)) ([] : List Int) t15.2 (fun k' (s : (Int × Int)) w => w__law_draw s 3 fun t18 => w__law_draw t18.2 999 fun t19 => exW (atI [1, (1 + t18.1), (1 + t19.1), 999] way) fun x20 => w (some x20) t19.2) fun l22 s23 =>
      (fd.length < sizeLine) ∧ kk s23 l22) := by
    intro co side hco bd u fd kk hu hf hkk
    refine ⟨by rw [sz]; omega, lcW_map co (fun c _ w hw => ⟨_, hco c, hw⟩) ⟨by rw [List.length_map, sz]; simp; omega, ?_⟩⟩
    have hne : (r.map co ++ [0]).max? ≠ none := by rw [ne_eq, List.max?_eq_none_iff]; simp
    obtain ⟨mx, em⟩ := Option.ne_none_iff_exists'.mp hne
    have mm := List.max?_eq_some_iff.mp em
    have b0 : 0 ≤ mx := mm.2 0 (by simp)
    have b1 : mx ≤ 60 := by
      rcases List.mem_append.mp mm.1 with z | z
      · obtain ⟨c, hc, rfl⟩ := List.mem_map.mp z
        exact (bd c hc).2
      · have : mx = 0 := by simpa using z
        omega
    have all : ∀ c ∈ r, co c ≤ mx := fun c hc => mm.2 _ (List.mem_append_left _ (List.mem_map_of_mem hc))
    refine ⟨mx, em, draw_w hu (by decide) (by decide) fun d t15 d0 d1 h15 => ⟨rng_ok (by omega) (by omega) (by (try dsimp only); omega) (by (try dsimp only); omega), by rw [len_rng, sz]; dsimp only; omega, ?_⟩⟩
    refine lcW_len TpOk (fun x => 0 ≤ x ∧ x ≤ 1000) h15 (fun b hb => nomatch hb) (fun k _ s w hs hw => ?_) fun m s hm hlen hs => ⟨by rw [sz]; omega, hkk m s hs ?_ hm fun c hc => ?_⟩
    · refine draw_w hs (by decide) (by decide) fun x t18 x0 x1 h18 => draw_w h18 (by decide) (by decide) fun y t19 y0 y1 h19 => ?_
      have hway : way = 0 ∨ way = 1 ∨ way = 2 ∨ way = 3 := by omega
      rcases hway with rfl | rfl | rfl | rfl
      · exact ⟨_, rfl, hw _ _ ⟨by decide, by decide⟩ h19⟩
      · exact ⟨_, rfl, hw _ _ ⟨by dsimp only; omega, by dsimp only; omega⟩ h19⟩
      · exact ⟨_, rfl, hw _ _ ⟨by dsimp only; omega, by dsimp only; omega⟩ h19⟩
      · exact ⟨_, rfl, hw _ _ ⟨by decide, by decide⟩ h19⟩
    · rw [hlen, len_rng]
      simp
      omega
    · have := all c hc
      rw [hlen, len_rng]
      simp
      omega
  have e2 : rng 0 2 = [0, 1] := by decide
  rw [e2]
  simp only [forW]
  refine one (fun c => c.1) 0 (fun c => rfl) (fun c hc => (hr.2.2 c hc).1) t1 [] _ h1 (by simp) fun w u hu lw bw aw => ?_
  refine one (fun c => c.2) 1 (fun c => rfl) (fun c hc => (hr.2.2 c hc).2) u ([] ++ [w]) _ hu (by simp) fun h u' hu' lh bh ah => ?_
  refine ⟨w, h, rfl, hk w h u' ⟨lw, lh, bw, bh, fun c hc => ⟨⟨(hr.2.2 c hc).1.1, aw c hc⟩, (hr.2.2 c hc).2.1, ah c hc⟩⟩ hu'⟩
theorem sh_m {b : Bool} {w h : List Int} (lw : w.length ≤ 100) (lh : h.length ≤ 100) (bw : ∀ x ∈ w, 0 ≤ x ∧ x ≤ 1000) (bh : ∀ x ∈ h, 0 ≤ x ∧ x ≤ 1000) : ShOk (eT2 (eLV D.int) (eLV D.int) ((b, w), (b, h))) ∧ PyData.strOk (strD (eT2 (eLV D.int) (eLV D.int) ((b, w), (b, h)))) = true := by
  have s1 : ∀ l : List Int, l.length ≤ 100 → (∀ x ∈ l, 0 ≤ x ∧ x ≤ 1000) → Sw 10000 5 (eLV D.int (b, l)) := fun l hl hb => by
    have e : ∀ x ∈ l, Sw 1 0 (D.int x) := fun x hx => (sw_int (by have := hb x hx; omega)).up (by decide) (by decide)
    cases b
    · exact (sw_L (f := D.int) e).up (by omega) (by decide)
    · exact (sw_V (f := D.int) e).up (by omega) (by decide)
  exact ((sw_T2 (f := eLV D.int) (g := eLV D.int) (p := ((b, w), (b, h))) (s1 w lw bw) (s1 h lh bh)).up (n' := 1000000) (k' := 90) (by decide) (by decide)).go (by decide) (by decide)
theorem law_w (ns : List Int) {kr : Bool → Prop} (hk : kr true) : w_law ns kr := by
  unfold w_law
  simp only [lt]
  refine ⟨rng_ok (by omega) (by omega) (by omega) (by omega), forW_any (fun _ => True) trivial ?_ ?_⟩
  · intro k hk1 _ kk _ hkk
    rw [mem_rng] at hk1
    refine tape_w (by omega) (by omega) fun t ht => some_room_w ht fun r t2 hr h2 => ⟨rng_ok (by decide) (by decide) (by decide) (by decide), forW_any TpOk h2 (fun turn htn u kk2 hu hk2 => ?_) fun _ _ => hkk _ trivial⟩
    have hb := hr.b
    have hl := hb.2.1
    rw [mem_rng] at htn
    refine measure_w hb hu fun w h u' hm hu' => ?_
    have pick : ∃ b, atI [((false, w), (false, h)), ((true, w), (true, h))] turn = some ((b, w), (b, h)) := by
      have : turn = 0 ∨ turn = 1 := by omega
      rcases this with rfl | rfl
      · exact ⟨false, rfl⟩
      · exact ⟨true, rfl⟩
    obtain ⟨b, eb⟩ := pick
    have sh := sh_m (b := b) hm.lw hm.lh hm.bw hm.bh
    refine ⟨_, eb, sh.1, by rw [sz]; dsimp only; omega, lcW_map (fun c : C2 => gI w c.1 * gI h c.2) (fun c hc w' hw => ?_) ?_⟩
    · obtain ⟨a, b⟩ := hm.all c hc
      have bd := gI_bd hm.bw a.1 a.2
      exact ⟨_, at_gI a.1 a.2, _, at_gI b.1 b.2, mul_ok bd.1 bd.2, hw⟩
    · refine law_around_w (m := ((false, w), (false, h))) hl hm (area_w (m := ((b, w), (b, h))) hl hm (around_w (m := ((b, w), (b, h))) hl hm (same_w rfl (so_L (by simp) fun x _ => so_int) ⟨fun z => (by cases z), fun _ => ⟨sh.1, ⟨sh.2, sh.2⟩, fun z => (by simp at z), fun _ => hk2 _ hu'⟩⟩)))
  · intro _ _
    have m0 : MOk ([] : List C2) [] [] := ⟨by simp, by simp, fun x hx => (nomatch hx), fun x hx => (nomatch hx), fun c hc => (nomatch hc)⟩
    refine area_w (r := []) (by simp) m0 ⟨fun _ => around_w (r := []) (by simp) m0 hk, fun z => absurd z (by decide)⟩
end K30

namespace K30
open PySem PySem.Spec PyProof.Rows L2 BX COM BC
def topS (i : Nat) : Stmt := PySem.Challenge.pw_boxcut_k30_areas_and_walls.main.body.getD i (.Pass ⟨0, 0, 0, 0⟩)
abbrev s_area : Stmt := topS 1
theorem sc_area : FnScope ["room", "measure", "wides", "highs", "x", "y"] ["room", "measure"] (defScope s_area) := ⟨rfl, rfl, rfl, by decide +kernel, rfl, by decide +kernel, by decide +kernel⟩
theorem d_area {P : Program} {w : World} {K : PySem.W.Frag} {mg : Str → Option Value} {base : Heap} {k : Nat} {f : Addr} {cdv : Value} {A : Around} {outer : List PySem.Env} {s : Shared} {H : Hp} {E : XK} (m_sum : mg "sum" = none)
    (hr : Room k (A.deeper (envOfC "area" (defScope s_area) s.heap.objs.size f cdv))) :
    DSs (cxOf CX0 P w K mg base ["room", "measure", "wides", "highs", "x", "y"] "area" (defScope s_area) f cdv A outer s H E).nox (defBody s_area) t_area := by
  have hx : Ok (cxOf CX0 P w K mg base ["room", "measure", "wides", "highs", "x", "y"] "area" (defScope s_area) f cdv A outer s H E).nox := Room.ok hr
  have nd := sc_area.nd
  exact (ds_cons (ds_asg (de_var 1) (dg_tup hx (dgs_cons (dg_name nd) (dgs_cons (dg_name nd) dgs_nil))))
    (ds_one (ds_ret (de_callB (cd_sum hx) (by rfl) m_sum (by decide +kernel) (da_cons (de_lc (own := [("x", 4), ("y", 5)]) (ts := [4, 5]) hx nd (di_seq (de_var 0)) (blkOk_by (own := [("x", 4), ("y", 5)]) (N := ["room", "measure", "wides", "highs", "x", "y"]) (sc := defScope s_area) (by decide +kernel)) (fun _ _ _ _ _ => (dg_tup (hx).blk (dgs_cons (dg_name nd) (dgs_cons (dg_name nd) dgs_nil)))) (fun _ _ _ _ _ => dts_nil) (fun _ _ _ _ _ => (de_bin od_mul (de_idx (hx).blk (de_var 2) (de_var 4)) (de_idx (hx).blk (de_var 3) (de_var 5)))) (by decide)) da_nil)))))

abbrev s_sides_beside : Stmt := topS 2
theorem sc_sides_beside : FnScope ["measure", "cell", "x", "y", "wide", "high"] ["measure", "cell"] (defScope s_sides_beside) := ⟨rfl, rfl, rfl, by decide +kernel, rfl, by decide +kernel, by decide +kernel⟩
theorem d_sides_beside {P : Program} {w : World} {K : PySem.W.Frag} {mg : Str → Option Value} {base : Heap} {k : Nat} {f : Addr} {cdv : Value} {A : Around} {outer : List PySem.Env} {s : Shared} {H : Hp} {E : XK}
    (hr : Room k (A.deeper (envOfC "sides_beside" (defScope s_sides_beside) s.heap.objs.size f cdv))) :
    DSs (cxOf CX0 P w K mg base ["measure", "cell", "x", "y", "wide", "high"] "sides_beside" (defScope s_sides_beside) f cdv A outer s H E).nox (defBody s_sides_beside) t_sides_beside := by
  have hx : Ok (cxOf CX0 P w K mg base ["measure", "cell", "x", "y", "wide", "high"] "sides_beside" (defScope s_sides_beside) f cdv A outer s H E).nox := Room.ok hr
  have nd := sc_sides_beside.nd
  exact (ds_cons (ds_asg (de_var 1) (dg_tup hx (dgs_cons (dg_name nd) (dgs_cons (dg_name nd) dgs_nil))))
    (ds_cons (ds_par hx nd (by decide) (da_cons (de_idx hx (de_idx hx (de_var 0) de_int) (de_var 2)) (da_cons (de_idx hx (de_idx hx (de_var 0) de_int) (de_var 3)) da_nil)))
    (ds_one (ds_ret (de_lst (da_cons (de_tup (da_cons (de_tup (da_cons (de_bin od_sub (de_var 2) de_int) (da_cons (de_var 3) da_nil))) (da_cons (de_var 5) da_nil))) (da_cons (de_tup (da_cons (de_tup (da_cons (de_bin od_add (de_var 2) de_int) (da_cons (de_var 3) da_nil))) (da_cons (de_var 5) da_nil))) (da_cons (de_tup (da_cons (de_tup (da_cons (de_var 2) (da_cons (de_bin od_sub (de_var 3) de_int) da_nil))) (da_cons (de_var 4) da_nil))) (da_cons (de_tup (da_cons (de_tup (da_cons (de_var 2) (da_cons (de_bin od_add (de_var 3) de_int) da_nil))) (da_cons (de_var 4) da_nil))) da_nil)))))))))

abbrev s_length_around : Stmt := topS 3
theorem sc_length_around : FnScope ["cells", "measure", "there", "total", "cell", "other", "length"] ["cells", "measure"] (defScope s_length_around) := ⟨rfl, rfl, rfl, by decide +kernel, rfl, by decide +kernel, by decide +kernel⟩
theorem d_length_around {S_sides_beside : FS} {P : Program} {w : World} {K : PySem.W.Frag} {mg : Str → Option Value} {base : Heap} {k : Nat} {f : Addr} {cdv : Value} {A : Around} {outer : List PySem.Env} {s : Shared} {H : Hp} {E : XK} (F_sides_beside : Fn P w K mg base "sides_beside" k ["measure", "cell"] S_sides_beside) (m_sum : mg "sum" = none) (m_dict : mg "dict" = none)
    (hr : Room k (A.deeper (envOfC "length_around" (defScope s_length_around) s.heap.objs.size f cdv))) :
    DSs (cxOf CX0 P w K mg base ["cells", "measure", "there", "total", "cell", "other", "length"] "length_around" (defScope s_length_around) f cdv A outer s H E).nox (defBody s_length_around) (t_length_around S_sides_beside) := by
  have hx : Ok (cxOf CX0 P w K mg base ["cells", "measure", "there", "total", "cell", "other", "length"] "length_around" (defScope s_length_around) f cdv A outer s H E).nox := Room.ok hr
  have nd := sc_length_around.nd
  exact (ds_cons (ds_set nd (de_callTy (cd_dict hx) (by rfl) m_dict (by decide +kernel) (da_cons (de_lc (own := [("cell", 4)]) (ts := [4]) hx nd (di_seq (de_var 0)) (blkOk_by (own := [("cell", 4)]) (N := ["cells", "measure", "there", "total", "cell", "other", "length"]) (sc := defScope s_length_around) (by decide +kernel)) (fun _ _ _ _ _ => (dg_name nd)) (fun _ _ _ _ _ => dts_nil) (fun _ _ _ _ _ => (de_tup (da_cons (de_var 4) (da_cons de_bl da_nil)))) (by decide)) da_nil)))
    (ds_cons (ds_set nd de_int)
    (ds_cons (ds_for hx (di_seq (de_var 0)) (dg_name nd) (ds_one (ds_aug ip_add nd (de_callB (cd_sum hx) (by rfl) m_sum (by decide +kernel) (da_cons (de_lc (own := [("other", 5), ("length", 6)]) (ts := [5, 6]) hx nd (di_seq (de_fn F_sides_beside hr (by rfl) (da_cons (de_var 1) (da_cons (de_var 4) da_nil)))) (blkOk_by (own := [("other", 5), ("length", 6)]) (N := ["cells", "measure", "there", "total", "cell", "other", "length"]) (sc := defScope s_length_around) (by decide +kernel)) (fun _ _ _ _ _ => (dg_tup (hx).blk (dgs_cons (dg_name nd) (dgs_cons (dg_name nd) dgs_nil)))) (fun _ _ _ _ _ => (dts_one (dt_cmp (od_notIn (hx).blk) (de_var 5) (de_var 2) (by rfl) bl_inB))) (fun _ _ _ _ _ => (de_var 6)) (by decide)) da_nil)))))
    (ds_one (ds_ret (de_var 3))))))

abbrev s_round_length : Stmt := topS 4
theorem sc_round_length : FnScope ["room", "measure"] ["room", "measure"] (defScope s_round_length) := ⟨rfl, rfl, rfl, by decide +kernel, rfl, by decide +kernel, by decide +kernel⟩
theorem d_round_length {S_length_around : FS} {P : Program} {w : World} {K : PySem.W.Frag} {mg : Str → Option Value} {base : Heap} {k : Nat} {f : Addr} {cdv : Value} {A : Around} {outer : List PySem.Env} {s : Shared} {H : Hp} {E : XK} (F_length_around : Fn P w K mg base "length_around" k ["cells", "measure"] S_length_around)
    (hr : Room k (A.deeper (envOfC "round_length" (defScope s_round_length) s.heap.objs.size f cdv))) :
    DSs (cxOf CX0 P w K mg base ["room", "measure"] "round_length" (defScope s_round_length) f cdv A outer s H E).nox (defBody s_round_length) (t_round_length S_length_around) := by
  have hx : Ok (cxOf CX0 P w K mg base ["room", "measure"] "round_length" (defScope s_round_length) f cdv A outer s H E).nox := Room.ok hr
  have nd := sc_round_length.nd
  exact (ds_one (ds_ret (de_fn F_length_around hr (by rfl) (da_cons (de_var 0) (da_cons (de_var 1) da_nil)))))

abbrev s__law_tape : Stmt := topS 6
theorem sc__law_tape : FnScope ["_law_script", "_law_k", "_law_cell", "_law_digits"] ["_law_script", "_law_k"] (defScope s__law_tape) := ⟨rfl, rfl, rfl, by decide +kernel, rfl, by decide +kernel, by decide +kernel⟩
theorem d__law_tape {P : Program} {w : World} {K : PySem.W.Frag} {mg : Str → Option Value} {base : Heap} {k : Nat} {f : Addr} {cdv : Value} {A : Around} {outer : List PySem.Env} {s : Shared} {H : Hp} {E : XK} (m_abs : mg "abs" = none) (m_int : mg "int" = none) (m_len : mg "len" = none)
    (hr : Room k (A.deeper (envOfC "_law_tape" (defScope s__law_tape) s.heap.objs.size f cdv))) :
    DSs (cxOf CX0 P w K mg base ["_law_script", "_law_k", "_law_cell", "_law_digits"] "_law_tape" (defScope s__law_tape) f cdv A outer s H E).nox (defBody s__law_tape) t__law_tape := by
  have hx : Ok (cxOf CX0 P w K mg base ["_law_script", "_law_k", "_law_cell", "_law_digits"] "_law_tape" (defScope s__law_tape) f cdv A outer s H E).nox := Room.ok hr
  have nd := sc__law_tape.nd
  exact (ds_cons (ds_set nd de_int)
    (ds_cons (ds_if (dt_cmp (od_lt hx) (de_var 1) (de_callB cd_len (by rfl) m_len (by decide +kernel) (da_cons (de_var 0) da_nil)) (by rfl) bl_lt) (ds_one (ds_set nd (de_idx hx (de_var 0) (de_var 1)))) ds_nil)
    (ds_cons (ds_set nd (de_bin od_mul (de_callB cd_abs (by rfl) m_abs (by decide +kernel) (da_cons (de_var 2) da_nil)) (de_callTy cd_int (by rfl) m_int (by decide +kernel) (da_cons (de_cmp od_ge (de_callB cd_abs (by rfl) m_abs (by decide +kernel) (da_cons (de_var 2) da_nil)) (de_bin od_pow de_int de_int) (by rfl)) da_nil))))
    (ds_one (ds_ret (de_lst (da_cons (de_var 3) (da_cons (de_bin od_mod (de_bin od_mul (de_bin od_mod (de_bin od_add (de_bin od_add (de_var 2) (de_bin od_mul de_int (de_var 1))) de_int) de_int) de_int) de_int) da_nil))))))))

abbrev s__law_draw : Stmt := topS 7
theorem sc__law_draw : FnScope ["_law_tape_here", "_law_many", "_law_found", "_law_once"] ["_law_tape_here", "_law_many"] (defScope s__law_draw) := ⟨rfl, rfl, rfl, by decide +kernel, rfl, by decide +kernel, by decide +kernel⟩
theorem d__law_draw {P : Program} {w : World} {K : PySem.W.Frag} {mg : Str → Option Value} {base : Heap} {k : Nat} {f : Addr} {cdv : Value} {A : Around} {outer : List PySem.Env} {s : Shared} {H : Hp} {E : XK}
    (hr : Room k (A.deeper (envOfC "_law_draw" (defScope s__law_draw) s.heap.objs.size f cdv))) :
    DSs (cxOf CX0 P w K mg base ["_law_tape_here", "_law_many", "_law_found", "_law_once"] "_law_draw" (defScope s__law_draw) f cdv A outer s H E).nox (defBody s__law_draw) t__law_draw := by
  have hx : Ok (cxOf CX0 P w K mg base ["_law_tape_here", "_law_many", "_law_found", "_law_once"] "_law_draw" (defScope s__law_draw) f cdv A outer s H E).nox := Room.ok hr
  have nd := sc__law_draw.nd
  exact (ds_cons (ds_if (dt_cmp od_gt (de_idx hx (de_var 0) de_int) de_int (by rfl) bl_gt) (ds_cons (ds_set nd (de_bin od_mod (de_idx hx (de_var 0) de_int) (de_var 1)))
    (ds_cons (ds_put hx (de_bin od_div (de_idx hx (de_var 0) de_int) (de_var 1)) (de_var 0) de_int)
    (ds_one (ds_ret (de_var 2))))) ds_nil)
    (ds_cons (ds_put hx (de_bin od_mod (de_bin od_add (de_bin od_mul (de_idx hx (de_var 0) de_int) de_int) de_int) de_int) (de_var 0) de_int)
    (ds_cons (ds_set nd (de_bin od_mod (de_bin od_mul (de_idx hx (de_var 0) de_int) (de_bin od_add (de_bin od_mod (de_idx hx (de_var 0) de_int) de_int) de_int)) de_int))
    (ds_one (ds_ret (de_bin od_mod (de_bin od_mod (de_bin od_mul (de_var 3) (de_bin od_add (de_bin od_mod (de_var 3) de_int) de_int)) de_int) (de_var 1)))))))

abbrev s__law_cells : Stmt := topS 8
theorem sc__law_cells : FnScope ["_law_x", "_law_y", "_law_wide", "_law_high", "_law_found", "_law_k", "_law_j"] ["_law_x", "_law_y", "_law_wide", "_law_high"] (defScope s__law_cells) := ⟨rfl, rfl, rfl, by decide +kernel, rfl, by decide +kernel, by decide +kernel⟩
theorem d__law_cells {P : Program} {w : World} {K : PySem.W.Frag} {mg : Str → Option Value} {base : Heap} {k : Nat} {f : Addr} {cdv : Value} {A : Around} {outer : List PySem.Env} {s : Shared} {H : Hp} {E : XK} (m_range : mg "range" = none)
    (hr : Room k (A.deeper (envOfC "_law_cells" (defScope s__law_cells) s.heap.objs.size f cdv))) :
    DSs (cxOf CX0 P w K mg base ["_law_x", "_law_y", "_law_wide", "_law_high", "_law_found", "_law_k", "_law_j"] "_law_cells" (defScope s__law_cells) f cdv A outer s H E).nox (defBody s__law_cells) t__law_cells := by
  have hx : Ok (cxOf CX0 P w K mg base ["_law_x", "_law_y", "_law_wide", "_law_high", "_law_found", "_law_k", "_law_j"] "_law_cells" (defScope s__law_cells) f cdv A outer s H E).nox := Room.ok hr
  have nd := sc__law_cells.nd
  exact (ds_cons (ds_set nd (de_lst da_nil))
    (ds_cons (ds_for hx (di_range1 (de_var 2) m_range) (dg_name nd) (ds_one (ds_expr (de_extend (de_var 4) (de_lc (own := [("_law_j", 6)]) (ts := [6]) hx nd (di_range1 (de_var 3) m_range) (blkOk_by (own := [("_law_j", 6)]) (N := ["_law_x", "_law_y", "_law_wide", "_law_high", "_law_found", "_law_k", "_law_j"]) (sc := defScope s__law_cells) (by decide +kernel)) (fun _ _ _ _ _ => (dg_name nd)) (fun _ _ _ _ _ => dts_nil) (fun _ _ _ _ _ => (de_tup (da_cons (de_bin od_add (de_var 0) (de_var 5)) (da_cons (de_bin od_add (de_var 1) (de_var 6)) da_nil)))) (by decide))))))
    (ds_one (ds_ret (de_var 4)))))

abbrev s__law_shape : Stmt := topS 9
theorem sc__law_shape : FnScope ["_law_tape_here", "_law_wide", "_law_high", "_law_way", "_law_every", "_law_there", "_law_turn", "_law_x", "_law_y", "_law_more", "_law_put", "_law_tall", "_law_cell"] ["_law_tape_here", "_law_wide", "_law_high"] (defScope s__law_shape) := ⟨rfl, rfl, rfl, by decide +kernel, rfl, by decide +kernel, by decide +kernel⟩
theorem d__law_shape {S__law_draw S__law_cells : FS} {P : Program} {w : World} {K : PySem.W.Frag} {mg : Str → Option Value} {base : Heap} {k : Nat} {f : Addr} {cdv : Value} {A : Around} {outer : List PySem.Env} {s : Shared} {H : Hp} {E : XK} (F__law_draw : Fn P w K mg base "_law_draw" k ["_law_tape_here", "_law_many"] S__law_draw) (F__law_cells : Fn P w K mg base "_law_cells" k ["_law_x", "_law_y", "_law_wide", "_law_high"] S__law_cells) (m_range : mg "range" = none)
    (hr : Room k (A.deeper (envOfC "_law_shape" (defScope s__law_shape) s.heap.objs.size f cdv))) :
    DSs (cxOf CX0 P w K mg base ["_law_tape_here", "_law_wide", "_law_high", "_law_way", "_law_every", "_law_there", "_law_turn", "_law_x", "_law_y", "_law_more", "_law_put", "_law_tall", "_law_cell"] "_law_shape" (defScope s__law_shape) f cdv A outer s H E).nox (defBody s__law_shape) (t__law_shape S__law_draw S__law_cells) := by
  have hx : Ok (cxOf CX0 P w K mg base ["_law_tape_here", "_law_wide", "_law_high", "_law_way", "_law_every", "_law_there", "_law_turn", "_law_x", "_law_y", "_law_more", "_law_put", "_law_tall", "_law_cell"] "_law_shape" (defScope s__law_shape) f cdv A outer s H E).nox := Room.ok hr
  have nd := sc__law_shape.nd
  exact (ds_cons (ds_set nd (de_fn F__law_draw hr (by rfl) (da_cons (de_var 0) (da_cons de_int da_nil))))
    (ds_cons (ds_set nd (de_fn F__law_cells hr (by rfl) (da_cons de_int (da_cons de_int (da_cons (de_var 1) (da_cons (de_var 2) da_nil))))))
    (ds_cons (ds_if (dt_cmp (od_lt hx) (de_var 3) de_int (by rfl) bl_lt) (ds_one (ds_ret (de_lc (own := [("_law_cell", 12)]) (ts := [12]) hx nd (di_seq (de_var 4)) (blkOk_by (own := [("_law_cell", 12)]) (N := ["_law_tape_here", "_law_wide", "_law_high", "_law_way", "_law_every", "_law_there", "_law_turn", "_law_x", "_law_y", "_law_more", "_law_put", "_law_tall", "_law_cell"]) (sc := defScope s__law_shape) (by decide +kernel)) (fun _ _ _ _ _ => (dg_name nd)) (fun _ _ _ _ _ => (dts_one (dt_cmp od_gt (de_fn F__law_draw hr (by rfl) (da_cons (de_var 0) (da_cons de_int da_nil))) (de_bin od_mod (de_var 3) de_int) (by rfl) bl_gt))) (fun _ _ _ _ _ => (de_var 12)) (by decide)))) ds_nil)
    (ds_cons (ds_if (dt_cmp (od_lt hx) (de_var 3) de_int (by rfl) bl_lt) (ds_cons (ds_set nd de_dct)
    (ds_cons (ds_for hx (di_range1 (de_bin od_add de_int (de_fn F__law_draw hr (by rfl) (da_cons (de_var 0) (da_cons de_int da_nil)))) m_range) (dg_name nd) (ds_cons (ds_par hx nd (by decide) (da_cons (de_fn F__law_draw hr (by rfl) (da_cons (de_var 0) (da_cons (de_var 1) da_nil))) (da_cons (de_fn F__law_draw hr (by rfl) (da_cons (de_var 0) (da_cons (de_var 2) da_nil))) da_nil)))
    (ds_cons (ds_set nd (de_fn F__law_cells hr (by rfl) (da_cons (de_var 7) (da_cons (de_var 8) (da_cons (de_bin od_add de_int (de_fn F__law_draw hr (by rfl) (da_cons (de_var 0) (da_cons (de_bin od_sub (de_var 1) (de_var 7)) da_nil)))) (da_cons (de_bin od_add de_int (de_fn F__law_draw hr (by rfl) (da_cons (de_var 0) (da_cons (de_bin od_sub (de_var 2) (de_var 8)) da_nil)))) da_nil))))))
    (ds_cons (ds_set nd (de_or (de_cmp (od_eq hx) (de_var 6) de_int (by rfl)) (de_one (de_cmp od_gt (de_fn F__law_draw hr (by rfl) (da_cons (de_var 0) (da_cons de_int da_nil))) de_int (by rfl)))))
    (ds_one (ds_expr (de_update hx (de_var 5) (da_cons (de_lc (own := [("_law_cell", 12)]) (ts := [12]) hx nd (di_seq (de_var 9)) (blkOk_by (own := [("_law_cell", 12)]) (N := ["_law_tape_here", "_law_wide", "_law_high", "_law_way", "_law_every", "_law_there", "_law_turn", "_law_x", "_law_y", "_law_more", "_law_put", "_law_tall", "_law_cell"]) (sc := defScope s__law_shape) (by decide +kernel)) (fun _ _ _ _ _ => (dg_name nd)) (fun _ _ _ _ _ => dts_nil) (fun _ _ _ _ _ => (de_tup (da_cons (de_var 12) (da_cons (de_var 10) da_nil)))) (by decide)) da_nil))))))))
    (ds_one (ds_ret (de_lc (own := [("_law_cell", 12)]) (ts := [12]) hx nd (di_seq (de_var 4)) (blkOk_by (own := [("_law_cell", 12)]) (N := ["_law_tape_here", "_law_wide", "_law_high", "_law_way", "_law_every", "_law_there", "_law_turn", "_law_x", "_law_y", "_law_more", "_law_put", "_law_tall", "_law_cell"]) (sc := defScope s__law_shape) (by decide +kernel)) (fun _ _ _ _ _ => (dg_name nd)) (fun _ _ _ _ _ => (dts_one (dt_val (de_get (hx).blk (de_var 5) (da_cons (de_var 12) (da_cons de_bl da_nil)))))) (fun _ _ _ _ _ => (de_var 12)) (by decide)))))) ds_nil)
    (ds_cons (ds_if (dt_cmp (od_eq hx) (de_var 3) de_int (by rfl) bl_eq) (ds_one (ds_ret (de_lc (own := [("_law_cell", 12)]) (ts := [12]) hx nd (di_seq (de_var 4)) (blkOk_by (own := [("_law_cell", 12)]) (N := ["_law_tape_here", "_law_wide", "_law_high", "_law_way", "_law_every", "_law_there", "_law_turn", "_law_x", "_law_y", "_law_more", "_law_put", "_law_tall", "_law_cell"]) (sc := defScope s__law_shape) (by decide +kernel)) (fun _ _ _ _ _ => (dg_name nd)) (fun _ _ _ _ _ => (dts_one (dt_cmp od_gt (de_fn F__law_draw hr (by rfl) (da_cons (de_var 0) (da_cons de_int da_nil))) de_int (by rfl) bl_gt))) (fun _ _ _ _ _ => (de_var 12)) (by decide)))) ds_nil)
    (ds_cons (ds_if (dt_cmp (od_eq hx) (de_var 3) de_int (by rfl) bl_eq) (ds_cons (ds_set nd (de_lc (own := [("_law_x", 7)]) (ts := [7]) hx nd (di_range1 (de_var 1) m_range) (blkOk_by (own := [("_law_x", 7)]) (N := ["_law_tape_here", "_law_wide", "_law_high", "_law_way", "_law_every", "_law_there", "_law_turn", "_law_x", "_law_y", "_law_more", "_law_put", "_law_tall", "_law_cell"]) (sc := defScope s__law_shape) (by decide +kernel)) (fun _ _ _ _ _ => (dg_name nd)) (fun _ _ _ _ _ => dts_nil) (fun _ _ _ _ _ => (de_bin od_add de_int (de_fn F__law_draw hr (by rfl) (da_cons (de_var 0) (da_cons (de_var 2) da_nil))))) (by decide)))
    (ds_one (ds_ret (de_lc (own := [("_law_cell", 12)]) (ts := [12]) hx nd (di_seq (de_var 4)) (blkOk_by (own := [("_law_cell", 12)]) (N := ["_law_tape_here", "_law_wide", "_law_high", "_law_way", "_law_every", "_law_there", "_law_turn", "_law_x", "_law_y", "_law_more", "_law_put", "_law_tall", "_law_cell"]) (sc := defScope s__law_shape) (by decide +kernel)) (fun _ _ _ _ _ => (dg_name nd)) (fun _ _ _ _ _ => (dts_one (dt_cmp (od_lt (hx).blk) (de_idx (hx).blk (de_var 12) de_int) (de_idx (hx).blk (de_lst (da_cons (de_idx (hx).blk (de_var 11) (de_idx (hx).blk (de_var 12) de_int)) (da_cons de_int da_nil))) (de_bin od_mul (de_bin od_mod (de_idx (hx).blk (de_var 12) de_int) de_int) (de_fn F__law_draw hr (by rfl) (da_cons (de_var 0) (da_cons de_int da_nil))))) (by rfl) bl_lt))) (fun _ _ _ _ _ => (de_var 12)) (by decide))))) ds_nil)
    (ds_cons (ds_if (dt_cmp (od_eq hx) (de_var 3) de_int (by rfl) bl_eq) (ds_one (ds_ret (de_lc (own := [("_law_cell", 12)]) (ts := [12]) hx nd (di_seq (de_var 4)) (blkOk_by (own := [("_law_cell", 12)]) (N := ["_law_tape_here", "_law_wide", "_law_high", "_law_way", "_law_every", "_law_there", "_law_turn", "_law_x", "_law_y", "_law_more", "_law_put", "_law_tall", "_law_cell"]) (sc := defScope s__law_shape) (by decide +kernel)) (fun _ _ _ _ _ => (dg_name nd)) (fun _ _ _ _ _ => (dts_one (DW.dt (dw_or (dt_cmp (od_eq (hx).blk) (de_bin od_mod (de_idx (hx).blk (de_var 12) de_int) de_int) de_int (by rfl) bl_eq) (dw_or (dt_cmp (od_eq (hx).blk) (de_bin od_mod (de_idx (hx).blk (de_var 12) de_int) de_int) de_int (by rfl) bl_eq) (dw_or1 (dt_cmp (od_eq (hx).blk) (de_fn F__law_draw hr (by rfl) (da_cons (de_var 0) (da_cons de_int da_nil))) de_int (by rfl) bl_eq))))))) (fun _ _ _ _ _ => (de_var 12)) (by decide)))) ds_nil)
    (ds_one (ds_ret (de_lc (own := [("_law_cell", 12)]) (ts := [12]) hx nd (di_seq (de_var 4)) (blkOk_by (own := [("_law_cell", 12)]) (N := ["_law_tape_here", "_law_wide", "_law_high", "_law_way", "_law_every", "_law_there", "_law_turn", "_law_x", "_law_y", "_law_more", "_law_put", "_law_tall", "_law_cell"]) (sc := defScope s__law_shape) (by decide +kernel)) (fun _ _ _ _ _ => (dg_name nd)) (fun _ _ _ _ _ => (dts_one (DW.dt (dw_or (dt_cmp (od_eq (hx).blk) (de_bin od_mod (de_bin od_add (de_idx (hx).blk (de_var 12) de_int) (de_idx (hx).blk (de_var 12) de_int)) de_int) de_int (by rfl) bl_eq) (dw_or1 (dt_cmp (od_eq (hx).blk) (de_fn F__law_draw hr (by rfl) (da_cons (de_var 0) (da_cons de_int da_nil))) de_int (by rfl) bl_eq)))))) (fun _ _ _ _ _ => (de_var 12)) (by decide)))))))))))

abbrev s__law_room : Stmt := topS 10
theorem sc__law_room : FnScope ["_law_tape_here", "_law_great", "_law_wide", "_law_high", "_law_cells_here", "_law_far", "_law_x", "_law_y"] ["_law_tape_here", "_law_great"] (defScope s__law_room) := ⟨rfl, rfl, rfl, by decide +kernel, rfl, by decide +kernel, by decide +kernel⟩
theorem d__law_room {S__law_draw S__law_cells S__law_shape : FS} {P : Program} {w : World} {K : PySem.W.Frag} {mg : Str → Option Value} {base : Heap} {k : Nat} {f : Addr} {cdv : Value} {A : Around} {outer : List PySem.Env} {s : Shared} {H : Hp} {E : XK} (F__law_draw : Fn P w K mg base "_law_draw" k ["_law_tape_here", "_law_many"] S__law_draw) (F__law_cells : Fn P w K mg base "_law_cells" k ["_law_x", "_law_y", "_law_wide", "_law_high"] S__law_cells) (F__law_shape : Fn P w K mg base "_law_shape" k ["_law_tape_here", "_law_wide", "_law_high"] S__law_shape) (m_sorted : mg "sorted" = none) (m_tuple : mg "tuple" = none)
    (hr : Room k (A.deeper (envOfC "_law_room" (defScope s__law_room) s.heap.objs.size f cdv))) :
    DSs (cxOf CX0 P w K mg base ["_law_tape_here", "_law_great", "_law_wide", "_law_high", "_law_cells_here", "_law_far", "_law_x", "_law_y"] "_law_room" (defScope s__law_room) f cdv A outer s H E).nox (defBody s__law_room) (t__law_room S__law_draw S__law_cells S__law_shape) := by
  have hx : Ok (cxOf CX0 P w K mg base ["_law_tape_here", "_law_great", "_law_wide", "_law_high", "_law_cells_here", "_law_far", "_law_x", "_law_y"] "_law_room" (defScope s__law_room) f cdv A outer s H E).nox := Room.ok hr
  have nd := sc__law_room.nd
  exact (ds_cons (ds_par hx nd (by decide) (da_cons (de_bin od_add de_int (de_fn F__law_draw hr (by rfl) (da_cons (de_var 0) (da_cons de_int da_nil)))) (da_cons (de_bin od_add de_int (de_fn F__law_draw hr (by rfl) (da_cons (de_var 0) (da_cons de_int da_nil)))) da_nil)))
    (ds_cons (ds_if (dt_val (de_var 1)) (ds_one (ds_par hx nd (by decide) (da_cons (de_bin od_add de_int (de_fn F__law_draw hr (by rfl) (da_cons (de_var 0) (da_cons de_int da_nil)))) (da_cons (de_bin od_add de_int (de_fn F__law_draw hr (by rfl) (da_cons (de_var 0) (da_cons de_int da_nil)))) da_nil)))) ds_nil)
    (ds_cons (ds_set nd (de_fn F__law_shape hr (by rfl) (da_cons (de_var 0) (da_cons (de_var 2) (da_cons (de_var 3) da_nil)))))
    (ds_cons (ds_if (DW.dt (dw_and (dt_cmp (od_eq hx) (de_var 4) (de_lst da_nil) (by rfl) bl_eq) (dw_and1 (dt_cmp od_gt (de_fn F__law_draw hr (by rfl) (da_cons (de_var 0) (da_cons de_int da_nil))) de_int (by rfl) bl_gt)))) (ds_one (ds_set nd (de_fn F__law_cells hr (by rfl) (da_cons de_int (da_cons de_int (da_cons (de_var 2) (da_cons (de_var 3) da_nil))))))) ds_nil)
    (ds_cons (ds_set nd (de_lst (da_cons de_int (da_cons de_int da_nil))))
    (ds_cons (ds_if (dt_cmp (od_eq hx) (de_fn F__law_draw hr (by rfl) (da_cons (de_var 0) (da_cons de_int da_nil))) de_int (by rfl) bl_eq) (ds_one (ds_set nd (de_idx hx (de_lst (da_cons (de_lst (da_cons (de_fn F__law_draw hr (by rfl) (da_cons (de_var 0) (da_cons de_int da_nil))) (da_cons (de_fn F__law_draw hr (by rfl) (da_cons (de_var 0) (da_cons de_int da_nil))) da_nil))) (da_cons (de_lst (da_cons (de_bin od_sub de_int (de_var 2)) (da_cons (de_bin od_sub de_int (de_var 3)) da_nil))) da_nil))) (de_fn F__law_draw hr (by rfl) (da_cons (de_var 0) (da_cons de_int da_nil)))))) ds_nil)
    (ds_one (ds_ret (de_callTy cd_tuple (by rfl) m_tuple (by decide +kernel) (da_cons (de_callB (cd_sorted hx) (by rfl) m_sorted (by decide +kernel) (da_cons (de_lc (own := [("_law_x", 6), ("_law_y", 7)]) (ts := [6, 7]) hx nd (di_seq (de_var 4)) (blkOk_by (own := [("_law_x", 6), ("_law_y", 7)]) (N := ["_law_tape_here", "_law_great", "_law_wide", "_law_high", "_law_cells_here", "_law_far", "_law_x", "_law_y"]) (sc := defScope s__law_room) (by decide +kernel)) (fun _ _ _ _ _ => (dg_tup (hx).blk (dgs_cons (dg_name nd) (dgs_cons (dg_name nd) dgs_nil)))) (fun _ _ _ _ _ => dts_nil) (fun _ _ _ _ _ => (de_tup (da_cons (de_bin od_add (de_var 6) (de_idx (hx).blk (de_var 5) de_int)) (da_cons (de_bin od_add (de_var 7) (de_idx (hx).blk (de_var 5) de_int)) da_nil)))) (by decide)) da_nil)) da_nil))))))))))

abbrev s__law_some_room : Stmt := topS 11
theorem sc__law_some_room : FnScope ["_law_tape_here", "_law_k"] ["_law_tape_here", "_law_k"] (defScope s__law_some_room) := ⟨rfl, rfl, rfl, by decide +kernel, rfl, by decide +kernel, by decide +kernel⟩
theorem d__law_some_room {S__law_room S__law_draw : FS} {P : Program} {w : World} {K : PySem.W.Frag} {mg : Str → Option Value} {base : Heap} {k : Nat} {f : Addr} {cdv : Value} {A : Around} {outer : List PySem.Env} {s : Shared} {H : Hp} {E : XK} (F__law_room : Fn P w K mg base "_law_room" k ["_law_tape_here", "_law_great"] S__law_room) (F__law_draw : Fn P w K mg base "_law_draw" k ["_law_tape_here", "_law_many"] S__law_draw)
    (hr : Room k (A.deeper (envOfC "_law_some_room" (defScope s__law_some_room) s.heap.objs.size f cdv))) :
    DSs (cxOf CX0 P w K mg base ["_law_tape_here", "_law_k"] "_law_some_room" (defScope s__law_some_room) f cdv A outer s H E).nox (defBody s__law_some_room) (t__law_some_room S__law_room S__law_draw) := by
  have hx : Ok (cxOf CX0 P w K mg base ["_law_tape_here", "_law_k"] "_law_some_room" (defScope s__law_some_room) f cdv A outer s H E).nox := Room.ok hr
  have nd := sc__law_some_room.nd
  exact (ds_one (ds_ret (de_fn F__law_room hr (by rfl) (da_cons (de_var 0) (da_cons (de_and (de_cmp (od_eq hx) (de_var 1) de_int (by rfl)) (de_one (de_cmp (od_eq hx) (de_fn F__law_draw hr (by rfl) (da_cons (de_var 0) (da_cons de_int da_nil))) de_int (by rfl)))) da_nil)))))

abbrev s__law_measure : Stmt := topS 12
theorem sc__law_measure : FnScope ["_law_tape_here", "_law_room_here", "_law_way", "_law_found", "_law_side", "_law_many", "_law_k", "_law_cell"] ["_law_tape_here", "_law_room_here"] (defScope s__law_measure) := ⟨rfl, rfl, rfl, by decide +kernel, rfl, by decide +kernel, by decide +kernel⟩
theorem d__law_measure {S__law_draw : FS} {P : Program} {w : World} {K : PySem.W.Frag} {mg : Str → Option Value} {base : Heap} {k : Nat} {f : Addr} {cdv : Value} {A : Around} {outer : List PySem.Env} {s : Shared} {H : Hp} {E : XK} (F__law_draw : Fn P w K mg base "_law_draw" k ["_law_tape_here", "_law_many"] S__law_draw) (m_tuple : mg "tuple" = none) (m_range : mg "range" = none) (m_max : mg "max" = none)
    (hr : Room k (A.deeper (envOfC "_law_measure" (defScope s__law_measure) s.heap.objs.size f cdv))) :
    DSs (cxOf CX0 P w K mg base ["_law_tape_here", "_law_room_here", "_law_way", "_law_found", "_law_side", "_law_many", "_law_k", "_law_cell"] "_law_measure" (defScope s__law_measure) f cdv A outer s H E).nox (defBody s__law_measure) (t__law_measure S__law_draw) := by
  have hx : Ok (cxOf CX0 P w K mg base ["_law_tape_here", "_law_room_here", "_law_way", "_law_found", "_law_side", "_law_many", "_law_k", "_law_cell"] "_law_measure" (defScope s__law_measure) f cdv A outer s H E).nox := Room.ok hr
  have nd := sc__law_measure.nd
  exact (ds_cons (ds_set nd (de_fn F__law_draw hr (by rfl) (da_cons (de_var 0) (da_cons de_int da_nil))))
    (ds_cons (ds_set nd (de_lst da_nil))
    (ds_cons (ds_for hx (di_range1 de_int m_range) (dg_name nd) (ds_cons (ds_set nd (de_bin od_add (de_bin od_add (de_callB (cd_maxS hx) (by rfl) m_max (by decide +kernel) (da_cons (de_bin od_add (de_lc (own := [("_law_cell", 7)]) (ts := [7]) hx nd (di_seq (de_var 1)) (blkOk_by (own := [("_law_cell", 7)]) (N := ["_law_tape_here", "_law_room_here", "_law_way", "_law_found", "_law_side", "_law_many", "_law_k", "_law_cell"]) (sc := defScope s__law_measure) (by decide +kernel)) (fun _ _ _ _ _ => (dg_name nd)) (fun _ _ _ _ _ => dts_nil) (fun _ _ _ _ _ => (de_idx (hx).blk (de_var 7) (de_var 4))) (by decide)) (de_lst (da_cons de_int da_nil))) da_nil)) de_int) (de_fn F__law_draw hr (by rfl) (da_cons (de_var 0) (da_cons de_int da_nil)))))
    (ds_one (ds_expr (de_append (de_var 3) (de_lc (own := [("_law_k", 6)]) (ts := [6]) hx nd (di_range1 (de_var 5) m_range) (blkOk_by (own := [("_law_k", 6)]) (N := ["_law_tape_here", "_law_room_here", "_law_way", "_law_found", "_law_side", "_law_many", "_law_k", "_law_cell"]) (sc := defScope s__law_measure) (by decide +kernel)) (fun _ _ _ _ _ => (dg_name nd)) (fun _ _ _ _ _ => dts_nil) (fun _ _ _ _ _ => (de_idx (hx).blk (de_lst (da_cons de_int (da_cons (de_bin od_add de_int (de_fn F__law_draw hr (by rfl) (da_cons (de_var 0) (da_cons de_int da_nil)))) (da_cons (de_bin od_add de_int (de_fn F__law_draw hr (by rfl) (da_cons (de_var 0) (da_cons de_int da_nil)))) (da_cons de_int da_nil))))) (de_var 2))) (by decide)))))))
    (ds_one (ds_retTup 3 m_tuple)))))

abbrev s__law_around : Stmt := topS 13
theorem sc__law_around : FnScope ["_law_cells_here", "_law_measure_here", "_law_there", "_law_total", "_law_x", "_law_y", "_law_high", "_law_wide", "_law_cell"] ["_law_cells_here", "_law_measure_here"] (defScope s__law_around) := ⟨rfl, rfl, rfl, by decide +kernel, rfl, by decide +kernel, by decide +kernel⟩
theorem d__law_around {P : Program} {w : World} {K : PySem.W.Frag} {mg : Str → Option Value} {base : Heap} {k : Nat} {f : Addr} {cdv : Value} {A : Around} {outer : List PySem.Env} {s : Shared} {H : Hp} {E : XK} (m_int : mg "int" = none) (m_dict : mg "dict" = none)
    (hr : Room k (A.deeper (envOfC "_law_around" (defScope s__law_around) s.heap.objs.size f cdv))) :
    DSs (cxOf CX0 P w K mg base ["_law_cells_here", "_law_measure_here", "_law_there", "_law_total", "_law_x", "_law_y", "_law_high", "_law_wide", "_law_cell"] "_law_around" (defScope s__law_around) f cdv A outer s H E).nox (defBody s__law_around) t__law_around := by
  have hx : Ok (cxOf CX0 P w K mg base ["_law_cells_here", "_law_measure_here", "_law_there", "_law_total", "_law_x", "_law_y", "_law_high", "_law_wide", "_law_cell"] "_law_around" (defScope s__law_around) f cdv A outer s H E).nox := Room.ok hr
  have nd := sc__law_around.nd
  exact (ds_cons (ds_set nd (de_callTy (cd_dict hx) (by rfl) m_dict (by decide +kernel) (da_cons (de_lc (own := [("_law_cell", 8)]) (ts := [8]) hx nd (di_seq (de_var 0)) (blkOk_by (own := [("_law_cell", 8)]) (N := ["_law_cells_here", "_law_measure_here", "_law_there", "_law_total", "_law_x", "_law_y", "_law_high", "_law_wide", "_law_cell"]) (sc := defScope s__law_around) (by decide +kernel)) (fun _ _ _ _ _ => (dg_name nd)) (fun _ _ _ _ _ => dts_nil) (fun _ _ _ _ _ => (de_tup (da_cons (de_var 8) (da_cons de_bl da_nil)))) (by decide)) da_nil)))
    (ds_cons (ds_set nd de_int)
    (ds_cons (ds_for hx (di_seq (de_var 0)) (dg_tup hx (dgs_cons (dg_name nd) (dgs_cons (dg_name nd) dgs_nil))) (ds_cons (ds_par hx nd (by decide) (da_cons (de_idx hx (de_idx hx (de_var 1) de_int) (de_var 5)) (da_cons (de_idx hx (de_idx hx (de_var 1) de_int) (de_var 4)) da_nil)))
    (ds_cons (ds_set nd (de_bin od_add (de_bin od_add (de_var 3) (de_bin od_mul (de_var 6) (de_callTy cd_int (by rfl) m_int (by decide +kernel) (da_cons (de_cmp (od_notIn hx) (de_tup (da_cons (de_bin od_sub (de_var 4) de_int) (da_cons (de_var 5) da_nil))) (de_var 2) (by rfl)) da_nil)))) (de_bin od_mul (de_var 6) (de_callTy cd_int (by rfl) m_int (by decide +kernel) (da_cons (de_cmp (od_notIn hx) (de_tup (da_cons (de_bin od_add (de_var 4) de_int) (da_cons (de_var 5) da_nil))) (de_var 2) (by rfl)) da_nil)))))
    (ds_one (ds_set nd (de_bin od_add (de_bin od_add (de_var 3) (de_bin od_mul (de_var 7) (de_callTy cd_int (by rfl) m_int (by decide +kernel) (da_cons (de_cmp (od_notIn hx) (de_tup (da_cons (de_var 4) (da_cons (de_bin od_sub (de_var 5) de_int) da_nil))) (de_var 2) (by rfl)) da_nil)))) (de_bin od_mul (de_var 7) (de_callTy cd_int (by rfl) m_int (by decide +kernel) (da_cons (de_cmp (od_notIn hx) (de_tup (da_cons (de_var 4) (da_cons (de_bin od_add (de_var 5) de_int) da_nil))) (de_var 2) (by rfl)) da_nil)))))))))
    (ds_one (ds_ret (de_var 3))))))

abbrev s__law_same : Stmt := topS 14
theorem sc__law_same : FnScope ["_law_found", "_law_due", "_law_one", "_law_other"] ["_law_found", "_law_due"] (defScope s__law_same) := ⟨rfl, rfl, rfl, by decide +kernel, rfl, by decide +kernel, by decide +kernel⟩
theorem d__law_same {S__law_same : FS} {P : Program} {w : World} {K : PySem.W.Frag} {mg : Str → Option Value} {base : Heap} {k : Nat} {f : Addr} {cdv : Value} {A : Around} {outer : List PySem.Env} {s : Shared} {H : Hp} {E : XK} (F__law_same : Fn P w K mg base "_law_same" k ["_law_found", "_law_due"] S__law_same) (m_isinstance : mg "isinstance" = none) (m_bool : mg "bool" = none) (m_int : mg "int" = none) (m_str : mg "str" = none) (m_list : mg "list" = none) (m_tuple : mg "tuple" = none) (m_zip : mg "zip" = none) (m_all : mg "all" = none) (m_len : mg "len" = none)
    (hr : Room k (A.deeper (envOfC "_law_same" (defScope s__law_same) s.heap.objs.size f cdv))) :
    DSs (cxOf CX0 P w K mg base ["_law_found", "_law_due", "_law_one", "_law_other"] "_law_same" (defScope s__law_same) f cdv A outer s H E).nox (defBody s__law_same) (t__law_same S__law_same) := by
  have hx : Ok (cxOf CX0 P w K mg base ["_law_found", "_law_due", "_law_one", "_law_other"] "_law_same" (defScope s__law_same) f cdv A outer s H E).nox := Room.ok hr
  have nd := sc__law_same.nd
  exact (ds_cons (ds_if (dt_cmp od_is (de_var 1) de_non (by rfl) bl_is) (ds_one (ds_ret (de_cmp od_is (de_var 0) de_non (by rfl)))) ds_nil)
    (ds_cons (ds_if (dt_val (de_isi2 tk_list tk_tuple (de_var 1) m_isinstance m_list m_tuple (by rfl) (by rfl))) (ds_cons (ds_if (DW.dt (dw_or (dt_cmp (od_ne hx) (de_isi tk_list (de_var 0) m_isinstance m_list (by rfl)) (de_isi tk_list (de_var 1) m_isinstance m_list (by rfl)) (by rfl) bl_ne) (dw_or1 (dt_cmp (od_ne hx) (de_isi tk_tuple (de_var 0) m_isinstance m_tuple (by rfl)) (de_isi tk_tuple (de_var 1) m_isinstance m_tuple (by rfl)) (by rfl) bl_ne)))) (ds_one (ds_ret de_bl)) ds_nil)
    (ds_one (ds_ret (de_and (de_cmp (od_eq hx) (de_callB cd_len (by rfl) m_len (by decide +kernel) (da_cons (de_var 0) da_nil)) (de_callB cd_len (by rfl) m_len (by decide +kernel) (da_cons (de_var 1) da_nil)) (by rfl)) (de_one (de_callB (cd_all hx) (by rfl) m_all (by decide +kernel) (da_cons (de_lc (own := [("_law_one", 2), ("_law_other", 3)]) (ts := [2, 3]) hx nd (di_zip (de_var 0) (de_var 1) m_zip) (blkOk_by (own := [("_law_one", 2), ("_law_other", 3)]) (N := ["_law_found", "_law_due", "_law_one", "_law_other"]) (sc := defScope s__law_same) (by decide +kernel)) (fun _ _ _ _ _ => (dg_tup (hx).blk (dgs_cons (dg_name nd) (dgs_cons (dg_name nd) dgs_nil)))) (fun _ _ _ _ _ => dts_nil) (fun _ _ _ _ _ => (de_fn F__law_same hr (by rfl) (da_cons (de_var 2) (da_cons (de_var 3) da_nil)))) (by decide)) da_nil))))))) ds_nil)
    (ds_cons (ds_if (dt_val (de_isi tk_bool (de_var 1) m_isinstance m_bool (by rfl))) (ds_one (ds_ret (de_and (de_isi tk_bool (de_var 0) m_isinstance m_bool (by rfl)) (de_one (de_cmp (od_eq hx) (de_var 0) (de_var 1) (by rfl)))))) ds_nil)
    (ds_cons (ds_if (dt_val (de_isi tk_str (de_var 1) m_isinstance m_str (by rfl))) (ds_one (ds_ret (de_and (de_isi tk_str (de_var 0) m_isinstance m_str (by rfl)) (de_one (de_cmp (od_eq hx) (de_var 0) (de_var 1) (by rfl)))))) ds_nil)
    (ds_one (ds_ret (de_and (de_isi tk_int (de_var 0) m_isinstance m_int (by rfl)) (de_and (de_notV (de_isi tk_bool (de_var 0) m_isinstance m_bool (by rfl))) (de_one (de_cmp (od_eq hx) (de_var 0) (de_var 1) (by rfl)))))))))))

abbrev s_law : Stmt := topS 15
theorem sc_law : FnScope ["_law_script", "_law_k", "_law_tape_here", "_law_room_here", "_law_turn", "_law_wides", "_law_highs", "_law_handed", "_law_kept", "_law_due", "_law_found", "_law_x", "_law_y"] ["_law_script"] (defScope s_law) := ⟨rfl, rfl, rfl, by decide +kernel, rfl, by decide +kernel, by decide +kernel⟩
theorem d_law {S_round_length S_area S__law_same S__law_around S__law_measure S__law_some_room S__law_tape : FS} {P : Program} {w : World} {K : PySem.W.Frag} {mg : Str → Option Value} {base : Heap} {k : Nat} {f : Addr} {cdv : Value} {A : Around} {outer : List PySem.Env} {s : Shared} {H : Hp} {E : XK} (F_round_length : Fn P w K mg base "round_length" k ["room", "measure"] S_round_length) (F_area : Fn P w K mg base "area" k ["room", "measure"] S_area) (F__law_same : Fn P w K mg base "_law_same" k ["_law_found", "_law_due"] S__law_same) (F__law_around : Fn P w K mg base "_law_around" k ["_law_cells_here", "_law_measure_here"] S__law_around) (F__law_measure : Fn P w K mg base "_law_measure" k ["_law_tape_here", "_law_room_here"] S__law_measure) (F__law_some_room : Fn P w K mg base "_law_some_room" k ["_law_tape_here", "_law_k"] S__law_some_room) (F__law_tape : Fn P w K mg base "_law_tape" k ["_law_script", "_law_k"] S__law_tape) (m_len : mg "len" = none) (m_min : mg "min" = none) (m_range : mg "range" = none) (m_str : mg "str" = none) (m_sum : mg "sum" = none) (m_tuple : mg "tuple" = none) (hg : A.guards = some [])
    (hr : Room k (A.deeper (envOfC "law" (defScope s_law) s.heap.objs.size f cdv))) :
    DSs (cxOf CX0 P w K mg base ["_law_script", "_law_k", "_law_tape_here", "_law_room_here", "_law_turn", "_law_wides", "_law_highs", "_law_handed", "_law_kept", "_law_due", "_law_found", "_law_x", "_law_y"] "law" (defScope s_law) f cdv A outer s H E).nox (defBody s_law) (t_law S_round_length S_area S__law_same S__law_around S__law_measure S__law_some_room S__law_tape) := by
  have hx : Ok (cxOf CX0 P w K mg base ["_law_script", "_law_k", "_law_tape_here", "_law_room_here", "_law_turn", "_law_wides", "_law_highs", "_law_handed", "_law_kept", "_law_due", "_law_found", "_law_x", "_law_y"] "law" (defScope s_law) f cdv A outer s H E).nox := Room.ok hr
  have nd := sc_law.nd
  exact (ds_cons (ds_for hx (di_range1 (de_bin od_add de_int (de_callB (cd_min2 hx) (by rfl) m_min (by decide +kernel) (da_cons de_int (da_cons (de_callB cd_len (by rfl) m_len (by decide +kernel) (da_cons (de_var 0) da_nil)) da_nil)))) m_range) (dg_name nd) (ds_cons (ds_set nd (de_fn F__law_tape hr (by rfl) (da_cons (de_var 0) (da_cons (de_var 1) da_nil))))
    (ds_cons (ds_set nd (de_fn F__law_some_room hr (by rfl) (da_cons (de_var 2) (da_cons (de_var 1) da_nil))))
    (ds_one (ds_for hx (di_range1 de_int m_range) (dg_name nd) (ds_cons (ds_asg (de_fn F__law_measure hr (by rfl) (da_cons (de_var 2) (da_cons (de_var 3) da_nil))) (dg_tup hx (dgs_cons (dg_name nd) (dgs_cons (dg_name nd) dgs_nil))))
    (ds_cons (ds_frzL (ds_frzL (ds_set nd (de_pick 4 (da_cons (de_tupC (da_cons (de_var 5) (da_cons (de_var 6) da_nil))) (da_cons (de_tup (da_cons (de_callTy cd_tupI (by rfl) m_tuple (by decide +kernel) (da_cons (de_var 5) da_nil)) (da_cons (de_callTy cd_tupI (by rfl) m_tuple (by decide +kernel) (da_cons (de_var 6) da_nil)) da_nil))) da_nil))))))
    (ds_cons (ds_set nd (de_callTy (cd_str hx hg) (by rfl) m_str (by decide +kernel) (da_cons (de_var 7) da_nil)))
    (ds_cons (ds_set nd (de_lst (da_cons (de_callB (cd_sum hx) (by rfl) m_sum (by decide +kernel) (da_cons (de_lc (own := [("_law_x", 11), ("_law_y", 12)]) (ts := [11, 12]) hx nd (di_seq (de_var 3)) (blkOk_by (own := [("_law_x", 11), ("_law_y", 12)]) (N := ["_law_script", "_law_k", "_law_tape_here", "_law_room_here", "_law_turn", "_law_wides", "_law_highs", "_law_handed", "_law_kept", "_law_due", "_law_found", "_law_x", "_law_y"]) (sc := defScope s_law) (by decide +kernel)) (fun _ _ _ _ _ => (dg_tup (hx).blk (dgs_cons (dg_name nd) (dgs_cons (dg_name nd) dgs_nil)))) (fun _ _ _ _ _ => dts_nil) (fun _ _ _ _ _ => (de_bin od_mul (de_idx (hx).blk (de_var 5) (de_var 11)) (de_idx (hx).blk (de_var 6) (de_var 12)))) (by decide)) da_nil)) (da_cons (de_fn F__law_around hr (by rfl) (da_cons (de_var 3) (da_cons (de_tupC (da_cons (de_var 5) (da_cons (de_var 6) da_nil))) da_nil))) da_nil))))
    (ds_cons (ds_set nd (de_lst (da_cons (de_fn F_area hr (by rfl) (da_cons (de_var 3) (da_cons (de_var 7) da_nil))) (da_cons (de_fn F_round_length hr (by rfl) (da_cons (de_var 3) (da_cons (de_var 7) da_nil))) da_nil))))
    (ds_one (ds_if (DW.dt (dw_or (dt_not (dt_val (de_fn F__law_same hr (by rfl) (da_cons (de_var 10) (da_cons (de_var 9) da_nil))))) (dw_or1 (dt_cmp (od_ne hx) (de_callTy (cd_str hx hg) (by rfl) m_str (by decide +kernel) (da_cons (de_var 7) da_nil)) (de_var 8) (by rfl) bl_ne)))) (ds_one (ds_ret de_bl)) ds_nil))))))))))))
    (ds_one (ds_ret (de_and (de_cmp (od_eq hx) (de_fn F_area hr (by rfl) (da_cons (de_tup da_nil) (da_cons (de_tup (da_cons (de_lst da_nil) (da_cons (de_lst da_nil) da_nil))) da_nil))) de_int (by rfl)) (de_one (de_cmp (od_eq hx) (de_fn F_round_length hr (by rfl) (da_cons (de_tup da_nil) (da_cons (de_tup (da_cons (de_tup da_nil) (da_cons (de_tup da_nil) da_nil))) da_nil))) de_int (by rfl)))))))

end K30

namespace K30
open PySem PySem.Spec PyProof.Rows L2 BX TX COM BC
theorem v_same_conv : ∀ ds Q, S__law_same.wp ds Q → (S_same 4).wp ds Q := fun ds Q h => by
  obtain ⟨⟨x, y⟩, kr, rfl, ⟨hxy, hs, h⟩, q⟩ := h
  have hxy : x = y := hxy
  subst hxy
  exact ⟨x, rfl, hs, q true h⟩

section
theorem fn_make {P : Program} {w : World} {K : PySem.W.Frag} {mg : Str → Option Value} {base : Heap} {x : Str} {st : Stmt} {f : Addr} {fd : FuncData} {ps : List Str} {k : Nat} {S : FS} (F : Fun K x x st f fd) (ok : FnOk P w K mg base CX0 k f fd ps (spOf K S)) (hm : mg x = some (.ref f)) (hb : Binds K fd ps []) (mo : MonoF S) : Fn P w K mg base x k ps S :=
  ⟨⟨f, fd, ok, hm, F.kp, hb⟩, mo⟩
theorem fn_up {P : Program} {w : World} {K : PySem.W.Frag} {mg : Str → Option Value} {base : Heap} {x : Str} {ps : List Str} {j k : Nat} {S : FS} (F : Fn P w K mg base x j ps S) (h : j ≤ k) : Fn P w K mg base x k ps S :=
  let ⟨f, fd, a, b⟩ := F.ex; ⟨⟨f, fd, a.mono h, b⟩, F.mono⟩
theorem sp_law {K : PySem.W.Frag} {H : Hp} {a : Addr} {ns : List Int} (hs : SqL K H a (ns.map V.int)) {E : XK} : spOf K S_law [.ref a] H (fun v _ => v = .bl true) E := by
  have ri : ∀ ns : List Int, Reps K H 2 (ns.map D.int) (ns.map V.int) [] := fun ns => by
    induction ns with
    | nil => exact .nil
    | cons n ns ih => exact .cons (f := []) (g := []) (.int n) ih fun z => by cases z
  have rp : ∃ g, Rep K H 2 (.lst (ns.map D.int)) (.ref a) g := by
    rcases hs with (h | ⟨o, h⟩) | h
    · exact ⟨_, .lst h (ri ns) fun z => by cases z⟩
    · exact ⟨_, .lstF (Nat.le_refl _) (.inl ⟨o, h⟩) (ri ns)⟩
    · exact ⟨_, .lstF (Nat.le_refl _) (.inr h) (ri ns)⟩
  obtain ⟨g, rp⟩ := rp
  refine ⟨rfl, [.lst (ns.map .int)], fun _ => g, rfl, ⟨fun i d m e => ?_, fun i j d m d' m' hij e1 e2 => ?_, rfl⟩, ns, fun b => b = true, rfl, law_w ns rfl, ?_⟩
  · match i, e with
    | 0, e => cases e; exact ⟨_, rfl, rp⟩
    | i + 1, e => simp [penv, S_law, mkS] at e
  · match i, j, e1, e2 with
    | 0, 0, _, _ => exact absurd rfl hij
    | 0, j + 1, _, e2 => simp [penv, S_law, mkS] at e2
    | i + 1, _, e1, _ => simp [penv, S_law, mkS] at e1
  · intro b hb v H' f' g' _ _ r _ _ _
    subst hb
    cases r
    rfl
end
theorem all_mk {l : PySem.W.OpenLaw} {w : World} {K : PySem.W.Frag} {h : Heap} {mg : Str → Option Value} {fa f1 f2 f3 f4 f5 f6 f7 f8 f9 f10 f11 f12 f13 f14 : Addr} (X : K.In h) (G : h.Ns mainGlobals mg) (hfa : mg "law" = some (.ref fa))
    {od1 an1 od2 an2 od3 an3 od4 an4 od5 an5 od6 an6 od7 an7 od8 an8 od9 an9 od10 an10 od11 an11 od12 an12 od13 an13 od14 an14 : Option Addr} {sl1 sl2 sl3 sl4 sl5 sl6 sl7 sl8 sl9 sl10 sl11 sl12 sl13 sl14 : Array (Option Value)} {oc1 kV1 dc1 pm1 cd1 ct1 oc2 kV2 dc2 pm2 cd2 ct2 oc3 kV3 dc3 pm3 cd3 ct3 oc4 kV4 dc4 pm4 cd4 ct4 oc5 kV5 dc5 pm5 cd5 ct5 oc6 kV6 dc6 pm6 cd6 ct6 oc7 kV7 dc7 pm7 cd7 ct7 oc8 kV8 dc8 pm8 cd8 ct8 oc9 kV9 dc9 pm9 cd9 ct9 oc10 kV10 dc10 pm10 cd10 ct10 oc11 kV11 dc11 pm11 cd11 ct11 oc12 kV12 dc12 pm12 cd12 ct12 oc13 kV13 dc13 pm13 cd13 ct13 oc14 kV14 dc14 pm14 cd14 ct14 : Value}
    (a1 : PySem.W.nsIn K mainGlobals "area" = some (some (.ref f1))) (l1 : K.lookup f1 = some ⟨oc1, od1, .func (PySem.W.fnOf "area" "area" (defArgs s_area) (defBody s_area) (defScope s_area) .none kV1 dc1 pm1 an1 cd1 ct1), sl1⟩) (c1 : PySem.W.codeIn K cd1 "area" = true) (k1 : PySem.W.keepIn K (.ref f1) = true)
    (a2 : PySem.W.nsIn K mainGlobals "sides_beside" = some (some (.ref f2))) (l2 : K.lookup f2 = some ⟨oc2, od2, .func (PySem.W.fnOf "sides_beside" "sides_beside" (defArgs s_sides_beside) (defBody s_sides_beside) (defScope s_sides_beside) .none kV2 dc2 pm2 an2 cd2 ct2), sl2⟩) (c2 : PySem.W.codeIn K cd2 "sides_beside" = true) (k2 : PySem.W.keepIn K (.ref f2) = true)
    (a3 : PySem.W.nsIn K mainGlobals "length_around" = some (some (.ref f3))) (l3 : K.lookup f3 = some ⟨oc3, od3, .func (PySem.W.fnOf "length_around" "length_around" (defArgs s_length_around) (defBody s_length_around) (defScope s_length_around) .none kV3 dc3 pm3 an3 cd3 ct3), sl3⟩) (c3 : PySem.W.codeIn K cd3 "length_around" = true) (k3 : PySem.W.keepIn K (.ref f3) = true)
    (a4 : PySem.W.nsIn K mainGlobals "round_length" = some (some (.ref f4))) (l4 : K.lookup f4 = some ⟨oc4, od4, .func (PySem.W.fnOf "round_length" "round_length" (defArgs s_round_length) (defBody s_round_length) (defScope s_round_length) .none kV4 dc4 pm4 an4 cd4 ct4), sl4⟩) (c4 : PySem.W.codeIn K cd4 "round_length" = true) (k4 : PySem.W.keepIn K (.ref f4) = true)
    (a5 : PySem.W.nsIn K mainGlobals "_law_tape" = some (some (.ref f5))) (l5 : K.lookup f5 = some ⟨oc5, od5, .func (PySem.W.fnOf "_law_tape" "_law_tape" (defArgs s__law_tape) (defBody s__law_tape) (defScope s__law_tape) .none kV5 dc5 pm5 an5 cd5 ct5), sl5⟩) (c5 : PySem.W.codeIn K cd5 "_law_tape" = true) (k5 : PySem.W.keepIn K (.ref f5) = true)
    (a6 : PySem.W.nsIn K mainGlobals "_law_draw" = some (some (.ref f6))) (l6 : K.lookup f6 = some ⟨oc6, od6, .func (PySem.W.fnOf "_law_draw" "_law_draw" (defArgs s__law_draw) (defBody s__law_draw) (defScope s__law_draw) .none kV6 dc6 pm6 an6 cd6 ct6), sl6⟩) (c6 : PySem.W.codeIn K cd6 "_law_draw" = true) (k6 : PySem.W.keepIn K (.ref f6) = true)
    (a7 : PySem.W.nsIn K mainGlobals "_law_cells" = some (some (.ref f7))) (l7 : K.lookup f7 = some ⟨oc7, od7, .func (PySem.W.fnOf "_law_cells" "_law_cells" (defArgs s__law_cells) (defBody s__law_cells) (defScope s__law_cells) .none kV7 dc7 pm7 an7 cd7 ct7), sl7⟩) (c7 : PySem.W.codeIn K cd7 "_law_cells" = true) (k7 : PySem.W.keepIn K (.ref f7) = true)
    (a8 : PySem.W.nsIn K mainGlobals "_law_shape" = some (some (.ref f8))) (l8 : K.lookup f8 = some ⟨oc8, od8, .func (PySem.W.fnOf "_law_shape" "_law_shape" (defArgs s__law_shape) (defBody s__law_shape) (defScope s__law_shape) .none kV8 dc8 pm8 an8 cd8 ct8), sl8⟩) (c8 : PySem.W.codeIn K cd8 "_law_shape" = true) (k8 : PySem.W.keepIn K (.ref f8) = true)
    (a9 : PySem.W.nsIn K mainGlobals "_law_room" = some (some (.ref f9))) (l9 : K.lookup f9 = some ⟨oc9, od9, .func (PySem.W.fnOf "_law_room" "_law_room" (defArgs s__law_room) (defBody s__law_room) (defScope s__law_room) .none kV9 dc9 pm9 an9 cd9 ct9), sl9⟩) (c9 : PySem.W.codeIn K cd9 "_law_room" = true) (k9 : PySem.W.keepIn K (.ref f9) = true)
    (a10 : PySem.W.nsIn K mainGlobals "_law_same" = some (some (.ref f10))) (l10 : K.lookup f10 = some ⟨oc10, od10, .func (PySem.W.fnOf "_law_same" "_law_same" (defArgs s__law_same) (defBody s__law_same) (defScope s__law_same) .none kV10 dc10 pm10 an10 cd10 ct10), sl10⟩) (c10 : PySem.W.codeIn K cd10 "_law_same" = true) (k10 : PySem.W.keepIn K (.ref f10) = true)
    (a11 : PySem.W.nsIn K mainGlobals "_law_some_room" = some (some (.ref f11))) (l11 : K.lookup f11 = some ⟨oc11, od11, .func (PySem.W.fnOf "_law_some_room" "_law_some_room" (defArgs s__law_some_room) (defBody s__law_some_room) (defScope s__law_some_room) .none kV11 dc11 pm11 an11 cd11 ct11), sl11⟩) (c11 : PySem.W.codeIn K cd11 "_law_some_room" = true) (k11 : PySem.W.keepIn K (.ref f11) = true)
    (a12 : PySem.W.nsIn K mainGlobals "_law_measure" = some (some (.ref f12))) (l12 : K.lookup f12 = some ⟨oc12, od12, .func (PySem.W.fnOf "_law_measure" "_law_measure" (defArgs s__law_measure) (defBody s__law_measure) (defScope s__law_measure) .none kV12 dc12 pm12 an12 cd12 ct12), sl12⟩) (c12 : PySem.W.codeIn K cd12 "_law_measure" = true) (k12 : PySem.W.keepIn K (.ref f12) = true)
    (a13 : PySem.W.nsIn K mainGlobals "_law_around" = some (some (.ref f13))) (l13 : K.lookup f13 = some ⟨oc13, od13, .func (PySem.W.fnOf "_law_around" "_law_around" (defArgs s__law_around) (defBody s__law_around) (defScope s__law_around) .none kV13 dc13 pm13 an13 cd13 ct13), sl13⟩) (c13 : PySem.W.codeIn K cd13 "_law_around" = true) (k13 : PySem.W.keepIn K (.ref f13) = true)
    (a14 : PySem.W.nsIn K mainGlobals "law" = some (some (.ref f14))) (l14 : K.lookup f14 = some ⟨oc14, od14, .func (PySem.W.fnOf "law" "law" (defArgs s_law) (defBody s_law) (defScope s_law) .none kV14 dc14 pm14 an14 cd14 ct14), sl14⟩) (c14 : PySem.W.codeIn K cd14 "law" = true) (k14 : PySem.W.keepIn K (.ref f14) = true)
    (z1 : PySem.W.nsIn K mainGlobals "sum" = some none)
    (z2 : PySem.W.nsIn K mainGlobals "dict" = some none)
    (z3 : PySem.W.nsIn K mainGlobals "abs" = some none)
    (z4 : PySem.W.nsIn K mainGlobals "int" = some none)
    (z5 : PySem.W.nsIn K mainGlobals "len" = some none)
    (z6 : PySem.W.nsIn K mainGlobals "range" = some none)
    (z7 : PySem.W.nsIn K mainGlobals "sorted" = some none)
    (z8 : PySem.W.nsIn K mainGlobals "tuple" = some none)
    (z9 : PySem.W.nsIn K mainGlobals "isinstance" = some none)
    (z10 : PySem.W.nsIn K mainGlobals "bool" = some none)
    (z11 : PySem.W.nsIn K mainGlobals "str" = some none)
    (z12 : PySem.W.nsIn K mainGlobals "list" = some none)
    (z13 : PySem.W.nsIn K mainGlobals "zip" = some none)
    (z14 : PySem.W.nsIn K mainGlobals "all" = some none)
    (z15 : PySem.W.nsIn K mainGlobals "max" = some none)
    (z16 : PySem.W.nsIn K mainGlobals "min" = some none)
    : ∃ fd : FuncData, (∀ (s : Shared) (v : Value), BindsTo s fd ⟨[v], []⟩ [("_law_script", v)]) ∧ ∀ base : Heap, K.In base → base.Ns mainGlobals mg → FnG l.prog w K mg base 5 fa fd ["_law_script"] (spOf K S_law) := by
  have e := hfa.symm.trans (PySem.W.mg_of X G a14)
  cases e
  have U1 := fun_mk (st := s_area) l1 c1 k1
  have U2 := fun_mk (st := s_sides_beside) l2 c2 k2
  have U3 := fun_mk (st := s_length_around) l3 c3 k3
  have U4 := fun_mk (st := s_round_length) l4 c4 k4
  have U5 := fun_mk (st := s__law_tape) l5 c5 k5
  have U6 := fun_mk (st := s__law_draw) l6 c6 k6
  have U7 := fun_mk (st := s__law_cells) l7 c7 k7
  have U8 := fun_mk (st := s__law_shape) l8 c8 k8
  have U9 := fun_mk (st := s__law_room) l9 c9 k9
  have U10 := fun_mk (st := s__law_same) l10 c10 k10
  have U11 := fun_mk (st := s__law_some_room) l11 c11 k11
  have U12 := fun_mk (st := s__law_measure) l12 c12 k12
  have U13 := fun_mk (st := s__law_around) l13 c13 k13
  have U14 := fun_mk (st := s_law) l14 c14 k14
  have b1 := U1.binds (ps := ["room", "measure"]) fun _ _ _ _ _ _ us hl => match us, hl with | [_, _], _ => rfl
  have b2 := U2.binds (ps := ["measure", "cell"]) fun _ _ _ _ _ _ us hl => match us, hl with | [_, _], _ => rfl
  have b3 := U3.binds (ps := ["cells", "measure"]) fun _ _ _ _ _ _ us hl => match us, hl with | [_, _], _ => rfl
  have b4 := U4.binds (ps := ["room", "measure"]) fun _ _ _ _ _ _ us hl => match us, hl with | [_, _], _ => rfl
  have b5 := U5.binds (ps := ["_law_script", "_law_k"]) fun _ _ _ _ _ _ us hl => match us, hl with | [_, _], _ => rfl
  have b6 := U6.binds (ps := ["_law_tape_here", "_law_many"]) fun _ _ _ _ _ _ us hl => match us, hl with | [_, _], _ => rfl
  have b7 := U7.binds (ps := ["_law_x", "_law_y", "_law_wide", "_law_high"]) fun _ _ _ _ _ _ us hl => match us, hl with | [_, _, _, _], _ => rfl
  have b8 := U8.binds (ps := ["_law_tape_here", "_law_wide", "_law_high"]) fun _ _ _ _ _ _ us hl => match us, hl with | [_, _, _], _ => rfl
  have b9 := U9.binds (ps := ["_law_tape_here", "_law_great"]) fun _ _ _ _ _ _ us hl => match us, hl with | [_, _], _ => rfl
  have b10 := U10.binds (ps := ["_law_found", "_law_due"]) fun _ _ _ _ _ _ us hl => match us, hl with | [_, _], _ => rfl
  have b11 := U11.binds (ps := ["_law_tape_here", "_law_k"]) fun _ _ _ _ _ _ us hl => match us, hl with | [_, _], _ => rfl
  have b12 := U12.binds (ps := ["_law_tape_here", "_law_room_here"]) fun _ _ _ _ _ _ us hl => match us, hl with | [_, _], _ => rfl
  have b13 := U13.binds (ps := ["_law_cells_here", "_law_measure_here"]) fun _ _ _ _ _ _ us hl => match us, hl with | [_, _], _ => rfl
  have b14 := U14.binds (ps := ["_law_script"]) fun _ _ _ _ _ _ us hl => match us, hl with | [_], _ => rfl
  have m_sum := PySem.W.mg_none_of X G z1
  have m_dict := PySem.W.mg_none_of X G z2
  have m_abs := PySem.W.mg_none_of X G z3
  have m_int := PySem.W.mg_none_of X G z4
  have m_len := PySem.W.mg_none_of X G z5
  have m_range := PySem.W.mg_none_of X G z6
  have m_sorted := PySem.W.mg_none_of X G z7
  have m_tuple := PySem.W.mg_none_of X G z8
  have m_isinstance := PySem.W.mg_none_of X G z9
  have m_bool := PySem.W.mg_none_of X G z10
  have m_str := PySem.W.mg_none_of X G z11
  have m_list := PySem.W.mg_none_of X G z12
  have m_zip := PySem.W.mg_none_of X G z13
  have m_all := PySem.W.mg_none_of X G z14
  have m_max := PySem.W.mg_none_of X G z15
  have m_min := PySem.W.mg_none_of X G z16
  refine ⟨PySem.W.fnOf "law" "law" (defArgs s_law) (defBody s_law) (defScope s_law) .none kV14 dc14 pm14 an14 cd14 ct14, fun s v => .of_eq rfl, fun base _ _ => ?_⟩
  have F_area : Fn l.prog w K mg base "area" 1 ["room", "measure"] S_area := fn_make U1 (fn_data (k := 0) (S := S_area) U1 sc_area rfl (by decide) (fun _ _ _ _ _ _ hr => d_area m_sum hr) v_area) (PySem.W.mg_of X G a1) b1 mkS_mono
  have F_sides_beside : Fn l.prog w K mg base "sides_beside" 1 ["measure", "cell"] S_sides_beside := fn_make U2 (fn_data (k := 0) (S := S_sides_beside) U2 sc_sides_beside rfl (by decide) (fun _ _ _ _ _ _ hr => d_sides_beside  hr) v_sides_beside) (PySem.W.mg_of X G a2) b2 mkS_mono
  have F_length_around : Fn l.prog w K mg base "length_around" 2 ["cells", "measure"] S_length_around := fn_make U3 (fn_data (k := 1) (S := S_length_around) U3 sc_length_around rfl (by decide) (fun _ _ _ _ _ _ hr => d_length_around (fn_up F_sides_beside (by decide : 1 ≤ 1)) m_sum m_dict hr) v_length_around) (PySem.W.mg_of X G a3) b3 mkS_mono
  have F_round_length : Fn l.prog w K mg base "round_length" 3 ["room", "measure"] S_round_length := fn_make U4 (fn_data (k := 2) (S := S_round_length) U4 sc_round_length rfl (by decide) (fun _ _ _ _ _ _ hr => d_round_length (fn_up F_length_around (by decide : 2 ≤ 2)) hr) v_round_length) (PySem.W.mg_of X G a4) b4 mkS_mono
  have F__law_tape : Fn l.prog w K mg base "_law_tape" 1 ["_law_script", "_law_k"] S__law_tape := fn_make U5 (fn_data (k := 0) (S := S__law_tape) U5 sc__law_tape rfl (by decide) (fun _ _ _ _ _ _ hr => d__law_tape m_abs m_int m_len hr) v__law_tape) (PySem.W.mg_of X G a5) b5 mkS_mono
  have F__law_draw : Fn l.prog w K mg base "_law_draw" 1 ["_law_tape_here", "_law_many"] S__law_draw := fn_make U6 (fn_data (k := 0) (S := S__law_draw) U6 sc__law_draw rfl (by decide) (fun _ _ _ _ _ _ hr => d__law_draw  hr) v__law_draw) (PySem.W.mg_of X G a6) b6 mkS_mono
  have F__law_cells : Fn l.prog w K mg base "_law_cells" 1 ["_law_x", "_law_y", "_law_wide", "_law_high"] S__law_cells := fn_make U7 (fn_data (k := 0) (S := S__law_cells) U7 sc__law_cells rfl (by decide) (fun _ _ _ _ _ _ hr => d__law_cells m_range hr) v__law_cells) (PySem.W.mg_of X G a7) b7 mkS_mono
  have F__law_shape : Fn l.prog w K mg base "_law_shape" 2 ["_law_tape_here", "_law_wide", "_law_high"] S__law_shape := fn_make U8 (fn_data (k := 1) (S := S__law_shape) U8 sc__law_shape rfl (by decide) (fun _ _ _ _ _ _ hr => d__law_shape (fn_up F__law_draw (by decide : 1 ≤ 1)) (fn_up F__law_cells (by decide : 1 ≤ 1)) m_range hr) v__law_shape) (PySem.W.mg_of X G a8) b8 mkS_mono
  have F__law_room : Fn l.prog w K mg base "_law_room" 3 ["_law_tape_here", "_law_great"] S__law_room := fn_make U9 (fn_data (k := 2) (S := S__law_room) U9 sc__law_room rfl (by decide) (fun _ _ _ _ _ _ hr => d__law_room (fn_up F__law_draw (by decide : 1 ≤ 2)) (fn_up F__law_cells (by decide : 1 ≤ 2)) (fn_up F__law_shape (by decide : 2 ≤ 2)) m_sorted m_tuple hr) v__law_room) (PySem.W.mg_of X G a9) b9 mkS_mono
  have F__law_same : Fn l.prog w K mg base "_law_same" 4 ["_law_found", "_law_due"] (S_same 4) := by
    have allN : ∀ n : Nat, Fn l.prog w K mg base "_law_same" (0 + n) ["_law_found", "_law_due"] (S_same n) := by
      intro n
      induction n with
      | zero => exact fn_make U10 ⟨fun vs H Q E h => h.1, fun A outer s H args us vs Q E _ _ _ _ h => by obtain ⟨_, _, _, _, _, d, _, z, _⟩ := h; exact z.elim⟩ (PySem.W.mg_of X G a10) b10 (m_same 0)
      | succ n F => exact fn_make U10 (fn_data (k := 0 + n) U10 sc__law_same rfl (by show ∀ m ∈ [Md.cst, Md.cst], m ≠ .own ∧ m ≠ .lk; decide) (fun _ _ _ _ _ _ hr => d__law_same F m_isinstance m_bool m_int m_str m_list m_tuple m_zip m_all m_len hr) (b_same n)) (PySem.W.mg_of X G a10) b10 (m_same (n + 1))
    exact allN 4
  have F__law_same := fn_imp (S' := S__law_same) F__law_same rfl (v_same_conv) mkS_mono
  have F__law_some_room : Fn l.prog w K mg base "_law_some_room" 4 ["_law_tape_here", "_law_k"] S__law_some_room := fn_make U11 (fn_data (k := 3) (S := S__law_some_room) U11 sc__law_some_room rfl (by decide) (fun _ _ _ _ _ _ hr => d__law_some_room (fn_up F__law_room (by decide : 3 ≤ 3)) (fn_up F__law_draw (by decide : 1 ≤ 3)) hr) v__law_some_room) (PySem.W.mg_of X G a11) b11 mkS_mono
  have F__law_measure : Fn l.prog w K mg base "_law_measure" 2 ["_law_tape_here", "_law_room_here"] S__law_measure := fn_make U12 (fn_data (k := 1) (S := S__law_measure) U12 sc__law_measure rfl (by decide) (fun _ _ _ _ _ _ hr => d__law_measure (fn_up F__law_draw (by decide : 1 ≤ 1)) m_tuple m_range m_max hr) v__law_measure) (PySem.W.mg_of X G a12) b12 mkS_mono
  have F__law_around : Fn l.prog w K mg base "_law_around" 1 ["_law_cells_here", "_law_measure_here"] S__law_around := fn_make U13 (fn_data (k := 0) (S := S__law_around) U13 sc__law_around rfl (by decide) (fun _ _ _ _ _ _ hr => d__law_around m_int m_dict hr) v__law_around) (PySem.W.mg_of X G a13) b13 mkS_mono
  exact fg_data (k := 4) (S := S_law) U14 sc_law rfl (by decide) (fun _ _ _ _ _ _ hr hg => d_law (fn_up F_round_length (by decide : 3 ≤ 4)) (fn_up F_area (by decide : 1 ≤ 4)) (fn_up F__law_same (by decide : 4 ≤ 4)) (fn_up F__law_around (by decide : 1 ≤ 4)) (fn_up F__law_measure (by decide : 2 ≤ 4)) (fn_up F__law_some_room (by decide : 4 ≤ 4)) (fn_up F__law_tape (by decide : 1 ≤ 4)) m_len m_min m_range m_str m_sum m_tuple hg hr) v_law
end K30
open PySem PySem.W PyProof.Rows
set_option maxRecDepth 100000 in
set_option maxHeartbeats 0 in
theorem PySem.Challenge.cw_boxcut_k30_areas_and_walls_holds : PySem.Challenge.rw_boxcut_k30_areas_and_walls.Holds := by
  w_on; o_law; k_head; (case hw => w_witness2)
  k_fill
  refine BX.walk_g (l := PySem.Challenge.rw_boxcut_k30_areas_and_walls) (n := 63) (k := 5) (x := "_law_script") (sp := fun w => BX.spOf _ K30.S_law) rfl (by decide) rfl ⟨rfl, by decide, by decide⟩ (fun w h Y => PySem.W.kIn_of Y) ?F (fun _ _ a ns hl _ hS => K30.sp_law hS)
  case F =>
    intro w mg fa h KX G hmg
    refine' K30.all_mk KX G hmg ?a1 ?l1 ?c1 ?k1 ?a2 ?l2 ?c2 ?k2 ?a3 ?l3 ?c3 ?k3 ?a4 ?l4 ?c4 ?k4 ?a5 ?l5 ?c5 ?k5 ?a6 ?l6 ?c6 ?k6 ?a7 ?l7 ?c7 ?k7 ?a8 ?l8 ?c8 ?k8 ?a9 ?l9 ?c9 ?k9 ?a10 ?l10 ?c10 ?k10 ?a11 ?l11 ?c11 ?k11 ?a12 ?l12 ?c12 ?k12 ?a13 ?l13 ?c13 ?k13 ?a14 ?l14 ?c14 ?k14 ?z1 ?z2 ?z3 ?z4 ?z5 ?z6 ?z7 ?z8 ?z9 ?z10 ?z11 ?z12 ?z13 ?z14 ?z15 ?z16
    (case a1 => k_is)
    (case l1 => k_is)
    (case c1 => k_is)
    (case k1 => k_is)
    (case a2 => k_is)
    (case l2 => k_is)
    (case c2 => k_is)
    (case k2 => k_is)
    (case a3 => k_is)
    (case l3 => k_is)
    (case c3 => k_is)
    (case k3 => k_is)
    (case a4 => k_is)
    (case l4 => k_is)
    (case c4 => k_is)
    (case k4 => k_is)
    (case a5 => k_is)
    (case l5 => k_is)
    (case c5 => k_is)
    (case k5 => k_is)
    (case a6 => k_is)
    (case l6 => k_is)
    (case c6 => k_is)
    (case k6 => k_is)
    (case a7 => k_is)
    (case l7 => k_is)
    (case c7 => k_is)
    (case k7 => k_is)
    (case a8 => k_is)
    (case l8 => k_is)
    (case c8 => k_is)
    (case k8 => k_is)
    (case a9 => k_is)
    (case l9 => k_is)
    (case c9 => k_is)
    (case k9 => k_is)
    (case a10 => k_is)
    (case l10 => k_is)
    (case c10 => k_is)
    (case k10 => k_is)
    (case a11 => k_is)
    (case l11 => k_is)
    (case c11 => k_is)
    (case k11 => k_is)
    (case a12 => k_is)
    (case l12 => k_is)
    (case c12 => k_is)
    (case k12 => k_is)
    (case a13 => k_is)
    (case l13 => k_is)
    (case c13 => k_is)
    (case k13 => k_is)
    (case a14 => k_is)
    (case l14 => k_is)
    (case c14 => k_is)
    (case k14 => k_is)
    (case z1 => k_is)
    (case z2 => k_is)
    (case z3 => k_is)
    (case z4 => k_is)
    (case z5 => k_is)
    (case z6 => k_is)
    (case z7 => k_is)
    (case z8 => k_is)
    (case z9 => k_is)
    (case z10 => k_is)
    (case z11 => k_is)
    (case z12 => k_is)
    (case z13 => k_is)
    (case z14 => k_is)
    (case z15 => k_is)
    (case z16 => k_is)


