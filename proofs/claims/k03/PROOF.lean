import PyProof.Rows.All
import Wide.All
import OpenK.AllK
import Wide.FinOn
import HandS.ForMost
import HandS.Dict
import HandS.TupAny
import HandS.Style
import HandS.Deep
import HandS.IsInst
import HandS.Flow
import HandS.WordsDict
import HandS.RaiseMore
import HandS.Defaults
import HandS.Head0
import HandS.Head1
import HandS.Head2
import HandS.HeadEnd
import HandS.HeadHook1
import HandS.HeadHook2
import HandS.SortInts
import HandS.Conv
import KE.GoesMore
import KE.GoesZip
import HandS.Zip
import HandS.Star
import KE.SortData
import HandS.More
import HandS.Strs
import PyProof.StrLawsRepr
import Lean
import PySem.Challenge.RW_farkeepers_k03_scenes_and_patterns
import KE.KStateDown
set_option Elab.async false
set_option linter.all false
set_option maxRecDepth 100000
set_option maxHeartbeats 4000001
namespace DL
open PySem L2
/-- the built-in classes that are asked for -/
inductive BT where
  | int | bool | str | tup | lst | dct
  deriving DecidableEq
def BT.name : BT → String
  | .int => "int"
  | .bool => "bool"
  | .str => "str"
  | .tup => "tuple"
  | .lst => "list"
  | .dct => "dict"
inductive D where
  | non
  | bl (b : Bool)
  | int (i : Int)
  | str (x : Str)
  | tup (ds : List D)
  | lst (o : Bool) (ds : List D)
  | dct (o : Bool) (ks : List Key) (vs : List D)
  | obj (o : Bool) (c : Str) (ns : List Str) (vs : List D)
  | ty (n : BT)
  | glo (x : Str)
  | scr (ds : List D)
  | raw (o : Bool) (u : HO)
mutual
/-- all flags down: nothing of it may be changed any more -/
def fz : D → D
  | .tup ds => .tup (fzs ds)
  | .lst _ ds => .lst false (fzs ds)
  | .dct _ ks vs => .dct false ks (fzs vs)
  | .obj _ c ns vs => .obj false c ns (fzs vs)
  | .non => .non
  | .bl b => .bl b
  | .int i => .int i
  | .str x => .str x
  | .ty n => .ty n
  | .glo x => .glo x
  | .scr ds => .scr (fzs ds)
  | .raw _ u => .raw false u
def fzs : List D → List D
  | [] => []
  | d :: r => fz d :: fzs r
end
mutual
def isFz : D → Bool
  | .tup ds => isFzs ds
  | .lst o ds => !o && isFzs ds
  | .dct o _ vs => !o && isFzs vs
  | .obj o _ _ vs => !o && isFzs vs
  | .scr ds => isFzs ds
  | .raw o _ => !o
  | _ => true
def isFzs : List D → Bool
  | [] => true
  | d :: r => isFz d && isFzs r
end
mutual
/-- no part of it is shared -/
def noal : D → Bool
  | .tup ds => noals ds
  | .lst o ds => o && noals ds
  | .dct o _ vs => o && noals vs
  | .obj o _ _ vs => o && noals vs
  | .scr _ => false
  | .raw o _ => o
  | _ => true
def noals : List D → Bool
  | [] => true
  | d :: r => noal d && noals r
end
theorem fzs_map : ∀ ds : List D, fzs ds = ds.map fz
  | [] => rfl
  | d :: r => by rw [fzs, fzs_map r]; rfl
theorem fzs_length (ds : List D) : (fzs ds).length = ds.length := by rw [fzs_map, List.length_map]
mutual
theorem fz_isFz : ∀ d : D, isFz d = true → fz d = d
  | .tup ds, h => by simp only [isFz] at h; simp only [fz, fzs_isFzs ds h]
  | .lst o ds, h => by
    simp only [isFz, Bool.and_eq_true, Bool.not_eq_true'] at h
    simp only [fz, fzs_isFzs ds h.2, h.1]
  | .dct o ks ds, h => by
    simp only [isFz, Bool.and_eq_true, Bool.not_eq_true'] at h
    simp only [fz, fzs_isFzs ds h.2, h.1]
  | .obj o c ns ds, h => by
    simp only [isFz, Bool.and_eq_true, Bool.not_eq_true'] at h
    simp only [fz, fzs_isFzs ds h.2, h.1]
  | .non, _ => rfl
  | .bl _, _ => rfl
  | .int _, _ => rfl
  | .str _, _ => rfl
  | .ty _, _ => rfl
  | .glo _, _ => rfl
  | .scr ds, h => by simp only [isFz] at h; simp only [fz, fzs_isFzs ds h]
  | .raw o u, h => by
    simp only [isFz, Bool.not_eq_true'] at h
    simp only [fz, h]
theorem fzs_isFzs : ∀ ds : List D, isFzs ds = true → fzs ds = ds
  | [], _ => rfl
  | d :: r, h => by
    simp only [isFzs, Bool.and_eq_true] at h
    simp only [fzs, fz_isFz d h.1, fzs_isFzs r h.2]
end
mutual
theorem isFz_fz : ∀ d : D, isFz (fz d) = true
  | .tup ds => by simp only [fz, isFz, isFzs_fzs ds]
  | .lst o ds => by simp only [fz, isFz, isFzs_fzs ds]; rfl
  | .dct o ks ds => by simp only [fz, isFz, isFzs_fzs ds]; rfl
  | .obj o c ns ds => by simp only [fz, isFz, isFzs_fzs ds]; rfl
  | .non => rfl
  | .bl _ => rfl
  | .int _ => rfl
  | .str _ => rfl
  | .ty _ => rfl
  | .glo _ => rfl
  | .scr ds => by simp only [fz, isFz, isFzs_fzs ds]
  | .raw o u => rfl
theorem isFzs_fzs : ∀ ds : List D, isFzs (fzs ds) = true
  | [] => rfl
  | d :: r => by simp only [fzs, isFzs, isFz_fz d, isFzs_fzs r]; rfl
end
theorem isFzs_get : ∀ {ds : List D} {i : Nat} {d : D}, isFzs ds = true → ds[i]? = some d → isFz d = true
  | [], i, d, _, h => by simp at h
  | x :: r, 0, d, h, e => by
    simp only [isFzs, Bool.and_eq_true] at h
    have : x = d := by simpa using e
    rw [← this]; exact h.1
  | x :: r, i + 1, d, h, e => by
    simp only [isFzs, Bool.and_eq_true] at h
    exact isFzs_get h.2 (by simpa using e)
theorem isFzs_iff : ∀ {ds : List D}, isFzs ds = true ↔ ∀ d ∈ ds, isFz d = true
  | [] => by simp [isFzs]
  | x :: r => by simp [isFzs, isFzs_iff (ds := r)]
/-- a list of the written part -/
def SqLK (K : PySem.W.Frag) (a : Addr) (xs : List V) : Prop := ∃ (o : Obj) (its : Array Value) (n : Nat), K.lookup a = some o ∧ o.cls = .type "list" ∧ o.dict = none ∧ o.data = .seq its n ∧ its.size ≤ sizeLine ∧ Vals xs its.toList
theorem SqLK.sq {K : PySem.W.Frag} {H : Hp} {a : Addr} {xs : List V} (h : SqLK K a xs) : SqL K H a xs := .inr h
/-- what never changes -/
def pers : HO → Bool
  | .tup _ => true
  | .frz _ _ => true
  | _ => false
/-- the script: known to the object, or one of the module's own -/
def ScrAt (K : PySem.W.Frag) (H : Hp) (a : Addr) (vs : List V) : Prop := (∃ o, H a = some (.frz o (.lst vs))) ∨ SqLK K a vs
theorem ScrAt.sq {K : PySem.W.Frag} {H : Hp} {a : Addr} {vs : List V} (h : ScrAt K H a vs) : SqL K H a vs := by
  rcases h with ⟨o, h⟩ | h
  · exact .inl (.inr ⟨o, h⟩)
  · exact h.sq
theorem ScrAt.keep {K : PySem.W.Frag} {H H' : Hp} {a : Addr} {vs : List V} (h : ScrAt K H a vs) (k : ∀ a o, H a = some o → pers o = true → H' a = some o) : ScrAt K H' a vs := by
  rcases h with ⟨o, h⟩ | h
  · exact .inl ⟨o, k _ _ h rfl⟩
  · exact .inr h
mutual
/-- the tree d stands for the value v in H: Z: where what is shared lies; F: what is its own -/
inductive Rep (K : PySem.W.Frag) (mg : Str → Option Value) (H : Hp) (Z : Addr → Prop) : V → D → List Addr → Prop
  | non : Rep K mg H Z .non .non []
  | bl {b} : Rep K mg H Z (.bl b) (.bl b) []
  | int {i} : Rep K mg H Z (.int i) (.int i) []
  | str {x} : Rep K mg H Z (.str x) (.str x) []
  | ty {n} : Rep K mg H Z (.ty n.name) (.ty n) []
  | glo {x a} : mg x = some (.ref a) → Rep K mg H Z (.ref a) (.glo x) []
  | tup {a vs ds F} : SqT K H a vs → Reps K mg H Z vs ds F → Rep K mg H Z (.ref a) (.tup ds) F
  | scr {a vs ds} : ScrAt K H a vs → Reps K mg H Z vs ds [] → Rep K mg H Z (.ref a) (.scr ds) []
  | rawF {a u} : Rd H a u → pers u = false → Z a → Rep K mg H Z (.ref a) (.raw false u) []
  | rawO {a u} : H a = some u → pers u = false → Rep K mg H Z (.ref a) (.raw true u) [a]
  | lstF {a vs ds} : H a = some (.lst vs) → Z a → Reps K mg H Z vs ds [] → Rep K mg H Z (.ref a) (.lst false ds) []
  | lstO {a vs ds F} : H a = some (.lst vs) → Reps K mg H Z vs ds F → Rep K mg H Z (.ref a) (.lst true ds) (a :: F)
  | dctF {a kvs ks ds} : Rd H a (.dK kvs) → Z a → kvs.map (·.1) = ks ∧ ks.Nodup → Reps K mg H Z (kvs.map (·.2)) ds [] → Rep K mg H Z (.ref a) (.dct false ks ds) []
  | dctO {a kvs ks ds F} : H a = some (.dK kvs) → kvs.map (·.1) = ks ∧ ks.Nodup → Reps K mg H Z (kvs.map (·.2)) ds F → Rep K mg H Z (.ref a) (.dct true ks ds) (a :: F)
  | objF {a C dx fs c ns ds} : H a = some (.ins C dx fs) → Z a → mg c = some (.ref C) → fs.map (·.1) = ns → Reps K mg H Z (fs.map (·.2)) ds [] → Rep K mg H Z (.ref a) (.obj false c ns ds) []
  | objO {a C dx fs c ns ds F} : H a = some (.ins C dx fs) → mg c = some (.ref C) → fs.map (·.1) = ns → Reps K mg H Z (fs.map (·.2)) ds F → Rep K mg H Z (.ref a) (.obj true c ns ds) (a :: F)
inductive Reps (K : PySem.W.Frag) (mg : Str → Option Value) (H : Hp) (Z : Addr → Prop) : List V → List D → List Addr → Prop
  | nil : Reps K mg H Z [] [] []
  | cons {v vs d ds F G} : Rep K mg H Z v d F → Reps K mg H Z vs ds G → Reps K mg H Z (v :: vs) (d :: ds) (F ++ G)
end
section
variable {K : PySem.W.Frag} {mg : Str → Option Value} {H H' : Hp} {Z Z' : Addr → Prop}
theorem SqT.keep {a : Addr} {vs : List V} (h : SqT K H a vs) (k : ∀ a o, H a = some o → pers o = true → H' a = some o) : SqT K H' a vs := by
  (rcases h with (h | ⟨o, h⟩) | h)
  · exact .inl (.inl (k _ _ h rfl))
  · exact .inl (.inr ⟨o, k _ _ h rfl⟩)
  · exact .inr h
theorem Rd.keep {a : Addr} {u : HO} (h : Rd H a u) (k : ∀ o, H a = some o → H' a = some o) : Rd H' a u := by
  rcases h with h | ⟨o, h⟩
  · exact .inl (k _ h)
  · exact .inr ⟨o, k _ h⟩
theorem Rd.there {a : Addr} {u : HO} (h : Rd H a u) : ∃ o, H a = some o := by
  rcases h with h | ⟨o, h⟩
  · exact ⟨_, h⟩
  · exact ⟨_, h⟩
mutual
/-- what it leans on stands -/
theorem Rep.keep {v : V} {d : D} {F : List Addr} (r : Rep K mg H Z v d F) (k : ∀ a o, H a = some o → (Z a ∨ a ∈ F ∨ pers o = true) → H' a = some o) : Rep K mg H' Z v d F := by
  cases r with
  | non => exact .non
  | bl => exact .bl
  | int => exact .int
  | str => exact .str
  | ty => exact .ty
  | glo h => exact .glo h
  | tup h t => exact .tup (SqT.keep h fun a o e p => k a o e (.inr (.inr p))) (t.keep k)
  | scr h t => exact .scr (h.keep fun a o e p => k a o e (.inr (.inr p))) (t.keep k)
  | rawF h p z => exact .rawF (Rd.keep h fun o e => k _ o e (.inl z)) p z
  | rawO h p => exact .rawO (k _ _ h (.inr (.inl List.mem_cons_self))) p
  | lstF h z t => exact .lstF (k _ _ h (.inl z)) z (t.keep k)
  | lstO h t => exact .lstO (k _ _ h (.inr (.inl List.mem_cons_self))) (t.keep fun a o e q => k a o e (q.imp id fun q => q.imp (List.mem_cons_of_mem _) id))
  | dctF h z e t => exact .dctF (Rd.keep h fun o x => k _ o x (.inl z)) z e (t.keep k)
  | dctO h e t => exact .dctO (k _ _ h (.inr (.inl List.mem_cons_self))) e (t.keep fun a o e q => k a o e (q.imp id fun q => q.imp (List.mem_cons_of_mem _) id))
  | objF h z c e t => exact .objF (k _ _ h (.inl z)) z c e (t.keep k)
  | objO h c e t => exact .objO (k _ _ h (.inr (.inl List.mem_cons_self))) c e (t.keep fun a o e q => k a o e (q.imp id fun q => q.imp (List.mem_cons_of_mem _) id))
theorem Reps.keep {vs : List V} {ds : List D} {F : List Addr} (r : Reps K mg H Z vs ds F) (k : ∀ a o, H a = some o → (Z a ∨ a ∈ F ∨ pers o = true) → H' a = some o) : Reps K mg H' Z vs ds F := by
  cases r with
  | nil => exact .nil
  | cons h t => exact .cons (h.keep fun a o e q => k a o e (q.imp id fun q => q.imp (List.mem_append_left _) id)) (t.keep fun a o e q => k a o e (q.imp id fun q => q.imp (List.mem_append_right _) id))
end
mutual
/-- another place for what is shared: all that is tracked there -/
theorem Rep.other {v : V} {d : D} {F : List Addr} (r : Rep K mg H Z v d F) (k : ∀ a o, H a = some o → Z a → Z' a) : Rep K mg H Z' v d F := by
  cases r with
  | non => exact .non
  | bl => exact .bl
  | int => exact .int
  | str => exact .str
  | ty => exact .ty
  | glo h => exact .glo h
  | tup h t => exact .tup h (t.other k)
  | scr h t => exact .scr h (t.other k)
  | rawF h p z => exact .rawF h p (let ⟨o, x⟩ := Rd.there h; k _ o x z)
  | rawO h p => exact .rawO h p
  | lstF h z t => exact .lstF h (k _ _ h z) (t.other k)
  | lstO h t => exact .lstO h (t.other k)
  | dctF h z e t => exact .dctF h (let ⟨o, x⟩ := Rd.there h; k _ o x z) e (t.other k)
  | dctO h e t => exact .dctO h e (t.other k)
  | objF h z c e t => exact .objF h (k _ _ h z) c e (t.other k)
  | objO h c e t => exact .objO h c e (t.other k)
theorem Reps.other {vs : List V} {ds : List D} {F : List Addr} (r : Reps K mg H Z vs ds F) (k : ∀ a o, H a = some o → Z a → Z' a) : Reps K mg H Z' vs ds F := by
  cases r with
  | nil => exact .nil
  | cons h t => exact .cons (h.other k) (t.other k)
end
mutual
/-- frozen -/
theorem Rep.fz {v : V} {d : D} {F : List Addr} (r : Rep K mg H Z v d F) (k : ∀ a, Z a → Z' a) (f : ∀ a ∈ F, Z' a) : Rep K mg H Z' v (DL.fz d) [] := by
  cases r with
  | non => exact .non
  | bl => exact .bl
  | int => exact .int
  | str => exact .str
  | ty => exact .ty
  | glo h => exact .glo h
  | tup h t => exact .tup h (t.fz k f)
  | scr h t => exact .scr h (t.fz k f)
  | rawF h p z => exact .rawF h p (k _ z)
  | rawO h p => exact .rawF (.inl h) p (f _ List.mem_cons_self)
  | lstF h z t => exact .lstF h (k _ z) (t.fz k f)
  | lstO h t => exact .lstF h (f _ List.mem_cons_self) (t.fz k fun a q => f a (List.mem_cons_of_mem _ q))
  | dctF h z e t => exact .dctF h (k _ z) e (t.fz k f)
  | dctO h e t => exact .dctF (.inl h) (f _ List.mem_cons_self) e (t.fz k fun a q => f a (List.mem_cons_of_mem _ q))
  | objF h z c e t => exact .objF h (k _ z) c e (t.fz k f)
  | objO h c e t => exact .objF h (f _ List.mem_cons_self) c e (t.fz k fun a q => f a (List.mem_cons_of_mem _ q))
theorem Reps.fz {vs : List V} {ds : List D} {F : List Addr} (r : Reps K mg H Z vs ds F) (k : ∀ a, Z a → Z' a) (f : ∀ a ∈ F, Z' a) : Reps K mg H Z' vs (DL.fzs ds) [] := by
  cases r with
  | nil => exact .nil
  | cons h t =>
    have := Reps.cons (h.fz k fun a q => f a (List.mem_append_left _ q)) (t.fz k fun a q => f a (List.mem_append_right _ q))
    exact this
end
mutual
theorem Rep.own_nil {v : V} {d : D} {F : List Addr} (r : Rep K mg H Z v d F) (h : isFz d = true) : F = [] := by
  cases r with
  | tup _ t => exact t.own_nil h
  | lstO _ t => simp [isFz] at h
  | dctO _ _ t => simp [isFz] at h
  | objO _ _ _ t => simp [isFz] at h
  | rawO _ _ => simp [isFz] at h
  | _ => rfl
theorem Reps.own_nil {vs : List V} {ds : List D} {F : List Addr} (r : Reps K mg H Z vs ds F) (h : isFzs ds = true) : F = [] := by
  cases r with
  | nil => rfl
  | cons q t =>
    simp only [isFzs, Bool.and_eq_true] at h
    rw [q.own_nil h.1, t.own_nil h.2]; rfl
end
mutual
theorem Rep.noal {v : V} {d : D} {F : List Addr} (r : Rep K mg H Z v d F) (h : DL.noal d = true) : Rep K mg H Z' v d F := by
  cases r with
  | non => exact .non
  | bl => exact .bl
  | int => exact .int
  | str => exact .str
  | ty => exact .ty
  | glo q => exact .glo q
  | tup q t => exact .tup q (t.noal h)
  | scr q t => simp [DL.noal] at h
  | rawF q p z => simp [DL.noal] at h
  | rawO q p => exact .rawO q p
  | lstF q z t => simp [DL.noal] at h
  | lstO q t => exact .lstO q (t.noal (by simpa [DL.noal] using h))
  | dctF q z e t => simp [DL.noal] at h
  | dctO q e t => exact .dctO q e (t.noal (by simpa [DL.noal] using h))
  | objF q z c e t => simp [DL.noal] at h
  | objO q c e t => exact .objO q c e (t.noal (by simpa [DL.noal] using h))
theorem Reps.noal {vs : List V} {ds : List D} {F : List Addr} (r : Reps K mg H Z vs ds F) (h : DL.noals ds = true) : Reps K mg H Z' vs ds F := by
  cases r with
  | nil => exact .nil
  | cons q t =>
    simp only [DL.noals, Bool.and_eq_true] at h
    exact .cons (q.noal h.1) (t.noal h.2)
end
mutual
/-- what is its own is tracked, and may be changed -/
theorem Rep.own_at {v : V} {d : D} {F : List Addr} (r : Rep K mg H Z v d F) {a : Addr} (h : a ∈ F) : ∃ o, H a = some o ∧ pers o = false := by
  cases r with
  | tup q t => exact t.own_at h
  | lstO q t =>
    (rcases List.mem_cons.mp h with e | e)
    · subst e; exact ⟨_, q, rfl⟩
    · exact t.own_at e
  | dctO q e t =>
    (rcases List.mem_cons.mp h with e | e)
    · subst e; exact ⟨_, q, rfl⟩
    · exact t.own_at e
  | objO q c e t =>
    (rcases List.mem_cons.mp h with e | e)
    · subst e; exact ⟨_, q, rfl⟩
    · exact t.own_at e
  | rawO q p =>
    (rcases List.mem_cons.mp h with e | e)
    · subst e; exact ⟨_, q, p⟩
    · cases e
  | _ => cases h
theorem Reps.own_at {vs : List V} {ds : List D} {F : List Addr} (r : Reps K mg H Z vs ds F) {a : Addr} (h : a ∈ F) : ∃ o, H a = some o ∧ pers o = false := by
  cases r with
  | nil => cases h
  | cons q t =>
    rcases List.mem_append.mp h with e | e
    · exact q.own_at e
    · exact t.own_at e
end
theorem Reps.len {vs : List V} {ds : List D} {F : List Addr} (r : Reps K mg H Z vs ds F) : vs.length = ds.length := by
  induction vs generalizing ds F with
  | nil => cases r; rfl
  | cons v vs ih => cases r with
    | cons q t => simp [ih t]
end
abbrev PL := List (V × D)
/-- all pairs, their own parts one behind the other -/
inductive Rps (K : PySem.W.Frag) (mg : Str → Option Value) (H : Hp) (Z : Addr → Prop) : PL → List Addr → Prop
  | nil : Rps K mg H Z [] []
  | cons {v d P F G} : Rep K mg H Z v d F → Rps K mg H Z P G → Rps K mg H Z ((v, d) :: P) (F ++ G)
section
variable {K : PySem.W.Frag} {mg : Str → Option Value} {H H' : Hp} {Z Z' : Addr → Prop} {P Q : PL} {F G : List Addr}
theorem Rps.keep (r : Rps K mg H Z P F) (k : ∀ a o, H a = some o → (Z a ∨ a ∈ F ∨ pers o = true) → H' a = some o) : Rps K mg H' Z P F := by
  induction r with
  | nil => exact .nil
  | cons h _ ih => exact .cons (h.keep fun a o e q => k a o e (q.imp id fun q => q.imp (List.mem_append_left _) id)) (ih fun a o e q => k a o e (q.imp id fun q => q.imp (List.mem_append_right _) id))
theorem Rps.other (r : Rps K mg H Z P F) (k : ∀ a o, H a = some o → Z a → Z' a) : Rps K mg H Z' P F := by
  induction r with
  | nil => exact .nil
  | cons h _ ih => exact .cons (h.other k) ih
def fzP (P : PL) : PL := P.map fun p => (p.1, fz p.2)
theorem Rps.fz (r : Rps K mg H Z P F) (k : ∀ a, Z a → Z' a) (f : ∀ a ∈ F, Z' a) : Rps K mg H Z' (fzP P) [] := by
  induction r with
  | nil => exact .nil
  | cons h _ ih =>
    have := Rps.cons (h.fz k fun a q => f a (List.mem_append_left _ q)) (ih fun a q => f a (List.mem_append_right _ q))
    exact this
theorem Rps.own_at (r : Rps K mg H Z P F) {a : Addr} (h : a ∈ F) : ∃ o, H a = some o ∧ pers o = false := by
  induction r with
  | nil => cases h
  | cons q _ ih =>
    rcases List.mem_append.mp h with e | e
    · exact q.own_at e
    · exact ih e
theorem Rps.append (r : Rps K mg H Z P F) (q : Rps K mg H Z Q G) : Rps K mg H Z (P ++ Q) (F ++ G) := by
  induction r with
  | nil => exact q
  | cons h _ ih => rw [List.append_assoc]; exact .cons h ih
theorem Rps.split : ∀ {P : PL} {F : List Addr}, Rps K mg H Z (P ++ Q) F → ∃ F1 F2, F = F1 ++ F2 ∧ Rps K mg H Z P F1 ∧ Rps K mg H Z Q F2
  | [], F, r => ⟨[], F, rfl, .nil, r⟩
  | p :: P, F, r => by
    cases r with
    | cons h t =>
      obtain ⟨F1, F2, e, a, b⟩ := Rps.split t
      exact ⟨_, F2, by rw [e, List.append_assoc], .cons h a, b⟩
theorem Rps.perm (h : P.Perm Q) : ∀ {F : List Addr}, Rps K mg H Z P F → ∃ G, F.Perm G ∧ Rps K mg H Z Q G := by
  induction h with
  | nil => exact fun r => ⟨_, .refl _, r⟩
  | cons x _ ih =>
    intro F r
    cases r with
    | cons h t =>
      obtain ⟨G, p, t'⟩ := ih t
      exact ⟨_, p.append_left _, .cons h t'⟩
  | swap x y l =>
    intro F r
    cases r with
    | cons h t => cases t with
      | cons h' t' =>
        refine ⟨_, ?_, .cons h' (.cons h t')⟩
        (rw [← List.append_assoc, ← List.append_assoc])
        exact List.perm_append_comm.append_right _
  | trans _ _ ih1 ih2 =>
    intro F r
    obtain ⟨G, p, t⟩ := ih1 r
    obtain ⟨G', p', t'⟩ := ih2 t
    exact ⟨G', p.trans p', t'⟩
theorem Reps.zip {vs : List V} {ds : List D} {F : List Addr} (r : Reps K mg H Z vs ds F) : Rps K mg H Z (vs.zip ds) F := by
  induction vs generalizing ds F with
  | nil => cases r; exact .nil
  | cons v vs ih => cases r with
    | cons q t => exact .cons q (ih t)
theorem Rps.unzip : ∀ {vs : List V} {ds : List D} {F : List Addr}, vs.length = ds.length → Rps K mg H Z (vs.zip ds) F → Reps K mg H Z vs ds F
  | [], [], _, _, r => by cases r; exact .nil
  | [], _ :: _, _, h, _ => by simp at h
  | _ :: _, [], _, h, _ => by simp at h
  | v :: vs, d :: ds, _, h, r => by
    cases r with
    | cons q t => exact .cons q (Rps.unzip (by simpa using h) t)
end
structure Sp (K : PySem.W.Frag) (mg : Str → Option Value) (Z : Addr → Prop) (Hb H : Hp) (P : PL) : Prop where
  ex : ∃ F, Rps K mg H (fun a => Z a ∧ a ∉ F) P F ∧ F.Nodup ∧ ∀ a ∈ F, Hb a = none
  base : ∀ a o, Hb a = some o → H a = some o
  fresh : ∀ a, Hb a = none → Z a
section
variable {K : PySem.W.Frag} {mg : Str → Option Value} {H H' Hb : Hp} {Z Z' : Addr → Prop} {P Q : PL} {F : List Addr} {v w : V} {d t : D} {a p : Addr}
theorem Sp.perm (s : Sp K mg Z Hb H P) (h : P.Perm Q) : Sp K mg Z Hb H Q := by
  obtain ⟨⟨F, r, nd, hb⟩, b, fr⟩ := s
  obtain ⟨G, pm, r'⟩ := r.perm h
  exact ⟨⟨G, r'.other fun a o _ z => ⟨z.1, fun m => z.2 (pm.mem_iff.mpr m)⟩, pm.nodup_iff.mp nd, fun a m => hb a (pm.mem_iff.mpr m)⟩, b, fr⟩
theorem Sp.untr (s : Sp K mg Z Hb H P) (h : H p = Option.none) : Hb p = Option.none := by
  cases e : Hb p with
  | none => rfl
  | some o => rw [s.base _ _ e] at h; cases h
/-- a pair is given up -/
theorem Sp.drop (s : Sp K mg Z Hb H ((v, d) :: P)) : Sp K mg Z Hb H P := by
  obtain ⟨⟨F, r, nd, hb⟩, b, fr⟩ := s
  cases r with
  | cons h t =>
    exact ⟨⟨_, t.other fun a o _ z => ⟨z.1, fun m => z.2 (List.mem_append_right _ m)⟩, (List.nodup_append.mp nd).2.1, fun a m => hb a (List.mem_append_right _ m)⟩, b, fr⟩
theorem Sp.dropL : ∀ {L : PL}, Sp K mg Z Hb H (L ++ P) → Sp K mg Z Hb H P
  | [], s => s
  | _ :: _, s => Sp.dropL s.drop
/-- a pair that says nothing of the heap's own parts comes -/
theorem Sp.put (s : Sp K mg Z Hb H P) (h : ∀ Y, Rep K mg H Y v d []) : Sp K mg Z Hb H ((v, d) :: P) := by
  obtain ⟨⟨F, r, nd, hb⟩, b, fr⟩ := s
  exact ⟨⟨F, .cons (F := []) (h _) r, nd, hb⟩, b, fr⟩
/-- what is frozen may be had twice -/
theorem Sp.dup (s : Sp K mg Z Hb H ((v, d) :: P)) (h : isFz d = true) : Sp K mg Z Hb H ((v, d) :: (v, d) :: P) := by
  obtain ⟨⟨F, r, nd, hb⟩, b, fr⟩ := s
  refine ⟨⟨F, ?_, nd, hb⟩, b, fr⟩
  cases r with
  | cons q t =>
    have e := q.own_nil h
    subst e
    exact .cons (F := []) q (.cons (F := []) q t)
theorem Sp.freeze (s : Sp K mg Z Hb H ((v, d) :: P)) : Sp K mg Z Hb H ((v, DL.fz d) :: P) := by
  obtain ⟨⟨F, r, nd, hb⟩, b, fr⟩ := s
  cases r with
  | @cons _ _ _ F1 F2 q t =>
    have nd' := List.nodup_append.mp nd
    refine ⟨⟨F2, .cons (F := []) (q.fz (Z' := fun a => Z a ∧ a ∉ F2) (fun a z => ⟨z.1, fun m => z.2 (List.mem_append_right _ m)⟩) fun a m => ⟨fr a (hb a (List.mem_append_left _ m)), fun m' => nd'.2.2 a m a m' rfl⟩)
      (t.other fun a o _ z => ⟨z.1, fun m => z.2 (List.mem_append_right _ m)⟩), nd'.2.1, fun a m => hb a (List.mem_append_right _ m)⟩, b, fr⟩
/-- the heap grows -/
theorem Sp.grow (s : Sp K mg Z Hb H P) (k : ∀ a o, H a = some o → H' a = some o) : Sp K mg Z Hb H' P := by
  obtain ⟨⟨F, r, nd, hb⟩, b, fr⟩ := s
  exact ⟨⟨F, r.keep fun a o e _ => k a o e, nd, hb⟩, fun a o e => k a o (b a o e), fr⟩
theorem grow_upd {o : HO} (h : H p = none) : ∀ a u, H a = some u → upd H p o a = some u := fun a u e => by
  rw [upd_ne (ne_of_none e h)]; exact e
/-- the heap grows by one object, into which pairs at the head go; what they become -/
theorem Sp.new {o : HO} {v : V} {d : D} (s : Sp K mg Z Hb H (Q ++ P)) (hp : H p = none) (f : ∀ Y F, Rps K mg (upd H p o) Y Q F → ∃ F', Rep K mg (upd H p o) Y v d F' ∧ (F' = F ∨ F' = p :: F)) : Sp K mg Z Hb (upd H p o) ((v, d) :: P) := by
  have hbp := s.untr hp
  obtain ⟨⟨F, r, nd, hb⟩, b, fr⟩ := s
  have hpF : p ∉ F := fun m => by
    obtain ⟨o, e, _⟩ := r.own_at m
    rw [hp] at e; cases e
  have b' : ∀ a u, Hb a = some u → upd H p o a = some u := fun a u e => grow_upd hp a u (b a u e)
  have t1 : Rps K mg (upd H p o) (fun a => Z a ∧ a ∉ p :: F) (Q ++ P) F := by
    refine Rps.keep (r.other fun a u e z => ⟨z.1, fun m => ?_⟩) fun a u e _ => grow_upd hp a u e
    rcases List.mem_cons.mp m with m | m
    · subst m; rw [hp] at e; cases e
    · exact z.2 m
  obtain ⟨F1, F2, rfl, r1, r2⟩ := t1.split
  obtain ⟨F', q, e⟩ := f _ F1 r1
  rcases e with rfl | rfl
  · exact ⟨⟨F' ++ F2, (Rps.cons q r2).other fun a _ _ z => ⟨z.1, fun m => z.2 (List.mem_cons_of_mem _ m)⟩, nd, hb⟩, b', fr⟩
  · refine ⟨⟨(p :: F1) ++ F2, .cons q r2, List.nodup_cons.mpr ⟨hpF, nd⟩, fun a m => ?_⟩, b', fr⟩
    rcases List.mem_cons.mp m with m | m
    · subst m; exact hbp
    · exact hb a m
theorem Sp.newL {vs : List V} {ds : List D} (s : Sp K mg Z Hb H (vs.zip ds ++ P)) (hl : vs.length = ds.length) (hp : H p = none) : Sp K mg Z Hb (upd H p (.lst vs)) ((.ref p, .lst true ds) :: P) :=
  s.new hp fun Y F r => ⟨_, .lstO upd_same (r.unzip hl), .inr rfl⟩
theorem Sp.newT {vs : List V} {ds : List D} (s : Sp K mg Z Hb H (vs.zip ds ++ P)) (hl : vs.length = ds.length) (hp : H p = none) : Sp K mg Z Hb (upd H p (.tup vs)) ((.ref p, .tup ds) :: P) :=
  s.new hp fun Y F r => ⟨_, .tup (SqT.of upd_same) (r.unzip hl), .inl rfl⟩
theorem Sp.newK {kvs : List (Key × V)} {ks : List Key} {ds : List D} (s : Sp K mg Z Hb H ((kvs.map (·.2)).zip ds ++ P)) (hl : kvs.length = ds.length) (hk : kvs.map (·.1) = ks ∧ ks.Nodup) (hp : H p = none) : Sp K mg Z Hb (upd H p (.dK kvs)) ((.ref p, .dct true ks ds) :: P) :=
  s.new hp fun Y F r => ⟨_, .dctO upd_same hk (r.unzip (by simpa using hl)), .inr rfl⟩
/-- a tuple is opened -/
theorem Sp.openT {ds : List D} (s : Sp K mg Z Hb H ((v, .tup ds) :: P)) : ∃ a vs, v = .ref a ∧ SqT K H a vs ∧ vs.length = ds.length ∧ Sp K mg Z Hb H (vs.zip ds ++ P) := by
  obtain ⟨⟨F, r, nd, hb⟩, b, fr⟩ := s
  cases r with
  | cons q t => cases q with
    | tup h ts => exact ⟨_, _, rfl, h, ts.len, ⟨_, (ts.zip).append t, nd, hb⟩, b, fr⟩
/-- what is had of a frozen pair -/
theorem Sp.part (s : Sp K mg Z Hb H ((v, d) :: P)) (h : isFz d = true) {w : V} {t : D} (f : ∀ Y, Rep K mg H Y v d [] → Rep K mg H Y w t []) : Sp K mg Z Hb H ((w, t) :: (v, d) :: P) := by
  obtain ⟨⟨F, r, nd, hb⟩, b, fr⟩ := s
  refine ⟨⟨F, ?_, nd, hb⟩, b, fr⟩
  cases r with
  | cons q t' =>
    have e := q.own_nil h
    subst e
    exact .cons (F := []) (f _ q) (.cons (F := []) q t')
theorem Reps.get {Y : Addr → Prop} {vs : List V} {ds : List D} (r : Reps K mg H Y vs ds []) : ∀ {i : Nat} {d : D}, ds[i]? = some d → ∃ v, vs[i]? = some v ∧ Rep K mg H Y v d [] := by
  generalize e : ([] : List Addr) = G at r
  induction vs generalizing ds G with
  | nil => cases r; intro i d h; simp at h
  | cons v vs ih => cases r with
    | @cons _ _ d0 ds0 F1 F2 q t =>
      obtain ⟨e1, e2⟩ := List.append_eq_nil_iff.mp e.symm
      subst e1 e2
      intro i d h
      cases i with
      | zero =>
        have e : d0 = d := by simpa using h
        subst e
        exact ⟨v, rfl, q⟩
      | succ i => exact ih [] rfl t (i := i) (by simpa using h)
/-- the state of a def that is called, what is handed to it at the head -/
theorem Sp.lend (s : Sp K mg Z Hb H (Q ++ P)) : ∃ Z' Hc, Sp K mg Z' Hc H Q ∧ ∀ H' Q', Sp K mg Z' Hc H' Q' → Sp K mg Z Hb H' (Q' ++ P) := by
  obtain ⟨⟨F, r, nd, hb⟩, b, fr⟩ := s
  obtain ⟨F1, F2, rfl, r1, r2⟩ := r.split
  have nd' := List.nodup_append.mp nd
  have t1 : ∀ a, a ∈ F1 → ∃ o, H a = some o ∧ pers o = false := fun a m => r1.own_at m
  have t2 : ∀ a, a ∈ F2 → ∃ o, H a = some o ∧ pers o = false := fun a m => r2.own_at m
  classical
  refine ⟨fun a => Z a ∧ a ∉ F2, fun a => if a ∈ F1 then none else H a, ⟨⟨F1, r1.other fun a _ _ z => ⟨⟨z.1, fun m => z.2 (List.mem_append_right _ m)⟩, fun m => z.2 (List.mem_append_left _ m)⟩, nd'.1, fun a m => if_pos m⟩, fun a o e => ?_, fun a e => ?_⟩, fun H' Q' s' => ?_⟩
  · by_cases m : a ∈ F1
    · rw [if_pos m] at e; cases e
    · rw [if_neg m] at e; exact e
  · by_cases m : a ∈ F1
    · exact ⟨fr a (hb a (List.mem_append_left _ m)), fun m' => nd'.2.2 a m a m' rfl⟩
    · rw [if_neg m] at e
      refine ⟨fr a ?_, fun m' => ?_⟩
      · cases q : Hb a with
        | none => rfl
        | some o => rw [b a o q] at e; cases e
      · obtain ⟨o, q, _⟩ := t2 a m'
        rw [q] at e; cases e
  · obtain ⟨⟨G, q, ndG, hG⟩, bG, fG⟩ := s'
    -- what stands outside of F1 stands
    have st : ∀ a o, a ∉ F1 → H a = some o → H' a = some o := fun a o m e => bG a o (by rw [if_neg m]; exact e)
    have gF : ∀ a, a ∈ G → a ∈ F1 ∨ H a = none := fun a m => by
      have := hG a m
      by_cases m' : a ∈ F1
      · exact .inl m'
      · rw [if_neg m'] at this; exact .inr this
    have dis : ∀ a, a ∈ G → a ∉ F2 := fun a m m' => by
      rcases gF a m with h | h
      · exact nd'.2.2 a h a m' rfl
      · obtain ⟨o, e, _⟩ := t2 a m'
        rw [e] at h; cases h
    refine ⟨⟨G ++ F2, Rps.append (q.other fun a o _ z => ⟨z.1.1, fun m => ?_⟩) ?_, List.nodup_append.mpr ⟨ndG, nd'.2.1, fun a m c m' e => dis a m (e ▸ m')⟩, fun a m => ?_⟩, fun a o e => ?_, fr⟩
    · rcases List.mem_append.mp m with m | m
      · exact z.2 m
      · exact z.1.2 m
    · refine Rps.other (Z := fun a => (Z a ∧ a ∉ G ++ F2) ∧ a ∉ F1) (Rps.keep (r2.other fun a o e z => ⟨⟨z.1, fun m => ?_⟩, fun m => z.2 (List.mem_append_left _ m)⟩) fun a o e z => ?_) fun a o _ z => z.1
      · rcases List.mem_append.mp m with m | m
        · rcases gF a m with h | h
          · exact z.2 (List.mem_append_left _ h)
          · rw [e] at h; cases h
        · exact z.2 (List.mem_append_right _ m)
      · refine st a o (fun m => ?_) e
        obtain ⟨u, e', p'⟩ := t1 a m
        rw [e] at e'; cases e'
        rcases z with z | z | z
        · exact z.2 m
        · exact nd'.2.2 a m a z rfl
        · rw [z] at p'; cases p'
    · rcases List.mem_append.mp m with m | m
      · rcases gF a m with h | h
        · exact hb a (List.mem_append_left _ h)
        · cases q' : Hb a with
          | none => rfl
          | some o => rw [b a o q'] at h; cases h
      · exact hb a (List.mem_append_right _ m)
    · by_cases m : a ∈ F1
      · rw [hb a (List.mem_append_left _ m)] at e; cases e
      · exact st a o m (b a o e)
/-- the object of an own part changes: what it holds is put together anew out of pairs that stand -/
theorem Sp.mut {o' : HO} {a : Addr} {d d' : D} {R G : PL} (s : Sp K mg Z Hb H ((.ref a, d) :: P))
    (op : ∀ Y F, Rep K mg H Y (.ref a) d F → ∃ F' R', F = a :: F' ∧ Rps K mg H Y R' F' ∧ R = R')
    (pm : (R ++ P).Perm (Q ++ G)) (cl : ∀ Y F, Rps K mg (upd H a o') Y Q F → Rep K mg (upd H a o') Y (.ref a) d' (a :: F)) : Sp K mg Z Hb (upd H a o') ((.ref a, d') :: G) := by
  obtain ⟨⟨F, r, nd, hb⟩, b, fr⟩ := s
  cases r with
  | @cons _ _ _ F1 F2 q t =>
    obtain ⟨F', R', rfl, qs, rfl⟩ := op _ _ q
    have nda : a ∉ F' ++ F2 := (List.nodup_cons.mp (by simpa using nd)).1
    have ndr : (F' ++ F2).Nodup := (List.nodup_cons.mp (by simpa using nd)).2
    obtain ⟨o, ho, hp⟩ := q.own_at (a := a) List.mem_cons_self
    have all := qs.append t
    obtain ⟨F3, pF, all'⟩ := all.perm pm
    have all2 : Rps K mg (upd H a o') (fun b => Z b ∧ b ∉ a :: F3) (Q ++ G) F3 := by
      refine Rps.keep (all'.other (Z' := fun b => Z b ∧ b ∉ a :: F3) fun c u _ z => ⟨z.1, fun m => ?_⟩) fun c u e z => ?_
      · rcases List.mem_cons.mp m with m | m
        · subst m; exact z.2 (by simp)
        · have := pF.mem_iff.mpr m
          exact z.2 (by simpa using Or.inr (List.mem_append.mp this))
      · have ne : c ≠ a := fun e' => by
          subst e'
          rcases z with z | z | z
          · exact z.2 List.mem_cons_self
          · exact nda (pF.mem_iff.mpr z)
          · rw [ho] at e; cases e; rw [hp] at z; cases z
        rw [upd_ne ne]; exact e
    obtain ⟨F4, F5, rfl, r4, r5⟩ := all2.split
    have hba : Hb a = none := hb a (by simp)
    refine ⟨⟨(a :: F4) ++ F5, .cons (cl _ _ r4) r5, ?_, fun c m => ?_⟩, fun c u e => ?_, fr⟩
    · exact List.nodup_cons.mpr ⟨fun m => nda (pF.mem_iff.mpr m), pF.nodup_iff.mp ndr⟩
    · rcases List.mem_cons.mp m with m | m
      · subst m; exact hba
      · exact hb c (by
          have := pF.mem_iff.mpr m
          simpa using Or.inr (List.mem_append.mp this))
    · have ne : c ≠ a := fun e' => by subst e'; rw [hba] at e; cases e
      rw [upd_ne ne]; exact b c u e
theorem Sp.mutL {ds : List D} {a : Addr} (s : Sp K mg Z Hb H ((.ref a, .lst true ds) :: P)) : ∃ vs, H a = some (.lst vs) ∧ vs.length = ds.length ∧
    ∀ vs' ds' G, vs'.length = ds'.length → (vs.zip ds ++ P).Perm (vs'.zip ds' ++ G) → Sp K mg Z Hb (upd H a (.lst vs')) ((.ref a, .lst true ds') :: G) := by
  have s0 := s
  obtain ⟨⟨F, r, nd, hb⟩, b, fr⟩ := s
  cases r with
  | cons q t => cases q with
    | @lstO _ vs _ F h ts =>
      refine ⟨vs, h, ts.len, fun vs' ds' G hl pm => s0.mut (R := vs.zip ds) (Q := vs'.zip ds') (fun Y F q => ?_) pm fun Y F r => .lstO upd_same (r.unzip hl)⟩
      cases q with
      | lstO h' t' =>
        have e := h.symm.trans h'
        cases e
        exact ⟨_, _, rfl, t'.zip, rfl⟩
theorem Sp.mutK {ks : List Key} {ds : List D} {a : Addr} (s : Sp K mg Z Hb H ((.ref a, .dct true ks ds) :: P)) : ∃ kvs, H a = some (.dK kvs) ∧ (kvs.map (·.1) = ks ∧ ks.Nodup) ∧ kvs.length = ds.length ∧
    ∀ kvs' ds' G, kvs'.length = ds'.length → (kvs'.map (·.1)).Nodup → ((kvs.map (·.2)).zip ds ++ P).Perm ((kvs'.map (·.2)).zip ds' ++ G) → Sp K mg Z Hb (upd H a (.dK kvs')) ((.ref a, .dct true (kvs'.map (·.1)) ds') :: G) := by
  have s0 := s
  obtain ⟨⟨F, r, nd, hb⟩, b, fr⟩ := s
  cases r with
  | cons q t => cases q with
    | @dctO _ kvs _ _ F h e ts =>
      refine ⟨kvs, h, e, by simpa using ts.len, fun vs' ds' G hl hnd pm => s0.mut (R := (kvs.map (·.2)).zip ds) (Q := (vs'.map (·.2)).zip ds') (fun Y F q => ?_) pm fun Y F r => .dctO upd_same ⟨rfl, hnd⟩ (r.unzip (by simpa using hl))⟩
      cases q with
      | dctO h' e' t' =>
        have e := h.symm.trans h'
        cases e
        exact ⟨_, _, rfl, t'.zip, rfl⟩
theorem Sp.mutO {c : Str} {ns : List Str} {ds : List D} {a : Addr} (s : Sp K mg Z Hb H ((.ref a, .obj true c ns ds) :: P)) : ∃ C dx fs, H a = some (.ins C dx fs) ∧ mg c = some (.ref C) ∧ fs.map (·.1) = ns ∧ fs.length = ds.length ∧
    ∀ fs' ds' G, fs'.length = ds'.length → ((fs.map (·.2)).zip ds ++ P).Perm ((fs'.map (·.2)).zip ds' ++ G) → Sp K mg Z Hb (upd H a (.ins C dx fs')) ((.ref a, .obj true c (fs'.map (·.1)) ds') :: G) := by
  have s0 := s
  obtain ⟨⟨F, r, nd, hb⟩, b, fr⟩ := s
  cases r with
  | cons q t => cases q with
    | @objO _ C dx fs _ _ _ F h hc e ts =>
      refine ⟨C, dx, fs, h, hc, e, by simpa using ts.len, fun vs' ds' G hl pm => s0.mut (R := (fs.map (·.2)).zip ds) (Q := (vs'.map (·.2)).zip ds') (fun Y F q => ?_) pm fun Y F r => .objO upd_same hc rfl (r.unzip (by simpa using hl))⟩
      cases q with
      | objO h' c' e' t' =>
        have e := h.symm.trans h'
        cases e
        exact ⟨_, _, rfl, t'.zip, rfl⟩
/-- an expression is reckoned over frozen pairs A; then A stands as it stood, if what came shares nothing; else frozen -/
theorem Sp.pure {A : PL} (s : Sp K mg Z Hb H (A ++ P)) : ∃ Z', Sp K mg Z' H H (fzP A) ∧ ∀ H' v d B, Sp K mg Z' H H' ((v, d) :: B) →
    (noal d = true → Sp K mg Z Hb H' ((v, d) :: (A ++ P))) ∧ Sp K mg Z Hb H' ((v, d) :: (fzP A ++ P)) := by
  have s0 := s
  obtain ⟨⟨F, r, nd, hb⟩, b, fr⟩ := s
  obtain ⟨F1, F2, rfl, r1, r2⟩ := r.split
  have nd' := List.nodup_append.mp nd
  have t2 : ∀ a, a ∈ F2 → ∃ o, H a = some o ∧ pers o = false := fun a m => r2.own_at m
  have untr : ∀ a, H a = none → Hb a = none := fun a e => by
    cases q : Hb a with
    | none => rfl
    | some o => rw [b a o q] at e; cases e
  have f1 : Rps K mg H (fun a => Z a ∧ a ∉ F2) (fzP A) [] := r1.fz (fun a z => ⟨z.1, fun m => z.2 (List.mem_append_right _ m)⟩) fun a m => ⟨fr a (hb a (List.mem_append_left _ m)), fun m' => nd'.2.2 a m a m' rfl⟩
  refine ⟨fun a => Z a ∧ a ∉ F2, ⟨⟨[], f1.other fun a _ _ z => ⟨z, by simp⟩, List.nodup_nil, fun a m => by cases m⟩, fun _ _ e => e, fun a e => ⟨fr a (untr a e), fun m => ?_⟩⟩, fun H' v d B s' => ?_⟩
  · obtain ⟨o, q, _⟩ := t2 a m
    rw [q] at e; cases e
  · obtain ⟨⟨G, q, ndG, hG⟩, bG, fG⟩ := s'
    cases q with
    | @cons _ _ _ Fd FB q tB =>
      have ndd := (List.nodup_append.mp ndG).1
      have hd : ∀ a ∈ Fd, H a = none := fun a m => hG a (List.mem_append_left _ m)
      have notd : ∀ a o, H a = some o → a ∉ Fd := fun a o e m => by rw [hd a m] at e; cases e
      have b' : ∀ a o, Hb a = some o → H' a = some o := fun a o e => bG a o (b a o e)
      refine ⟨fun hn => ⟨⟨Fd ++ (F1 ++ F2), .cons (q.noal hn) (Rps.keep (r.other fun a o e z => ⟨z.1, fun m => ?_⟩) fun a o e _ => bG a o e), ?_, fun a m => ?_⟩, b', fr⟩,
        ⟨⟨Fd ++ F2, .cons (q.other fun a o _ z => ⟨z.1.1, fun m => ?_⟩) (Rps.append (F := []) (Rps.keep (f1.other (Z' := fun a => Z a ∧ a ∉ Fd ++ F2) fun a o e z => ⟨z.1, fun m => ?_⟩) fun a o e _ => bG a o e) (Rps.keep (r2.other fun a o e z => ⟨z.1, fun m => ?_⟩) fun a o e _ => bG a o e)), ?_, fun a m => ?_⟩, b', fr⟩⟩
      · rcases List.mem_append.mp m with m | m
        · exact notd a o e m
        · exact z.2 m
      · exact List.nodup_append.mpr ⟨ndd, nd, fun a m c m' e => by
          subst e
          have : ∃ o, H a = some o := by
            rcases List.mem_append.mp m' with m' | m'
            · obtain ⟨o, q, _⟩ := r1.own_at m'; exact ⟨o, q⟩
            · obtain ⟨o, q, _⟩ := t2 a m'; exact ⟨o, q⟩
          obtain ⟨o, e⟩ := this
          exact notd a o e m⟩
      · rcases List.mem_append.mp m with m | m
        · exact untr a (hd a m)
        · exact hb a m
      · rcases List.mem_append.mp m with m | m
        · exact z.2 (List.mem_append_left _ m)
        · exact z.1.2 m
      · rcases List.mem_append.mp m with m | m
        · exact notd a o e m
        · exact z.2 m
      · rcases List.mem_append.mp m with m | m
        · exact notd a o e m
        · exact z.2 (List.mem_append_right _ m)
      · exact List.nodup_append.mpr ⟨ndd, nd'.2.1, fun a m c m' e => by
          subst e
          obtain ⟨o, q, _⟩ := t2 a m'
          exact notd a o q m⟩
      · rcases List.mem_append.mp m with m | m
        · exact untr a (hd a m)
        · exact hb a (List.mem_append_right _ m)
abbrev Env := List (Option D)
def prs : L2.St → Env → PL
  | some v :: σ, some d :: δ => (v, d) :: prs σ δ
  | _ :: σ, _ :: δ => prs σ δ
  | _, _ => []
/-- each slot that has a tree has a value -/
def Dom (σ : L2.St) (δ : Env) : Prop := σ.length = δ.length ∧ ∀ (i : Nat) (d : D), δ[i]? = some (some d) → ∃ v, σ[i]? = some (some v)
theorem prs_none : ∀ {σ : L2.St} {δ : Env} {i : Nat} (x : Option V), prs (σ.set i x) (δ.set i none) = prs σ (δ.set i none)
  | [], δ, i, x => by simp [prs]
  | s :: σ, [], i, x => by cases i <;> cases x <;> cases s <;> simp [prs]
  | s :: σ, d :: δ, 0, x => by cases x <;> cases s <;> simp [prs]
  | s :: σ, d :: δ, i + 1, x => by cases s <;> cases d <;> simp [prs, prs_none x]
theorem prs_get : ∀ {σ : L2.St} {δ : Env} {i : Nat} {v : V} {d : D}, σ[i]? = some (some v) → δ[i]? = some (some d) → (prs σ δ).Perm ((v, d) :: prs σ (δ.set i none))
  | [], _, i, v, d, h, _ => by simp at h
  | _ :: _, [], i, v, d, _, h => by simp at h
  | s :: σ, e :: δ, 0, v, d, h, h' => by
    have h1 : s = some v := by simpa using h
    have h2 : e = some d := by simpa using h'
    subst h1 h2
    simp [prs]
  | s :: σ, e :: δ, i + 1, v, d, h, h' => by
    have ih := prs_get (σ := σ) (δ := δ) (i := i) (v := v) (d := d) (by simpa using h) (by simpa using h')
    cases s with
    | none => cases e <;> simpa [prs] using ih
    | some x => cases e with
      | none => simpa [prs] using ih
      | some y =>
        simp only [List.set_cons_succ, prs]
        exact (ih.cons _).trans (.swap _ _ _)
theorem prs_set {σ : L2.St} {δ : Env} {i : Nat} {v : V} {d : D} (h : i < σ.length) (hl : σ.length = δ.length) : (prs (σ.set i (some v)) (δ.set i (some d))).Perm ((v, d) :: prs σ (δ.set i none)) := by
  have p := prs_get (σ := σ.set i (some v)) (δ := δ.set i (some d)) (i := i) (v := v) (d := d) (by simp [h]) (by rw [List.getElem?_set_self (by omega)])
  rw [List.set_set, prs_none] at p
  exact p
theorem Dom.set {σ : L2.St} {δ : Env} (h : Dom σ δ) (i : Nat) (v : V) (d : Option D) : Dom (σ.set i (some v)) (δ.set i d) := by
  refine ⟨by simp [h.1], fun j e q => ?_⟩
  rw [List.getElem?_set] at q ⊢
  by_cases hij : i = j
  · subst hij
    rw [if_pos rfl] at q ⊢
    by_cases hl : i < δ.length
    · rw [if_pos (by rw [h.1]; exact hl)]; exact ⟨v, rfl⟩
    · rw [if_neg hl] at q; cases q
  · rw [if_neg hij] at q ⊢
    exact h.2 j e q
/-- a slot's tree changes, or goes -/
theorem Dom.setD {σ : L2.St} {δ : Env} (h : Dom σ δ) {i : Nat} {d0 : D} (hi : δ[i]? = some (some d0)) (d : Option D) : Dom σ (δ.set i d) := by
  refine ⟨by simp [h.1], fun j e q => ?_⟩
  rw [List.getElem?_set] at q
  by_cases hij : i = j
  · subst hij; exact h.2 _ _ hi
  · rw [if_neg hij] at q
    exact h.2 j e q
theorem Dom.drop {σ : L2.St} {δ : Env} (h : Dom σ δ) (i : Nat) : Dom σ (δ.set i none) := by
  refine ⟨by simp [h.1], fun j e q => ?_⟩
  rw [List.getElem?_set] at q
  by_cases hij : i = j
  · subst hij
    rw [if_pos rfl] at q
    by_cases hl : i < δ.length
    · rw [if_pos hl] at q; cases q
    · rw [if_neg hl] at q; cases q
  · rw [if_neg hij] at q
    exact h.2 j e q
end
end DL
set_option Elab.async false
set_option linter.all false
set_option maxRecDepth 100000
set_option maxHeartbeats 4000001
namespace DL
open PySem L2
section
variable (X : Cx)
def wE (e : Expr) : TE := fun σ H Q => ∀ pins s, Inv X pins σ H s → wpAny (model X.prog X.w) X.A (eval e X.env) (EP X pins σ Q) X.xe s
def wT (e : Expr) : TT := fun σ H Q => ∀ pins s, Inv X pins σ H s → wpAny (model X.prog X.w) X.A (isTrue e X.env (eval e X.env)) (TP X pins σ Q) X.xe s
def wW (e : Expr) : TT := fun σ H Q => ∀ whole pins s, Inv X pins σ H s → wpAny (model X.prog X.w) X.A (isTrue e X.env whole) (TP X pins σ Q) X.xe s
def wA (es : List Expr) : TA := fun σ H Q => ∀ pos pins s, Inv X pins σ H s → wpAny (model X.prog X.w) X.A (spliced (backTo pos (starEach es X.env))) (AP X pins σ Q) X.xe s
def wS (st : Stmt) : TS := fun D σ H => ∀ pins s, Inv X pins σ H s → wpAny (model X.prog X.w) X.A (exec st X.env) (SP X pins D) X.xe s
def wSs (st : List Stmt) : TS := fun D σ H => ∀ pins s, Inv X pins σ H s → wpAny (model X.prog X.w) X.A (execs st X.env) (SP X pins D) X.xe s
def wG (tg : Expr) : TG := fun v σ H Q => ∀ pins s u, Inv X pins σ H s → RelV v u → wpAny (model X.prog X.w) X.A (assign tg X.env u) (fun _ s' => ∃ σ' H', Inv X pins σ' H' s' ∧ Q σ' H') X.xe s
def wGs (ts : List Expr) : TGs := fun vs σ H Q => ∀ pins s us, Inv X pins σ H s → Vals vs us → wpAny (model X.prog X.w) X.A (assignInOrder ((assignEach ts X.env).map (·.2)) us) (fun _ s' => ∃ σ' H', Inv X pins σ' H' s' ∧ Q σ' H') X.xe s
def wI (tg iter : Expr) : TI := fun σ H R => ∀ pins s, Inv X pins σ H s → wpAny (model X.prog X.w) X.A (eval iter X.env) (fun v s1 => wpAny (model X.prog X.w) X.A (pyIter v) (PIE X pins σ tg R) X.xe s1) X.xe s
def wR (f : Value → Value → Sem Value) : R2 := fun x y H Q => ∀ pins s σ u v, Inv X pins σ H s → RelV x u → RelV y v → wpAny (model X.prog X.w) X.A (f u v) (EP X pins σ Q) X.xe s
def wC (f : Value) : List V → Hp → VK → Prop := fun xs H Q => ∀ pins s σ us, Inv X pins σ H s → Vals xs us → wpAny (model X.prog X.w) X.A (call f us) (EP X pins σ Q) X.xe s
end
section
variable {X : Cx} {e : Expr} {es : List Expr} {st : Stmt} {sts : List Stmt} {tg iter : Expr}
theorem pe_w : PE X e (wE X e) := ⟨fun pins s σ H Q I h => h pins s I⟩
theorem pt_w : PT X e (wT X e) := ⟨fun pins s σ H Q I h => h pins s I⟩
theorem pw_w : PW X e (wW X e) := ⟨fun w pins s σ H Q I h => h w pins s I⟩
theorem pa_w : PA X es (wA X es) := ⟨fun pos pins s σ H Q I h => h pos pins s I⟩
theorem ps_w : PS X st (wS X st) := ⟨fun pins s σ H Q I h => h pins s I⟩
theorem pss_w : PSs X sts (wSs X sts) := ⟨fun pins s σ H Q I h => h pins s I⟩
theorem pg_w : PG X tg (wG X tg) := ⟨fun pins s σ H v u Q I r h => h pins s u I r⟩
theorem pgs_w : PGs X es (wGs X es) := ⟨fun pins s σ H v u Q I r h => h pins s u I r⟩
theorem pi_w : PI X tg iter (wI X tg iter) := ⟨fun pins s σ H R I h => h pins s I⟩
theorem opr_w {f : Value → Value → Sem Value} : OpR X f (wR X f) := fun pins s σ H x y v u Q I r1 r2 h => h pins s σ v u I r1 r2
theorem callr_w {f : Value} : CallR X f (wC X f) := fun pins s σ H xs us Q I r h => h pins s σ us I r
theorem wE_of {t : TE} (h : PE X e t) {σ : L2.St} {H : Hp} {Q : VK} (q : t σ H Q) : wE X e σ H Q := fun pins s I => h.run pins s σ H Q I q
theorem wT_of {t : TT} (h : PT X e t) {σ : L2.St} {H : Hp} {Q : Bool → Hp → Prop} (q : t σ H Q) : wT X e σ H Q := fun pins s I => h.run pins s σ H Q I q
theorem wW_of {t : TT} (h : PW X e t) {σ : L2.St} {H : Hp} {Q : Bool → Hp → Prop} (q : t σ H Q) : wW X e σ H Q := fun w pins s I => h.run w pins s σ H Q I q
theorem wA_of {t : TA} (h : PA X es t) {σ : L2.St} {H : Hp} {Q : List V → Hp → Prop} (q : t σ H Q) : wA X es σ H Q := fun pos pins s I => h.run pos pins s σ H Q I q
theorem wS_of {t : TS} (h : PS X st t) {σ : L2.St} {H : Hp} {D : Ends} (q : t D σ H) : wS X st D σ H := fun pins s I => h.run pins s σ H D I q
theorem wSs_of {t : TS} (h : PSs X sts t) {σ : L2.St} {H : Hp} {D : Ends} (q : t D σ H) : wSs X sts D σ H := fun pins s I => h.run pins s σ H D I q
theorem wG_of {t : TG} (h : PG X tg t) {v : V} {σ : L2.St} {H : Hp} {Q : L2.St → Hp → Prop} (q : t v σ H Q) : wG X tg v σ H Q := fun pins s u I r => h.run pins s σ H v u Q I r q
theorem wGs_of {t : TGs} (h : PGs X es t) {vs : List V} {σ : L2.St} {H : Hp} {Q : L2.St → Hp → Prop} (q : t vs σ H Q) : wGs X es vs σ H Q := fun pins s u I r => h.run pins s σ H vs u Q I r q
theorem wI_of {t : TI} (h : PI X tg iter t) {σ : L2.St} {H : Hp} {R : It → Hp → Prop} (q : t σ H R) : wI X tg iter σ H R := fun pins s I => h.run pins s σ H R I q
theorem wR_of {f : Value → Value → Sem Value} {r : R2} (h : OpR X f r) {x y : V} {H : Hp} {Q : VK} (q : r x y H Q) : wR X f x y H Q := fun pins s σ u v I r1 r2 => h pins s σ H x y u v Q I r1 r2 q
theorem wC_of {f : Value} {r : List V → Hp → VK → Prop} (h : CallR X f r) {xs : List V} {H : Hp} {Q : VK} (q : r xs H Q) : wC X f xs H Q := fun pins s σ us I r1 => h pins s σ H xs us Q I r1 q
end
/-- the state: temporary pairs L, and the slots -/
structure Sq (X : Cx) (Z : Addr → Prop) (Hb H : Hp) (σ : L2.St) (δ : Env) (L : PL) : Prop where
  sp : Sp X.K X.mg Z Hb H (L ++ prs σ δ)
  dom : Dom σ δ
abbrev ME := Env → Option (D × Env)
abbrev MT := Env → Option (Bool × Env)
def IG (X : Cx) (e : Expr) (m : ME) : Prop := ∀ {Z : Addr → Prop} {Hb H : Hp} {σ : L2.St} {δ : Env} {L : PL} {d : D} {δ' : Env}, Sq X Z Hb H σ δ L → m δ = some (d, δ') →
  ∀ Q : VK, (∀ v H', Sq X Z Hb H' σ δ' ((v, d) :: L) → Q v H') → wE X e σ H Q
def IT (X : Cx) (e : Expr) (m : MT) : Prop := ∀ {Z : Addr → Prop} {Hb H : Hp} {σ : L2.St} {δ : Env} {L : PL} {b : Bool} {δ' : Env}, Sq X Z Hb H σ δ L → m δ = some (b, δ') →
  ∀ Q : Bool → Hp → Prop, (∀ H', Sq X Z Hb H' σ δ' L → Q b H') → wT X e σ H Q
def IW (X : Cx) (e : Expr) (m : MT) : Prop := ∀ {Z : Addr → Prop} {Hb H : Hp} {σ : L2.St} {δ : Env} {L : PL} {b : Bool} {δ' : Env}, Sq X Z Hb H σ δ L → m δ = some (b, δ') →
  ∀ Q : Bool → Hp → Prop, (∀ H', Sq X Z Hb H' σ δ' L → Q b H') → wW X e σ H Q
section
variable {X : Cx} {Z : Addr → Prop} {Hb H H' : Hp} {σ : L2.St} {δ δ' : Env} {L : PL} {v : V} {d : D}
theorem Sq.put (s : Sq X Z Hb H σ δ L) (h : ∀ Y, Rep X.K X.mg H Y v d []) : Sq X Z Hb H σ δ ((v, d) :: L) := ⟨s.sp.put h, s.dom⟩
theorem Sq.drop (s : Sq X Z Hb H σ δ ((v, d) :: L)) : Sq X Z Hb H σ δ L := ⟨Sp.drop s.sp, s.dom⟩
end
def mVar (i : Nat) : ME := fun δ => match δ[i]? with
  | some (some d) => if isFz d then some (d, δ) else some (fz d, δ.set i (some (fz d)))
  | _ => none
/-- a name that is not asked any more -/
def mMv (i : Nat) : ME := fun δ => match δ[i]? with
  | some (some d) => some (d, δ.set i none)
  | _ => none
def mC (d : D) : ME := fun δ => some (d, δ)
section
variable {X : Cx}
theorem prs_back {σ : L2.St} {δ : Env} {i : Nat} {v : V} {d d' : D} (h : σ[i]? = some (some v)) (h' : δ[i]? = some (some d)) : (prs σ (δ.set i (some d'))).Perm ((v, d') :: prs σ (δ.set i none)) := by
  have p := prs_get (σ := σ) (δ := δ.set i (some d')) (i := i) (v := v) (d := d') h (by
    rw [List.getElem?_set_self]
    exact (List.getElem?_eq_some_iff.mp h').1)
  rw [List.set_set] at p
  exact p
theorem ig_var {x : Str} {pos : Pos} (i : Nat) (hp : PE X (.Name x pos) (tVar i)) : IG X (.Name x pos) (mVar i) := by
  intro Z Hb H σ δ L d δ' s e Q q
  unfold mVar at e
  split at e
  · rename_i d0 hd
    obtain ⟨v, hv⟩ := s.dom.2 i d0 hd
    refine wE_of hp ⟨v, hv, q v H ?_⟩
    have pm := prs_get hv hd
    have s1 : Sp X.K X.mg Z Hb H ((v, d0) :: (L ++ prs σ (δ.set i none))) := s.sp.perm ((pm.append_left L).trans List.perm_middle)
    split at e
    · rename_i hf
      cases e
      exact ⟨(s1.dup hf).perm (((pm.append_left L).trans List.perm_middle).symm.cons _), s.dom⟩
    · cases e
      have s2 := s1.freeze.dup (isFz_fz d0)
      refine ⟨s2.perm (((((prs_back hv hd).append_left L).trans List.perm_middle).symm).cons _), s.dom.setD hd _⟩
  · cases e
theorem ig_mv {x : Str} {pos : Pos} (i : Nat) (hp : PE X (.Name x pos) (tVar i)) : IG X (.Name x pos) (mMv i) := by
  intro Z Hb H σ δ L d δ' s e Q q
  unfold mMv at e
  split at e
  · rename_i d0 hd
    obtain ⟨v, hv⟩ := s.dom.2 i d0 hd
    cases e
    exact wE_of hp ⟨v, hv, q v H ⟨s.sp.perm (((prs_get hv hd).append_left L).trans List.perm_middle), s.dom.drop i⟩⟩
  · cases e
/-- a constant of the text -/
theorem ig_c {e : Expr} {v : V} {d : D} (hp : PE X e (tC v)) (r : ∀ H Y, Rep X.K X.mg H Y v d []) : IG X e (mC d) := by
  intro Z Hb H σ δ L d δ' s e Q q
  cases e
  exact wE_of hp (q v H (s.put (r H)))
theorem ig_int {i j pos} : IG X (.Constant (.int i) j pos) (mC (.int i)) := ig_c pe_int fun _ _ => .int
theorem ig_bl {i j pos} : IG X (.Constant (.bool i) j pos) (mC (.bl i)) := ig_c pe_bl fun _ _ => .bl
theorem ig_non {j pos} : IG X (.Constant .none j pos) (mC .non) := ig_c pe_non fun _ _ => .non
theorem ig_str {i j pos} : IG X (.Constant (.str i) j pos) (mC (.str i)) := ig_c pe_str fun _ _ => .str
end
def keepM : List Bool → Env → Env
  | true :: m, d :: δ => d :: keepM m δ
  | false :: m, _ :: δ => none :: keepM m δ
  | [], _ :: δ => none :: keepM [] δ
  | _, [] => []
def restM : List Bool → Env → Env
  | true :: m, _ :: δ => none :: restM m δ
  | false :: m, d :: δ => d :: restM m δ
  | [], δ => δ
  | _, [] => []
def fzM : List Bool → Env → Env
  | true :: m, d :: δ => d.map fz :: fzM m δ
  | false :: m, d :: δ => d :: fzM m δ
  | [], δ => δ
  | _, [] => []
def fzE (δ : Env) : Env := δ.map fun d => d.map fz
def pur (m : List Bool) (f : ME) : ME := fun δ => match f (fzE (keepM m δ)) with
  | some (d, _) => some (d, if noal d then δ else fzM m δ)
  | none => none
def purT (m : List Bool) (f : MT) : MT := fun δ => match f (fzE (keepM m δ)) with
  | some (b, _) => some (b, δ)
  | none => none
theorem prs_nil {σ : L2.St} : prs σ [] = [] := by cases σ with
  | nil => rfl
  | cons s _ => cases s <;> rfl
theorem prs_nones : ∀ {σ : L2.St} {δ : Env}, prs σ (keepM [] δ) = []
  | [], δ => by cases δ <;> rfl
  | s :: σ, [] => by cases s <;> rfl
  | s :: σ, d :: δ => by cases s <;> simp [keepM, prs, prs_nones]
theorem prs_split : ∀ (m : List Bool) (σ : L2.St) (δ : Env), (prs σ δ).Perm (prs σ (keepM m δ) ++ prs σ (restM m δ))
  | m, [], δ => by simp [prs]
  | m, s :: σ, [] => by cases m <;> simp [keepM, restM, prs_nil]
  | [], s :: σ, d :: δ => by
    rw [prs_nones]
    simp [restM]
  | true :: m, s :: σ, d :: δ => by
    have ih := prs_split m σ δ
    cases s <;> cases d <;> simp [keepM, restM, prs, ih]
  | false :: m, s :: σ, d :: δ => by
    have ih := prs_split m σ δ
    cases s with
    | none => cases d <;> simpa [keepM, restM, prs] using ih
    | some v => cases d with
      | none => simpa [keepM, restM, prs] using ih
      | some y =>
        simp only [keepM, restM, prs]
        exact (ih.cons _).trans List.perm_middle.symm
theorem prs_fzE : ∀ (σ : L2.St) (δ : Env), prs σ (fzE δ) = fzP (prs σ δ)
  | [], δ => by cases δ <;> rfl
  | s :: σ, [] => by rw [fzE, List.map_nil, prs_nil]; rfl
  | s :: σ, d :: δ => by
    have ih := prs_fzE σ δ
    unfold fzE at ih
    cases s <;> cases d <;> simp [fzE, prs, fzP, ih]
theorem prs_fzM : ∀ (m : List Bool) (σ : L2.St) (δ : Env), (prs σ (fzM m δ)).Perm (fzP (prs σ (keepM m δ)) ++ prs σ (restM m δ))
  | m, [], δ => by simp [prs, fzP]
  | m, s :: σ, [] => by cases m <;> simp [keepM, restM, fzM, prs_nil, fzP]
  | [], s :: σ, d :: δ => by
    rw [prs_nones]
    simp [restM, fzM, fzP]
  | true :: m, s :: σ, d :: δ => by
    have ih := prs_fzM m σ δ
    cases s <;> cases d <;> simpa [keepM, restM, fzM, prs, fzP] using ih
  | false :: m, s :: σ, d :: δ => by
    have ih := prs_fzM m σ δ
    cases s with
    | none => cases d <;> simpa [keepM, restM, fzM, prs] using ih
    | some v => cases d with
      | none => simpa [keepM, restM, fzM, prs] using ih
      | some y =>
        simp only [keepM, restM, fzM, prs]
        exact (ih.cons _).trans List.perm_middle.symm
theorem keepM_get : ∀ (m : List Bool) (δ : Env) (i : Nat) (d : D), (keepM m δ)[i]? = some (some d) → δ[i]? = some (some d)
  | m, [], i, d, h => by cases m with
    | nil => simp [keepM] at h
    | cons b m => cases b <;> simp [keepM] at h
  | [], x :: δ, 0, d, h => by simp [keepM] at h
  | [], x :: δ, i + 1, d, h => by simpa using keepM_get [] δ i d (by simpa [keepM] using h)
  | true :: m, x :: δ, 0, d, h => by simpa [keepM] using h
  | true :: m, x :: δ, i + 1, d, h => by simpa using keepM_get m δ i d (by simpa [keepM] using h)
  | false :: m, x :: δ, 0, d, h => by simp [keepM] at h
  | false :: m, x :: δ, i + 1, d, h => by simpa using keepM_get m δ i d (by simpa [keepM] using h)
theorem keepM_len : ∀ (m : List Bool) (δ : Env), (keepM m δ).length = δ.length
  | m, [] => by cases m with
    | nil => rfl
    | cons b m => cases b <;> rfl
  | [], x :: δ => by simp [keepM, keepM_len [] δ]
  | true :: m, x :: δ => by simp [keepM, keepM_len m δ]
  | false :: m, x :: δ => by simp [keepM, keepM_len m δ]
theorem fzM_len : ∀ (m : List Bool) (δ : Env), (fzM m δ).length = δ.length
  | m, [] => by cases m with
    | nil => rfl
    | cons b m => cases b <;> rfl
  | [], x :: δ => rfl
  | true :: m, x :: δ => by simp [fzM, fzM_len m δ]
  | false :: m, x :: δ => by simp [fzM, fzM_len m δ]
theorem fzM_get : ∀ (m : List Bool) (δ : Env) (i : Nat) (d : D), (fzM m δ)[i]? = some (some d) → ∃ d0, δ[i]? = some (some d0)
  | m, [], i, d, h => by cases m with
    | nil => simp [fzM] at h
    | cons b m => cases b <;> simp [fzM] at h
  | [], x :: δ, i, d, h => ⟨d, h⟩
  | true :: m, x :: δ, 0, d, h => by
    cases x with
    | none => simp [fzM] at h
    | some y => exact ⟨y, rfl⟩
  | true :: m, x :: δ, i + 1, d, h => by simpa using fzM_get m δ i d (by simpa [fzM] using h)
  | false :: m, x :: δ, 0, d, h => ⟨d, by simpa [fzM] using h⟩
  | false :: m, x :: δ, i + 1, d, h => by simpa using fzM_get m δ i d (by simpa [fzM] using h)
theorem Dom.keepM {σ : L2.St} {δ : Env} (h : Dom σ δ) (m : List Bool) : Dom σ (fzE (keepM m δ)) := by
  refine ⟨by simp [fzE, keepM_len, h.1], fun i d q => ?_⟩
  unfold fzE at q
  rw [List.getElem?_map] at q
  cases e : (DL.keepM m δ)[i]? with
  | none => rw [e] at q; cases q
  | some x => cases x with
    | none => rw [e] at q; cases q
    | some y => exact h.2 i y (keepM_get m δ i y e)
theorem Dom.fzM {σ : L2.St} {δ : Env} (h : Dom σ δ) (m : List Bool) : Dom σ (fzM m δ) :=
  ⟨by simp [fzM_len, h.1], fun i d q => let ⟨d0, e⟩ := fzM_get m δ i d q; h.2 i d0 e⟩
section
variable {X : Cx} {e : Expr}
theorem ig_pur (m : List Bool) {f : ME} (h : IG X e f) : IG X e (pur m f) := by
  intro Z Hb H σ δ L d δ' s e' Q q
  unfold pur at e'
  split at e'
  · rename_i d0 δ0 hf
    cases e'
    have s1 : Sp X.K X.mg Z Hb H (prs σ (keepM m δ) ++ (prs σ (restM m δ) ++ L)) := s.sp.perm (((prs_split m σ δ).append_left L).trans (by
      rw [← List.append_assoc (prs σ (keepM m δ))]
      exact List.perm_append_comm))
    obtain ⟨Z', sp, back⟩ := s1.pure
    have sq : Sq X Z' H H σ (fzE (keepM m δ)) [] := ⟨by rw [prs_fzE]; exact sp, s.dom.keepM m⟩
    refine h sq hf Q fun v H' s' => q v H' ?_
    obtain ⟨b1, b2⟩ := back H' v d _ s'.sp
    by_cases hn : noal d = true
    · rw [if_pos hn]
      refine ⟨(b1 hn).perm ((?_ : List.Perm _ _).cons _), s.dom⟩
      refine List.Perm.trans ?_ ((prs_split m σ δ).symm.append_left L)
      rw [← List.append_assoc]
      exact List.perm_append_comm
    · rw [if_neg hn]
      refine ⟨b2.perm ((?_ : List.Perm _ _).cons _), s.dom.fzM m⟩
      refine List.Perm.trans ?_ ((prs_fzM m σ δ).symm.append_left L)
      rw [← List.append_assoc]
      exact List.perm_append_comm
  · cases e'
theorem it_pur (m : List Bool) {f : MT} (h : IT X e f) : IT X e (purT m f) := by
  intro Z Hb H σ δ L d δ' s e' Q q
  unfold purT at e'
  split at e'
  · rename_i d0 δ0 hf
    cases e'
    have s1 : Sp X.K X.mg Z Hb H (prs σ (keepM m δ) ++ (prs σ (restM m δ) ++ L)) := s.sp.perm (((prs_split m σ δ).append_left L).trans (by
      rw [← List.append_assoc (prs σ (keepM m δ))]
      exact List.perm_append_comm))
    obtain ⟨Z', sp, back⟩ := s1.pure
    have sq : Sq X Z' H H σ (fzE (keepM m δ)) [] := ⟨by rw [prs_fzE]; exact sp, s.dom.keepM m⟩
    refine h sq hf Q fun H' s' => q H' ?_
    have s2 : Sp X.K X.mg Z' H H' ((V.non, D.non) :: prs σ _) := s'.sp.put fun _ => .non
    have b1 := ((back H' _ _ _ s2).1 rfl).drop
    refine ⟨b1.perm ?_, s.dom⟩
    refine List.Perm.trans ?_ ((prs_split m σ δ).symm.append_left L)
    rw [← List.append_assoc]
    exact List.perm_append_comm
  · cases e'
end
end DL
set_option Elab.async false
set_option linter.all false
set_option maxRecDepth 100000
set_option maxHeartbeats 4000001
namespace DL
open PySem L2
section
variable {K : PySem.W.Frag} {mg : Str → Option Value} {H Hb : Hp} {Z : Addr → Prop} {P : PL} {v : V}
theorem Sp.head {d : D} (s : Sp K mg Z Hb H ((v, d) :: P)) : ∃ Y F, Rep K mg H Y v d F := by
  obtain ⟨⟨F, r, _, _⟩, _, _⟩ := s
  cases r with
  | cons q t => exact ⟨_, _, q⟩
theorem Sp.int {i : Int} (s : Sp K mg Z Hb H ((v, .int i) :: P)) : v = .int i := by obtain ⟨Y, F, q⟩ := s.head; cases q; rfl
theorem Sp.bl {i : Bool} (s : Sp K mg Z Hb H ((v, .bl i) :: P)) : v = .bl i := by obtain ⟨Y, F, q⟩ := s.head; cases q; rfl
theorem Sp.str {i : Str} (s : Sp K mg Z Hb H ((v, .str i) :: P)) : v = .str i := by obtain ⟨Y, F, q⟩ := s.head; cases q; rfl
theorem Sp.non (s : Sp K mg Z Hb H ((v, .non) :: P)) : v = .non := by obtain ⟨Y, F, q⟩ := s.head; cases q; rfl
theorem Sp.ty {i : BT} (s : Sp K mg Z Hb H ((v, .ty i) :: P)) : v = .ty i.name := by obtain ⟨Y, F, q⟩ := s.head; cases q; rfl
theorem Sp.lst {o : Bool} {ds : List D} (s : Sp K mg Z Hb H ((v, .lst o ds) :: P)) : ∃ a vs, v = .ref a ∧ H a = some (.lst vs) ∧ vs.length = ds.length ∧ Sp K mg Z Hb H (vs.zip ds ++ P) := by
  obtain ⟨⟨F, r, nd, hb⟩, b, fr⟩ := s
  cases r with
  | @cons _ _ _ F1 F2 q t => cases q with
    | lstF h z ts => exact ⟨_, _, rfl, h, ts.len, ⟨_, (ts.zip).append t, nd, hb⟩, b, fr⟩
    | @lstO a vs _ F h ts =>
      refine ⟨_, _, rfl, h, ts.len, ⟨_, ((ts.zip).append t).other fun c _ _ z => ⟨z.1, fun m => z.2 (List.mem_cons_of_mem _ m)⟩, (List.nodup_cons.mp nd).2, fun c m => hb c (List.mem_cons_of_mem _ m)⟩, b, fr⟩
theorem Sp.scr {ds : List D} (s : Sp K mg Z Hb H ((v, .scr ds) :: P)) : ∃ a vs, v = .ref a ∧ ScrAt K H a vs ∧ vs.length = ds.length := by
  obtain ⟨Y, F, q⟩ := s.head
  cases q with
  | scr h ts => exact ⟨_, _, rfl, h, ts.len⟩
theorem Sp.tup {ds : List D} (s : Sp K mg Z Hb H ((v, .tup ds) :: P)) : ∃ a vs, v = .ref a ∧ SqT K H a vs ∧ vs.length = ds.length ∧ Sp K mg Z Hb H (vs.zip ds ++ P) := s.openT
end
mutual
def toPy : D → Option PyData
  | .non => some .none
  | .bl b => some (.bool b)
  | .int i => some (.int i)
  | .str x => some (.str x)
  | .tup ds => (toPys ds).map .tuple
  | .lst _ ds => (toPys ds).map .list
  | .scr ds => (toPys ds).map .list
  | _ => none
def toPys : List D → Option (List PyData)
  | [] => some []
  | d :: r => match toPy d, toPys r with
    | some p, some q => some (p :: q)
    | _, _ => none
end
section
variable {K : PySem.W.Frag} {mg : Str → Option Value} {H Hb : Hp} {Z : Addr → Prop}
mutual
theorem Rep.dp {v : V} {d : D} {F : List Addr} (r : Rep K mg H Z v d F) {p : PyData} (e : toPy d = some p) : Dp K H v p := by
  cases r with
  | non => cases e; exact .non
  | bl => cases e; exact .bl _
  | int => cases e; exact .int _
  | str => cases e; exact .str _
  | ty => cases e
  | glo _ => cases e
  | tup h t =>
    simp only [toPy, Option.map_eq_some_iff] at e
    obtain ⟨ps, e1, e2⟩ := e
    subst e2
    exact .tup h (t.dps e1)
  | scr h t =>
    simp only [toPy, Option.map_eq_some_iff] at e
    obtain ⟨ps, e1, e2⟩ := e
    subst e2
    exact .lst h.sq (t.dps e1)
  | lstF h z t =>
    simp only [toPy, Option.map_eq_some_iff] at e
    obtain ⟨ps, e1, e2⟩ := e
    subst e2
    exact .lst (.of h) (t.dps e1)
  | lstO h t =>
    simp only [toPy, Option.map_eq_some_iff] at e
    obtain ⟨ps, e1, e2⟩ := e
    subst e2
    exact .lst (.of h) (t.dps e1)
  | dctF _ _ _ _ => cases e
  | dctO _ _ _ => cases e
  | objF _ _ _ _ _ => cases e
  | objO _ _ _ _ => cases e
  | rawF _ _ _ => cases e
  | rawO _ _ => cases e
theorem Reps.dps {vs : List V} {ds : List D} {F : List Addr} (r : Reps K mg H Z vs ds F) {ps : List PyData} (e : toPys ds = some ps) : DpAll K H vs ps := by
  cases r with
  | nil => cases e; exact .nil
  | cons q t =>
    simp only [toPys] at e
    split at e
    · rename_i p ps' e1 e2
      cases e
      exact .cons (q.dp e1) (t.dps e2)
    · cases e
end
theorem Sp.dp {P : PL} {v : V} {d : D} {p : PyData} (s : Sp K mg Z Hb H ((v, d) :: P)) (e : toPy d = some p) : Dp K H v p := by
  obtain ⟨Y, F, q⟩ := s.head; exact q.dp e
end
def BR (X : Cx) (f : Value → Value → Sem Value) (g : D → D → Option D) : Prop := ∀ {Z : Addr → Prop} {Hb H : Hp} {P : PL} {x y : V} {dx dy d : D}, Sp X.K X.mg Z Hb H ((y, dy) :: (x, dx) :: P) → g dx dy = some d →
  ∀ Q : VK, (∀ v H', Sp X.K X.mg Z Hb H' ((v, d) :: P) → Q v H') → wR X f x y H Q
def mBin (g : D → D → Option D) (a b : ME) : ME := fun δ => match a δ with
  | some (x, δ1) => match b δ1 with
    | some (y, δ2) => match g x y with
      | some z => some (z, δ2)
      | none => none
    | none => none
  | none => none
section
variable {X : Cx} {a b : Expr} {ma mb : ME} {g : D → D → Option D} {pos : Pos}
theorem bin_of {δ δ' : Env} {d : D} (e : mBin g ma mb δ = some (d, δ')) : ∃ x δ1 y, ma δ = some (x, δ1) ∧ mb δ1 = some (y, δ') ∧ g x y = some d := by
  unfold mBin at e
  split at e
  · rename_i x δ1 e1
    split at e
    · rename_i y δ2 e2
      split at e
      · rename_i z e3
        cases e
        exact ⟨x, δ1, y, e1, e2, e3⟩
      · cases e
    · cases e
  · cases e
theorem bin_run {f : Value → Value → Sem Value} (ho : BR X f g) (ha : IG X a ma) (hb : IG X b mb) {Z : Addr → Prop} {Hb H : Hp} {σ : L2.St} {δ δ' : Env} {L : PL} {d : D} (s : Sq X Z Hb H σ δ L) (e : mBin g ma mb δ = some (d, δ'))
    (Q : VK) (q : ∀ v H', Sq X Z Hb H' σ δ' ((v, d) :: L) → Q v H') : tOp (wR X f) (wE X a) (wE X b) σ H Q := by
  obtain ⟨x, δ1, y, e1, e2, e3⟩ := bin_of e
  exact ha s e1 _ fun v H1 s1 => hb s1 e2 _ fun w H2 s2 => ho s2.sp e3 Q fun z H3 s3 => q z H3 ⟨s3, s2.dom⟩
theorem ig_bin {op : Operator} (ho : BR X (binaryOp op) g) (ha : IG X a ma) (hb : IG X b mb) : IG X (.BinOp a op b pos) (mBin g ma mb) := by
  intro Z Hb H σ δ L d δ' s e Q q
  exact wE_of (pe_op opr_w pe_w pe_w) (bin_run ho ha hb s e Q q)
theorem ig_cmp {op : CmpOp} (ho : BR X (compareOp op) g) (ha : IG X a ma) (hb : IG X b mb) (hm : behindInMarks op b = false) : IG X (.Compare a [op] [b] pos) (mBin g ma mb) := by
  intro Z Hb H σ δ L d δ' s e Q q
  exact wE_of (pe_cmpR opr_w pe_w pe_w hm) (bin_run ho ha hb s e Q q)
/-- a mirror whose value is a bool -/
def toT (m : ME) : MT := fun δ => match m δ with
  | some (.bl b, δ') => some (b, δ')
  | _ => none
theorem toT_of {m : ME} {δ δ' : Env} {b : Bool} (e : toT m δ = some (b, δ')) : m δ = some (.bl b, δ') := by
  unfold toT at e
  split at e
  · rename_i b' δ1 e1
    cases e; exact e1
  · cases e
theorem it_cmp {op : CmpOp} (ho : BR X (compareOp op) g) (ha : IG X a ma) (hb : IG X b mb) (hm : behindInMarks op b = false) : IT X (.Compare a [op] [b] pos) (toT (mBin g ma mb)) := by
  intro Z Hb H σ δ L d δ' s e Q q
  refine wT_of (pt_cmpR opr_w pe_w pe_w hm) ?_
  exact bin_run ho ha hb s (toT_of e) _ fun v H' s' => ⟨d, s'.sp.bl, q H' s'.drop⟩
/-- a chain of two -/
def mChain (g g' : D → D → Option D) (a b c : ME) : ME := fun δ => match a δ with
  | some (x, δ1) => match b δ1 with
    | some (y, δ2) => if isFz y then match g x y with
      | some (.bl true) => match c δ2 with
        | some (z, δ3) => match g' y z with
          | some (.bl k) => some (.bl k, δ3)
          | _ => none
        | none => none
      | some (.bl false) => some (.bl false, δ2)
      | _ => none else none
    | none => none
  | none => none
variable {c : Expr} {mc : ME} {g' : D → D → Option D}
theorem chain_run {op op' : CmpOp} (ho : BR X (compareOp op) g) (ho' : BR X (compareOp op') g') (ha : IG X a ma) (hb : IG X b mb) (hc : IG X c mc) {Z : Addr → Prop} {Hb H : Hp} {σ : L2.St} {δ δ' : Env} {L : PL} {d : D} (s : Sq X Z Hb H σ δ L) (e : mChain g g' ma mb mc δ = some (d, δ'))
    (Q : VK) (q : ∀ k H', d = .bl k → Sq X Z Hb H' σ δ' L → Q (.bl k) H') : tChain (wR X (compareOp op)) (wR X (compareOp op')) (wE X a) (wE X b) (wE X c) σ H Q := by
  unfold mChain at e
  split at e
  · rename_i x δ1 e1
    split at e
    · rename_i y δ2 e2
      split at e
      · rename_i hf
        refine ha s e1 _ fun v H1 s1 => hb s1 e2 _ fun w H2 s2 => ?_
        have s2' : Sp X.K X.mg Z Hb H2 ((w, y) :: (v, x) :: (w, y) :: (L ++ prs σ δ2)) := (s2.sp.dup hf).perm (.cons _ (.swap _ _ _))
        split at e
        · rename_i eg
          split at e
          · rename_i z δ3 e3
            split at e
            · rename_i k eg'
              cases e
              refine ho s2' eg _ fun u H3 s3 => ⟨true, s3.bl, ?_⟩
              (show (if true = true then _ else _))
              rw [if_pos rfl]
              have s3' : Sq X Z Hb H3 σ δ2 ((w, y) :: L) := ⟨s3.drop, s2.dom⟩
              refine hc s3' e3 _ fun u' H4 s4 => ho' s4.sp eg' _ fun u2 H5 s5 => ?_
              rw [s5.bl]
              exact q k H5 rfl ⟨s5.drop, s4.dom⟩
            · cases e
          · cases e
        · rename_i eg
          cases e
          refine ho s2' eg _ fun u H3 s3 => ⟨false, s3.bl, ?_⟩
          show (if false = true then _ else _)
          (rw [if_neg Bool.false_ne_true])
          exact q false H3 rfl ⟨s3.drop.drop, s2.dom⟩
        · cases e
      · cases e
    · cases e
  · cases e
theorem ig_chain {op op' : CmpOp} (ho : BR X (compareOp op) g) (ho' : BR X (compareOp op') g') (ha : IG X a ma) (hb : IG X b mb) (hc : IG X c mc) (hm : lastMarks [op, op'] [b, c] = false) : IG X (.Compare a [op, op'] [b, c] pos) (mChain g g' ma mb mc) := by
  intro Z Hb H σ δ L d δ' s e Q q
  refine wE_of (pe_chain opr_w opr_w pe_w pe_w pe_w hm) (chain_run ho ho' ha hb hc s e Q fun k H' ek s' => ?_)
  subst ek
  exact q _ _ (s'.put fun _ => .bl)
theorem it_chain {op op' : CmpOp} (ho : BR X (compareOp op) g) (ho' : BR X (compareOp op') g') (ha : IG X a ma) (hb : IG X b mb) (hc : IG X c mc) (hm : lastMarks [op, op'] [b, c] = false) : IT X (.Compare a [op, op'] [b, c] pos) (toT (mChain g g' ma mb mc)) := by
  intro Z Hb H σ δ L d δ' s e Q q
  refine wT_of (pt_chain opr_w opr_w pe_w pe_w pe_w hm) (chain_run ho ho' ha hb hc s (toT_of e) _ fun k H' ek s' => ?_)
  cases ek
  exact ⟨d, rfl, q H' s'⟩
end
def dAdd : D → D → Option D
  | .int i, .int j => some (.int (i + j))
  | .str i, .str j => if i.length + j.length ≤ sizeLine then some (.str (i ++ j)) else none
  | .lst _ a, .lst _ b => if a.length + b.length ≤ sizeLine then some (.lst true (a ++ b)) else none
  | .tup a, .tup b => if a.length + b.length ≤ sizeLine then some (.tup (a ++ b)) else none
  | _, _ => none
def dSub : D → D → Option D
  | .int i, .int j => some (.int (i - j))
  | _, _ => none
def dMul : D → D → Option D
  | .int i, .int j => if (-(2 ^ 64) < i ∧ i < 2 ^ 64) ∨ (-(2 ^ 64) < j ∧ j < 2 ^ 64) then some (.int (i * j)) else none
  | .lst _ a, .int k => if -(2 ^ 63) ≤ k ∧ k < 2 ^ 63 ∧ a.length * k.toNat ≤ sizeLine then some (.lst true (List.replicate k.toNat (fzs a)).flatten) else none
  | _, _ => none
def dFdiv : D → D → Option D
  | .int i, .int j => if j ≠ 0 ∧ j.natAbs < 1073741824 then some (.int (i.fdiv j)) else none
  | _, _ => none
def dMod : D → D → Option D
  | .int i, .int j => if j ≠ 0 then some (.int (i.fmod j)) else none
  | _, _ => none
def dPow : D → D → Option D
  | .int i, .int j => if 0 ≤ j ∧ j ≤ 1000000 ∧ i.natAbs < 2 ^ 64 then some (.int (i ^ j.toNat)) else none
  | _, _ => none
/-- == of data -/
def pyEq (x y : D) : Option Bool := match toPy x, toPy y with
  | some p, some q => if SeqAt.shaped p && SeqAt.shaped q then some (PyData.eqv p q) else none
  | _, _ => none
def dEqB : D → D → Option Bool
  | .int i, .int j => some (decide (i = j))
  | .str i, .str j => some (decide (i = j))
  | .bl i, .bl j => some (decide (i = j))
  | x, y => pyEq x y
def dEq : D → D → Option D
  | .tup ds, .tup [] => some (.bl ds.isEmpty)
  | .lst _ ds, .lst _ [] => some (.bl ds.isEmpty)
  | x, y => (dEqB x y).map .bl
def dNe (x y : D) : Option D := (dEqB x y).map fun b => .bl !b
def dLe : D → D → Option D
  | .int i, .int j => some (.bl (decide (i ≤ j)))
  | _, _ => none
def dGt : D → D → Option D
  | .int i, .int j => some (.bl (decide (j < i)))
  | _, _ => none
def dGe : D → D → Option D
  | .int i, .int j => some (.bl (decide (j ≤ i)))
  | _, _ => none
def pyIn (x y : D) : Option Bool := match toPy x, toPy y with
  | some p, some (.list q) => if SeqAt.shaped p && SeqAt.shaped (.list q) then some (q.any fun z => PyData.eqv z p) else none
  | some p, some (.tuple q) => if SeqAt.shaped p && SeqAt.shaped (.tuple q) then some (q.any fun z => PyData.eqv z p) else none
  | _, _ => none
def keyD : D → Option Key
  | .int i => some (.inl i)
  | .str i => some (.inr i)
  | _ => none
def dInB : D → D → Option Bool
  | x, .dct _ ks _ => (keyD x).map fun k => ks.any fun j => decide (j = k)
  | .str i, .str j => some (!(Builtin.Str.occurrences j i 0 j.length 1).isEmpty)
  | x, y => pyIn x y
def dIn (x y : D) : Option D := (dInB x y).map .bl
def dNotIn (x y : D) : Option D := (dInB x y).map fun b => .bl !b
def isNon : D → Bool
  | .non => true
  | _ => false
def dIsB : D → D → Option Bool
  | x, .non => some (isNon x)
  | .bl i, .bl j => some (decide (i = j))
  | _, _ => none
def dIs (x y : D) : Option D := (dIsB x y).map .bl
def dIsNot (x y : D) : Option D := (dIsB x y).map fun b => .bl !b
section
variable {X : Cx}
/-- two values are given up, one comes -/
theorem Sp.two {K : PySem.W.Frag} {mg : Str → Option Value} {H Hb : Hp} {Z : Addr → Prop} {P : PL} {x y w : V} {dx dy d : D} (s : Sp K mg Z Hb H ((y, dy) :: (x, dx) :: P)) (h : ∀ Y, Rep K mg H Y w d []) : Sp K mg Z Hb H ((w, d) :: P) := s.drop.drop.put h
theorem br_int {f : Value → Value → Sem Value} {g : D → D → Option D} {C : Int → Int → Prop} {k : Int → Int → Int} (h : OpR X f (rI C fun i j => .int (k i j))) (hg : ∀ x y d, g x y = some d → ∃ i j, x = .int i ∧ y = .int j ∧ C i j ∧ d = .int (k i j)) : BR X f g := by
  intro Z Hb H P x y dx dy d s e Q q
  obtain ⟨i, j, rfl, rfl, hc, rfl⟩ := hg _ _ _ e
  refine wR_of h ⟨i, j, s.drop.int, s.int, hc, q _ _ (s.two fun _ => .int)⟩
theorem br_int0 {f : Value → Value → Sem Value} {g : D → D → Option D} {k : Int → Int → Bool} (h : OpR X f (rI0 fun i j => .bl (k i j))) (hg : ∀ x y d, g x y = some d → ∃ i j, x = .int i ∧ y = .int j ∧ d = .bl (k i j)) : BR X f g := by
  intro Z Hb H P x y dx dy d s e Q q
  obtain ⟨i, j, rfl, rfl, rfl⟩ := hg _ _ _ e
  exact wR_of h ⟨i, j, s.drop.int, s.int, q _ _ (s.two fun _ => .bl)⟩
theorem br_sub : BR X (binaryOp .Sub) dSub := by
  intro Z Hb H P x y dx dy d s e Q q
  unfold dSub at e; split at e
  · cases e
    exact wR_of op_sub ⟨_, _, s.drop.int, s.int, q _ _ (s.two fun _ => .int)⟩
  · cases e
theorem br_fdiv : BR X (binaryOp .FloorDiv) dFdiv := br_int op_fdivN fun x y d e => by
  unfold dFdiv at e; split at e
  · split at e
    · rename_i h; cases e; exact ⟨_, _, rfl, rfl, h, rfl⟩
    · cases e
  · cases e
theorem br_mod : BR X (binaryOp .Mod) dMod := br_int op_modN fun x y d e => by
  unfold dMod at e; split at e
  · split at e
    · rename_i h; cases e; exact ⟨_, _, rfl, rfl, h, rfl⟩
    · cases e
  · cases e
theorem br_pow : BR X (binaryOp .Pow) dPow := br_int op_pow fun x y d e => by
  unfold dPow at e; split at e
  · split at e
    · rename_i h; cases e; exact ⟨_, _, rfl, rfl, h, rfl⟩
    · cases e
  · cases e
theorem br_le : BR X (compareOp .LtE) dLe := br_int0 op_le fun x y d e => by
  unfold dLe at e; split at e
  · cases e; exact ⟨_, _, rfl, rfl, rfl⟩
  · cases e
theorem br_gt : BR X (compareOp .Gt) dGt := br_int0 op_gt fun x y d e => by
  unfold dGt at e; split at e
  · cases e; exact ⟨_, _, rfl, rfl, rfl⟩
  · cases e
theorem br_ge : BR X (compareOp .GtE) dGe := br_int0 op_ge fun x y d e => by
  unfold dGe at e; split at e
  · cases e; exact ⟨_, _, rfl, rfl, rfl⟩
  · cases e
theorem zip_append {vs ws : List V} {ds es : List D} (h : vs.length = ds.length) : (vs ++ ws).zip (ds ++ es) = vs.zip ds ++ ws.zip es := List.zip_append h
theorem br_add : BR X (binaryOp .Add) dAdd := by
  intro Z Hb H P x y dx dy d s e Q q
  unfold dAdd at e; split at e
  · cases e
    exact wR_of op_add ⟨_, _, s.drop.int, s.int, q _ _ (s.two fun _ => .int)⟩
  · split at e
    · rename_i h; cases e
      exact wR_of op_add_str ⟨_, _, s.drop.str, s.str, h, q _ _ (s.two fun _ => .str)⟩
    · cases e
  · rename_i o1 as o2 bs
    split at e
    · rename_i h; cases e
      obtain ⟨b, ws, rfl, hb, lb, s1⟩ := s.lst
      obtain ⟨a, vs, rfl, ha, la, s2⟩ := (s1.perm List.perm_middle).lst
      refine wR_of op_cat ⟨a, b, vs, ws, rfl, rfl, ha, hb, by omega, fun p hp => q _ _ ?_⟩
      refine Sp.newL (P := P) (s2.perm ?_) (by simp [la, lb]) hp
      rw [zip_append la, List.append_assoc]
    · cases e
  · rename_i as bs
    split at e
    · rename_i h; cases e
      have s0 : Sp X.K X.mg Z Hb H ((x, .tup as) :: (y, .tup bs) :: P) := s.perm (.swap _ _ _)
      obtain ⟨b, ws, rfl, hb, lb, s1⟩ := s.tup
      obtain ⟨a, vs, rfl, ha, la, s2⟩ := (s1.perm List.perm_middle).tup
      refine wR_of op_catA ⟨a, b, vs, ws, rfl, rfl, ha, hb, by omega, fun e0 => q _ _ ?_, fun e0 e1 => q _ _ ?_, fun e0 e1 p hp => q _ _ ?_⟩
      · subst e0
        have : as = [] := List.eq_nil_of_length_eq_zero (by simpa using la.symm)
        subst this
        exact (s.perm (.swap _ _ _)).drop
      · subst e1
        have : bs = [] := List.eq_nil_of_length_eq_zero (by simpa using lb.symm)
        subst this
        rw [List.append_nil]
        exact (s0.perm (.swap _ _ _)).drop
      · refine Sp.newT (P := P) (s2.perm ?_) (by simp [la, lb]) hp
        rw [zip_append la, List.append_assoc]
    · cases e
  · cases e
theorem Rps.own_nil {K : PySem.W.Frag} {mg : Str → Option Value} {H : Hp} {Z : Addr → Prop} {A : PL} : ∀ {F : List Addr}, Rps K mg H Z A F → (∀ p ∈ A, isFz p.2 = true) → F = [] := by
  induction A with
  | nil => intro F r _; cases r; rfl
  | cons p A ih =>
    intro F r h
    cases r with
    | cons q t => rw [q.own_nil (h _ List.mem_cons_self), ih t (fun p m => h p (List.mem_cons_of_mem _ m))]; rfl
/-- frozen items as often as wanted -/
theorem Sp.rep {K : PySem.W.Frag} {mg : Str → Option Value} {H Hb : Hp} {Z : Addr → Prop} {P A : PL} (s : Sp K mg Z Hb H (A ++ P)) (h : ∀ p ∈ A, isFz p.2 = true) (n : Nat) : Sp K mg Z Hb H ((List.replicate n A).flatten ++ P) := by
  obtain ⟨⟨F, r, nd, hb⟩, b, fr⟩ := s
  obtain ⟨F1, F2, rfl, r1, r2⟩ := r.split
  have e : F1 = [] := r1.own_nil h
  subst e
  refine ⟨⟨F2, ?_, by simpa using nd, fun a m => hb a (by simpa using m)⟩, b, fr⟩
  have r1' : Rps K mg H (fun a => Z a ∧ a ∉ F2) A [] := r1.other fun a _ _ z => ⟨z.1, by simpa using z.2⟩
  have r2' : Rps K mg H (fun a => Z a ∧ a ∉ F2) P F2 := r2.other fun a _ _ z => ⟨z.1, by simpa using z.2⟩
  clear r1 r2
  have : Rps K mg H (fun a => Z a ∧ a ∉ F2) (List.replicate n A).flatten [] := by
    induction n with
    | zero => exact .nil
    | succ n ih =>
      (rw [List.replicate_succ, List.flatten_cons])
      exact Rps.append (F := []) (G := []) r1' ih
  exact Rps.append (F := []) this r2'
theorem zip_rep {vs : List V} {ds : List D} (h : vs.length = ds.length) (n : Nat) : (List.replicate n vs).flatten.zip (List.replicate n ds).flatten = (List.replicate n (vs.zip ds)).flatten := by
  induction n with
  | zero => rfl
  | succ n ih =>
    rw [List.replicate_succ, List.replicate_succ, List.replicate_succ, List.flatten_cons, List.flatten_cons, List.flatten_cons, List.zip_append h, ih]
theorem br_mul : BR X (binaryOp .Mult) dMul := by
  intro Z Hb H P x y dx dy d s e Q q
  unfold dMul at e; split at e
  · split at e
    · rename_i h; cases e
      exact wR_of op_mul ⟨_, _, s.drop.int, s.int, h, q _ _ (s.two fun _ => .int)⟩
    · cases e
  · rename_i o as k
    split at e
    · rename_i h; cases e
      have ey := s.int
      have s0 := s.drop.freeze
      obtain ⟨a, vs, rfl, ha, la, s1⟩ := s0.lst
      refine wR_of op_rep ⟨a, k, vs, rfl, ey, ha, h.1, h.2.1, by rw [la, fzs_length]; exact h.2.2, fun p hp => q _ _ ?_⟩
      have s2 := s1.rep (n := k.toNat) fun p m => isFzs_iff.mp (isFzs_fzs as) _ (List.of_mem_zip m).2
      rw [← zip_rep la] at s2
      exact s2.newL (by simp [la]) hp
    · cases e
  · cases e
theorem eq_run (hu : X.A.units + 64 < cLine) {Z : Addr → Prop} {Hb H : Hp} {P : PL} {x y : V} {dx dy : D} {b : Bool} (s : Sp X.K X.mg Z Hb H ((y, dy) :: (x, dx) :: P)) (e : dEqB dx dy = some b) (Q : VK) :
    (Q (.bl b) H → wR X (compareOp .Eq) x y H Q) ∧ (Q (.bl !b) H → wR X (compareOp .NotEq) x y H Q) := by
  unfold dEqB at e
  split at e
  · cases e
    rw [s.int, s.drop.int]
    refine ⟨fun q => wR_of op_eq ⟨rfl, ?_⟩, fun q => wR_of op_ne ⟨rfl, ?_⟩⟩
    all_goals (simpa using q)
  · cases e
    rw [s.str, s.drop.str]
    refine ⟨fun q => wR_of op_eq ⟨rfl, ?_⟩, fun q => wR_of op_ne ⟨rfl, ?_⟩⟩
    all_goals (simpa using q)
  · cases e
    rw [s.bl, s.drop.bl]
    refine ⟨fun q => wR_of op_eq ⟨rfl, ?_⟩, fun q => wR_of op_ne ⟨rfl, ?_⟩⟩
    all_goals (simpa using q)
  · unfold pyEq at e
    split at e
    · rename_i p q' e1 e2
      split at e
      · rename_i h
        cases e
        have h' := Bool.and_eq_true_iff.mp h
        exact ⟨fun q => wR_of (op_eqD hu) ⟨p, q', s.drop.dp e1, s.dp e2, h'.1, h'.2, q⟩, fun q => wR_of (op_neD hu) ⟨p, q', s.drop.dp e1, s.dp e2, h'.1, h'.2, q⟩⟩
      · cases e
    · cases e
theorem br_eq (hu : X.A.units + 64 < cLine) : BR X (compareOp .Eq) dEq := by
  intro Z Hb H P x y dx dy d s e Q q
  unfold dEq at e
  split at e
  · rename_i ds
    cases e
    obtain ⟨a, vs, rfl, ha, hl, s1⟩ := s.drop.tup
    obtain ⟨b, ws, rfl, hb, hl2, s2⟩ := s.tup
    intro pins s0 σ u v I r1 r2
    cases r1
    cases r2
    obtain ⟨its, rv, ht, _⟩ := I.tuple ha
    obtain ⟨its2, rv2, ht2, _⟩ := I.tuple hb
    have z2 : its2 = [] := by
      have h1 := rv2.length
      rw [hl2] at h1
      exact List.eq_nil_of_length_eq_zero h1.symm
    subst z2
    refine SeqAt.eq_tupleAt (e := fun _ => true) ht ht2 (by omega) (fun j h1 h2 => absurd h2 (by simp)) ?_
    refine ⟨.bl ds.isEmpty, H, I, ?_, q _ _ (s.two fun _ => .bl)⟩
    have : ds.isEmpty = (its.toArray.size == 0) := by
      have h1 := rv.length
      rw [hl] at h1
      cases ds with
      | nil => simp at h1; simp [h1]
      | cons x r => cases its with
        | nil => simp at h1
        | cons y t => simp
    rw [this]
    show Value.bool _ = Value.bool _
    simp
  · rename_i o1 ds o2
    cases e
    obtain ⟨a, vs, rfl, ha, hl, s1⟩ := Sp.lst s.drop
    obtain ⟨b, ws, rfl, hb, hl2, s2⟩ := Sp.lst s
    intro pins s0 σ u v I r1 r2
    cases r1
    cases r2
    obtain ⟨its, rv, ht, _⟩ := I.list (.of ha)
    obtain ⟨its2, rv2, ht2, _⟩ := I.list (.of hb)
    have z2 : its2 = [] := by
      have h1 := rv2.length
      rw [hl2] at h1
      exact List.eq_nil_of_length_eq_zero h1.symm
    subst z2
    have h1 := rv.length
    rw [hl] at h1
    have fin := q (.bl ds.isEmpty) H (s.two fun _ => .bl)
    cases ds with
    | nil =>
      have z1 : its = [] := List.eq_nil_of_length_eq_zero h1.symm
      subst z1
      exact SeqAt.eq_listAt (e := fun _ => true) ht.isList ht2.isList rfl (by omega) (fun j h1 h2 => absurd h2 (by simp)) ⟨.bl true, H, I, rfl, fin⟩
    | cons x r =>
      refine SeqAt.eq_list_lengthsAt ht.isList ht2.isList ?_ (by omega) ⟨.bl false, H, I, rfl, fin⟩
      cases its with
      | nil => simp at h1
      | cons y t => simp
  · obtain ⟨b, e1, rfl⟩ := Option.map_eq_some_iff.mp e
    exact (eq_run hu s e1 Q).1 (q _ _ (s.two fun _ => .bl))
theorem br_ne (hu : X.A.units + 64 < cLine) : BR X (compareOp .NotEq) dNe := by
  intro Z Hb H P x y dx dy d s e Q q
  unfold dNe at e
  obtain ⟨b, e1, rfl⟩ := Option.map_eq_some_iff.mp e
  exact (eq_run hu s e1 Q).2 (q _ _ (s.two fun _ => .bl))
def rInTD (K : PySem.W.Frag) (neg : Bool) : R2 := fun x y H Q => ∃ d ds, Dp K H x d ∧ Dp K H y (.tuple ds) ∧ SeqAt.shaped d = true ∧ SeqAt.shaped (.tuple ds) = true ∧ Q (.bl (if neg then !(ds.any fun z => PyData.eqv z d) else ds.any fun z => PyData.eqv z d)) H
theorem op_inTD (hu : X.A.units + 65 < cLine) : OpR X (compareOp .In) (rInTD X.K false) := by
  (intro pins s σ H x y v u Q I rx ry h)
  (obtain ⟨d, ds, hd, he, sd, se, q⟩ := h)
  (obtain ⟨as, r1⟩ := Dp.reads I d x v hd rx)
  obtain ⟨bs, r2⟩ := Dp.reads I (.tuple ds) y u he ry
  exact SeqAt.in_tuple_reads r2 r1 (SeqAt.canLay_of_shaped se) (SeqAt.canLay_of_shaped sd) (PyProof.Rows.room_in_shaped sd hu) ⟨.bl _, H, I, rfl, q⟩
theorem op_notInTD (hu : X.A.units + 65 < cLine) : OpR X (compareOp .NotIn) (rInTD X.K true) := by
  (intro pins s σ H x y v u Q I rx ry h)
  (obtain ⟨d, ds, hd, he, sd, se, q⟩ := h)
  (obtain ⟨as, r1⟩ := Dp.reads I d x v hd rx)
  obtain ⟨bs, r2⟩ := Dp.reads I (.tuple ds) y u he ry
  exact SeqAt.notIn_tuple_reads r2 r1 (SeqAt.canLay_of_shaped se) (SeqAt.canLay_of_shaped sd) (PyProof.Rows.room_in_shaped sd hu) ⟨.bl _, H, I, rfl, q⟩
theorem Sp.key {K : PySem.W.Frag} {mg : Str → Option Value} {H Hb : Hp} {Z : Addr → Prop} {P : PL} {x : V} {d : D} {k : Key} (s : Sp K mg Z Hb H ((x, d) :: P)) (e : keyD d = some k) : x = kV k := by
  unfold keyD at e
  split at e
  · cases e; exact s.int
  · cases e; exact s.str
  · cases e
theorem in_keys (kvs : List (Key × V)) (k : Key) : ((kvs.map (·.1)).any fun j => decide (j = k)) = (valV kvs k).isSome := by
  rw [← valV_any, List.any_map]
  rfl
theorem in_run (hu : X.A.units + 65 < cLine) {Z : Addr → Prop} {Hb H : Hp} {P : PL} {x y : V} {dx dy : D} {b : Bool} (s : Sp X.K X.mg Z Hb H ((y, dy) :: (x, dx) :: P)) (e : dInB dx dy = some b) (Q : VK) :
    (Q (.bl b) H → wR X (compareOp .In) x y H Q) ∧ (Q (.bl !b) H → wR X (compareOp .NotIn) x y H Q) := by
  unfold dInB at e
  split at e
  · rename_i o ks vs
    obtain ⟨k, ek, rfl⟩ := Option.map_eq_some_iff.mp e
    obtain ⟨Y, F, q⟩ := s.head
    have hx : x = kV k := s.drop.key ek
    have go : ∀ (a : Addr) (kvs : List (Key × V)), y = .ref a → Rd H a (.dK kvs) → kvs.map (·.1) = ks → (Q (.bl (ks.any fun j => decide (j = k))) H → wR X (compareOp .In) x y H Q) ∧ (Q (.bl !(ks.any fun j => decide (j = k))) H → wR X (compareOp .NotIn) x y H Q) := by
      intro a kvs ey ha hk
      subst ey hx
      have hb : (ks.any fun j => decide (j = k)) = (valV kvs k).isSome := by rw [← hk]; exact in_keys kvs k
      rw [hb]
      exact ⟨fun q pins s σ u v I r1 r2 => by cases r2; exact d_in (by omega) I (.inl ⟨kvs, k, ha, rfl, rfl⟩) r1 fun s' I' => ⟨.bl _, H, I', rfl, q⟩, fun q pins s σ u v I r1 r2 => by cases r2; exact d_notIn (by omega) I (.inl ⟨kvs, k, ha, rfl, rfl⟩) r1 fun s' I' => ⟨.bl _, H, I', rfl, q⟩⟩
    cases q with
    | dctF h z e' t => exact go _ _ rfl h e'.1
    | dctO h e' t => exact go _ _ rfl (.inl h) e'.1
  · cases e
    exact ⟨fun q => wR_of op_in_str ⟨_, _, s.drop.str, s.str, q⟩, fun q => wR_of op_notin_str ⟨_, _, s.drop.str, s.str, q⟩⟩
  · unfold pyIn at e
    split at e
    · rename_i p q' e1 e2
      split at e
      · rename_i h
        cases e
        have h' := Bool.and_eq_true_iff.mp h
        exact ⟨fun q => wR_of (op_inD hu) ⟨p, q', s.drop.dp e1, s.dp e2, h'.1, h'.2, q⟩, fun q => wR_of (op_notInD hu) ⟨p, q', s.drop.dp e1, s.dp e2, h'.1, h'.2, q⟩⟩
      · cases e
    · rename_i p q' e1 e2
      split at e
      · rename_i h
        cases e
        have h' := Bool.and_eq_true_iff.mp h
        exact ⟨fun q => wR_of (op_inTD hu) ⟨p, q', s.drop.dp e1, s.dp e2, h'.1, h'.2, q⟩, fun q => wR_of (op_notInTD hu) ⟨p, q', s.drop.dp e1, s.dp e2, h'.1, h'.2, q⟩⟩
      · cases e
    · cases e
theorem br_in (hu : X.A.units + 65 < cLine) : BR X (compareOp .In) dIn := by
  intro Z Hb H P x y dx dy d s e Q q
  unfold dIn at e
  obtain ⟨b, e1, rfl⟩ := Option.map_eq_some_iff.mp e
  exact (in_run hu s e1 Q).1 (q _ _ (s.two fun _ => .bl))
theorem br_notIn (hu : X.A.units + 65 < cLine) : BR X (compareOp .NotIn) dNotIn := by
  intro Z Hb H P x y dx dy d s e Q q
  unfold dNotIn at e
  obtain ⟨b, e1, rfl⟩ := Option.map_eq_some_iff.mp e
  exact (in_run hu s e1 Q).2 (q _ _ (s.two fun _ => .bl))
theorem Sp.isNon {K : PySem.W.Frag} {mg : Str → Option Value} {H Hb : Hp} {Z : Addr → Prop} {P : PL} {x : V} {d : D} (s : Sp K mg Z Hb H ((x, d) :: P)) : decide (x = .non) = DL.isNon d := by
  obtain ⟨Y, F, q⟩ := s.head
  cases q <;> simp [DL.isNon]
theorem is_run {Z : Addr → Prop} {Hb H : Hp} {P : PL} {x y : V} {dx dy : D} {b : Bool} (s : Sp X.K X.mg Z Hb H ((y, dy) :: (x, dx) :: P)) (e : dIsB dx dy = some b) (Q : VK) :
    (Q (.bl b) H → wR X (compareOp .Is) x y H Q) ∧ (Q (.bl !b) H → wR X (compareOp .IsNot) x y H Q) := by
  unfold dIsB at e
  split at e
  · cases e
    have h := s.drop.isNon
    exact ⟨fun q => wR_of op_isN ⟨s.non, by rw [h]; exact q⟩, fun q => wR_of op_notN ⟨s.non, by rw [h]; exact q⟩⟩
  · cases e
    exact ⟨fun q => wR_of op_isBl ⟨_, _, s.drop.bl, s.bl, q⟩, fun q => wR_of op_notBl ⟨_, _, s.drop.bl, s.bl, q⟩⟩
  · cases e
theorem br_is : BR X (compareOp .Is) dIs := by
  intro Z Hb H P x y dx dy d s e Q q
  unfold dIs at e
  obtain ⟨b, e1, rfl⟩ := Option.map_eq_some_iff.mp e
  exact (is_run s e1 Q).1 (q _ _ (s.two fun _ => .bl))
theorem br_isNot : BR X (compareOp .IsNot) dIsNot := by
  intro Z Hb H P x y dx dy d s e Q q
  unfold dIsNot at e
  obtain ⟨b, e1, rfl⟩ := Option.map_eq_some_iff.mp e
  exact (is_run s e1 Q).2 (q _ _ (s.two fun _ => .bl))
end
end DL
set_option Elab.async false
set_option linter.all false
set_option maxRecDepth 100000
set_option maxHeartbeats 4000001
namespace DL
open PySem PySem.Spec L2
section
variable {X : Cx} {a b c e : Expr} {ma mb mc : ME} {pos : Pos} {rest : List Expr}
def truD : D → Option Bool
  | .non => some false
  | .bl b => some b
  | .int i => some (i != 0)
  | .str x => if x.length ≤ sizeLine then some ((x.length : Int) != 0) else none
  | .tup ds => some (!ds.isEmpty)
  | .lst _ ds => some (!ds.isEmpty)
  | .scr ds => some (!ds.isEmpty)
  | .dct o ks _ => if o = true then some (!ks.isEmpty) else none
  | _ => none
theorem isEmpty_len {α β : Type} {a : List α} {b : List β} (h : a.length = b.length) : a.isEmpty = b.isEmpty := by
  (cases a <;> cases b <;> simp_all)
theorem Rep.tru {K : PySem.W.Frag} {mg : Str → Option Value} {H : Hp} {Z : Addr → Prop} {v : V} {d : D} {F : List Addr} {k : Bool} (r : Rep K mg H Z v d F) (e : truD d = some k) : TruV K v H k := by
  cases r with
  | non => cases e; rfl
  | bl => cases e; rfl
  | int => cases e; rfl
  | str =>
    simp only [truD] at e
    split at e
    · rename_i h; cases e; exact ⟨h, rfl⟩
    · cases e
  | ty => cases e
  | glo _ => cases e
  | tup h t => cases e; exact .inr (.inl ⟨_, h, by rw [isEmpty_len t.len]⟩)
  | scr h t => cases e; exact .inl ⟨_, h.sq, by rw [isEmpty_len t.len]⟩
  | lstF h z t => cases e; exact .inl ⟨_, .of h, by rw [isEmpty_len t.len]⟩
  | lstO h t => cases e; exact .inl ⟨_, .of h, by rw [isEmpty_len t.len]⟩
  | dctF h z hk t => cases e
  | dctO h hk t => obtain ⟨hk, _⟩ := hk; subst hk; cases e; exact .inr (.inr ⟨_, h, by rw [isEmpty_len (List.length_map _)]⟩)
  | objF _ _ _ _ _ => cases e
  | objO _ _ _ _ => cases e
  | rawF _ _ _ => cases e
  | rawO _ _ => cases e
theorem Sp.tru {K : PySem.W.Frag} {mg : Str → Option Value} {H Hb : Hp} {Z : Addr → Prop} {P : PL} {v : V} {d : D} {k : Bool} (s : Sp K mg Z Hb H ((v, d) :: P)) (e : truD d = some k) : TruV K v H k := by
  obtain ⟨Y, F, q⟩ := s.head; exact q.tru e
/-- a plain expression as a test -/
def mTru (a : ME) : MT := fun δ => match a δ with
  | some (d, δ1) => match truD d with
    | some k => some (k, δ1)
    | none => none
  | none => none
theorem it_val (ha : IG X a ma) (he : ∀ whole, isTrue a X.env whole = (do let v ← whole; standAt a.pos; holding [v] (truthy v))) : IT X a (mTru ma) := by
  intro Z Hb H σ δ L d δ' s e Q q
  unfold mTru at e
  split at e
  · rename_i d0 δ1 e1
    split at e
    · rename_i k e2
      cases e
      exact wT_of (pt_truth pe_w he) (ha s e1 _ fun v H1 s1 => ⟨_, s1.sp.tru e2, q _ s1.drop⟩)
    · cases e
  · cases e
def tAnd2 (a b : MT) : MT := fun δ => match a δ with
  | some (true, δ1) => b δ1
  | some (false, δ1) => some (false, δ1)
  | none => none
def tOr2 (a b : MT) : MT := fun δ => match a δ with
  | some (false, δ1) => b δ1
  | some (true, δ1) => some (true, δ1)
  | none => none
def tNot1 (a : MT) : MT := fun δ => match a δ with
  | some (k, δ1) => some (!k, δ1)
  | none => none
variable {ta tb : MT}
theorem iw_and1 (ha : IT X a ta) : IW X (.BoolOp .And [a] pos) ta := by
  intro Z Hb H σ δ L d δ' s e Q q
  exact wW_of (pw_and1 pt_w) (ha s e Q q)
theorem iw_or1 (ha : IT X a ta) : IW X (.BoolOp .Or [a] pos) ta := by
  intro Z Hb H σ δ L d δ' s e Q q
  exact wW_of (pw_or1 pt_w) (ha s e Q q)
theorem iw_and (ha : IT X a ta) (hb : IW X (.BoolOp .And (b :: rest) pos) tb) : IW X (.BoolOp .And (a :: b :: rest) pos) (tAnd2 ta tb) := by
  intro Z Hb H σ δ L d δ' s e Q q
  refine wW_of (pw_and pt_w pw_w) ?_
  unfold tAnd2 at e
  split at e
  · rename_i δ1 e1
    refine ha s e1 _ fun H1 s1 => ?_
    (show (if true = true then _ else _))
    rw [if_pos rfl]
    exact hb s1 e Q q
  · rename_i δ1 e1
    cases e
    refine ha s e1 _ fun H1 s1 => ?_
    show (if false = true then _ else _)
    (rw [if_neg Bool.false_ne_true])
    exact q _ s1
  · cases e
theorem iw_or (ha : IT X a ta) (hb : IW X (.BoolOp .Or (b :: rest) pos) tb) : IW X (.BoolOp .Or (a :: b :: rest) pos) (tOr2 ta tb) := by
  intro Z Hb H σ δ L d δ' s e Q q
  refine wW_of (pw_or pt_w pw_w) ?_
  unfold tOr2 at e
  split at e
  · rename_i δ1 e1
    refine ha s e1 _ fun H1 s1 => ?_
    show (if false = true then _ else _)
    (rw [if_neg Bool.false_ne_true])
    exact hb s1 e Q q
  · rename_i δ1 e1
    cases e
    refine ha s e1 _ fun H1 s1 => ?_
    (show (if true = true then _ else _))
    rw [if_pos rfl]
    exact q _ s1
  · cases e
theorem it_w (h : IW X a ta) : IT X a ta := by
  intro Z Hb H σ δ L d δ' s e Q q
  exact wT_of pw_w.pt (h s e Q q)
theorem it_not (ha : IT X a ta) : IT X (.UnaryOp .Not a pos) (tNot1 ta) := by
  intro Z Hb H σ δ L d δ' s e Q q
  unfold tNot1 at e
  split at e
  · rename_i k δ1 e1
    cases e
    exact wT_of (pt_not pt_w) (ha s e1 _ q)
  · cases e
def mAnd (a b : ME) : ME := fun δ => match a δ with
  | some (d, δ1) => match truD d with
    | some true => b δ1
    | some false => some (d, δ1)
    | none => none
  | none => none
def mOr (a b : ME) : ME := fun δ => match a δ with
  | some (d, δ1) => match truD d with
    | some false => b δ1
    | some true => some (d, δ1)
    | none => none
  | none => none
theorem ig_one {op} (ha : IG X a ma) : IG X (.BoolOp op [a] pos) ma := by
  intro Z Hb H σ δ L d δ' s e Q q
  exact wE_of (pe_one pe_w) (ha s e Q q)
theorem ig_and (ha : IG X a ma) (hb : IG X (.BoolOp .And (b :: rest) pos) mb) : IG X (.BoolOp .And (a :: b :: rest) pos) (mAnd ma mb) := by
  intro Z Hb H σ δ L d δ' s e Q q
  refine wE_of (pe_andT pe_w pe_w) ?_
  unfold mAnd at e
  split at e
  · rename_i d0 δ1 e1
    refine ha s e1 _ fun v H1 s1 => ?_
    split at e
    · rename_i k
      refine ⟨true, s1.sp.tru k, ?_⟩
      rw [if_pos rfl]
      exact hb s1.drop e Q q
    · rename_i k
      cases e
      refine ⟨false, s1.sp.tru k, ?_⟩
      (rw [if_neg Bool.false_ne_true])
      exact q _ _ s1
    · cases e
  · cases e
theorem ig_or (ha : IG X a ma) (hb : IG X (.BoolOp .Or (b :: rest) pos) mb) : IG X (.BoolOp .Or (a :: b :: rest) pos) (mOr ma mb) := by
  intro Z Hb H σ δ L d δ' s e Q q
  refine wE_of (pe_orT pe_w pe_w) ?_
  unfold mOr at e
  split at e
  · rename_i d0 δ1 e1
    refine ha s e1 _ fun v H1 s1 => ?_
    split at e
    · rename_i k
      refine ⟨false, s1.sp.tru k, ?_⟩
      (rw [if_neg Bool.false_ne_true])
      exact hb s1.drop e Q q
    · rename_i k
      cases e
      refine ⟨true, s1.sp.tru k, ?_⟩
      rw [if_pos rfl]
      exact q _ _ s1
    · cases e
  · cases e
def mIf (t : MT) (a b : ME) : ME := fun δ => match t δ with
  | some (true, δ1) => a δ1
  | some (false, δ1) => b δ1
  | none => none
theorem ig_if (hc : IT X c ta) (ha : IG X a ma) (hb : IG X b mb) : IG X (.IfExp c a b pos) (mIf ta ma mb) := by
  intro Z Hb H σ δ L d δ' s e Q q
  refine wE_of (pe_ifExp pt_w pe_w pe_w) ?_
  unfold mIf at e
  split at e
  · rename_i δ1 e1
    refine hc s e1 _ fun H1 s1 => ?_
    rw [if_pos rfl]
    exact ha s1 e Q q
  · rename_i δ1 e1
    refine hc s e1 _ fun H1 s1 => ?_
    (rw [if_neg Bool.false_ne_true])
    exact hb s1 e Q q
  · cases e
end
abbrev ML := Env → Option (List D × Env)
def IL (X : Cx) (es : List Expr) (m : ML) : Prop := ∀ {Z : Addr → Prop} {Hb H : Hp} {σ : L2.St} {δ : Env} {L : PL} {ds : List D} {δ' : Env}, Sq X Z Hb H σ δ L → m δ = some (ds, δ') →
  ∀ Q : List V → Hp → Prop, (∀ vs H', vs.length = ds.length → Sq X Z Hb H' σ δ' (vs.zip ds ++ L) → Q vs H') → wA X es σ H Q
def mNil : ML := fun δ => some ([], δ)
def mCons (a : ME) (r : ML) : ML := fun δ => match a δ with
  | some (d, δ1) => match r δ1 with
    | some (ds, δ2) => some (d :: ds, δ2)
    | none => none
  | none => none
theorem Sq.perm {X : Cx} {Z : Addr → Prop} {Hb H : Hp} {σ : L2.St} {δ : Env} {L L' : PL} (s : Sq X Z Hb H σ δ L) (h : L.Perm L') : Sq X Z Hb H σ δ L' := ⟨s.sp.perm (h.append_right _), s.dom⟩
theorem Sq.dropL {X : Cx} {Z : Addr → Prop} {Hb H : Hp} {σ : L2.St} {δ : Env} {L A : PL} (s : Sq X Z Hb H σ δ (A ++ L)) : Sq X Z Hb H σ δ L := ⟨by
  have := s.sp
  (rw [List.append_assoc] at this)
  exact this.dropL, s.dom⟩
section
variable {X : Cx} {e : Expr} {es : List Expr} {m : ME} {r : ML} {pos : Pos}
theorem il_nil : IL X [] mNil := by
  intro Z Hb H σ δ L d δ' s e Q q
  cases e
  exact wA_of pa_nil (q [] H rfl s)
theorem il_cons (h : IG X e m) (t : IL X es r) (hs : starEach (e :: es) X.env = (false, eval e X.env) :: starEach es X.env) : IL X (e :: es) (mCons m r) := by
  intro Z Hb H σ δ L d δ' s e' Q q
  refine wA_of (pa_cons pe_w pa_w hs) ?_
  unfold mCons at e'
  split at e'
  · rename_i d0 δ1 e1
    split at e'
    · rename_i ds δ2 e2
      cases e'
      refine h s e1 _ fun v H1 s1 => t s1 e2 _ fun vs H2 hl s2 => q (v :: vs) H2 (by simp [hl]) ?_
      refine s2.perm ?_
      show List.Perm _ ((v, d0) :: (vs.zip ds ++ L))
      exact List.perm_middle
    · cases e'
  · cases e'
def mTup (r : ML) : ME := fun δ => match r δ with
  | some (ds, δ1) => if ds.length ≤ sizeLine then some (.tup ds, δ1) else none
  | none => none
def mLst (r : ML) : ME := fun δ => match r δ with
  | some (ds, δ1) => if ds.length ≤ sizeLine then some (.lst true ds, δ1) else none
  | none => none
theorem ig_tup {x1} (h : IL X es r) : IG X (.Tuple es x1 pos) (mTup r) := by
  intro Z Hb H σ δ L d δ' s e Q q
  refine wE_of (pe_tup pa_w) ?_
  unfold mTup at e
  split at e
  · rename_i ds δ1 e1
    split at e
    · rename_i hz
      cases e
      refine h s e1 _ fun vs H1 hl s1 => ⟨by rw [hl]; exact hz, fun p hp => q _ _ ⟨?_, s1.dom⟩⟩
      have := s1.sp
      (rw [List.append_assoc] at this)
      exact this.newT hl hp
    · cases e
  · cases e
theorem ig_lst (h : IL X es r) : IG X (.List es pos) (mLst r) := by
  intro Z Hb H σ δ L d δ' s e Q q
  refine wE_of (pe_lst pa_w) ?_
  unfold mLst at e
  split at e
  · rename_i ds δ1 e1
    split at e
    · rename_i hz
      cases e
      refine h s e1 _ fun vs H1 hl s1 => ⟨by rw [hl]; exact hz, fun p hp => q _ _ ⟨?_, s1.dom⟩⟩
      have := s1.sp
      (rw [List.append_assoc] at this)
      exact this.newL hl hp
    · cases e
  · cases e
end
def lookD : List Key → List D → Key → Option D
  | k :: ks, d :: ds, j => if k = j then some d else lookD ks ds j
  | _, _, _ => none
theorem lookD_get : ∀ {kvs : List (Key × V)} {ds : List D} {k : Key} {d : D}, lookD (kvs.map (·.1)) ds k = some d → ∃ j v, valV kvs k = some v ∧ kvs[j]? = some (k, v) ∧ (kvs.map (·.1)).take j = ((kvs.map (·.1)).take j).filter (fun i => decide (i ≠ k)) ∧ ds[j]? = some d
  | [], ds, k, d, h => by simp [lookD] at h
  | p :: r, [], k, d, h => by simp [lookD] at h
  | p :: r, x :: ds, k, d, h => by
    simp only [List.map_cons, lookD] at h
    split at h
    · rename_i e
      cases h
      refine ⟨0, p.2, valV_pos e, ?_, rfl, rfl⟩
      rw [← e]; rfl
    · rename_i e
      obtain ⟨j, v, h1, h2, h3, h4⟩ := lookD_get h
      refine ⟨j + 1, v, (valV_neg e).trans h1, by simpa using h2, ?_, by simpa using h4⟩
      have : decide (p.1 ≠ k) = true := decide_eq_true e
      rw [List.map_cons, List.take_succ_cons, List.filter_cons, if_pos this, ← h3]
def dIx : D → D → Option D
  | .dct _ ks ds, y => match keyD y with
    | some k => (lookD ks ds k).map fz
    | none => none
  | .tup ds, .int i => atI ds i
  | .lst _ ds, .int i => (atI ds i).map fz
  | .str x, .int i => if x.length ≤ sizeLine then (atI x.cps.toList i).map fun c => .str ⟨#[c]⟩ else none
  | _, _ => none
def wX (X : Cx) : R2 := fun x y H Q => ∀ (value slice : Expr) pins s σ u v, Inv X pins σ H s → RelV x u → RelV y v → subscripted slice false u v = operate [u, v] (getItem u v) → wpAny (model X.prog X.w) X.A (PyProof.Rows.subscriptTail value slice u v) (EP X pins σ Q) X.xe s
theorem ixr_w {X : Cx} : IxR X (wX X) := fun value slice pins s σ H x y v u Q I r1 r2 h hs => h value slice pins s σ v u I r1 r2 hs
theorem wX_of {X : Cx} {r : R2} (h : IxR X r) {x y : V} {H : Hp} {Q : VK} (q : r x y H Q) : wX X x y H Q := fun value slice pins s σ u v I r1 r2 hs => h value slice pins s σ H x y u v Q I r1 r2 q hs
theorem atI_zip {vs : List V} {ds : List D} (hl : vs.length = ds.length) {i : Int} {d : D} (h : atI ds i = some d) : ∃ j v, ixN vs.length i = some j ∧ atI vs i = some v ∧ vs[j]? = some v ∧ ds[j]? = some d := by
  unfold atI at h ⊢
  obtain ⟨j, e1, e2⟩ := Option.bind_eq_some_iff.mp h
  have hj : j < vs.length := by rw [hl]; exact (List.getElem?_eq_some_iff.mp e2).1
  exact ⟨j, vs[j], by rw [hl]; exact e1, by rw [hl, e1]; simp [hj], by simp [hj], e2⟩
theorem zip_get {vs : List V} {ds : List D} {j : Nat} {v : V} {d : D} (h1 : vs[j]? = some v) (h2 : ds[j]? = some d) : ∃ A, (vs.zip ds).Perm ((v, d) :: A) := by
  have : (vs.zip ds)[j]? = some (v, d) := by rw [List.getElem?_zip_eq_some]; exact ⟨h1, h2⟩
  obtain ⟨A, B, e⟩ := List.append_of_mem (List.mem_of_getElem? this)
  exact ⟨A ++ B, by rw [e]; exact List.perm_middle⟩
section
variable {X : Cx} {a b : Expr} {ma mb : ME} {pos : Pos}
theorem dgetR {H : Hp} {a : Addr} {kvs : List (Key × V)} {k : Key} (e : Rd H a (.dK kvs)) : DGet H a (kV k) (valV kvs k) := .inl ⟨kvs, k, e, rfl, rfl⟩
theorem rd_inj {H : Hp} {a : Addr} {k1 k2 : List (Key × V)} (h1 : Rd H a (.dK k1)) (h2 : Rd H a (.dK k2)) : k1 = k2 := by
  rcases h1 with h1 | ⟨o1, h1⟩ <;> rcases h2 with h2 | ⟨o2, h2⟩ <;> have := h1.symm.trans h2 <;> cases this <;> rfl
theorem ix_dictW (hu : X.A.units + 1 < cLine) {x y : V} {H : Hp} {Q : VK} {a : Addr} {v : V} (ex : x = .ref a) (g : DGet H a y (some v)) (q : Q v H) : wX X x y H Q := by
  intro value slice pins s σ u w I r1 r2 hs
  subst ex
  cases r1
  exact PyProof.Rows.tail_any (ops := [.ref a, w]) (dict_typeIs I g) PySem.F.slot_dict_getitem.lookup (d_getItem hu I g r2 fun w' s3 I3 rw' => ⟨v, H, I3, rw', q⟩) hs
theorem ix_run (hu : X.A.units + 1 < cLine) {Z : Addr → Prop} {Hb H : Hp} {P : PL} {x y : V} {dx dy d : D} (s : Sp X.K X.mg Z Hb H ((y, dy) :: (x, dx) :: P)) (e : dIx dx dy = some d) (Q : VK) (q : ∀ v H', Sp X.K X.mg Z Hb H' ((v, d) :: P) → Q v H') : wX X x y H Q := by
  unfold dIx at e
  split at e
  · rename_i o ks ds
    split at e
    · rename_i k ek
      obtain ⟨d0, e0, rfl⟩ := Option.map_eq_some_iff.mp e
      have ey := s.key ek
      subst ey
      have s1 := s.drop.freeze
      obtain ⟨Y, F, r⟩ := s1.head
      cases r with
      | @dctF a kvs _ _ ha hz hk ts =>
        rw [← hk.1] at e0
        obtain ⟨j, v, h1, h2, _, h3⟩ := lookD_get e0
        refine ix_dictW hu rfl (by rw [← h1]; exact dgetR ha) (q _ _ ?_)
        refine (s1.part (isFz_fz _) (w := v) (t := fz d0) fun Y' q' => ?_).perm (.swap _ _ _) |>.drop
        cases q' with
        | dctF ha' hz' hk' ts' =>
          have := rd_inj ha ha'
          subst this
          have hj : (fzs ds)[j]? = some (fz d0) := by rw [fzs_map, List.getElem?_map, h3]; rfl
          obtain ⟨v', hv', rv'⟩ := ts'.get hj
          rw [List.getElem?_map, h2] at hv'
          cases hv'
          exact rv'
    · cases e
  · rename_i ds i
    have ey := s.int
    obtain ⟨p, vs, rfl, hp, hl, s1⟩ := s.drop.tup
    obtain ⟨j, v, _, e1, e2, e3⟩ := atI_zip hl e
    refine wX_of ix_tup ⟨p, vs, i, v, rfl, ey, hp, e1, q _ _ ?_⟩
    obtain ⟨A, pm⟩ := zip_get e2 e3
    have s2 := s1.perm (pm.append_right P)
    have s3 : Sp X.K X.mg Z Hb H (A ++ ((v, d) :: P)) := s2.perm (by
      show List.Perm ((v, d) :: (A ++ P)) _
      exact List.perm_middle.symm)
    exact s3.dropL
  · rename_i o ds i
    obtain ⟨d0, e0, rfl⟩ := Option.map_eq_some_iff.mp e
    have ey := s.int
    obtain ⟨p, vs, rfl, hp, hl, s1⟩ := s.drop.freeze.lst
    have e0' : atI (fzs ds) i = some (fz d0) := by
      unfold atI at e0 ⊢
      rw [fzs_length]
      obtain ⟨j, e1, e2⟩ := Option.bind_eq_some_iff.mp e0
      rw [e1]
      show (fzs ds)[j]? = _
      rw [fzs_map, List.getElem?_map, e2]; rfl
    obtain ⟨j, v, _, e1, e2, e3⟩ := atI_zip hl e0'
    refine wX_of ix_list ⟨p, vs, i, v, rfl, ey, .of hp, e1, q _ _ ?_⟩
    obtain ⟨A, pm⟩ := zip_get e2 e3
    have s2 := s1.perm (pm.append_right P)
    have s3 : Sp X.K X.mg Z Hb H (A ++ ((v, fz d0) :: P)) := s2.perm (by
      show List.Perm ((v, fz d0) :: (A ++ P)) _
      exact List.perm_middle.symm)
    exact s3.dropL
  · rename_i x0 i
    split at e
    · rename_i hz
      obtain ⟨c, e0, rfl⟩ := Option.map_eq_some_iff.mp e
      exact wX_of ix_str ⟨x0, i, c, s.drop.str, s.int, hz, e0, q _ _ (s.two fun _ => .str)⟩
    · cases e
  · cases e
theorem ig_ix (hu : X.A.units + 65 < cLine) (ha : IG X a ma) (hb : IG X b mb) (hs : PlainIx b) : IG X (.Subscript a b pos) (mBin dIx ma mb) := by
  intro Z Hb H σ δ L d δ' s e Q q
  refine wE_of (pe_ix ixr_w pe_w pe_w hs) ?_
  obtain ⟨x, δ1, y, e1, e2, e3⟩ := bin_of e
  exact ha s e1 _ fun v H1 s1 => hb s1 e2 _ fun w H2 s2 => ix_run (by omega) s2.sp e3 Q fun z H3 s3 => q z H3 ⟨s3, s2.dom⟩
end
end DL
set_option Elab.async false
set_option linter.all false
set_option maxRecDepth 100000
set_option maxHeartbeats 4000001
namespace DL
open PySem PySem.Spec L2
def BC (X : Cx) (f : Value) (g : List D → Option D) : Prop := ∀ {Z : Addr → Prop} {Hb H : Hp} {P : PL} {vs : List V} {ds : List D} {d : D}, vs.length = ds.length → Sp X.K X.mg Z Hb H (vs.zip ds ++ P) → g ds = some d →
  ∀ Q : VK, (∀ v H', Sp X.K X.mg Z Hb H' ((v, d) :: P) → Q v H') → wC X f vs H Q
def mCallB (g : List D → Option D) (r : ML) : ME := fun δ => match r δ with
  | some (ds, δ1) => match g ds with
    | some d => some (d, δ1)
    | none => none
  | none => none
theorem callB_of {g : List D → Option D} {r : ML} {δ δ' : Env} {d : D} (e : mCallB g r δ = some (d, δ')) : ∃ ds, r δ = some (ds, δ') ∧ g ds = some d := by
  unfold mCallB at e
  split at e
  · rename_i ds δ1 e1
    split at e
    · rename_i d0 e2
      cases e
      exact ⟨ds, e1, e2⟩
    · cases e
  · cases e
section
variable {X : Cx} {x : Str} {p pos : Pos} {e : Expr} {es : List Expr} {r : ML} {g : List D → Option D} {id T : String}
theorem ig_callB (hb : BC X (.builtin id) g) (hg : Gl X x) (hm : X.mg x = none) (hv : bootBuiltins x = some (.builtin id)) (ha : IL X (e :: es) r) (hn : x ≠ "__name__") (hdb : (x == ("__debug__" : Str)) = false)
    (he : starEach (e :: es) X.env = (false, eval e X.env) :: starEach es X.env) (hpl : (backTo pos (starEach es X.env)).any (·.1) = false) : IG X (.Call (.Name x p) (e :: es) [] pos) (mCallB g r) := by
  intro Z Hb H σ δ L d δ' s e' Q q
  obtain ⟨ds, e1, e2⟩ := callB_of e'
  refine wE_of (pe_callB callr_w hg hm hv pa_w hn hdb he hpl) ?_
  refine ha s e1 _ fun vs H1 hl s1 => ?_
  have := s1.sp
  (rw [List.append_assoc] at this)
  exact hb hl this e2 Q fun v H' s' => q v H' ⟨s', s1.dom⟩
theorem ig_callTy (hb : BC X (.type T) g) (hg : Gl X x) (hm : X.mg x = none) (hv : bootBuiltins x = some (.type T)) (ha : IL X (e :: es) r) (hn : x ≠ "__name__") (hdb : (x == ("__debug__" : Str)) = false)
    (he : starEach (e :: es) X.env = (false, eval e X.env) :: starEach es X.env) (hpl : (backTo pos (starEach es X.env)).any (·.1) = false) : IG X (.Call (.Name x p) (e :: es) [] pos) (mCallB g r) := by
  intro Z Hb H σ δ L d δ' s e' Q q
  obtain ⟨ds, e1, e2⟩ := callB_of e'
  refine wE_of (pe_callTy callr_w hg hm hv pa_w hn hdb he hpl) ?_
  refine ha s e1 _ fun vs H1 hl s1 => ?_
  have := s1.sp
  (rw [List.append_assoc] at this)
  exact hb hl this e2 Q fun v H' s' => q v H' ⟨s', s1.dom⟩
/-- the name of a built-in class as a value -/
theorem ig_ty (t : BT) (hg : Gl X x) (hm : X.mg x = none) (hv : bootBuiltins x = some (.type t.name)) (hn : x ≠ "__name__") (hdb : (x == ("__debug__" : Str)) = false) : IG X (.Name x pos) (mC (.ty t)) :=
  ig_c (pe_bltn (v := .ty t.name) hg hm hv rfl hn hdb) fun _ _ => .ty
/-- a text, a number of the module's top -/
theorem ig_glob {d : D} {v : V} {u : Value} (hg : Gl X x) (hm : X.mg x = some u) (rv : RelV v u) (r : ∀ H Y, Rep X.K X.mg H Y v d []) (hdb : (x == ("__debug__" : Str)) = false) : IG X (.Name x pos) (mC d) :=
  ig_c (pe_glob hg hm rv hdb) r
end
def isOf (t : BT) : D → Option Bool
  | .non => some false
  | .bl _ => some (decide (t = .bool) || decide (t = .int))
  | .int _ => some (decide (t = .int))
  | .str _ => some (decide (t = .str))
  | .tup _ => some (decide (t = .tup))
  | .lst _ _ => some (decide (t = .lst))
  | .scr _ => some (decide (t = .lst))
  | .dct _ _ _ => some (decide (t = .dct))
  | _ => none
def isAny : List BT → D → Option Bool
  | [], _ => some false
  | t :: r, d => match isOf t d with
    | some true => some true
    | some false => isAny r d
    | none => none
def tysOf : List D → Option (List BT)
  | [] => some []
  | .ty t :: r => (tysOf r).map (t :: ·)
  | _ :: _ => none
def dIsi : List D → Option D
  | [d, .ty t] => (isOf t d).map .bl
  | [d, .tup ts] => match tysOf ts with
    | some (t :: bs) => (isAny (t :: bs) d).map .bl
    | _ => none
  | _ => none
theorem kit_non : ∀ t : BT, kitB "NoneType" t.name = some false := by intro t; cases t <;> decide +kernel
theorem kit_bl : ∀ t : BT, kitB "bool" t.name = some (decide (t = .bool) || decide (t = .int)) := by intro t; cases t <;> decide +kernel
theorem kit_int : ∀ t : BT, kitB "int" t.name = some (decide (t = .int)) := by intro t; cases t <;> decide +kernel
theorem kit_str : ∀ t : BT, kitB "str" t.name = some (decide (t = .str)) := by intro t; cases t <;> decide +kernel
theorem kit_tup : ∀ t : BT, kitB "tuple" t.name = some (decide (t = .tup)) := by intro t; cases t <;> decide +kernel
theorem kit_lst : ∀ t : BT, kitB "list" t.name = some (decide (t = .lst)) := by intro t; cases t <;> decide +kernel
theorem kit_dct : ∀ t : BT, kitB "dict" t.name = some (decide (t = .dct)) := by intro t; cases t <;> decide +kernel
section
variable {K : PySem.W.Frag} {mg : Str → Option Value} {H Hb : Hp} {Z : Addr → Prop}
theorem tyx_tup {a : Addr} {vs : List V} (h : SqT K H a vs) : TyX K H (.ref a) (.type "tuple") := by
  rcases h with (h | ⟨o, h⟩) | ⟨o, its, n, h, hc, _⟩
  · exact .base (.tup h)
  · exact .fTuple h
  · exact .kTuple h hc
theorem tyx_scr {a : Addr} {vs : List V} (h : ScrAt K H a vs) : TyX K H (.ref a) (.type "list") := by
  rcases h with ⟨o, h⟩ | ⟨o, its, n, h, hc, _⟩
  · exact .base (.frz h)
  · exact .kList h hc
/-- the class of a value -/
theorem Rep.cls {v : V} {d : D} {F : List Addr} (r : Rep K mg H Z v d F) (h0 : isOf .int d ≠ none) : ∃ c, TyX K H v c ∧ ∀ (t : BT) (b : Bool), isOf t d = some b → PySem.W.kitOne K c (.type t.name) = some b := by
  cases r with
  | non => exact ⟨_, .base .non, fun t b e => by cases e; exact kit_ty (kit_non t)⟩
  | bl => exact ⟨_, .base (.bl _), fun t b e => by cases e; exact kit_ty (kit_bl t)⟩
  | int => exact ⟨_, .base (.int _), fun t b e => by cases e; exact kit_ty (kit_int t)⟩
  | str => exact ⟨_, .base (.str _), fun t b e => by cases e; exact kit_ty (kit_str t)⟩
  | ty => exact absurd rfl h0
  | glo _ => exact absurd rfl h0
  | tup h _ => exact ⟨_, tyx_tup h, fun t b e => by cases e; exact kit_ty (kit_tup t)⟩
  | scr h _ => exact ⟨_, tyx_scr h, fun t b e => by cases e; exact kit_ty (kit_lst t)⟩
  | lstF h _ _ => exact ⟨_, .base (.lst h), fun t b e => by cases e; exact kit_ty (kit_lst t)⟩
  | lstO h _ => exact ⟨_, .base (.lst h), fun t b e => by cases e; exact kit_ty (kit_lst t)⟩
  | dctF h _ _ _ =>
    refine ⟨.type "dict", ?_, fun t b e => by cases e; exact kit_ty (kit_dct t)⟩
    rcases h with h | ⟨o, h⟩
    · exact .base (.dK h)
    · exact .fDict h
  | dctO h _ _ => exact ⟨_, .base (.dK h), fun t b e => by cases e; exact kit_ty (kit_dct t)⟩
  | objF _ _ _ _ _ => exact absurd rfl h0
  | objO _ _ _ _ => exact absurd rfl h0
  | rawF _ _ _ => exact absurd rfl h0
  | rawO _ _ => exact absurd rfl h0
theorem isOf_some {d : D} {t t' : BT} (h : isOf t d ≠ none) : isOf t' d ≠ none := by
  cases d <;> simp_all [isOf]
theorem kit_any {c : Value} {d : D} (hc : ∀ (t : BT) (b : Bool), isOf t d = some b → PySem.W.kitOne K c (.type t.name) = some b) : ∀ {bs : List BT} {b : Bool}, isAny bs d = some b → PySem.W.kitAny K c (bs.map fun t => Value.type t.name) = some b
  | [], b, e => by cases e; rfl
  | t :: bs, b, e => by
    simp only [isAny] at e
    cases e1 : isOf t d with
    | none => rw [e1] at e; cases e
    | some k =>
      rw [e1] at e
      refine kitAny_cons (hc t k e1) (fun hk => ?_) (fun hk => ?_)
      · subst hk; exact kit_any hc e
      · subst hk; cases e; rfl
theorem cls_all : ∀ {ts : List D} {bs : List BT} {Y : Addr → Prop} {vs : List V} {G : List Addr}, tysOf ts = some bs → Reps K mg H Y vs ts G → Paired ClsV vs (bs.map fun t => Value.type t.name)
  | [], bs, _, vs, _, e, r => by cases e; cases r; exact .nil
  | t :: ts, bs, _, vs, _, e, r => by
    cases t with
    | ty t =>
      simp only [tysOf, Option.map_eq_some_iff] at e
      obtain ⟨bs', e1, rfl⟩ := e
      cases r with
      | cons q r' =>
        cases q
        exact .cons (.ty _) (cls_all e1 r')
    | _ => cases e
end
/-- isinstance against a tuple of classes that is read -/
def rIsiS (K : PySem.W.Frag) : List V → Hp → VK → Prop := fun xs H Q => ∃ (x : V) (tp : Addr) (cs : List V) (t : Value) (us : List Value) (b : Bool), xs = [x, .ref tp] ∧ SqT K H tp cs ∧ Paired ClsV cs us ∧ TyX K H x t ∧ PySem.W.kitAny K t us = some b ∧ Q (.bl b) H
section
variable {X : Cx}
theorem call_isiS : CallR X (.builtin "isinstance") (rIsiS X.K) := by
  (intro pins s σ H xs us Q I r h)
  (obtain ⟨x, tp, cs, t, ws, b, rfl, hT, k, ty, e, q⟩ := h)
  (obtain ⟨u1, u2, rfl, r1, r2⟩ := vals2 r)
  (cases (show u2 = Value.ref tp from r2))
  obtain ⟨Pz, Zk, pz, hx⟩ := kit_of I r1 ty
  obtain ⟨its, rv, ⟨⟨oc, od, dt, sl⟩, h1, h2, n, h3⟩, _⟩ := I.tuple hT
  have e3 := ClsV.all k rv
  subst e3
  simp only at h2 h3
  subst h2 h3
  exact PySem.W.kia_tup Zk I.kIn pz h1 e hx fun tk => ⟨.bl b, H, I.tok tk, rfl, q⟩
theorem bc_isi : BC X (.builtin "isinstance") dIsi := by
  intro Z Hb H P vs ds d hl s e Q q
  unfold dIsi at e
  split at e
  · rename_i d0 t
    obtain ⟨b, e1, rfl⟩ := Option.map_eq_some_iff.mp e
    match vs, hl with
    | [v, w], _ =>
      have s0 : Sp X.K X.mg Z Hb H ((v, d0) :: (w, .ty t) :: P) := s
      have ew := s0.drop.ty
      obtain ⟨Y, F, r⟩ := s0.head
      obtain ⟨c, hc, hk⟩ := r.cls (isOf_some (t := t) (by rw [e1]; exact fun h => nomatch h))
      refine wC_of call_isi ⟨v, w, c, .type t.name, b, rfl, by rw [ew]; exact .ty _, hc, hk t b e1, q _ _ ?_⟩
      exact s0.drop.drop.put fun _ => .bl
  · rename_i d0 ts
    split at e
    · rename_i t0 bs0 e0
      obtain ⟨b, e1, rfl⟩ := Option.map_eq_some_iff.mp e
      match vs, hl with
      | [v, w], _ =>
        have s0 : Sp X.K X.mg Z Hb H ((v, d0) :: (w, .tup ts) :: P) := s
        obtain ⟨a, cs, rfl, ha, hlc, s1⟩ := s0.drop.tup
        obtain ⟨Y, F, r⟩ := s0.head
        have fin : Sp X.K X.mg Z Hb H ((V.bl b, D.bl b) :: P) := s0.drop.drop.put fun _ => .bl
        obtain ⟨Y', F', r'⟩ := s0.drop.head
        cases r' with
        | @tup _ cs' _ _ h' t' =>
          have hp := cls_all e0 t'
          have hn : isOf .int d0 ≠ none := by
            simp only [isAny] at e1
            cases e3 : isOf t0 d0 with
            | none => rw [e3] at e1; cases e1
            | some _ => exact isOf_some (t := t0) (by rw [e3]; exact fun h => nomatch h)
          obtain ⟨c, hc, hk⟩ := r.cls hn
          exact wC_of call_isiS ⟨v, a, cs', c, _, b, rfl, h', hp, hc, kit_any hk e1, q _ _ fin⟩
    · cases e
  · cases e
end
end DL
namespace DL
open PySem PySem.Spec L2
def dLen : List D → Option D
  | [.str x] => if x.length ≤ sizeLine then some (.int x.length) else none
  | [.tup ds] => some (.int ds.length)
  | [.lst _ ds] => some (.int ds.length)
  | [.scr ds] => some (.int ds.length)
  | [.dct _ ks _] => some (.int ks.length)
  | _ => none
def dAbs : List D → Option D
  | [.int i] => some (.int (if i < 0 then -i else i))
  | _ => none
def dInt : List D → Option D
  | [.int i] => some (.int i)
  | [.bl b] => some (.int (if b then 1 else 0))
  | _ => none
def dMin2 : List D → Option D
  | [.int i, .int j] => some (.int (if j < i then j else i))
  | _ => none
def blsOf : List D → Option (List Bool)
  | [] => some []
  | .bl b :: r => (blsOf r).map (b :: ·)
  | _ :: _ => none
def dAll : List D → Option D
  | [.lst _ ds] => (blsOf ds).map fun bs => .bl (bs.all id)
  | _ => none
def strsOf : List D → Option (List Str)
  | [] => some []
  | .str b :: r => (strsOf r).map (b :: ·)
  | _ :: _ => none
def dTuple : List D → Option D
  | [.lst _ ds] => some (.tup ds)
  | [.tup ds] => some (.tup ds)
  | _ => none
def dList : List D → Option D
  | [.lst _ ds] => some (.lst true ds)
  | [.tup ds] => some (.lst true ds)
  | _ => none
theorem bls_vals {K : PySem.W.Frag} {mg : Str → Option Value} {H : Hp} {Y : Addr → Prop} : ∀ {ds : List D} {bs : List Bool} {vs : List V} {G : List Addr}, blsOf ds = some bs → Reps K mg H Y vs ds G → vs = bs.map V.bl
  | [], _, _, _, e, r => by cases e; cases r; rfl
  | d :: ds, _, _, _, e, r => by
    cases d with
    | bl b =>
      simp only [blsOf, Option.map_eq_some_iff] at e
      obtain ⟨bs', e1, rfl⟩ := e
      cases r with
      | cons q t => cases q; rw [bls_vals e1 t]; rfl
    | _ => cases e
theorem strs_vals {K : PySem.W.Frag} {mg : Str → Option Value} {H : Hp} {Y : Addr → Prop} : ∀ {ds : List D} {bs : List Str} {vs : List V} {G : List Addr}, strsOf ds = some bs → Reps K mg H Y vs ds G → vs = bs.map V.str
  | [], _, _, _, e, r => by cases e; cases r; rfl
  | d :: ds, _, _, _, e, r => by
    cases d with
    | str b =>
      simp only [strsOf, Option.map_eq_some_iff] at e
      obtain ⟨bs', e1, rfl⟩ := e
      cases r with
      | cons q t => cases q; rw [strs_vals e1 t]; rfl
    | _ => cases e
theorem Sp.lst' {K : PySem.W.Frag} {mg : Str → Option Value} {H Hb : Hp} {Z : Addr → Prop} {P : PL} {v : V} {o : Bool} {ds : List D} (s : Sp K mg Z Hb H ((v, .lst o ds) :: P)) : ∃ a vs Y F, v = .ref a ∧ H a = some (.lst vs) ∧ Reps K mg H Y vs ds F := by
  obtain ⟨Y, F, q⟩ := s.head
  cases q with
  | lstF h z t => exact ⟨_, _, _, _, rfl, h, t⟩
  | lstO h t => exact ⟨_, _, _, _, rfl, h, t⟩
section
variable {X : Cx}
/-- len of a dict that is read -/
theorem call_lenR : CallR X (.builtin "len") (fun xs H Q => ∃ a kvs, xs = [V.ref a] ∧ Rd H a (.dK kvs) ∧ Q (.int kvs.length) H) := by
  intro pins s σ H xs us Q I r h
  obtain ⟨a, kvs, rfl, ha, q⟩ := h
  obtain ⟨u, rfl, ru⟩ := vals1 r
  (cases ru; exact d_len I ha fun t s' I' => ⟨.int kvs.length, H, I', ⟨t, rfl⟩, q⟩)
theorem bc_len : BC X (.builtin "len") dLen := by
  intro Z Hb H P vs ds d hl s e Q q
  unfold dLen at e
  split at e
  · rename_i x
    split at e
    · rename_i hz
      cases e
      match vs, hl with
      | [v], _ =>
        have s0 : Sp X.K X.mg Z Hb H ((v, .str x) :: P) := s
        exact wC_of call_len ⟨v, x.length, rfl, by rw [s0.str]; exact ⟨hz, rfl⟩, q _ _ (s0.drop.put fun _ => .int)⟩
    · cases e
  · rename_i ts
    cases e
    match vs, hl with
    | [v], _ =>
      have s0 : Sp X.K X.mg Z Hb H ((v, .tup ts) :: P) := s
      obtain ⟨a, ws, rfl, ha, hl, _⟩ := s0.tup
      exact wC_of call_len ⟨_, ts.length, rfl, .inr ⟨ws, ha, hl.symm⟩, q _ _ (s0.drop.put fun _ => .int)⟩
  · rename_i o ts
    cases e
    match vs, hl with
    | [v], _ =>
      have s0 : Sp X.K X.mg Z Hb H ((v, .lst o ts) :: P) := s
      obtain ⟨a, ws, rfl, ha, hl, _⟩ := s0.lst
      exact wC_of call_len ⟨_, ts.length, rfl, .inl ⟨ws, .of ha, hl.symm⟩, q _ _ (s0.drop.put fun _ => .int)⟩
  · rename_i ts
    cases e
    match vs, hl with
    | [v], _ =>
      have s0 : Sp X.K X.mg Z Hb H ((v, .scr ts) :: P) := s
      obtain ⟨a, ws, rfl, ha, hl⟩ := s0.scr
      exact wC_of call_len ⟨_, ts.length, rfl, .inl ⟨ws, ha.sq, hl.symm⟩, q _ _ (s0.drop.put fun _ => .int)⟩
  · rename_i o ks ts
    cases e
    match vs, hl with
    | [v], _ =>
      have s0 : Sp X.K X.mg Z Hb H ((v, .dct o ks ts) :: P) := s
      obtain ⟨Y, F, r⟩ := s0.head
      have go : ∀ (a : Addr) (kvs : List (Key × V)), v = .ref a → Rd H a (.dK kvs) → kvs.map (·.1) = ks → wC X (.builtin "len") [v] H Q := fun a kvs ev ha hk => by
        refine wC_of call_lenR ⟨a, kvs, by rw [ev], ha, ?_⟩
        have : kvs.length = ks.length := by rw [← hk, List.length_map]
        rw [this]
        exact q _ _ (s0.drop.put fun _ => .int)
      cases r with
      | dctF h z e' t => exact go _ _ rfl h e'.1
      | dctO h e' t => exact go _ _ rfl (.inl h) e'.1
  · cases e
theorem bc_abs : BC X (.builtin "abs") dAbs := by
  intro Z Hb H P vs ds d hl s e Q q
  unfold dAbs at e
  split at e
  · cases e
    match vs, hl with
    | [v], _ =>
      have s0 : Sp X.K X.mg Z Hb H ((v, _) :: P) := s
      exact wC_of call_abs ⟨_, by rw [s0.int], q _ _ (s0.drop.put fun _ => .int)⟩
  · cases e
theorem bc_int : BC X (.type "int") dInt := by
  intro Z Hb H P vs ds d hl s e Q q
  unfold dInt at e
  split at e
  · cases e
    match vs, hl with
    | [v], _ =>
      have s0 : Sp X.K X.mg Z Hb H ((v, _) :: P) := s
      exact wC_of call_int1 (.inl ⟨_, by rw [s0.int], q _ _ (s0.drop.put fun _ => .int)⟩)
  · cases e
    match vs, hl with
    | [v], _ =>
      have s0 : Sp X.K X.mg Z Hb H ((v, _) :: P) := s
      exact wC_of call_int1 (.inr ⟨_, by rw [s0.bl], q _ _ (s0.drop.put fun _ => .int)⟩)
  · cases e
theorem bc_min2 (hc : X.calm = true) : BC X (.builtin "min") dMin2 := by
  intro Z Hb H P vs ds d hl s e Q q
  unfold dMin2 at e
  split at e
  · cases e
    match vs, hl with
    | [v, w], _ =>
      have s0 : Sp X.K X.mg Z Hb H ((v, _) :: (w, _) :: P) := s
      exact wC_of (call_min2 hc) ⟨_, _, by rw [s0.int, s0.drop.int], q _ _ (s0.drop.drop.put fun _ => .int)⟩
  · cases e
theorem bc_all (hc : X.calm = true) : BC X (.builtin "all") dAll := by
  intro Z Hb H P vs ds d hl s e Q q
  unfold dAll at e
  split at e
  · obtain ⟨bs, e1, rfl⟩ := Option.map_eq_some_iff.mp e
    match vs, hl with
    | [v], _ =>
      have s0 : Sp X.K X.mg Z Hb H ((v, _) :: P) := s
      obtain ⟨a, ws, Y, F, rfl, ha, r⟩ := s0.lst'
      exact wC_of (cr_all hc) ⟨a, bs, rfl, by rw [← bls_vals e1 r]; exact .of ha, q _ _ (s0.drop.put fun _ => .bl)⟩
  · cases e
theorem bc_tuple : BC X (.type "tuple") dTuple := by
  intro Z Hb H P vs ds d hl s e Q q
  unfold dTuple at e
  split at e
  · cases e
    match vs, hl with
    | [v], _ =>
      have s0 : Sp X.K X.mg Z Hb H ((v, _) :: P) := s
      obtain ⟨a, ws, rfl, ha, hl, s1⟩ := s0.lst
      exact wC_of call_tuple_of ⟨a, ws, rfl, .inl ⟨.of ha, fun p hp => q _ _ (s1.newT hl hp)⟩⟩
  · cases e
    match vs, hl with
    | [v], _ =>
      have s0 : Sp X.K X.mg Z Hb H ((v, _) :: P) := s
      obtain ⟨a, ws, rfl, ha, hl, s1⟩ := s0.tup
      exact wC_of call_tuple_of ⟨a, ws, rfl, .inr ⟨ha, q _ _ s0⟩⟩
  · cases e
theorem bc_list : BC X (.type "list") dList := by
  intro Z Hb H P vs ds d hl s e Q q
  unfold dList at e
  split at e
  · cases e
    match vs, hl with
    | [v], _ =>
      have s0 : Sp X.K X.mg Z Hb H ((v, _) :: P) := s
      obtain ⟨a, ws, rfl, ha, hl, s1⟩ := s0.lst
      exact wC_of call_list_of ⟨a, ws, rfl, .inl (.of ha), fun p hp => q _ _ (s1.newL hl hp)⟩
  · cases e
    match vs, hl with
    | [v], _ =>
      have s0 : Sp X.K X.mg Z Hb H ((v, _) :: P) := s
      obtain ⟨a, ws, rfl, ha, hl, s1⟩ := s0.tup
      exact wC_of call_list_of ⟨a, ws, rfl, .inr ha, fun p hp => q _ _ (s1.newL hl hp)⟩
  · cases e
end
end DL
set_option Elab.async false
set_option linter.all false
set_option maxRecDepth 100000
set_option maxHeartbeats 4000001
namespace DL
open PySem.Spec PySem L2 PyProof.Rows
/-- the def at f keeps the promise sp, wherever there is room, no exception is handled and no repr is under way -/
structure FnG (P : Program) (w : World) (K : PySem.W.Frag) (mg : Str → Option Value) (base : Heap) (k : Nat) (f : Addr) (fd : FuncData) (ps : List Str) (sp : L2.Sp) : Prop where
  len : ∀ (vs : List V) (H : Hp) (Q : VK) (E : XK), sp vs H Q E → vs.length = ps.length
  run : ∀ (A : Around) (outer : List PySem.Env) (s : Shared) (H : Hp) (args : Args) (us : List Value) (vs : List V) (Q : VK) (E : XK), Room k A → A.guards = some [] →
    Env0 P w K mg base A outer s H → BindsTo s fd args (ps.zip us) → Vals vs us → sp vs H Q E → codeAny (model P w) A (.call (.ref f) args) (CR CX0 outer P w H s Q E) s
theorem FnG.mono {P : Program} {w : World} {K : PySem.W.Frag} {mg : Str → Option Value} {base : Heap} {j k : Nat} {f : Addr} {fd : FuncData} {ps : List Str} {sp : L2.Sp} (F : FnG P w K mg base j f fd ps sp) (h : j ≤ k) : FnG P w K mg base k f fd ps sp :=
  ⟨F.len, fun A outer s H args us vs Q E hr => F.run A outer s H args us vs Q E (hr.mono h)⟩
section
variable {P : Program} {w : World} {K : PySem.W.Frag} {mg : Str → Option Value} {base : Heap} {k : Nat} {f : Addr} {x qual : Str} {params : Arguments} {body : List Stmt} {scope : Scope} {dvs : List V} {kws : List (Str × V)} {fd : FuncData} {N ps : List Str} {sp : L2.Sp}
/-- a def's body: X, the context in which it stands -/
theorem FnG.of (F : FunD K x qual params body scope dvs kws f fd) (S : FnScope N ps scope) (len : ∀ vs H Q E, sp vs H Q E → vs.length = ps.length)
    (hb : ∀ (cdv : Value) (A : Around) (outer : List PySem.Env) (s : Shared) (H : Hp) (vs : List V) (Q : VK) (E : XK), Room k (A.deeper (envOfC qual scope s.heap.objs.size f cdv)) → (A.deeper (envOfC qual scope s.heap.objs.size f cdv)).guards = some [] → sp vs H Q E →
      wSs (cxOf CX0 P w K mg base N qual scope f cdv A outer s H E).nox body { nx := fun _ H' => Q .non H', rt := Q } (start N vs) H) : FnG P w K mg base (k + 1) f fd ps sp := by
  (obtain ⟨oc, od, dV, kV, doc, pm, an, cdv, ct, osl, rfl, lk, hcd, _, _⟩ := F.ex)
  refine ⟨len, fun A outer s H args us vs Q E hr hg e0 hbi rv hsp => ?_⟩
  have inK : K.In s.heap := e0.mod.kin.keeps fun b o e => (e0.bs b o e).1
  have hlim : s.heap.NoLimit := e0.mod.nolimit.keeps fun b o e => (e0.bs b o e).1
  have kinds : ∀ y ∈ ps.zip us, scope.names.lookup y.1 = some .local ∨ (scope.names.lookup y.1 = some .cell ∧ ((cellsFrom (s.heap.objs.size + 1) scope.names []).lookup y.1).isSome = true) := by
    rintro ⟨n, v⟩ hy
    exact (S.par n (List.of_mem_zip hy).1).imp id fun q => ⟨q, PySem.W.cellsFrom_some _ _ _ (.inl q)⟩
  have hbind := hbi
  refine codeAny_call_function hr.depth (inK _ _ lk) rfl S.co S.gen rfl
    (PySem.W.codeRec_of inK hcd) (hbind _ _ _ _ ?_)
  refine wpAny_newFunctionEnv_cells S.kind kinds fun env he s1 x1 => ?_
  subst he
  refine ⟨hlim.keeps x1.toInCall.keep, codeAny_func ?_⟩
  have I : Inv (cxOf CX0 P w K mg base N qual scope f cdv A outer s H E) [] (start N vs) H s1 := inv_start S hr.hd e0 (len _ _ _ _ hsp) rv x1
  have run := hb cdv A outer s H vs Q E (hr.deeper _) hg hsp
  refine wpAny_mono (run [] s1 (I.wish _)) (fun fl s' hs => ?_) fun e s' hs => hs.elim
  have hs := hs.unwish
  have fin : ∀ {σ' : L2.St} {H' : Hp} {v : V} {u : Value}, Inv (cxOf CX0 P w K mg base N qual scope f cdv A outer s H E) [] σ' H' s' → RelV v u → Q v H' → CE outer P w H s Q u s' :=
    fun {σ' H' v u} J r q => ⟨v, H', J.os, J.bare, J.base, J.hok, r, q⟩
  match fl, hs with
  | .ret u, ⟨v, σ', H', J, r, q⟩ => exact fin J r q
  | .next, ⟨σ', H', J, q⟩ => exact fin (v := V.non) (u := Value.none) J rfl q
  | .brk, ⟨_, _, _, q⟩ => exact q.elim
  | .cont, ⟨_, _, _, q⟩ => exact q.elim
end
section
variable {X : Cx} {k : Nat} {f : Addr} {fd : FuncData} {ps : List Str} {sp : L2.Sp} {dvs : List V} {ds : List Value} {x m : Str} {p pos apos : Pos} {e : Expr} {es : List Expr}
/-- the callee runs -/
theorem FnG.go (F : FnG X.prog X.w X.K X.mg X.base k f fd ps sp) (hr : Room k X.A) (hg : X.A.guards = some []) {pins : List (Addr × Obj)} {σ : L2.St} {H : Hp} {s : Shared} {Q : VK} {us : List Value} {vs : List V} {args : Args} (I : Inv X pins σ H s) (hb : BindsTo s fd args (ps.zip us)) (rv : Vals vs us) (h : sp vs H Q E0) :
    codeAny (model X.prog X.w) X.A (.call (.ref f) args) (fun r s' => match r with
      | .ok (.ret u) => EP X pins σ Q u s'
      | _ => False) s := by
  refine codeAny_mono (F.run X.A X.stack s H args us vs Q E0 hr hg I.env0 hb rv h) fun r s' hq => ?_
  match r, hq with
  | .ok (.ret u), hq => exact I.after hq
end
end DL
namespace DL
open PySem.Spec PySem L2 PyProof.Rows
abbrev MF := List D → Option (D × List D)
def spD (K : PySem.W.Frag) (mg : Str → Option Value) (n : Nat) (m : MF) : L2.Sp := fun vs H Q _ => vs.length = n ∧ ∃ (Z : Addr → Prop) (Hb : Hp) (ds : List D) (r : D) (ds' : List D),
  ds.length = n ∧ Sp K mg Z Hb H (vs.zip ds) ∧ m ds = some (r, ds') ∧ ∀ v H', Sp K mg Z Hb H' ((v, r) :: vs.zip ds') → Q v H'
/-- an argument: a slot of the caller's, or a value -/
inductive AS where
  | v (i : Nat)
  | e (m : ME)
inductive AR where
  | v (i : Nat)
  | e (d : D)
def mArgs : List AS → Env → Option (List AR × Env)
  | [], δ => some ([], δ)
  | .v i :: r, δ => match δ[i]? with
    | some (some _) => match mArgs r δ with
      | some (rs, δ1) => some (.v i :: rs, δ1)
      | none => none
    | _ => none
  | .e m :: r, δ => match m δ with
    | some (d, δ1) => match mArgs r δ1 with
      | some (rs, δ2) => some (.e d :: rs, δ2)
      | none => none
    | none => none
/-- what is handed over: the trees, and which slots are lent -/
def lend : List AR → Env → Option (List (D × Option Nat) × Env)
  | [], δ => some ([], δ)
  | .v i :: r, δ => match δ[i]? with
    | some (some d) => if isFz d then match lend r δ with
        | some (ls, δ1) => some ((d, none) :: ls, δ1)
        | none => none
      else match lend r (δ.set i none) with
        | some (ls, δ1) => some ((d, some i) :: ls, δ1)
        | none => none
    | _ => none
  | .e d :: r, δ => match lend r δ with
    | some (ls, δ1) => some ((d, none) :: ls, δ1)
    | none => none
/-- what was lent comes back -/
def restore : List (D × Option Nat) → List D → Env → Env
  | (_, some i) :: ls, d :: ds, δ => restore ls ds (δ.set i (some d))
  | (_, none) :: ls, _ :: ds, δ => restore ls ds δ
  | _, _, δ => δ
def mCall (m : MF) (as : List AS) (dd : List D) : ME := fun δ => match mArgs as δ with
  | some (rs, δ1) => match lend rs δ1 with
    | some (ls, δ2) => match m (ls.map (·.1) ++ dd) with
      | some (r, ds') => if ds'.length = ls.length + dd.length then some (r, restore ls ds' δ2) else none
      | none => none
    | none => none
  | none => none
/-- the arguments' values: those of the slots, those of the temporary pairs -/
inductive AV (σ : L2.St) : List AR → List V → PL → Prop
  | nil : AV σ [] [] []
  | v {i v rs vs T} : σ[i]? = some (some v) → AV σ rs vs T → AV σ (.v i :: rs) (v :: vs) T
  | e {d v rs vs T} : AV σ rs vs T → AV σ (.e d :: rs) (v :: vs) ((v, d) :: T)
def IA (X : Cx) (es : List Expr) (as : List AS) : Prop := ∀ {Z : Addr → Prop} {Hb H : Hp} {σ : L2.St} {δ : Env} {L : PL} {rs : List AR} {δ' : Env}, Sq X Z Hb H σ δ L → mArgs as δ = some (rs, δ') →
  ∀ Q : List V → Hp → Prop, (∀ vs H' T, AV σ rs vs T → Sq X Z Hb H' σ δ' (T ++ L) → Q vs H') → wA X es σ H Q
section
variable {X : Cx} {e : Expr} {es : List Expr} {as : List AS} {m : ME}
theorem ia_nil : IA X [] [] := by
  intro Z Hb H σ δ L rs δ' s e Q q
  cases e
  exact wA_of pa_nil (q [] H [] .nil s)
theorem ia_v {x : Str} {p : Pos} (i : Nat) (hp : PE X (.Name x p) (tVar i)) (t : IA X es as) (hs : starEach (.Name x p :: es) X.env = (false, eval (.Name x p) X.env) :: starEach es X.env) : IA X (.Name x p :: es) (.v i :: as) := by
  intro Z Hb H σ δ L rs δ' s e Q q
  simp only [mArgs] at e
  split at e
  · rename_i d hd
    split at e
    · rename_i rs' δ1 e1
      cases e
      obtain ⟨v, hv⟩ := s.dom.2 i d hd
      refine wA_of (pa_cons hp pa_w hs) ⟨v, hv, t s e1 _ fun vs H1 T av s1 => q _ _ T (.v hv av) s1⟩
    · cases e
  · cases e
theorem ia_e (h : IG X e m) (t : IA X es as) (hs : starEach (e :: es) X.env = (false, eval e X.env) :: starEach es X.env) : IA X (e :: es) (.e m :: as) := by
  intro Z Hb H σ δ L rs δ' s e' Q q
  simp only [mArgs] at e'
  split at e'
  · rename_i d δ1 e1
    split at e'
    · rename_i rs' δ2 e2
      cases e'
      refine wA_of (pa_cons pe_w pa_w hs) (h s e1 _ fun v H1 s1 => t s1 e2 _ fun vs H2 T av s2 => q _ _ _ (.e av) (s2.perm ?_))
      exact List.perm_middle
    · cases e'
  · cases e'
end
theorem lend_ok {X : Cx} {Z : Addr → Prop} {Hb H : Hp} {σ : L2.St} : ∀ {rs : List AR} {vs : List V} {T : PL} {δ : Env} {L : PL} {ls : List (D × Option Nat)} {δ1 : Env}, AV σ rs vs T → Sq X Z Hb H σ δ (T ++ L) → lend rs δ = some (ls, δ1) →
    Sq X Z Hb H σ δ1 (vs.zip (ls.map (·.1)) ++ L) ∧ vs.length = ls.length ∧ (∀ (j : Nat) (i : Nat) (d : D), ls[j]? = some (d, some i) → ∃ v, vs[j]? = some v ∧ σ[i]? = some (some v) ∧ i < σ.length)
  | _, _, _, δ, L, ls, δ1, .nil, s, e => by
    cases e
    exact ⟨s, rfl, fun j i d h => by simp at h⟩
  | _, _, _, δ, L, ls, δ1, .v (i := i) (v := v) (rs := rs) (vs := vs) (T := T) hv av, s, e => by
    simp only [lend] at e
    split at e
    · rename_i d hd
      have pm := prs_get hv hd
      split at e
      · rename_i hf
        split at e
        · rename_i ls' δ2 e1
          cases e
          -- a copy goes along as a temporary pair
          have s1 : Sp X.K X.mg Z Hb H ((v, d) :: (T ++ L ++ prs σ (δ.set i none))) := s.sp.perm ((pm.append_left _).trans List.perm_middle)
          have s2 : Sq X Z Hb H σ δ (T ++ ((v, d) :: L)) := ⟨(s1.dup hf).perm (by
            have p1 : List.Perm ((v, d) :: (T ++ L ++ prs σ (δ.set i none))) (T ++ L ++ prs σ δ) := ((pm.append_left (T ++ L)).trans List.perm_middle).symm
            have p2 := p1.cons (v, d)
            refine p2.trans ?_
            (rw [List.append_assoc, List.append_assoc])
            exact List.perm_middle.symm), s.dom⟩
          obtain ⟨s3, hl, hj⟩ := lend_ok av s2 e1
          refine ⟨s3.perm ?_, by simp [hl], fun j i' d' h => ?_⟩
          · show List.Perm _ ((v, d) :: (vs.zip (ls'.map (·.1)) ++ L))
            exact List.perm_middle
          · cases j with
            | zero => simp at h
            | succ j => exact hj j i' d' (by simpa using h)
        · cases e
      · split at e
        · rename_i ls' δ2 e1
          cases e
          have s1 : Sq X Z Hb H σ (δ.set i none) (T ++ ((v, d) :: L)) := ⟨s.sp.perm (by
            have p1 : List.Perm (T ++ L ++ prs σ δ) ((v, d) :: (T ++ L ++ prs σ (δ.set i none))) := (pm.append_left (T ++ L)).trans List.perm_middle
            refine p1.trans ?_
            (rw [List.append_assoc, List.append_assoc])
            exact List.perm_middle.symm), s.dom.drop i⟩
          obtain ⟨s3, hl, hj⟩ := lend_ok av s1 e1
          refine ⟨s3.perm ?_, by simp [hl], fun j i' d' h => ?_⟩
          · show List.Perm _ ((v, d) :: (vs.zip (ls'.map (·.1)) ++ L))
            exact List.perm_middle
          · cases j with
            | zero =>
              simp at h
              obtain ⟨_, rfl⟩ := h
              exact ⟨v, rfl, hv, (List.getElem?_eq_some_iff.mp hv).1⟩
            | succ j => exact hj j i' d' (by simpa using h)
        · cases e
    · cases e
  | _, _, _, δ, L, ls, δ1, .e (d := d) (v := v) (rs := rs) (vs := vs) (T := T) av, s, e => by
    simp only [lend] at e
    split at e
    · rename_i ls' δ2 e1
      cases e
      have s1 : Sq X Z Hb H σ δ (T ++ ((v, d) :: L)) := s.perm List.perm_middle.symm
      obtain ⟨s3, hl, hj⟩ := lend_ok av s1 e1
      refine ⟨s3.perm ?_, by simp [hl], fun j i' d' h => ?_⟩
      · show List.Perm _ ((v, d) :: (vs.zip (ls'.map (·.1)) ++ L))
        exact List.perm_middle
      · cases j with
        | zero => simp at h
        | succ j => exact hj j i' d' (by simpa using h)
    · cases e
theorem restore_ok {X : Cx} {Z : Addr → Prop} {Hb H : Hp} {σ : L2.St} : ∀ {ls : List (D × Option Nat)} {vs : List V} {ds : List D} {δ : Env} {L : PL}, vs.length = ls.length → ds.length = ls.length →
    (∀ (j : Nat) (i : Nat) (d : D), ls[j]? = some (d, some i) → ∃ v, vs[j]? = some v ∧ σ[i]? = some (some v) ∧ i < σ.length) → Sq X Z Hb H σ δ (vs.zip ds ++ L) → Sq X Z Hb H σ (restore ls ds δ) L
  | [], vs, ds, δ, L, hv, hd, _, s => by
    have e1 : vs = [] := List.eq_nil_of_length_eq_zero hv
    have e2 : ds = [] := List.eq_nil_of_length_eq_zero hd
    subst e1 e2
    exact s
  | (d0, o) :: ls, [], _, _, _, hv, _, _, _ => by simp at hv
  | (d0, o) :: ls, _ :: _, [], _, _, _, hd, _, _ => by simp at hd
  | (d0, none) :: ls, v :: vs, d :: ds, δ, L, hv, hd, hj, s => by
    simp only [restore]
    have s' : Sq X Z Hb H σ δ ((v, d) :: (vs.zip ds ++ L)) := s
    exact restore_ok (by simpa using hv) (by simpa using hd) (fun j i d' h => by simpa using hj (j + 1) i d' (by simpa using h)) s'.drop
  | (d0, some i) :: ls, v :: vs, d :: ds, δ, L, hv, hd, hj, s => by
    simp only [restore]
    obtain ⟨v', e1, e2, e3⟩ := hj 0 i d0 rfl
    have e4 : v = v' := by simpa using e1
    subst e4
    refine restore_ok (by simpa using hv) (by simpa using hd) (fun j i d' h => by simpa using hj (j + 1) i d' (by simpa using h)) ?_
    -- the pair goes into its slot (what stood there is given up)
    have hset : σ.set i (some v) = σ := by
      apply List.ext_getElem?
      intro n
      rw [List.getElem?_set]
      by_cases h : i = n
      · subst h; rw [if_pos rfl, if_pos e3, e2]
      · rw [if_neg h]
    have pm := prs_set (σ := σ) (δ := δ) (i := i) (v := v) (d := d) e3 s.dom.1
    rw [hset] at pm
    refine ⟨Sp.perm (P := (v, d) :: (vs.zip ds ++ L ++ prs σ (δ.set i none))) ?_ ?_, ?_⟩
    · -- the slot's old pair is dropped
      have s0 : Sp X.K X.mg Z Hb H ((v, d) :: (vs.zip ds ++ L ++ prs σ δ)) := s.sp
      cases hδ : δ[i]? with
      | none =>
        have : δ.set i none = δ := List.set_eq_of_length_le (by simpa using hδ)
        rw [this]; exact s0
      | some x => cases x with
        | none =>
          have : δ.set i none = δ := by
            apply List.ext_getElem?
            intro n
            rw [List.getElem?_set]
            by_cases h : i = n
            · subst h
              rw [if_pos rfl, hδ, if_pos (List.getElem?_eq_some_iff.mp hδ).1]
            · rw [if_neg h]
          rw [this]; exact s0
        | some dd =>
          have p1 := prs_get e2 hδ
          have s1 : Sp X.K X.mg Z Hb H ((v, dd) :: ((v, d) :: (vs.zip ds ++ L ++ prs σ (δ.set i none)))) := s0.perm (by
            have := (p1.append_left ((v, d) :: (vs.zip ds ++ L))).trans List.perm_middle
            exact this)
          exact s1.drop
    · have := (pm.append_left (vs.zip ds ++ L)).trans List.perm_middle
      exact this.symm
    · have h := s.dom.set i v (some d)
      rw [hset] at h
      exact h
end DL
set_option Elab.async false
set_option linter.all false
set_option maxRecDepth 100000
set_option maxHeartbeats 4000001
namespace DL
open PySem.Spec PySem L2 PyProof.Rows
theorem mCall_of {m : MF} {as : List AS} {dd : List D} {δ δ' : Env} {r : D} (e : mCall m as dd δ = some (r, δ')) : ∃ rs δ1 ls δ2 ds', mArgs as δ = some (rs, δ1) ∧ lend rs δ1 = some (ls, δ2) ∧ m (ls.map (·.1) ++ dd) = some (r, ds') ∧ ds'.length = ls.length + dd.length ∧ δ' = restore ls ds' δ2 := by
  unfold mCall at e
  split at e
  · rename_i rs δ1 e1
    split at e
    · rename_i ls δ2 e2
      split at e
      · rename_i r' ds' e3
        split at e
        · rename_i hl
          cases e
          exact ⟨rs, δ1, ls, δ2, ds', e1, e2, e3, hl, rfl⟩
        · cases e
      · cases e
    · cases e
  · cases e
theorem mArgs_len : ∀ {as : List AS} {δ δ1 : Env} {rs : List AR}, mArgs as δ = some (rs, δ1) → rs.length = as.length
  | [], _, _, _, e => by cases e; rfl
  | .v i :: as, _, _, _, e => by
    simp only [mArgs] at e
    split at e
    · split at e
      · rename_i e4
        cases e
        simp [mArgs_len e4]
      · cases e
    · cases e
  | .e m :: as, _, _, _, e => by
    simp only [mArgs] at e
    split at e
    · split at e
      · rename_i e4
        cases e
        simp [mArgs_len e4]
      · cases e
    · cases e
theorem restore_take : ∀ {ls : List (D × Option Nat)} {ds : List D} {δ : Env} {n : Nat}, ls.length ≤ n → restore ls (ds.take n) δ = restore ls ds δ
  | [], ds, δ, n, _ => by simp [restore]
  | (d, o) :: ls, [], δ, n, _ => by simp
  | (d, o) :: ls, x :: ds, δ, 0, h => by simp at h
  | (d, none) :: ls, x :: ds, δ, n + 1, h => by simp only [List.take_succ_cons, restore]; exact restore_take (by simpa using h)
  | (d, some i) :: ls, x :: ds, δ, n + 1, h => by simp only [List.take_succ_cons, restore]; exact restore_take (by simpa using h)
section
variable {X : Cx} {k : Nat} {f : Addr} {fd : FuncData} {ps : List Str} {n : Nat} {m : MF} {x : Str} {p pos apos : Pos} {e : Expr} {es : List Expr} {as : List AS}
/-- the callee over the caller's state: rs the arguments' results, dd the defaults' trees (closed) -/
theorem call_run {dvs : List V} {dd : List D} {Z : Addr → Prop} {Hb H : Hp} {σ : L2.St} {δ δ2 : Env} {L T : PL} {rs : List AR} {vs : List V} {ls : List (D × Option Nat)} {r : D} {ds' : List D} (hdd : ∀ H Y, Reps X.K X.mg H Y dvs dd []) (hn : rs.length + dd.length = n)
    (av : AV σ rs vs T) (s : Sq X Z Hb H σ δ (T ++ L)) (el : lend rs δ = some (ls, δ2)) (em : m (ls.map (·.1) ++ dd) = some (r, ds')) (hl : ds'.length = ls.length + dd.length)
    (Q : VK) (q : ∀ v H', Sq X Z Hb H' σ (restore ls ds' δ2) ((v, r) :: L) → Q v H') : spD X.K X.mg n m (vs ++ dvs) H Q E0 := by
  obtain ⟨s1, hv, hj⟩ := lend_ok av s el
  have lav : rs.length = vs.length := by
    clear hj hv s1 s el em hl q hn
    induction av with
    | nil => rfl
    | v _ _ ih => simp [ih]
    | e _ ih => simp [ih]
  have ldd : dvs.length = dd.length := (hdd H fun _ => True).len
  have s2 : Sp X.K X.mg Z Hb H (((vs ++ dvs).zip (ls.map (·.1) ++ dd)) ++ (L ++ prs σ δ2)) := by
    rw [zip_append (by simp [hv])]
    have c : Sp X.K X.mg Z Hb H (dvs.zip dd ++ (vs.zip (ls.map (·.1)) ++ L ++ prs σ δ2)) := by
      have h0 := s1.sp
      obtain ⟨⟨F, rr, nd, hb⟩, b, fr⟩ := h0
      exact ⟨⟨F, Rps.append (F := []) (hdd H _).zip rr, nd, hb⟩, b, fr⟩
    refine c.perm ?_
    (rw [List.append_assoc, List.append_assoc])
    exact List.perm_append_comm_assoc _ _ _
  obtain ⟨Z', Hc, sc, back⟩ := s2.lend
  refine ⟨by rw [List.length_append]; omega, Z', Hc, ls.map (·.1) ++ dd, r, ds', by simp; omega, sc, em, fun v H' s' => q v H' ?_⟩
  have s3 := back H' _ s'
  -- the returned trees: the first of them go back, the defaults' are given up
  have hz : (vs ++ dvs).zip ds' = vs.zip (ds'.take ls.length) ++ dvs.zip (ds'.drop ls.length) := by
    conv => lhs; rw [← List.take_append_drop ls.length ds']
    exact zip_append (by simp; omega)
  rw [hz] at s3
  have s4 : Sp X.K X.mg Z Hb H' (dvs.zip (ds'.drop ls.length) ++ ((vs.zip (ds'.take ls.length) ++ ((v, r) :: L)) ++ prs σ δ2)) := s3.perm (by
    (simp only [List.cons_append, List.append_assoc])
    refine List.Perm.trans ?_ (List.perm_append_comm_assoc _ _ _)
    refine List.Perm.trans (List.perm_middle.symm.trans ?_) (List.Perm.refl _)
    (refine List.Perm.append_left _ ?_)
    exact List.perm_middle.symm)
  have s5 : Sq X Z Hb H' σ δ2 (vs.zip (ds'.take ls.length) ++ ((v, r) :: L)) := ⟨s4.dropL, s1.dom⟩
  have s6 := restore_ok (by simpa using hv) (by simp; omega) hj s5
  rw [restore_take (Nat.le_refl _)] at s6
  exact s6
def tCallG (sp : L2.Sp) (dvs : List V) (t : TA) : TE := fun σ H Q => t σ H fun vs H1 => sp (vs ++ dvs) H1 Q E0
theorem pe_callG {sp : L2.Sp} {dvs : List V} {dsv : List Value} (F : FnG X.prog X.w X.K X.mg X.base k f fd ps sp) (hr : Room k X.A) (hg : X.A.guards = some []) (hgl : Gl X x) (hm : X.mg x = some (.ref f)) (hk : PySem.W.keepIn X.K (.ref f) = true) (hb : Binds X.K fd ps dsv) (hd : Vals dvs dsv)
    (hdb : (x == ("__debug__" : Str)) = false) (he : starEach (e :: es) X.env = (false, eval e X.env) :: starEach es X.env) (hpl : (backTo pos (starEach es X.env)).any (·.1) = false) :
    PE X (.Call (.Name x p) (e :: es) [] pos) (tCallG sp dvs (wA X (e :: es))) := by
  refine ⟨fun pins s σ H Q I h => wpAny_Call_Name_kw (ld_glob I hgl hm ?_ hdb)⟩
  refine PySem.W.callWith_K (h₀ := X.base) I.ok.mod.kin hk (thn (h pos pins s I) fun us s1 ⟨vs, H1, I1, r, q⟩ => ⟨I1.kIn, ?_⟩) he hpl
  have r2 : Vals (vs ++ dvs) (us ++ dsv) := r.append hd
  have hl : (us ++ dsv).length = ps.length := by rw [← r2.length]; exact F.len _ _ _ _ q
  refine wpAny_call (codeAny_mono (F.go hr hg I1 (hb s1 us I1.kIn hl) r2 q) fun r s' hq => ?_)
  match r, hq with
  | .ok (.ret u), hq => exact hq
/-- f(e, ..), the defaults' trees behind -/
theorem ig_call (dd : List D) {dvs : List V} {dsv : List Value} (F : FnG X.prog X.w X.K X.mg X.base k f fd ps (spD X.K X.mg n m)) (hr : Room k X.A) (hg : X.A.guards = some []) (hgl : Gl X x) (hm : X.mg x = some (.ref f)) (hk : PySem.W.keepIn X.K (.ref f) = true) (hb : Binds X.K fd ps dsv) (hd : Vals dvs dsv)
    (hdd : ∀ H Y, Reps X.K X.mg H Y dvs dd []) (ha : IA X (e :: es) as) (hn : as.length + dd.length = n)
    (hdb : (x == ("__debug__" : Str)) = false) (he : starEach (e :: es) X.env = (false, eval e X.env) :: starEach es X.env) (hpl : (backTo pos (starEach es X.env)).any (·.1) = false) :
    IG X (.Call (.Name x p) (e :: es) [] pos) (mCall m as dd) := by
  intro Z Hb H σ δ L d δ' s e' Q q
  obtain ⟨rs, δ1, ls, δ2, ds', e1, e2, e3, hl, rfl⟩ := mCall_of e'
  refine wE_of (pe_callG F hr hg hgl hm hk hb hd hdb he hpl) ?_
  refine ha s e1 _ fun vs H1 T av s1 => call_run hdd ?_ av s1 e2 e3 hl Q q
  have := mArgs_len e1
  omega
end
end DL
namespace DL
open PySem.Spec PySem L2 PyProof.Rows
inductive Fl where
  | nx (δ : Env)
  | rt (d : D) (δ : Env)
  | bk (δ : Env)
  | ct (δ : Env)
abbrev MS := Env → Option Fl
def SameP (P : Nat → Bool) (σ σ' : L2.St) : Prop := ∀ i, P i = true → σ'[i]? = σ[i]?
theorem SameP.refl {P : Nat → Bool} {σ : L2.St} : SameP P σ σ := fun _ _ => rfl
theorem SameP.trans {P : Nat → Bool} {σ σ1 σ2 : L2.St} (a : SameP P σ σ1) (b : SameP P σ1 σ2) : SameP P σ σ2 := fun i h => (b i h).trans (a i h)
theorem SameP.set {P : Nat → Bool} {σ : L2.St} {i : Nat} (h : P i = false) (x : Option V) : SameP P σ (σ.set i x) := fun j hj => by
  have : i ≠ j := fun e => by subst e; rw [h] at hj; cases hj
  rw [List.getElem?_set_ne this]
def Fin (X : Cx) (P : Nat → Bool) (Z : Addr → Prop) (Hb : Hp) (σ : L2.St) (L : PL) (Dn : Ends) : Fl → Prop
  | .nx δ' => ∀ σ' H', Sq X Z Hb H' σ' δ' L → SameP P σ σ' → Dn.nx σ' H'
  | .bk δ' => ∀ σ' H', Sq X Z Hb H' σ' δ' L → SameP P σ σ' → Dn.bk σ' H'
  | .ct δ' => ∀ σ' H', Sq X Z Hb H' σ' δ' L → SameP P σ σ' → Dn.ct σ' H'
  | .rt d δ' => ∀ v σ' H', Sq X Z Hb H' σ' δ' ((v, d) :: L) → SameP P σ σ' → Dn.rt v H'
def IS (X : Cx) (P : Nat → Bool) (st : Stmt) (m : MS) : Prop := ∀ {Z : Addr → Prop} {Hb H : Hp} {σ : L2.St} {δ : Env} {L : PL} {fl : Fl}, Sq X Z Hb H σ δ L → m δ = some fl → ∀ Dn : Ends, Fin X P Z Hb σ L Dn fl → wS X st Dn σ H
def ISs (X : Cx) (P : Nat → Bool) (sts : List Stmt) (m : MS) : Prop := ∀ {Z : Addr → Prop} {Hb H : Hp} {σ : L2.St} {δ : Env} {L : PL} {fl : Fl}, Sq X Z Hb H σ δ L → m δ = some fl → ∀ Dn : Ends, Fin X P Z Hb σ L Dn fl → wSs X sts Dn σ H
def sNil : MS := fun δ => some (.nx δ)
def sCons (a b : MS) : MS := fun δ => match a δ with
  | some (.nx δ1) => b δ1
  | r => r
def sExpr (m : ME) : MS := fun δ => match m δ with
  | some (_, δ1) => some (.nx δ1)
  | none => none
def sSet (i : Nat) (m : ME) : MS := fun δ => match m δ with
  | some (d, δ1) => if i < δ1.length then some (.nx (δ1.set i (some d))) else none
  | none => none
def sRet (m : ME) : MS := fun δ => match m δ with
  | some (d, δ1) => some (.rt d δ1)
  | none => none
def sIf (t : MT) (a b : MS) : MS := fun δ => match t δ with
  | some (true, δ1) => a δ1
  | some (false, δ1) => b δ1
  | none => none
def sStuck : MS := fun _ => none
section
variable {X : Cx} {P : Nat → Bool} {st : Stmt} {sts ts us : List Stmt} {a b : MS} {e c : Expr} {m : ME} {t : MT} {pos : Pos}
theorem Fin.mono {Z : Addr → Prop} {Hb : Hp} {σ σ' : L2.St} {L : PL} {Dn : Ends} {fl : Fl} (h : Fin X P Z Hb σ L Dn fl) (hs : SameP P σ σ') : Fin X P Z Hb σ' L Dn fl := by
  cases fl with
  | nx δ => exact fun σ2 H s q => h σ2 H s (hs.trans q)
  | bk δ => exact fun σ2 H s q => h σ2 H s (hs.trans q)
  | ct δ => exact fun σ2 H s q => h σ2 H s (hs.trans q)
  | rt d δ => exact fun v σ2 H s q => h v σ2 H s (hs.trans q)
theorem iss_nil : ISs X P [] sNil := by
  intro Z Hb H σ δ L fl s e Dn f
  cases e
  exact wSs_of pss_nil (f σ H s .refl)
theorem iss_cons (h : IS X P st a) (t : ISs X P sts b) : ISs X P (st :: sts) (sCons a b) := by
  intro Z Hb H σ δ L fl s e Dn f
  refine wSs_of (pss_cons ps_w pss_w) ?_
  show wS X st { Dn with nx := wSs X sts Dn } σ H
  unfold sCons at e
  split at e
  · rename_i δ1 e1
    exact h s e1 _ fun σ' H' s' q => t s' e Dn (f.mono q)
  · rename_i hn
    refine h s e _ ?_
    cases fl with
    | nx δ => exact absurd e (hn δ)
    | bk δ => exact f
    | ct δ => exact f
    | rt d δ => exact f
theorem iss_one (h : IS X P st a) : ISs X P [st] a := by
  intro Z Hb H σ δ L fl s e Dn f
  exact wSs_of (pss_one ps_w) (h s e Dn f)
theorem is_expr (h : IG X e m) (hs : swapsWith e none pos.line X.env = pure false) : IS X P (.Expr e pos) (sExpr m) := by
  intro Z Hb H σ δ L fl s e' Dn f
  unfold sExpr at e'
  split at e'
  · rename_i d δ1 e1
    cases e'
    exact wS_of (ps_expr pe_w hs) (h s e1 _ fun v H' s' => f σ H' s'.drop .refl)
  · cases e'
theorem is_ret (h : IG X e m) : IS X P (.Return (some e) pos) (sRet m) := by
  intro Z Hb H σ δ L fl s e' Dn f
  unfold sRet at e'
  split at e'
  · rename_i d δ1 e1
    cases e'
    exact wS_of (ps_ret pe_w) (h s e1 _ fun v H' s' => f v σ H' s' .refl)
  · cases e'
theorem is_if (hc : IT X c t) (ha : ISs X P ts a) (hb : ISs X P us b) : IS X P (.If c ts us pos) (sIf t a b) := by
  intro Z Hb H σ δ L fl s e' Dn f
  refine wS_of (ps_if pt_w pss_w pss_w) ?_
  unfold sIf at e'
  split at e'
  · rename_i δ1 e1
    refine hc s e1 _ fun H1 s1 => ?_
    rw [if_pos rfl]
    exact ha s1 e' Dn f
  · rename_i δ1 e1
    refine hc s e1 _ fun H1 s1 => ?_
    (rw [if_neg Bool.false_ne_true])
    exact hb s1 e' Dn f
  · cases e'
theorem is_stuck : IS X P st sStuck := by
  intro Z Hb H σ δ L fl s e' Dn f
  cases e'
/-- a temporary pair goes into a slot -/
theorem Sq.store {Z : Addr → Prop} {Hb H : Hp} {σ : L2.St} {δ : Env} {L : PL} {v : V} {d : D} {i : Nat} (s : Sq X Z Hb H σ δ ((v, d) :: L)) (hi : i < δ.length) : Sq X Z Hb H (σ.set i (some v)) (δ.set i (some d)) L := by
  have hl := s.dom.1
  have pm := prs_set (σ := σ) (δ := δ) (i := i) (v := v) (d := d) (by omega) hl
  refine ⟨?_, s.dom.set i v _⟩
  -- what stood there is given up
  have s0 : Sp X.K X.mg Z Hb H ((v, d) :: (L ++ prs σ (δ.set i none))) := by
    have s1 : Sp X.K X.mg Z Hb H ((v, d) :: (L ++ prs σ δ)) := s.sp
    cases hδ : δ[i]? with
    | none => exact absurd hδ (by simp [hi])
    | some x => cases x with
      | none =>
        have : δ.set i none = δ := by
          apply List.ext_getElem?
          intro n
          rw [List.getElem?_set]
          by_cases h : i = n
          · subst h; rw [if_pos rfl, hδ, if_pos hi]
          · rw [if_neg h]
        rw [this]; exact s1
      | some dd =>
        obtain ⟨w, hw⟩ := s.dom.2 i dd hδ
        have p1 := prs_get hw hδ
        have s2 : Sp X.K X.mg Z Hb H ((w, dd) :: ((v, d) :: (L ++ prs σ (δ.set i none)))) := s1.perm (by
          have := (p1.append_left ((v, d) :: L)).trans List.perm_middle
          exact this)
        exact s2.drop
  exact s0.perm ((pm.append_left L).trans List.perm_middle).symm
theorem is_set {x : Str} {pos' : Pos} (i : Nat) (hP : P i = false) (hN : X.N.Nodup) (hi : X.N[i]? = some x) (hx : Loc X.env.scope x) (h : IG X e m) (hs : swapsWith e (some (.Name x pos')) pos.line X.env = pure false) (hf : X.fn x = true ∨ X.env.scope.names.lookup x = some .local) :
    IS X P (.Assign [.Name x pos'] e pos) (sSet i m) := by
  intro Z Hb H σ δ L fl s e' Dn f
  unfold sSet at e'
  split at e'
  · rename_i d δ1 e1
    split at e'
    · rename_i hl
      cases e'
      exact wS_of (ps_set hN hi hx pe_w hs hf) (h s e1 _ fun v H' s' => f _ H' (s'.store hl) (.set hP _))
    · cases e'
  · cases e'
/-- a, b = x, y -/
def sPar (is : List Nat) (r : ML) : MS := fun δ => match r δ with
  | some (ds, δ1) => if ds.length = is.length ∧ (∀ i ∈ is, i < δ1.length) then some (.nx ((is.zip ds).foldl (fun δ p => δ.set p.1 (some p.2)) δ1)) else none
  | none => none
theorem is_par {es : List Expr} {r : ML} {i j : Nat} {x y : Str} {px py pt : Pos} {kt k2 pt2} {ea eb : Expr} (hPi : P i = false) (hPj : P j = false) (hc : X.calm = true) (hN : X.N.Nodup) (hi : X.N[i]? = some x) (hj : X.N[j]? = some y) (hij : i ≠ j)
    (hx : X.env.scope.names.lookup x = some .local) (hy : X.env.scope.names.lookup y = some .local) (h : IL X [ea, eb] r)
    (hw : swappedStores [.Tuple [.Name x px, .Name y py] kt pt] (.Tuple [ea, eb] k2 pt2) X.env = pure (some [x, y]))
    (hs : swapsWithSole [.Tuple [.Name x px, .Name y py] kt pt] (.Tuple [ea, eb] k2 pt2) pos.line X.env = pure false) :
    IS X P (.Assign [.Tuple [.Name x px, .Name y py] kt pt] (.Tuple [ea, eb] k2 pt2) pos) (sPar [i, j] r) := by
  intro Z Hb H σ δ L fl s e' Dn f
  unfold sPar at e'
  split at e'
  · rename_i ds δ1 e1
    split at e'
    · rename_i hl
      obtain ⟨hl, hb⟩ := hl
      match ds, hl with
      | [d1, d2], _ =>
        cases e'
        refine wS_of (ps_par hc hN hi hj hij hx hy pa_w hw hs) (h s e1 _ fun vs H' hv s' => ?_)
        match vs, hv with
        | [v1, v2], _ =>
          have s2 : Sq X Z Hb H' (σ.set i (some v1)) (δ1.set i (some d1)) ((v2, d2) :: L) := Sq.store (v := v1) (d := d1) s' (hb i (by simp))
          exact ⟨v1, v2, rfl, f _ H' (s2.store (by simpa using hb j (by simp))) ((SameP.set hPi _).trans (SameP.set hPj _))⟩
    · cases e'
  · cases e'
end
/-- slots that are parameters and never stored come back; the others must have come frozen -/
def backs (P : Nat → Bool) : Nat → List D → Env → Option (List D)
  | _, [], _ => some []
  | i, d :: ds, δ => match backs P (i + 1) ds δ with
    | some r => if P i then match δ[i]? with
        | some (some d') => some (d' :: r)
        | _ => none
      else if isFz d then some (d :: r) else none
    | none => none
def mFun (np N : Nat) (P : Nat → Bool) (mb : MS) : MF := fun ds => if ds.length = np then match mb (ds.map some ++ List.replicate (N - np) none) with
  | some (.rt r δ) => match backs P 0 ds δ with
    | some bs => some (r, bs)
    | none => none
  | some (.nx δ) => match backs P 0 ds δ with
    | some bs => some (.non, bs)
    | none => none
  | _ => none else none
theorem backs_ok {X : Cx} {P : Nat → Bool} {Z : Addr → Prop} {Hb H : Hp} {σ0 σ : L2.St} : ∀ {ds : List D} {vs : List V} {i : Nat} {δ : Env} {L R : PL} {bs : List D}, vs.length = ds.length → (∀ j v, vs[j]? = some v → σ0[i + j]? = some (some v)) → SameP P σ0 σ →
    Dom σ δ → Sp X.K X.mg Z Hb H (L ++ (prs σ δ ++ ((vs.zip ds).filter fun p => isFz p.2) ++ R)) → backs P i ds δ = some bs → Sp X.K X.mg Z Hb H (L ++ (vs.zip bs ++ R))
  | [], vs, i, δ, L, R, bs, hl, _, _, _, s, e => by
    cases e
    have : vs = [] := List.eq_nil_of_length_eq_zero hl
    subst this
    have s1 : Sp X.K X.mg Z Hb H (prs σ δ ++ (L ++ R)) := s.perm (by
      simp only [List.zip_nil_left, List.filter_nil, List.append_nil]
      exact List.perm_append_comm_assoc _ _ _)
    simpa using s1.dropL
  | d :: ds, [], _, _, _, _, _, hl, _, _, _, _, _ => by simp at hl
  | d :: ds, v :: vs, i, δ, L, R, bs, hl, h0, sp, dm, s, e => by
    simp only [backs] at e
    have step : ∀ {δ' : Env} {L' : PL} {r : List D}, Dom σ δ' → Sp X.K X.mg Z Hb H (L' ++ (prs σ δ' ++ ((vs.zip ds).filter fun p => isFz p.2) ++ R)) → backs P (i + 1) ds δ' = some r → Sp X.K X.mg Z Hb H (L' ++ (vs.zip r ++ R)) :=
      fun hd hs he => backs_ok (by simpa using hl) (fun j v' h => by have := h0 (j + 1) v' (by simpa using h); rw [← this]; congr 1; omega) sp hd hs he
    split at e
    · rename_i r er
      split at e
      · rename_i hP
        split at e
        · rename_i d' hd'
          cases e
          have hv : σ[i]? = some (some v) := by rw [sp i hP]; exact h0 0 v rfl
          have pm := prs_get hv hd'
          -- the slot's own pair is taken out; backs of the rest does not ask it
          have er' : backs P (i + 1) ds (δ.set i none) = some r := by
            have : ∀ (ds : List D) (j : Nat), i < j → backs P j ds (δ.set i none) = backs P j ds δ := by
              intro ds
              induction ds with
              | nil => intro j _; rfl
              | cons x ds ih =>
                intro j hj
                simp only [backs, ih (j + 1) (by omega), List.getElem?_set_ne (show i ≠ j by omega)]
            rw [this ds (i + 1) (by omega)]; exact er
          have s1 : Sp X.K X.mg Z Hb H (((v, d') :: L) ++ (prs σ (δ.set i none) ++ ((vs.zip ds).filter fun p => isFz p.2) ++ R)) := by
            have base : Sp X.K X.mg Z Hb H (((v, d') :: L) ++ (prs σ (δ.set i none) ++ (((v :: vs).zip (d :: ds)).filter fun p => isFz p.2) ++ R)) := s.perm (by
              have q1 := pm.append_right ((((v :: vs).zip (d :: ds)).filter fun p => isFz p.2) ++ R)
              rw [← List.append_assoc] at q1
              refine (q1.append_left L).trans ?_
              (simp only [List.cons_append, List.append_assoc])
              exact List.perm_middle)
            by_cases hf : isFz d = true
            · have hz : (((v :: vs).zip (d :: ds)).filter fun p => isFz p.2) = (v, d) :: ((vs.zip ds).filter fun p => isFz p.2) := by
                simp [hf]
              rw [hz] at base
              have b2 : Sp X.K X.mg Z Hb H ((v, d) :: (((v, d') :: L) ++ (prs σ (δ.set i none) ++ ((vs.zip ds).filter fun p => isFz p.2) ++ R))) := base.perm (by
                have : List.Perm (prs σ (δ.set i none) ++ ((v, d) :: ((vs.zip ds).filter fun p => isFz p.2)) ++ R) ((v, d) :: (prs σ (δ.set i none) ++ ((vs.zip ds).filter fun p => isFz p.2) ++ R)) := by
                  (rw [List.append_assoc, List.append_assoc])
                  exact List.perm_middle
                exact (this.append_left _).trans List.perm_middle)
              exact b2.drop
            · have hz : (((v :: vs).zip (d :: ds)).filter fun p => isFz p.2) = ((vs.zip ds).filter fun p => isFz p.2) := by
                simp [hf]
              rw [hz] at base
              exact base
          have s2 := step (dm.drop i) s1 er'
          refine s2.perm ?_
          show List.Perm ((v, d') :: (L ++ (vs.zip r ++ R))) (L ++ ((v, d') :: (vs.zip r ++ R)))
          exact List.perm_middle.symm
        · cases e
      · split at e
        · rename_i hf
          cases e
          have hz : (((v :: vs).zip (d :: ds)).filter fun p => isFz p.2) = (v, d) :: ((vs.zip ds).filter fun p => isFz p.2) := by
            simp [hf]
          rw [hz] at s
          have s1 : Sp X.K X.mg Z Hb H (((v, d) :: L) ++ (prs σ δ ++ ((vs.zip ds).filter fun p => isFz p.2) ++ R)) := s.perm (by
            have : List.Perm (prs σ δ ++ ((v, d) :: ((vs.zip ds).filter fun p => isFz p.2)) ++ R) ((v, d) :: (prs σ δ ++ ((vs.zip ds).filter fun p => isFz p.2) ++ R)) := by
              (rw [List.append_assoc, List.append_assoc])
              exact List.perm_middle
            exact (this.append_left _).trans List.perm_middle)
          have s2 := step dm s1 er
          refine s2.perm ?_
          show List.Perm ((v, d) :: (L ++ (vs.zip r ++ R))) (L ++ ((v, d) :: (vs.zip r ++ R)))
          exact List.perm_middle.symm
        · cases e
    · cases e
end DL
namespace DL
open PySem.Spec PySem L2 PyProof.Rows
theorem Sp.dups {K : PySem.W.Frag} {mg : Str → Option Value} {H Hb : Hp} {Z : Addr → Prop} {Q : PL} (s : Sp K mg Z Hb H Q) : Sp K mg Z Hb H ((Q.filter fun p => isFz p.2) ++ Q) := by
  obtain ⟨⟨F, r, nd, hb⟩, b, fr⟩ := s
  refine ⟨⟨F, ?_, nd, hb⟩, b, fr⟩
  have : ∀ {Q : PL} {F : List Addr} {Y : Addr → Prop}, Rps K mg H Y Q F → Rps K mg H Y (Q.filter fun p => isFz p.2) [] := by
    intro Q F Y r
    induction r with
    | nil => exact .nil
    | @cons v d P F G q t ih =>
      by_cases hf : isFz d = true
      · have e := q.own_nil hf
        subst e
        rw [List.filter_cons_of_pos (by exact hf)]
        exact .cons (F := []) q ih
      · rw [List.filter_cons_of_neg (by exact hf)]
        exact ih
  exact Rps.append (F := []) (this r) r
theorem prs_start : ∀ {vs : List V} {ds : List D} (k j : Nat), vs.length = ds.length → prs (vs.map some ++ List.replicate k none) (ds.map some ++ List.replicate j none) = vs.zip ds
  | [], [], k, j, _ => by
    cases k with
    | zero => simp [prs]
    | succ k => cases j with
      | zero => simp [prs]
      | succ j =>
        have ih := prs_start (vs := []) (ds := []) k j rfl
        simpa [List.replicate_succ, prs] using ih
  | [], _ :: _, _, _, h => by simp at h
  | _ :: _, [], _, _, h => by simp at h
  | v :: vs, d :: ds, k, j, h => by
    have ih := prs_start (vs := vs) (ds := ds) k j (by simpa using h)
    simp [prs, ih]
section
variable {P : Program} {w : World} {K : PySem.W.Frag} {mg : Str → Option Value} {base : Heap} {k : Nat} {f : Addr} {x qual : Str} {params : Arguments} {body : List Stmt} {scope : Scope} {dvs : List V} {kws : List (Str × V)} {fd : FuncData} {N ps : List Str} {Pr : Nat → Bool} {mb : MS}
theorem fnD_of (F : FunD K x qual params body scope dvs kws f fd) (S : FnScope N ps scope)
    (hb : ∀ (cdv : Value) (A : Around) (outer : List PySem.Env) (s : Shared) (H : Hp) (E : XK), Room k (A.deeper (envOfC qual scope s.heap.objs.size f cdv)) → (A.deeper (envOfC qual scope s.heap.objs.size f cdv)).guards = some [] →
      ISs (cxOf CX0 P w K mg base N qual scope f cdv A outer s H E).nox Pr body mb) : FnG P w K mg base (k + 1) f fd ps (spD K mg ps.length (mFun ps.length N.length Pr mb)) := by
  refine FnG.of F S (fun vs H Q E h => h.1) fun cdv A outer s H vs Q E hr hg ⟨hl, Z, Hb, ds, r, ds', hld, sp, em, q⟩ => ?_
  unfold mFun at em
  rw [if_pos hld] at em
  have hN : ps.length ≤ N.length := by
    have := congrArg List.length S.pre
    rw [List.length_take] at this
    omega
  have hlv : vs.length = ds.length := by omega
  have dom : Dom (L2.start N vs) (ds.map some ++ List.replicate (N.length - ps.length) none) := by
    refine ⟨by simp [L2.start]; omega, fun i d h => ?_⟩
    unfold L2.start
    by_cases hi : i < ds.length
    · exact ⟨vs[i]'(by omega), by rw [List.getElem?_append_left (by simp; omega)]; simp [hlv, hi]⟩
    · rw [List.getElem?_append_right (by simp; omega)] at h
      simp [List.getElem?_replicate] at h
  have sq : Sq (cxOf CX0 P w K mg base N qual scope f cdv A outer s H E).nox Z Hb H (L2.start N vs) (ds.map some ++ List.replicate (N.length - ps.length) none) ((vs.zip ds).filter fun p => isFz p.2) := by
    refine ⟨?_, dom⟩
    unfold L2.start
    rw [prs_start _ _ hlv]
    exact sp.dups
  have fin : ∀ {v : V} {r0 : D} {σ' : L2.St} {H' : Hp} {δ : Env} {bs : List D}, Sq (cxOf CX0 P w K mg base N qual scope f cdv A outer s H E).nox Z Hb H' σ' δ ((v, r0) :: ((vs.zip ds).filter fun p => isFz p.2)) → SameP Pr (L2.start N vs) σ' → backs Pr 0 ds δ = some bs → Sp K mg Z Hb H' ((v, r0) :: vs.zip bs) := by
    intro v r0 σ' H' δ bs s' same eb
    have s1 : Sp K mg Z Hb H' ([(v, r0)] ++ (prs σ' δ ++ ((vs.zip ds).filter fun p => isFz p.2) ++ [])) := s'.sp.perm (by
      rw [List.append_nil]
      exact List.Perm.cons _ List.perm_append_comm)
    have := backs_ok (X := (cxOf CX0 P w K mg base N qual scope f cdv A outer s H E).nox) (L := [(v, r0)]) (R := []) hlv (fun j v' h => by
      unfold L2.start
      rw [List.getElem?_append_left (by have := (List.getElem?_eq_some_iff.mp h).1; simp; omega)]
      simp [h]) same s'.dom s1 eb
    simp only [List.append_nil] at this
    exact this
  split at em
  · rename_i r0 δ e1
    split at em
    · rename_i bs eb
      cases em
      exact hb cdv A outer s H E hr hg sq e1 _ fun v σ' H' s' same => q v H' (fin s' same eb)
    · cases em
  · rename_i δ e1
    split at em
    · rename_i bs eb
      cases em
      refine hb cdv A outer s H E hr hg sq e1 _ fun σ' H' s' same => q .non H' (fin (s'.put fun _ => .non) same eb)
    · cases em
  · cases em
end
end DL
set_option Elab.async false
set_option linter.all false
set_option maxRecDepth 100000
set_option maxHeartbeats 4000001
namespace DL
open PySem.Spec PySem L2 PyProof.Rows
/-- the iterator J yields the trees ds, one a turn, while LI stands -/
def Yields (X : Cx) (Hb : Hp) (J : It) (ds : List D) (LI : PL) : Prop := ∀ {Z : Addr → Prop} {H : Hp} {P : PL} (i : Nat), Sp X.K X.mg Z Hb H (LI ++ P) →
  (i < ds.length → J.go i H ∧ ∀ x H', J.yld i H x H' → ∃ d, ds[i]? = some d ∧ Sp X.K X.mg Z Hb H' ((x, d) :: (LI ++ P))) ∧ (ds.length ≤ i → J.stop i H)
abbrev MI := Env → Option (List D × Env)
def II (X : Cx) (tg iter : Expr) (m : MI) : Prop := ∀ {Z : Addr → Prop} {Hb H : Hp} {σ : L2.St} {δ : Env} {L : PL} {ds : List D} {δ' : Env}, Sq X Z Hb H σ δ L → m δ = some (ds, δ') →
  ∀ R : It → Hp → Prop, (∀ J H' LI, Yields X Hb J ds LI → Sq X Z Hb H' σ δ' (LI ++ L) → R J H') → wI X tg iter σ H R
/-- a value that is walked: its items, frozen -/
def itemsD : D → Option (List D)
  | .lst _ ds => some (fzs ds)
  | .scr ds => some (fzs ds)
  | _ => none
def iLst (m : ME) : MI := fun δ => match m δ with
  | some (d, δ1) => match itemsD d with
    | some ds => some (ds, δ1)
    | none => none
  | none => none
def iTup (m : ME) : MI := fun δ => match m δ with
  | some (.tup ds, δ1) => some (fzs ds, δ1)
  | _ => none
def iTxt (m : ME) : MI := fun δ => match m δ with
  | some (.str x, δ1) => some (x.cps.toList.map fun c => .str ⟨#[c]⟩, δ1)
  | _ => none
/-- a, a + 1, .. (n of them) -/
def rngD (a : Int) (n : Nat) : List D := (List.range n).map fun (i : Nat) => D.int (a + (i : Int))
def mRng1 (r : ML) : MI := fun δ => match r δ with
  | some ([.int n], δ1) => if -(2 ^ 62) ≤ n ∧ n < 2 ^ 62 then some (rngD 0 n.toNat, δ1) else none
  | _ => none
section
variable {X : Cx} {tg iter a b : Expr} {m : ME} {p pos : Pos} {r : ML}
theorem yields_lst {Hb : Hp} {a : Addr} {ds : List D} (hf : isFzs ds = true) : Yields X Hb (Itl X.K a) ds [(.ref a, .lst false ds)] := by
  intro Z H P i s
  have s0 : Sp X.K X.mg Z Hb H ((.ref a, .lst false ds) :: P) := s
  obtain ⟨Y, F, q⟩ := s0.head
  cases q with
  | @lstF _ vs _ h z t =>
    have hl := t.len
    refine ⟨fun hi => ⟨⟨vs, vs[i]'(by omega), .of h, by simp [hl, hi]⟩, fun x H' y => ?_⟩, fun hi => ⟨vs, .of h, by omega⟩⟩
    obtain ⟨e, y⟩ := y
    subst e
    have ex := y vs (.of h)
    refine ⟨ds[i], by simp [hi], s0.part (by simpa [isFz] using hf) fun Y' r' => ?_⟩
    cases r' with
    | @lstF _ vs' _ h' z' t' =>
      have e := h.symm.trans h'
      cases e
      obtain ⟨w, e1, e2⟩ := Reps.get t' (i := i) (d := ds[i]) (by simp [hi])
      rw [ex] at e1
      cases e1
      exact e2
theorem yields_scr {Hb : Hp} {a : Addr} {ds : List D} (hf : isFzs ds = true) : Yields X Hb (Itl X.K a) ds [(.ref a, .scr ds)] := by
  intro Z H P i s
  have s0 : Sp X.K X.mg Z Hb H ((.ref a, .scr ds) :: P) := s
  obtain ⟨Y, F, q⟩ := s0.head
  cases q with
  | @scr _ vs _ h t =>
    have hl := t.len
    have hq : SqL X.K H a vs := h.sq
    refine ⟨fun hi => ⟨⟨vs, vs[i]'(by omega), hq, by simp [hl, hi]⟩, fun x H' y => ?_⟩, fun hi => ⟨vs, hq, by omega⟩⟩
    obtain ⟨e, y⟩ := y
    subst e
    refine ⟨ds[i], by simp [hi], s0.part (by simpa [isFz] using hf) fun Y' r' => ?_⟩
    cases r' with
    | @scr _ vs' _ h' t' =>
      have ex := y vs' h'.sq
      obtain ⟨w, e1, e2⟩ := Reps.get t' (i := i) (d := ds[i]) (by simp [hi])
      rw [ex] at e1
      cases e1
      exact e2
theorem ii_lst (h : IG X iter m) : II X tg iter (iLst m) := by
  intro Z Hb H σ δ L ds δ' s e R q
  unfold iLst at e
  split at e
  · rename_i d δ1 e1
    split at e
    · rename_i ds0 e2
      cases e
      refine wI_of (pi_list pe_w) (h s e1 _ fun v H1 s1 => ?_)
      unfold itemsD at e2
      split at e2
      · rename_i o es
        cases e2
        have s2 := Sp.freeze s1.sp
        obtain ⟨a, vs, rfl, ha, _, _⟩ := s2.lst
        exact ⟨a, rfl, ⟨vs, .of ha⟩, q _ _ [(.ref a, .lst false (fzs es))] (yields_lst (isFzs_fzs _)) ⟨s2, s1.dom⟩⟩
      · rename_i es
        cases e2
        have s2 := Sp.freeze s1.sp
        obtain ⟨a, vs, rfl, ha, _⟩ := s2.scr
        exact ⟨a, rfl, ⟨vs, ha.sq⟩, q _ _ [(.ref a, .scr (fzs es))] (yields_scr (isFzs_fzs _)) ⟨s2, s1.dom⟩⟩
      · cases e2
    · cases e
  · cases e
theorem ii_tup (h : IG X iter m) : II X tg iter (iTup m) := by
  intro Z Hb H σ δ L ds δ' s e R q
  unfold iTup at e
  split at e
  · rename_i es δ1 e1
    cases e
    refine wI_of (pi_tup pe_w) (h s e1 _ fun v H1 s1 => ?_)
    have s2 := Sp.freeze s1.sp
    obtain ⟨a, vs, rfl, ha, _, _⟩ := s2.tup
    refine ⟨a, rfl, ⟨vs, ha⟩, q _ _ [(.ref a, .tup (fzs es))] ?_ ⟨s2, s1.dom⟩⟩
    intro Z H P i s
    have s0 : Sp X.K X.mg Z Hb H ((.ref a, .tup (fzs es)) :: P) := s
    obtain ⟨Y, F, q⟩ := s0.head
    cases q with
    | @tup _ vs _ _ h t =>
      have hl := t.len
      refine ⟨fun hi => ⟨⟨vs, vs[i]'(by omega), h, by simp [hl, hi]⟩, fun x H' y => ?_⟩, fun hi => ⟨vs, h, by omega⟩⟩
      obtain ⟨e, y⟩ := y
      subst e
      refine ⟨(fzs es)[i], by simp [hi], s0.part (isFzs_fzs es) fun Y' r' => ?_⟩
      cases r' with
      | @tup _ vs' _ _ h' t' =>
        have ex := y vs' h'
        obtain ⟨w, e1, e2⟩ := Reps.get t' (i := i) (d := (fzs es)[i]) (by simp [hi])
        rw [ex] at e1
        cases e1
        exact e2
  · cases e
theorem ii_txt (h : IG X iter m) : II X tg iter (iTxt m) := by
  intro Z Hb H σ δ L ds δ' s e R q
  unfold iTxt at e
  split at e
  · rename_i x δ1 e1
    cases e
    refine wI_of (pi_str pe_w) (h s e1 _ fun v H1 s1 => ⟨x, s1.sp.str, q _ _ [] ?_ s1.drop⟩)
    intro Z H P i s
    refine ⟨fun hi => ⟨(show i < x.cps.size by simpa using hi), fun v H' y => ?_⟩, fun hi => (show x.cps.size ≤ i by simpa using hi)⟩
    obtain ⟨e, c, e1, e2⟩ := y
    subst e e2
    refine ⟨.str ⟨#[c]⟩, ?_, s.put fun _ => .str⟩
    rw [List.getElem?_map, Array.getElem?_toList, e1]; rfl
  · cases e
theorem yields_rng {Hb : Hp} {lo : Int} {n : Nat} : Yields X Hb (Itr lo n) (rngD lo n) [] := by
  intro Z H P i s
  refine ⟨fun hi => ⟨(show i < n by simpa [rngD] using hi), fun v H' y => ?_⟩, fun hi => (show n ≤ i by simpa [rngD] using hi)⟩
  obtain ⟨e, e1⟩ := y
  subst e e1
  refine ⟨.int (lo + i), ?_, s.put fun _ => .int⟩
  unfold rngD
  rw [List.getElem?_map, List.getElem?_range (by simpa [rngD] using hi)]; rfl
theorem ii_rng1 (hg : Gl X "range") (hm : X.mg "range" = none) (ha : IL X [a] r) (hs : starEach [a] X.env = [(false, eval a X.env)]) :
    II X tg (.Call (.Name "range" p) [a] [] pos) (mRng1 r) := by
  intro Z Hb H σ δ L ds δ' s e R q
  refine wI_of (pi_range1 (ta := wA X [a]) hg hm pa_w hs) ?_
  unfold mRng1 at e
  split at e
  · rename_i n δ1 e1
    split at e
    · rename_i hb
      cases e
      refine ha s e1 _ fun vs H1 hl s1 => ?_
      match vs, hl with
      | [v], _ =>
        have s2 : Sq X Z Hb H1 σ δ' ((v, .int n) :: L) := s1
        exact ⟨n, by rw [s2.sp.int], hb.1, hb.2, q _ _ [] yields_rng s2.drop⟩
    · cases e
  · cases e
end
abbrev MG := D → Env → Option Env
/-- what a target stores lies in the slots is -/
def Only' (is : List Nat) (σ σ' : L2.St) : Prop := σ'.length = σ.length ∧ ∀ i, i ∉ is → σ'[i]? = σ[i]?
def IGt (X : Cx) (is : List Nat) (tg : Expr) (t : MG) : Prop := ∀ {Z : Addr → Prop} {Hb H : Hp} {σ : L2.St} {δ : Env} {L : PL} {v : V} {d : D} {δ' : Env}, Sq X Z Hb H σ δ ((v, d) :: L) → t d δ = some δ' →
  ∀ Q : L2.St → Hp → Prop, (∀ σ' H', Sq X Z Hb H' σ' δ' L → Only' is σ σ' → Q σ' H') → wG X tg v σ H Q
abbrev MGs := List D → Env → Option Env
def IGts (X : Cx) (is : List Nat) (ts : List Expr) (t : MGs) : Prop := ∀ {Z : Addr → Prop} {Hb H : Hp} {σ : L2.St} {δ : Env} {L : PL} {vs : List V} {ds : List D} {δ' : Env}, vs.length = ds.length → Sq X Z Hb H σ δ (vs.zip ds ++ L) → t ds δ = some δ' →
  ∀ Q : L2.St → Hp → Prop, (∀ σ' H', Sq X Z Hb H' σ' δ' L → Only' is σ σ' → Q σ' H') → wGs X ts vs σ H Q
def tName (i : Nat) : MG := fun d δ => if i < δ.length then some (δ.set i (some d)) else none
def tsNil : MGs := fun ds δ => match ds with
  | [] => some δ
  | _ => none
def tsCons (t : MG) (u : MGs) : MGs := fun ds δ => match ds with
  | d :: r => match t d δ with
    | some δ1 => u r δ1
    | none => none
  | [] => none
def tTup (u : MGs) : MG := fun d δ => match d with
  | .tup ds => u ds δ
  | _ => none
section
variable {X : Cx} {is js : List Nat} {x : Str} {pos : Pos} {t : MG} {u : MGs} {e : Expr} {es : List Expr}
theorem it_name (i : Nat) (hp : PG X (.Name x pos) (gName i)) : IGt X [i] (.Name x pos) (tName i) := by
  intro Z Hb H σ δ L v d δ' s e Q q
  unfold tName at e
  split at e
  · rename_i hi
    cases e
    refine wG_of hp (q _ _ (s.store hi) ⟨by simp, fun j hj => ?_⟩)
    have : i ≠ j := fun e => hj (by simp [e])
    rw [List.getElem?_set_ne this]
  · cases e
theorem its_nil : IGts X [] [] tsNil := by
  intro Z Hb H σ δ L vs ds δ' hl s e Q q
  unfold tsNil at e
  split at e
  · cases e
    have : vs = [] := List.eq_nil_of_length_eq_zero hl
    subst this
    exact wGs_of pgs_nil ⟨rfl, q _ _ s ⟨rfl, fun _ _ => rfl⟩⟩
  · cases e
theorem its_cons (h : IGt X is e t) (h2 : IGts X js es u) (hs : (assignEach (e :: es) X.env).map (·.2) = assign e X.env :: (assignEach es X.env).map (·.2)) : IGts X (is ++ js) (e :: es) (tsCons t u) := by
  intro Z Hb H σ δ L vs ds δ' hl s e' Q q
  unfold tsCons at e'
  split at e'
  · rename_i d r
    split at e'
    · rename_i δ1 e1
      match vs, hl with
      | v :: vs, hl =>
        refine wGs_of (pgs_cons pg_w pgs_w hs) ⟨v, vs, rfl, ?_⟩
        have s1 : Sq X Z Hb H σ δ ((v, d) :: (vs.zip r ++ L)) := s
        refine h s1 e1 _ fun σ1 H1 s2 o1 => h2 (by simpa using hl) s2 e' _ fun σ2 H2 s3 o2 => q _ _ s3 ⟨o2.1.trans o1.1, fun i hi => ?_⟩
        rw [o2.2 i (fun m => hi (List.mem_append_right _ m)), o1.2 i (fun m => hi (List.mem_append_left _ m))]
    · cases e'
  · cases e'
theorem it_tup {k : Nat} {n : Nat} (hc : X.calm = true) (h : IGts X is es u) (hn : (assignEach es X.env).length = n) (hst : (assignEach es X.env).findIdx? (·.1) = none) (hz : ∀ ds δ δ', u ds δ = some δ' → ds.length = n) : IGt X is (.Tuple es k pos) (tTup u) := by
  intro Z Hb H σ δ L v d δ' s e Q q
  unfold tTup at e
  split at e
  · rename_i ds
    refine wG_of (pg_tup hc pgs_w hn hst) ?_
    obtain ⟨a, vs, rfl, ha, hl, s1⟩ := s.sp.tup
    refine ⟨a, vs, rfl, ha, by rw [hl]; exact hz _ _ _ e, h hl ⟨by rw [List.append_assoc]; exact s1, s.dom⟩ e Q q⟩
  · cases e
theorem tsNil_len (ds : List D) (δ δ' : Env) (h : tsNil ds δ = some δ') : ds.length = 0 := by
  unfold tsNil at h; split at h
  · rfl
  · cases h
theorem tsCons_len {n : Nat} (hu : ∀ ds δ δ', u ds δ = some δ' → ds.length = n) (ds : List D) (δ δ' : Env) (h : tsCons t u ds δ = some δ') : ds.length = n + 1 := by
  unfold tsCons at h; split at h
  · split at h
    · simp [hu _ _ _ h]
    · cases h
  · cases h
end
def loopF (t : MG) (b : MS) : List D → Env → Option Fl
  | [], δ => some (.nx δ)
  | d :: r, δ => match t d δ with
    | some δ1 => match b δ1 with
      | some (.nx δ2) => loopF t b r δ2
      | some (.ct δ2) => loopF t b r δ2
      | some (.bk δ2) => some (.nx δ2)
      | some (.rt v δ2) => some (.rt v δ2)
      | none => none
    | none => none
def sFor (i : MI) (t : MG) (b : MS) : MS := fun δ => match i δ with
  | some (ds, δ1) => loopF t b ds δ1
  | none => none
theorem Only'.same {is : List Nat} {P : Nat → Bool} {σ σ' : L2.St} (h : Only' is σ σ') (hp : ∀ i ∈ is, P i = false) : SameP P σ σ' := fun i hi => h.2 i fun m => by rw [hp i m] at hi; cases hi
section
variable {X : Cx} {P : Nat → Bool} {tg iter : Expr} {body : List Stmt} {mi : MI} {t : MG} {b : MS} {is : List Nat} {pos : Pos}
theorem for_core (hpo : PassesOwn (model X.prog X.w) X.A X.env X.xe) (hc : X.calm = true) (ht : IGt X is tg t) (hb : ISs X P body b) (hP : ∀ i ∈ is, P i = false) (hs : ∀ x, foldedSetIterable iter X.env x = pure x)
    {Z : Addr → Prop} {Hb H : Hp} {σ : L2.St} {δ1 : Env} {L : PL} {ds : List D} {fl : Fl} (hi : ∀ R : It → Hp → Prop, (∀ J H' LI, Yields X Hb J ds LI → Sq X Z Hb H' σ δ1 (LI ++ L) → R J H') → wI X tg iter σ H R)
    (e : loopF t b ds δ1 = some fl) (Dn : Ends) (f : Fin X P Z Hb σ L Dn fl) : wS X (.For tg iter body [] pos) Dn σ H := by
    refine wS_of (ps_for hpo hc pi_w pg_w pss_w hs) (hi _ fun J H1 LI hy s1 => ?_)
    refine ⟨fun i m σ' H' => m = ds.length - i ∧ i ≤ ds.length ∧ SameP P σ σ' ∧ ∃ δi, Sq X Z Hb H' σ' δi (LI ++ L) ∧ loopF t b (ds.drop i) δi = some fl, ⟨ds.length, by simp, Nat.zero_le _, .refl, δ1, s1, by simpa using e⟩, ?_⟩
    rintro i m σ' H' ⟨rfl, hi', same, δi, si, el⟩
    have sp0 : Sp X.K X.mg Z Hb H' (LI ++ (L ++ prs σ' δi)) := by
      have := si.sp
      (rw [List.append_assoc] at this)
      exact this
    have hyi := hy i sp0
    by_cases hlt : i < ds.length
    · obtain ⟨go, yl⟩ := hyi.1 hlt
      have hd : ds.drop i = ds[i] :: ds.drop (i + 1) := List.drop_eq_getElem_cons hlt
      rw [hd] at el
      simp only [loopF] at el
      split at el
      · rename_i δ2 et
        refine .inr ⟨go, fun σ2 H2 => SameP P σ σ2 ∧ ∃ δ3, Sq X Z Hb H2 σ2 δ3 (LI ++ L) ∧ loopF t b (ds.drop (i + 1)) δ3 = some fl, fun σ2 H2 ⟨sm, δ3, s3, e3⟩ => ⟨ds.length - (i + 1), by omega, rfl, hlt, sm, δ3, s3, e3⟩, fun x H2 y => ?_⟩
        obtain ⟨d, ed, sy⟩ := yl x H2 y
        have ed' : d = ds[i] := by simpa [hlt] using ed.symm
        subst ed'
        have s2 : Sq X Z Hb H2 σ' δi ((x, ds[i]) :: (LI ++ L)) := ⟨by
          show Sp X.K X.mg Z Hb H2 ((x, ds[i]) :: (LI ++ L ++ prs σ' δi))
          rw [List.append_assoc]; exact sy, si.dom⟩
        refine ht s2 et _ fun σ3 H3 s3 o3 => ?_
        have sm3 := same.trans (o3.same hP)
        split at el
        · rename_i δ4 eb
          exact hb s3 eb _ fun σ4 H4 s4 sm4 => ⟨sm3.trans sm4, δ4, s4, el⟩
        · rename_i δ4 eb
          exact hb s3 eb _ fun σ4 H4 s4 sm4 => ⟨sm3.trans sm4, δ4, s4, el⟩
        · rename_i δ4 eb
          cases el
          exact hb s3 eb _ fun σ4 H4 s4 sm4 => f σ4 H4 s4.dropL (sm3.trans sm4)
        · rename_i v δ4 eb
          cases el
          exact hb s3 eb _ fun v σ4 H4 s4 sm4 => f v σ4 H4 (Sq.dropL (A := LI) (s4.perm List.perm_middle.symm)) (sm3.trans sm4)
        · cases el
      · cases el
    · have hn : i = ds.length := by omega
      have : ds.drop i = [] := List.drop_eq_nil_of_le (by omega)
      rw [this] at el
      cases el
      exact .inl ⟨hyi.2 (by omega), f σ' H' si.dropL same⟩
theorem is_for (hpo : PassesOwn (model X.prog X.w) X.A X.env X.xe) (hc : X.calm = true) (hi : II X tg iter mi) (ht : IGt X is tg t) (hb : ISs X P body b) (hP : ∀ i ∈ is, P i = false) (hs : ∀ x, foldedSetIterable iter X.env x = pure x) :
    IS X P (.For tg iter body [] pos) (sFor mi t b) := by
  intro Z Hb H σ δ L fl s e Dn f
  unfold sFor at e
  split at e
  · rename_i ds δ1 e1
    exact for_core hpo hc ht hb hP hs (fun R q => hi s e1 R q) e Dn f
  · cases e
end
end DL
set_option Elab.async false
set_option linter.all false
set_option maxRecDepth 100000
set_option maxHeartbeats 4000001
namespace DL
open PySem.Spec PySem L2 PyProof.Rows
/-- the slots of the block's own names are empty -/
def wipeE : Env → List Nat → Env
  | δ, [] => δ
  | δ, v :: vs => (wipeE δ vs).set v none
theorem wipeE_len : ∀ (δ : Env) (vs : List Nat), (wipeE δ vs).length = δ.length
  | _, [] => rfl
  | δ, v :: vs => by simp [wipeE, wipeE_len δ vs]
theorem wipeE_get : ∀ {δ : Env} {vs : List Nat} {i : Nat} {d : D}, (wipeE δ vs)[i]? = some (some d) → δ[i]? = some (some d) ∧ i ∉ vs
  | _, [], _, _, h => ⟨h, by simp⟩
  | δ, v :: vs, i, d, h => by
    simp only [wipeE] at h
    rw [List.getElem?_set] at h
    by_cases hi : v = i
    · subst hi
      rw [if_pos rfl] at h
      split at h <;> cases h
    · rw [if_neg hi] at h
      obtain ⟨h1, h2⟩ := wipeE_get h
      (exact ⟨h1, by simp only [List.mem_cons, not_or]; exact ⟨fun e => hi e.symm, h2⟩⟩)
/-- pairs of the slots that are left -/
theorem prs_wipe : ∀ (σ : L2.St) (δ : Env) (vs : List Nat), prs (wipe σ vs) (wipeE δ vs) = prs σ (wipeE δ vs)
  | σ, δ, [] => rfl
  | σ, δ, v :: vs => by
    simp only [wipe, wipeE]
    rw [prs_none]
    -- both sides over the same trees; the values part in the slots vs alone
    have : ∀ (σ σ' : L2.St) (ε : Env), σ.length = σ'.length → (∀ (i : Nat) (d : D), ε[i]? = some (some d) → σ[i]? = σ'[i]?) → prs σ ε = prs σ' ε := by
      intro σ
      induction σ with
      | nil => intro σ' ε hl _; cases σ' with
        | nil => rfl
        | cons _ _ => simp at hl
      | cons s σ ih => intro σ' ε hl h; cases σ' with
        | nil => simp at hl
        | cons s' σ' => cases ε with
          | nil => simp [prs_nil]
          | cons d ε =>
            have ih' := ih σ' ε (by simpa using hl) (fun i d hd => by simpa using h (i + 1) d (by simpa using hd))
            cases d with
            | none => cases s <;> cases s' <;> simp [prs, ih']
            | some d =>
              have := h 0 d rfl
              have e : s = s' := by simpa using this
              subst e
              cases s <;> simp [prs, ih']
    refine this _ _ _ (wipe_length σ vs) fun i d h => ?_
    rw [List.getElem?_set] at h
    by_cases hi : v = i
    · subst hi
      rw [if_pos rfl] at h
      split at h <;> cases h
    · rw [if_neg hi] at h
      obtain ⟨h1, h2⟩ := wipeE_get h
      clear h h1 this
      induction vs with
      | nil => rfl
      | cons w ws ih =>
        simp only [wipe]
        rw [List.getElem?_set_ne (show w ≠ i from fun e => h2 (by simp [e]))]
        exact ih fun m => h2 (List.mem_cons_of_mem _ m)
theorem Dom.wipe {σ : L2.St} {δ : Env} (h : Dom σ δ) (vs : List Nat) : Dom σ (wipeE δ vs) :=
  ⟨by rw [wipeE_len]; exact h.1, fun i d q => h.2 i d (wipeE_get q).1⟩
theorem wipe_get : ∀ {σ : L2.St} {vs : List Nat} {i : Nat}, i ∉ vs → (L2.wipe σ vs)[i]? = σ[i]?
  | _, [], _, _ => rfl
  | σ, v :: vs, i, h => by
    simp only [L2.wipe]
    rw [List.getElem?_set_ne (show v ≠ i from fun e => h (by simp [e]))]
    exact wipe_get fun m => h (List.mem_cons_of_mem _ m)
theorem wipe_get' : ∀ {σ : L2.St} {vs : List Nat} {i : Nat}, i ∈ vs → i < σ.length → (L2.wipe σ vs)[i]? = some none
  | σ, v :: vs, i, h, hl => by
    simp only [L2.wipe]
    rw [List.getElem?_set]
    by_cases e : v = i
    · rw [if_pos e, if_pos (by rw [wipe_length]; omega)]
    · rw [if_neg e]
      exact wipe_get' ((List.mem_cons.mp h).resolve_left fun q => e q.symm) hl
theorem wipe_only {σ σ' : L2.St} {vs is : List Nat} (h : Only' is (L2.wipe σ vs) σ') (hi : ∀ i ∈ is, i ∈ vs) : L2.wipe σ' vs = L2.wipe σ vs := by
  apply List.ext_getElem?
  intro i
  have hl : σ'.length = σ.length := h.1.trans (wipe_length σ vs)
  by_cases m : i ∈ vs
  · by_cases hb : i < σ.length
    · rw [wipe_get' m (by omega), wipe_get' m hb]
    · rw [List.getElem?_eq_none (by rw [wipe_length]; omega), List.getElem?_eq_none (by rw [wipe_length]; omega)]
  · rw [wipe_get m]
    exact (h.2 i fun q => m (hi i q))
theorem Dom.of_wipe {σ : L2.St} {δ : Env} {vs : List Nat} (h : Dom σ (wipeE δ vs)) : Dom (L2.wipe σ vs) (wipeE δ vs) := by
  refine ⟨by rw [wipe_length]; exact h.1, fun i d q => ?_⟩
  obtain ⟨v, e⟩ := h.2 i d q
  exact ⟨v, by rw [wipe_get (wipeE_get q).2]; exact e⟩
/-- the turns: what is walked, what is made so far -/
def loopC (own : List Nat) (t : MG) (c : MT) (m : ME) : List D → Env → List D → Option (List D × Env)
  | [], δ, acc => some (acc, δ)
  | d :: r, δ, acc => match t d δ with
    | some δ1 => match c δ1 with
      | some (true, δ2) => match m δ2 with
        | some (x, δ3) => loopC own t c m r (wipeE δ3 own) (acc ++ [x])
        | none => none
      | some (false, δ2) => loopC own t c m r (wipeE δ2 own) acc
      | none => none
    | none => none
def mLc (i : MI) (own : List Nat) (t : MG) (c : MT) (m : ME) : ME := fun δ => match i δ with
  | some (ds, δ1) => if ds.length ≤ sizeLine then match loopC own t c m ds (wipeE δ1 own) [] with
      | some (acc, δ2) => some (.lst true acc, δ2)
      | none => none
    else none
  | none => none
def tTrue : MT := fun δ => some (true, δ)
def wTs (X : Cx) (ifs : List Expr) : TT := fun σ H Q => ∀ pins s, Inv X pins σ H s → wpAny (model X.prog X.w) X.A
  (forIn ifs true fun c r => if r = true then do let ok ← isTrue c X.env (eval c X.env); pure (ForInStep.yield ok) else pure (ForInStep.yield r)) (TP X pins σ Q) X.xe s
def ITs (X : Cx) (ifs : List Expr) (m : MT) : Prop := ∀ {Z : Addr → Prop} {Hb H : Hp} {σ : L2.St} {δ : Env} {L : PL} {b : Bool} {δ' : Env}, Sq X Z Hb H σ δ L → m δ = some (b, δ') →
  ∀ Q : Bool → Hp → Prop, (∀ H', Sq X Z Hb H' σ δ' L → Q b H') → wTs X ifs σ H Q
theorem its0 {X : Cx} : ITs X [] tTrue := by
  intro Z Hb H σ δ L b δ' s e Q q
  cases e
  exact fun pins s' I => pts_nil.run pins s' σ H Q I (q H s)
theorem its1 {X : Cx} {c : Expr} {m : MT} (h : IT X c m) : ITs X [c] m := by
  intro Z Hb H σ δ L b δ' s e Q q
  exact fun pins s' I => (pts_one pt_w).run pins s' σ H Q I (h s e Q q)
abbrev bX (X : Cx) (scope : Scope) (s : Shared) (H : Hp) (C : Addr) (cl : List (Str × Addr)) (fp : List Addr) : Cx := X.blk s H scope (compEnvC scope cl C X.env) fp
section
variable {X : Cx} {elt tg iter : Expr} {ifs : List Expr} {scope : Scope} {own : List (Str × Nat)} {pos : Pos} {mi : MI} {t : MG} {c : MT} {m : ME} {is : List Nat}
theorem Sp.unset {K : PySem.W.Frag} {mg : Str → Option Value} {H Hb : Hp} {Z : Addr → Prop} {A : PL} {σ : L2.St} {δ : Env} (dm : Dom σ δ) (s : Sp K mg Z Hb H (A ++ prs σ δ)) (i : Nat) : Sp K mg Z Hb H (A ++ prs σ (δ.set i none)) := by
  cases hδ : δ[i]? with
  | none =>
    have : δ.set i none = δ := List.set_eq_of_length_le (by simpa using hδ)
    rw [this]; exact s
  | some x => cases x with
    | none =>
      have : δ.set i none = δ := by
        apply List.ext_getElem?
        intro n
        rw [List.getElem?_set]
        by_cases h : i = n
        · subst h; rw [if_pos rfl, hδ, if_pos (List.getElem?_eq_some_iff.mp hδ).1]
        · rw [if_neg h]
      rw [this]; exact s
    | some dd =>
      obtain ⟨w, hw⟩ := dm.2 i dd hδ
      have h2 : Sp K mg Z Hb H ((w, dd) :: (A ++ prs σ (δ.set i none))) := s.perm (((prs_get hw hδ).append_left A).trans List.perm_middle)
      exact h2.drop
theorem Sp.wipes {K : PySem.W.Frag} {mg : Str → Option Value} {H Hb : Hp} {Z : Addr → Prop} {A : PL} {σ : L2.St} {δ : Env} (dm : Dom σ δ) (s : Sp K mg Z Hb H (A ++ prs σ δ)) : ∀ vs : List Nat, Sp K mg Z Hb H (A ++ prs σ (wipeE δ vs))
  | [] => s
  | v :: vs => Sp.unset (dm.wipe vs) (Sp.wipes dm s vs) v
theorem prs_only {σ σ2 : L2.St} {δ : Env} {vs : List Nat} (ho : Only' vs σ σ2) : prs σ2 (wipeE δ vs) = prs σ (wipeE δ vs) := by
  rw [← prs_wipe σ2, ← prs_wipe σ, wipe_only (σ := σ) (is := vs) ⟨by rw [wipe_length]; exact ho.1, fun i hi => by rw [wipe_get hi]; exact ho.2 i hi⟩ (fun _ h => h)]
theorem Dom.only {σ σ2 : L2.St} {δ : Env} {vs : List Nat} (h : Dom σ2 δ) (ho : Only' vs σ σ2) : Dom σ (wipeE δ vs) := by
  refine ⟨by rw [wipeE_len, ← h.1, ho.1], fun i d q => ?_⟩
  obtain ⟨q1, q2⟩ := wipeE_get q
  obtain ⟨v, e⟩ := h.2 i d q1
  exact ⟨v, by rw [← ho.2 i q2]; exact e⟩
theorem lc_core (ht : ∀ s H C cl fp, IGt (bX X scope s H C cl fp) is tg t) (hc : ∀ s H C cl fp, ITs (bX X scope s H C cl fp) ifs c) (he : ∀ s H C cl fp, IG (bX X scope s H C cl fp) elt m)
    {vs : List Nat} (hsub : ∀ i ∈ is, i ∈ vs) {Z : Addr → Prop} {Hb H : Hp} {σ : L2.St} {δ1 δ' : Env} {L : PL} {ds accF : List D} (hz : ds.length ≤ sizeLine)
    (hi : ∀ R : It → Hp → Prop, (∀ J H' LI, Yields X Hb J ds LI → Sq X Z Hb H' σ δ1 (LI ++ L) → R J H') → wI X tg iter σ H R)
    (e2 : loopC vs t c m ds (wipeE δ1 vs) [] = some (accF, δ')) (Q : VK) (q : ∀ v H', Sq X Z Hb H' σ δ' ((v, .lst true accF) :: L) → Q v H') :
    tLc (wI X tg iter) (fun v σ H Q => ∀ s H0 C cl fp, wG (bX X scope s H0 C cl fp) tg v σ H Q) (fun σ H Q => ∀ s H0 C cl fp, wTs (bX X scope s H0 C cl fp) ifs σ H Q) (fun σ H Q => ∀ s H0 C cl fp, wE (bX X scope s H0 C cl fp) elt σ H Q) vs σ H Q := by
  refine hi _ fun J H1 LI hy s1 => fun D hD => ?_
  have dm1 : Dom σ (wipeE δ1 vs) := s1.dom.wipe vs
  refine ⟨fun i n H' => n = ds.length - i ∧ i ≤ ds.length ∧ ∃ δi acc, Sp X.K X.mg Z Hb H' (LI ++ ((.ref D, .lst true acc) :: (L ++ prs σ (wipeE δi vs)))) ∧ Dom σ (wipeE δi vs) ∧ acc.length ≤ i ∧ loopC vs t c m (ds.drop i) (wipeE δi vs) acc = some (accF, δ'), ⟨ds.length, by simp, Nat.zero_le _, δ1, [], ?_, dm1, Nat.le_refl _, by simpa using e2⟩, ?_⟩
  · have h1 := Sp.wipes s1.dom s1.sp vs
    have h2 : Sp X.K X.mg Z Hb (upd H1 D (.lst [])) ((.ref D, .lst true []) :: (LI ++ L ++ prs σ (wipeE δ1 vs))) := Sp.newL (vs := []) (ds := []) h1 rfl hD
    refine h2.perm ?_
    rw [List.append_assoc]
    exact List.perm_middle.symm
  · rintro i n H' ⟨rfl, hi', δi, acc, si, di, hacc, el⟩
    have hyi := hy i si
    by_cases hlt : i < ds.length
    · obtain ⟨go, yl⟩ := hyi.1 hlt
      have hd : ds.drop i = ds[i] :: ds.drop (i + 1) := List.drop_eq_getElem_cons hlt
      rw [hd] at el
      simp only [loopC] at el
      split at el
      · rename_i δ3 et
        refine .inr ⟨go, fun H2 => ∃ δi acc, Sp X.K X.mg Z Hb H2 (LI ++ ((.ref D, .lst true acc) :: (L ++ prs σ (wipeE δi vs)))) ∧ Dom σ (wipeE δi vs) ∧ acc.length ≤ i + 1 ∧ loopC vs t c m (ds.drop (i + 1)) (wipeE δi vs) acc = some (accF, δ'),
          fun H2 h => ⟨ds.length - (i + 1), by omega, rfl, hlt, h⟩, fun x H2 y => ?_⟩
        obtain ⟨d, ed, sy⟩ := yl x H2 y
        have ed' : d = ds[i] := by simpa [hlt] using ed.symm
        subst ed'
        have dw : Dom (L2.wipe σ vs) (wipeE δi vs) := di.of_wipe
        have sw : Sp X.K X.mg Z Hb H2 ((x, ds[i]) :: (LI ++ ((.ref D, .lst true acc) :: L)) ++ prs (L2.wipe σ vs) (wipeE δi vs)) := by
          rw [prs_wipe]
          have := sy
          simpa [List.append_assoc] using this
        intro s0 H0 C cl fp
        refine ht s0 H0 C cl fp (show Sq (bX X scope s0 H0 C cl fp) Z Hb H2 (L2.wipe σ vs) (wipeE δi vs) ((x, ds[i]) :: (LI ++ ((.ref D, .lst true acc) :: L))) from ⟨sw, dw⟩) et _ fun σ3 H3 s3 o3 => ⟨wipe_only o3 hsub, ?_⟩
        have o3' : Only' vs σ σ3 := ⟨o3.1.trans (wipe_length σ vs), fun j hj => by rw [o3.2 j fun h => hj (hsub j h), wipe_get hj]⟩
        have back : ∀ {H4 : Hp} {δ4 : Env} {A : PL}, Sp X.K X.mg Z Hb H4 (A ++ (LI ++ ((.ref D, .lst true acc) :: L)) ++ prs σ3 δ4) → Dom σ3 δ4 → Sp X.K X.mg Z Hb H4 (A ++ (LI ++ ((.ref D, .lst true acc) :: (L ++ prs σ (wipeE δ4 vs))))) := by
          intro H4 δ4 A h dm
          have h1 := Sp.wipes dm h vs
          rw [prs_only o3'] at h1
          simpa [List.append_assoc] using h1
        intro s0' H0' C' cl' fp'
        split at el
        · rename_i δ4 ec
          refine hc s0' H0' C' cl' fp' (show Sq (bX X scope s0' H0' C' cl' fp') Z Hb H3 σ3 δ3 (LI ++ ((.ref D, .lst true acc) :: L)) from ⟨s3.sp, s3.dom⟩) ec _ fun H4 s4 => ?_
          rw [if_pos rfl]
          intro s0'' H0'' C'' cl'' fp''
          split at el
          · rename_i z δ5 ee
            refine he s0'' H0'' C'' cl'' fp'' (show Sq (bX X scope s0'' H0'' C'' cl'' fp'') Z Hb H4 σ3 δ4 (LI ++ ((.ref D, .lst true acc) :: L)) from ⟨s4.sp, s4.dom⟩) ee _ fun w H5 s5 => ?_
            have s6 : Sp X.K X.mg Z Hb H5 ([(w, z)] ++ (LI ++ ((.ref D, .lst true acc) :: (L ++ prs σ (wipeE δ5 vs))))) := back (A := [(w, z)]) s5.sp s5.dom
            have s7 : Sp X.K X.mg Z Hb H5 ((.ref D, .lst true acc) :: ((w, z) :: (LI ++ (L ++ prs σ (wipeE δ5 vs))))) := s6.perm (by
              show List.Perm ((w, z) :: (LI ++ ((.ref D, .lst true acc) :: (L ++ prs σ (wipeE δ5 vs))))) _
              exact (List.perm_middle.cons _).trans (.swap _ _ _))
            obtain ⟨ws, hw, hlw, mu⟩ := s7.mutL
            refine ⟨ws, hw, by rw [hlw]; omega, δ5, acc ++ [z], ?_, s5.dom.only o3', by simp; omega, el⟩
            have s8 := mu (ws ++ [w]) (acc ++ [z]) (LI ++ (L ++ prs σ (wipeE δ5 vs))) (by simp [hlw]) (by
              rw [zip_append hlw, List.append_assoc]
              exact List.Perm.refl _)
            exact s8.perm List.perm_middle.symm
          · cases el
        · rename_i δ4 ec
          refine hc s0' H0' C' cl' fp' (show Sq (bX X scope s0' H0' C' cl' fp') Z Hb H3 σ3 δ3 (LI ++ ((.ref D, .lst true acc) :: L)) from ⟨s3.sp, s3.dom⟩) ec _ fun H4 s4 => ?_
          (rw [if_neg Bool.false_ne_true])
          exact ⟨δ4, acc, back (A := []) s4.sp s4.dom, s4.dom.only o3', by omega, el⟩
        · cases el
      · cases el
    · have hn : i = ds.length := by omega
      have : ds.drop i = [] := List.drop_eq_nil_of_le (by omega)
      rw [this] at el
      cases el
      refine .inl ⟨hyi.2 (by omega), q _ _ ⟨?_, di⟩⟩
      exact Sp.dropL (L := LI) si
/-- the reading of a comprehension over the mirrors -/
theorem lc_run (hi : II X tg iter mi) (ht : ∀ s H C cl fp, IGt (bX X scope s H C cl fp) is tg t) (hc : ∀ s H C cl fp, ITs (bX X scope s H C cl fp) ifs c) (he : ∀ s H C cl fp, IG (bX X scope s H C cl fp) elt m)
    {vs : List Nat} (hsub : ∀ i ∈ is, i ∈ vs) {Z : Addr → Prop} {Hb H : Hp} {σ : L2.St} {δ δ' : Env} {L : PL} {d : D} (s : Sq X Z Hb H σ δ L) (e : mLc mi vs t c m δ = some (d, δ')) (Q : VK) (q : ∀ v H', Sq X Z Hb H' σ δ' ((v, d) :: L) → Q v H') :
    tLc (wI X tg iter) (fun v σ H Q => ∀ s H0 C cl fp, wG (bX X scope s H0 C cl fp) tg v σ H Q) (fun σ H Q => ∀ s H0 C cl fp, wTs (bX X scope s H0 C cl fp) ifs σ H Q) (fun σ H Q => ∀ s H0 C cl fp, wE (bX X scope s H0 C cl fp) elt σ H Q) vs σ H Q := by
  unfold mLc at e
  split at e
  · rename_i ds δ1 e1
    split at e
    · rename_i hz
      split at e
      · rename_i accF δ2 e2
        cases e
        exact lc_core ht hc he hsub hz (fun R q => hi s e1 R q) e2 Q q
      · cases e
    · cases e
  · cases e
theorem ig_lc (hcl : X.calm = true) (hN : X.N.Nodup) (hi : II X tg iter mi) (ok : BlkOk X.N X.env.scope scope own) (ht : ∀ s H C cl fp, IGt (bX X scope s H C cl fp) is tg t) (hc : ∀ s H C cl fp, ITs (bX X scope s H C cl fp) ifs c) (he : ∀ s H C cl fp, IG (bX X scope s H C cl fp) elt m)
    (hsub : ∀ i ∈ is, i ∈ own.map (·.2)) (hs : ∀ x, foldedSetIterable iter X.env x = pure x) : IG X (.ListComp elt [⟨tg, iter, ifs, 0⟩] scope pos) (mLc mi (own.map (·.2)) t c m) := by
  intro Z Hb H σ δ L d δ' s e Q q
  refine wE_of (pe_lc (wi := wI X tg iter) (g := fun v σ H Q => ∀ s H0 C cl fp, wG (bX X scope s H0 C cl fp) tg v σ H Q) (tt := fun σ H Q => ∀ s H0 C cl fp, wTs (bX X scope s H0 C cl fp) ifs σ H Q) (te := fun σ H Q => ∀ s H0 C cl fp, wE (bX X scope s H0 C cl fp) elt σ H Q) hcl hN pi_w ok (fun s H C cl fp => ⟨fun pins s' σ H' v u Q I r h => h s H C cl fp pins s' u I r⟩) (fun s H C cl fp => ⟨fun pins s' σ H' Q I h => h s H C cl fp pins s' I⟩) (fun s H C cl fp => ⟨fun pins s' σ H' Q I h => h s H C cl fp pins s' I⟩) hs) ?_
  exact lc_run hi ht hc he hsub s e Q q
/-- y = [..], all of it on one line -/
theorem is_setLc {P : Nat → Bool} {i : Nat} {y : Str} {py spos : Pos} (hP : P i = false) (hcl : X.calm = true) (hN : X.N.Nodup) (hy : X.N[i]? = some y) (hyl : X.env.scope.names.lookup y = some .local)
    (hsw : swapsWith (.ListComp elt [⟨tg, iter, ifs, 0⟩] scope pos) (some (.Name y py)) spos.line X.env = pure true) (hi : II X tg iter mi) (ok : BlkOk X.N X.env.scope scope own) (ht : ∀ s H C cl fp, IGt (bX X scope s H C cl fp) is tg t) (hc : ∀ s H C cl fp, ITs (bX X scope s H C cl fp) ifs c) (he : ∀ s H C cl fp, IG (bX X scope s H C cl fp) elt m)
    (hsub : ∀ i ∈ is, i ∈ own.map (·.2)) (hs : ∀ x, foldedSetIterable iter X.env x = pure x) : IS X P (.Assign [.Name y py] (.ListComp elt [⟨tg, iter, ifs, 0⟩] scope pos) spos) (sSet i (mLc mi (own.map (·.2)) t c m)) := by
  intro Z Hb H σ δ L fl s e Dn f
  unfold sSet at e
  split at e
  · rename_i d δ1 e1
    split at e
    · rename_i hl
      cases e
      refine wS_of (ps_setLc (wi := wI X tg iter) (g := fun v σ H Q => ∀ s H0 C cl fp, wG (bX X scope s H0 C cl fp) tg v σ H Q) (tt := fun σ H Q => ∀ s H0 C cl fp, wTs (bX X scope s H0 C cl fp) ifs σ H Q) (te := fun σ H Q => ∀ s H0 C cl fp, wE (bX X scope s H0 C cl fp) elt σ H Q) hcl hN hy hyl hsw pi_w ok (fun s H C cl fp => ⟨fun pins s' σ H' v u Q I r h => h s H C cl fp pins s' u I r⟩) (fun s H C cl fp => ⟨fun pins s' σ H' Q I h => h s H C cl fp pins s' I⟩) (fun s H C cl fp => ⟨fun pins s' σ H' Q I h => h s H C cl fp pins s' I⟩) hs) ?_
      exact lc_run hi ht hc he hsub s e1 _ fun v H' s' => f _ H' (s'.store hl) (.set hP _)
    · cases e
  · cases e
end
end DL
set_option Elab.async false
set_option linter.all false
set_option maxRecDepth 100000
set_option maxHeartbeats 4000001
namespace DL
open PySem.Spec PySem L2 PyProof.Rows
section
variable {w : World} {prog : Program} {A : Around} {E : Value → Shared → Prop} {s : Shared}
theorem places_back (n : Nat) : Builtin.Slice.slicePlaces ((n : Int) - 1) (-1) (-1) = n := by
  (unfold Builtin.Slice.slicePlaces)
  have h1 : ¬ ((-1 : Int) > 0) := by omega
  have h2 : (-(-1 : Int)) = 1 := by omega
  simp only [h1, if_false, h2, Int.ediv_one]
  split <;> omega
theorem adjust_back (n : Nat) : Builtin.Slice.sliceAdjust none none (-1) (n : Int) = ((n : Int) - 1, -1) := by
  (unfold Builtin.Slice.sliceAdjust)
  have h1 : ((-1 : Int) < 0) := by omega
  simp only [h1, if_true]
theorem applied_back {sl : Addr} {vs : Value} {n : Nat} {Q : Int × Int × Nat → Shared → Prop} (hs : s.heap.IsSliceOf sl .none .none vs) (ps : IsPart vs (some (-1))) (h : Q ((n : Int) - 1, -1, n) s) : wpAny (model prog w) A (Builtin.Slice.sliceApplied (.ref sl) (pure (n : Int))) Q E s := by
  (obtain ⟨os, hos, hcs, hds⟩ := id hs)
  (unfold Builtin.Slice.sliceApplied Builtin.Slice.sliceFields)
  refine wpAny_bind (wpAny_bind (wpAny_field hos hds (x := .none) rfl (wpAny_bind (wpAny_field hos hds (x := .none) rfl (wpAny_bind (wpAny_field hos hds (x := vs) rfl (wpAny_pure ?_)))))))
  refine wpAny_bind (HT.slicePart_ ps ?_)
  show wpAny _ _ (if ((-1 : Int) == 0) = true then _ else _) _ _ s
  rw [if_neg (by decide)]
  refine wpAny_bind (HT.slicePart_ .none (wpAny_bind (HT.slicePart_ .none (wpAny_bind (wpAny_pure ?_)))))
  show wpAny _ _ (match Builtin.Slice.sliceAdjust none none (-1) (n : Int) with | (lo, hi) => pure (lo, (-1 : Int), Builtin.Slice.slicePlaces lo hi (-1))) _ _ s
  rw [adjust_back]
  show wpAny _ _ (pure ((n : Int) - 1, (-1 : Int), Builtin.Slice.slicePlaces ((n : Int) - 1) (-1) (-1))) _ _ s
  rw [places_back]
  exact wpAny_pure h
theorem pick_back (xs : Array Value) : ((List.range xs.size).filterMap fun (m : Nat) => xs[(((xs.size : Int) - 1) + (m : Int) * (-1)).toNat]?).toArray = xs.toList.reverse.toArray := by
  congr 1
  have e : (List.range xs.size).filterMap (fun (m : Nat) => xs[(((xs.size : Int) - 1) + (m : Int) * (-1)).toNat]?) = ((List.range xs.size).map fun k => xs.size - 1 - k).filterMap fun j => xs[j]? := by
    rw [List.filterMap_map]
    have gen : ∀ l : List Nat, (∀ m ∈ l, m < xs.size) → l.filterMap (fun (m : Nat) => xs[(((xs.size : Int) - 1) + (m : Int) * (-1)).toNat]?) = l.filterMap ((fun j => xs[j]?) ∘ fun k => xs.size - 1 - k) := by
      intro l
      induction l with
      | nil => intro _; rfl
      | cons m l ih =>
        intro h
        have hm := h m List.mem_cons_self
        have e : xs[(((xs.size : Int) - 1) + (m : Int) * (-1)).toNat]? = xs[xs.size - 1 - m]? := by
          congr 1
          omega
        simp only [List.filterMap_cons, Function.comp, e]
        rw [ih fun k hk => h k (List.mem_cons_of_mem _ hk)]
        first | done | rfl
    exact gen _ fun m hm => List.mem_range.mp hm
  rw [e, PySem.W.krv_range, List.filterMap_reverse, PySem.W.krv_all]
theorem getItem_tuple_back {t sl : Addr} {items : Array Value} {vs : Value} {Q : Value → Shared → Prop} (ht : IsTup s.heap t items) (hs : s.heap.IsSliceOf sl .none .none vs) (ps : IsPart vs (some (-1)))
    (h : Q (.ref s.heap.objs.size) { s with heap := s.heap.push { cls := .type "tuple", data := .seq items.toList.reverse.toArray } }) (hsz : items.size ≤ sizeLine) : wpAny (model prog w) A (getItem (.ref t) (.ref sl)) Q E s := by
  have hroom : sizeOk (.seq items.toList.reverse.toArray) := by
    show items.toList.reverse.toArray.size ≤ sizeLine
    rw [List.size_toArray, List.length_reverse, Array.length_toList]
    exact hsz
  (obtain ⟨os, hos, hcs, hds⟩ := id hs)
  (have hTs : s.TypeIs (.ref sl) "slice" := ⟨os, hos, hcs⟩)
  unfold getItem
  try with_reducible (refine wpAny_holding ?_)
  first | (refine wpAny_bind (wpAny_pure ?_)) | skip
  (refine wpAny_bind (wpAny_sequenceKey ht.typeIs (by decide) ?_))
  refine wpAny_bind (wpAny_callSpecial?_slot (name := Str.ofString "__getitem__") ht.typeIs PyProof.Rows.slot_tuple_getitem (wpAny_call_entry PyProof.Rows.slot_tuple_getitem ht.typeIs entry_tuple_getitem ?_ (args_tuple_getitem _ _)))
  (show wpAny _ _ (Builtin.Tuple.tupleItemsOf (.ref t) >>= _) _ _ s)
  (refine wpAny_bind (tupleItemsOf_ ht ?_))
  (refine wpAny_bind (wpAny_typeOf hTs ?_))
  rw [if_pos (by decide)]
  refine wpAny_bind (applied_back hs ps ?_)
  show wpAny _ _ (if ((((items.size : Int) - 1) == 0) && ((-1 : Int) == 1) && (items.size == items.size)) = true then _ else _) _ _ s
  rw [if_neg (by simp), pick_back]
  first
    | exact wpAny_bind (m := Builtin.Tuple.tupleExact _) (wpAny_newObj_type (wpAny_pure ⟨_, rfl, wpAny_pure h⟩) hroom)
    | exact wpAny_bind (wpAny_bind (m := Builtin.Tuple.tupleExact _) (wpAny_newObj_type (wpAny_pure (wpAny_pure ⟨_, rfl, wpAny_pure h⟩)) hroom))
    | exact wpAny_bind (wpAny_bind (m := Builtin.Tuple.tupleExact _) (wpAny_newObj_type (wpAny_pure ⟨_, rfl, wpAny_pure h⟩) hroom))
end
def wO (X : Cx) (e : Option Expr) : TO := fun σ H Q => ∀ pins s, Inv X pins σ H s → wpAny (model X.prog X.w) X.A (evalPart e X.env) (fun u s' => ∃ o H', Inv X pins σ H' s' ∧ IsPart u o ∧ Q o H') X.xe s
theorem po_w {X : Cx} {e : Option Expr} : PO X e (wO X e) := ⟨fun pins s σ H Q I h => h pins s I⟩
theorem wO_of {X : Cx} {e : Option Expr} {t : TO} (h : PO X e t) {σ : L2.St} {H : Hp} {Q : Option Int → Hp → Prop} (q : t σ H Q) : wO X e σ H Q := fun pins s I => h.run pins s σ H Q I q
abbrev MO := Env → Option (Option Int × Env)
def IO' (X : Cx) (e : Option Expr) (m : MO) : Prop := ∀ {Z : Addr → Prop} {Hb H : Hp} {σ : L2.St} {δ : Env} {L : PL} {o : Option Int} {δ' : Env}, Sq X Z Hb H σ δ L → m δ = some (o, δ') →
  ∀ Q : Option Int → Hp → Prop, (∀ H', Sq X Z Hb H' σ δ' L → Q o H') → wO X e σ H Q
def oNone : MO := fun δ => some (none, δ)
def oSome (m : ME) : MO := fun δ => match m δ with
  | some (.int i, δ1) => some (some i, δ1)
  | _ => none
section
variable {X : Cx} {e : Expr} {m : ME}
theorem io_none : IO' X none oNone := by
  intro Z Hb H σ δ L o δ' s e Q q
  cases e
  exact wO_of po_none (q H s)
theorem io_some (h : IG X e m) : IO' X (some e) (oSome m) := by
  intro Z Hb H σ δ L o δ' s e' Q q
  unfold oSome at e'
  split at e'
  · rename_i i δ1 e1
    cases e'
    refine wO_of (po_some pe_w) (h s e1 _ fun v H' s' => ?_)
    have hv := Sp.int s'.sp
    exact ⟨i, hv, q H' s'.drop⟩
  · cases e'
end
def cutD {α : Type} (ds : List α) (lo hi : Option Int) : List α := (ds.drop (HT.sIx ds.length 0 lo)).take (HT.sIx ds.length ds.length hi - HT.sIx ds.length 0 lo)
def dSl : D → Option Int → Option Int → Option D
  | .lst _ ds, lo, hi => some (.lst true (cutD ds lo hi))
  | .tup ds, lo, hi => some (.tup (cutD ds lo hi))
  | .str z, lo, hi => if z.length ≤ sizeLine then some (.str (cutS z lo hi)) else none
  | _, _, _ => none
def mSl (a : ME) (lo hi : MO) : ME := fun δ => match a δ with
  | some (x, δ1) => match lo δ1 with
    | some (l, δ2) => match hi δ2 with
      | some (h, δ3) => match dSl x l h with
        | some d => some (d, δ3)
        | none => none
      | none => none
    | none => none
  | none => none
theorem take_zip : ∀ (n : Nat) (vs : List V) (ds : List D), (vs.take n).zip (ds.take n) = (vs.zip ds).take n
  | 0, vs, ds => by simp
  | n + 1, [], ds => by simp
  | n + 1, v :: vs, [] => by simp
  | n + 1, v :: vs, d :: ds => by simp [take_zip n vs ds]
theorem drop_zip : ∀ (n : Nat) (vs : List V) (ds : List D), (vs.drop n).zip (ds.drop n) = (vs.zip ds).drop n
  | 0, vs, ds => by simp
  | n + 1, [], ds => by simp
  | n + 1, v :: vs, [] => by simp
  | n + 1, v :: vs, d :: ds => by simp [drop_zip n vs ds]
section
variable {K : PySem.W.Frag} {mg : Str → Option Value} {H Hb : Hp} {Z : Addr → Prop} {P : PL}
theorem Sp.dropN {A : PL} (n : Nat) (s : Sp K mg Z Hb H (A ++ P)) : Sp K mg Z Hb H (A.drop n ++ P) := by
  rw [← List.take_append_drop n A, List.append_assoc] at s
  exact s.dropL
theorem Sp.takeN {A : PL} (n : Nat) (s : Sp K mg Z Hb H (A ++ P)) : Sp K mg Z Hb H (A.take n ++ P) := by
  have e : (A ++ P).Perm (A.drop n ++ (A.take n ++ P)) := by
    have h := List.take_append_drop n A
    calc (A ++ P).Perm ((A.take n ++ A.drop n) ++ P) := by rw [h]
      _ |>.Perm ((A.drop n ++ A.take n) ++ P) := List.perm_append_comm.append_right _
      _ |>.Perm (A.drop n ++ (A.take n ++ P)) := by rw [List.append_assoc]
  exact (s.perm e).dropL
theorem Sp.cut {vs : List V} {ds : List D} (hl : vs.length = ds.length) (lo hi : Option Int) (s : Sp K mg Z Hb H (vs.zip ds ++ P)) : (cutV vs lo hi).length = (cutD ds lo hi).length ∧ Sp K mg Z Hb H ((cutV vs lo hi).zip (cutD ds lo hi) ++ P) := by
  unfold cutV cutD
  rw [hl]
  refine ⟨by simp [hl], ?_⟩
  rw [take_zip, drop_zip]
  exact (s.dropN _).takeN _
end
section
variable {X : Cx} {e : Expr} {m : ME} {lo hi : Option Expr} {ml mh : MO} {p2 pos : Pos}
def rSlAll (K : PySem.W.Frag) : V → Option Int → Option Int → Hp → VK → Prop := fun x lo hi H Q => rSlL K x lo hi H Q ∨ rSlA K x lo hi H Q ∨ rSlS x lo hi H Q
theorem ig_slice (he : IG X e m) (hl : IO' X lo ml) (hu : IO' X hi mh) : IG X (.Subscript e (.Slice lo hi none p2) pos) (mSl m ml mh) := by
  intro Z Hb H σ δ L d δ' s e' Q q
  unfold mSl at e'
  split at e'
  · rename_i x δ1 e1
    split at e'
    · rename_i l δ2 e2
      split at e'
      · rename_i h δ3 e3
        split at e'
        · rename_i d0 e4
          cases e'
          refine wE_of (pe_slice (r := rSlAll X.K) (sl_list.or (sl_tupA.or sl_str)) pe_w po_w po_w) (he s e1 _ fun v H1 s1 => hl s1 e2 _ fun H2 s2 => hu s2 e3 _ fun H3 s3 => ?_)
          have sp := s3.sp
          cases x with
          | lst o ds =>
            cases e4
            obtain ⟨a, vs, rfl, ha, hlen, sp1⟩ := Sp.lst sp
            obtain ⟨c1, c2⟩ := Sp.cut hlen l h sp1
            exact .inl ⟨a, vs, rfl, .inl (.inl ha), fun p hp => q _ _ ⟨c2.newL c1 hp, s3.dom⟩⟩
          | tup ds =>
            cases e4
            obtain ⟨a, vs, rfl, ha, hlen, sp1⟩ := Sp.tup sp
            obtain ⟨c1, c2⟩ := Sp.cut hlen l h sp1
            refine .inr (.inl ⟨a, vs, rfl, ha, fun hw => ?_, fun _ p hp => q _ _ ⟨c2.newT c1 hp, s3.dom⟩⟩)
            have ec : cutD ds l h = ds := by
              unfold cutD
              rw [← hlen, hw.1, hw.2, List.drop_zero, Nat.sub_zero, hlen, List.take_length]
            rw [ec] at q
            exact q _ _ s3
          | str z =>
            simp only [dSl] at e4
            split at e4
            · rename_i hz
              cases e4
              have := Sp.str sp
              subst this
              exact .inr (.inr ⟨z, rfl, hz, q _ _ (s3.drop.put fun _ => .str)⟩)
            · cases e4
          | _ => cases e4
        · cases e'
      · cases e'
    · cases e'
  · cases e'
def tRev (K : PySem.W.Frag) (te : TE) : TE := fun σ H Q => te σ H fun x H1 => (∃ a xs, x = .ref a ∧ SqL K H1 a xs ∧ ∀ p, H1 p = none → Q (.ref p) (upd H1 p (.lst xs.reverse))) ∨ ∃ a xs, x = .ref a ∧ SqT K H1 a xs ∧ ∀ p, H1 p = none → Q (.ref p) (upd H1 p (.tup xs.reverse))
theorem pe_rev {te : TE} {k : Nat} {p1 p2 p3 pos : Pos} (he : PE X e te) : PE X (.Subscript e (.Slice none none (some (.UnaryOp .USub (.Constant (.int 1) k p1) p2)) p3) pos) (tRev X.K te) := by
  refine ⟨fun pins s σ H Q I h => Subscript_ (thn (he.run pins s σ H _ I h) fun v s1 ⟨x, H1, I1, r1, q1⟩ => ?_)⟩
  (refine wpAny_Slice (thn (po_none.run pins s1 σ H1 (fun o H2 => o = none ∧ H2 = H1) I1 ⟨rfl, rfl⟩) fun vl s2 ⟨l, H2, I2, pl, el, e2⟩ => ?_))
  subst el e2
  (refine thn (po_none.run pins s2 σ H2 (fun o H3 => o = none ∧ H3 = H2) I2 ⟨rfl, rfl⟩) fun vu s3 ⟨u, H3, I3, pu, eu, e3⟩ => ?_)
  subst eu e3
  refine thn ((po_some (pe_un un_neg pe_int) : PO X (some (.UnaryOp .USub (.Constant (.int 1) k p1) p2)) (tPart (tUn (rU fun i => .int (-i)) (tC (.int 1))))).run pins s3 σ H3 (fun o H4 => o = some (-1) ∧ H4 = H3) I3 ⟨1, rfl, -1, rfl, rfl, rfl⟩) fun vs s4 ⟨o, H4, I4, ps, eo, e4⟩ => ?_
  subst eo e4
  (have I5 : Inv X pins σ H4 { s4 with heap := s4.heap.push { cls := .type "slice", data := .fields #[vl, vu, vs] } } := I4.kept (t' := s4.toks) fun b ob q => Heap.get?_push_of_some _ q)
  have npl : vl = .none := by cases pl; rfl
  have npu : vu = .none := by cases pu; rfl
  subst npl npu
  rcases q1 with ⟨a, xs, ex, hx, q⟩ | ⟨a, xs, ex, hx, q⟩
  · subst ex
    cases r1
    (obtain ⟨its, r, ht, hz⟩ := I5.list hx)
    have hlen := r.length
    show wpAny (model X.prog X.w) X.A (subscriptTail e (.Slice none none (some (.UnaryOp .USub (.Constant (.int 1) k p1) p2)) p3) (.ref a) (.ref s4.heap.objs.size)) (EP X pins σ Q) X.xe { s4 with heap := s4.heap.push { cls := .type "slice", data := .fields #[.none, .none, vs] } }
    refine tail_any (ops := [.ref a, .ref s4.heap.objs.size]) ht.isList.typeIs (PySem.slot_list_getitem.lookup) (wpAny_getItem_list_slice ht.isList (Heap.IsSliceOf.new _ .none .none vs) .none .none ps (by decide) ?_ (by rw [List.size_toArray]; omega)) (by with_unfolding_all rfl)
    rw [PySem.W.krv_pick]
    exact ⟨.ref _, _, I5.laid (t' := s4.toks) (o := .lst xs.reverse) (fun b ob q => Heap.get?_push_of_some _ q) (Nat.le_refl _) ⟨by rw [List.length_reverse]; exact hz, _, 0, r.reverse, Heap.get?_push_size _ rfl⟩, rfl, q _ (I5.hok.fresh (Nat.le_refl _))⟩
  · subst ex
    cases r1
    obtain ⟨its, r, ht, hz⟩ := I5.tuple hx
    have hlen := r.length
    show wpAny (model X.prog X.w) X.A (subscriptTail e (.Slice none none (some (.UnaryOp .USub (.Constant (.int 1) k p1) p2)) p3) (.ref a) (.ref s4.heap.objs.size)) (EP X pins σ Q) X.xe { s4 with heap := s4.heap.push { cls := .type "slice", data := .fields #[.none, .none, vs] } }
    refine tail_any (ops := [.ref a, .ref s4.heap.objs.size]) ht.typeIs PyProof.Rows.slot_tuple_getitem.lookup (getItem_tuple_back ht (Heap.IsSliceOf.new _ .none .none vs) ps ?_ (by rw [List.size_toArray]; omega)) (by with_unfolding_all rfl)
    exact ⟨.ref _, _, I5.laid (t' := s4.toks) (o := .tup xs.reverse) (fun b ob q => Heap.get?_push_of_some _ q) (Nat.le_refl _) ⟨by rw [List.length_reverse]; exact hz, _, r.reverse, IsTup.new _ _⟩, rfl, q _ (I5.hok.fresh (Nat.le_refl _))⟩
def dRev : D → Option D
  | .lst _ ds => some (.lst true ds.reverse)
  | .tup ds => some (.tup ds.reverse)
  | _ => none
def mUn (g : D → Option D) (a : ME) : ME := fun δ => match a δ with
  | some (x, δ1) => match g x with
    | some d => some (d, δ1)
    | none => none
  | none => none
theorem rev_zip {vs : List V} {ds : List D} (h : vs.length = ds.length) : vs.reverse.zip ds.reverse = (vs.zip ds).reverse := by
  induction vs generalizing ds  with
  | nil => simp
  | cons v vs ih => cases ds with
    | nil => simp at h
    | cons d ds =>
      have h' : vs.length = ds.length := by simpa using h
      simp only [List.reverse_cons, List.zip_cons_cons]
      rw [zip_append (by simp [h']), ih h']
      rfl
theorem ig_rev {k : Nat} {p1 p2 p3 pos : Pos} (he : IG X e m) : IG X (.Subscript e (.Slice none none (some (.UnaryOp .USub (.Constant (.int 1) k p1) p2)) p3) pos) (mUn dRev m) := by
  intro Z Hb H σ δ L d δ' s e' Q q
  unfold mUn at e'
  split at e'
  · rename_i x δ1 e1
    split at e'
    · rename_i d0 e4
      cases e'
      refine wE_of (pe_rev pe_w) (he s e1 _ fun v H1 s1 => ?_)
      have sp := s1.sp
      cases x with
      | lst o ds =>
        cases e4
        obtain ⟨a, vs, rfl, ha, hlen, sp1⟩ := Sp.lst sp
        refine .inl ⟨a, vs, rfl, .inl (.inl ha), fun p hp => q _ _ ⟨Sp.newL (vs := vs.reverse) (ds := ds.reverse) ?_ (by simp [hlen]) hp, s1.dom⟩⟩
        rw [rev_zip hlen]
        exact sp1.perm ((List.reverse_perm _).symm.append_right _)
      | tup ds =>
        cases e4
        obtain ⟨a, vs, rfl, ha, hlen, sp1⟩ := Sp.tup sp
        refine .inr ⟨a, vs, rfl, ha, fun p hp => q _ _ ⟨Sp.newT (vs := vs.reverse) (ds := ds.reverse) ?_ (by simp [hlen]) hp, s1.dom⟩⟩
        rw [rev_zip hlen]
        exact sp1.perm ((List.reverse_perm _).symm.append_right _)
      | _ => cases e4
    · cases e'
  · cases e'
end
end DL
set_option Elab.async false
set_option linter.all false
set_option maxRecDepth 100000
set_option maxHeartbeats 4000001
namespace DL
open PySem.Spec PySem L2 PyProof.Rows
abbrev MPs := List (ME × ME)
def mPairs : MPs → Env → Option (List (Key × D) × Env)
  | [], δ => some ([], δ)
  | (mk, mv) :: r, δ => match mk δ with
    | some (k, δ1) => match keyD k with
      | some kk => match mv δ1 with
        | some (d, δ2) => match mPairs r δ2 with
          | some (ps, δ3) => some ((kk, d) :: ps, δ3)
          | none => none
        | none => none
      | none => none
    | none => none
def trsOf (X : Cx) : List (Option Expr) → List Expr → List (TE × TE)
  | some k :: ks, v :: vs => (wE X k, wE X v) :: trsOf X ks vs
  | _, _ => []
def IPs (X : Cx) (pos : Pos) (keys : List (Option Expr)) (values : List Expr) (ms : MPs) : Prop := PPs X pos keys values (trsOf X keys values) ∧
  ∀ {Z : Addr → Prop} {Hb H : Hp} {σ : L2.St} {δ : Env} {L : PL} {kds : List (Key × D)} {δ' : Env}, Sq X Z Hb H σ δ L → mPairs ms δ = some (kds, δ') →
    ∀ Q : List (V × V) → Hp → Prop, (∀ (kvs : List (Key × V)) H', kvs.map (·.1) = kds.map (·.1) → Sq X Z Hb H' σ δ' ((kvs.map (·.2)).zip (kds.map (·.2)) ++ L) → Q (kvs.map fun kv => (kV kv.1, kv.2)) H') → tPairs (trsOf X keys values) σ H Q
section
variable {X : Cx} {pos : Pos} {k v : Expr} {ks : List (Option Expr)} {vs : List Expr} {mk mv : ME} {ms : MPs}
theorem ips_nil : IPs X pos [] [] [] := by
  refine ⟨pps_nil, ?_⟩
  intro Z Hb H σ δ L kds δ' s e Q q
  cases e
  exact q [] H rfl s
theorem ips_cons (hk : IG X k mk) (hv : IG X v mv) (hr : IPs X pos ks vs ms) : IPs X pos (some k :: ks) (v :: vs) ((mk, mv) :: ms) := by
  refine ⟨pps_cons pe_w pe_w hr.1, ?_⟩
  intro Z Hb H σ δ L kds δ' s e Q q
  simp only [mPairs] at e
  split at e
  · rename_i kd δ1 e1
    split at e
    · rename_i kk e2
      split at e
      · rename_i d δ2 e3
        split at e
        · rename_i ps δ3 e4
          cases e
          refine hk s e1 _ fun x H1 s1 => hv s1.drop e3 _ fun y H2 s2 => hr.2 s2 e4 _ fun kvs H3 hkk s3 => ?_
          have hx : x = kV kk := Sp.key s1.sp e2
          subst hx
          refine q ((kk, y) :: kvs) H3 (by simp [hkk]) (s3.perm ?_)
          exact List.perm_middle
        · cases e
      · cases e
    · cases e
  · cases e
end
theorem mergeK_new : ∀ {more kvs : List (Key × V)}, (∀ p ∈ more, valV kvs p.1 = none) → (more.map (·.1)).Nodup → mergeK kvs more = kvs ++ more
  | [], kvs, _, _ => by simp [mergeK]
  | p :: r, kvs, h, nd => by
    have h0 := h p List.mem_cons_self
    have nd' := List.nodup_cons.mp nd
    show mergeK (putK kvs p.1 p.2) r = _
    rw [putK_new p.2 h0, mergeK_new (fun q hq => ?_) nd'.2, List.append_assoc]
    · rfl
    · rw [valV_snoc _ _ _ _ h0, if_neg fun e => nd'.1 (by show p.1 ∈ _; rw [← e]; exact List.mem_map_of_mem hq)]
      exact h q (List.mem_cons_of_mem _ hq)
def mDisp (ms : MPs) : ME := fun δ => match mPairs ms δ with
  | some (kds, δ1) => if (kds.map (·.1)).Nodup ∧ kds.length ≤ 15 then some (.dct true (kds.map (·.1)) (kds.map (·.2)), δ1) else none
  | none => none
section
variable {X : Cx} {pos : Pos} {keys : List (Option Expr)} {values : List Expr} {ms : MPs}
theorem ig_dnew : IG X (.Dict [] [] pos) (mC (.dct true [] [])) := by
  intro Z Hb H σ δ L d δ' s e Q q
  cases e
  refine wE_of pe_dnewK fun p hp => q _ _ ⟨?_, s.dom⟩
  exact Sp.newK (kvs := []) (ds := []) s.sp rfl ⟨rfl, List.nodup_nil⟩ hp
theorem ig_disp (h : IPs X pos keys values ms) (hall : keys.all (·.isSome) = true) (hl : keys.length = values.length) (h0 : keys ≠ []) (h15 : keys.length ≤ 15) : IG X (.Dict keys values pos) (mDisp ms) := by
  intro Z Hb H σ δ L d δ' s e Q q
  unfold mDisp at e
  split at e
  · rename_i kds δ1 e1
    split at e
    · rename_i hn
      cases e
      refine wE_of (pe_disp h.1 hall hl h0 h15) fun p hp => ?_
      have s1 : Sq X Z Hb (upd H p (.dK [])) σ δ ((.ref p, .dct true [] []) :: L) := ⟨Sp.newK (kvs := []) (ds := []) s.sp rfl ⟨rfl, List.nodup_nil⟩ hp, s.dom⟩
      refine h.2 s1 e1 _ fun kvs H2 hk s2 => ?_
      have hlen : kvs.length = kds.length := by have := congrArg List.length hk; simpa using this
      have s3 : Sp X.K X.mg Z Hb H2 ((.ref p, .dct true [] []) :: ((kvs.map (·.2)).zip (kds.map (·.2)) ++ (L ++ prs σ δ'))) := s2.sp.perm (by
        rw [List.append_assoc]
        exact List.perm_middle)
      obtain ⟨kvs0, ha, hk0, hl0, back⟩ := s3.mutK
      have : kvs0 = [] := List.eq_nil_of_length_eq_zero hl0
      subst this
      refine ⟨ha, kvs, rfl, by omega, ?_⟩
      have nd : (kvs.map (·.1)).Nodup := by rw [hk]; exact hn.1
      rw [mergeK_new (fun _ _ => rfl) nd, List.nil_append]
      refine q _ _ ⟨?_, s2.dom⟩
      rw [← hk]
      exact back kvs (kds.map (·.2)) _ (by simp [hlen]) nd (List.Perm.refl _)
    · cases e
  · cases e
end
end DL
set_option Elab.async false
set_option linter.all false
set_option maxRecDepth 100000
set_option maxHeartbeats 4000001
namespace DL
open PySem.Spec PySem L2 PyProof.Rows
inductive Stp where
  | sub (k : Key)
  | fld (cs : List Str) (n : Str)
def posOf {α : Type} [DecidableEq α] : List α → α → Option Nat
  | [], _ => none
  | x :: r, y => if x = y then some 0 else (posOf r y).map (· + 1)
def kids : D → List D
  | .lst _ ds => ds
  | .tup ds => ds
  | .dct _ _ ds => ds
  | .obj _ _ _ ds => ds
  | _ => []
def setKids : D → List D → D
  | .lst o _, ds => .lst o ds
  | .tup _, ds => .tup ds
  | .dct o ks _, ds => .dct o ks ds
  | .obj o c ns _, ds => .obj o c ns ds
  | d, _ => d
def ownC : D → Bool
  | .lst o _ => o
  | .dct o _ _ => o
  | .obj o _ _ _ => o
  | _ => false
def chN : D → Stp → Option Nat
  | .dct _ ks _, .sub k => posOf ks k
  | .obj _ c ns _, .fld cs n => if cs.contains c then posOf ns n else none
  | .lst _ ds, .sub (.inl i) => ixN ds.length i
  | .tup ds, .sub (.inl i) => ixN ds.length i
  | _, _ => none
/-- one step, by values -/
def Rc1 (K : PySem.W.Frag) (mg : Str → Option Value) (H : Hp) (v : V) (s : Stp) (u : V) : Prop := match s with
  | .sub k => (∃ a kvs, v = .ref a ∧ Rd H a (.dK kvs) ∧ valV kvs k = some u) ∨ ∃ a vs i, k = .inl i ∧ v = .ref a ∧ (SqL K H a vs ∨ SqT K H a vs) ∧ atI vs i = some u
  | .fld cs n => ∃ a C dx fs c, v = .ref a ∧ H a = some (.ins C dx fs) ∧ c ∈ cs ∧ mg c = some (.ref C) ∧ fs.lookup n = some u
/-- one step through what is one's own -/
def Ro1 (K : PySem.W.Frag) (mg : Str → Option Value) (H : Hp) (v : V) (s : Stp) (u : V) : Prop := match s with
  | .sub k => (∃ a kvs, v = .ref a ∧ H a = some (.dK kvs) ∧ valV kvs k = some u) ∨ ∃ a vs i, k = .inl i ∧ v = .ref a ∧ H a = some (.lst vs) ∧ atI vs i = some u
  | .fld cs n => ∃ a C dx fs c, v = .ref a ∧ H a = some (.ins C dx fs) ∧ c ∈ cs ∧ mg c = some (.ref C) ∧ fs.lookup n = some u
def Ro (K : PySem.W.Frag) (mg : Str → Option Value) (H : Hp) : V → List Stp → V → Prop
  | v, [], w => v = w
  | v, s :: p, w => ∃ u, Ro1 K mg H v s u ∧ Ro K mg H u p w
def Rc (K : PySem.W.Frag) (mg : Str → Option Value) (H : Hp) : V → List Stp → V → Prop
  | v, [], w => v = w
  | v, s :: p, w => ∃ u, Rc1 K mg H v s u ∧ Rc K mg H u p w
theorem posOf_lt {α : Type} [DecidableEq α] : ∀ {l : List α} {x : α} {j : Nat}, posOf l x = some j → j < l.length
  | [], _, _, h => by simp [posOf] at h
  | a :: r, x, j, h => by
    simp only [posOf] at h
    split at h
    · cases h; simp
    · obtain ⟨k, e, rfl⟩ := Option.map_eq_some_iff.mp h
      have := posOf_lt e
      simp; omega
theorem posOf_val : ∀ {kvs : List (Key × V)} {k : Key} {j : Nat} {u : V}, posOf (kvs.map (·.1)) k = some j → (kvs.map (·.2))[j]? = some u → valV kvs k = some u
  | [], _, _, _, h, _ => by simp [posOf] at h
  | p :: r, k, j, u, h, hu => by
    simp only [List.map_cons, posOf] at h
    split at h
    · rename_i e
      cases h
      have e' : p.1 = k := e
      rw [valV_pos e']
      simpa using hu
    · rename_i e
      obtain ⟨i, e1, rfl⟩ := Option.map_eq_some_iff.mp h
      have e' : ¬ p.1 = k := e
      rw [valV_neg e']
      exact posOf_val e1 (by simpa using hu)
theorem posOf_look : ∀ {fs : List (Str × V)} {k : Str} {j : Nat} {u : V}, posOf (fs.map (·.1)) k = some j → (fs.map (·.2))[j]? = some u → fs.lookup k = some u
  | [], _, _, _, h, _ => by simp [posOf] at h
  | p :: r, k, j, u, h, hu => by
    obtain ⟨a, b⟩ := p
    simp only [List.map_cons, posOf] at h
    split at h
    · rename_i e
      cases h
      have e' : a = k := e
      subst e'
      rw [List.lookup_cons_self]
      simpa using hu
    · rename_i e
      obtain ⟨i, e1, rfl⟩ := Option.map_eq_some_iff.mp h
      have e' : ¬ a = k := e
      rw [List.lookup_cons, show (k == a) = false from by simpa using fun h => e' h.symm]
      exact posOf_look e1 (by simpa using hu)
section
variable {K : PySem.W.Frag} {mg : Str → Option Value} {H H' Hb : Hp} {Z : Addr → Prop} {P Q Q' : PL} {v w u : V} {d t : D} {F : List Addr} {s : Stp} {j : Nat} {p q : List Stp}
theorem Rd.grow {a : Addr} {u : HO} (h : Rd H a u) (k : ∀ a o, H a = some o → H' a = some o) : Rd H' a u := Rd.keep h fun o e => k a o e
theorem SqL.grow {a : Addr} {vs : List V} (h : SqL K H a vs) (k : ∀ a o, H a = some o → H' a = some o) : SqL K H' a vs := by
  rcases h with h | h
  · exact .inl (Rd.grow h k)
  · exact .inr h
theorem Rc1.grow (h : Rc1 K mg H v s u) (k : ∀ a o, H a = some o → H' a = some o) : Rc1 K mg H' v s u := by
  cases s with
  | sub x =>
    rcases h with ⟨a, kvs, e, h, l⟩ | ⟨a, vs, i, ek, e, h, l⟩
    · exact .inl ⟨a, kvs, e, Rd.grow h k, l⟩
    · exact .inr ⟨a, vs, i, ek, e, h.imp (fun h => SqL.grow h k) (fun h => SqT.keep h fun a o e _ => k a o e), l⟩
  | fld cs n => obtain ⟨a, C, dx, fs, c, e, h, r⟩ := h; exact ⟨a, C, dx, fs, c, e, k _ _ h, r⟩
theorem Rc.grow : ∀ {p : List Stp} {v w : V}, Rc K mg H v p w → (∀ a o, H a = some o → H' a = some o) → Rc K mg H' v p w
  | [], _, _, h, _ => h
  | s :: p, v, w, ⟨u, h1, h2⟩, k => ⟨u, h1.grow k, Rc.grow h2 k⟩
theorem Rc.unsnoc : ∀ {p : List Stp} {v w : V}, Rc K mg H v (p ++ [s]) w → ∃ u, Rc K mg H v p u ∧ Rc1 K mg H u s w
  | [], v, w, ⟨x, h1, h2⟩ => ⟨v, rfl, by have h2 : x = w := h2; subst h2; exact h1⟩
  | _ :: p, v, w, ⟨x, h1, h2⟩ => by
    obtain ⟨u, h3, h4⟩ := Rc.unsnoc h2
    exact ⟨u, ⟨x, h1, h3⟩, h4⟩
theorem Ro1.rc (h : Ro1 K mg H v s u) : Rc1 K mg H v s u := by
  cases s with
  | sub x =>
    rcases h with ⟨a, kvs, e, h, l⟩ | ⟨a, vs, i, ek, e, h, l⟩
    · exact .inl ⟨a, kvs, e, .inl h, l⟩
    · exact .inr ⟨a, vs, i, ek, e, .inl (.inl (.inl h)), l⟩
  | fld cs n => exact h
theorem Ro.rc : ∀ {p : List Stp} {v w : V}, Ro K mg H v p w → Rc K mg H v p w
  | [], _, _, h => h
  | s :: p, v, w, ⟨u, h1, h2⟩ => ⟨u, h1.rc, h2.rc⟩
theorem Ro1.det (h : Ro1 K mg H v s u) (h' : Ro1 K mg H' v s w) (k : ∀ a o, H a = some o → H' a = some o) : u = w := by
  cases s with
  | sub x =>
    rcases h with ⟨a, kvs, e, h, l⟩ | ⟨a, vs, i, ek, e, h, l⟩ <;> rcases h' with ⟨a', kvs', e', h', l'⟩ | ⟨a', vs', i', ek', e', h', l'⟩ <;> subst e <;> cases e' <;> have z := (k _ _ h).symm.trans h' <;> cases z
    · rw [l] at l'; cases l'; rfl
    · subst ek; cases ek'; rw [l] at l'; cases l'; rfl
  | fld cs n =>
    obtain ⟨a, C, dx, fs, c, e, h, _, _, l⟩ := h
    obtain ⟨a', C', dx', fs', c', e', h', _, _, l'⟩ := h'
    subst e
    cases e'
    have z := (k _ _ h).symm.trans h'
    cases z
    rw [l] at l'; cases l'; rfl
theorem Ro.det : ∀ {p : List Stp} {v w w' : V}, Ro K mg H v p w → Ro K mg H' v p w' → (∀ a o, H a = some o → H' a = some o) → w = w'
  | [], _, _, _, h, h', _ => by
    have h1 : _ = _ := h
    have h2 : _ = _ := h'
    exact h1.symm.trans h2
  | s :: p, v, w, w', ⟨u, h1, h2⟩, ⟨u', h1', h2'⟩, k => by
    have := h1.det h1' k
    subst this
    exact h2.det h2' k
theorem Sp.conv (s : Sp K mg Z Hb H (Q ++ P)) (h : ∀ Y F, Rps K mg H Y Q F → Rps K mg H Y Q' F) : Sp K mg Z Hb H (Q' ++ P) := by
  obtain ⟨⟨F, r, nd, hb⟩, b, fr⟩ := s
  obtain ⟨F1, F2, rfl, r1, r2⟩ := r.split
  exact ⟨⟨F1 ++ F2, (h _ _ r1).append r2, nd, hb⟩, b, fr⟩
/-- an own thing opened -/
theorem Sp.open1 (s : Sp K mg Z Hb H ((v, d) :: P)) (h : ownC d = true) : ∃ (hd : D) (vs : List V), vs.length = (kids d).length ∧ Sp K mg Z Hb H ((v, hd) :: (vs.zip (kids d) ++ P)) ∧
    (∀ j st u, chN d st = some j → vs[j]? = some u → Ro1 K mg H v st u) ∧
    ∀ Z' Hb' H' P' ds', ds'.length = vs.length → Sp K mg Z' Hb' H' ((v, hd) :: (vs.zip ds' ++ P')) → Sp K mg Z' Hb' H' ((v, setKids d ds') :: P') := by
  obtain ⟨Y0, F0, r0⟩ := s.head
  cases d with
  | lst o ds =>
    cases h
    cases r0 with
    | @lstO a vs _ _ ha ts =>
      refine ⟨.raw true (.lst vs), vs, ts.len, ?_, ?_, ?_⟩
      · refine Sp.conv (Q := [(.ref a, .lst true ds)]) (Q' := (.ref a, .raw true (.lst vs)) :: vs.zip ds) s fun Y F r => ?_
        cases r with
        | cons q t => cases t; cases q with
          | lstO ha' t' =>
            have := ha.symm.trans ha'
            cases this
            simpa using Rps.cons (.rawO ha rfl) t'.zip
      · intro j st u hj hu
        cases st with
        | sub k => cases k with
          | inl i => exact .inr ⟨a, vs, i, rfl, rfl, ha, by
              have hj : ixN ds.length i = some j := hj
              unfold atI; rw [ts.len, hj]; exact hu⟩
          | inr x => cases hj
        | _ => cases hj
      · intro Z' Hb' H' P' ds' hl s'
        refine Sp.conv (Q := (.ref a, .raw true (.lst vs)) :: vs.zip ds') (Q' := [(.ref a, .lst true ds')]) s' fun Y F r => ?_
        cases r with
        | cons q t => cases q with
          | rawO h' _ =>
            have := Rps.cons (.lstO h' (t.unzip hl.symm)) (Rps.nil (K := K) (mg := mg) (H := H') (Z := Y))
            simpa using this
  | dct o ks ds =>
    cases h
    cases r0 with
    | @dctO a kvs _ _ _ ha hk ts =>
      obtain ⟨hk, hnd⟩ := hk
      subst hk
      refine ⟨.raw true (.dK kvs), kvs.map (·.2), ts.len, ?_, ?_, ?_⟩
      · refine Sp.conv (Q := [(.ref a, .dct true _ ds)]) (Q' := (.ref a, .raw true (.dK kvs)) :: (kvs.map (·.2)).zip ds) s fun Y F r => ?_
        cases r with
        | cons q t => cases t; cases q with
          | dctO ha' _ t' =>
            have := ha.symm.trans ha'
            cases this
            simpa using Rps.cons (.rawO ha rfl) t'.zip
      · intro j st u hj hu
        cases st with
        | sub k => exact .inl ⟨a, kvs, rfl, ha, posOf_val hj hu⟩
        | _ => cases hj
      · intro Z' Hb' H' P' ds' hl s'
        refine Sp.conv (Q := (.ref a, .raw true (.dK kvs)) :: (kvs.map (·.2)).zip ds') (Q' := [(.ref a, .dct true (kvs.map (·.1)) ds')]) s' fun Y F r => ?_
        cases r with
        | cons q t => cases q with
          | rawO h' _ =>
            have := Rps.cons (.dctO h' ⟨rfl, hnd⟩ (t.unzip hl.symm)) (Rps.nil (K := K) (mg := mg) (H := H') (Z := Y))
            simpa using this
  | obj o c ns ds =>
    cases h
    cases r0 with
    | @objO a C dx fs _ _ _ _ ha hc hk ts =>
      subst hk
      refine ⟨.raw true (.ins C dx fs), fs.map (·.2), ts.len, ?_, ?_, ?_⟩
      · refine Sp.conv (Q := [(.ref a, .obj true c _ ds)]) (Q' := (.ref a, .raw true (.ins C dx fs)) :: (fs.map (·.2)).zip ds) s fun Y F r => ?_
        cases r with
        | cons q t => cases t; cases q with
          | objO ha' _ _ t' =>
            have := ha.symm.trans ha'
            cases this
            simpa using Rps.cons (.rawO ha rfl) t'.zip
      · intro j st u hj hu
        cases st with
        | fld cs n =>
          simp only [chN] at hj
          split at hj
          · rename_i hcs
            exact ⟨a, C, dx, fs, c, rfl, ha, by simpa using hcs, hc, posOf_look hj hu⟩
          · cases hj
        | _ => cases hj
      · intro Z' Hb' H' P' ds' hl s'
        refine Sp.conv (Q := (.ref a, .raw true (.ins C dx fs)) :: (fs.map (·.2)).zip ds') (Q' := [(.ref a, .obj true c (fs.map (·.1)) ds')]) s' fun Y F r => ?_
        cases r with
        | cons q t => cases q with
          | rawO h' _ =>
            have := Rps.cons (.objO h' hc rfl (t.unzip hl.symm)) (Rps.nil (K := K) (mg := mg) (H := H') (Z := Y))
            simpa using this
  | _ => cases h
theorem set_zip {vs : List V} {ds : List D} {j : Nat} {x : V} {e : D} (hl : vs.length = ds.length) (hj : vs[j]? = some x) : (vs.zip (ds.set j e)).Perm ((x, e) :: (vs.eraseIdx j).zip (ds.eraseIdx j)) := by
  induction vs generalizing ds j with
  | nil => simp at hj
  | cons v vs ih => cases ds with
    | nil => simp at hl
    | cons d ds => cases j with
      | zero =>
        have : v = x := by simpa using hj
        subst this
        simp
      | succ j =>
        have := ih (ds := ds) (j := j) (by simpa using hl) (by simpa using hj)
        simp only [List.set_cons_succ, List.zip_cons_cons, List.eraseIdx_cons_succ]
        exact (this.cons _).trans (.swap _ _ _)
/-- the part at a step -/
theorem Sp.child (s : Sp K mg Z Hb H ((v, d) :: P)) (h : ownC d = true) {st : Stp} (hj : chN d st = some j) {e : D} (he : (kids d)[j]? = some e) : ∃ u Z' Hc, Ro1 K mg H v st u ∧ Sp K mg Z' Hc H ((u, e) :: P) ∧
    ∀ H' e' P', Sp K mg Z' Hc H' ((u, e') :: P') → Sp K mg Z Hb H' ((v, setKids d ((kids d).set j e')) :: P') := by
  obtain ⟨hd, vs, hl, s1, rc, back⟩ := s.open1 h
  have hj' : j < vs.length := by rw [hl]; exact (List.getElem?_eq_some_iff.mp he).1
  obtain ⟨u, hu⟩ : ∃ u, vs[j]? = some u := ⟨vs[j], by simp [hj']⟩
  have hset : (kids d).set j e = kids d := by
    apply List.ext_getElem?
    intro n
    rw [List.getElem?_set]
    by_cases q : j = n
    · subst q; rw [if_pos rfl, if_pos (by rw [← hl]; exact hj'), he]
    · rw [if_neg q]
  have pm := set_zip (ds := kids d) (e := e) hl hu
  rw [hset] at pm
  have s2 : Sp K mg Z Hb H (((u, e) :: P) ++ ((v, hd) :: (vs.eraseIdx j).zip ((kids d).eraseIdx j))) := s1.perm (by
    have p1 := (pm.append_right P).cons (v, hd)
    refine p1.trans ?_
    refine List.Perm.trans (List.Perm.swap _ _ _) ?_
    refine List.Perm.cons _ ?_
    exact (List.perm_append_comm (l₁ := (v, hd) :: (vs.eraseIdx j).zip ((kids d).eraseIdx j)) (l₂ := P)))
  obtain ⟨Z', Hc, s3, lb⟩ := s2.lend
  refine ⟨u, Z', Hc, rc _ _ _ hj hu, s3, fun H' e' P' s' => ?_⟩
  have s4 := lb H' _ s'
  have pm' := set_zip (ds := kids d) (e := e') hl hu
  refine back Z Hb H' P' ((kids d).set j e') (by simp [hl]) (s4.perm ?_)
  have p1 := (pm'.append_right P').cons (v, hd)
  refine List.Perm.trans ?_ p1.symm
  refine List.Perm.trans ?_ (List.Perm.swap _ _ _)
  refine List.Perm.cons _ ?_
  exact (List.perm_append_comm (l₁ := P') (l₂ := (v, hd) :: (vs.eraseIdx j).zip ((kids d).eraseIdx j)))
end
def atO : D → List Stp → Option D
  | d, [] => some d
  | d, s :: p => if ownC d then match chN d s with
      | some j => match (kids d)[j]? with
        | some e => atO e p
        | none => none
      | none => none
    else none
def putO : D → List Stp → D → D
  | _, [], t => t
  | d, s :: p, t => match chN d s with
    | some j => match (kids d)[j]? with
      | some e => setKids d ((kids d).set j (putO e p t))
      | none => d
    | none => d
section
variable {K : PySem.W.Frag} {mg : Str → Option Value} {H H' Hb : Hp} {Z : Addr → Prop} {P : PL} {v w u : V}
/-- the own part at a path -/
theorem Sp.focus : ∀ {p : List Stp} {Z : Addr → Prop} {Hb : Hp} {v : V} {d t : D}, Sp K mg Z Hb H ((v, d) :: P) → atO d p = some t → ∃ w Z' Hc, Ro K mg H v p w ∧ Sp K mg Z' Hc H ((w, t) :: P) ∧
    ∀ H' t' P', Sp K mg Z' Hc H' ((w, t') :: P') → Sp K mg Z Hb H' ((v, putO d p t') :: P')
  | [], Z, Hb, v, d, t, s, h => by
    cases h
    exact ⟨v, Z, Hb, rfl, s, fun H' t' P' s' => s'⟩
  | st :: p, Z, Hb, v, d, t, s, h => by
    simp only [atO] at h
    split at h
    · rename_i ho
      split at h
      · rename_i j hj
        split at h
        · rename_i e he
          obtain ⟨u, Z1, H1, r1, s1, b1⟩ := s.child ho hj he
          obtain ⟨w, Z2, H2, r2, s2, b2⟩ := Sp.focus s1 h
          refine ⟨w, Z2, H2, ⟨u, r1, r2⟩, s2, fun H' t' P' s' => ?_⟩
          have := b1 H' _ P' (b2 H' t' P' s')
          simp only [putO, hj, he]
          exact this
        · cases h
      · cases h
    · cases h
/-- reading at a path: what comes is frozen -/
def walk : D → List Stp → Option (D × D)
  | d, [] => if isFz d then some (d, d) else some (fz d, fz d)
  | d, s :: p => match chN d s with
    | some j => match (kids d)[j]? with
      | some e => if ownC d then match walk e p with
          | some (t, e') => some (t, setKids d ((kids d).set j e'))
          | none => none
        else if isFz d then match walk e p with
          | some (t, _) => some (t, d)
          | none => none
        else none
      | none => none
    | none => none
theorem Rep.child {d e : D} {Y : Addr → Prop} (r : Rep K mg H Y v d []) {st : Stp} {j : Nat} (hj : chN d st = some j) (he : (kids d)[j]? = some e) : ∃ u, Rc1 K mg H v st u ∧ Rep K mg H Y u e [] := by
  cases d with
  | lst o ds =>
    cases st with
    | sub k => cases k with
      | inr x => cases hj
      | inl i =>
      have hj : ixN ds.length i = some j := hj
      cases r with
      | @lstF a vs _ ha _ ts =>
        obtain ⟨u, hu, ru⟩ := ts.get he
        exact ⟨u, .inr ⟨a, vs, i, rfl, rfl, .inl (.inl (.inl ha)), by unfold atI; rw [ts.len]; show (ixN ds.length i).bind _ = _; rw [show ixN ds.length i = some j from hj]; exact hu⟩, ru⟩
    | _ => cases hj
  | tup ds =>
    cases st with
    | sub k => cases k with
      | inr x => cases hj
      | inl i =>
      have hj : ixN ds.length i = some j := hj
      generalize e0 : ([] : List Addr) = G at r
      cases r with
      | @tup a vs _ _ ha ts =>
        subst e0
        obtain ⟨u, hu, ru⟩ := ts.get he
        exact ⟨u, .inr ⟨a, vs, i, rfl, rfl, .inr ha, by unfold atI; rw [ts.len]; show (ixN ds.length i).bind _ = _; rw [show ixN ds.length i = some j from hj]; exact hu⟩, ru⟩
    | _ => cases hj
  | dct o ks ds =>
    cases st with
    | sub k =>
      cases r with
      | @dctF a kvs _ _ ha _ hk ts =>
        obtain ⟨hk, _⟩ := hk
        subst hk
        obtain ⟨u, hu, ru⟩ := ts.get he
        exact ⟨u, .inl ⟨a, kvs, rfl, ha, posOf_val hj hu⟩, ru⟩
    | _ => cases hj
  | obj o c ns ds =>
    cases st with
    | fld cs n =>
      simp only [chN] at hj
      split at hj
      · rename_i hcs
        cases r with
        | @objF a C dx fs _ _ _ ha _ hc hk ts =>
          subst hk
          obtain ⟨u, hu, ru⟩ := ts.get he
          exact ⟨u, ⟨a, C, dx, fs, c, rfl, ha, by simpa using hcs, hc, posOf_look hj hu⟩, ru⟩
      · cases hj
    | _ => cases hj
  | _ => cases st <;> cases hj
theorem isFz_kids {d : D} (h : isFz d = true) : isFzs (kids d) = true := by
  cases d <;> simp_all [isFz, kids, isFzs]
theorem Rep.walk : ∀ {p : List Stp} {v : V} {d t d' : D} {Y : Addr → Prop}, Rep K mg H Y v d [] → isFz d = true → DL.walk d p = some (t, d') → d' = d ∧ isFz t = true ∧ ∃ w, Rc K mg H v p w ∧ Rep K mg H Y w t []
  | [], v, d, t, d', Y, r, hf, h => by
    simp only [DL.walk, hf, if_true] at h
    cases h
    exact ⟨rfl, hf, v, rfl, r⟩
  | st :: p, v, d, t, d', Y, r, hf, h => by
    simp only [DL.walk] at h
    split at h
    · rename_i j hj
      split at h
      · rename_i e he
        have ho : ownC d = false := by cases d <;> simp_all [isFz, ownC]
        rw [ho, hf] at h
        simp only [Bool.false_eq_true, if_false, if_true] at h
        split at h
        · rename_i t0 e' hw
          cases h
          obtain ⟨u, r1, ru⟩ := r.child hj he
          obtain ⟨_, ht, w, r2, rw'⟩ := ru.walk (isFzs_get (isFz_kids hf) he) hw
          exact ⟨rfl, ht, w, ⟨u, r1, r2⟩, rw'⟩
        · cases h
      · cases h
    · cases h
theorem Sp.walk : ∀ {p : List Stp} {Z : Addr → Prop} {Hb : Hp} {v : V} {d t d' : D}, Sp K mg Z Hb H ((v, d) :: P) → DL.walk d p = some (t, d') → ∃ w, Rc K mg H v p w ∧ Sp K mg Z Hb H ((w, t) :: (v, d') :: P)
  | [], Z, Hb, v, d, t, d', s, h => by
    simp only [DL.walk] at h
    split at h
    · rename_i hf
      cases h
      exact ⟨v, rfl, s.dup hf⟩
    · cases h
      exact ⟨v, rfl, s.freeze.dup (isFz_fz d)⟩
  | st :: p, Z, Hb, v, d, t, d', s, h => by
    have h0 := h
    simp only [DL.walk] at h
    split at h
    · rename_i j hj
      split at h
      · rename_i e he
        split at h
        · rename_i ho
          split at h
          · rename_i t0 e' hw
            cases h
            obtain ⟨u, Z1, H1, r1, s1, b1⟩ := s.child ho hj he
            obtain ⟨w, r2, s2⟩ := Sp.walk s1 hw
            exact ⟨w, ⟨u, r1.rc, r2⟩, (b1 H _ _ (s2.perm (.swap _ _ _))).perm (.swap _ _ _)⟩
          · cases h
        · split at h
          · rename_i hf
            -- all of it is frozen
            obtain ⟨⟨F, r, nd, hb⟩, b, fr⟩ := s
            cases r with
            | cons q tl =>
              have e0 := q.own_nil hf
              subst e0
              obtain ⟨e1, ht, w, rc, rw'⟩ := q.walk hf h0
              subst e1
              exact ⟨w, rc, ⟨_, .cons (F := []) rw' (.cons (F := []) q tl), nd, hb⟩, b, fr⟩
          · cases h
      · cases h
    · cases h
end
end DL
set_option Elab.async false
set_option linter.all false
set_option maxRecDepth 100000
set_option maxHeartbeats 4000001
namespace DL
open PySem.Spec PySem L2 PyProof.Rows
abbrev Grows (H H' : Hp) : Prop := ∀ a o, H a = some o → H' a = some o
section
variable {X : Cx} {Z : Addr → Prop} {Hb H H' : Hp} {σ : L2.St} {δ : Env} {L : PL} {v : V} {d : D} {i : Nat}
theorem Sq.out (s : Sq X Z Hb H σ δ L) (hv : σ[i]? = some (some v)) (hd : δ[i]? = some (some d)) : Sp X.K X.mg Z Hb H ((v, d) :: (L ++ prs σ (δ.set i none))) :=
  s.sp.perm (((prs_get hv hd).append_left L).trans List.perm_middle)
theorem Sq.back {d' : D} (dm : Dom σ δ) (hv : σ[i]? = some (some v)) (hd : δ[i]? = some (some d)) {L' : PL} (s : Sp X.K X.mg Z Hb H ((v, d') :: (L' ++ prs σ (δ.set i none)))) : Sq X Z Hb H σ (δ.set i (some d')) L' :=
  ⟨s.perm (((prs_back hv hd).append_left L').trans List.perm_middle).symm, dm.setD hd _⟩
/-- reckoned without effect; the heap grows only -/
theorem pure_run {e : Expr} (m : List Bool) {f : ME} (h : IG X e f) {d : D} {δ0 : Env} (s : Sq X Z Hb H σ δ L) (hf : f (fzE (keepM m δ)) = some (d, δ0)) (hn : noal d = true) (Q : VK) (q : ∀ v H', Grows H H' → Sq X Z Hb H' σ δ ((v, d) :: L) → Q v H') : wE X e σ H Q := by
  have s1 : Sp X.K X.mg Z Hb H (prs σ (keepM m δ) ++ (prs σ (restM m δ) ++ L)) := s.sp.perm (((prs_split m σ δ).append_left L).trans (by
    rw [← List.append_assoc (prs σ (keepM m δ))]
    exact List.perm_append_comm))
  obtain ⟨Z', sp, back⟩ := s1.pure
  have sq : Sq X Z' H H σ (fzE (keepM m δ)) [] := ⟨by rw [prs_fzE]; exact sp, s.dom.keepM m⟩
  refine h sq hf Q fun v H' s' => q v H' s'.sp.base ?_
  obtain ⟨b1, b2⟩ := back H' v d _ s'.sp
  refine ⟨(b1 hn).perm ((?_ : List.Perm _ _).cons _), s.dom⟩
  refine List.Perm.trans ?_ ((prs_split m σ δ).symm.append_left L)
  rw [← List.append_assoc]
  exact List.perm_append_comm
end
abbrev MK := Env → Option D
def IK (X : Cx) (e : Expr) (m : MK) : Prop := ∀ {Z : Addr → Prop} {Hb H : Hp} {σ : L2.St} {δ : Env} {L : PL} {d : D}, Sq X Z Hb H σ δ L → m δ = some d →
  ∀ Q : VK, (∀ v H', Grows H H' → Sq X Z Hb H' σ δ ((v, d) :: L) → Q v H') → wE X e σ H Q
def kPur (m : List Bool) (f : ME) : MK := fun δ => match f (fzE (keepM m δ)) with
  | some (d, _) => if noal d then some d else none
  | none => none
theorem ik_pur {X : Cx} {e : Expr} (m : List Bool) {f : ME} (h : IG X e f) : IK X e (kPur m f) := by
  intro Z Hb H σ δ L d s e' Q q
  unfold kPur at e'
  split at e'
  · rename_i d0 δ0 hf
    split at e'
    · rename_i hn
      cases e'
      exact pure_run m h s hf hn Q q
    · cases e'
  · cases e'
/-- a list of arguments, reckoned without effect -/
abbrev MKs := Env → Option (List D)
def IKs (X : Cx) (es : List Expr) (m : MKs) : Prop := ∀ {Z : Addr → Prop} {Hb H : Hp} {σ : L2.St} {δ : Env} {L : PL} {ds : List D}, Sq X Z Hb H σ δ L → m δ = some ds →
  ∀ Q : List V → Hp → Prop, (∀ vs H', vs.length = ds.length → Grows H H' → Sq X Z Hb H' σ δ (vs.zip ds ++ L) → Q vs H') → wA X es σ H Q
def ksNil : MKs := fun _ => some []
def ksCons (a : MK) (r : MKs) : MKs := fun δ => match a δ with
  | some d => match r δ with
    | some ds => some (d :: ds)
    | none => none
  | none => none
section
variable {X : Cx} {e : Expr} {es : List Expr} {m : MK} {r : MKs}
theorem iks_nil : IKs X [] ksNil := by
  intro Z Hb H σ δ L ds s e Q q
  cases e
  exact wA_of pa_nil (q [] H rfl (fun _ _ h => h) s)
theorem iks_cons (h : IK X e m) (t : IKs X es r) (hs : starEach (e :: es) X.env = (false, eval e X.env) :: starEach es X.env) : IKs X (e :: es) (ksCons m r) := by
  intro Z Hb H σ δ L ds s e' Q q
  unfold ksCons at e'
  split at e'
  · rename_i d e1
    split at e'
    · rename_i ds' e2
      cases e'
      refine wA_of (pa_cons pe_w pa_w hs) (h s e1 _ fun v H1 g1 s1 => t s1 e2 _ fun vs H2 hl g2 s2 => q (v :: vs) H2 (by simp [hl]) (fun a o x => g2 a o (g1 a o x)) (s2.perm ?_))
      exact List.perm_middle
    · cases e'
  · cases e'
end
abbrev MP := Env → Option (List Stp)
def IP (X : Cx) (e : Expr) (i : Nat) (m : MP) : Prop := ∀ {Z : Addr → Prop} {Hb H : Hp} {σ : L2.St} {δ : Env} {L : PL} {p : List Stp} {v w : V}, Sq X Z Hb H σ δ L → m δ = some p → σ[i]? = some (some v) → Rc X.K X.mg H v p w →
  ∀ Q : VK, (∀ H', Grows H H' → Q w H') → wE X e σ H Q
def pVar : MP := fun _ => some []
def pSub (a : MP) (b : MK) : MP := fun δ => match a δ with
  | some p => match b δ with
    | some d => match keyD d with
      | some k => some (p ++ [.sub k])
      | none => none
    | none => none
  | none => none
def pFld (a : MP) (cs : List Str) (n : Str) : MP := fun δ => match a δ with
  | some p => some (p ++ [.fld cs n])
  | none => none
section
variable {X : Cx} {e b : Expr} {i : Nat} {m : MP} {k : MK} {pos : Pos}
theorem ip_var {x : Str} (i : Nat) (hp : PE X (.Name x pos) (tVar i)) : IP X (.Name x pos) i pVar := by
  intro Z Hb H σ δ L p v w s e hv hr Q q
  cases e
  have hr : v = w := hr
  subst hr
  exact wE_of hp ⟨v, hv, q H fun _ _ h => h⟩
theorem sub_run (hu : X.A.units + 1 < cLine) {u w : V} {k : Key} {H : Hp} {Q : VK} (r : Rc1 X.K X.mg H u (.sub k) w) (q : Q w H) : wX X u (kV k) H Q := by
  rcases r with ⟨a, kvs, e, h, l⟩ | ⟨a, vs, i, ek, e, h, l⟩
  · exact ix_dictW hu e (by rw [← l]; exact dgetR h) q
  · subst ek
    rcases h with h | h
    · exact wX_of ix_list ⟨a, vs, i, w, e, rfl, h, l, q⟩
    · exact wX_of ix_tup ⟨a, vs, i, w, e, rfl, h, l, q⟩
theorem ip_sub (hu : X.A.units + 65 < cLine) (h : IP X e i m) (hk : IK X b k) (hs : PlainIx b) : IP X (.Subscript e b pos) i (pSub m k) := by
  intro Z Hb H σ δ L p v w s e' hv hr Q q
  unfold pSub at e'
  split at e'
  · rename_i p0 e1
    split at e'
    · rename_i d e2
      split at e'
      · rename_i kk e3
        cases e'
        obtain ⟨u, r1, r2⟩ := hr.unsnoc
        refine wE_of (pe_ix ixr_w pe_w pe_w hs) (h s e1 hv r1 _ fun H1 g1 => ?_)
        have s1 : Sq X Z Hb H1 σ δ L := ⟨s.sp.grow g1, s.dom⟩
        refine hk s1 e2 _ fun y H2 g2 s2 => ?_
        have hy : y = kV kk := Sp.key s2.sp e3
        subst hy
        exact sub_run (by omega) (r2.grow fun a o x => g2 a o (g1 a o x)) (q H2 fun a o x => g2 a o (g1 a o x))
      · cases e'
    · cases e'
  · cases e'
theorem ip_fld {f : Str} (cs : List Str) (h : IP X e i m) (hb : attributeBase e f X.env (eval e X.env) = eval e X.env) (hc : ∀ c ∈ cs, ∀ C, X.mg c = some (.ref C) → Cls X.K C ∧ NoAttr X.K C f) : IP X (.Attribute e f pos) i (pFld m cs f) := by
  intro Z Hb H σ δ L p v w s e' hv hr Q q
  unfold pFld at e'
  split at e'
  · rename_i p0 e1
    cases e'
    obtain ⟨u, r1, r2⟩ := hr.unsnoc
    refine wE_of (pe_fld pe_w hb) (h s e1 hv r1 _ fun H1 g1 => ?_)
    obtain ⟨a, C, dx, fs, c, e2, ha, hcs, hC, hl⟩ := r2.grow g1
    exact ⟨a, C, dx, fs, w, e2, ha, (hc c hcs C hC).1, (hc c hcs C hC).2, hl, q H1 g1⟩
  · cases e'
/-- what stands at a place -/
def mPath (i : Nat) (m : MP) : ME := fun δ => match δ[i]? with
  | some (some d) => match m δ with
    | some p => match walk d p with
      | some (t, d') => some (t, δ.set i (some d'))
      | none => none
    | none => none
  | _ => none
theorem ig_path (h : IP X e i m) : IG X e (mPath i m) := by
  intro Z Hb H σ δ L d δ' s e' Q q
  unfold mPath at e'
  split at e'
  · rename_i d0 hd
    split at e'
    · rename_i p e1
      split at e'
      · rename_i t d' e2
        cases e'
        obtain ⟨v, hv⟩ := s.dom.2 i d0 hd
        obtain ⟨w, rc, s1⟩ := (s.out hv hd).walk e2
        refine h s e1 hv rc Q fun H1 g1 => q w H1 ?_
        have s2 := (s1.grow g1).perm (.swap _ _ _)
        exact Sq.back (L' := (w, d) :: L) s.dom hv hd s2
      · cases e'
    · cases e'
  · cases e'
end
def wSet (X : Cx) : TSet := fun o i v H Q => ∀ pins s σ ov iv u, Inv X pins σ H s → RelV o ov → RelV i iv → RelV v u → wpAny (model X.prog X.w) X.A (setItem ov iv u) (fun _ s' => ∃ H', Inv X pins σ H' s' ∧ Q H') X.xe s
theorem pset_w {X : Cx} : PSet X (wSet X) := fun pins s σ H o i v ov iv u Q I r1 r2 r3 h => h pins s σ ov iv u I r1 r2 r3
theorem wSet_of {X : Cx} {t : TSet} (h : PSet X t) {o i v : V} {H : Hp} {Q : Hp → Prop} (q : t o i v H Q) : wSet X o i v H Q := fun pins s σ ov iv u I r1 r2 r3 => h pins s σ H o i v ov iv u Q I r1 r2 r3 q
def dSetIt : D → D → D → Option D
  | .lst true ds, .int i, x => (ixN ds.length i).map fun j => .lst true (ds.set j x)
  | .dct true ks ds, y, x => match keyD y with
    | some k => if ks.length < sizeLine then match posOf ks k with
      | some j => some (.dct true ks (ds.set j x))
      | none => some (.dct true (ks ++ [k]) (ds ++ [x])) else none
    | none => none
  | _, _, _ => none
theorem posOf_none {kvs : List (Key × V)} {k : Key} (h : posOf (kvs.map (·.1)) k = none) : valV kvs k = none := by
  induction kvs with
  | nil => rfl
  | cons p r ih =>
    simp only [List.map_cons, posOf] at h
    split at h
    · cases h
    · rename_i e
      rw [valV_neg e]
      exact ih (by simpa using h)
theorem repl_id {k : Key} {x : V} : ∀ {kvs : List (Key × V)}, k ∉ kvs.map (·.1) → kvs.map (fun kv => if kv.1 = k then (kv.1, x) else kv) = kvs
  | [], _ => rfl
  | p :: r, h => by
    have h1 : ¬ p.1 = k := fun e => h (by simp [e])
    rw [List.map_cons, if_neg h1, repl_id fun m => h (List.mem_cons_of_mem _ m)]
theorem posOf_key {α : Type} [DecidableEq α] : ∀ {l : List α} {x : α} {j : Nat}, posOf l x = some j → l[j]? = some x
  | [], _, _, h => by simp [posOf] at h
  | a :: r, x, j, h => by
    simp only [posOf] at h
    split at h
    · rename_i e
      cases h
      rw [e]; rfl
    · obtain ⟨k, e, rfl⟩ := Option.map_eq_some_iff.mp h
      simpa using posOf_key e
theorem putK_at {k : Key} {x : V} : ∀ {kvs : List (Key × V)} {j : Nat}, posOf (kvs.map (·.1)) k = some j → (kvs.map (·.1)).Nodup → kvs.map (fun kv => if kv.1 = k then (kv.1, x) else kv) = kvs.set j (k, x)
  | [], _, h, _ => by simp [posOf] at h
  | p :: r, j, h, nd => by
    simp only [List.map_cons, posOf] at h
    have nd' := List.nodup_cons.mp nd
    split at h
    · rename_i e
      cases h
      rw [List.map_cons, if_pos e, repl_id (by rw [← e]; exact nd'.1), e]
      rfl
    · rename_i e
      obtain ⟨i, e1, rfl⟩ := Option.map_eq_some_iff.mp h
      rw [List.map_cons, if_neg e, putK_at e1 nd'.2]
      rfl
theorem putK_pos {k : Key} {x : V} {kvs : List (Key × V)} {j : Nat} (h : posOf (kvs.map (·.1)) k = some j) (nd : (kvs.map (·.1)).Nodup) : putK kvs k x = kvs.set j (k, x) := by
  unfold putK
  have hv : (valV kvs k).isSome = true := by
    have hj := posOf_lt h
    rw [List.length_map] at hj
    rw [posOf_val (u := kvs[j].2) h (by simp [hj])]
    rfl
  rw [valV_any, if_pos hv]
  exact putK_at h nd
section
variable {X : Cx} {Z : Addr → Prop} {Hb H : Hp} {P : PL} {v w x y : V} {t dk dv t' : D}
theorem set_perm {vs : List V} {ds : List D} {j : Nat} (hl : vs.length = ds.length) (hj : j < vs.length) : (vs.zip ds ++ ((x, dv) :: P)).Perm ((vs.set j x).zip (ds.set j dv) ++ ((vs[j], ds[j]'(by omega)) :: P)) := by
  have hu : vs[j]? = some vs[j] := by simp [hj]
  have p1 := set_zip (ds := ds) (e := ds[j]'(by omega)) hl hu
  have hset : ds.set j (ds[j]'(by omega)) = ds := by simp
  rw [hset] at p1
  have p2 := set_zip (vs := vs.set j x) (ds := ds) (x := x) (e := dv) (j := j) (by simp [hl]) (by simp [hj])
  have e1 : (vs.set j x).eraseIdx j = vs.eraseIdx j := by
    rw [List.eraseIdx_set_eq]
  rw [e1] at p2
  refine (p1.append_right _).trans ((List.Perm.trans ?_ (p2.append_right _).symm))
  refine List.Perm.trans (List.Perm.cons _ List.perm_middle) ?_
  refine List.Perm.trans (List.Perm.swap _ _ _) ?_
  exact List.Perm.cons _ List.perm_middle.symm
theorem set_run (hu : X.A.units + 1 < cLine) (s : Sp X.K X.mg Z Hb H ((w, t) :: (y, dk) :: (x, dv) :: P)) (e : dSetIt t dk dv = some t') (Q : Hp → Prop) (q : ∀ H', Sp X.K X.mg Z Hb H' ((w, t') :: P) → Q H') : wSet X w y x H Q := by
  unfold dSetIt at e
  split at e
  · rename_i ds i
    obtain ⟨j, e1, rfl⟩ := Option.map_eq_some_iff.mp e
    have s1 := s.perm (.swap _ _ _)
    have hy := s1.int
    subst hy
    obtain ⟨Y, F, r⟩ := s.head
    obtain ⟨a, rfl⟩ : ∃ a, w = .ref a := by cases r; exact ⟨_, rfl⟩
    obtain ⟨vs, ha, hl, back⟩ := s1.drop.mutL
    have hj : j < vs.length := by rw [hl]; exact (ixN_seq e1).2.1
    refine wSet_of set_list ⟨a, vs, i, j, rfl, rfl, ha, by rw [hl]; exact e1, q _ ?_⟩
    have s2 := back (vs.set j x) (ds.set j dv) _ (by simp [hl]) (set_perm hl hj)
    exact (s2.perm (.swap _ _ _)).drop
  · rename_i ks ds
    split at e
    · rename_i k ek
      have s1 := s.perm (.swap _ _ _)
      have hy := s1.key ek
      subst hy
      obtain ⟨Y, F, r⟩ := s.head
      obtain ⟨a, rfl⟩ : ∃ a, w = .ref a := by cases r; exact ⟨_, rfl⟩
      obtain ⟨kvs, ha, ⟨hk, hnd⟩, hl, back⟩ := s1.drop.mutK
      subst hk
      split at e
      · rename_i hz
        have hz' : kvs.length < sizeLine := by simpa using hz
        have go : Q (upd H a (.dK (putK kvs k x))) → wSet X (.ref a) (kV k) x H Q := by
          intro qH pins s0 σ ov iv u I r1 r2 r3
          cases r1
          exact d_setItem hu I (.k ha hz') r2 r3 fun s4 I4 => ⟨_, I4, qH⟩
        split at e
        · rename_i j e2
          cases e
          have hj : j < (kvs.map (·.2)).length := by have := posOf_lt e2; simpa using this
          refine go (q _ ?_)
          rw [putK_pos e2 hnd]
          have hkk : (kvs.set j (k, x)).map (·.1) = kvs.map (·.1) := by
            rw [List.map_set]
            apply List.ext_getElem?
            intro n
            rw [List.getElem?_set]
            by_cases hjn : j = n
            · subst hjn
              rw [if_pos rfl, if_pos (posOf_lt e2)]
              exact (posOf_key e2).symm
            · rw [if_neg hjn]
          have hvv : (kvs.set j (k, x)).map (·.2) = (kvs.map (·.2)).set j x := by rw [List.map_set]
          have s2 := back (kvs.set j (k, x)) (ds.set j dv) _ (by simp [hl]) (by rw [hkk]; exact hnd) (by rw [hvv]; exact set_perm (by simpa using hl) hj)
          rw [hkk] at s2
          exact (s2.perm (.swap _ _ _)).drop
        · rename_i e2
          cases e
          have hn := posOf_none e2
          refine go (q _ ?_)
          rw [putK_new x hn]
          have s2 := back (kvs ++ [(k, x)]) (ds ++ [dv]) P (by simp [hl]) (by
            rw [List.map_append]
            exact nd_snoc hnd (valV_not hn)) (by
            rw [List.map_append, zip_append (by simpa using hl), List.append_assoc]
            exact List.Perm.refl _)
          rw [List.map_append] at s2
          exact s2
      · cases e
    · cases e
  · cases e
end
end DL
set_option Elab.async false
set_option linter.all false
set_option maxRecDepth 100000
set_option maxHeartbeats 4000001
namespace DL
open PySem.Spec PySem L2 PyProof.Rows
def sPut (i : Nat) (m : MP) (k : MK) (e : ME) : MS := fun δ => match e δ with
  | some (dv, δ1) => match δ1[i]? with
    | some (some d) => match m δ1 with
      | some p => match k δ1 with
        | some dk => match atO d p with
          | some t => match dSetIt t dk dv with
            | some t' => some (.nx (δ1.set i (some (putO d p t'))))
            | none => none
          | none => none
        | none => none
      | none => none
    | _ => none
  | none => none
def dSetF (cs : List Str) (f : Str) : D → D → Option D
  | .obj true c ns ds, x => if cs.contains c ∧ ns.length < 1000 then match posOf ns f with
      | some j => some (.obj true c ns (ds.set j x))
      | none => some (.obj true c (ns ++ [f]) (ds ++ [x])) else none
  | _, _ => none
def sPutF (i : Nat) (m : MP) (cs : List Str) (f : Str) (e : ME) : MS := fun δ => match e δ with
  | some (dv, δ1) => match δ1[i]? with
    | some (some d) => match m δ1 with
      | some p => match atO d p with
        | some t => match dSetF cs f t dv with
          | some t' => some (.nx (δ1.set i (some (putO d p t'))))
          | none => none
        | none => none
      | none => none
    | _ => none
  | none => none
section
variable {X : Cx} {P : Nat → Bool} {o b e : Expr} {i : Nat} {m : MP} {k : MK} {v : ME} {pos pos' : Pos} {f : Str}
theorem keyRep {Z : Addr → Prop} {Hb H3 : Hp} {σ : L2.St} {δ : Env} {L : PL} {y : V} {dk : D} (s : Sq X Z Hb H3 σ δ ((y, dk) :: L)) (h : (∃ i, dk = .int i) ∨ ∃ k, keyD dk = some k) : ∀ Y, Rep X.K X.mg H3 Y y dk [] := by
  intro Y
  rcases h with ⟨j, rfl⟩ | ⟨kk, ek⟩
  · rw [Sp.int s.sp]; exact .int
  · have hy := Sp.key s.sp ek
    unfold keyD at ek
    split at ek
    · cases ek; rw [hy]; exact .int
    · cases ek; rw [hy]; exact .str
    · cases ek
theorem is_put (hu : X.A.units + 65 < cLine) (he : IG X e v) (ho : IP X o i m) (hk : IK X b k)
    (ha : ∀ v, assign (.Subscript o b pos') X.env v = (do
      let ov ← (holding [v] (eval o X.env))
      let iv ← holding [v, ov] (eval b X.env)
      standAt pos'
      (holding [v, ov, iv] (setItem ov iv v))
      release [v, ov, iv] []))
    (hs : swapsWithSole [.Subscript o b pos'] e pos.line X.env = pure false) (hw : swappedStores [.Subscript o b pos'] e X.env = pure none)
    (h1 : (assignEach [.Subscript o b pos'] X.env).map (·.2) = [assign (.Subscript o b pos') X.env]) : IS X P (.Assign [.Subscript o b pos'] e pos) (sPut i m k v) := by
  intro Z Hb H σ δ L fl s e' Dn f
  unfold sPut at e'
  split at e'
  · rename_i dv δ1 e1
    split at e'
    · rename_i d hd
      split at e'
      · rename_i p e2
        split at e'
        · rename_i dk e3
          split at e'
          · rename_i t e4
            split at e'
            · rename_i t' e5
              cases e'
              refine wS_of (ps_asg pe_w (pg_sub (t := wSet X) pe_w pe_w pset_w ha) hs hw h1) (he s e1 _ fun x H1 s1 => ?_)
              obtain ⟨vv, hv⟩ := s1.dom.2 i d hd
              obtain ⟨w, Z', Hc, rc, s2, back⟩ := (s1.out hv hd).focus e4
              refine ho s1 e2 hv rc.rc _ fun H2 g2 => ?_
              have s1' : Sq X Z Hb H2 σ δ1 ((x, dv) :: L) := ⟨s1.sp.grow g2, s1.dom⟩
              -- the key, while the part is held
              refine hk s1' e3 _ fun y H3 g3 s3 => ?_
              have hy : ∀ Y, Rep X.K X.mg H3 Y y dk [] := keyRep s3 (by
                unfold dSetIt at e5
                split at e5
                · exact .inl ⟨_, rfl⟩
                · split at e5
                  · rename_i kk ek
                    exact .inr ⟨kk, ek⟩
                  · cases e5
                · cases e5)
              have s4 : Sp X.K X.mg Z' Hc H3 ((w, t) :: (x, dv) :: (L ++ prs σ (δ1.set i none))) := (s2.grow fun a u z => g3 a u (g2 a u z))
              have s5 := (s4.put hy).perm (.swap _ _ _)
              refine set_run (by omega) s5 e5 _ fun H4 s6 => f σ H4 ?_ .refl
              exact Sq.back (L' := L) s1.dom hv hd (back H4 t' _ s6)
            · cases e'
          · cases e'
        · cases e'
      · cases e'
    · cases e'
  · cases e'
theorem putF_at {x : V} : ∀ {fs : List (Str × V)} {j : Nat}, posOf (fs.map (·.1)) f = some j → putF f x fs = fs.set j (f, x)
  | [], _, h => by simp [posOf] at h
  | (a, c) :: r, j, h => by
    simp only [List.map_cons, posOf] at h
    split at h
    · rename_i e
      cases h
      have e : a = f := e
      unfold putF
      rw [if_pos e, e]; rfl
    · rename_i e
      obtain ⟨i, e1, rfl⟩ := Option.map_eq_some_iff.mp h
      have e : ¬ a = f := e
      unfold putF
      rw [if_neg e, putF_at e1]; rfl
theorem putF_new {x : V} : ∀ {fs : List (Str × V)}, posOf (fs.map (·.1)) f = none → putF f x fs = fs ++ [(f, x)]
  | [], _ => rfl
  | (a, c) :: r, h => by
    simp only [List.map_cons, posOf] at h
    split at h
    · cases h
    · rename_i e
      have e : ¬ a = f := e
      unfold putF
      rw [if_neg e, putF_new (by simpa using h)]; rfl
theorem is_putF (cs : List Str) (he : IG X e v) (ho : IP X o i m) (hc : ∀ c ∈ cs, ∀ C, X.mg c = some (.ref C) → Cls X.K C ∧ NoAttr X.K C f) (hs : swapsWith e (some (.Attribute o f pos')) pos.line X.env = pure false) :
    IS X P (.Assign [.Attribute o f pos'] e pos) (sPutF i m cs f v) := by
  intro Z Hb H σ δ L fl s e' Dn fi
  unfold sPutF at e'
  split at e'
  · rename_i dv δ1 e1
    split at e'
    · rename_i d hd
      split at e'
      · rename_i p e2
        split at e'
        · rename_i t e4
          split at e'
          · rename_i t' e5
            cases e'
            refine wS_of (ps_fld pe_w pe_w hs) (he s e1 _ fun x H1 s1 => ?_)
            obtain ⟨vv, hv⟩ := s1.dom.2 i d hd
            obtain ⟨w, Z', Hc, rc, s2, back⟩ := (s1.out hv hd).focus e4
            refine ho s1 e2 hv rc.rc _ fun H2 g2 => ?_
            have s4 : Sp X.K X.mg Z' Hc H2 ((w, t) :: (x, dv) :: (L ++ prs σ (δ1.set i none))) := s2.grow g2
            unfold dSetF at e5
            split at e5
            · rename_i c ns ds
              split at e5
              · rename_i hcs
                obtain ⟨Y, F, r⟩ := s4.head
                obtain ⟨a, rfl⟩ : ∃ a, w = .ref a := by cases r; exact ⟨_, rfl⟩
                obtain ⟨C, dx, fs, ha, hC, hn, hl, up⟩ := s4.mutO
                subst hn
                obtain ⟨c1, c2⟩ := hc c (by simpa using hcs.1) C hC
                refine ⟨a, C, dx, fs, rfl, ha, c1, c2, by simpa using hcs.2, fi σ _ ?_ .refl⟩
                split at e5
                · rename_i j e6
                  cases e5
                  have hj : j < (fs.map (·.2)).length := by have := posOf_lt e6; simpa using this
                  rw [putF_at e6]
                  have hkk : (fs.set j (f, x)).map (·.1) = fs.map (·.1) := by
                    rw [List.map_set]
                    apply List.ext_getElem?
                    intro n
                    rw [List.getElem?_set]
                    by_cases hjn : j = n
                    · subst hjn
                      rw [if_pos rfl, if_pos (posOf_lt e6)]
                      exact (posOf_key e6).symm
                    · rw [if_neg hjn]
                  have hvv : (fs.set j (f, x)).map (·.2) = (fs.map (·.2)).set j x := by rw [List.map_set]
                  have s6 := up (fs.set j (f, x)) (ds.set j dv) _ (by simp [hl]) (by rw [hvv]; exact set_perm (by simpa using hl) hj)
                  rw [hkk] at s6
                  exact Sq.back (L' := L) s1.dom hv hd (back _ _ _ (s6.perm (.swap _ _ _)).drop)
                · rename_i e6
                  cases e5
                  rw [putF_new e6]
                  have s6 := up (fs ++ [(f, x)]) (ds ++ [dv]) (L ++ prs σ (δ1.set i none)) (by simp [hl]) (by
                    rw [List.map_append, zip_append (by simpa using hl), List.append_assoc]
                    exact List.Perm.refl _)
                  rw [List.map_append] at s6
                  exact Sq.back (L' := L) s1.dom hv hd (back _ _ _ s6)
              · cases e5
            · cases e5
          · cases e'
        · cases e'
      · cases e'
    · cases e'
  · cases e'
end
def wM (X : Cx) (id : String) : V → List V → Hp → VK → Prop := fun x xs H Q => ∀ pins s σ v us, Inv X pins σ H s → RelV x v → Vals xs us → wpAny (model X.prog X.w) X.A (call (.builtin id) (v :: us)) (EP X pins σ Q) X.xe s
theorem mtr_w {X : Cx} {id : String} : MtR X id (wM X id) := fun pins s σ H x xs v us Q I r1 r2 h => h pins s σ v us I r1 r2
theorem wM_of {X : Cx} {id : String} {r : V → List V → Hp → VK → Prop} (h : MtM X id r) {x : V} {xs : List V} {H : Hp} {Q : VK} (q : r x xs H Q) : wM X id x xs H Q := fun pins s σ v us I r1 r2 => h pins s σ H x xs v us Q I r1 r2 q
def tyD (T : String) : D → Bool
  | .str _ => T == "str"
  | .lst _ _ => T == "list"
  | .scr _ => T == "list"
  | .dct o _ _ => o && T == "dict"
  | _ => false
theorem tyD_ok {K : PySem.W.Frag} {mg : Str → Option Value} {H Hb : Hp} {Z : Addr → Prop} {P : PL} {v : V} {d : D} {T : String} (s : Sp K mg Z Hb H ((v, d) :: P)) (h : tyD T d = true) : tyV K T v H := by
  obtain ⟨Y, F, r⟩ := s.head
  cases r with
  | str =>
    show T = "str"
    simpa [tyD] using h
  | lstF ha _ _ => exact .inl ⟨by simpa [tyD] using h, _, .of ha⟩
  | lstO ha _ => exact .inl ⟨by simpa [tyD] using h, _, .of ha⟩
  | scr ha _ => exact .inl ⟨by simpa [tyD] using h, _, ha.sq⟩
  | dctF ha _ _ _ => simp [tyD] at h
  | dctO ha _ _ => exact .inr (.inr (.inl ⟨by simpa [tyD] using h, .inl ⟨_, ha⟩⟩))
  | _ => cases h
/-- a method that changes its thing -/
def MB (X : Cx) (id : String) (g : D → List D → Option (D × D)) : Prop := ∀ {Z : Addr → Prop} {Hb H : Hp} {P : PL} {w : V} {vs : List V} {t : D} {ds : List D} {r t' : D}, vs.length = ds.length → Sp X.K X.mg Z Hb H ((w, t) :: (vs.zip ds ++ P)) → g t ds = some (r, t') →
  ∀ Q : VK, (∀ v H', Sp X.K X.mg Z Hb H' ((v, r) :: (w, t') :: P) → Q v H') → wM X id w vs H Q
/-- x.m(..): the thing stands in a slot -/
def mMeth (T : String) (g : D → List D → Option (D × D)) (i : Nat) (r : ML) : ME := fun δ => match δ[i]? with
  | some (some d) => if tyD T d then match r δ with
      | some (ds, δ1) => match δ1[i]? with
        | some (some d1) => match g d1 ds with
          | some (a, d2) => some (a, δ1.set i (some d2))
          | none => none
        | _ => none
      | none => none
    else none
  | _ => none
/-- p.m(..): at a place; the arguments have no effect -/
def mMethP (T : String) (g : D → List D → Option (D × D)) (i : Nat) (m : MP) (r : MKs) : ME := fun δ => match δ[i]? with
  | some (some d) => match m δ with
    | some p => match atO d p with
      | some t => if tyD T t then match r δ with
          | some ds => match g t ds with
            | some (a, t') => some (a, δ.set i (some (putO d p t')))
            | none => none
          | none => none
        else none
      | none => none
    | none => none
  | _ => none
/-- e.m(..): nothing changes -/
def BM (X : Cx) (id : String) (g : D → List D → Option D) : Prop := ∀ {Z : Addr → Prop} {Hb H : Hp} {P : PL} {w : V} {vs : List V} {t : D} {ds : List D} {r : D}, vs.length = ds.length → Sp X.K X.mg Z Hb H ((w, t) :: (vs.zip ds ++ P)) → g t ds = some r →
  ∀ Q : VK, (∀ v H', Sp X.K X.mg Z Hb H' ((v, r) :: P) → Q v H') → wM X id w vs H Q
def mMethV (T : String) (g : D → List D → Option D) (a : ME) (r : ML) : ME := fun δ => match a δ with
  | some (d, δ1) => if tyD T d then match r δ1 with
      | some (ds, δ2) => match g d ds with
        | some x => some (x, δ2)
        | none => none
      | none => none
    else none
  | none => none
section
variable {X : Cx} {o e : Expr} {es : List Expr} {name : Str} {apos cpos : Pos} {T id : String} {g : D → List D → Option (D × D)} {g' : D → List D → Option D} {i : Nat} {m : MP} {r : ML} {rk : MKs} {a : ME}
theorem meth_tail {Z : Addr → Prop} {Hb H1 H2 : Hp} {σ : L2.St} {δ1 : Env} {L : PL} {v : V} {vs : List V} {ds : List D} {d1 d2 x : D} (hg : MB X id g) (hv : σ[i]? = some (some v)) (hl : vs.length = ds.length) (s2 : Sq X Z Hb H2 σ δ1 (vs.zip ds ++ L)) (e3 : δ1[i]? = some (some d1)) (e4 : g d1 ds = some (x, d2))
    (Q : VK) (q : ∀ v H', Sq X Z Hb H' σ (δ1.set i (some d2)) ((v, x) :: L) → Q v H') : wM X id v vs H2 Q := by
  have s3 := s2.out hv e3
  rw [List.append_assoc] at s3
  refine hg hl s3 e4 Q fun u H3 s4 => q u H3 ?_
  exact Sq.back (L' := (u, x) :: L) s2.dom hv e3 (s4.perm (.swap _ _ _))
theorem ig_meth (pa : PlainAttrs T) (slot : Slot T name id) (hty : typeOf (.builtin id) = pure (.type "method_descriptor")) (hg : MB X id g) {x : Str} {px : Pos} (hp : PE X (.Name x px) (tVar i)) (ha : IL X (e :: es) r)
    (hbase : attributeBase (.Name x px) name X.env (eval (.Name x px) X.env) = eval (.Name x px) X.env) (hfew : ((backTo cpos (starEach (e :: es) X.env)).all (fun x => !x.1) && (backToKw cpos (keywordEach [] X.env)).all (fun x => x.1.isSome)
      && decide ((e :: es).length + ([] : List Keyword).length + (if ([] : List Keyword).isEmpty then 0 else 1) < 30)) = true)
    (hline : (apos.endLine == cpos.line) = true) (hs : starEach (e :: es) X.env = (false, eval e X.env) :: starEach es X.env) (hplain : (backTo cpos (starEach es X.env)).any (·.1) = false) :
    IG X (.Call (.Attribute (.Name x px) name apos) (e :: es) [] cpos) (mMeth T g i r) := by
  intro Z Hb H σ δ L d δ' s e' Q q
  unfold mMeth at e'
  split at e'
  · rename_i d0 hd
    split at e'
    · rename_i ht
      split at e'
      · rename_i ds δ1 e2
        split at e'
        · rename_i d1 e3
          split at e'
          · rename_i x d2 e4
            cases e'
            obtain ⟨v, hv⟩ := s.dom.2 i d0 hd
            refine wE_of (pe_bm pa slot hty mtr_w hp pa_w hbase hfew hline hs hplain) ⟨v, hv, tyD_ok (s.out hv hd) ht, ?_⟩
            exact ha s e2 _ fun vs H2 hl s2 => meth_tail (H1 := H) hg hv hl s2 e3 e4 Q q
          · cases e'
        · cases e'
      · cases e'
    · cases e'
  · cases e'
theorem ig_methP (pa : PlainAttrs T) (slot : Slot T name id) (hty : typeOf (.builtin id) = pure (.type "method_descriptor")) (hg : MB X id g) (ho : IP X o i m) (ha : IKs X (e :: es) rk)
    (hbase : attributeBase o name X.env (eval o X.env) = eval o X.env) (hfew : ((backTo cpos (starEach (e :: es) X.env)).all (fun x => !x.1) && (backToKw cpos (keywordEach [] X.env)).all (fun x => x.1.isSome)
      && decide ((e :: es).length + ([] : List Keyword).length + (if ([] : List Keyword).isEmpty then 0 else 1) < 30)) = true)
    (hline : (apos.endLine == cpos.line) = true) (hs : starEach (e :: es) X.env = (false, eval e X.env) :: starEach es X.env) (hplain : (backTo cpos (starEach es X.env)).any (·.1) = false) :
    IG X (.Call (.Attribute o name apos) (e :: es) [] cpos) (mMethP T g i m rk) := by
  intro Z Hb H σ δ L d δ' s e' Q q
  unfold mMethP at e'
  split at e'
  · rename_i d0 hd
    split at e'
    · rename_i p e1
      split at e'
      · rename_i t e2
        split at e'
        · rename_i ht
          split at e'
          · rename_i ds e3
            split at e'
            · rename_i x t' e4
              cases e'
              obtain ⟨v, hv⟩ := s.dom.2 i d0 hd
              obtain ⟨w, Z', Hc, rc, s2, back⟩ := (s.out hv hd).focus e2
              refine wE_of (pe_bm pa slot hty mtr_w pe_w pa_w hbase hfew hline hs hplain) (ho s e1 hv rc.rc _ fun H1 g1 => ⟨tyD_ok (s2.grow g1) ht, ?_⟩)
              refine ha ⟨s.sp.grow g1, s.dom⟩ e3 _ fun vs H2 hl g2 s3 => ?_
              obtain ⟨w', Z2, Hc2, rc', s4, back'⟩ := (s3.out hv hd).focus e2
              have ew := rc.det rc' fun a o z => g2 a o (g1 a o z)
              subst ew
              rw [List.append_assoc] at s4
              refine hg hl s4 e4 Q fun u H3 s5 => q u H3 ?_
              exact Sq.back (L' := (u, d) :: L) s.dom hv hd (back' H3 t' _ (s5.perm (.swap _ _ _)))
            · cases e'
          · cases e'
        · cases e'
      · cases e'
    · cases e'
  · cases e'
theorem ig_methV (pa : PlainAttrs T) (slot : Slot T name id) (hty : typeOf (.builtin id) = pure (.type "method_descriptor")) (hg : BM X id g') (ho : IG X o a) (ha : IL X (e :: es) r)
    (hbase : attributeBase o name X.env (eval o X.env) = eval o X.env) (hfew : ((backTo cpos (starEach (e :: es) X.env)).all (fun x => !x.1) && (backToKw cpos (keywordEach [] X.env)).all (fun x => x.1.isSome)
      && decide ((e :: es).length + ([] : List Keyword).length + (if ([] : List Keyword).isEmpty then 0 else 1) < 30)) = true)
    (hline : (apos.endLine == cpos.line) = true) (hs : starEach (e :: es) X.env = (false, eval e X.env) :: starEach es X.env) (hplain : (backTo cpos (starEach es X.env)).any (·.1) = false) :
    IG X (.Call (.Attribute o name apos) (e :: es) [] cpos) (mMethV T g' a r) := by
  intro Z Hb H σ δ L d δ' s e' Q q
  unfold mMethV at e'
  split at e'
  · rename_i d0 δ1 e1
    split at e'
    · rename_i ht
      split at e'
      · rename_i ds δ2 e2
        split at e'
        · rename_i x e4
          cases e'
          refine wE_of (pe_bm pa slot hty mtr_w pe_w pa_w hbase hfew hline hs hplain) (ho s e1 _ fun v H1 s1 => ⟨tyD_ok s1.sp ht, ?_⟩)
          refine ha s1 e2 _ fun vs H2 hl s2 => ?_
          have s3 : Sp X.K X.mg Z Hb H2 ((v, d0) :: (vs.zip ds ++ (L ++ prs σ δ'))) := s2.sp.perm (by
            rw [List.append_assoc]
            exact List.perm_middle)
          exact hg hl s3 e4 Q fun u H3 s4 => q u H3 ⟨s4, s2.dom⟩
        · cases e'
      · cases e'
    · cases e'
  · cases e'
end
end DL
set_option Elab.async false
set_option linter.all false
set_option maxRecDepth 100000
set_option maxHeartbeats 4000001
namespace DL
open PySem.Spec PySem L2 PyProof.Rows
section
variable {X : Cx}
def gAppend : D → List D → Option (D × D)
  | .lst true ds, [x] => if ds.length < sizeLine then some (.non, .lst true (ds ++ [x])) else none
  | _, _ => none
theorem mb_append : MB X "list.append" gAppend := by
  intro Z Hb H P w vs t ds r t' hl s e Q q
  unfold gAppend at e
  split at e
  · rename_i es x
    split at e
    · rename_i hz
      cases e
      match vs, hl with
      | [v], _ =>
        have s0 : Sp X.K X.mg Z Hb H ((w, .lst true es) :: (v, x) :: P) := s
        obtain ⟨Y, F, rr⟩ := s0.head
        obtain ⟨a, rfl⟩ : ∃ a, w = .ref a := by cases rr; exact ⟨_, rfl⟩
        obtain ⟨ws, ha, hl, back⟩ := s0.mutL
        refine wM_of mt_append ⟨a, ws, v, rfl, rfl, ha, by omega, q _ _ ?_⟩
        refine (back (ws ++ [v]) (es ++ [x]) P (by simp [hl]) ?_).put fun _ => .non
        rw [zip_append hl, List.append_assoc]
        exact List.Perm.refl _
    · cases e
  · cases e
theorem zip_out {ws : List V} {es : List D} (hl : ws.length = es.length) {j : Nat} {x : D} (hx : es[j]? = some x) : ∃ y, ws[j]? = some y ∧ (ws.zip es).Perm ((y, x) :: (ws.eraseIdx j).zip (es.eraseIdx j)) := by
  have hj := (List.getElem?_eq_some_iff.mp hx).1
  have hu : ws[j]? = some (ws[j]'(by omega)) := by simp [hl, hj]
  have p1 := set_zip (ds := es) (e := x) hl hu
  have hset : es.set j x = es := by
    apply List.ext_getElem?
    intro n
    rw [List.getElem?_set]
    by_cases q : j = n
    · subst q; rw [if_pos rfl, if_pos hj, hx]
    · rw [if_neg q]
  rw [hset] at p1
  exact ⟨_, hu, p1⟩
def gPopAt : D → List D → Option (D × D)
  | .lst true ds, [.int i] => if -(2 ^ 63) ≤ i ∧ i < 2 ^ 63 then match ixN ds.length i with
      | some j => match ds[j]? with
        | some x => some (x, .lst true (ds.eraseIdx j))
        | none => none
      | none => none
    else none
  | _, _ => none
theorem mb_popAt : MB X "list.pop" gPopAt := by
  intro Z Hb H P w vs t ds r t' hl s e Q q
  unfold gPopAt at e
  split at e
  · rename_i es i
    split at e
    · rename_i hz
      split at e
      · rename_i j hj
        split at e
        · rename_i x hx
          cases e
          match vs, hl with
          | [v], _ =>
            have s0 : Sp X.K X.mg Z Hb H ((v, .int i) :: (w, .lst true es) :: P) := s.perm (.swap _ _ _)
            have hv := s0.int
            subst hv
            have s1 := s0.drop
            obtain ⟨Y, F, rr⟩ := s1.head
            obtain ⟨a, rfl⟩ : ∃ a, w = .ref a := by cases rr; exact ⟨_, rfl⟩
            obtain ⟨ws, ha, hl, back⟩ := s1.mutL
            obtain ⟨y, hy, pm⟩ := zip_out hl hx
            refine wM_of mt_popAt ⟨a, ws, i, j, y, rfl, rfl, ha, hz.1, hz.2, by rw [hl]; exact (ixN_seq hj).1, hy, q _ _ ?_⟩
            have hj' := (List.getElem?_eq_some_iff.mp hx).1
            refine (back (ws.eraseIdx j) (es.eraseIdx j) ((y, r) :: P) (by rw [List.length_eraseIdx, List.length_eraseIdx, hl]) ?_).perm (.swap _ _ _)
            refine (pm.append_right P).trans ?_
            exact List.perm_middle.symm
        · cases e
      · cases e
    · cases e
  · cases e
def gSplit : D → List D → Option D
  | .str a, [.str b] => if (b.length == 0) = false ∧ a.length + 2 ≤ sizeLine then some (.lst true ((Txt.split a b).map .str)) else none
  | _, _ => none
theorem Sp.newStrs {K : PySem.W.Frag} {mg : Str → Option Value} {H Hb : Hp} {Z : Addr → Prop} {P : PL} {p : Addr} (s : Sp K mg Z Hb H P) (hp : H p = none) (ys : List Str) : Sp K mg Z Hb (upd H p (.lst (ys.map V.str))) ((.ref p, .lst true (ys.map D.str)) :: P) := by
  refine Sp.newL ?_ (by simp) hp
  induction ys with
  | nil => exact s
  | cons y ys ih => exact ih.put fun _ => .str
theorem bm_split : BM X "str.split" gSplit := by
  intro Z Hb H P w vs t ds r hl s e Q q
  unfold gSplit at e
  split at e
  · rename_i a b
    split at e
    · rename_i hz
      cases e
      match vs, hl with
      | [v], _ =>
        have s0 : Sp X.K X.mg Z Hb H ((w, .str a) :: (v, .str b) :: P) := s
        intro pins s' σ u us I r1 r2
        exact mt_split pins s' σ H w [v] u us Q I r1 r2 ⟨a, b, s0.str, by rw [s0.drop.str], hz.1, hz.2, fun p hp => q _ _ (s0.drop.drop.newStrs hp _)⟩
    · cases e
  · cases e
def gJoin : D → List D → Option D
  | .str a, [x] => match (match x with
      | .lst _ ds => strsOf ds
      | .tup ds => strsOf ds
      | _ => none) with
    | some ys => if (ys.map (·.length)).sum + ys.length * a.length ≤ 16777216 then some (.str (Txt.join a ys)) else none
    | none => none
  | _, _ => none
theorem bm_join : BM X "str.join" gJoin := by
  intro Z Hb H P w vs t ds r hl s e Q q
  unfold gJoin at e
  split at e
  · rename_i a x
    split at e
    · rename_i ys ey
      split at e
      · rename_i hz
        cases e
        match vs, hl with
        | [v], _ =>
          have s0 : Sp X.K X.mg Z Hb H ((w, .str a) :: (v, x) :: P) := s
          have hv : ∃ p, v = .ref p ∧ (SqL X.K H p (ys.map V.str) ∨ SqT X.K H p (ys.map V.str)) := by
            obtain ⟨Y, F, rr⟩ := s0.drop.head
            split at ey
            · cases rr with
              | lstF ha _ ts => exact ⟨_, rfl, .inl (by rw [← strs_vals ey ts]; exact .of ha)⟩
              | lstO ha ts => exact ⟨_, rfl, .inl (by rw [← strs_vals ey ts]; exact .of ha)⟩
            · cases rr with
              | tup ha ts => exact ⟨_, rfl, .inr (by rw [← strs_vals ey ts]; exact ha)⟩
            · cases ey
          obtain ⟨p, rfl, hp⟩ := hv
          intro pins s' σ u us I r1 r2
          exact mt_join pins s' σ H w [.ref p] u us Q I r1 r2 ⟨a, p, ys, s0.str, rfl, hp, hz, q _ _ (s0.drop.drop.put fun _ => .str)⟩
      · cases e
    · cases e
  · cases e
end
end DL
set_option Elab.async false
set_option linter.all false
set_option maxRecDepth 100000
set_option maxHeartbeats 4000001
namespace DL
open PySem.Spec PySem L2 PyProof.Rows
def pm {α : Type} (ord : List Nat) (l : List α) : List α := ord.filterMap fun j => l[j]?
/-- the def with its parameters in another order -/
def mPerm (ord inv : List Nat) (m : MF) : MF := fun ds => match m (pm ord ds) with
  | some (r, ds') => if ds'.length = ord.length then some (r, pm inv ds') else none
  | none => none
theorem pm_range {α : Type} (l : List α) : pm (List.range l.length) l = l := by
  unfold pm
  induction l with
  | nil => rfl
  | cons x l ih =>
    rw [List.length_cons, List.range_succ_eq_map, List.filterMap_cons, List.filterMap_map]
    (simp only [List.getElem?_cons_zero])
    congr 1
theorem pm_perm {α : Type} {ord : List Nat} {l : List α} (h : ord.Perm (List.range l.length)) : (pm ord l).Perm l := by
  have := h.filterMap fun j => l[j]?
  rw [show (List.range l.length).filterMap (fun j => l[j]?) = l from pm_range l] at this
  exact this
theorem pm_zip {α β : Type} {ord : List Nat} {l : List α} {r : List β} (h : l.length = r.length) (ho : ∀ j ∈ ord, j < l.length) : (pm ord l).zip (pm ord r) = pm ord (l.zip r) := by
  unfold pm
  induction ord with
  | nil => rfl
  | cons j ord ih =>
    have hj := ho j List.mem_cons_self
    have e1 : l[j]? = some l[j] := by simp [hj]
    have e2 : r[j]? = some (r[j]'(by omega)) := by simp [← h, hj]
    have e3 : (l.zip r)[j]? = some (l[j], r[j]'(by omega)) := by rw [List.getElem?_zip_eq_some]; exact ⟨e1, e2⟩
    simp only [List.filterMap_cons, e1, e2, e3, List.zip_cons_cons]
    rw [ih fun i hi => ho i (List.mem_cons_of_mem _ hi)]
theorem pm_len {α : Type} {ord : List Nat} {l : List α} (ho : ∀ j ∈ ord, j < l.length) : (pm ord l).length = ord.length := by
  unfold pm
  induction ord with
  | nil => rfl
  | cons j ord ih =>
    have hj := ho j List.mem_cons_self
    have e1 : l[j]? = some l[j] := by simp [hj]
    simp only [List.filterMap_cons, e1, List.length_cons]
    rw [ih fun i hi => ho i (List.mem_cons_of_mem _ hi)]
/-- the two orders undo one another -/
def invOk (n : Nat) (ord inv : List Nat) : Bool := decide (ord.Perm (List.range n)) && decide (inv.Perm (List.range n)) && decide (pm ord inv = List.range n)
theorem pm_pm {α : Type} {ord inv : List Nat} {l : List α} (h : ∀ j ∈ inv, j < l.length) : pm ord (pm inv l) = pm (pm ord inv) l := by
  have e : ∀ j : Nat, (pm inv l)[j]? = (inv[j]?).bind fun i => l[i]? := by
    intro j
    unfold pm
    induction inv generalizing j with
    | nil => rfl
    | cons i inv ih =>
      have hi := h i List.mem_cons_self
      have e1 : l[i]? = some l[i] := by simp [hi]
      simp only [List.filterMap_cons, e1]
      cases j with
      | zero => simp [e1]
      | succ j => simpa using ih (fun k hk => h k (List.mem_cons_of_mem _ hk)) j
  unfold pm at e ⊢
  rw [List.filterMap_filterMap]
  congr 1
  funext j
  exact e j
theorem spD_perm {K : PySem.W.Frag} {mg : Str → Option Value} {n : Nat} {ord inv : List Nat} {m : MF} (hi : invOk n ord inv = true) {vs : List V} {H : Hp} {Q : VK} {E : XK} (h : spD K mg n (mPerm ord inv m) vs H Q E) : spD K mg n m (pm ord vs) H Q E := by
  unfold invOk at hi
  simp only [Bool.and_eq_true, decide_eq_true_eq] at hi
  obtain ⟨⟨h1, h2⟩, h3⟩ := hi
  obtain ⟨hn, Z, Hb, ds, r, ds', hd, s, e, q⟩ := h
  have ol : ord.length = n := by rw [h1.length_eq, List.length_range]
  have il : inv.length = n := by rw [h2.length_eq, List.length_range]
  have om : ∀ j ∈ ord, j < n := fun j hj => List.mem_range.mp (h1.mem_iff.mp hj)
  have im : ∀ j ∈ inv, j < n := fun j hj => List.mem_range.mp (h2.mem_iff.mp hj)
  have hz : vs.length = ds.length := by omega
  unfold mPerm at e
  split at e
  · rename_i r0 ds1 e1
    split at e
    · rename_i hl
      cases e
      refine ⟨by rw [pm_len (by rw [hn]; exact om)]; exact ol, Z, Hb, pm ord ds, r, ds1, by rw [pm_len (by rw [hd]; exact om)]; exact ol, ?_, e1, fun v H' s' => q v H' ?_⟩
      · rw [pm_zip hz (by rw [hn]; exact om)]
        exact s.perm (pm_perm (by rw [List.length_zip, hz, Nat.min_self, hd]; exact h1)).symm
      · have l1 : ds1.length = n := by omega
        have e2 : pm ord (pm inv ds1) = ds1 := by
          rw [pm_pm (by rw [l1]; exact im), h3, ← l1]; exact pm_range ds1
        have l2 : (pm inv ds1).length = n := by rw [pm_len (by rw [l1]; exact im)]; exact il
        have e3 : (pm ord vs).zip ds1 = pm ord (vs.zip (pm inv ds1)) := by
          conv => lhs; rw [← e2]
          exact pm_zip (by omega) (by rw [hn]; exact om)
        rw [e3] at s'
        exact s'.perm ((pm_perm (by rw [List.length_zip, hn, l2, Nat.min_self]; exact h1)).cons _)
    · cases e
  · cases e
def wK (X : Cx) (kws : List Keyword) : TA := fun σ H Q => ∀ pos pins s, Inv X pins σ H s → wpAny (model X.prog X.w) X.A (evalAll ((backToKw pos (keywordEach kws X.env)).map (·.2))) (AP X pins σ Q) X.xe s
theorem pk_w {X : Cx} {kws : List Keyword} : PK X kws (wK X kws) := ⟨fun pos pins s σ H Q I h => h pos pins s I⟩
theorem wK_of {X : Cx} {kws : List Keyword} {t : TA} (h : PK X kws t) {σ : L2.St} {H : Hp} {Q : List V → Hp → Prop} (q : t σ H Q) : wK X kws σ H Q := fun pos pins s I => h.run pos pins s σ H Q I q
def IAk (X : Cx) (kws : List Keyword) (as : List AS) : Prop := ∀ {Z : Addr → Prop} {Hb H : Hp} {σ : L2.St} {δ : Env} {L : PL} {rs : List AR} {δ' : Env}, Sq X Z Hb H σ δ L → mArgs as δ = some (rs, δ') →
  ∀ Q : List V → Hp → Prop, (∀ vs H' T, AV σ rs vs T → Sq X Z Hb H' σ δ' (T ++ L) → Q vs H') → wK X kws σ H Q
section
variable {X : Cx} {e : Expr} {kws : List Keyword} {as bs : List AS} {m : ME} {nm : Option Str} {kpos : Pos}
theorem iak_nil : IAk X [] [] := by
  intro Z Hb H σ δ L rs δ' s e Q q
  cases e
  exact wK_of pk_nil (q [] H [] .nil s)
theorem iak_e (h : IG X e m) (t : IAk X kws as) : IAk X (⟨nm, e, kpos⟩ :: kws) (.e m :: as) := by
  intro Z Hb H σ δ L rs δ' s e' Q q
  simp only [mArgs] at e'
  split at e'
  · rename_i d δ1 e1
    split at e'
    · rename_i rs' δ2 e2
      cases e'
      refine wK_of (pk_cons pe_w pk_w) (h s e1 _ fun v H1 s1 => t s1 e2 _ fun vs H2 T av s2 => q _ _ _ (.e av) (s2.perm ?_))
      exact List.perm_middle
    · cases e'
  · cases e'
end
theorem AV.append {σ : L2.St} : ∀ {rs rs' : List AR} {vs vs' : List V} {T T' : PL}, AV σ rs vs T → AV σ rs' vs' T' → AV σ (rs ++ rs') (vs ++ vs') (T ++ T')
  | _, _, _, _, _, _, .nil, h => h
  | _, _, _, _, _, _, .v hv a, h => .v hv (a.append h)
  | _, _, _, _, _, _, .e a, h => .e (a.append h)
theorem av_len {σ : L2.St} {rs : List AR} {vs : List V} {T : PL} (av : AV σ rs vs T) : rs.length = vs.length := by
  induction av with
  | nil => rfl
  | v _ _ ih => simp [ih]
  | e _ ih => simp [ih]
theorem vals_pm {vs : List V} {us : List Value} (r : Vals vs us) : ∀ ord : List Nat, Vals (pm ord vs) (pm ord us)
  | [] => .nil
  | j :: ord => by
    unfold pm
    rw [List.filterMap_cons, List.filterMap_cons]
    cases e : vs[j]? with
    | none =>
      rw [r.none_of e]
      exact vals_pm r ord
    | some v =>
      obtain ⟨u, hu, ru⟩ := r.get e
      rw [hu]
      exact .cons ru (vals_pm r ord)
theorem runK {X : Cx} {k : Nat} {f : Addr} {fd : FuncData} {ps ks : List Str} {n : Nat} {m : MF} {es : List Expr} {ord inv : List Nat} {dvs : List V} {dsv : List Value} (F : FnG X.prog X.w X.K X.mg X.base k f fd ps (spD X.K X.mg n m)) (hr : Room k X.A) (hg : X.A.guards = some [])
    (hb : ∀ (s : Shared) (us ws : List Value), X.K.In s.heap → us.length = es.length → ws.length = ks.length → BindsTo s fd ⟨us, ks.zip ws⟩ (ps.zip (pm ord (us ++ ws ++ dsv)))) (hd : Vals dvs dsv) (hi : invOk n ord inv = true)
    {pins : List (Addr × Obj)} {σ : L2.St} {H : Hp} {s : Shared} {Q : VK} {us ws : List Value} {vs zs : List V} (I : Inv X pins σ H s) (r : Vals vs us) (rz : Vals zs ws) (l1 : vs.length = es.length) (l2 : zs.length = ks.length) (sp : spD X.K X.mg n (mPerm ord inv m) (vs ++ zs ++ dvs) H Q E0) :
    wpAny (model X.prog X.w) X.A (call (.ref f) us (ks.zip ws)) (EP X pins σ Q) X.xe s := by
  have r2 : Vals (vs ++ zs ++ dvs) (us ++ ws ++ dsv) := (r.append rz).append hd
  refine wpAny_call (codeAny_mono (F.go hr hg I (hb s us ws I.kIn (by rw [← r.length]; exact l1) (by rw [← rz.length]; exact l2)) (vals_pm r2 ord) (spD_perm hi sp)) fun r s' hq => ?_)
  match r, hq with
  | .ok (.ret u), hq => exact hq
section
variable {X : Cx} {k : Nat} {f : Addr} {fd : FuncData} {ps ks : List Str} {n : Nat} {m : MF} {x : Str} {p pos : Pos} {e : Expr} {es : List Expr} {kws : List Keyword} {as bs : List AS} {ord inv : List Nat}
theorem ig_callK0 (dd : List D) {dvs : List V} {dsv : List Value} (F : FnG X.prog X.w X.K X.mg X.base k f fd ps (spD X.K X.mg n m)) (hr : Room k X.A) (hg : X.A.guards = some []) (hgl : Gl X x) (hm : X.mg x = some (.ref f)) (hk : PySem.W.keepIn X.K (.ref f) = true)
    (hb : ∀ (s : Shared) (us ws : List Value), X.K.In s.heap → us.length = ([] : List Expr).length → ws.length = ks.length → BindsTo s fd ⟨us, ks.zip ws⟩ (ps.zip (pm ord (us ++ ws ++ dsv)))) (hd : Vals dvs dsv)
    (hdd : ∀ H Y, Reps X.K X.mg H Y dvs dd []) (hkw : IAk X kws bs) (hn : bs.length + dd.length = n) (hl2 : bs.length = ks.length) (hi : invOk n ord inv = true)
    (hall : (backToKw pos (keywordEach kws X.env)).all (·.1.isSome) = true) (hks : (backToKw pos (keywordEach kws X.env)).filterMap (·.1) = ks)
    (hdb : (x == ("__debug__" : Str)) = false)
    (hpl : ((backTo pos (starEach [] X.env)).any (·.1) || (backToKw pos (keywordEach kws X.env)).any (·.1.isNone)) = false) :
    IG X (.Call (.Name x p) [] kws pos) (mCall (mPerm ord inv m) bs dd) := by
  intro Z Hb H σ δ L d δ' s e' Q q
  obtain ⟨rs, δ1, ls, δ2, ds', e1, e2, e3, hl, rfl⟩ := mCall_of e'
  intro pins s0 I
  refine wpAny_Call_Name_kw (ld_glob I hgl hm ?_ hdb)
  have W := hkw s e1 (fun zs H2 => zs.length = ks.length ∧ spD X.K X.mg n (mPerm ord inv m) ([] ++ zs ++ dvs) H2 Q E0) fun zs H2 T2 av2 s2 => by
    refine ⟨?_, ?_⟩
    · rw [← av_len av2, mArgs_len e1]; exact hl2
    · exact call_run (L := L) hdd (by rw [mArgs_len e1]; exact hn) av2 s2 e2 e3 hl Q q
  refine PySem.W.callWith_KW0 (h₀ := X.base) I.ok.mod.kin hk hall (thn (W pos pins s0 I) fun ws s2 ⟨zs, H2, I2, rz, l2, sp⟩ => ⟨I2.kIn, ?_⟩) hpl
  rw [hks]
  exact runK F hr hg hb hd hi I2 .nil rz rfl l2 sp
end
end DL
set_option Elab.async false
set_option linter.all false
set_option maxRecDepth 100000
set_option maxHeartbeats 4000001
namespace DL
open PySem.Spec PySem L2 PyProof.Rows
def keyPy : Key → PyData
  | .inl i => .int i
  | .inr x => .str x
mutual
def toPyR : D → Option PyData
  | .non => some .none
  | .bl b => some (.bool b)
  | .int i => some (.int i)
  | .str x => some (.str x)
  | .tup ds => (toPyRs ds).map .tuple
  | .lst _ ds => (toPyRs ds).map .list
  | .scr ds => (toPyRs ds).map .list
  | .dct _ ks vs => (toPyRs vs).map fun ps => .dict ((ks.map keyPy).zip ps)
  | _ => none
def toPyRs : List D → Option (List PyData)
  | [] => some []
  | d :: r => match toPyR d, toPyRs r with
    | some p, some q => some (p :: q)
    | _, _ => none
end
theorem toPyRs_len : ∀ {ds : List D} {ps : List PyData}, toPyRs ds = some ps → ps.length = ds.length
  | [], _, h => by cases h; rfl
  | d :: r, ps, h => by
    simp only [toPyRs] at h
    split at h
    · rename_i p q e1 e2
      cases h
      simp [toPyRs_len e2]
    · cases h
/-- the dict of modules is the written part's -/
def SysD (K : PySem.W.Frag) : Prop := ∃ o, K.lookup sysModules = some o ∧ o.cls = .type "dict"
section
variable {X : Cx} {pins : List (Addr × Obj)} {σ : L2.St} {H : Hp} {s : Shared} {Z : Addr → Prop}
theorem pairs_keys {P : Program} {w : World} : ∀ {es : List DictEntry} {kvs : List (Key × Value)}, Pairs (mixKind P w) es kvs → ReadsAll s.heap (es.map (·.key)) ((kvs.map (·.1)).map keyPy) [] ∧ es.map (·.val) = kvs.map (·.2)
  | _, _, .nil => ⟨.nil, rfl⟩
  | _, _, .cons (e := e) (kv := kv) hk hv t => by
    obtain ⟨r, q⟩ := pairs_keys t
    obtain ⟨k, x⟩ := kv
    have r1 : Reads s.heap e.key (keyPy k) [] := by
      rcases keyIs_shape (show keyIs k e.key = true from hk) with ⟨i, t, rfl, e1⟩ | ⟨x, t, rfl, e1⟩
      · rw [e1]; exact .int i t
      · rw [e1]; exact .str x t
    refine ⟨?_, ?_⟩
    · have := ReadsAll.cons r1 r
      exact this
    · have hv : e.val = x := hv
      simp only [List.map_cons, hv, q]
theorem kv_vals : ∀ {kvs : List (Key × V)} {vs : List (Key × Value)}, KV kvs vs → Vals (kvs.map (·.2)) (vs.map (·.2)) ∧ vs.map (·.1) = kvs.map (·.1)
  | _, _, .nil => ⟨.nil, rfl⟩
  | _, _, .cons h t => by
    obtain ⟨a, b⟩ := kv_vals t
    exact ⟨.cons h.2 a, by simp only [List.map_cons, b, h.1]⟩
theorem not_sys (I : Inv X pins σ H s) (hS : SysD X.K) {a : Addr} {o : Obj} (h : s.heap.get? a = some o) (hc : o.cls = .type "list") : a ≠ sysModules := fun e => by
  obtain ⟨o', h', hc'⟩ := hS
  have := I.kIn _ _ h'
  rw [← e, h] at this
  cases this
  rw [hc] at hc'
  simp at hc'
mutual
theorem Rep.reads (I : Inv X pins σ H s) (hS : SysD X.K) {v : V} {d : D} {F : List Addr} (r : Rep X.K X.mg H Z v d F) {p : PyData} (e : toPyR d = some p) {u : Value} (ru : RelV v u) : ∃ as, Reads s.heap u p as ∧ sysModules ∉ as := by
  cases r with
  | non => cases e; cases ru; exact ⟨_, .none, by simp⟩
  | bl => cases e; cases ru; exact ⟨_, .bool _, by simp⟩
  | int => cases e; obtain ⟨t, rfl⟩ := ru; exact ⟨_, .int _ t, by simp⟩
  | str => cases e; obtain ⟨t, rfl⟩ := ru; exact ⟨_, .str _ t, by simp⟩
  | tup h t =>
    simp only [toPyR, Option.map_eq_some_iff] at e
    obtain ⟨ps, e1, e2⟩ := e
    subst e2
    cases ru
    obtain ⟨its, rv, ⟨o, ho, hc, n, hd⟩, _⟩ := I.tuple h
    obtain ⟨as, q1, q2⟩ := t.readsA I hS e1 rv
    exact ⟨_, .tuple ho hc hd q1, q2⟩
  | scr h t =>
    simp only [toPyR, Option.map_eq_some_iff] at e
    obtain ⟨ps, e1, e2⟩ := e
    subst e2
    cases ru
    obtain ⟨its, rv, ⟨o, n, ho, hc, _, hd⟩, _⟩ := I.list h.sq
    obtain ⟨as, q1, q2⟩ := t.readsA I hS e1 rv
    exact ⟨_, .list ho hc hd q1, by simpa using ⟨(not_sys I hS ho hc).symm, q2⟩⟩
  | lstF h z t =>
    simp only [toPyR, Option.map_eq_some_iff] at e
    obtain ⟨ps, e1, e2⟩ := e
    subst e2
    cases ru
    obtain ⟨its, rv, ⟨o, n, ho, hc, _, hd⟩, _⟩ := I.list (.of h)
    obtain ⟨as, q1, q2⟩ := t.readsA I hS e1 rv
    exact ⟨_, .list ho hc hd q1, by simpa using ⟨(not_sys I hS ho hc).symm, q2⟩⟩
  | lstO h t =>
    simp only [toPyR, Option.map_eq_some_iff] at e
    obtain ⟨ps, e1, e2⟩ := e
    subst e2
    cases ru
    obtain ⟨its, rv, ⟨o, n, ho, hc, _, hd⟩, _⟩ := I.list (.of h)
    obtain ⟨as, q1, q2⟩ := t.readsA I hS e1 rv
    exact ⟨_, .list ho hc hd q1, by simpa using ⟨(not_sys I hS ho hc).symm, q2⟩⟩
  | dctF h z hk t =>
    simp only [toPyR, Option.map_eq_some_iff] at e
    obtain ⟨ps, e1, e2⟩ := e
    subst e2
    cases ru
    obtain ⟨_, hd, vs, kv, o, es, ep, ho, hx, hdt, _, pr, _⟩ := dk_rd I.hok h
    obtain ⟨k1, k2⟩ := pairs_keys (s := s) pr
    obtain ⟨v1, v2⟩ := kv_vals kv
    obtain ⟨as, q1, q2⟩ := t.readsA I hS e1 v1
    have lz : (vs.map (·.1)).length = ps.length := by rw [toPyRs_len e1, ← t.len, v2]; simp
    refine ⟨_, .dict (as := []) (bs := as) ho hx.1 hdt ?_ ?_, by simpa using ⟨(beq_eq_false_iff_ne.mp hd).symm, q2⟩⟩
    · rw [List.map_fst_zip (by rw [List.length_map, ← hk.1, ← v2, lz]; exact Nat.le_refl _), ← hk.1, ← v2]
      exact k1
    · rw [k2, List.map_snd_zip (by rw [List.length_map, ← hk.1, ← v2, lz]; exact Nat.le_refl _)]
      exact q1
  | dctO h hk t =>
    simp only [toPyR, Option.map_eq_some_iff] at e
    obtain ⟨ps, e1, e2⟩ := e
    subst e2
    cases ru
    obtain ⟨_, hd, vs, kv, o, es, ep, ho, hx, hdt, _, pr, _⟩ := dk_rd I.hok (.inl h)
    obtain ⟨k1, k2⟩ := pairs_keys (s := s) pr
    obtain ⟨v1, v2⟩ := kv_vals kv
    obtain ⟨as, q1, q2⟩ := t.readsA I hS e1 v1
    have lz : (vs.map (·.1)).length = ps.length := by rw [toPyRs_len e1, ← t.len, v2]; simp
    refine ⟨_, .dict (as := []) (bs := as) ho hx.1 hdt ?_ ?_, by simpa using ⟨(beq_eq_false_iff_ne.mp hd).symm, q2⟩⟩
    · rw [List.map_fst_zip (by rw [List.length_map, ← hk.1, ← v2, lz]; exact Nat.le_refl _), ← hk.1, ← v2]
      exact k1
    · rw [k2, List.map_snd_zip (by rw [List.length_map, ← hk.1, ← v2, lz]; exact Nat.le_refl _)]
      exact q1
  | ty => cases e
  | glo _ => cases e
  | objF _ _ _ _ _ => cases e
  | objO _ _ _ _ => cases e
  | rawF _ _ _ => cases e
  | rawO _ _ => cases e
theorem Reps.readsA (I : Inv X pins σ H s) (hS : SysD X.K) {vs : List V} {ds : List D} {F : List Addr} (r : Reps X.K X.mg H Z vs ds F) {ps : List PyData} (e : toPyRs ds = some ps) {us : List Value} (ru : Vals vs us) : ∃ as, ReadsAll s.heap us ps as ∧ sysModules ∉ as := by
  cases r with
  | nil => cases e; cases ru; exact ⟨_, .nil, by simp⟩
  | cons q t =>
    simp only [toPyRs] at e
    split at e
    · rename_i p ps' e1 e2
      cases e
      cases ru with
      | cons r1 r2 =>
        obtain ⟨as, a1, a2⟩ := q.reads I hS e1 r1
        obtain ⟨bs, b1, b2⟩ := t.readsA I hS e2 r2
        exact ⟨_, .cons a1 b1, by simpa using ⟨a2, b2⟩⟩
    · cases e
end
end
def reprD (d : D) : Option Str := match toPyR d with
  | some p => if p.showable = true ∧ p.depth ≤ 64 ∧ p.shown.length ≤ sizeLine then some p.shown else none
  | none => none
def dRepr : List D → Option D
  | [d] => (reprD d).map .str
  | _ => none
theorem bc_repr {X : Cx} (hS : SysD X.K) (hg : X.A.guards = some []) (hu : X.A.units + 65 < cLine) : BC X (.builtin "repr") dRepr := by
  intro Z Hb H P vs ds r hl s e Q q
  unfold dRepr at e
  split at e
  · rename_i d
    obtain ⟨z, e1, rfl⟩ := Option.map_eq_some_iff.mp e
    unfold reprD at e1
    split at e1
    · rename_i p e2
      split at e1
      · rename_i hz
        cases e1
        obtain ⟨h1, h2, h3⟩ := hz
        match vs, hl with
        | [v], _ =>
          have s0 : Sp X.K X.mg Z Hb H ((v, d) :: P) := s
          have fin := q (.str p.shown) H (s0.drop.put fun _ => .str)
          intro pins s' σ us I rv
          obtain ⟨u, rfl, ru⟩ := vals1 rv
          obtain ⟨Y, F, rr⟩ := s0.head
          obtain ⟨as, a1, a2⟩ := rr.reads I hS e2 ru
          cases a1 with
          | none => exact PySem.P.repr_of_none ⟨.str _, H, I.tok _, ⟨_, rfl⟩, fin⟩
          | bool b => exact PySem.P.repr_of_bool ⟨.str _, H, I.tok _, ⟨_, rfl⟩, fin⟩
          | int i t => exact PySem.P.repr_of_int (by simpa [PyData.showable] using h1) ⟨.str _, H, I.tok _, ⟨_, rfl⟩, fin⟩
          | str x t => exact PySem.P.repr_of_str ⟨.str _, H, I.tok _, ⟨_, rfl⟩, fin⟩ h3
          | list b1 b2 b3 b4 => exact PySem.repr_of_reads' (Reads.list b1 b2 b3 b4) h1 (fun _ => a2) hg (by omega) (fun _ _ h => h) (fun h' u tk hk => ⟨.str _, H, I.kept (t' := tk) hk, ⟨_, rfl⟩, fin⟩) h3
          | tuple b1 b2 b3 b4 => exact PySem.repr_of_reads' (Reads.tuple b1 b2 b3 b4) h1 (fun _ => a2) hg (by omega) (fun _ _ h => h) (fun h' u tk hk => ⟨.str _, H, I.kept (t' := tk) hk, ⟨_, rfl⟩, fin⟩) h3
          | dict b1 b2 b3 b4 b5 => exact PySem.repr_of_reads' (Reads.dict b1 b2 b3 b4 b5) h1 (fun _ => a2) hg (by omega) (fun _ _ h => h) (fun h' u tk hk => ⟨.str _, H, I.kept (t' := tk) hk, ⟨_, rfl⟩, fin⟩) h3
      · cases e1
    · cases e1
  · cases e
end DL
set_option Elab.async false
set_option linter.all false
set_option maxRecDepth 100000
set_option maxHeartbeats 4000001
namespace DL
open PySem.Spec PySem L2 PyProof.Rows
def sysB (K : PySem.W.Frag) : Bool := match K.lookup sysModules with
  | some o => decide (o.cls = .type "dict")
  | none => false
theorem sysB_ok {K : PySem.W.Frag} (h : sysB K = true) : SysD K := by
  unfold sysB at h
  split at h
  · rename_i o e
    exact ⟨o, e, of_decide_eq_true h⟩
  · cases h
def fragS (n : Nat) (g : Addr → Option Obj) : PySem.W.Frag := He.frG g (sysModules :: He.asD g n)
abbrev AlS : Type := Bool × He.AlD
def obsS (n : Nat) (fa : List He.Fa) (fn : List He.DefD) (ex : PySem.W.Frag → Bool) (g : Addr → Option Obj) : AlS := (sysB (fragS n g) && ex (fragS n g), He.obsD fa fn (fragS n g))
structure SaysS (fa : List He.Fa) (fn : List He.DefD) (ex : PySem.W.Frag → Bool) (K : PySem.W.Frag) : Prop where
  sys : SysD K
  ext : ex K = true
  old : He.SaysD fa fn K
def hookS (n : Nat) (fa : List He.Fa) (fn : List He.DefD) (ex : PySem.W.Frag → Bool) : PySem.W.Hook where
  α := AlS
  obs := fun s => obsS n fa fn ex s.heap.get?
  val := fun _ => (true, He.valD fn)
  says := fun _ h => ∃ K : PySem.W.Frag, K.In h ∧ SaysS fa fn ex K
  of := fun _ _ e => by
    have e1 := congrArg (fun z : AlS => z.1) e
    have e2 := congrArg (fun z : AlS => z.2) e
    obtain ⟨h1, h2⟩ := He.ba e1
    exact ⟨_, He.frG_in, ⟨sysB_ok h1, h2, e2⟩⟩
  keeps := fun _ _ _ ⟨K, hin, c⟩ k => ⟨K, PySem.W.Frag.In.keeps hin k, c⟩
theorem obsS_eq {n : Nat} {fa : List He.Fa} {fn : List He.DefD} {ex : PySem.W.Frag → Bool} {g : Addr → Option Obj} {s : Shared} (h : ∀ a, g a = s.heap.get? a) : obsS n fa fn ex g = (hookS n fa fn ex).obs s := by
  (have e : g = s.heap.get? := funext h)
  rw [e] <;> rfl
theorem kbinds_of {K : PySem.W.Frag} {x qual : Str} {params : Arguments} {body : List Stmt} {scope : Scope} {kws : List (Str × V)} {f : Addr} {fd : FuncData} {ps ks : List Str} {ord : List Nat} {n : Nat} (F : FunD K x qual params body scope [] kws f fd)
    (h : ∀ (kV doc pm' : Value) (an : Option Addr) (cdv ct : Value) (us ws : List Value), us.length = n → ws.length = ks.length → bindArgs (PySem.W.fnOf x qual params body scope .none kV doc pm' an cdv ct) ⟨us, ks.zip ws⟩ = pure (ps.zip (pm ord (us ++ ws ++ [])))) :
    ∀ (s : Shared) (us ws : List Value), K.In s.heap → us.length = n → ws.length = ks.length → BindsTo s fd ⟨us, ks.zip ws⟩ (ps.zip (pm ord (us ++ ws ++ []))) := by
  obtain ⟨oc, od, dV, kV, doc, pmv, an, cdv, ct, osl, rfl, lk, hcd, hD, hK⟩ := F.ex
  (rcases hD with ⟨_, rfl⟩ | ⟨e, _⟩)
  · exact fun s us ws _ l1 l2 => .of_eq (h kV doc pmv an cdv ct us ws l1 l2)
  · exact absurd rfl e
theorem endG {P : Program} {w : World} {K : PySem.W.Frag} {mg mb : Str → Option Value} {k : Nat} {lf at_ : Addr} {fd : FuncData} {px : Str} {sp : L2.Sp} {sh : Shared} {its : List Value} {nums : List Int}
    (inK : K.In sh.heap) (nsM : sh.heap.Ns mainGlobals mg) (nsB : sh.heap.Ns builtinsNs mb) (bootB : ∀ x : Str, x ≠ "__name__" → mb x = bootBuiltins x) (noLim : sh.heap.NoLimit) (noGen : sh.gens = #[])
    (hAt : sh.heap.get? at_ = some { cls := .type "list", data := .seq its.toArray }) (hInts : IntsAre its nums) (hSize : nums.length ≤ sizeLine) (room : Room k callerA)
    (prom : ∀ base : Heap, K.In base → base.Ns mainGlobals mg → FnG P w K mg base k lf fd [px] sp) (bnd : ∀ (s : Shared) (u : Value), BindsTo s fd ⟨[u], []⟩ [(px, u)])
    (post : ∀ H : Hp, Only H → ScrAt K H at_ (nums.map V.int) → sp [.ref at_] H (fun v _ => v = .bl true) E0) :
    codeAny (model P w) callerA (.call (.ref lf) ⟨[.ref at_], []⟩) (fun r s' => r = .ok (.ret (.bool true)) ∧ OldK sh.heap s'.heap ∧ s'.os = sh.os ∧ AllBare s'.gens) sh := by
  have relI := vals_ints hInts
  have lenI := hInts.length
  have main : ∀ H : Hp, Only H → ScrAt K H at_ (nums.map V.int) → HOk P w H sh.heap → (∀ b, H b ≠ none → b = at_) → (H at_ ≠ none → K.lookup at_ = none) →
      codeAny (model P w) callerA (.call (.ref lf) ⟨[.ref at_], []⟩) (fun r s' => r = .ok (.ret (.bool true)) ∧ OldK sh.heap s'.heap ∧ s'.os = sh.os ∧ AllBare s'.gens) sh := by
    intro H only scr hok onlyA freeK
    have hid : ∀ {b : Addr} {o : Obj}, sh.heap.get? b = some o → H b = none → (hidT sh.heap H).get? b = some o := fun e n => hidT_get e n
    have notD : ∀ {b : Addr} {o : Obj} {es : Array DictEntry} {ep : Nat}, sh.heap.get? b = some o → o.data = .dict es ep → H b = none := fun {b o es ep} e d => by
      cases q : H b with
      | none => rfl
      | some u =>
        have eb : b = at_ := onlyA b (by rw [q]; simp)
        subst eb
        rw [hAt] at e
        cases e
        have d2 : Data.seq its.toArray _ = Data.dict es ep := d
        cases d2
    have keepNs : ∀ {b : Addr} {m : Str → Option Value}, sh.heap.Ns b m → (hidT sh.heap H).Ns b m := fun {b m} ⟨o, es, ep, e, d, r⟩ => ⟨o, es, ep, hid e (notD e d), d, r⟩
    have inB : K.In (hidT sh.heap H) := fun b o e => hid (inK b o e) (by
      cases q : H b with
      | none => rfl
      | some u =>
        have eb : b = at_ := onlyA b (by rw [q]; simp)
        subst eb
        have z := freeK (by rw [q]; simp)
        rw [z] at e
        cases e)
    have modB : Mod K mg (hidT sh.heap H) := ⟨inB, keepNs nsM, ⟨mb, keepNs nsB, bootB⟩, let ⟨mc, z1, z2⟩ := noLim; ⟨mc, keepNs z1, z2⟩⟩
    have env : Env0 P w K mg (hidT sh.heap H) callerA [] sh H := ⟨rfl, modB, fun b o e => of_hidT e, Nat.le_of_eq (hidT_size _ _), trivial, fun b hb => absurd (show b ∈ ([] : List Addr) from hb) (by simp), hok, .of_eq noGen⟩
    refine codeAny_mono ((prom _ inB (keepNs nsM)).run callerA [] sh H ⟨[.ref at_], []⟩ [.ref at_] [.ref at_] _ _ room rfl env (bnd sh (.ref at_)) (.cons rfl .nil) (post H only scr)) fun r s' out => ?_
    cases r with
    | error e => exact False.elim out
    | ok fl =>
      cases fl with
      | next => exact False.elim out
      | brk => exact False.elim out
      | cont => exact False.elim out
      | ret u =>
        obtain ⟨v, H2, os, bare, un, hok2, rv, q⟩ := out
        have q2 : v = .bl true := q
        subst q2
        obtain rfl : u = Value.bool true := rv
        (refine ⟨rfl, OldK.of_keep fun b o e => ?_, os, bare⟩)
        cases q : H b with
        | none => exact un.keep b o e q (by intro zz; exact absurd (show b ∈ ([] : List Addr) from zz) (by simp)) (by simp)
        | some u =>
          rcases only b with z | ⟨ob, xs, z⟩
          · rw [q] at z
            cases z
          · have z2 := un.frzs b ob _ z
            obtain ⟨e1, _⟩ := hok b _ z
            obtain ⟨e2, _⟩ := hok2 b _ z2
            rw [e] at e1
            cases e1
            exact e2
  cases inW : K.lookup at_ with
  | some o =>
    have e := inK at_ o inW
    rw [hAt] at e
    cases e
    refine main (fun _ => none) (fun _ => .inl rfl) (.inr ⟨_, its.toArray, _, inW, rfl, rfl, rfl, by rw [List.size_toArray, lenI]; exact hSize, by simpa using relI⟩) (fun b u z => ?_) (fun b z => absurd rfl z) fun z => absurd rfl z
    have z2 : (none : Option HO) = some u := z
    cases z2
  | none =>
    refine main (fun b => if b = at_ then some (.frz { cls := .type "list", data := .seq its.toArray } (.lst (nums.map V.int))) else none) (fun b => ?_) (.inl ⟨{ cls := .type "list", data := .seq its.toArray }, if_pos rfl⟩) (fun b u z => ?_) (fun b z => ?_) fun _ => inW
    · by_cases hb : b = at_
      · (exact .inr ⟨_, _, if_pos hb⟩)
      · exact .inl (if_neg hb)
    · by_cases hb : b = at_
      · have z2 := (if_pos hb).symm.trans z
        cases z2
        subst hb
        exact ⟨hAt, by rw [List.length_map]; exact hSize, its, _, relI, hAt⟩
      · have z2 := (if_neg hb).symm.trans z
        cases z2
    · by_cases hb : b = at_
      · exact hb
      · exact absurd (if_neg hb) z
theorem ints_reps {K : PySem.W.Frag} {mg : Str → Option Value} {H : Hp} {Z : Addr → Prop} : ∀ nums : List Int, Reps K mg H Z (nums.map V.int) (nums.map D.int) []
  | [] => .nil
  | i :: r => .cons (F := []) .int (ints_reps r)
/-- the law by its mirror: m is what it reckons of the script -/
theorem walk_ofG {l : PySem.W.OpenLaw} {n k : Nat} {q : Program} {loose : List Str} {XP : (Str → Option Value) → Heap → Prop} {YP : World → Heap → Prop} {d : DefRec} {px : Str} {m : MF}
    (hn : l.most = some n) (hn2 : n ≤ sizeLine) (hdf : d.params.defaults = []) (room : Room k callerA)
    (law : ∀ nums : List Int, nums.length ≤ n → ∃ ds', m [.scr (nums.map D.int)] = some (.bl true, ds'))
    (prom : ∀ (w : World) (mg : Str → Option Value) (lf : Addr) (h : Heap), YP w h → h.Ns mainGlobals mg → mg d.name = some (.ref lf) →
      ∃ (K : PySem.W.Frag) (fd : FuncData), K.In h ∧ (∀ (s : Shared) (u : Value), BindsTo s fd ⟨[u], []⟩ [(px, u)]) ∧
        ∀ base : Heap, K.In base → base.Ns mainGlobals mg → FnG l.prog w K mg base k lf fd [px] (spD K mg 1 m)) : PySem.W.WalkO q loose XP YP l.row.toRowW d [] (fun f vs => PySem.call f vs) := by
  refine Att.attach_call hn hdf fun w s₀ s₁ mg mb lf o pmv cd doc at_ its nums G Y ho hd hcd hmg hobj hints hlen hg => ?_
  obtain ⟨K, fd, inK, hb, hF⟩ := prom w mg lf _ Y G.T.g hmg
  refine endG inK G.T.g G.T.b G.T.builtins G.T.nolimit hg hobj hints (Nat.le_trans hlen hn2) room hF hb fun H only scr => ?_
  obtain ⟨ds', em⟩ := law nums hlen
  refine ⟨rfl, fun _ => True, H, [.scr (nums.map D.int)], .bl true, ds', rfl, ?_, em, fun v H' s' => ?_⟩
  · refine ⟨⟨[], ?_, List.nodup_nil, fun a m => by cases m⟩, fun _ _ e => e, fun _ _ => trivial⟩
    exact .cons (F := []) (.scr scr (ints_reps nums)) .nil
  · exact s'.bl
end DL
set_option Elab.async false
set_option linter.all false
set_option maxRecDepth 100000
set_option maxHeartbeats 4000001
namespace DL
open PySem.Spec PySem L2 PyProof.Rows
def iAny (m : ME) : MI := fun δ => match iLst m δ with
  | some r => some r
  | none => match iTup m δ with
    | some r => some r
    | none => iTxt m δ
theorem Room.u65 {k : Nat} {A : Around} (r : Room k A) : A.units + 65 < cLine := by have := r.un; omega
/-- a def that is called: its name, its parameters, what it reckons; dd its defaults -/
structure CalF (P : Program) (w : World) (K : PySem.W.Frag) (mg : Str → Option Value) (base : Heap) (k : Nat) (x : Str) (ps : List Str) (dd : List D) (m : MF) : Prop where
  ex : ∃ (f : Addr) (fd : FuncData) (dvs : List V) (dsv : List Value), FnG P w K mg base k f fd ps (spD K mg ps.length m) ∧ mg x = some (.ref f) ∧ PySem.W.keepIn K (.ref f) = true ∧ Binds K fd ps dsv ∧ Vals dvs dsv ∧ ∀ H Y, Reps K mg H Y dvs dd []
/-- .. with keywords named ks behind n values -/
structure CalK (P : Program) (w : World) (K : PySem.W.Frag) (mg : Str → Option Value) (base : Heap) (k : Nat) (x : Str) (ps : List Str) (m : MF) (n : Nat) (ks : List Str) (ord : List Nat) : Prop where
  ex : ∃ (f : Addr) (fd : FuncData), FnG P w K mg base k f fd ps (spD K mg ps.length m) ∧ mg x = some (.ref f) ∧ PySem.W.keepIn K (.ref f) = true ∧
    ∀ (s : Shared) (us ws : List Value), K.In s.heap → us.length = n → ws.length = ks.length → BindsTo s fd ⟨us, ks.zip ws⟩ (ps.zip (pm ord (us ++ ws ++ [])))
/-- a constant of the module -/
def GlD (K : PySem.W.Frag) (mg : Str → Option Value) (x : Str) (d : D) : Prop := ∃ (u : Value) (v : V), mg x = some u ∧ RelV v u ∧ ∀ H Y, Rep K mg H Y v d []
section
variable {X : Cx} {x : Str} {p pos : Pos} {e : Expr} {es : List Expr} {as bs : List AS} {k : Nat} {ps ks : List Str} {m : MF} {ord inv : List Nat} {kws : List Keyword} {dd : List D}
theorem ii_any {tg iter : Expr} {mi : ME} (h : IG X iter mi) : II X tg iter (iAny mi) := by
  intro Z Hb H σ δ L ds δ' s e R q
  unfold iAny at e
  split at e
  · rename_i r e1
    cases e
    exact ii_lst h s e1 R q
  · split at e
    · rename_i r e1
      cases e
      exact ii_tup h s e1 R q
    · exact ii_txt h s e R q
theorem x_var (i : Nat) (hN : X.N[i]? = some x := by rfl) (hv : Vis X.env.scope x := by first | exact Or.inl rfl | exact Or.inr (Or.inl rfl) | exact Or.inr (Or.inr rfl)) (hd : (x == ("__debug__" : Str)) = false := by decide)
    (hcd : (x == ("__classdict__" : Str)) = false := by decide) : IG X (.Name x pos) (mVar i) := ig_var i (pe_var hN hv hd hcd)
theorem x_mv (i : Nat) (hN : X.N[i]? = some x := by rfl) (hv : Vis X.env.scope x := by first | exact Or.inl rfl | exact Or.inr (Or.inl rfl) | exact Or.inr (Or.inr rfl)) (hd : (x == ("__debug__" : Str)) = false := by decide)
    (hcd : (x == ("__classdict__" : Str)) = false := by decide) : IG X (.Name x pos) (mMv i) := ig_mv i (pe_var hN hv hd hcd)
theorem x_gl {d : D} (g : GlD X.K X.mg x d) (hg : Gl X x := by rfl) (hdb : (x == ("__debug__" : Str)) = false := by decide) : IG X (.Name x pos) (mC d) := by
  obtain ⟨u, v, h1, h2, h3⟩ := g
  exact ig_glob hg h1 h2 h3 hdb
theorem x_ty (t : BT) (hm : X.mg x = none) (hv : bootBuiltins x = some (.type t.name)) (hg : Gl X x := by rfl) (hn : x ≠ "__name__" := by decide) (hdb : (x == ("__debug__" : Str)) = false := by decide) : IG X (.Name x pos) (mC (.ty t)) := ig_ty t hg hm hv hn hdb
theorem x_blt {g : List D → Option D} {id : String} {r : ML} (hb : BC X (.builtin id) g) (hm : X.mg x = none) (hv : bootBuiltins x = some (.builtin id)) (ha : IL X (e :: es) r) (hg : Gl X x := by rfl) (hn : x ≠ "__name__" := by decide) (hdb : (x == ("__debug__" : Str)) = false := by decide)
    (he : starEach (e :: es) X.env = (false, eval e X.env) :: starEach es X.env := by rfl) (hpl : (backTo pos (starEach es X.env)).any (·.1) = false := by rfl) : IG X (.Call (.Name x p) (e :: es) [] pos) (mCallB g r) := ig_callB hb hg hm hv ha hn hdb he hpl
theorem x_bty {g : List D → Option D} {id : String} {r : ML} (hb : BC X (.type id) g) (hm : X.mg x = none) (hv : bootBuiltins x = some (.type id)) (ha : IL X (e :: es) r) (hg : Gl X x := by rfl) (hn : x ≠ "__name__" := by decide) (hdb : (x == ("__debug__" : Str)) = false := by decide)
    (he : starEach (e :: es) X.env = (false, eval e X.env) :: starEach es X.env := by rfl) (hpl : (backTo pos (starEach es X.env)).any (·.1) = false := by rfl) : IG X (.Call (.Name x p) (e :: es) [] pos) (mCallB g r) := ig_callTy hb hg hm hv ha hn hdb he hpl
theorem x_call (c : CalF X.prog X.w X.K X.mg X.base k x ps dd m) (hr : Room k X.A) (hg : X.A.guards = some []) (ha : IA X (e :: es) as) (hn : as.length + dd.length = ps.length := by rfl) (hgl : Gl X x := by rfl) (hdb : (x == ("__debug__" : Str)) = false := by decide)
    (he : starEach (e :: es) X.env = (false, eval e X.env) :: starEach es X.env := by rfl) (hpl : (backTo pos (starEach es X.env)).any (·.1) = false := by rfl) : IG X (.Call (.Name x p) (e :: es) [] pos) (mCall m as dd) := by
  obtain ⟨f, fd, dvs, dsv, F, hm, hk, hb, hd, hdd⟩ := c.ex
  exact ig_call dd F hr hg hgl hm hk hb hd hdd ha hn hdb he hpl
theorem x_callK0 (inv : List Nat) (c : CalK X.prog X.w X.K X.mg X.base k x ps m 0 ks ord) (hr : Room k X.A) (hg : X.A.guards = some []) (hkw : IAk X kws bs) (hn : bs.length + ([] : List D).length = ps.length := by rfl) (hl2 : bs.length = ks.length := by rfl) (hi : invOk ps.length ord inv = true := by decide)
    (hall : (backToKw pos (keywordEach kws X.env)).all (·.1.isSome) = true := by rfl) (hks : (backToKw pos (keywordEach kws X.env)).filterMap (·.1) = ks := by rfl) (hgl : Gl X x := by rfl)
    (hdb : (x == ("__debug__" : Str)) = false := by decide) (hpl : ((backTo pos (starEach [] X.env)).any (·.1) || (backToKw pos (keywordEach kws X.env)).any (·.1.isNone)) = false := by rfl) :
    IG X (.Call (.Name x p) [] kws pos) (mCall (mPerm ord inv m) bs []) := by
  obtain ⟨f, fd, F, hm, hk, hb⟩ := c.ex
  exact ig_callK0 [] F hr hg hgl hm hk hb .nil (fun _ _ => .nil) hkw hn hl2 hi hall hks hdb hpl
theorem x_a0 : IA X [] [] := ia_nil
theorem x_av (i : Nat) (t : IA X es as) (hN : X.N[i]? = some x := by rfl) (hv : Vis X.env.scope x := by first | exact Or.inl rfl | exact Or.inr (Or.inl rfl) | exact Or.inr (Or.inr rfl)) (hd : (x == ("__debug__" : Str)) = false := by decide)
    (hcd : (x == ("__classdict__" : Str)) = false := by decide) (hs : starEach (.Name x p :: es) X.env = (false, eval (.Name x p) X.env) :: starEach es X.env := by rfl) : IA X (.Name x p :: es) (.v i :: as) := ia_v i (pe_var hN hv hd hcd) t hs
theorem x_ae {me : ME} (h : IG X e me) (t : IA X es as) (hs : starEach (e :: es) X.env = (false, eval e X.env) :: starEach es X.env := by rfl) : IA X (e :: es) (.e me :: as) := ia_e h t hs
theorem x_lc {me : ME} {r : ML} (h : IG X e me) (t : IL X es r) (hs : starEach (e :: es) X.env = (false, eval e X.env) :: starEach es X.env := by rfl) : IL X (e :: es) (mCons me r) := il_cons h t hs
theorem x_pv (i : Nat) (hN : X.N[i]? = some x := by rfl) (hv : Vis X.env.scope x := by first | exact Or.inl rfl | exact Or.inr (Or.inl rfl) | exact Or.inr (Or.inr rfl)) (hd : (x == ("__debug__" : Str)) = false := by decide)
    (hcd : (x == ("__classdict__" : Str)) = false := by decide) : IP X (.Name x pos) i pVar := ip_var i (pe_var hN hv hd hcd)
theorem x_psub {b : Expr} {i : Nat} {mp : MP} {mk : MK} (hu : X.A.units + 65 < cLine) (h : IP X e i mp) (hk : IK X b mk) (hs : PlainIx b := by intro _ _; rfl) : IP X (.Subscript e b pos) i (pSub mp mk) := ip_sub hu h hk hs
theorem x_ix {a b : Expr} {ma mb : ME} (hu : X.A.units + 65 < cLine) (ha : IG X a ma) (hb : IG X b mb) (hs : PlainIx b := by intro _ _; rfl) : IG X (.Subscript a b pos) (mBin dIx ma mb) := ig_ix hu ha hb hs
theorem x_cmp {a b : Expr} {ma mb : ME} {op : CmpOp} {g : D → D → Option D} (ho : BR X (compareOp op) g) (ha : IG X a ma) (hb : IG X b mb) (hm : behindInMarks op b = false := by first | exact nobehind _ (by decide) (by decide) | rfl) : IG X (.Compare a [op] [b] pos) (mBin g ma mb) := ig_cmp ho ha hb hm
theorem x_tcmp {a b : Expr} {ma mb : ME} {op : CmpOp} {g : D → D → Option D} (ho : BR X (compareOp op) g) (ha : IG X a ma) (hb : IG X b mb) (hm : behindInMarks op b = false := by first | exact nobehind _ (by decide) (by decide) | rfl) : IT X (.Compare a [op] [b] pos) (toT (mBin g ma mb)) := it_cmp ho ha hb hm
theorem x_chain {a b c : Expr} {ma mb mc : ME} {op op' : CmpOp} {g g' : D → D → Option D} (ho : BR X (compareOp op) g) (ho' : BR X (compareOp op') g') (ha : IG X a ma) (hb : IG X b mb) (hc : IG X c mc) (hm : lastMarks [op, op'] [b, c] = false := by with_unfolding_all rfl) : IG X (.Compare a [op, op'] [b, c] pos) (mChain g g' ma mb mc) := ig_chain ho ho' ha hb hc hm
theorem x_tchain {a b c : Expr} {ma mb mc : ME} {op op' : CmpOp} {g g' : D → D → Option D} (ho : BR X (compareOp op) g) (ho' : BR X (compareOp op') g') (ha : IG X a ma) (hb : IG X b mb) (hc : IG X c mc) (hm : lastMarks [op, op'] [b, c] = false := by with_unfolding_all rfl) : IT X (.Compare a [op, op'] [b, c] pos) (toT (mChain g g' ma mb mc)) := it_chain ho ho' ha hb hc hm
theorem x_val {a : Expr} {ma : ME} (ha : IG X a ma) (he : ∀ whole, isTrue a X.env whole = (do let v ← whole; standAt a.pos; holding [v] (truthy v)) := by intro _; rfl) : IT X a (mTru ma) := it_val ha he
variable {P : Nat → Bool}
theorem x_set {pos' : Pos} {me : ME} (i : Nat) (nd : X.N.Nodup) (h : IG X e me) (hP : P i = false := by rfl) (hi : X.N[i]? = some x := by rfl) (hx : Loc X.env.scope x := by first | exact Or.inl rfl | exact Or.inr rfl) (hs : swapsWith e (some (.Name x pos')) pos.line X.env = pure false := by rfl) (hf : X.fn x = true ∨ X.env.scope.names.lookup x = some .local := by first | exact .inl rfl | exact .inr rfl) :
    IS X P (.Assign [.Name x pos'] e pos) (sSet i me) := is_set i hP nd hi hx h hs hf
theorem x_expr {me : ME} (h : IG X e me) (hs : swapsWith e none pos.line X.env = pure false := by rfl) : IS X P (.Expr e pos) (sExpr me) := is_expr h hs
theorem x_put {o b : Expr} {i : Nat} {mp : MP} {mk : MK} {me : ME} {pos' : Pos} (hu : X.A.units + 65 < cLine) (he : IG X e me) (ho : IP X o i mp) (hk : IK X b mk)
    (ha : ∀ v, assign (.Subscript o b pos') X.env v = (do
      let ov ← (holding [v] (eval o X.env))
      let iv ← holding [v, ov] (eval b X.env)
      standAt pos'
      (holding [v, ov, iv] (setItem ov iv v))
      release [v, ov, iv] []) := by intro _; rfl)
    (hs : swapsWithSole [.Subscript o b pos'] e pos.line X.env = pure false := by rfl) (hw : swappedStores [.Subscript o b pos'] e X.env = pure none := by rfl)
    (h1 : (assignEach [.Subscript o b pos'] X.env).map (·.2) = [assign (.Subscript o b pos') X.env] := by rfl) : IS X P (.Assign [.Subscript o b pos'] e pos) (sPut i mp mk me) := is_put hu he ho hk ha hs hw h1
theorem x_for {tg iter : Expr} {body : List Stmt} {mi : MI} {t : MG} {b : MS} {is : List Nat} (hpo : PassesOwn (model X.prog X.w) X.A X.env X.xe) (hi : II X tg iter mi) (ht : IGt X is tg t) (hb : ISs X P body b) (hc : X.calm = true := by rfl) (hP : ∀ i ∈ is, P i = false := by decide) (hs : ∀ x, foldedSetIterable iter X.env x = pure x := by intro _; rfl) :
    IS X P (.For tg iter body [] pos) (sFor mi t b) := is_for hpo hc hi ht hb hP hs
theorem x_tg (i : Nat) (nd : X.N.Nodup) (hi : X.N[i]? = some x := by rfl) (hx : Loc X.env.scope x := by first | exact Or.inl rfl | exact Or.inr rfl) (hf : X.fn x = true ∨ X.env.scope.names.lookup x = some .local := by first | exact .inl rfl | exact .inr rfl) : IGt X [i] (.Name x pos) (tName i) := it_name i (pg_name nd hi hx hf)
theorem x_rng1 {a : Expr} {r : ML} {tg : Expr} (hm : X.mg "range" = none) (ha : IL X [a] r) (hg : Gl X "range" := by rfl) (hs : starEach [a] X.env = [(false, eval a X.env)] := by rfl) : II X tg (.Call (.Name "range" p) [a] [] pos) (mRng1 r) := ii_rng1 hg hm ha hs
theorem x_lcomp {elt tg iter : Expr} {ifs : List Expr} {scope : Scope} {own : List (Str × Nat)} {mi : MI} {t : MG} {c : MT} {me : ME} {is : List Nat} (nd : X.N.Nodup) (hi : II X tg iter mi) (ok : BlkOk X.N X.env.scope scope own) (ht : ∀ s H C cl fp, IGt (bX X scope s H C cl fp) is tg t) (hc : ∀ s H C cl fp, ITs (bX X scope s H C cl fp) ifs c) (he : ∀ s H C cl fp, IG (bX X scope s H C cl fp) elt me)
    (hcl : X.calm = true := by rfl) (hsub : ∀ i ∈ is, i ∈ own.map (·.2) := by decide) (hs : ∀ x, foldedSetIterable iter X.env x = pure x := by intro _; rfl) : IG X (.ListComp elt [⟨tg, iter, ifs, 0⟩] scope pos) (mLc mi (own.map (·.2)) t c me) := ig_lc hcl nd hi ok ht hc he hsub hs
def kC (d : D) : MK := fun _ => some d
theorem ik_str {i j pos} : IK X (.Constant (.str i) j pos) (kC (.str i)) := by
  intro Z Hb H σ δ L d s e' Q q
  cases e'
  exact wE_of pe_str (q _ _ (fun _ _ h => h) (s.put fun _ => .str))
theorem ik_int {i j pos} : IK X (.Constant (.int i) j pos) (kC (.int i)) := by
  intro Z Hb H σ δ L d s e' Q q
  cases e'
  exact wE_of pe_int (q _ _ (fun _ _ h => h) (s.put fun _ => .int))
theorem lt64 {a c : Nat} (h : a + 65 < c) : a + 64 < c := by omega
variable {o : Expr} {name : Str} {apos cpos : Pos} {T id : String} {g : D → List D → Option (D × D)} {g' : D → List D → Option D} {i : Nat} {mp : MP} {r : ML} {rk : MKs} {a : ME}
theorem x_methP (pa : PlainAttrs T) (slot : Slot T name id) (hty : typeOf (.builtin id) = pure (.type "method_descriptor")) (hg : MB X id g) (ho : IP X o i mp) (ha : IKs X (e :: es) rk) (hbase : attributeBase o name X.env (eval o X.env) = eval o X.env := by rfl) (hfew : ((backTo cpos (starEach (e :: es) X.env)).all (fun x => !x.1) && (backToKw cpos (keywordEach [] X.env)).all (fun x => x.1.isSome) && decide ((e :: es).length + ([] : List Keyword).length + (if ([] : List Keyword).isEmpty then 0 else 1) < 30)) = true := by rfl) (hline : (apos.endLine == cpos.line) = true := by rfl) (hs : starEach (e :: es) X.env = (false, eval e X.env) :: starEach es X.env := by rfl) (hplain : (backTo cpos (starEach es X.env)).any (·.1) = false := by rfl) :
    IG X (.Call (.Attribute o name apos) (e :: es) [] cpos) (mMethP T g i mp rk) := ig_methP pa slot hty hg ho ha hbase hfew hline hs hplain
theorem x_methV (pa : PlainAttrs T) (slot : Slot T name id) (hty : typeOf (.builtin id) = pure (.type "method_descriptor")) (hg : BM X id g') (ho : IG X o a) (ha : IL X (e :: es) r) (hbase : attributeBase o name X.env (eval o X.env) = eval o X.env := by rfl) (hfew : ((backTo cpos (starEach (e :: es) X.env)).all (fun x => !x.1) && (backToKw cpos (keywordEach [] X.env)).all (fun x => x.1.isSome) && decide ((e :: es).length + ([] : List Keyword).length + (if ([] : List Keyword).isEmpty then 0 else 1) < 30)) = true := by rfl) (hline : (apos.endLine == cpos.line) = true := by rfl) (hs : starEach (e :: es) X.env = (false, eval e X.env) :: starEach es X.env := by rfl) (hplain : (backTo cpos (starEach es X.env)).any (·.1) = false := by rfl) :
    IG X (.Call (.Attribute o name apos) (e :: es) [] cpos) (mMethV T g' a r) := ig_methV pa slot hty hg ho ha hbase hfew hline hs hplain
theorem x_meth {x : Str} {px : Pos} (i : Nat) (pa : PlainAttrs T) (slot : Slot T name id) (hty : typeOf (.builtin id) = pure (.type "method_descriptor")) (hg : MB X id g) (ha : IL X (e :: es) r) (hN : X.N[i]? = some x := by rfl) (hv : Vis X.env.scope x := by first | exact Or.inl rfl | exact Or.inr (Or.inl rfl) | exact Or.inr (Or.inr rfl)) (hd : (x == ("__debug__" : Str)) = false := by decide)
    (hcd : (x == ("__classdict__" : Str)) = false := by decide)
    (hbase : attributeBase (.Name x px) name X.env (eval (.Name x px) X.env) = eval (.Name x px) X.env := by rfl) (hfew : ((backTo cpos (starEach (e :: es) X.env)).all (fun x => !x.1) && (backToKw cpos (keywordEach [] X.env)).all (fun x => x.1.isSome) && decide ((e :: es).length + ([] : List Keyword).length + (if ([] : List Keyword).isEmpty then 0 else 1) < 30)) = true := by rfl) (hline : (apos.endLine == cpos.line) = true := by rfl) (hs : starEach (e :: es) X.env = (false, eval e X.env) :: starEach es X.env := by rfl) (hplain : (backTo cpos (starEach es X.env)).any (·.1) = false := by rfl) :
    IG X (.Call (.Attribute (.Name x px) name apos) (e :: es) [] cpos) (mMeth T g i r) := ig_meth pa slot hty hg (pe_var hN hv hd hcd) ha hbase hfew hline hs hplain
end
section
variable {P : Program} {w : World} {K : PySem.W.Frag} {mg : Str → Option Value} {base : Heap} {k : Nat} {x y qual : Str} {params : Arguments} {body : List Stmt} {scope : Scope} {kws : List (Str × V)} {f : Addr} {fd : FuncData} {ps ks : List Str} {m : MF} {ord : List Nat} {n : Nat}
theorem calF_of (F : FunD K x qual params body scope [] kws f fd) (G : FnG P w K mg base k f fd ps (spD K mg ps.length m)) (gm : mg y = some (.ref f))
    (h : ∀ (kV doc pm : Value) (an : Option Addr) (cdv ct : Value) (us : List Value), us.length = ps.length → bindArgs (PySem.W.fnOf x qual params body scope .none kV doc pm an cdv ct) ⟨us, []⟩ = pure (ps.zip us)) : CalF P w K mg base k y ps [] m :=
  ⟨f, fd, [], [], G, gm, F.kp, F.bindsN h, .nil, fun _ _ => .nil⟩
theorem calK_of (F : FunD K x qual params body scope [] kws f fd) (G : FnG P w K mg base k f fd ps (spD K mg ps.length m)) (gm : mg y = some (.ref f))
    (h : ∀ (kV doc pm' : Value) (an : Option Addr) (cdv ct : Value) (us ws : List Value), us.length = n → ws.length = ks.length → bindArgs (PySem.W.fnOf x qual params body scope .none kV doc pm' an cdv ct) ⟨us, ks.zip ws⟩ = pure (ps.zip (pm ord (us ++ ws ++ [])))) : CalK P w K mg base k y ps m n ks ord :=
  ⟨f, fd, G, gm, F.kp, kbinds_of F h⟩
theorem gl_str {h : Heap} {z : Str} (X : K.In h) (G : h.Ns mainGlobals mg) (c : (He.Fa.str x z).ok K = true) : GlD K mg x (.str z) := by
  obtain ⟨t, e⟩ := He.str_ok X G c
  exact ⟨_, .str z, e, ⟨t, rfl⟩, fun _ _ => .str⟩
end
end DL
set_option Elab.async false
set_option linter.all false
set_option maxRecDepth 100000
set_option maxHeartbeats 4000001
namespace DL
open PySem.Spec PySem L2 PyProof.Rows
theorem loopF_ind {t : MG} {b : MS} {J : List D → Env → Prop} (step : ∀ d r δ, J (d :: r) δ → ∃ δ1 δ2, t d δ = some δ1 ∧ b δ1 = some (.nx δ2) ∧ J r δ2) : ∀ ds δ, J ds δ → ∃ δ', loopF t b ds δ = some (.nx δ') ∧ J [] δ'
  | [], δ, h => ⟨δ, rfl, h⟩
  | d :: r, δ, h => by
    obtain ⟨δ1, δ2, e1, e2, h2⟩ := step d r δ h
    obtain ⟨δ', e3, h3⟩ := loopF_ind step r δ2 h2
    exact ⟨δ', by simp only [loopF, e1, e2, e3], h3⟩
theorem loopC_ind {own : List Nat} {t : MG} {c : MT} {m : ME} {J : List D → Env → List D → Prop} (step : ∀ d r δ acc, J (d :: r) δ acc → ∃ δ1 δ2, t d δ = some δ1 ∧ ((c δ1 = some (false, δ2) ∧ J r (wipeE δ2 own) acc) ∨ (c δ1 = some (true, δ2) ∧ ∃ x δ3, m δ2 = some (x, δ3) ∧ J r (wipeE δ3 own) (acc ++ [x])))) :
    ∀ ds δ acc, J ds δ acc → ∃ δ' acc', loopC own t c m ds δ acc = some (acc', δ') ∧ J [] δ' acc'
  | [], δ, acc, h => ⟨δ, acc, rfl, h⟩
  | d :: r, δ, acc, h => by
    obtain ⟨δ1, δ2, e1, h1⟩ := step d r δ acc h
    rcases h1 with ⟨e2, h2⟩ | ⟨e2, x, δ3, e3, h2⟩
    · obtain ⟨δ', acc', e4, h3⟩ := loopC_ind step r _ _ h2
      exact ⟨δ', acc', by simp only [loopC, e1, e2, e4], h3⟩
    · obtain ⟨δ', acc', e4, h3⟩ := loopC_ind step r _ _ h2
      exact ⟨δ', acc', by simp only [loopC, e1, e2, e3, e4], h3⟩
theorem fzs_ints : ∀ C : List Int, fzs (C.map D.int) = C.map D.int
  | [] => rfl
  | c :: r => by simp only [List.map_cons, fzs, fz, fzs_ints r]
theorem isFzs_ints : ∀ C : List Int, isFzs (C.map D.int) = true
  | [] => rfl
  | c :: r => by simp only [List.map_cons, isFzs, isFz, isFzs_ints r, Bool.and_self]
/-- the draws' state -/
structure Dr where
  L : List Int
  o : Bool
  C : List Int
  r : Int
  t : Int
def Dr.ks : List Key := [.inr "large", .inr "cells", .inr "rest", .inr "turn"]
def Dr.d (s : Dr) : D := .dct true Dr.ks [.lst true (s.L.map D.int), .lst s.o (s.C.map D.int), .int s.r, .int s.t]
structure Dr.Ok (b : Nat) (s : Dr) : Prop where
  L : ∀ x ∈ s.L, 0 ≤ x
  C : ∀ x ∈ s.C, 0 ≤ x
  r : 0 ≤ s.r
  t0 : 0 ≤ s.t
  t : s.t ≤ b
  ls : s.L.length ≤ 1000
  cs : s.C.length ≤ 1000
theorem Dr.own (s : Dr) : isFz s.d = false := rfl
theorem ch_large (s : Dr) : chN s.d (.sub (.inr "large")) = some 0 := by kernel_rfl
theorem ch_cells (s : Dr) : chN s.d (.sub (.inr "cells")) = some 1 := by kernel_rfl
theorem ch_rest (s : Dr) : chN s.d (.sub (.inr "rest")) = some 2 := by kernel_rfl
theorem ch_turn (s : Dr) : chN s.d (.sub (.inr "turn")) = some 3 := by kernel_rfl
theorem walk1 {d e t e' : D} {st : Stp} {j : Nat} (ho : ownC d = true) (hj : chN d st = some j) (he : (kids d)[j]? = some e) (hw : walk e [] = some (t, e')) : walk d [st] = some (t, setKids d ((kids d).set j e')) := by
  rw [walk]
  simp only [hj, he, ho, if_true, hw]
theorem walk_ints (o : Bool) (C : List Int) : walk (.lst o (C.map D.int)) [] = some (.lst false (C.map D.int), .lst false (C.map D.int)) := by
  cases o
  · have h : isFz (.lst false (C.map D.int)) = true := by simp only [isFz, isFzs_ints]; rfl
    rw [walk, if_pos h]
  · rw [walk, if_neg (by simp [isFz])]
    simp only [fz, fzs_ints]
theorem walk_rest (s : Dr) : walk s.d [.sub (.inr "rest")] = some (.int s.r, s.d) := walk1 rfl (ch_rest s) rfl rfl
theorem walk_turn (s : Dr) : walk s.d [.sub (.inr "turn")] = some (.int s.t, s.d) := walk1 rfl (ch_turn s) rfl rfl
theorem walk_cells (s : Dr) : walk s.d [.sub (.inr "cells")] = some (.lst false (s.C.map D.int), ({ s with o := false } : Dr).d) := walk1 rfl (ch_cells s) rfl (walk_ints _ _)
theorem set_rest (s : Dr) (i : Int) : dSetIt s.d (.str "rest") (.int i) = some ({ s with r := i } : Dr).d := by kernel_rfl
theorem set_turn (s : Dr) (i : Int) : dSetIt s.d (.str "turn") (.int i) = some ({ s with t := i } : Dr).d := by kernel_rfl
theorem at_large (s : Dr) : atO s.d [.sub (.inr "large")] = some (.lst true (s.L.map D.int)) := by
  simp only [atO, ch_large]
  rfl
theorem put_large (s : Dr) (L : List Int) : putO s.d [.sub (.inr "large")] (.lst true (L.map D.int)) = ({ s with L := L } : Dr).d := by
  simp only [putO, ch_large]
  rfl
theorem dMul_r {i j : Int} (h : -(2 ^ 64) < j ∧ j < 2 ^ 64) : dMul (.int i) (.int j) = some (.int (i * j)) := if_pos (.inr h)
theorem dMul_l {i j : Int} (h : -(2 ^ 64) < i ∧ i < 2 ^ 64) : dMul (.int i) (.int j) = some (.int (i * j)) := if_pos (.inl h)
theorem dMod_p {i j : Int} (h : 0 < j) : dMod (.int i) (.int j) = some (.int (i % j)) := by
  simp only [dMod]
  rw [if_pos (by omega), Int.fmod_eq_emod_of_nonneg _ (by omega)]
theorem dFdiv_p {i j : Int} (h : 0 < j) (h2 : j < 1073741824) : dFdiv (.int i) (.int j) = some (.int (i / j)) := by
  simp only [dFdiv]
  rw [if_pos (by omega), Int.fdiv_eq_ediv_of_nonneg _ (by omega)]
theorem dPow_p {i : Int} {j : Nat} (h : 0 ≤ i ∧ i < 2 ^ 64) (hj : j ≤ 1000000) : dPow (.int i) (.int j) = some (.int (i ^ j)) := by
  simp only [dPow]
  rw [if_pos (by omega)]
  simp
theorem ev_var {i : Nat} {δ : DL.Env} {d : D} (h : δ[i]? = some (some d)) (hf : isFz d = true) : mVar i δ = some (d, δ) := by
  unfold mVar
  rw [h]
  exact if_pos hf
theorem ev_int {i : Nat} {δ : DL.Env} {x : Int} (h : δ[i]? = some (some (.int x))) : mVar i δ = some (.int x, δ) := ev_var h rfl
theorem ev_bin {g : D → D → Option D} {a b : ME} {δ δ1 δ2 : DL.Env} {x y d : D} (h1 : a δ = some (x, δ1)) (h2 : b δ1 = some (y, δ2)) (h3 : g x y = some d) : mBin g a b δ = some (d, δ2) := by
  unfold mBin
  rw [h1]
  simp only [h2, h3]
theorem ev_cons {a : ME} {r : ML} {δ δ1 δ2 : DL.Env} {x : D} {xs : List D} (h1 : a δ = some (x, δ1)) (h2 : r δ1 = some (xs, δ2)) : mCons a r δ = some (x :: xs, δ2) := by
  unfold mCons
  rw [h1]
  simp only [h2]
theorem ev_callB {g : List D → Option D} {r : ML} {δ δ1 : DL.Env} {xs : List D} {d : D} (h1 : r δ = some (xs, δ1)) (h2 : g xs = some d) : mCallB g r δ = some (d, δ1) := by
  unfold mCallB
  rw [h1]
  simp only [h2]
theorem ev_call1 {g : List D → Option D} {a : ME} {δ δ1 : DL.Env} {x d : D} (h1 : a δ = some (x, δ1)) (h2 : g [x] = some d) : mCallB g (mCons a mNil) δ = some (d, δ1) := ev_callB (ev_cons h1 rfl) h2
theorem ev_tup {r : ML} {δ δ1 : DL.Env} {xs : List D} (h1 : r δ = some (xs, δ1)) (hz : xs.length ≤ sizeLine) : mTup r δ = some (.tup xs, δ1) := by
  unfold mTup
  rw [h1]
  exact if_pos hz
theorem ev_seq {a b : MS} {δ δ1 : DL.Env} (h : a δ = some (.nx δ1)) : sCons a b δ = b δ1 := by
  unfold sCons
  rw [h]
theorem ev_set {i : Nat} {m : ME} {δ δ1 : DL.Env} {d : D} (h : m δ = some (d, δ1)) (hi : i < δ1.length) : sSet i m δ = some (.nx (δ1.set i (some d))) := by
  unfold sSet
  rw [h]
  exact if_pos hi
theorem ev_ret {m : ME} {δ δ1 : DL.Env} {d : D} (h : m δ = some (d, δ1)) : sRet m δ = some (.rt d δ1) := by
  unfold sRet
  rw [h]
theorem ev_if1 {t : MT} {a b : MS} {δ δ1 : DL.Env} (h : t δ = some (true, δ1)) : sIf t a b δ = a δ1 := by
  unfold sIf
  rw [h]
theorem ev_if0 {t : MT} {a b : MS} {δ δ1 : DL.Env} (h : t δ = some (false, δ1)) : sIf t a b δ = b δ1 := by
  unfold sIf
  rw [h]
theorem ev_toT {m : ME} {δ δ1 : DL.Env} {b : Bool} (h : m δ = some (.bl b, δ1)) : toT m δ = some (b, δ1) := by
  unfold toT
  rw [h]
theorem ev_ints {m : ME} {δ δ1 : DL.Env} {o : Bool} {C : List Int} (h : m δ = some (.lst o (C.map D.int), δ1)) : iAny m δ = some (C.map D.int, δ1) := by
  have e : iLst m δ = some (C.map D.int, δ1) := by
    unfold iLst
    rw [h]
    simp only [itemsD, fzs_ints]
  unfold iAny
  rw [e]
theorem ev_for {i : MI} {t : MG} {b : MS} {δ δ1 : DL.Env} {ds : List D} (h : i δ = some (ds, δ1)) : sFor i t b δ = loopF t b ds δ1 := by
  unfold sFor
  rw [h]
theorem toPys_ints : ∀ L : List Int, toPys (L.map D.int) = some (L.map PyData.int)
  | [] => rfl
  | x :: r => by simp only [List.map_cons, toPys, toPy, toPys_ints r]
theorem canLay_ints : ∀ L : List Int, PyData.canLayAll0 (L.map PyData.int) = true
  | [] => rfl
  | x :: r => by simp only [List.map_cons, PyData.canLayAll0, PyData.canLay0, canLay_ints r]; rfl
theorem depth_ints : ∀ L : List Int, PyData.depthAll (L.map PyData.int) = 0
  | [] => rfl
  | x :: r => by simp only [List.map_cons, PyData.depthAll, PyData.depth, depth_ints r]; rfl
theorem shaped_ints (L : List Int) : SeqAt.shaped (.list (L.map PyData.int)) = true := by
  unfold SeqAt.shaped
  simp only [PyData.canLay0, canLay_ints, PyData.depth, depth_ints]
  decide
theorem dNe_ints {o o' : Bool} (L : List Int) : dNe (.lst o (L.map D.int)) (.lst o' []) = some (.bl (!L.isEmpty)) := by
  have e : pyEq (.lst o (L.map D.int)) (.lst o' []) = some L.isEmpty := by
    unfold pyEq
    simp only [toPy, toPys_ints, toPys, Option.map_some, shaped_ints]
    have : SeqAt.shaped (.list []) = true := shaped_ints []
    rw [this]
    cases L <;> rfl
  show (pyEq (.lst o (L.map D.int)) (.lst o' [])).map (fun b => D.bl !b) = _
  rw [e]
  rfl
theorem fz_dr (s : Dr) : fz s.d = .dct false Dr.ks [.lst false (s.L.map D.int), .lst false (s.C.map D.int), .int s.r, .int s.t] := by
  simp only [Dr.d, fz, fzs, fzs_ints]
theorem path_largeF (s : Dr) (r : DL.Env) : mPath 0 (pSub pVar (kC (.str "large"))) (some (fz s.d) :: r) = some (.lst false (s.L.map D.int), some (fz s.d) :: r) := by
  have hw : walk (fz s.d) [.sub (.inr "large")] = some (.lst false (s.L.map D.int), fz s.d) := by
    have hf : isFz (fz s.d) = true := isFz_fz _
    rw [fz_dr] at hf ⊢
    have hj : chN (.dct false Dr.ks [.lst false (s.L.map D.int), .lst false (s.C.map D.int), .int s.r, .int s.t]) (.sub (.inr "large")) = some 0 := by kernel_rfl
    rw [walk]
    simp only [hj]
    show (if false = true then _ else if isFz _ = true then _ else _) = _
    rw [if_neg (by decide), if_pos hf]
    show (match walk (.lst false (s.L.map D.int)) [] with | some (t, _) => some (t, _) | none => none) = _
    rw [walk_ints]
  show (match walk (fz s.d) [.sub (.inr "large")] with | some (t, d') => some (t, (some (fz s.d) :: r).set 0 (some d')) | none => none) = _
  rw [hw]
  rfl
theorem ev_large (s : Dr) (r : DL.Env) : purT [true] (toT (mBin dNe (mPath 0 (pSub pVar (kC (.str "large")))) (mLst mNil))) (some s.d :: r) = some (!s.L.isEmpty, some s.d :: r) := by
  unfold purT
  have e : (toT (mBin dNe (mPath 0 (pSub pVar (kC (.str "large")))) (mLst mNil))) (fzE (keepM [true] (some s.d :: r))) = some (!s.L.isEmpty, some (fz s.d) :: fzE (keepM [] r)) :=
    ev_toT (ev_bin (path_largeF s _) (y := .lst true []) rfl (dNe_ints _))
  rw [e]
theorem ev_callv0 {m : MF} {d d' r : D} {δ : DL.Env} (hf : isFz d = false) (h : m [d] = some (r, [d'])) : mCall m [.v 0] [] (some d :: δ) = some (r, some d' :: δ) := by
  simp [mCall, mArgs, lend, restore, hf, h]
/-- a def of the state and a value -/
theorem ev_callv0e {m : MF} {a : ME} {d d1 d' x x' r : D} {δ δ1 : DL.Env} (ha : a (some d :: δ) = some (x, some d1 :: δ1)) (hf : isFz d1 = false) (h : m [d1, x] = some (r, [d', x'])) : mCall m [.v 0, .e a] [] (some d :: δ) = some (r, some d' :: δ1) := by
  simp [mCall, mArgs, lend, restore, hf, h, ha]
theorem ev_if_e {t : MT} {a b : ME} {δ δ1 : DL.Env} {k : Bool} (h : t δ = some (k, δ1)) : mIf t a b δ = if k = true then a δ1 else b δ1 := by
  unfold mIf
  rw [h]
  cases k <;> rfl
theorem ev_pop0 (s : Dr) {x : Int} {L : List Int} (hL : s.L = x :: L) (r : DL.Env) : mMethP "list" gPopAt 0 (pSub pVar (kC (.str "large"))) (ksCons (kC (.int 0)) ksNil) (some s.d :: r) = some (.int x, some ({ s with L := L } : Dr).d :: r) := by
  show (match atO s.d [.sub (.inr "large")] with | some t => (if tyD "list" t = true then (match gPopAt t [.int 0] with | some (a, t') => some (a, (some s.d :: r).set 0 (some (putO s.d [.sub (.inr "large")] t'))) | none => none) else none) | none => none) = _
  rw [at_large, hL]
  have e : gPopAt (.lst true ((x :: L).map D.int)) [.int 0] = some (.int x, .lst true (L.map D.int)) := by
    simp only [gPopAt]
    rw [if_pos (show -(2 ^ 63 : Int) ≤ 0 ∧ (0 : Int) < 2 ^ 63 by decide)]
    have : ixN ((x :: L).map D.int).length 0 = some 0 := by
      unfold ixN
      simp
    simp only [this]
    rfl
  show (if true = true then (match gPopAt (.lst true ((x :: L).map D.int)) [.int 0] with | some (a, t') => some (a, (some s.d :: r).set 0 (some (putO s.d [.sub (.inr "large")] t'))) | none => none) else none) = _
  rw [if_pos rfl, e]
  show some (D.int x, some (putO s.d [.sub (.inr "large")] (.lst true (L.map D.int))) :: r) = _
  rw [put_large]
theorem ev_varf {i : Nat} {δ : DL.Env} {d : D} (h : δ[i]? = some (some d)) : mVar i δ = some (fz d, δ.set i (some (fz d))) := by
  unfold mVar
  rw [h]
  by_cases hf : isFz d = true
  · have e : δ.set i (some (fz d)) = δ := by
      rw [fz_isFz d hf]
      apply List.ext_getElem?
      intro n
      rw [List.getElem?_set]
      by_cases q : i = n
      · subst q
        rw [if_pos rfl, if_pos (List.getElem?_eq_some_iff.mp h).1, h]
      · rw [if_neg q]
    rw [e, fz_isFz d hf]
    exact if_pos hf
  · exact if_neg hf
theorem Dr.Ok.mono {s : Dr} {b c : Nat} (h : s.Ok b) (hc : b ≤ c) : s.Ok c := ⟨h.L, h.C, h.r, h.t0, by have := h.t; omega, h.ls, h.cs⟩
theorem atI_nat {α : Type} {ds : List α} {v : Int} {d : α} (h0 : 0 ≤ v) (h : ds[v.toNat]? = some d) : atI ds v = some d := by
  have hl := (List.getElem?_eq_some_iff.mp h).1
  unfold atI ixN
  rw [if_pos h0, if_pos (by omega)]
  exact h
theorem ev_rng {a : ME} {δ δ1 : DL.Env} {n : Int} (h : a δ = some (.int n, δ1)) (h0 : 0 ≤ n) (h1 : n < 2 ^ 62) : mRng1 (mCons a mNil) δ = some (rngD 0 n.toNat, δ1) := by
  unfold mRng1
  rw [ev_cons h rfl]
  exact if_pos ⟨by omega, h1⟩
theorem ev_lc {i : MI} {own : List Nat} {t : MG} {c : MT} {m : ME} {δ δ1 δ2 : DL.Env} {ds acc : List D} (h : i δ = some (ds, δ1)) (hl : ds.length ≤ sizeLine) (h2 : loopC own t c m ds (wipeE δ1 own) [] = some (acc, δ2)) : mLc i own t c m δ = some (.lst true acc, δ2) := by
  unfold mLc
  rw [h]
  simp only [hl, if_true, h2]
theorem rng_len (a : Int) (n : Nat) : (rngD a n).length = n := by unfold rngD; simp
theorem fzs_get {ds : List D} {j : Nat} {d : D} (h : ds[j]? = some d) : (fzs ds)[j]? = some (fz d) := by rw [fzs_map, List.getElem?_map, h]; rfl
theorem fz_fz (d : D) : fz (fz d) = fz d := fz_isFz _ (isFz_fz d)
/-- a short word of small letters -/
structure Lab (z : Str) : Prop where
  a : 1 ≤ z.length
  b : z.length ≤ 6
  c : ∀ c ∈ z.cps.toList, 97 ≤ c ∧ c ≤ 122
theorem strs_strs : ∀ ys : List Str, strsOf (ys.map D.str) = some ys
  | [] => rfl
  | y :: r => by simp only [List.map_cons, strsOf, strs_strs r]; rfl
theorem join_signs : ∀ cs : List Nat, (Txt.join "" (cs.map fun c => (⟨#[c]⟩ : Str))).cps.toList = cs
  | [] => rfl
  | [c] => by rw [TL.join_eq]; rfl
  | c :: d :: r => by
    have ih := join_signs (d :: r)
    rw [TL.join_eq] at ih ⊢
    have e := TL.tl_join "" ((c :: d :: r).map fun c => (⟨#[c]⟩ : Str))
    have e2 := TL.tl_join "" ((d :: r).map fun c => (⟨#[c]⟩ : Str))
    have e3 : TL.joinL (TL.tl "") ((((c :: d :: r).map fun c => (⟨#[c]⟩ : Str))).map TL.tl) = [c] ++ ((TL.tl "") ++ TL.joinL (TL.tl "") (((d :: r).map fun c => (⟨#[c]⟩ : Str)).map TL.tl)) := rfl
    have e4 : TL.tl "" = [] := rfl
    show TL.tl _ = _
    rw [e, e3, ← e2, e4]
    show [c] ++ ([] ++ TL.tl _) = _
    rw [show TL.tl (Str.join "" ((d :: r).map fun c => (⟨#[c]⟩ : Str))) = d :: r from ih]
    rfl
theorem sum_ones (cs : List Nat) : ((cs.map fun c => (⟨#[c]⟩ : Str)).map (·.length)).sum = cs.length := by
  induction cs with
  | nil => rfl
  | cons c r ih => simp only [List.map_cons, List.sum_cons, ih, List.length_cons]; show 1 + _ = _; omega
theorem ev_methV {T : String} {g : D → List D → Option D} {a : ME} {r : ML} {δ δ1 δ2 : DL.Env} {d x : D} {ds : List D} (ha : a δ = some (d, δ1)) (ht : tyD T d = true) (hr : r δ1 = some (ds, δ2)) (hg : g d ds = some x) : mMethV T g a r δ = some (x, δ2) := by
  unfold mMethV
  rw [ha]
  simp only [ht, if_true, hr, hg]
theorem tyD_str (z : Str) : tyD "str" (.str z) = true := by simp [tyD]
theorem ev_stop {a b : MS} {δ δ1 : DL.Env} {d : D} (h : a δ = some (.rt d δ1)) : sCons a b δ = some (.rt d δ1) := by
  unfold sCons
  rw [h]
theorem ev_par2 {r : ML} {δ δ1 : DL.Env} {i j : Nat} {a b : D} (h : r δ = some ([a, b], δ1)) (hi : i < δ1.length) (hj : j < δ1.length) : sPar [i, j] r δ = some (.nx ((δ1.set i (some a)).set j (some b))) := by
  unfold sPar
  rw [h]
  refine if_pos ⟨rfl, fun x hx => ?_⟩
  simp at hx
  rcases hx with rfl | rfl <;> assumption
theorem ev_calle1 {m : MF} {a : ME} {x x' r : D} {δ : DL.Env} (ha : a δ = some (x, δ)) (h : m [x] = some (r, [x'])) : mCall m [.e a] [] δ = some (r, δ) := by
  simp [mCall, mArgs, lend, restore, ha, h]
theorem ev_calle2 {m : MF} {a b : ME} {x x' y y' r : D} {δ : DL.Env} (ha : a δ = some (x, δ)) (hb : b δ = some (y, δ)) (h : m [x, y] = some (r, [x', y'])) : mCall m [.e a, .e b] [] δ = some (r, δ) := by
  simp [mCall, mArgs, lend, restore, ha, hb, h]
theorem ev_and1 {a b : ME} {δ δ1 : DL.Env} (h : a δ = some (.bl true, δ1)) : mAnd a b δ = b δ1 := by
  unfold mAnd
  rw [h]
  rfl
theorem ev_and0 {a b : ME} {δ δ1 : DL.Env} (h : a δ = some (.bl false, δ1)) : mAnd a b δ = some (.bl false, δ1) := by
  unfold mAnd
  rw [h]
  rfl
theorem ev_or2 {a b : MT} {δ : DL.Env} {p q : Bool} (h : a δ = some (p, δ)) (h2 : p = false → b δ = some (q, δ)) : tOr2 a b δ = some (p || q, δ) := by
  unfold tOr2
  rw [h]
  cases p
  · simp only [h2 rfl, Bool.false_or]
  · rfl
theorem ev_not1 {a : MT} {δ δ1 : DL.Env} {p : Bool} (h : a δ = some (p, δ1)) : tNot1 a δ = some (!p, δ1) := by
  unfold tNot1
  rw [h]
theorem ev_tru {a : ME} {δ δ1 : DL.Env} {p : Bool} (h : a δ = some (.bl p, δ1)) : mTru a δ = some (p, δ1) := by
  unfold mTru
  rw [h]
  rfl
theorem ev_chain {g g' : D → D → Option D} {a b c : ME} {δ : DL.Env} {x y z : D} {p q : Bool} (h1 : a δ = some (x, δ)) (h2 : b δ = some (y, δ)) (h3 : c δ = some (z, δ)) (hf : isFz y = true) (e1 : g x y = some (.bl p)) (e2 : g' y z = some (.bl q)) : mChain g g' a b c δ = some (.bl (p && q), δ) := by
  unfold mChain
  rw [h1]
  simp only [h2, hf, if_true, e1]
  cases p
  · rfl
  · simp only [h3, e2]
    rfl
end DL
set_option Elab.async false
set_option linter.all false
set_option maxRecDepth 100000
set_option maxHeartbeats 4000001
namespace DL
open PySem.Spec PySem L2 PyProof.Rows
def sAsg (m : ME) (t : MG) : MS := fun δ => match m δ with
  | some (d, δ1) => match t d δ1 with
    | some δ2 => some (.nx δ2)
    | none => none
  | none => none
theorem is_asg {X : Cx} {P : Nat → Bool} {tg e : Expr} {pos : Pos} {is : List Nat} {m : ME} {t : MG} (he : IG X e m) (ht : IGt X is tg t) (hP : ∀ i ∈ is, P i = false) (hs : swapsWithSole [tg] e pos.line X.env = pure false) (hw : swappedStores [tg] e X.env = pure none)
    (h1 : (assignEach [tg] X.env).map (·.2) = [assign tg X.env]) : IS X P (.Assign [tg] e pos) (sAsg m t) := by
  intro Z Hb H σ δ L fl s e' Dn f
  unfold sAsg at e'
  split at e'
  · rename_i d δ1 e1
    split at e'
    · rename_i δ2 e2
      cases e'
      exact wS_of (ps_asg pe_w pg_w hs hw h1) (he s e1 _ fun v H1 s1 => ht s1 e2 _ fun σ' H' s' ho => f σ' H' s' (ho.same hP))
    · cases e'
  · cases e'
/-- enumerate of a list -/
def enumF : Nat → List D → List D
  | _, [] => []
  | k, d :: r => .tup [.int (k : Int), d] :: enumF (k + 1) r
theorem enum_len : ∀ (k : Nat) (ds : List D), (enumF k ds).length = ds.length
  | _, [] => rfl
  | k, d :: r => by simp [enumF, enum_len (k + 1) r]
theorem enum_get : ∀ {ds : List D} {k i : Nat} {d : D}, ds[i]? = some d → (enumF k ds)[i]? = some (.tup [.int ((k + i : Nat) : Int), d])
  | [], _, _, _, h => by simp at h
  | x :: r, k, 0, d, h => by
    have : x = d := by simpa using h
    subst this
    rfl
  | x :: r, k, i + 1, d, h => by
    have ih := enum_get (ds := r) (k := k + 1) (i := i) (d := d) (by simpa using h)
    show (enumF (k + 1) r)[i]? = _
    rw [ih]
    congr 4
    omega
/-- zip of two lists -/
def zipD (ds es : List D) : List D := (ds.zip es).map fun p => .tup [p.1, p.2]
theorem zip_len (ds es : List D) : (zipD ds es).length = min ds.length es.length := by simp [zipD]
/-- int(i), int(b), int(text) -/
def dInt2 : List D → Option D
  | [.str z] => match PySem.intText? z with
    | some n => if z.length ≤ 640 then some (.int n) else none
    | none => none
  | ds => dInt ds
theorem bc_int2 {X : Cx} : BC X (.type "int") dInt2 := by
  intro Z Hb H P vs ds d hl s e Q q
  unfold dInt2 at e
  split at e
  · rename_i z
    split at e
    · rename_i n hn
      split at e
      · rename_i hz
        cases e
        match vs, hl with
        | [v], _ =>
          have s0 : Sp X.K X.mg Z Hb H ((v, .str z) :: P) := s
          exact wC_of call_int_str ⟨z, n, by rw [s0.str], hn, hz, q _ _ (s0.drop.put fun _ => .int)⟩
      · cases e
    · cases e
  · exact bc_int hl s e Q q
/-- one mirror, or another -/
def mAlt (a b : ME) : ME := fun δ => match a δ with
  | some r => some r
  | none => b δ
theorem ig_alt {X : Cx} {e : Expr} {a b : ME} (ha : IG X e a) (hb : IG X e b) : IG X e (mAlt a b) := by
  intro Z Hb H σ δ L d δ' s e' Q q
  unfold mAlt at e'
  split at e'
  · rename_i r e1
    cases e'
    exact ha s e1 Q q
  · exact hb s e' Q q
end DL
set_option Elab.async false
set_option linter.all false
set_option maxRecDepth 100000
set_option maxHeartbeats 4000001
namespace DL
open PySem.Spec PySem L2 PyProof.Rows
section
variable {K : PySem.W.Frag} {mg : Str → Option Value} {H Hb : Hp} {Z : Addr → Prop} {P : PL}
/-- a new instance, without attributes -/
theorem Sp.newO {c : Str} {C x dx : Addr} (s : Sp K mg Z Hb H P) (hc : mg c = some (.ref C)) (hx : H x = none) (hd : H dx = none) (hne : dx ≠ x) : Sp K mg Z Hb (upd (upd H dx (.own x)) x (.ins C dx [])) ((.ref x, .obj true c [] []) :: P) := by
  have s1 : Sp K mg Z Hb (upd H dx (.own x)) P := s.grow (grow_upd hd)
  have hx' : upd H dx (.own x) x = none := by rw [upd_ne (Ne.symm hne)]; exact hx
  refine Sp.new (Q := []) s1 hx' fun Y F r => ?_
  cases r
  exact ⟨[x], .objO (fs := []) (F := []) upd_same hc rfl .nil, .inr rfl⟩
end
theorem make_guards {A : Around} {C : Addr} {us : List Value} {kw : List (Str × Value)} (h : A.guards = some []) : (A.under (.builtin "type.__call__" ⟨.ref C :: us, kw⟩)).guards = some [] := by
  first | exact h | simpa [Around.under, Code.isGuard, guardIds] using h
def tMakeG (C : Addr) (sp : L2.Sp) (dvs : List V) (t : TA) : TE := fun σ H Q => t σ H fun vs H1 => ∀ x dx, H1 x = none → H1 dx = none → dx ≠ x →
  sp (.ref x :: (vs ++ dvs)) (upd (upd H1 dx (.own x)) x (.ins C dx [])) (fun v H2 => v = .non ∧ Q (.ref x) H2) E0
section
variable {X : Cx} {k : Nat} {f C : Addr} {fd : FuncData} {ps : List Str} {sp : L2.Sp} {dvs : List V} {dsv : List Value} {x : Str} {p pos : Pos} {e : Expr} {es : List Expr}
theorem run_makeG {pins : List (Addr × Obj)} {σ : L2.St} {H : Hp} {s : Shared} {Q : VK} {us : List Value} {vs : List V} (M : Mk X.K C f) (F : FnG X.prog X.w X.K X.mg X.base k f fd ps sp) (hr : Room (k + 1) X.A) (hg : X.A.guards = some []) (hb : Binds X.K fd ps dsv) (hd : Vals dvs dsv)
    (I : Inv X pins σ H s) (r : Vals vs us) (h : ∀ x dx, H x = none → H dx = none → dx ≠ x → sp (.ref x :: (vs ++ dvs)) (upd (upd H dx (.own x)) x (.ins C dx [])) (fun v H2 => v = .non ∧ Q (.ref x) H2) E0) :
    wpAny (model X.prog X.w) X.A (call (Value.ref C) us) (EP X pins σ Q) X.xe s := by
  have free : ∀ i, H (s.heap.objs.size + i) = none := fun i => I.hok.fresh (Nat.le_add_right _ i)
  have hq := h _ _ (free 1) (free 0) (Nat.ne_of_lt (Nat.lt_succ_self s.heap.objs.size))
  have I2 : Inv X pins σ _ _ := Inv.made (C := C) I
  have r2 : Vals (V.ref (s.heap.objs.size + 1) :: (vs ++ dvs)) (Value.ref (s.heap.objs.size + 1) :: (us ++ dsv)) := .cons rfl (r.append hd)
  have hl : (Value.ref (s.heap.objs.size + 1) :: us ++ dsv).length = ps.length := by
    have e := r2.length
    rw [F.len _ _ _ _ hq] at e
    exact e.symm
  refine wpAny_call (make_map (f := f) I.kIn M.makes M.init (beq_iff_eq.mp M.fn) (codeAny_mono (F.run _ X.stack _ _ ⟨Value.ref (s.heap.objs.size + 1) :: us, []⟩ (Value.ref (s.heap.objs.size + 1) :: (us ++ dsv)) _ _ E0 (hr.make C us [])
    (make_guards hg) (I2.env0.make C us []) (hb _ (Value.ref (s.heap.objs.size + 1) :: us) I2.kIn hl) r2 hq) fun r s' hq' => ?_))
  match r, hq' with
  | .ok (.ret u), hq' =>
    obtain ⟨_, H', I3, none, rfl, q3⟩ := I2.after hq'
    exact And.intro none ⟨.ref _, H', I3, rfl, q3⟩
theorem pe_makeG (M : Mk X.K C f) (F : FnG X.prog X.w X.K X.mg X.base k f fd ps sp) (hr : Room (k + 1) X.A) (hg : X.A.guards = some []) (hgl : Gl X x) (hm : X.mg x = some (.ref C)) (hb : Binds X.K fd ps dsv) (hd : Vals dvs dsv)
    (hdb : (x == ("__debug__" : Str)) = false) (he : starEach (e :: es) X.env = (false, eval e X.env) :: starEach es X.env) (hpl : (backTo pos (starEach es X.env)).any (·.1) = false) :
    PE X (.Call (.Name x p) (e :: es) [] pos) (tMakeG C sp dvs (wA X (e :: es))) := by
  refine ⟨fun pins s σ H Q I h => wpAny_Call_Name_kw (ld_glob I hgl hm ?_ hdb)⟩
  refine PySem.W.callWith_K (h₀ := X.base) I.ok.mod.kin M.kp (thn (h pos pins s I) fun us s1 ⟨vs, H1, I1, r, q⟩ => ⟨I1.kIn, ?_⟩) he hpl
  exact run_makeG M F hr hg hb hd I1 r q
end
/-- C(e, ..): __init__ upon a new instance -/
def mMake (c : Str) (m : MF) (as : List AS) (dd : List D) : ME := fun δ => match mArgs as δ with
  | some (rs, δ1) => match lend rs δ1 with
    | some (ls, δ2) => match m (.obj true c [] [] :: (ls.map (·.1) ++ dd)) with
      | some (.non, self :: ds') => if ds'.length = ls.length + dd.length then some (self, restore ls ds' δ2) else none
      | _ => none
    | none => none
  | none => none
theorem mMake_of {c : Str} {m : MF} {as : List AS} {dd : List D} {δ δ' : Env} {r : D} (e : mMake c m as dd δ = some (r, δ')) : ∃ rs δ1 ls δ2 ds', mArgs as δ = some (rs, δ1) ∧ lend rs δ1 = some (ls, δ2) ∧ m (.obj true c [] [] :: (ls.map (·.1) ++ dd)) = some (.non, r :: ds') ∧ ds'.length = ls.length + dd.length ∧ δ' = restore ls ds' δ2 := by
  unfold mMake at e
  split at e
  · rename_i rs δ1 e1
    split at e
    · rename_i ls δ2 e2
      split at e
      · rename_i self ds' e3
        split at e
        · rename_i hl
          cases e
          exact ⟨rs, δ1, ls, δ2, ds', e1, e2, e3, hl, rfl⟩
        · cases e
      · cases e
    · cases e
  · cases e
section
variable {X : Cx} {k : Nat} {f C : Addr} {fd : FuncData} {ps : List Str} {n : Nat} {m : MF} {x : Str} {p pos apos : Pos} {e : Expr} {es : List Expr} {as : List AS}
/-- __init__ over the caller's state -/
theorem make_run {dvs : List V} {dd : List D} {Z : Addr → Prop} {Hb H : Hp} {σ : L2.St} {δ δ2 : Env} {L T : PL} {rs : List AR} {vs : List V} {ls : List (D × Option Nat)} {r : D} {ds' : List D} (hc : X.mg x = some (.ref C)) (hdd : ∀ H Y, Reps X.K X.mg H Y dvs dd []) (hn : rs.length + dd.length + 1 = n)
    (av : AV σ rs vs T) (s : Sq X Z Hb H σ δ (T ++ L)) (el : lend rs δ = some (ls, δ2)) (em : m (.obj true x [] [] :: (ls.map (·.1) ++ dd)) = some (.non, r :: ds')) (hl : ds'.length = ls.length + dd.length)
    (Q : VK) (q : ∀ v H', Sq X Z Hb H' σ (restore ls ds' δ2) ((v, r) :: L) → Q v H') {a dx : Addr} (ha : H a = none) (hd : H dx = none) (hne : dx ≠ a) :
    spD X.K X.mg n m (.ref a :: (vs ++ dvs)) (upd (upd H dx (.own a)) a (.ins C dx [])) (fun v H2 => v = .non ∧ Q (.ref a) H2) E0 := by
  obtain ⟨s1, hv, hj⟩ := lend_ok av s el
  have lav := av_len av
  have ldd : dvs.length = dd.length := (hdd H fun _ => True).len
  have s2 : Sp X.K X.mg Z Hb H (((vs ++ dvs).zip (ls.map (·.1) ++ dd)) ++ (L ++ prs σ δ2)) := by
    rw [zip_append (by simp [hv])]
    have c : Sp X.K X.mg Z Hb H (dvs.zip dd ++ (vs.zip (ls.map (·.1)) ++ L ++ prs σ δ2)) := by
      have h0 := s1.sp
      obtain ⟨⟨F, rr, nd, hb⟩, b, fr⟩ := h0
      exact ⟨⟨F, Rps.append (F := []) (hdd H _).zip rr, nd, hb⟩, b, fr⟩
    refine c.perm ?_
    (rw [List.append_assoc, List.append_assoc])
    exact List.perm_append_comm_assoc _ _ _
  have s2' : Sp X.K X.mg Z Hb (upd (upd H dx (.own a)) a (.ins C dx [])) ((V.ref a :: (vs ++ dvs)).zip (D.obj true x [] [] :: (ls.map (·.1) ++ dd)) ++ (L ++ prs σ δ2)) := s2.newO hc ha hd hne
  obtain ⟨Z', Hc, sc, back⟩ := s2'.lend
  refine ⟨by simp only [List.length_cons, List.length_append]; omega, Z', Hc, _, .non, r :: ds', by simp only [List.length_cons, List.length_append, List.length_map]; omega, sc, em, fun v H' s' => ?_⟩
  have hnon : v = .non := s'.non
  refine ⟨hnon, q _ H' ?_⟩
  have s3 : Sp X.K X.mg Z Hb H' ((v, .non) :: ((V.ref a, r) :: (vs ++ dvs).zip ds') ++ (L ++ prs σ δ2)) := back H' _ s'
  have hz : (vs ++ dvs).zip ds' = vs.zip (ds'.take ls.length) ++ dvs.zip (ds'.drop ls.length) := by
    conv => lhs; rw [← List.take_append_drop ls.length ds']
    exact zip_append (by simp; omega)
  rw [hz] at s3
  have s4 : Sp X.K X.mg Z Hb H' (dvs.zip (ds'.drop ls.length) ++ ((vs.zip (ds'.take ls.length) ++ ((V.ref a, r) :: L)) ++ prs σ δ2)) := s3.drop.perm (by
    (simp only [List.cons_append, List.append_assoc])
    refine List.Perm.trans ?_ (List.perm_append_comm_assoc _ _ _)
    have h := (List.perm_middle (a := (V.ref a, r)) (l₁ := vs.zip (ds'.take ls.length) ++ dvs.zip (ds'.drop ls.length)) (l₂ := L ++ prs σ δ2)).symm
    have h2 : (((V.ref a, r) :: (vs.zip (ds'.take ls.length) ++ dvs.zip (ds'.drop ls.length))) ++ (L ++ prs σ δ2)).Perm (vs.zip (ds'.take ls.length) ++ (dvs.zip (ds'.drop ls.length) ++ (V.ref a, r) :: (L ++ prs σ δ2))) := by
      simpa only [List.append_assoc, List.cons_append] using h
    exact h2)
  have s5 : Sq X Z Hb H' σ δ2 (vs.zip (ds'.take ls.length) ++ ((V.ref a, r) :: L)) := ⟨s4.dropL, s1.dom⟩
  have s6 := restore_ok (by simpa using hv) (by simp; omega) hj s5
  rw [restore_take (Nat.le_refl _)] at s6
  exact s6
theorem ig_make (dd : List D) {dvs : List V} {dsv : List Value} (M : Mk X.K C f) (F : FnG X.prog X.w X.K X.mg X.base k f fd ps (spD X.K X.mg n m)) (hr : Room (k + 1) X.A) (hg : X.A.guards = some []) (hgl : Gl X x) (hm : X.mg x = some (.ref C)) (hb : Binds X.K fd ps dsv) (hd : Vals dvs dsv)
    (hdd : ∀ H Y, Reps X.K X.mg H Y dvs dd []) (ha : IA X (e :: es) as) (hn : as.length + dd.length + 1 = n)
    (hdb : (x == ("__debug__" : Str)) = false) (he : starEach (e :: es) X.env = (false, eval e X.env) :: starEach es X.env) (hpl : (backTo pos (starEach es X.env)).any (·.1) = false) :
    IG X (.Call (.Name x p) (e :: es) [] pos) (mMake x m as dd) := by
  intro Z Hb H σ δ L d δ' s e' Q q
  obtain ⟨rs, δ1, ls, δ2, ds', e1, e2, e3, hl, rfl⟩ := mMake_of e'
  refine wE_of (pe_makeG M F hr hg hgl hm hb hd hdb he hpl) ?_
  refine ha s e1 _ fun vs H1 T av s1 a dx h1 h2 h3 => make_run hm hdd ?_ av s1 e2 e3 hl Q q h1 h2 h3
  have := mArgs_len e1
  omega
end
structure CalC (P : Program) (w : World) (K : PySem.W.Frag) (mg : Str → Option Value) (base : Heap) (k : Nat) (x : Str) (ps : List Str) (dd : List D) (m : MF) : Prop where
  ex : ∃ (C f : Addr) (fd : FuncData) (dvs : List V) (dsv : List Value), FnG P w K mg base k f fd ps (spD K mg ps.length m) ∧ mg x = some (.ref C) ∧ Mk K C f ∧ Binds K fd ps dsv ∧ Vals dvs dsv ∧ ∀ H Y, Reps K mg H Y dvs dd []
theorem Sp.ins {K : PySem.W.Frag} {mg : Str → Option Value} {H Hb : Hp} {Z : Addr → Prop} {P : PL} {v : V} {o : Bool} {c : Str} {ns : List Str} {vs : List D} (s : Sp K mg Z Hb H ((v, .obj o c ns vs) :: P)) :
    ∃ a C dx fs, v = .ref a ∧ H a = some (.ins C dx fs) ∧ mg c = some (.ref C) ∧ fs.map (·.1) = ns := by
  obtain ⟨Y, F, r⟩ := s.head
  cases r with
  | objF h z hc e t => exact ⟨_, _, _, _, rfl, h, hc, e⟩
  | objO h hc e t => exact ⟨_, _, _, _, rfl, h, hc, e⟩
end DL
set_option Elab.async false
set_option linter.all false
set_option maxRecDepth 100000
set_option maxHeartbeats 4000001
namespace DL
open PySem.Spec PySem L2 PyProof.Rows
def BTs : List BT := [.int, .bool, .str, .tup, .lst, .dct]
def Tns : List String := ["NoneType", "bool", "int", "str", "tuple", "list", "dict"]
/-- own classes, each with those above it -/
abbrev CT := List (Str × List Str)
structure ClsI (K : PySem.W.Frag) (C : Addr) : Prop where
  cl : Cls K C
  ha : PySem.W.findIn K (.ref C) "__class__" = some (some (.builtin "object.__class__"))
  hn : PySem.W.specialIn K (.builtin "object.__class__") "__get__" = some (some (.builtin "getset_descriptor.__get__"))
  ht : PySem.W.takesIn K (.builtin "object.__class__") = some true
  hm : PySem.W.mroIn K C (.type "object") = some true
structure ClsT (K : PySem.W.Frag) (mg : Str → Option Value) (cs : CT) : Prop where
  one : ∀ c bs, cs.lookup c = some bs → ∃ C, mg c = some (.ref C) ∧ ClsI K C ∧ (∀ t : BT, PySem.W.kitOne K (.ref C) (.type t.name) = some false) ∧ ∀ T ∈ Tns, PySem.W.kitOne K (.type T) (.ref C) = some false
  two : ∀ c bs x bx C C', cs.lookup c = some bs → cs.lookup x = some bx → mg c = some (.ref C) → mg x = some (.ref C') → PySem.W.kitOne K (.ref C) (.ref C') = some (decide (c = x) || bs.contains x)
def clsTB (K : PySem.W.Frag) (cs : CT) : Bool := cs.all fun p =>
  (He.Fa.cls p.1).ok K && (decide (PySem.W.findIn K (.ref (He.ga K p.1)) "__class__" = some (some (.builtin "object.__class__"))) && (decide (PySem.W.specialIn K (.builtin "object.__class__") "__get__" = some (some (.builtin "getset_descriptor.__get__"))) &&
    (decide (PySem.W.takesIn K (.builtin "object.__class__") = some true) && (decide (PySem.W.mroIn K (He.ga K p.1) (.type "object") = some true) && (BTs.all (fun t => decide (PySem.W.kitOne K (.ref (He.ga K p.1)) (.type t.name) = some false)) &&
    (Tns.all (fun T => decide (PySem.W.kitOne K (.type T) (.ref (He.ga K p.1)) = some false)) && cs.all fun q => decide (PySem.W.kitOne K (.ref (He.ga K p.1)) (.ref (He.ga K q.1)) = some (decide (p.1 = q.1) || p.2.contains q.1))))))))
theorem lookup_mem {α β : Type} [BEq α] [LawfulBEq α] : ∀ {l : List (α × β)} {a : α} {b : β}, l.lookup a = some b → (a, b) ∈ l
  | [], _, _, h => by simp at h
  | (x, y) :: r, a, b, h => by
    rw [List.lookup_cons] at h
    split at h
    · rename_i e
      cases h
      have : a = x := by simpa using e
      subst this
      exact List.mem_cons_self
    · exact List.mem_cons_of_mem _ (lookup_mem h)
theorem clsT_of {K : PySem.W.Frag} {h : Heap} {mg : Str → Option Value} {cs : CT} (X : K.In h) (G : h.Ns mainGlobals mg) (c : clsTB K cs = true) (hg : ∀ p ∈ cs, mg p.1 = some (.ref (He.ga K p.1))) : ClsT K mg cs := by
  have all : ∀ p ∈ cs, _ := fun p hp => List.all_eq_true.mp c p hp
  refine ⟨fun c bs hl => ?_, fun c bs x bx C C' hl hx hC hC' => ?_⟩
  · have hp := lookup_mem hl
    have a := all _ hp
    simp only [Bool.and_eq_true, decide_eq_true_eq] at a
    obtain ⟨a1, a2, a3, a4, a5, a6, a7, a8⟩ := a
    refine ⟨_, hg _ hp, ⟨He.cls_ok a1, a2, a3, a4, a5⟩, fun t => ?_, fun T hT => ?_⟩
    · have := List.all_eq_true.mp a6 t (by cases t <;> decide)
      exact of_decide_eq_true this
    · exact of_decide_eq_true (List.all_eq_true.mp a7 T hT)
  · have hp := lookup_mem hl
    have hq := lookup_mem hx
    have a := all _ hp
    simp only [Bool.and_eq_true, decide_eq_true_eq] at a
    obtain ⟨a1, a2, a3, a4, a5, a6, a7, a8⟩ := a
    have e1 := (hg _ hp).symm.trans hC
    have e2 := (hg _ hq).symm.trans hC'
    cases e1
    cases e2
    exact of_decide_eq_true (List.all_eq_true.mp a8 _ hq)
def inT (cs : CT) (c : Str) : Bool := (cs.lookup c).isSome
def subT (cs : CT) (c x : Str) : Bool := decide (c = x) || ((cs.lookup c).getD []).contains x
def dIsO (cs : CT) : List D → Option D
  | [.obj _ c _ _, .glo x] => if inT cs c && inT cs x then some (.bl (subT cs c x)) else none
  | [d, .glo x] => if inT cs x && (isOf .int d).isSome then some (.bl false) else none
  | [.obj _ c _ _, .ty _] => if inT cs c then some (.bl false) else none
  | [.obj _ c _ _, .tup ts] => match tysOf ts with
    | some (_ :: _) => if inT cs c then some (.bl false) else none
    | _ => none
  | ds => dIsi ds
section
variable {K : PySem.W.Frag} {mg : Str → Option Value} {H Hb : Hp} {Z : Addr → Prop}
theorem Rep.tyx {v : V} {d : D} {F : List Addr} (r : Rep K mg H Z v d F) (h0 : isOf .int d ≠ none) : ∃ T ∈ Tns, TyX K H v (.type T) := by
  cases r with
  | non => exact ⟨"NoneType", by decide, .base .non⟩
  | bl => exact ⟨"bool", by decide, .base (.bl _)⟩
  | int => exact ⟨"int", by decide, .base (.int _)⟩
  | str => exact ⟨"str", by decide, .base (.str _)⟩
  | ty => exact absurd rfl h0
  | glo _ => exact absurd rfl h0
  | tup h _ => exact ⟨"tuple", by decide, tyx_tup h⟩
  | scr h _ => exact ⟨"list", by decide, tyx_scr h⟩
  | lstF h _ _ => exact ⟨"list", by decide, .base (.lst h)⟩
  | lstO h _ => exact ⟨"list", by decide, .base (.lst h)⟩
  | dctF h _ _ _ =>
    refine ⟨"dict", by decide, ?_⟩
    rcases h with h | ⟨o, h⟩
    · exact .base (.dK h)
    · exact .fDict h
  | dctO h _ _ => exact ⟨"dict", by decide, .base (.dK h)⟩
  | objF _ _ _ _ _ => exact absurd rfl h0
  | objO _ _ _ _ => exact absurd rfl h0
  | rawF _ _ _ => exact absurd rfl h0
  | rawO _ _ => exact absurd rfl h0
theorem Sp.gloA {P : PL} {v : V} {x : Str} (s : Sp K mg Z Hb H ((v, .glo x) :: P)) : ∃ a, v = .ref a ∧ mg x = some (.ref a) := by
  obtain ⟨Y, F, r⟩ := s.head
  cases r with
  | glo h => exact ⟨_, rfl, h⟩
theorem kit_none {c : Value} (hc : ∀ t : BT, PySem.W.kitOne K c (.type t.name) = some false) : ∀ bs : List BT, PySem.W.kitAny K c (bs.map fun t => Value.type t.name) = some false
  | [] => rfl
  | t :: bs => kitAny_cons (hc t) (fun _ => kit_none hc bs) (fun h => by cases h)
end
theorem bc_isO {X : Cx} {cs : CT} (T : ClsT X.K X.mg cs) : BC X (.builtin "isinstance") (dIsO cs) := by
  intro Z Hb H P vs ds d hl s e Q q
  unfold dIsO at e
  split at e
  · rename_i o c ns ws x
    split at e
    · rename_i hin
      cases e
      have hin := Bool.and_eq_true_iff.mp hin
      obtain ⟨bs, hb⟩ := Option.isSome_iff_exists.mp (show (cs.lookup c).isSome = true from hin.1)
      obtain ⟨bx, hx⟩ := Option.isSome_iff_exists.mp (show (cs.lookup x).isSome = true from hin.2)
      match vs, hl with
      | [v, w], _ =>
        have s0 : Sp X.K X.mg Z Hb H ((v, .obj o c ns ws) :: (w, .glo x) :: P) := s
        obtain ⟨a, C, dx, fs, rfl, hA, hC, hfs⟩ := s0.ins
        obtain ⟨C', rfl, hC'⟩ := s0.drop.gloA
        obtain ⟨C1, hC1, ti, _, _⟩ := T.one c bs hb
        rw [hC] at hC1
        cases hC1
        have k := T.two c bs x bx C C' hb hx hC hC'
        have e3 : subT cs c x = (decide (c = x) || bs.contains x) := by unfold subT; rw [hb]; rfl
        rw [e3] at q
        exact wC_of call_isi ⟨.ref a, .ref C', .ref C, .ref C', _, rfl, .own C', .base (.ins hA ti.cl ti.ha ti.hn ti.ht ti.hm), k, q _ _ (s0.drop.drop.put fun _ => .bl)⟩
    · cases e
  · rename_i d0 x _
    split at e
    · rename_i hin
      cases e
      have hin := Bool.and_eq_true_iff.mp hin
      obtain ⟨bx, hx⟩ := Option.isSome_iff_exists.mp (show (cs.lookup x).isSome = true from hin.1)
      match vs, hl with
      | [v, w], _ =>
        have s0 : Sp X.K X.mg Z Hb H ((v, d0) :: (w, .glo x) :: P) := s
        obtain ⟨C', rfl, hC'⟩ := s0.drop.gloA
        obtain ⟨Y, F, r⟩ := s0.head
        obtain ⟨Tn, hT, ty⟩ := r.tyx (by
          intro h
          have h2 := hin.2
          rw [h] at h2
          cases h2)
        obtain ⟨C1, hC1, _, _, kt⟩ := T.one x bx hx
        rw [hC'] at hC1
        cases hC1
        exact wC_of call_isi ⟨v, .ref C', .type Tn, .ref C', _, rfl, .own C', ty, kt Tn hT, q _ _ (s0.drop.drop.put fun _ => .bl)⟩
    · cases e
  · rename_i o c ns ws t
    split at e
    · rename_i hin
      cases e
      obtain ⟨bs, hb⟩ := Option.isSome_iff_exists.mp (show (cs.lookup c).isSome = true from hin)
      match vs, hl with
      | [v, w], _ =>
        have s0 : Sp X.K X.mg Z Hb H ((v, .obj o c ns ws) :: (w, .ty t) :: P) := s
        obtain ⟨a, C, dx, fs, rfl, hA, hC, hfs⟩ := s0.ins
        have ew := s0.drop.ty
        obtain ⟨C1, hC1, ti, kt, _⟩ := T.one c bs hb
        rw [hC] at hC1
        cases hC1
        exact wC_of call_isi ⟨.ref a, w, .ref C, .type t.name, _, rfl, by rw [ew]; exact .ty _, .base (.ins hA ti.cl ti.ha ti.hn ti.ht ti.hm), kt t, q _ _ (s0.drop.drop.put fun _ => .bl)⟩
    · cases e
  · rename_i o c ns ws ts
    split at e
    · rename_i t0 bs0 e0
      split at e
      · rename_i hin
        cases e
        obtain ⟨bs, hb⟩ := Option.isSome_iff_exists.mp (show (cs.lookup c).isSome = true from hin)
        match vs, hl with
        | [v, w], _ =>
          have s0 : Sp X.K X.mg Z Hb H ((v, .obj o c ns ws) :: (w, .tup ts) :: P) := s
          obtain ⟨a, C, dx, fs, rfl, hA, hC, hfs⟩ := s0.ins
          obtain ⟨C1, hC1, ti, kt, _⟩ := T.one c bs hb
          rw [hC] at hC1
          cases hC1
          have fin : Sp X.K X.mg Z Hb H ((V.bl false, D.bl false) :: P) := s0.drop.drop.put fun _ => .bl
          obtain ⟨Y', F', r'⟩ := s0.drop.head
          cases r' with
          | @tup a2 cs' _ _ h' t' =>
            have hp := cls_all e0 t'
            exact wC_of call_isiS ⟨.ref a, a2, cs', .ref C, _, _, rfl, h', hp, .base (.ins hA ti.cl ti.ha ti.hn ti.ht ti.hm), kit_none kt _, q _ _ fin⟩
      · cases e
    · cases e
  · exact bc_isi hl s e Q q
end DL
set_option Elab.async false
set_option linter.all false
set_option maxRecDepth 100000
set_option maxHeartbeats 4000001
namespace DL
open PySem.Spec PySem L2 PyProof.Rows
/-- k: a list, else a tuple -/
def itN (k : Bool) : String := cond k "list_iterator" "tuple_iterator"
def IsIt (k : Bool) (h : Heap) (it a : Addr) (i : Nat) : Prop := cond k (h.IsListIter it a i) (h.IsTupleIter it a i)
def IsSq (k : Bool) (h : Heap) (a : Addr) (items : Array Value) : Prop := cond k (h.IsList a items) (h.IsTuple a items)
def SqK (k : Bool) (K : PySem.W.Frag) (H : Hp) (a : Addr) (xs : List V) : Prop := cond k (SqL K H a xs) (SqT K H a xs)
section
variable {prog : Program} {w : World} {A : Around} {E : Value → Shared → Prop} {s : Shared} {k : Bool} {h h' : Heap} {it a : Addr} {i : Nat} {items : Array Value}
theorem drawsK (hh : A.handled = none) (k : Bool) (it a : Addr) (hne : a ≠ it) (items : Array Value) : Draws prog w A it [it, a] items.size (fun i v => items[i]? = some v) (fun i h => IsIt k h it a i ∧ IsSq k h a items) := by
  cases k
  · exact Draws.tuple hh it a hne items
  · exact Draws.list hh it a hne items
theorem IsIt.ob (x : IsIt k h it a i) : ∃ o, h.get? it = some o ∧ ∀ v, o.data ≠ .cell v := by
  cases k
  · obtain ⟨o, e, _, d⟩ := (show h.IsTupleIter it a i from x)
    exact ⟨o, e, fun v q => by rw [d] at q; cases q⟩
  · obtain ⟨o, e, _, d⟩ := (show h.IsListIter it a i from x)
    exact ⟨o, e, fun v q => by rw [d] at q; cases q⟩
theorem IsIt.lt (x : IsIt k h it a i) : it < h.objs.size := by
  obtain ⟨o, e, _⟩ := x.ob
  exact Heap.lt_size e
theorem IsIt.keep (x : IsIt k h it a i) (e : ∀ o, h.get? it = some o → h'.get? it = some o) : IsIt k h' it a i := by
  cases k
  · exact Heap.IsTupleIter.at (show h.IsTupleIter it a i from x) e
  · exact Heap.IsListIter.at (show h.IsListIter it a i from x) e
theorem IsSq.keep (x : IsSq k h a items) (e : ∀ o, h.get? a = some o → h'.get? a = some o) : IsSq k h' a items := by
  cases k
  · exact Heap.IsTuple.at (show h.IsTuple a items from x) e
  · exact Heap.IsList.at (show h.IsList a items from x) e
theorem IsSq.lt (x : IsSq k h a items) : a < h.objs.size := by
  cases k
  · obtain ⟨o, e, _⟩ := (show h.IsTuple a items from x)
    exact Heap.lt_size e
  · obtain ⟨o, e, _⟩ := (show h.IsList a items from x)
    exact Heap.lt_size e
theorem iterK {Q : Value → Shared → Prop} (x : IsSq k s.heap a items) (hQ : Q (.ref s.heap.objs.size) { s with heap := s.heap.push { cls := .type (itN k), data := .fields #[.ref a, .int 0 0] } }) : wpAny (model prog w) A (pyIter (.ref a)) Q E s := by
  cases k
  · exact wpAny_pyIter_tuple (show s.heap.IsTuple a items from x) hQ
  · exact wpAny_pyIter_list (show s.heap.IsList a items from x) hQ
end
def lays (h : Heap) : List Obj → Heap
  | [] => h
  | o :: os => lays (h.push o) os
theorem lays_size : ∀ (os : List Obj) (h : Heap), (lays h os).objs.size = h.objs.size + os.length
  | [], _ => rfl
  | o :: os, h => by rw [lays, lays_size os, Heap.size_push, List.length_cons, Nat.add_assoc, Nat.add_comm 1]
theorem lays_old {b : Addr} {o : Obj} : ∀ (os : List Obj) (h : Heap), h.get? b = some o → (lays h os).get? b = some o
  | [], _, e => e
  | u :: os, _, e => lays_old os _ (Heap.get?_push_of_some u e)
theorem lays_at (os : List Obj) : ∀ (h : Heap) (i : Nat) (o : Obj), os[i]? = some o → o.isFreed = false → (lays h os).get? (h.objs.size + i) = some o := by
  induction os with
  | nil => intro h i o e; exact nomatch e
  | cons u os ih =>
    intro h i o e f
    cases i with
    | zero =>
      cases (Option.some.inj e : u = o)
      exact lays_old os _ (Heap.get?_push_size h f)
    | succ i =>
      have z := ih (h.push u) i o e f
      rw [Heap.size_push, Nat.add_assoc, Nat.add_comm 1 i] at z
      exact z
/-- an iterator over l, of a list or of a tuple, ahead of its first item -/
abbrev itO (k : Bool) (l : Addr) : Obj := { cls := .type (itN k), data := .fields #[.ref l, .int 0 0] }
abbrev enumO (it : Addr) : Obj := { cls := .type "enumerate", data := .fields #[.none, .bool false, .ref it, rawInt 0, .none, .none] }
theorem meets_enumT (l : Addr) (items : Array Value) (n : Nat) (dct : Option Addr) (sl : Array (Option Value)) : Meets (Builtin.«enumerate.__new__» ⟨[.type "enumerate", .ref l], []⟩)
    (fun _ R s => s.heap.get? l = some { cls := .type "tuple", dict := dct, data := .seq items n, slots := sl } ∧ R (.ok (.ret (.ref (s.heap.push (itO false l)).objs.size))) { s with heap := lays s.heap [itO false l, enumO s.heap.objs.size] }) := by
  apply Meets.of_wp
  rintro prog w A R ⟨hp, g, d, tk, os⟩ ⟨hl, h⟩
  have own := sub_enumerate
  have seq : Heap.IsTuple (Shared.heap ⟨hp, g, d, tk, os⟩) l items := ⟨_, hl, rfl, n, rfl⟩
  (wp_walk using AutoSeq1.wpAny_loadPart' hl)
  apply wpAny_stack_any
  intro st
  apply wpAny_pure
  split
  · rename_i c _ _ _ _ _
    rcases Bool.eq_false_or_eq_true (c == Value.type "enumerate") with e | e <;> rw [e] <;> (wp_walk using AutoSeq1.wpAny_loadPart' hl, wpAny_pyIter_tuple seq) <;> exact ⟨_, rfl, h⟩
  · (wp_walk using AutoSeq1.wpAny_loadPart' hl, wpAny_pyIter_tuple seq)
    exact ⟨_, rfl, h⟩
section
variable {prog : Program} {w : World} {A : Around} {E : Value → Shared → Prop} {s : Shared}
theorem it_laid (k : Bool) {h : Heap} {i : Nat} {l : Addr} {os : List Obj} (e : os[i]? = some (itO k l)) : IsIt k (lays h os) (h.objs.size + i) l 0 := by
  have z := lays_at os h i _ e rfl
  cases k <;> exact ⟨_, z, rfl, rfl⟩
theorem call_enumK {k : Bool} {l : Addr} {items : Array Value} {Q : Value → Shared → Prop} (seq : IsSq k s.heap l items)
    (h : ∀ h', IsEnum h' (s.heap.objs.size + 1) s.heap.objs.size 0 .none → IsIt k h' s.heap.objs.size l 0 → h'.objs.size = s.heap.objs.size + 2 → (∀ b o, s.heap.get? b = some o → h'.get? b = some o) → Q (.ref (s.heap.objs.size + 1)) { s with heap := h' }) :
    wpAny (model prog w) A (call (Value.type "enumerate") [Value.ref l]) Q E s := by
  match k, seq, h with
  | true, seq, h => exact call_enumerate_list seq h
  | false, seq, h =>
    have e1 : (lays s.heap [itO false l, enumO s.heap.objs.size]).get? (s.heap.objs.size + 1) = some (enumO s.heap.objs.size) := lays_at _ _ 1 _ rfl rfl
    have q := h _ e1 (it_laid false (i := 0) rfl) (lays_size _ _) fun b o => lays_old _ _
    obtain ⟨⟨_, dct, _, sl⟩, hl, rfl, n, rfl⟩ := seq
    apply callType_new F.called_enumerate (by decide) (F.typeCall_enumerate_1 _) (F.newCall_enumerate_1 _) (fun obj => F.args_object_init_2 obj _) F.entry_enumerate_new (meets_enumT l items n dct sl)
    refine ⟨hl, ?_⟩
    rw [Heap.size_push]
    exact ⟨⟨_, e1, rfl⟩, q⟩
abbrev zipOs (k1 k2 : Bool) (n l1 l2 : Addr) : List Obj := [itO k1 l1, itO k2 l2, { cls := .type "tuple", data := .seq #[.ref n, .ref (n + 1)] }, { cls := .type "tuple", data := .seq #[.none, .none] },
  { cls := .type "zip", data := .fields #[.none, .bool false, .bool false, .ref (n + 2), .ref (n + 3)] }]
theorem meets_zipK (k1 k2 : Bool) (l1 l2 : Addr) (xs ys : Array Value) :
    Meets (Builtin.«zip.__new__» ⟨[.type "zip", .ref l1, .ref l2], []⟩) (fun _ R s => IsSq k1 s.heap l1 xs ∧ IsSq k2 s.heap l2 ys ∧ R (.ok (.ret (.ref (s.heap.objs.size + 4)))) { s with heap := lays s.heap (zipOs k1 k2 s.heap.objs.size l1 l2) }) := by
  apply Meets.of_wp
  rintro prog w A R ⟨hp, g, d, tk, os⟩ ⟨q1, q2, h⟩
  have own := sub_zip
  have s1 : IsSq k1 (Shared.heap ⟨hp, g, d, tk, os⟩) l1 xs := q1
  have s2 : IsSq k2 (Shared.heap ⟨hp.push (itO k1 l1), g, d, tk, os⟩) l2 ys := q2.keep fun o => Heap.get?_push_of_some _
  (wp_walk using iterK s1, iterK s2)
  simp only [zipOs, lays, Heap.size_push] at h ⊢
  exact ⟨_, rfl, h⟩
theorem call_zipK {k1 k2 : Bool} {l1 l2 : Addr} {xs ys : Array Value} {Q : Value → Shared → Prop} (s1 : IsSq k1 s.heap l1 xs) (s2 : IsSq k2 s.heap l2 ys)
    (h : ∀ h', IsZip h' (s.heap.objs.size + 4) (s.heap.objs.size + 2) (s.heap.objs.size + 3) .none → IsTupOf2 h' (s.heap.objs.size + 2) (.ref s.heap.objs.size) (.ref (s.heap.objs.size + 1)) → IsTupOf2 h' (s.heap.objs.size + 3) .none .none →
      IsIt k1 h' s.heap.objs.size l1 0 → IsIt k2 h' (s.heap.objs.size + 1) l2 0 → h'.objs.size = s.heap.objs.size + 5 → (∀ c o, s.heap.get? c = some o → h'.get? c = some o) → Q (.ref (s.heap.objs.size + 4)) { s with heap := h' }) :
    wpAny (model prog w) A (call (Value.type "zip") [Value.ref l1, Value.ref l2]) Q E s := by
  have at_ : ∀ i o, (zipOs k1 k2 s.heap.objs.size l1 l2)[i]? = some o → o.isFreed = false → (lays s.heap (zipOs k1 k2 s.heap.objs.size l1 l2)).get? (s.heap.objs.size + i) = some o := lays_at _ _
  have q := h _ (at_ 4 _ rfl rfl) (at_ 2 _ rfl rfl) (at_ 3 _ rfl rfl) (it_laid k1 (i := 0) rfl) (it_laid k2 (i := 1) rfl) (lays_size _ _) fun b o => lays_old _ _
  apply callType_new F.called_zip (by decide) (F.typeCall_zip_2 _ _) (F.newCall_zip_2 _ _) (fun obj => F.args_object_init_3 obj _ _) F.entry_zip_new (meets_zipK k1 k2 l1 l2 xs ys)
  exact ⟨s1, s2, ⟨_, at_ 4 _ rfl rfl, rfl⟩, q⟩
end
theorem sqK_seq {X : Cx} {pins : List (Addr × Obj)} {σ : L2.St} {H : Hp} {s : Shared} {k : Bool} {a : Addr} {xs : List V} (I : Inv X pins σ H s) (h : SqK k X.K H a xs) : ∃ its, Vals xs its ∧ IsSq k s.heap a its.toArray := by
  cases k
  · obtain ⟨its, rv, p, _⟩ := I.tuple (show SqT X.K H a xs from h)
    exact ⟨its, rv, p⟩
  · obtain ⟨its, rv, p, _⟩ := I.list (show SqL X.K H a xs from h)
    exact ⟨its, rv, p.isList⟩
theorem sqK_inj {X : Cx} {pins : List (Addr × Obj)} {σ : L2.St} {H : Hp} {s : Shared} {k : Bool} {a : Addr} {xs ys : List V} (I : Inv X pins σ H s) (h : SqK k X.K H a xs) (h2 : SqK k X.K H a ys) : xs = ys := by
  cases k
  · exact I.tuple_inj (show SqT X.K H a xs from h) (show SqT X.K H a ys from h2)
  · exact I.list_inj (show SqL X.K H a xs from h) (show SqL X.K H a ys from h2)
theorem dk {X : Cx} {pins : List (Addr × Obj)} {σ : L2.St} {H : Hp} {s : Shared} (I : Inv X pins σ H s) (hc : X.calm = true) (k : Bool) (it a : Addr) (hne : a ≠ it) (items : Array Value) : Draws X.prog X.w X.A.in1 it [it, a] items.size (fun i v => items[i]? = some v) (fun i h => IsIt k h it a i ∧ IsSq k h a items) :=
  drawsK (show X.A.in1.handled = none from I.ok.hd hc) k it a hne items
theorem le2 (n b : Nat) (h : b = n + 1 ∨ b = n) : n ≤ b := by omega
theorem le5 (n c : Nat) (h : c = n + 4 ∨ c = n + 2 ∨ c = n + 3 ∨ c = n ∨ c = n + 1) : n ≤ c := by omega
section
variable {X : Cx} {pins : List (Addr × Obj)} {σ : L2.St} {H : Hp} {s : Shared} {h' : Heap} {tk : Nat} {ch : List Addr}
/-- a turn that lays one new pair behind the heap's end and touches ch besides -/
theorem pairLaid {x y : V} {u v : Value} (I : Inv X pins σ H s) (fp : ∀ b ∈ ch, FpOk X pins H b) (old : ∀ b ∈ ch, b < s.heap.objs.size) (rx : RelV x u) (ry : RelV y v)
    (at_ : h'.get? s.heap.objs.size = some { cls := .type "tuple", data := .seq #[u, v] }) (same : ∀ b o, b ∉ ch → s.heap.get? b = some o → h'.get? b = some o) :
    Inv X pins σ (upd H s.heap.objs.size (.tup [x, y])) { s with heap := h', toks := tk } ∧ ∀ b ∈ ch, upd H s.heap.objs.size (.tup [x, y]) b = none := by
  constructor
  · apply I.turnedNew same fp (Nat.le_refl _)
    exact ⟨(by decide : 2 ≤ sizeLine), [u, v], Paired.cons rx (Paired.cons ry Paired.nil), ⟨_, at_, rfl, 0, rfl⟩⟩
  · intro b m
    rw [upd_ne (fun e => Nat.lt_irrefl _ (e ▸ old b m)), (fp b m).1]
/-- the item that a sequence's iterator hands out -/
theorem handed {xs : List V} {its : List Value} {x : V} {i : Nat} (rv : Vals xs its) (e : xs[i]? = some x) : i < its.toArray.size ∧ ∀ u, its.toArray[i]? = some u → RelV x u := by
  have ⟨u, at_, r⟩ := rv.get e
  have lt := (List.getElem?_eq_some_iff.mp at_).1
  refine ⟨by rw [List.size_toArray]; exact lt, fun v q => ?_⟩
  rw [List.getElem?_toArray, at_] at q
  injection q with q
  exact q ▸ r
theorem lt_of_at {xs : List V} {x : V} {i n : Nat} (l : xs.length = n) (e : xs[i]? = some x) : i + 1 ≤ n := l ▸ (List.getElem?_eq_some_iff.mp e).1
end
/-- the sequence at a (n long) as it stands at each turn, each item in a new pair -/
def IteK (k : Bool) (n : Nat) (K : PySem.W.Frag) (a : Addr) : It :=
  ⟨fun i H => ∃ (xs : List V) (x : V), SqK k K H a xs ∧ xs.length = n ∧ xs[i]? = some x, fun i H v H' => ∃ T x, v = .ref T ∧ H T = none ∧ H' = upd H T (.tup [.int (i : Nat), x]) ∧ ∀ xs, SqK k K H a xs → xs[i]? = some x, fun i H => ∃ xs : List V, SqK k K H a xs ∧ xs.length = n ∧ n ≤ i⟩
theorem turn_enumK {P : Program} {w : World} {K : PySem.W.Frag} {elts : List Expr} {kk : Nat} {tpos : Pos} (k : Bool) (n : Nat) (a e it : Addr) :
    Turn P w K (.Tuple elts kk tpos) (IteK k n K a) [e, it] e (fun i h => (∃ old, IsEnum h e it ((i : Nat) : Int) old) ∧ IsIt k h it a i ∧ e ≠ it ∧ a ≠ e ∧ a ≠ it ∧ i ≤ n) where
  mem := List.mem_cons_self
  self := by
    rintro A i s Q E ⟨⟨_, en⟩, _⟩ q
    exact wpAny_pyIter_enum en q
  obj := by
    rintro i h ⟨⟨_, en⟩, ti, _⟩
    exact List.forall_mem_cons.mpr ⟨⟨_, en, by simp⟩, List.forall_mem_cons.mpr ⟨ti.ob, nofun⟩⟩
  keep := by
    rintro i h h' ⟨⟨old, en⟩, ti, rest⟩ stay
    exact ⟨⟨old, stay e (.head _) _ en⟩, ti.keep (stay it (.tail _ (.head _))), rest⟩
  done := by
    rintro X rfl rfl rfl calm i pins s σ H E inv fp ⟨⟨old, en⟩, ti, ei, ae, ai, le⟩ ⟨xs, sq, len, over⟩
    have ⟨its, rv, isq⟩ := sqK_seq inv sq
    have sz : its.toArray.size = i := by rw [List.size_toArray, ← rv.length]; omega
    have st : IsIt k s.heap it a its.toArray.size ∧ IsSq k s.heap a its.toArray := by rw [sz]; exact ⟨ti, isq⟩
    exact wpAny_pyNext_enum_endD (dk inv calm k it a ai its.toArray) en st fun h' only => ⟨rfl, inv.turnedL (ch := [e, it]) (fun b o nb q => only b o (fun z => nb (z ▸ .tail _ (.head _))) q) fp⟩
  item := by
    rintro X rfl rfl rfl calm i pins s σ H E inv fp ⟨⟨old, en⟩, ti, ei, ae, ai, le⟩ ⟨xs, x, sq, len, at_i⟩
    have ⟨its, rv, isq⟩ := sqK_seq inv sq
    have ⟨lt, rel⟩ := handed rv at_i
    apply wpAny_pyNext_enum_itemD (dk inv calm k it a ai its.toArray) en ⟨ti, isq⟩ lt ei (by simp [ei, ae.symm])
    intro u h1 tk hu ho st1 pair _ k1
    refine ⟨_, rfl, wpAny_letOwnedTupleGo_enum (s := { s with heap := h1, toks := tk + 1 }) ho fun h2 en2 sb => ?_⟩
    have below : ∀ b ∈ [e, it], b < s.heap.objs.size := List.forall_mem_cons.mpr ⟨Heap.lt_size en, List.forall_mem_cons.mpr ⟨ti.lt, nofun⟩⟩
    have laid := pairLaid (tk := tk + 1) (h' := h2) (x := .int (i : Nat)) (y := x) inv fp below ⟨tk, rfl⟩ (rel u hu) ((sb.2 _ (fun z => Nat.lt_irrefl _ (z ▸ below e (.head _)))).trans pair) fun b o nb q =>
      (sb.2 b fun z => nb (z ▸ .head _)).trans (k1 b o (fun z => nb (z ▸ .head _)) (fun z => nb (z ▸ .tail _ (.head _))) q)
    exact ⟨V.ref s.heap.objs.size, _, laid.1, rfl, ⟨_, _, rfl, inv.hok.fresh (Nat.le_refl _), rfl, fun ys sy => sqK_inj inv sq sy ▸ at_i⟩,
      ⟨⟨_, (Int.natCast_succ i).symm ▸ en2⟩, st1.1.keep fun o q => (sb.2 it ei.symm).trans q, ei, ae, ai, lt_of_at len at_i⟩, laid.2⟩
def iEnumK (K : PySem.W.Frag) (ta : TA) : TI := fun σ H R => ta σ H fun vs H1 => ∃ k a xs, vs = [.ref a] ∧ SqK k K H1 a xs ∧ R (IteK k xs.length K a) H1
theorem pi_enumK {X : Cx} {e : Expr} {ta : TA} {p pos tpos : Pos} {elts : List Expr} {kk : Nat} (hg : Gl X "enumerate") (hm : X.mg "enumerate" = none) (ha : PA X [e] ta) (hs : starEach [e] X.env = [(false, eval e X.env)]) :
    PI X (.Tuple elts kk tpos) (.Call (.Name "enumerate" p) [e] [] pos) (iEnumK X.K ta) := by
  constructor
  intro pins s σ H R inv way
  refine Call_ (ld_blt inv hg hm boot_enumerate ?_)
  refine PyProof.Rows.callWith_type1 (thn (ha.run pos pins s σ H _ inv way) ?_) hs rfl
  rintro us s1 ⟨vs, H1, inv1, rel, k, a, xs, rfl, sq, go⟩
  have ⟨v, ev, rv⟩ := vals1 rel
  subst ev
  cases rv
  have ⟨its, vals, isq⟩ := sqK_seq inv1 sq
  apply call_enumK isq
  intro h' en ti _ kept
  apply wpAny_pyIter_enum en
  have lt := isq.lt
  have new : ∀ b, b ∈ [s1.heap.objs.size + 1, s1.heap.objs.size] → FpOk X pins H1 b := fun b m =>
    have le := le2 s1.heap.objs.size b (by simpa using m)
    inv1.fpOk le (inv1.hok.fresh le)
  exact ⟨_, _, _, _, H1, rfl, inv1.kept (t' := s1.toks) kept, turn_enumK k xs.length a _ _, ⟨⟨_, en⟩, ti, Nat.succ_ne_self _, Nat.ne_of_lt (Nat.lt_succ_of_lt lt), Nat.ne_of_lt lt, Nat.zero_le _⟩, new, go⟩
/-- two sequences as they stand at each turn, the items in new pairs -/
def ItzK (k1 k2 : Bool) (n1 n2 : Nat) (K : PySem.W.Frag) (a b : Addr) : It :=
  ⟨fun i H => ∃ (xs ys : List V) (x y : V), SqK k1 K H a xs ∧ SqK k2 K H b ys ∧ xs.length = n1 ∧ ys.length = n2 ∧ xs[i]? = some x ∧ ys[i]? = some y,
    fun i H v H' => ∃ T x y, v = .ref T ∧ H T = none ∧ H' = upd H T (.tup [x, y]) ∧ (∀ xs, SqK k1 K H a xs → xs[i]? = some x) ∧ ∀ ys, SqK k2 K H b ys → ys[i]? = some y,
    fun i H => ∃ xs ys : List V, SqK k1 K H a xs ∧ SqK k2 K H b ys ∧ xs.length = n1 ∧ ys.length = n2 ∧ (n1 ≤ i ∨ n2 ≤ i)⟩
structure Ap (z TI TO i1 i2 a b : Addr) : Prop where
  S : ZipSep2 z TI TO i1 i2 [i1, a] [i2, b]
  a1 : a ≠ i1
  b2 : b ≠ i2
theorem nmem1 {x y z : Nat} (h1 : x ≠ y) (h2 : x ≠ z) : (x : Addr) ∉ ([y, z] : List Addr) := fun m => by
  rcases List.mem_cons.mp m with e | m
  · exact h1 e
  · exact h2 (List.mem_singleton.mp m)
theorem ap_of (n a b : Nat) (la : a < n) (lb : b < n) : Ap (n + 4 : Nat) (n + 2 : Nat) (n + 3 : Nat) n (n + 1 : Nat) a b where
  S := {
    TIz := show (n + 2 : Nat) ≠ n + 4 by omega
    TOz := show (n + 3 : Nat) ≠ n + 4 by omega
    TITO := show (n + 2 : Nat) ≠ n + 3 by omega
    TIi1 := show (n + 2 : Nat) ≠ n by omega
    mem1 := List.mem_cons_self
    zf1 := nmem1 (by omega) (by omega)
    Tf1 := nmem1 (by omega) (by omega)
    TIi2 := show (n + 2 : Nat) ≠ n + 1 by omega
    mem2 := List.mem_cons_self
    zf2 := nmem1 (by omega) (by omega)
    Tf2 := nmem1 (by omega) (by omega)
    sep1_2 := nmem1 (by omega) (by omega)
    sep2_1 := nmem1 (by omega) (by omega) }
  a1 := show (a : Nat) ≠ n by omega
  b2 := show (b : Nat) ≠ n + 1 by omega
theorem turn_zipK {P : Program} {w : World} {K : PySem.W.Frag} {elts : List Expr} {kk : Nat} {tpos : Pos} {a b z TI TO i1 i2 : Addr} (k1 k2 : Bool) (n1 n2 : Nat) (D : Ap z TI TO i1 i2 a b) :
    Turn P w K (.Tuple elts kk tpos) (ItzK k1 k2 n1 n2 K a b) [z, TI, TO, i1, i2] z (fun i h => IsZip h z TI TO .none ∧ IsTupOf2 h TI (.ref i1) (.ref i2) ∧ (∃ x y, IsTupOf2 h TO x y) ∧ IsIt k1 h i1 a i ∧ IsIt k2 h i2 b i ∧ i ≤ n1 ∧ i ≤ n2) where
  mem := List.mem_cons_self
  self := fun _ _ _ _ _ st q => wpAny_pyIter_zip st.1 q
  obj := by
    rintro i h ⟨zip, ti, ⟨_, _, to⟩, t1, t2, _⟩
    simp only [List.forall_mem_cons]
    exact ⟨⟨_, zip, by simp⟩, ⟨_, ti, by simp⟩, ⟨_, to, by simp⟩, t1.ob, t2.ob, nofun⟩
  keep := by
    rintro i h h' ⟨zip, ti, ⟨_, _, to⟩, t1, t2, le⟩ stay
    simp only [List.forall_mem_cons] at stay
    have ⟨s0, s1, s2, s3, s4, _⟩ := stay
    exact ⟨s0 _ zip, s1 _ ti, ⟨_, _, s2 _ to⟩, t1.keep s3, t2.keep s4, le⟩
  done := by
    rintro X rfl rfl rfl calm i pins s σ H E inv fp ⟨zip, ti, ⟨_, _, to⟩, t1, t2, le1, le2⟩ ⟨xs, ys, sx, sy, nx, ny, over⟩
    have ⟨us, ru, isx⟩ := sqK_seq inv sx
    have ⟨vs, rv, isy⟩ := sqK_seq inv sy
    have lu : us.toArray.size = n1 := by rw [List.size_toArray, ← ru.length, nx]
    have lv : vs.toArray.size = n2 := by rw [List.size_toArray, ← rv.length, ny]
    apply wpAny_pyNext_zipD2_end D.S (dk inv calm k1 i1 a D.a1 us.toArray) (dk inv calm k2 i2 b D.b2 vs.toArray) zip ti to ⟨t1, isx⟩ ⟨t2, isy⟩ (by omega) (by omega) (by omega)
    intro h' tk same
    refine ⟨rfl, inv.turnedL (t' := tk) (fun c o nc => ?_) fp⟩
    simp only [List.mem_cons, not_or] at nc
    exact same c o nc.1 nc.2.2.1 nc.2.2.2.1 nc.2.2.2.2.1
  item := by
    rintro X rfl rfl rfl calm i pins s σ H E inv fp ⟨zip, ti, ⟨_, _, to⟩, t1, t2, _, _⟩ ⟨xs, ys, x, y, sx, sy, nx, ny, ax, ay⟩
    have ⟨us, ru, isx⟩ := sqK_seq inv sx
    have ⟨vs, rv, isy⟩ := sqK_seq inv sy
    have ⟨bx, relx⟩ := handed ru ax
    have ⟨by', rely⟩ := handed rv ay
    have below : ∀ c ∈ [z, TI, TO, i1, i2], c < s.heap.objs.size := by
      simp only [List.forall_mem_cons]
      exact ⟨Heap.lt_size zip, Heap.lt_size ti, Heap.lt_size to, t1.lt, t2.lt, nofun⟩
    apply wpAny_pyNext_zipD2_item D.S (dk inv calm k1 i1 a D.a1 us.toArray) (dk inv calm k2 i2 b D.b2 vs.toArray) zip ti to ⟨t1, isx⟩ ⟨t2, isy⟩ bx by'
    intro u v h1 tk eu ev zip1 to1 st1 st2 pair _ same
    refine ⟨_, rfl, wpAny_letOwnedTupleGo_zip (s := { s with heap := h1, toks := tk }) zip1 fun h2 zip2 sb => ?_⟩
    have laid := pairLaid (tk := tk) (h' := h2) inv fp below (relx u eu) (rely v ev) ((sb.2 _ (fun e => Nat.lt_irrefl _ (e ▸ below z (.head _)))).trans pair) fun c o nc q => by
      simp only [List.mem_cons, not_or] at nc
      rw [sb.2 c nc.1]
      exact same c o nc.1 nc.2.2.1 nc.2.2.2.1 nc.2.2.2.2.1 q
    have away : ∀ c o, c ≠ z → h1.get? c = some o → h2.get? c = some o := fun c o ne q => (sb.2 c ne).trans q
    exact ⟨V.ref s.heap.objs.size, _, laid.1, rfl, ⟨_, _, _, rfl, inv.hok.fresh (Nat.le_refl _), rfl, fun l q => sqK_inj inv sx q ▸ ax, fun l q => sqK_inj inv sy q ▸ ay⟩,
      ⟨zip2, away _ _ D.S.TIz (same _ _ D.S.TIz D.S.TITO D.S.TIi1 D.S.TIi2 ti), ⟨_, _, away _ _ D.S.TOz to1⟩, st1.1.keep fun o => away _ o D.S.zi1.symm, st2.1.keep fun o => away _ o D.S.zi2.symm, lt_of_at nx ax, lt_of_at ny ay⟩, laid.2⟩
def iZipK (K : PySem.W.Frag) (ta : TA) : TI := fun σ H R => ta σ H fun vs H1 => ∃ k1 k2 a b xs ys, vs = [.ref a, .ref b] ∧ SqK k1 K H1 a xs ∧ SqK k2 K H1 b ys ∧ R (ItzK k1 k2 xs.length ys.length K a b) H1
theorem pi_zipK {X : Cx} {e e2 : Expr} {ta : TA} {p pos tpos : Pos} {elts : List Expr} {kk : Nat} (hg : Gl X "zip") (hm : X.mg "zip" = none) (ha : PA X [e, e2] ta)
    (hs : starEach [e, e2] X.env = (false, eval e X.env) :: starEach [e2] X.env) (hpl : (backTo pos (starEach [e2] X.env)).any (·.1) = false) : PI X (.Tuple elts kk tpos) (.Call (.Name "zip" p) [e, e2] [] pos) (iZipK X.K ta) := by
  constructor
  intro pins s σ H R inv way
  refine Call_ (ld_blt inv hg hm PyProof.Rows.boot_zip ?_)
  refine PyProof.Rows.callWith_type1 (thn (ha.run pos pins s σ H _ inv way) ?_) hs hpl
  rintro us s1 ⟨vs, H1, inv1, rel, k1, k2, a, b, xs, ys, rfl, sx, sy, go⟩
  rcases rel with _ | ⟨ra, _ | ⟨rb, _ | _⟩⟩
  cases ra
  cases rb
  have ⟨ws, _, isx⟩ := sqK_seq inv1 sx
  have ⟨zs, _, isy⟩ := sqK_seq inv1 sy
  apply call_zipK isx isy
  intro h' zip ti to t1 t2 _ kept
  apply wpAny_pyIter_zip zip
  have new : ∀ c ∈ [s1.heap.objs.size + 4, s1.heap.objs.size + 2, s1.heap.objs.size + 3, s1.heap.objs.size, s1.heap.objs.size + 1], FpOk X pins H1 c := fun c m =>
    have le := le5 s1.heap.objs.size c (by simpa using m)
    inv1.fpOk le (inv1.hok.fresh le)
  exact ⟨_, _, _, _, H1, rfl, inv1.kept (t' := s1.toks) kept, turn_zipK k1 k2 xs.length ys.length (ap_of _ _ _ isx.lt isy.lt), ⟨zip, ti, ⟨_, _, to⟩, t1, t2, Nat.zero_le _, Nat.zero_le _⟩, new, go⟩
end DL
set_option Elab.async false
set_option linter.all false
set_option maxRecDepth 100000
set_option maxHeartbeats 4000001
namespace DL
open PySem.Spec PySem L2 PyProof.Rows
section
variable {K : PySem.W.Frag} {mg : Str → Option Value} {H : Hp} {Z : Addr → Prop} {a : Addr} {od : Obj} {kvs : List (Key × V)}
theorem SqT.lock {b : Addr} {vs : List V} (ha : H a = some (.dK kvs)) (h : SqT K H b vs) : SqT K (upd H a (.frz od (.dK kvs))) b vs := by
  refine SqT.keep h fun c o e p => ?_
  rw [upd_ne fun z => by subst z; rw [ha] at e; cases e; cases p]
  exact e
theorem SqL.lock {b : Addr} {vs : List V} (ha : H a = some (.dK kvs)) (h : SqL K H b vs) : SqL K (upd H a (.frz od (.dK kvs))) b vs := by
  rcases h with (h | ⟨o, h⟩) | h
  · exact .inl (.inl (by rw [upd_ne fun z => by subst z; rw [ha] at h; cases h]; exact h))
  · exact .inl (.inr ⟨o, by rw [upd_ne fun z => by subst z; rw [ha] at h; cases h]; exact h⟩)
  · exact .inr h
theorem Rd.lock {b : Addr} {u : HO} (ha : H a = some (.dK kvs)) (h : Rd H b u) : Rd (upd H a (.frz od (.dK kvs))) b u := by
  by_cases e : b = a
  · subst e
    rcases h with h | ⟨o, h⟩
    · rw [ha] at h; cases h
      exact .inr ⟨od, upd_same⟩
    · rw [ha] at h; cases h
  · rcases h with h | ⟨o, h⟩
    · exact .inl (by rw [upd_ne e]; exact h)
    · exact .inr ⟨o, by rw [upd_ne e]; exact h⟩
theorem neA {b : Addr} {u : HO} (ha : H a = some (.dK kvs)) (h : H b = some u) (hu : ∀ k, u ≠ .dK k) : upd H a (.frz od (.dK kvs)) b = some u := by
  rw [upd_ne fun z => by subst z; rw [ha] at h; cases h; exact hu _ rfl]
  exact h
mutual
theorem Rep.lock {v : V} {d : D} {F : List Addr} (ha : H a = some (.dK kvs)) (r : Rep K mg H Z v d F) (hF : a ∉ F) : Rep K mg (upd H a (.frz od (.dK kvs))) Z v d F := by
  cases r with
  | non => exact .non
  | bl => exact .bl
  | int => exact .int
  | str => exact .str
  | ty => exact .ty
  | glo h => exact .glo h
  | tup h t => exact .tup (SqT.lock ha h) (t.lock ha hF)
  | scr h t =>
    refine .scr ?_ (t.lock ha hF)
    rcases h with ⟨o, h⟩ | h
    · exact .inl ⟨o, neA ha h fun k q => nomatch q⟩
    · exact .inr h
  | rawF h p z => exact .rawF (Rd.lock ha h) p z
  | rawO h p => exact .rawO (by rw [upd_ne fun e => hF (by rw [← e]; exact List.mem_cons_self)]; exact h) p
  | lstF h z t => exact .lstF (neA ha h fun k q => nomatch q) z (t.lock ha hF)
  | lstO h t => exact .lstO (neA ha h fun k q => nomatch q) (t.lock ha fun m => hF (List.mem_cons_of_mem _ m))
  | dctF h z e t => exact .dctF (Rd.lock ha h) z e (t.lock ha hF)
  | dctO h e t => exact .dctO (by rw [upd_ne fun e => hF (by rw [← e]; exact List.mem_cons_self)]; exact h) e (t.lock ha fun m => hF (List.mem_cons_of_mem _ m))
  | objF h z c e t => exact .objF (neA ha h fun k q => nomatch q) z c e (t.lock ha hF)
  | objO h c e t => exact .objO (neA ha h fun k q => nomatch q) c e (t.lock ha fun m => hF (List.mem_cons_of_mem _ m))
theorem Reps.lock {vs : List V} {ds : List D} {F : List Addr} (ha : H a = some (.dK kvs)) (r : Reps K mg H Z vs ds F) (hF : a ∉ F) : Reps K mg (upd H a (.frz od (.dK kvs))) Z vs ds F := by
  cases r with
  | nil => exact .nil
  | cons q t => exact .cons (q.lock ha fun m => hF (List.mem_append_left _ m)) (t.lock ha fun m => hF (List.mem_append_right _ m))
end
theorem neU {b : Addr} {u : HO} (ha : H a = some (.frz od (.dK kvs))) (h : H b = some u) (hu : u ≠ .frz od (.dK kvs)) : upd H a (.dK kvs) b = some u := by
  rw [upd_ne fun z => by subst z; rw [ha] at h; cases h; exact hu rfl]
  exact h
theorem Rd.unlock {b : Addr} {u : HO} (ha : H a = some (.frz od (.dK kvs))) (h : Rd H b u) (p : pers u = false) : Rd (upd H a (.dK kvs)) b u := by
  by_cases e : b = a
  · subst e
    rcases h with h | ⟨o, h⟩
    · rw [ha] at h; cases h; cases p
    · rw [ha] at h; cases h
      exact .inl upd_same
  · rcases h with h | ⟨o, h⟩
    · exact .inl (by rw [upd_ne e]; exact h)
    · exact .inr ⟨o, by rw [upd_ne e]; exact h⟩
theorem SqT.unlock {b : Addr} {vs : List V} (ha : H a = some (.frz od (.dK kvs))) (h : SqT K H b vs) : SqT K (upd H a (.dK kvs)) b vs := by
  rcases h with (h | ⟨o, h⟩) | h
  · exact .inl (.inl (neU ha h fun q => nomatch q))
  · exact .inl (.inr ⟨o, neU ha h fun q => nomatch q⟩)
  · exact .inr h
mutual
theorem Rep.unlock {v : V} {d : D} {F : List Addr} (ha : H a = some (.frz od (.dK kvs))) (r : Rep K mg H Z v d F) : Rep K mg (upd H a (.dK kvs)) Z v d F := by
  cases r with
  | non => exact .non
  | bl => exact .bl
  | int => exact .int
  | str => exact .str
  | ty => exact .ty
  | glo h => exact .glo h
  | tup h t => exact .tup (SqT.unlock ha h) (t.unlock ha)
  | scr h t =>
    refine .scr ?_ (t.unlock ha)
    rcases h with ⟨o, h⟩ | h
    · exact .inl ⟨o, neU ha h fun q => nomatch q⟩
    · exact .inr h
  | rawF h p z => exact .rawF (Rd.unlock ha h p) p z
  | rawO h p => exact .rawO (neU ha h fun q => by rw [q] at p; cases p) p
  | lstF h z t => exact .lstF (neU ha h fun q => nomatch q) z (t.unlock ha)
  | lstO h t => exact .lstO (neU ha h fun q => nomatch q) (t.unlock ha)
  | dctF h z e t => exact .dctF (Rd.unlock ha h rfl) z e (t.unlock ha)
  | dctO h e t => exact .dctO (neU ha h fun q => nomatch q) e (t.unlock ha)
  | objF h z c e t => exact .objF (neU ha h fun q => nomatch q) z c e (t.unlock ha)
  | objO h c e t => exact .objO (neU ha h fun q => nomatch q) c e (t.unlock ha)
theorem Reps.unlock {vs : List V} {ds : List D} {F : List Addr} (ha : H a = some (.frz od (.dK kvs))) (r : Reps K mg H Z vs ds F) : Reps K mg (upd H a (.dK kvs)) Z vs ds F := by
  cases r with
  | nil => exact .nil
  | cons q t => exact .cons (q.unlock ha) (t.unlock ha)
end
theorem Rps.lock {P : PL} {F : List Addr} (ha : H a = some (.dK kvs)) (r : Rps K mg H Z P F) (hF : a ∉ F) : Rps K mg (upd H a (.frz od (.dK kvs))) Z P F := by
  induction r with
  | nil => exact .nil
  | cons h _ ih => exact .cons (h.lock ha fun m => hF (List.mem_append_left _ m)) (ih fun m => hF (List.mem_append_right _ m))
theorem Rps.unlock {P : PL} {F : List Addr} (ha : H a = some (.frz od (.dK kvs))) (r : Rps K mg H Z P F) : Rps K mg (upd H a (.dK kvs)) Z P F := by
  induction r with
  | nil => exact .nil
  | cons h _ ih => exact .cons (h.unlock ha) ih
/-- the ground with the locked dict -/
def pin (Hb : Hp) (a : Addr) (o : HO) : Hp := fun x => if x = a then some o else Hb x
variable {Hb : Hp} {P : PL} {v : V} {ks : List Key} {ds : List D}
theorem Sp.lock (s : Sp K mg Z Hb H ((.ref a, .dct false ks ds) :: P)) (ha : H a = some (.dK kvs)) : Sp K mg Z (pin Hb a (.frz od (.dK kvs))) (upd H a (.frz od (.dK kvs))) ((.ref a, .dct false ks ds) :: P) := by
  obtain ⟨⟨F, r, nd, hb⟩, b, fr⟩ := s
  have hF : a ∉ F := by
    cases r with
    | cons q t => cases q with
      | dctF h z e t' => simpa using z.2
  refine ⟨⟨F, r.lock ha hF, nd, fun x m => ?_⟩, fun x o e => ?_, fun x e => ?_⟩
  · have ne : x ≠ a := fun e => hF (e ▸ m)
    show (if x = a then _ else Hb x) = none
    rw [if_neg ne]
    exact hb x m
  · by_cases e' : x = a
    · subst e'
      have : some (HO.frz od (.dK kvs)) = some o := (if_pos rfl).symm.trans e
      rw [upd_same]
      exact this
    · rw [upd_ne e']
      exact b x o ((if_neg e').symm.trans e)
  · by_cases e' : x = a
    · subst e'
      have : some (HO.frz od (.dK kvs)) = none := (if_pos rfl).symm.trans e
      cases this
    · exact fr x ((if_neg e').symm.trans e)
theorem Sp.pinned {o : HO} (s : Sp K mg Z (pin Hb a o) H P) : H a = some o := s.base a o (if_pos rfl)
theorem Sp.unlock {H0 : Hp} {P0 : PL} (s0 : Sp K mg Z Hb H0 P0) (h0 : H0 a = some (.dK kvs)) (s : Sp K mg Z (pin Hb a (.frz od (.dK kvs))) H P) : Sp K mg Z Hb (upd H a (.dK kvs)) P := by
  have ha := s.pinned
  obtain ⟨⟨F, r, nd, hb⟩, b, fr⟩ := s
  refine ⟨⟨F, r.unlock ha, nd, fun x m => ?_⟩, fun x o e => ?_, s0.fresh⟩
  · have h := hb x m
    by_cases e' : x = a
    · have : some (HO.frz od (.dK kvs)) = none := (if_pos e').symm.trans h
      cases this
    · exact (if_neg e').symm.trans h
  · by_cases e' : x = a
    · subst e'
      rw [upd_same, ← h0]
      exact s0.base _ _ e
    · rw [upd_ne e']
      exact b x o ((if_neg e').trans e)
/-- it was locked before -/
theorem Sp.pin1 (s : Sp K mg Z Hb H ((.ref a, .dct false ks ds) :: P)) (ha : H a = some (.frz od (.dK kvs))) : Sp K mg Z (pin Hb a (.frz od (.dK kvs))) H ((.ref a, .dct false ks ds) :: P) := by
  obtain ⟨⟨F, r, nd, hb⟩, b, fr⟩ := s
  have hF : a ∉ F := by
    cases r with
    | cons q t => cases q with
      | dctF h z e t' => simpa using z.2
  refine ⟨⟨F, r, nd, fun x m => ?_⟩, fun x o e => ?_, fun x e => ?_⟩
  · have ne : x ≠ a := fun e => hF (e ▸ m)
    exact (if_neg ne).trans (hb x m)
  · by_cases e' : x = a
    · subst e'
      have : some (HO.frz od (.dK kvs)) = some o := (if_pos rfl).symm.trans e
      rw [ha]
      exact this
    · exact b x o ((if_neg e').symm.trans e)
  · by_cases e' : x = a
    · subst e'
      have : some (HO.frz od (.dK kvs)) = none := (if_pos rfl).symm.trans e
      cases this
    · exact fr x ((if_neg e').symm.trans e)
theorem Sp.unpin {H0 : Hp} {P0 : PL} (s0 : Sp K mg Z Hb H0 P0) (h0 : H0 a = some (.frz od (.dK kvs))) (s : Sp K mg Z (pin Hb a (.frz od (.dK kvs))) H P) : Sp K mg Z Hb H P := by
  have ha := s.pinned
  obtain ⟨⟨F, r, nd, hb⟩, b, fr⟩ := s
  refine ⟨⟨F, r, nd, fun x m => ?_⟩, fun x o e => ?_, s0.fresh⟩
  · have h := hb x m
    by_cases e' : x = a
    · have : some (HO.frz od (.dK kvs)) = none := (if_pos e').symm.trans h
      cases this
    · exact (if_neg e').symm.trans h
  · by_cases e' : x = a
    · subst e'
      rw [ha, ← h0]
      exact s0.base _ _ e
    · exact b x o ((if_neg e').trans e)
theorem Rc1.lock {st : Stp} {u w : V} (ha : H a = some (.dK kvs)) (h : Rc1 K mg H u st w) : Rc1 K mg (upd H a (.frz od (.dK kvs))) u st w := by
  cases st with
  | sub x =>
    rcases h with ⟨b, k2, e, h, l⟩ | ⟨b, vs, i, ek, e, h, l⟩
    · exact .inl ⟨b, k2, e, Rd.lock ha h, l⟩
    · exact .inr ⟨b, vs, i, ek, e, h.imp (SqL.lock ha) (SqT.lock ha), l⟩
  | fld cs n =>
    obtain ⟨b, C, dx, fs, c, e, h, r⟩ := h
    exact ⟨b, C, dx, fs, c, e, neA (od := od) ha h (fun k q => nomatch q), r⟩
theorem Rc.lock : ∀ {p : List Stp} {u w : V}, H a = some (.dK kvs) → Rc K mg H u p w → Rc K mg (upd H a (.frz od (.dK kvs))) u p w
  | [], _, _, _, h => h
  | s :: p, u, w, ha, ⟨x, h1, h2⟩ => ⟨x, h1.lock ha, Rc.lock ha h2⟩
end
def keyT : Key → D
  | .inl i => .int i
  | .inr z => .str z
theorem keyT_rep {K : PySem.W.Frag} {mg : Str → Option Value} {H : Hp} {Y : Addr → Prop} (k : Key) : Rep K mg H Y (kV k) (keyT k) [] := by
  cases k
  · exact .int
  · exact .str
theorem yields_key {X : Cx} {Hb : Hp} {a : Addr} {od : Obj} {kvs : List (Key × V)} : Yields X (pin Hb a (.frz od (.dK kvs))) (Itk a od kvs) ((kvs.map (·.1)).map keyT) [] := by
  intro Z H P i s
  have ha := s.pinned
  refine ⟨fun hi => ⟨⟨ha, by simpa using hi⟩, fun x H' y => ?_⟩, fun hi => ⟨ha, by simpa using hi⟩⟩
  obtain ⟨rfl, k, v, hk, rfl⟩ := y
  refine ⟨keyT k, ?_, s.put fun _ => keyT_rep k⟩
  rw [List.getElem?_map, List.getElem?_map, hk]
  rfl
/-- the keys of the dict at a place -/
def keysAt (i : Nat) (mp : MP) : MI := fun δ => match mPath i mp δ with
  | some (.dct _ ks _, δ1) => some (ks.map keyT, δ1)
  | _ => none
section
variable {X : Cx} {P : Nat → Bool} {tg iter elt : Expr} {ifs : List Expr} {body : List Stmt} {t : MG} {b : MS} {is : List Nat} {pos : Pos} {i : Nat} {mp : MP}
/-- the walk over a locked dict -/
theorem keys_wI {Z : Addr → Prop} {Hb H : Hp} {σ : L2.St} {δ δ1 : Env} {L : PL} {a : Addr} {od : Obj} {kvs : List (Key × V)} {v : V} {p : List Stp} (ho : IP X iter i mp)
    (s : Sq X Z (pin Hb a (.frz od (.dK kvs))) H σ δ L) (s1 : Sq X Z (pin Hb a (.frz od (.dK kvs))) H σ δ1 L) (e1 : mp δ = some p) (hv : σ[i]? = some (some v)) (rc : Rc X.K X.mg H v p (.ref a)) (R : It → Hp → Prop)
    (q : ∀ J H' LI, Yields X (pin Hb a (.frz od (.dK kvs))) J ((kvs.map (·.1)).map keyT) LI → Sq X Z (pin Hb a (.frz od (.dK kvs))) H' σ δ1 (LI ++ L) → R J H') : wI X tg iter σ H R := by
  refine wI_of (pi_keys pe_w) (ho s e1 hv rc _ fun H1 g1 => ?_)
  have s2 : Sq X Z (pin Hb a (.frz od (.dK kvs))) H1 σ δ1 L := ⟨s1.sp.grow g1, s1.dom⟩
  exact ⟨a, od, rfl, .inl ⟨kvs, s2.sp.pinned, q _ _ [] yields_key s2⟩⟩
theorem walk_fz : ∀ {p : List Stp} {d t d' : D}, walk d p = some (t, d') → isFz t = true := by
  intro p
  induction p with
  | nil =>
    intro d t d' e
    unfold walk at e
    split at e
    · rename_i h; cases e; exact h
    · cases e; exact isFz_fz d
  | cons st p ih =>
    intro d t d' e
    unfold walk at e
    split at e
    · split at e
      · split at e
        · split at e
          · rename_i e2
            cases e
            exact ih e2
          · cases e
        · split at e
          · split at e
            · rename_i e2
              cases e
              exact ih e2
            · cases e
          · cases e
      · cases e
    · cases e
/-- the dict at a place: found, frozen -/
theorem keysAt_of {δ δ1 : Env} {ds : List D} (e : keysAt i mp δ = some (ds, δ1)) : ∃ d0 p d' ks vs, δ[i]? = some (some d0) ∧ mp δ = some p ∧ walk d0 p = some (.dct false ks vs, d') ∧ δ1 = δ.set i (some d') ∧ ds = ks.map keyT := by
  unfold keysAt at e
  split at e
  · rename_i o ks vs δ2 e1
    cases e
    unfold mPath at e1
    split at e1
    · rename_i d0 hd
      split at e1
      · rename_i p e2
        split at e1
        · rename_i t d' e3
          cases e1
          have hz := walk_fz e3
          have : o = false := by
            simp only [isFz, Bool.and_eq_true, Bool.not_eq_true'] at hz
            exact hz.1
          subst this
          exact ⟨d0, p, d', ks, vs, hd, e2, e3, rfl, rfl⟩
        · cases e1
      · cases e1
    · cases e1
  · cases e
theorem Sp.dctF {K : PySem.W.Frag} {mg : Str → Option Value} {H Hb : Hp} {Z : Addr → Prop} {P : PL} {w : V} {ks : List Key} {vs : List D} (s : Sp K mg Z Hb H ((w, .dct false ks vs) :: P)) : ∃ a kvs, w = .ref a ∧ Rd H a (.dK kvs) ∧ kvs.map (·.1) = ks := by
  obtain ⟨Y, F, r⟩ := s.head
  cases r with
  | dctF h z e t => exact ⟨_, _, rfl, h, e.1⟩
theorem Fin.unlock {Z : Addr → Prop} {Hb H : Hp} {σ : L2.St} {L P0 : PL} {Dn : Ends} {fl : Fl} {a : Addr} {od : Obj} {kvs : List (Key × V)} (s0 : Sp X.K X.mg Z Hb H P0) (ha : H a = some (.dK kvs)) (f : Fin X P Z Hb σ L Dn fl) :
    Fin X P Z (pin Hb a (.frz od (.dK kvs))) σ L ⟨fun σ' H' => H' a = some (.frz od (.dK kvs)) ∧ Dn.nx σ' (upd H' a (.dK kvs)), fun v H' => H' a = some (.frz od (.dK kvs)) ∧ Dn.rt v (upd H' a (.dK kvs)), fun σ' H' => H' a = some (.frz od (.dK kvs)) ∧ Dn.bk σ' (upd H' a (.dK kvs)), fun σ' H' => H' a = some (.frz od (.dK kvs)) ∧ Dn.ct σ' (upd H' a (.dK kvs))⟩ fl := by
  cases fl with
  | nx δ' => exact fun σ' H' s' sm => ⟨s'.sp.pinned, f σ' _ ⟨s0.unlock ha s'.sp, s'.dom⟩ sm⟩
  | bk δ' => exact fun σ' H' s' sm => ⟨s'.sp.pinned, f σ' _ ⟨s0.unlock ha s'.sp, s'.dom⟩ sm⟩
  | ct δ' => exact fun σ' H' s' sm => ⟨s'.sp.pinned, f σ' _ ⟨s0.unlock ha s'.sp, s'.dom⟩ sm⟩
  | rt d δ' => exact fun v σ' H' s' sm => ⟨Sp.pinned s'.sp, f v σ' _ ⟨s0.unlock ha s'.sp, s'.dom⟩ sm⟩
theorem Fin.unpin {Z : Addr → Prop} {Hb H : Hp} {σ : L2.St} {L P0 : PL} {Dn : Ends} {fl : Fl} {a : Addr} {od : Obj} {kvs : List (Key × V)} (s0 : Sp X.K X.mg Z Hb H P0) (ha : H a = some (.frz od (.dK kvs))) (f : Fin X P Z Hb σ L Dn fl) :
    Fin X P Z (pin Hb a (.frz od (.dK kvs))) σ L Dn fl := by
  cases fl with
  | nx δ' => exact fun σ' H' s' sm => f σ' _ ⟨s0.unpin ha s'.sp, s'.dom⟩ sm
  | bk δ' => exact fun σ' H' s' sm => f σ' _ ⟨s0.unpin ha s'.sp, s'.dom⟩ sm
  | ct δ' => exact fun σ' H' s' sm => f σ' _ ⟨s0.unpin ha s'.sp, s'.dom⟩ sm
  | rt d δ' => exact fun v σ' H' s' sm => f v σ' _ ⟨s0.unpin ha s'.sp, s'.dom⟩ sm
theorem is_forK (hpo : PassesOwn (model X.prog X.w) X.A X.env X.xe) (hc : X.calm = true) (ho : IP X iter i mp) (hm : ∀ δ δ', mp δ = mp δ') (ht : IGt X is tg t) (hb : ISs X P body b) (hP : ∀ i ∈ is, P i = false) (hs : ∀ x, foldedSetIterable iter X.env x = pure x) :
    IS X P (.For tg iter body [] pos) (sFor (keysAt i mp) t b) := by
  intro Z Hb H σ δ L fl s e Dn f
  unfold sFor at e
  split at e
  · rename_i ds δ1 e1
    obtain ⟨d0, p, d', ks, vs, hd, e2, e3, rfl, rfl⟩ := keysAt_of e1
    obtain ⟨v, hv⟩ := s.dom.2 i d0 hd
    obtain ⟨w, rc, s1⟩ := (s.out hv hd).walk e3
    obtain ⟨a, kvs, rfl, rd, rfl⟩ := s1.dctF
    rw [hm δ (δ.set i (some d'))] at e2
    have back : ∀ {Hb' H' : Hp} {D0 : D}, Sp X.K X.mg Z Hb' H' ((.ref a, D0) :: (v, d') :: (L ++ prs σ (δ.set i none))) → Sq X Z Hb' H' σ (δ.set i (some d')) L := fun s2 => Sq.back (L' := L) s.dom hv hd s2.drop
    rcases rd with ha | ⟨od, ha⟩
    · refine wS_of (ps_lock ps_w) ⟨a, .dK kvs, ha, trivial, fun od => ?_⟩
      have s3 := back (s1.lock (od := od) ha)
      exact for_core hpo hc ht hb hP hs (fun R q => keys_wI ho s3 s3 e2 hv (rc.lock ha) R q) e _ (f.unlock s1 ha)
    · have s3 := back (s1.pin1 ha)
      exact for_core hpo hc ht hb hP hs (fun R q => keys_wI ho s3 s3 e2 hv rc R q) e _ (f.unpin s1 ha)
  · cases e
end
section
variable {X : Cx} {elt tg iter : Expr} {ifs : List Expr} {scope : Scope} {own : List (Str × Nat)} {pos : Pos} {t : MG} {c : MT} {m : ME} {is : List Nat} {i : Nat} {mp : MP}
theorem lcK_run (ho : IP X iter i mp) (hm : ∀ δ δ', mp δ = mp δ') (ht : ∀ s H C cl fp, IGt (bX X scope s H C cl fp) is tg t) (hc : ∀ s H C cl fp, ITs (bX X scope s H C cl fp) ifs c) (he : ∀ s H C cl fp, IG (bX X scope s H C cl fp) elt m)
    {vs : List Nat} (hsub : ∀ i ∈ is, i ∈ vs) {Z : Addr → Prop} {Hb H : Hp} {σ : L2.St} {δ δ' : Env} {L : PL} {d : D} (s : Sq X Z Hb H σ δ L) (e : mLc (keysAt i mp) vs t c m δ = some (d, δ')) :
    ∃ a kvs, (H a = some (.dK kvs) ∧ ∀ od (Q : VK), (∀ v H', Sq X Z Hb (upd H' a (.dK kvs)) σ δ' ((v, d) :: L) → H' a = some (.frz od (.dK kvs)) → Q v H') → tLc (wI X tg iter) (fun v σ H Q => ∀ s H0 C cl fp, wG (bX X scope s H0 C cl fp) tg v σ H Q) (fun σ H Q => ∀ s H0 C cl fp, wTs (bX X scope s H0 C cl fp) ifs σ H Q) (fun σ H Q => ∀ s H0 C cl fp, wE (bX X scope s H0 C cl fp) elt σ H Q) vs σ (upd H a (.frz od (.dK kvs))) Q) ∨
      ((∃ od, H a = some (.frz od (.dK kvs))) ∧ ∀ (Q : VK), (∀ v H', Sq X Z Hb H' σ δ' ((v, d) :: L) → Q v H') → tLc (wI X tg iter) (fun v σ H Q => ∀ s H0 C cl fp, wG (bX X scope s H0 C cl fp) tg v σ H Q) (fun σ H Q => ∀ s H0 C cl fp, wTs (bX X scope s H0 C cl fp) ifs σ H Q) (fun σ H Q => ∀ s H0 C cl fp, wE (bX X scope s H0 C cl fp) elt σ H Q) vs σ H Q) := by
  unfold mLc at e
  split at e
  · rename_i ds δ1 e1
    split at e
    · rename_i hz
      split at e
      · rename_i accF δ2 e4
        cases e
        obtain ⟨d0, p, d', ks, ws, hd, e2, e3, rfl, rfl⟩ := keysAt_of e1
        obtain ⟨v, hv⟩ := s.dom.2 i d0 hd
        obtain ⟨w, rc, s1⟩ := (s.out hv hd).walk e3
        obtain ⟨a, kvs, rfl, rd, rfl⟩ := s1.dctF
        rw [hm δ (δ.set i (some d'))] at e2
        have back : ∀ {Hb' H' : Hp} {D0 : D}, Sp X.K X.mg Z Hb' H' ((.ref a, D0) :: (v, d') :: (L ++ prs σ (δ.set i none))) → Sq X Z Hb' H' σ (δ.set i (some d')) L := fun s2 => Sq.back (L' := L) s.dom hv hd s2.drop
        rcases rd with ha | ⟨od, ha⟩
        · refine ⟨a, kvs, .inl ⟨ha, fun od Q q => ?_⟩⟩
          have s3 := back (s1.lock (od := od) ha)
          exact lc_core ht hc he hsub hz (fun R q => keys_wI ho s3 s3 e2 hv (rc.lock ha) R q) e4 Q fun v H' s' => q v H' ⟨s1.unlock ha s'.sp, s'.dom⟩ s'.sp.pinned
        · refine ⟨a, kvs, .inr ⟨⟨od, ha⟩, fun Q q => ?_⟩⟩
          have s3 := back (s1.pin1 ha)
          exact lc_core ht hc he hsub hz (fun R q => keys_wI ho s3 s3 e2 hv rc R q) e4 Q fun v H' s' => q v H' ⟨s1.unpin ha s'.sp, s'.dom⟩
      · cases e
    · cases e
  · cases e
theorem ig_lcK (hcl : X.calm = true) (hN : X.N.Nodup) (ho : IP X iter i mp) (hm : ∀ δ δ', mp δ = mp δ') (ok : BlkOk X.N X.env.scope scope own) (ht : ∀ s H C cl fp, IGt (bX X scope s H C cl fp) is tg t) (hc : ∀ s H C cl fp, ITs (bX X scope s H C cl fp) ifs c) (he : ∀ s H C cl fp, IG (bX X scope s H C cl fp) elt m)
    (hsub : ∀ i ∈ is, i ∈ own.map (·.2)) (hs : ∀ x, foldedSetIterable iter X.env x = pure x) : IG X (.ListComp elt [⟨tg, iter, ifs, 0⟩] scope pos) (mLc (keysAt i mp) (own.map (·.2)) t c m) := by
  intro Z Hb H σ δ L d δ' s e Q q
  have rule := pe_lc (pos := pos) (wi := wI X tg iter) (g := fun v σ H Q => ∀ s H0 C cl fp, wG (bX X scope s H0 C cl fp) tg v σ H Q) (tt := fun σ H Q => ∀ s H0 C cl fp, wTs (bX X scope s H0 C cl fp) ifs σ H Q) (te := fun σ H Q => ∀ s H0 C cl fp, wE (bX X scope s H0 C cl fp) elt σ H Q) hcl hN pi_w ok (fun s H C cl fp => ⟨fun pins s' σ H' v u Q I r h => h s H C cl fp pins s' u I r⟩) (fun s H C cl fp => ⟨fun pins s' σ H' Q I h => h s H C cl fp pins s' I⟩) (fun s H C cl fp => ⟨fun pins s' σ H' Q I h => h s H C cl fp pins s' I⟩) hs
  rcases lcK_run ho hm ht hc he hsub s e with ⟨a, kvs, ⟨ha, run⟩ | ⟨⟨od, ha⟩, run⟩⟩
  · exact wE_of (pe_lock rule) ⟨a, .dK kvs, ha, trivial, fun od => run od _ fun v H' s' h' => ⟨h', q v _ s'⟩⟩
  · exact wE_of rule (run Q q)
theorem is_setLcK {P : Nat → Bool} {j : Nat} {y : Str} {py spos : Pos} (hP : P j = false) (hcl : X.calm = true) (hN : X.N.Nodup) (hy : X.N[j]? = some y) (hyl : X.env.scope.names.lookup y = some .local)
    (hsw : swapsWith (.ListComp elt [⟨tg, iter, ifs, 0⟩] scope pos) (some (.Name y py)) spos.line X.env = pure true) (ho : IP X iter i mp) (hm : ∀ δ δ', mp δ = mp δ') (ok : BlkOk X.N X.env.scope scope own) (ht : ∀ s H C cl fp, IGt (bX X scope s H C cl fp) is tg t) (hc : ∀ s H C cl fp, ITs (bX X scope s H C cl fp) ifs c) (he : ∀ s H C cl fp, IG (bX X scope s H C cl fp) elt m)
    (hsub : ∀ i ∈ is, i ∈ own.map (·.2)) (hs : ∀ x, foldedSetIterable iter X.env x = pure x) : IS X P (.Assign [.Name y py] (.ListComp elt [⟨tg, iter, ifs, 0⟩] scope pos) spos) (sSet j (mLc (keysAt i mp) (own.map (·.2)) t c m)) := by
  intro Z Hb H σ δ L fl s e Dn f
  unfold sSet at e
  split at e
  · rename_i d δ1 e1
    split at e
    · rename_i hl
      cases e
      have rule := ps_setLc (pos := pos) (spos := spos) (py := py) (wi := wI X tg iter) (g := fun v σ H Q => ∀ s H0 C cl fp, wG (bX X scope s H0 C cl fp) tg v σ H Q) (tt := fun σ H Q => ∀ s H0 C cl fp, wTs (bX X scope s H0 C cl fp) ifs σ H Q) (te := fun σ H Q => ∀ s H0 C cl fp, wE (bX X scope s H0 C cl fp) elt σ H Q) hcl hN hy hyl hsw pi_w ok (fun s H C cl fp => ⟨fun pins s' σ H' v u Q I r h => h s H C cl fp pins s' u I r⟩) (fun s H C cl fp => ⟨fun pins s' σ H' Q I h => h s H C cl fp pins s' I⟩) (fun s H C cl fp => ⟨fun pins s' σ H' Q I h => h s H C cl fp pins s' I⟩) hs
      rcases lcK_run ho hm ht hc he hsub s e1 with ⟨a, kvs, ⟨ha, run⟩ | ⟨⟨od, ha⟩, run⟩⟩
      · exact wS_of (ps_lock rule) ⟨a, .dK kvs, ha, trivial, fun od => run od _ fun v H' s' h' => ⟨h', f _ _ (s'.store hl) (.set hP _)⟩⟩
      · exact wS_of rule (run _ fun v H' s' => f _ _ (s'.store hl) (.set hP _))
    · cases e
  · cases e
end
end DL
set_option Elab.async false
set_option linter.all false
set_option maxRecDepth 100000
set_option maxHeartbeats 4000001
namespace DL
open PySem.Spec PySem L2 PyProof.Rows
def kindD : D → Bool
  | .tup _ => false
  | _ => true
def seqD : D → Option (List D)
  | .lst _ ds => some ds
  | .tup ds => some ds
  | .scr ds => some ds
  | _ => none
theorem seqD_fz {d : D} {ds : List D} (e : seqD d = some ds) : seqD (fz d) = some (fzs ds) := by
  cases d <;> cases e <;> rfl
section
variable {K : PySem.W.Frag} {mg : Str → Option Value} {H Hb : Hp} {Z : Addr → Prop} {P : PL} {v : V} {d : D} {ds : List D}
theorem Sp.seq1 (s : Sp K mg Z Hb H ((v, d) :: P)) (hf : isFz d = true) (e : seqD d = some ds) : ∃ a xs, v = .ref a ∧ SqK (kindD d) K H a xs ∧ xs.length = ds.length ∧ isFzs ds = true ∧
    ∀ (i : Nat) (w : V) (dd : D), (∀ ys : List V, SqK (kindD d) K H a ys → ys[i]? = some w) → ds[i]? = some dd → Sp K mg Z Hb H ((w, dd) :: (v, d) :: P) := by
  obtain ⟨Y, F, q⟩ := s.head
  cases d with
  | lst o es =>
    cases e
    have hf' : o = false ∧ isFzs ds = true := by simpa [isFz] using hf
    obtain ⟨rfl, hz⟩ := hf'
    cases q with
    | @lstF a vs _ h z t =>
      refine ⟨a, vs, rfl, SqL.of h, t.len, hz, fun i w dd hw hd => s.part hf fun Y' r' => ?_⟩
      cases r' with
      | @lstF _ vs' _ h' z' t' =>
        obtain ⟨u, e1, e2⟩ := Reps.get t' (i := i) hd
        rw [hw vs' (SqL.of h')] at e1
        cases e1
        exact e2
  | tup es =>
    cases e
    have hz : isFzs ds = true := hf
    cases q with
    | @tup a vs _ _ h t =>
      refine ⟨a, vs, rfl, h, t.len, hz, fun i w dd hw hd => s.part hf fun Y' r' => ?_⟩
      cases r' with
      | @tup _ vs' _ _ h' t' =>
        obtain ⟨u, e1, e2⟩ := Reps.get t' (i := i) hd
        rw [hw vs' h'] at e1
        cases e1
        exact e2
  | scr es =>
    cases e
    have hz : isFzs ds = true := hf
    cases q with
    | @scr a vs _ h t =>
      refine ⟨a, vs, rfl, h.sq, t.len, hz, fun i w dd hw hd => s.part hf fun Y' r' => ?_⟩
      cases r' with
      | @scr _ vs' _ h' t' =>
        obtain ⟨u, e1, e2⟩ := Reps.get t' (i := i) hd
        rw [hw vs' h'.sq] at e1
        cases e1
        exact e2
  | _ => cases e
end
theorem yields_enumK {X : Cx} {Hb : Hp} {a : Addr} {d : D} {ds : List D} (hf : isFz d = true) (e : seqD d = some ds) : Yields X Hb (IteK (kindD d) ds.length X.K a) (enumF 0 ds) [(.ref a, d)] := by
  intro Z H P i s
  have s0 : Sp X.K X.mg Z Hb H ((.ref a, d) :: P) := s
  obtain ⟨a', xs, ea, hx, hl, hz, at_⟩ := s0.seq1 hf e
  cases ea
  rw [enum_len]
  refine ⟨fun hi => ⟨⟨xs, xs[i]'(by omega), hx, hl, by simp [hl, hi]⟩, fun x H' y => ?_⟩, fun hi => ⟨xs, hx, hl, hi⟩⟩
  obtain ⟨T, w, rfl, hT, rfl, hw⟩ := y
  obtain ⟨dd, hd⟩ : ∃ dd, ds[i]? = some dd := ⟨ds[i], by simp [hi]⟩
  refine ⟨.tup [.int (i : Int), dd], ?_, ?_⟩
  · have h := enum_get (k := 0) hd
    rw [Nat.zero_add] at h
    exact h
  · have s1 := at_ i w dd hw hd
    have s2 : Sp X.K X.mg Z Hb H ([V.int (i : Nat), w].zip [D.int (i : Int), dd] ++ ((.ref a, d) :: P)) := s1.put fun _ => .int
    exact s2.newT rfl hT
def iEnum2 (r : ML) : MI := fun δ => match r δ with
  | some ([d], δ1) => match seqD d with
    | some ds => some (enumF 0 (fzs ds), δ1)
    | none => none
  | _ => none
theorem ii_enum2 {X : Cx} {e : Expr} {r : ML} {p pos tpos : Pos} {elts : List Expr} {kk : Nat} (hg : Gl X "enumerate") (hm : X.mg "enumerate" = none) (ha : IL X [e] r) (hs : starEach [e] X.env = [(false, eval e X.env)]) : II X (.Tuple elts kk tpos) (.Call (.Name "enumerate" p) [e] [] pos) (iEnum2 r) := by
  intro Z Hb H σ δ L ds δ' s e' R q
  unfold iEnum2 at e'
  split at e'
  · rename_i d δ1 e1
    split at e'
    · rename_i es e2
      cases e'
      refine wI_of (pi_enumK hg hm pa_w hs) (ha s e1 _ fun vs H1 hl s1 => ?_)
      match vs, hl with
      | [v], _ =>
        have s2 : Sp X.K X.mg Z Hb H1 ((v, d) :: (L ++ prs σ δ')) := s1.sp
        have s3 := s2.freeze
        obtain ⟨a, xs, rfl, hx, hl, hz, _⟩ := s3.seq1 (isFz_fz d) (seqD_fz e2)
        refine ⟨kindD (fz d), a, xs, rfl, hx, ?_⟩
        rw [hl]
        exact q _ _ [(.ref a, fz d)] (yields_enumK (isFz_fz d) (seqD_fz e2)) ⟨s3, s1.dom⟩
    · cases e'
  · cases e'
theorem yields_zipK {X : Cx} {Hb : Hp} {a b : Addr} {d e : D} {ds es : List D} (hf : isFz d = true) (hg : isFz e = true) (e1 : seqD d = some ds) (e2 : seqD e = some es) : Yields X Hb (ItzK (kindD d) (kindD e) ds.length es.length X.K a b) (zipD ds es) [(.ref a, d), (.ref b, e)] := by
  intro Z H P i s
  have s0 : Sp X.K X.mg Z Hb H ((.ref a, d) :: (.ref b, e) :: P) := s
  obtain ⟨a', xs, ea, hx, hl, _, at1⟩ := s0.seq1 hf e1
  obtain ⟨b', ys, eb, hy, hl2, _, at2⟩ := (s0.perm (.swap _ _ _)).seq1 hg e2
  cases ea
  cases eb
  rw [zip_len]
  refine ⟨fun hi => ?_, fun hi => ⟨xs, ys, hx, hy, hl, hl2, by omega⟩⟩
  have i1 : i < xs.length := by omega
  have i2 : i < ys.length := by omega
  refine ⟨⟨xs, ys, xs[i], ys[i], hx, hy, hl, hl2, by simp [i1], by simp [i2]⟩, fun x H' y => ?_⟩
  obtain ⟨T, u, w, rfl, hT, rfl, hu, hw⟩ := y
  obtain ⟨d1, hd⟩ : ∃ d1, ds[i]? = some d1 := ⟨ds[i]'(by omega), by simp [show i < ds.length by omega]⟩
  obtain ⟨d2, he⟩ : ∃ d2, es[i]? = some d2 := ⟨es[i]'(by omega), by simp [show i < es.length by omega]⟩
  refine ⟨.tup [d1, d2], ?_, ?_⟩
  · unfold zipD
    have hz : (ds.zip es)[i]? = some (d1, d2) := by rw [List.getElem?_zip_eq_some]; exact ⟨hd, he⟩
    (rw [List.getElem?_map, hz]; rfl)
  · have s1 := at1 i u d1 hu hd
    have s2 : Sp X.K X.mg Z Hb H ((.ref b, e) :: (u, d1) :: (.ref a, d) :: P) := s1.perm (by
      refine List.Perm.trans (List.Perm.cons _ (List.Perm.swap _ _ _)) ?_
      exact List.Perm.swap _ _ _)
    obtain ⟨b', ys', eb', hy', _, _, at3⟩ := s2.seq1 hg e2
    have s3 := at3 i w d2 (by cases eb'; exact hw) he
    have s4 : Sp X.K X.mg Z Hb H ([u, w].zip [d1, d2] ++ ((.ref a, d) :: (.ref b, e) :: P)) := s3.perm (by
      show List.Perm ((w, d2) :: (.ref b, e) :: (u, d1) :: (.ref a, d) :: P) ((u, d1) :: (w, d2) :: (.ref a, d) :: (.ref b, e) :: P)
      refine List.Perm.trans (List.Perm.cons _ (List.Perm.swap _ _ _)) ?_
      refine List.Perm.trans (List.Perm.swap _ _ _) ?_
      exact List.Perm.cons _ (List.Perm.cons _ (List.Perm.swap _ _ _)))
    exact s4.newT rfl hT
def iZip2 (r : ML) : MI := fun δ => match r δ with
  | some ([d, e], δ1) => match seqD d, seqD e with
    | some ds, some es => some (zipD (fzs ds) (fzs es), δ1)
    | _, _ => none
  | _ => none
theorem ii_zip2 {X : Cx} {e e2 : Expr} {r : ML} {p pos tpos : Pos} {elts : List Expr} {kk : Nat} (hg : Gl X "zip") (hm : X.mg "zip" = none) (ha : IL X [e, e2] r) (hs : starEach [e, e2] X.env = (false, eval e X.env) :: starEach [e2] X.env) (hpl : (backTo pos (starEach [e2] X.env)).any (·.1) = false) :
    II X (.Tuple elts kk tpos) (.Call (.Name "zip" p) [e, e2] [] pos) (iZip2 r) := by
  intro Z Hb H σ δ L ds δ' s e' R q
  unfold iZip2 at e'
  split at e'
  · rename_i d1 d2 δ1 e1
    split at e'
    · rename_i es fs h1 h2
      cases e'
      refine wI_of (pi_zipK hg hm pa_w hs hpl) (ha s e1 _ fun vs H1 hl s1 => ?_)
      match vs, hl with
      | [v, w], _ =>
        have s2 : Sp X.K X.mg Z Hb H1 ((v, d1) :: (w, d2) :: (L ++ prs σ δ')) := s1.sp
        have s3 := (s2.freeze.perm (.swap _ _ _)).freeze.perm (.swap _ _ _)
        obtain ⟨a, xs, rfl, hx, hl, _, _⟩ := s3.seq1 (isFz_fz d1) (seqD_fz h1)
        obtain ⟨b, ys, rfl, hy, hl2, _, _⟩ := (s3.perm (.swap _ _ _)).seq1 (isFz_fz d2) (seqD_fz h2)
        refine ⟨kindD (fz d1), kindD (fz d2), a, b, xs, ys, rfl, hx, hy, ?_⟩
        rw [hl, hl2]
        exact q _ _ [(.ref a, fz d1), (.ref b, fz d2)] (yields_zipK (isFz_fz d1) (isFz_fz d2) (seqD_fz h1) (seqD_fz h2)) ⟨s3, s1.dom⟩
    · cases e'
  · cases e'
def mStarC (a : ME) (r : ML) : ML := fun δ => match a δ with
  | some (d, δ1) => match seqD d with
    | some ds => match r δ1 with
      | some (es, δ2) => some (fzs ds ++ es, δ2)
      | none => none
    | none => none
  | none => none
theorem il_star {X : Cx} {e : Expr} {es : List Expr} {m : ME} {r : ML} {p : Pos} (h : IG X e m) (t : IL X es r) (hs : starEach (.Starred e p :: es) X.env = (true, eval e X.env) :: starEach es X.env) : IL X (.Starred e p :: es) (mStarC m r) := by
  intro Z Hb H σ δ L ds δ' s e' Q q
  refine wA_of (StX.pa_star pe_w pa_w hs) ?_
  unfold mStarC at e'
  split at e'
  · rename_i d δ1 e1
    split at e'
    · rename_i ds0 e2
      split at e'
      · rename_i es' δ2 e3
        cases e'
        refine h s e1 _ fun v H1 s1 => ?_
        have s2 : Sp X.K X.mg Z Hb H1 ((v, fz d) :: (L ++ prs σ δ1)) := Sp.freeze s1.sp
        have key : ∃ a xs, v = .ref a ∧ (SqT X.K H1 a xs ∨ SqL X.K H1 a xs) ∧ xs.length = (fzs ds0).length ∧ Sp X.K X.mg Z Hb H1 (xs.zip (fzs ds0) ++ (L ++ prs σ δ1)) := by
          cases d with
          | lst o es => cases e2; obtain ⟨a, xs, rfl, hx, hl, s3⟩ := Sp.lst s2; exact ⟨a, xs, rfl, .inr (.of hx), hl, s3⟩
          | tup es => cases e2; obtain ⟨a, xs, rfl, hx, hl, s3⟩ := Sp.tup s2; exact ⟨a, xs, rfl, .inl hx, hl, s3⟩
          | scr es =>
            cases e2
            obtain ⟨Y, F, r'⟩ := s2.head
            obtain ⟨⟨F, r, nd, hb⟩, b, fr⟩ := s2
            cases r with
            | cons q t => cases q with
              | @scr a vs _ hx ts => exact ⟨a, vs, rfl, .inr hx.sq, ts.len, ⟨⟨_, Rps.append (F := []) ts.zip t, by simpa using nd, fun x m => hb x (by simpa using m)⟩, b, fr⟩⟩
          | _ => cases e2
        obtain ⟨a, xs, rfl, hx, hl, s3⟩ := key
        have s4 : Sq X Z Hb H1 σ δ1 (xs.zip (fzs ds0) ++ L) := ⟨by rw [List.append_assoc]; exact s3, s1.dom⟩
        refine ⟨a, xs, rfl, hx, t s4 e3 _ fun ys H2 hl2 s5 => q (xs ++ ys) H2 (by simp [hl, hl2]) (s5.perm ?_)⟩
        rw [zip_append hl, ← List.append_assoc]
        exact List.perm_append_comm.append_right _
      · cases e'
    · cases e'
  · cases e'
def pyE (d : D) : PyData := (toPy d).getD .none
def insL {α : Type} (le : α → α → Bool) (a : α) : List α → List α
  | [] => [a]
  | b :: r => if le a b then a :: b :: r else b :: insL le a r
def isrt {α : Type} (le : α → α → Bool) : List α → List α
  | [] => []
  | a :: r => insL le a (isrt le r)
section
variable {α : Type} {le : α → α → Bool}
theorem insL_perm (a : α) : ∀ l : List α, (insL le a l).Perm (a :: l)
  | [] => .refl _
  | b :: r => by
    unfold insL
    split
    · exact .refl _
    · exact ((insL_perm a r).cons b).trans (.swap _ _ _)
theorem isrt_perm : ∀ l : List α, (isrt le l).Perm l
  | [] => .refl _
  | a :: r => (insL_perm a _).trans ((isrt_perm r).cons a)
theorem insL_pw (h : PySem.W.TotalLe le) (a : α) : ∀ {l : List α}, l.Pairwise (fun a b => le a b = true) → (insL le a l).Pairwise fun a b => le a b = true
  | [], _ => List.pairwise_singleton _ _
  | b :: r, p => by
    obtain ⟨h1, h2⟩ := List.pairwise_cons.mp p
    unfold insL
    split
    · rename_i hab
      refine List.pairwise_cons.mpr ⟨fun c hc => ?_, p⟩
      rcases List.mem_cons.mp hc with e | hc
      · rw [e]; exact hab
      · exact h.trans _ _ _ hab (h1 c hc)
    · rename_i hab
      refine List.pairwise_cons.mpr ⟨fun c hc => ?_, insL_pw h a h2⟩
      rcases List.mem_cons.mp ((insL_perm a r).mem_iff.mp hc) with e | hc
      · rw [e]; exact (h.total a b).resolve_left hab
      · exact h1 c hc
theorem isrt_pw (h : PySem.W.TotalLe le) : ∀ l : List α, (isrt le l).Pairwise fun a b => le a b = true
  | [] => .nil
  | a :: r => insL_pw h a (isrt_pw h r)
theorem insL_filter (h : PySem.W.TotalLe le) (c a : α) : ∀ l : List α, (insL le a l).filter (PySem.W.sameRank le c) = (a :: l).filter (PySem.W.sameRank le c)
  | [] => rfl
  | b :: r => by
    unfold insL
    split
    · rfl
    · rename_i hab
      rw [List.filter_cons, insL_filter h c a r]
      by_cases ca : PySem.W.sameRank le c a = true
      · have cb : ¬ PySem.W.sameRank le c b = true := fun q => hab (by
          unfold PySem.W.sameRank at ca q
          simp only [Bool.and_eq_true] at ca q
          exact h.trans _ _ _ ca.2 q.1)
        simp [List.filter_cons, ca, cb]
      · simp [List.filter_cons, ca]
theorem isrt_filter (h : PySem.W.TotalLe le) (c : α) : ∀ l : List α, (isrt le l).filter (PySem.W.sameRank le c) = l.filter (PySem.W.sameRank le c)
  | [] => rfl
  | a :: r => by
    show (insL le a (isrt le r)).filter _ = _
    rw [insL_filter h c a, List.filter_cons, List.filter_cons, isrt_filter h c r]
theorem isrt_eq (h : PySem.W.TotalLe le) (l : List α) : isrt le l = l.mergeSort le := PySem.W.sort_unique h (isrt_pw h l) fun c => isrt_filter h c l
end
theorem dataLe_tot {β : Type} (k : β → PyData) : PySem.W.TotalLe (PySem.W.dataLe false k) := PySem.W.sortLe_total _ _ _
def srtD (ds : List D) : List D := isrt (PySem.W.dataLe false pyE) ds
theorem srtD_eq (ds : List D) : srtD ds = ds.mergeSort (PySem.W.dataLe false pyE) := isrt_eq (dataLe_tot _) ds
def isTup1 : PyData → Bool
  | .tuple (_ :: _) => true
  | _ => false
def notTup : PyData → Bool
  | .tuple _ => false
  | .none => false
  | _ => true
def srtOk (ds : List D) : Bool := (ds.all fun d => (toPy d).isSome && decide ((pyE d).depth ≤ 60)) && ((ds.all fun d => ds.all fun e => PySem.W.alike (pyE d) (pyE e)) && ((ds.all fun d => isTup1 (pyE d)) || ds.all fun d => notTup (pyE d))) && decide (ds.length ≤ sizeLine)
def strsK : List Key → Option (List Str)
  | [] => some []
  | .inr z :: r => (strsK r).map (z :: ·)
  | .inl _ :: _ => none
def dSortA : List D → Option D
  | [.lst _ ds] => if srtOk (fzs ds) then some (.lst true (srtD (fzs ds))) else none
  | [.dct _ ks _] => match strsK ks with
    | some zs => if zs.length < 64 then some (.lst true (srtD (zs.map D.str))) else none
    | none => none
  | _ => none
theorem mem_zip_snd {α β : Type} {as : List α} {bs : List β} {p : α × β} (h : p ∈ as.zip bs) : p.2 ∈ bs := (List.of_mem_zip h).2
theorem zip_map_snd {α β : Type} : ∀ {as : List α} {bs : List β}, as.length = bs.length → (as.zip bs).map Prod.snd = bs
  | [], [], _ => rfl
  | [], _ :: _, h => by simp at h
  | _ :: _, [], h => by simp at h
  | a :: as, b :: bs, h => by simp [zip_map_snd (as := as) (bs := bs) (by simpa using h)]
theorem zip_unzip {α β : Type} : ∀ l : List (α × β), (l.map Prod.fst).zip (l.map Prod.snd) = l
  | [] => rfl
  | (a, b) :: r => by simp [zip_unzip r]
theorem each_zip : ∀ {ws : List V} {ds : List D} {its : List Value}, ws.length = ds.length → Vals ws its → PySem.W.EachIs (fun (u : Value) (p : V × D) => RelV p.1 u) its (ws.zip ds)
  | [], [], _, _, .nil => .nil
  | [], _ :: _, _, h, _ => by simp at h
  | _ :: _, [], _, h, _ => by simp at h
  | w :: ws, d :: ds, _, h, .cons r t => .cons r (each_zip (by simpa using h) t)
theorem vals_each : ∀ {l : List (V × D)} {out : List Value}, PySem.W.EachIs (fun (u : Value) (p : V × D) => RelV p.1 u) out l → Vals (l.map Prod.fst) out
  | [], _, .nil => .nil
  | p :: l, _, .cons r t => .cons r (vals_each t)
theorem notTup_ok {p : PyData} (h : notTup p = true) : p ≠ .none ∧ ∀ xs, p ≠ .tuple xs := by
  cases p <;> simp_all [notTup]
theorem isTup1_ok {p : PyData} (h : isTup1 p = true) : ∃ x r, p = .tuple (x :: r) := by
  unfold isTup1 at h
  split at h
  · exact ⟨_, _, rfl⟩
  · cases h
theorem strsK_map : ∀ {ks : List Key} {zs : List Str}, strsK ks = some zs → ks = zs.map Sum.inr
  | [], zs, e => by cases e; rfl
  | .inr z :: r, zs, e => by
    simp only [strsK, Option.map_eq_some_iff] at e
    obtain ⟨ys, e1, rfl⟩ := e
    rw [strsK_map e1]; rfl
  | .inl _ :: _, _, e => by cases e
theorem rep_dp {K : PySem.W.Frag} {mg : Str → Option Value} {H Hb : Hp} {Z : Addr → Prop} {A P : PL} (s : Sp K mg Z Hb H (A ++ P)) {p : V × D} (hp : p ∈ A) {q : PyData} (e : toPy p.2 = some q) : Dp K H p.1 q := by
  obtain ⟨B, C, rfl⟩ := List.append_of_mem hp
  have s1 : Sp K mg Z Hb H (p :: (B ++ (C ++ P))) := s.perm (by
    rw [List.append_assoc]
    exact List.perm_middle)
  exact Sp.dp (v := p.1) (d := p.2) s1 e
end DL
namespace DL
open PySem.Spec PySem L2 PyProof.Rows
def leS (a b : Str) : Bool := decide (a.cps.toList ≤ b.cps.toList)
theorem rising_pw : ∀ (l : List Str) (p : Str), risingS p l = true → (p :: l).Pairwise fun a b => a.cps.toList ≤ b.cps.toList
  | [], p, _ => List.pairwise_singleton _ _
  | x :: r, p, h => by
    simp only [risingS, Bool.and_eq_true, Bool.not_eq_true', ltCps_eq, decide_eq_false_iff_not] at h
    have ih := rising_pw r x h.2
    have h1 : p.cps.toList ≤ x.cps.toList := List.not_lt.mp h.1
    refine List.pairwise_cons.mpr ⟨fun b hb => ?_, ih⟩
    rcases List.mem_cons.mp hb with e | hb
    · rw [e]; exact h1
    · exact List.le_trans h1 ((List.pairwise_cons.mp ih).1 b hb)
theorem sorted_pw {l : List Str} (h : sortedS l = true) : l.Pairwise fun a b => a.cps.toList ≤ b.cps.toList := by
  cases l with
  | nil => exact List.Pairwise.nil
  | cons x r => exact rising_pw r x h
theorem srtS_pw (zs : List Str) : (zs.mergeSort leS).Pairwise fun a b => a.cps.toList ≤ b.cps.toList := by
  have h := List.pairwise_mergeSort (le := leS) (fun a b c h1 h2 => decide_eq_true (List.le_trans (of_decide_eq_true h1) (of_decide_eq_true h2))) (fun a b => by
    rcases List.le_total a.cps.toList b.cps.toList with h | h
    · simp [leS, h]
    · simp [leS, h]) zs
  exact h.imp fun h => of_decide_eq_true h
theorem srtD_strs (zs : List Str) : srtD (zs.map D.str) = (zs.mergeSort leS).map D.str := by
  have e : ∀ a b : Str, leS a b = PySem.W.dataLe false pyE (.str a) (.str b) := fun a b => (congrFun (congrFun (PySem.W.dataLe_str (fun z : Str => z)) a) b).symm
  rw [srtD_eq]
  exact (PySem.W.sort_maps (l := zs) (r := leS) (s := PySem.W.dataLe false pyE) D.str fun a _ b _ => e a b).symm
theorem srt_strs {ys zs : List Str} (h : ys.Perm zs) (hs : sortedS ys = true) : ys.map D.str = srtD (zs.map D.str) := by
  rw [srtD_strs]
  congr 1
  exact List.Perm.eq_of_pairwise (fun a b _ _ h1 h2 => PySem.W.str_of_cps (List.le_antisymm h1 h2)) (sorted_pw hs) (srtS_pw zs) (h.trans (List.mergeSort_perm zs leS).symm)
theorem bc_sortA {X : Cx} (hc : X.calm = true) (hu : X.A.units + 65 < cLine) : BC X (.builtin "sorted") dSortA := by
  intro Z Hb H P vs ds d hl s e Q q
  unfold dSortA at e
  split at e
  · rename_i o es
    split at e
    · rename_i hok
      cases e
      match vs, hl with
      | [v], _ =>
        have s0 : Sp X.K X.mg Z Hb H ((v, .lst o es) :: P) := s
        have s1 : Sp X.K X.mg Z Hb H ((v, .lst false (fzs es)) :: P) := s0.freeze
        obtain ⟨a, ws, rfl, ha, hlw, s2⟩ := Sp.lst s1
        unfold srtOk at hok
        simp only [Bool.and_eq_true, Bool.or_eq_true, decide_eq_true_eq, List.all_eq_true] at hok
        obtain ⟨⟨h1, h2, h3⟩, h4⟩ := hok
        intro pins s' σ us I r
        obtain ⟨u, rfl, ru⟩ := vals1 r
        cases ru
        obtain ⟨its, rv, hls, hz⟩ := I.list (.of ha)
        have inB : ∀ p ∈ ws.zip (fzs es), p.2 ∈ fzs es := fun p hp => mem_zip_snd hp
        refine PySem.W.sorted_data (R := fun (u : Value) (p : V × D) => RelV p.1 u) (bs := ws.zip (fzs es)) (enc := fun p => pyE p.2) hls.isList (each_zip hlw rv) ?_ ?_ ?_ ?_ ?_ fun out ho he => ?_
        · refine ((PySem.W.each_mem (each_zip hlw rv)).mono fun u p hp => ?_)
          obtain ⟨hr, hm⟩ := hp
          have h5 := (h1 p.2 (inB p hm)).1
          obtain ⟨q', eq'⟩ := Option.isSome_iff_exists.mp h5
          have dp := rep_dp s2 hm eq'
          have : pyE p.2 = q' := by unfold pyE; rw [eq']; rfl
          rw [this]
          exact Dp.reads I q' p.1 u dp hr
        · intro x hx y hy
          obtain ⟨p, hp, rfl⟩ := List.mem_map.mp hx
          obtain ⟨p', hp', rfl⟩ := List.mem_map.mp hy
          exact h2 _ (inB p hp) _ (inB p' hp')
        · rcases h3 with h3 | h3
          · refine .inl fun x hx => ?_
            obtain ⟨p, hp, rfl⟩ := List.mem_map.mp hx
            exact isTup1_ok (h3 _ (inB p hp))
          · refine .inr fun x hx => ?_
            obtain ⟨p, hp, rfl⟩ := List.mem_map.mp hx
            exact notTup_ok (h3 _ (inB p hp))
        · simp only [List.length_zip]; omega
        · intro p hp
          have := (h1 p.2 (inB p hp)).2
          show X.A.units + 2 + (pyE p.2).depth < cLine
          omega
        · obtain ⟨ep, he'⟩ := PyProof.Rows.sortedAll_at s'.heap its out.toArray
          have hperm := List.mergeSort_perm (ws.zip (fzs es)) (PySem.W.dataLe false fun p : V × D => pyE p.2)
          generalize hB : (ws.zip (fzs es)).mergeSort (PySem.W.dataLe false fun p : V × D => pyE p.2) = B at he hperm
          have hmap : B.map Prod.snd = srtD (fzs es) := by
            rw [← hB]
            have := PySem.W.sort_maps (l := ws.zip (fzs es)) (r := PySem.W.dataLe false fun p : V × D => pyE p.2) (s := PySem.W.dataLe false pyE) Prod.snd (fun _ _ _ _ => rfl)
            rw [this, zip_map_snd hlw, srtD_eq]
          have hlen : (B.map Prod.fst).length ≤ sizeLine := by
            rw [List.length_map, hperm.length_eq, List.length_zip]
            omega
          have rvB : Vals (B.map Prod.fst) out := vals_each he
          refine ⟨.ref _, upd H (s'.heap.objs.size + 1) (.lst (B.map Prod.fst)), I.laid (t' := s'.toks) (fun _ _ => PyProof.Rows.sortedAll_old) (Nat.le_succ _) ⟨hlen, out, ep, rvB, he'⟩, rfl, q _ _ ?_⟩
          rw [← hmap]
          refine Sp.newL ?_ (by simp) (I.hok.fresh (Nat.le_succ _))
          rw [zip_unzip]
          exact s2.perm (hperm.symm.append_right _)
    · cases e
  · rename_i o ks ws
    split at e
    · rename_i zs hzs
      split at e
      · rename_i h64
        cases e
        match vs, hl with
        | [v], _ =>
          have s0 : Sp X.K X.mg Z Hb H ((v, .dct o ks ws) :: P) := s
          have s1 : Sp X.K X.mg Z Hb H ((v, .dct false ks (fzs ws)) :: P) := s0.freeze
          obtain ⟨a, kvs, rfl, rd, hk⟩ := s1.dctF
          refine wC_of (call_sortedD hc) ⟨a, kvs, zs, rfl, rd, by rw [hk]; exact strsK_map hzs, h64, fun ys p hp hs hn => ?_⟩
          rw [← srt_strs hp hs] at q
          refine q _ _ (Sp.newL ?_ (by simp) hn)
          have : ∀ l : List Str, Sp X.K X.mg Z Hb H ((l.map V.str).zip (l.map D.str) ++ P) := by
            intro l
            induction l with
            | nil => exact s0.drop
            | cons x l ih => exact ih.put fun _ => .str
          exact this _
      · cases e
    · cases e
  · cases e
end DL
set_option Elab.async false
set_option linter.all false
set_option maxRecDepth 100000
set_option maxHeartbeats 4000001
namespace DL
open PySem.Spec PySem L2 PyProof.Rows
def loopCs (own : List Nat) (t : MG) (c : MT) (m : ME) : List D → Env → List D → Option (List D × Env)
  | [], δ, acc => some (acc, δ)
  | d :: r, δ, acc => match t d δ with
    | some δ1 => match c δ1 with
      | some (true, δ2) => match m δ2 with
        | some (x, δ3) => if acc.length < sizeLine then loopCs own t c m r (wipeE δ3 own) (acc ++ [x]) else none
        | none => none
      | some (false, δ2) => loopCs own t c m r (wipeE δ2 own) acc
      | none => none
    | none => none
def loopC2 (own own1 : List Nat) (t : MG) (c : MT) (i1 : MI) (t1 : MG) (c1 : MT) (m : ME) : List D → Env → List D → Option (List D × Env)
  | [], δ, acc => some (acc, δ)
  | d :: r, δ, acc => match t d δ with
    | some δ1 => match c δ1 with
      | some (true, δ2) => match i1 δ2 with
        | some (es, δ3) => match loopCs own1 t1 c1 m es (wipeE δ3 own1) acc with
          | some (acc', δ4) => loopC2 own own1 t c i1 t1 c1 m r (wipeE δ4 own) acc'
          | none => none
        | none => none
      | some (false, δ2) => loopC2 own own1 t c i1 t1 c1 m r (wipeE δ2 own) acc
      | none => none
    | none => none
def mLc2 (i : MI) (own own1 : List Nat) (t : MG) (c : MT) (i1 : MI) (t1 : MG) (c1 : MT) (m : ME) : ME := fun δ => match i δ with
  | some (ds, δ1) => match loopC2 own own1 t c i1 t1 c1 m ds (wipeE δ1 own) [] with
    | some (acc, δ2) => some (.lst true acc, δ2)
    | none => none
  | none => none
section
variable {X : Cx} {elt tg iter tg1 iter1 : Expr} {ifs ifs1 : List Expr} {scope : Scope} {own : List (Str × Nat)} {pos : Pos} {mi mi1 : MI} {t t1 : MG} {c c1 : MT} {m : ME} {is is1 : List Nat}
theorem lc2_core (ht : ∀ s H C cl fp, IGt (bX X scope s H C cl fp) is tg t) (hc : ∀ s H C cl fp, ITs (bX X scope s H C cl fp) ifs c) (hi1 : ∀ s H C cl fp, II (bX X scope s H C cl fp) tg1 iter1 mi1)
    (ht1 : ∀ s H C cl fp, IGt (bX X scope s H C cl fp) is1 tg1 t1) (hc1 : ∀ s H C cl fp, ITs (bX X scope s H C cl fp) ifs1 c1) (he : ∀ s H C cl fp, IG (bX X scope s H C cl fp) elt m)
    {vs vs1 : List Nat} (hsub : ∀ i ∈ is, i ∈ vs) (hsub1 : ∀ i ∈ is1, i ∈ vs1) (h11 : ∀ i ∈ vs1, i ∈ vs) {Z : Addr → Prop} {Hb H : Hp} {σ : L2.St} {δ1 δ' : Env} {L : PL} {ds accF : List D}
    (hi : ∀ R : It → Hp → Prop, (∀ J H' LI, Yields X Hb J ds LI → Sq X Z Hb H' σ δ1 (LI ++ L) → R J H') → wI X tg iter σ H R)
    (e2 : loopC2 vs vs1 t c mi1 t1 c1 m ds (wipeE δ1 vs) [] = some (accF, δ')) (Q : VK) (q : ∀ v H', Sq X Z Hb H' σ δ' ((v, .lst true accF) :: L) → Q v H') :
    tLc2 (wI X tg iter) (fun v σ H Q => ∀ s H0 C cl fp, wG (bX X scope s H0 C cl fp) tg v σ H Q) (fun σ H Q => ∀ s H0 C cl fp, wTs (bX X scope s H0 C cl fp) ifs σ H Q) (fun σ H R => ∀ s H0 C cl fp, wI (bX X scope s H0 C cl fp) tg1 iter1 σ H R)
      (fun v σ H Q => ∀ s H0 C cl fp, wG (bX X scope s H0 C cl fp) tg1 v σ H Q) (fun σ H Q => ∀ s H0 C cl fp, wTs (bX X scope s H0 C cl fp) ifs1 σ H Q) (fun σ H Q => ∀ s H0 C cl fp, wE (bX X scope s H0 C cl fp) elt σ H Q) vs vs1 σ H Q := by
  refine hi _ fun J H1 LI hy s1 => fun D hD => ?_
  have dm1 : Dom σ (wipeE δ1 vs) := s1.dom.wipe vs
  refine ⟨fun i n H' => n = ds.length - i ∧ i ≤ ds.length ∧ ∃ δi acc, Sp X.K X.mg Z Hb H' (LI ++ ((.ref D, .lst true acc) :: (L ++ prs σ (wipeE δi vs)))) ∧ Dom σ (wipeE δi vs) ∧ loopC2 vs vs1 t c mi1 t1 c1 m (ds.drop i) (wipeE δi vs) acc = some (accF, δ'), ⟨ds.length, by simp, Nat.zero_le _, δ1, [], ?_, dm1, by simpa using e2⟩, ?_⟩
  · have h1 := Sp.wipes s1.dom s1.sp vs
    have h2 : Sp X.K X.mg Z Hb (upd H1 D (.lst [])) ((.ref D, .lst true []) :: (LI ++ L ++ prs σ (wipeE δ1 vs))) := Sp.newL (vs := []) (ds := []) h1 rfl hD
    (refine h2.perm ?_; rw [List.append_assoc])
    exact List.perm_middle.symm
  rintro i n H' ⟨rfl, hi', δi, acc, si, di, el⟩
  have hyi := hy i si
  by_cases hlt : i < ds.length
  · obtain ⟨go, yl⟩ := hyi.1 hlt
    have hd : ds.drop i = ds[i] :: ds.drop (i + 1) := List.drop_eq_getElem_cons hlt
    rw [hd] at el
    simp only [loopC2] at el
    split at el
    · rename_i δ3 et
      let Nx : Hp → Prop := fun H2 => ∃ δi acc, Sp X.K X.mg Z Hb H2 (LI ++ ((.ref D, .lst true acc) :: (L ++ prs σ (wipeE δi vs)))) ∧ Dom σ (wipeE δi vs) ∧ loopC2 vs vs1 t c mi1 t1 c1 m (ds.drop (i + 1)) (wipeE δi vs) acc = some (accF, δ')
      refine .inr ⟨go, Nx, fun H2 h => ⟨ds.length - (i + 1), by omega, rfl, hlt, h⟩, fun x H2 y => ?_⟩
      obtain ⟨d, ed, sy⟩ := yl x H2 y
      have ed' : d = ds[i] := by simpa [hlt] using ed.symm
      subst ed'
      have dw : Dom (L2.wipe σ vs) (wipeE δi vs) := di.of_wipe
      have sw : Sp X.K X.mg Z Hb H2 ((x, ds[i]) :: (LI ++ ((.ref D, .lst true acc) :: L)) ++ prs (L2.wipe σ vs) (wipeE δi vs)) := by
        rw [prs_wipe]
        have := sy
        simpa [List.append_assoc] using this
      intro s0 H0 C cl fp
      refine ht s0 H0 C cl fp (show Sq (bX X scope s0 H0 C cl fp) Z Hb H2 (L2.wipe σ vs) (wipeE δi vs) ((x, ds[i]) :: (LI ++ ((.ref D, .lst true acc) :: L))) from ⟨sw, dw⟩) et _ fun σ3 H3 s3 o3 => ⟨wipe_only o3 hsub, ?_⟩
      have o3' : Only' vs σ σ3 := ⟨o3.1.trans (wipe_length σ vs), fun j hj => by rw [o3.2 j fun h => hj (hsub j h), wipe_get hj]⟩
      have back : ∀ {H4 : Hp} {δ4 : Env} {A : PL} {acc : List DL.D}, Sp X.K X.mg Z Hb H4 (A ++ (LI ++ ((.ref D, .lst true acc) :: L)) ++ prs σ3 δ4) → Dom σ3 δ4 → Sp X.K X.mg Z Hb H4 (A ++ (LI ++ ((.ref D, .lst true acc) :: (L ++ prs σ (wipeE δ4 vs))))) := by
        intro H4 δ4 A acc h dm
        have h1 := Sp.wipes dm h vs
        rw [prs_only o3'] at h1
        simpa [List.append_assoc] using h1
      intro s0' H0' C' cl' fp'
      split at el
      · rename_i δ4 ec
        split at el
        · rename_i es δ5 ei
          split at el
          · rename_i accI δ6 elI
            refine hc s0' H0' C' cl' fp' (show Sq (bX X scope s0' H0' C' cl' fp') Z Hb H3 σ3 δ3 (LI ++ ((.ref D, .lst true acc) :: L)) from ⟨s3.sp, s3.dom⟩) ec _ fun H4 s4 => ?_
            rw [if_pos rfl]
            intro a0 a1 a2 a3 a4
            refine hi1 a0 a1 a2 a3 a4 (show Sq (bX X scope a0 a1 a2 a3 a4) Z Hb H4 σ3 δ4 (LI ++ ((.ref D, .lst true acc) :: L)) from ⟨s4.sp, s4.dom⟩) ei _ fun J1 H5 LI1 hy1 s5 => ?_
            -- the inner loop
            have s5w : Sp X.K X.mg Z Hb H5 (LI1 ++ (LI ++ ((.ref D, .lst true acc) :: L)) ++ prs σ3 (wipeE δ5 vs1)) := Sp.wipes s5.dom s5.sp vs1
            refine ⟨fun j k H' => k = es.length - j ∧ j ≤ es.length ∧ ∃ δj acc, Sp X.K X.mg Z Hb H' (LI1 ++ (LI ++ ((.ref D, .lst true acc) :: (L ++ prs σ3 (wipeE δj vs1))))) ∧ Dom σ3 (wipeE δj vs1) ∧ loopCs vs1 t1 c1 m (es.drop j) (wipeE δj vs1) acc = some (accI, δ6), ⟨es.length, by simp, Nat.zero_le _, δ5, acc, by simpa [List.append_assoc] using s5w, s5.dom.wipe vs1, by simpa using elI⟩, ?_⟩
            rintro j k H6 ⟨rfl, hj', δj, acc1, sj, dj, elj⟩
            have hyj := hy1 j sj
            by_cases hlt1 : j < es.length
            · obtain ⟨go1, yl1⟩ := hyj.1 hlt1
              have hd1 : es.drop j = es[j] :: es.drop (j + 1) := List.drop_eq_getElem_cons hlt1
              rw [hd1] at elj
              simp only [loopCs] at elj
              split at elj
              · rename_i δ7 et1
                refine .inr ⟨go1, fun H2 => ∃ δj acc, Sp X.K X.mg Z Hb H2 (LI1 ++ (LI ++ ((.ref D, .lst true acc) :: (L ++ prs σ3 (wipeE δj vs1))))) ∧ Dom σ3 (wipeE δj vs1) ∧ loopCs vs1 t1 c1 m (es.drop (j + 1)) (wipeE δj vs1) acc = some (accI, δ6),
                  fun H2 h => ⟨es.length - (j + 1), by omega, rfl, hlt1, h⟩, fun x1 H7 y1 => ?_⟩
                obtain ⟨d1, ed1, sy1⟩ := yl1 x1 H7 y1
                have ed1' : d1 = es[j] := by simpa [hlt1] using ed1.symm
                subst ed1'
                have dw1 : Dom (L2.wipe σ3 vs1) (wipeE δj vs1) := dj.of_wipe
                have sw1 : Sp X.K X.mg Z Hb H7 ((x1, es[j]) :: (LI1 ++ (LI ++ ((.ref D, .lst true acc1) :: L))) ++ prs (L2.wipe σ3 vs1) (wipeE δj vs1)) := by
                  rw [prs_wipe]
                  have := sy1
                  simpa [List.append_assoc] using this
                intro b0 b1 b2 b3 b4
                refine ht1 b0 b1 b2 b3 b4 (show Sq (bX X scope b0 b1 b2 b3 b4) Z Hb H7 (L2.wipe σ3 vs1) (wipeE δj vs1) ((x1, es[j]) :: (LI1 ++ (LI ++ ((.ref D, .lst true acc1) :: L)))) from ⟨sw1, dw1⟩) et1 _ fun σ5 H8 s8 o8 => ⟨wipe_only o8 hsub1, ?_⟩
                have o8' : Only' vs1 σ3 σ5 := ⟨o8.1.trans (wipe_length σ3 vs1), fun z hz => by rw [o8.2 z fun h => hz (hsub1 z h), wipe_get hz]⟩
                have back1 : ∀ {H4 : Hp} {δ4 : Env} {A : PL}, Sp X.K X.mg Z Hb H4 (A ++ (LI1 ++ (LI ++ ((.ref D, .lst true acc1) :: L))) ++ prs σ5 δ4) → Dom σ5 δ4 → Sp X.K X.mg Z Hb H4 (A ++ (LI1 ++ (LI ++ ((.ref D, .lst true acc1) :: (L ++ prs σ3 (wipeE δ4 vs1)))))) := by
                  intro H4 δ4 A h dm
                  have h1 := Sp.wipes dm h vs1
                  rw [prs_only o8'] at h1
                  simpa [List.append_assoc] using h1
                intro c0 c1' c2 c3 c4
                split at elj
                · rename_i δ8 ec1
                  refine hc1 c0 c1' c2 c3 c4 (show Sq (bX X scope c0 c1' c2 c3 c4) Z Hb H8 σ5 δ7 (LI1 ++ (LI ++ ((.ref D, .lst true acc1) :: L))) from ⟨s8.sp, s8.dom⟩) ec1 _ fun H9 s9 => ?_
                  rw [if_pos rfl]
                  intro d0 d1 d2 d3 d4
                  split at elj
                  · rename_i z δ9 ee
                    split at elj
                    · rename_i hz
                      refine he d0 d1 d2 d3 d4 (show Sq (bX X scope d0 d1 d2 d3 d4) Z Hb H9 σ5 δ8 (LI1 ++ (LI ++ ((.ref D, .lst true acc1) :: L))) from ⟨s9.sp, s9.dom⟩) ee _ fun w Ha sa => ?_
                      have s6 : Sp X.K X.mg Z Hb Ha ([(w, z)] ++ (LI1 ++ (LI ++ ((.ref D, .lst true acc1) :: (L ++ prs σ3 (wipeE δ9 vs1)))))) := back1 (A := [(w, z)]) sa.sp sa.dom
                      have s7 : Sp X.K X.mg Z Hb Ha ((.ref D, .lst true acc1) :: ((w, z) :: (LI1 ++ (LI ++ (L ++ prs σ3 (wipeE δ9 vs1)))))) := s6.perm (by
                        show List.Perm ((w, z) :: (LI1 ++ (LI ++ ((.ref D, .lst true acc1) :: (L ++ prs σ3 (wipeE δ9 vs1)))))) _
                        refine List.Perm.trans (List.Perm.cons _ ?_) (.swap _ _ _)
                        rw [← List.append_assoc, ← List.append_assoc]
                        exact List.perm_middle)
                      obtain ⟨ws, hw, hlw, mu⟩ := s7.mutL
                      refine ⟨ws, hw, by rw [hlw]; exact hz, δ9, acc1 ++ [z], ?_, sa.dom.only o8', elj⟩
                      have s8' := mu (ws ++ [w]) (acc1 ++ [z]) (LI1 ++ (LI ++ (L ++ prs σ3 (wipeE δ9 vs1)))) (by simp [hlw]) (by
                        rw [zip_append hlw, List.append_assoc]
                        exact List.Perm.refl _)
                      exact s8'.perm (by
                        refine List.Perm.trans (List.perm_middle (l₁ := LI1) (a := ((V.ref D, DL.D.lst true (acc1 ++ [z])) : V × DL.D)) (l₂ := LI ++ (L ++ prs σ3 (wipeE δ9 vs1)))).symm ?_
                        exact List.Perm.append_left _ List.perm_middle.symm)
                    · cases elj
                  · cases elj
                · rename_i δ8 ec1
                  refine hc1 c0 c1' c2 c3 c4 (show Sq (bX X scope c0 c1' c2 c3 c4) Z Hb H8 σ5 δ7 (LI1 ++ (LI ++ ((.ref D, .lst true acc1) :: L))) from ⟨s8.sp, s8.dom⟩) ec1 _ fun H9 s9 => ?_
                  (rw [if_neg Bool.false_ne_true])
                  exact ⟨δ8, acc1, back1 (A := []) s9.sp s9.dom, s9.dom.only o8', elj⟩
                · cases elj
              · cases elj
            · have hn1 : j = es.length := by omega
              have : es.drop j = [] := List.drop_eq_nil_of_le (by omega)
              rw [this] at elj
              cases elj
              refine .inl ⟨hyj.2 (by omega), ?_⟩
              have s6 : Sp X.K X.mg Z Hb H6 (LI ++ ((.ref D, .lst true accI) :: L) ++ prs σ3 (wipeE δj vs1)) := by
                have := Sp.dropL (L := LI1) sj
                simpa [List.append_assoc] using this
              have s7 := back (A := []) s6 dj
              exact ⟨wipeE δj vs1, accI, s7, dj.only o3', el⟩
          · cases el
        · cases el
      · rename_i δ4 ec
        refine hc s0' H0' C' cl' fp' (show Sq (bX X scope s0' H0' C' cl' fp') Z Hb H3 σ3 δ3 (LI ++ ((.ref D, .lst true acc) :: L)) from ⟨s3.sp, s3.dom⟩) ec _ fun H4 s4 => ?_
        (rw [if_neg Bool.false_ne_true])
        exact ⟨δ4, acc, back (A := []) s4.sp s4.dom, s4.dom.only o3', el⟩
      · cases el
    · cases el
  · have hn : i = ds.length := by omega
    have : ds.drop i = [] := List.drop_eq_nil_of_le (by omega)
    rw [this] at el
    cases el
    refine .inl ⟨hyi.2 (by omega), q _ _ ⟨?_, di⟩⟩
    exact Sp.dropL (L := LI) si
theorem lc2_run (hi : II X tg iter mi) (ht : ∀ s H C cl fp, IGt (bX X scope s H C cl fp) is tg t) (hc : ∀ s H C cl fp, ITs (bX X scope s H C cl fp) ifs c) (hi1 : ∀ s H C cl fp, II (bX X scope s H C cl fp) tg1 iter1 mi1)
    (ht1 : ∀ s H C cl fp, IGt (bX X scope s H C cl fp) is1 tg1 t1) (hc1 : ∀ s H C cl fp, ITs (bX X scope s H C cl fp) ifs1 c1) (he : ∀ s H C cl fp, IG (bX X scope s H C cl fp) elt m)
    {vs vs1 : List Nat} (hsub : ∀ i ∈ is, i ∈ vs) (hsub1 : ∀ i ∈ is1, i ∈ vs1) (h11 : ∀ i ∈ vs1, i ∈ vs) {Z : Addr → Prop} {Hb H : Hp} {σ : L2.St} {δ δ' : Env} {L : PL} {d : D} (s : Sq X Z Hb H σ δ L) (e : mLc2 mi vs vs1 t c mi1 t1 c1 m δ = some (d, δ')) (Q : VK) (q : ∀ v H', Sq X Z Hb H' σ δ' ((v, d) :: L) → Q v H') :
    tLc2 (wI X tg iter) (fun v σ H Q => ∀ s H0 C cl fp, wG (bX X scope s H0 C cl fp) tg v σ H Q) (fun σ H Q => ∀ s H0 C cl fp, wTs (bX X scope s H0 C cl fp) ifs σ H Q) (fun σ H R => ∀ s H0 C cl fp, wI (bX X scope s H0 C cl fp) tg1 iter1 σ H R)
      (fun v σ H Q => ∀ s H0 C cl fp, wG (bX X scope s H0 C cl fp) tg1 v σ H Q) (fun σ H Q => ∀ s H0 C cl fp, wTs (bX X scope s H0 C cl fp) ifs1 σ H Q) (fun σ H Q => ∀ s H0 C cl fp, wE (bX X scope s H0 C cl fp) elt σ H Q) vs vs1 σ H Q := by
  unfold mLc2 at e
  split at e
  · rename_i ds δ1 e1
    split at e
    · rename_i accF δ2 e2
      cases e
      exact lc2_core ht hc hi1 ht1 hc1 he hsub hsub1 h11 (fun R q => hi s e1 R q) e2 Q q
    · cases e
  · cases e
theorem is_setLc2 {P : Nat → Bool} {j : Nat} {y : Str} {py spos : Pos} (vs1 : List Nat) (hP : P j = false) (hcl : X.calm = true) (hN : X.N.Nodup) (hy : X.N[j]? = some y) (hyl : X.env.scope.names.lookup y = some .local)
    (hsw : swapsWith (.ListComp elt [⟨tg, iter, ifs, 0⟩, ⟨tg1, iter1, ifs1, 0⟩] scope pos) (some (.Name y py)) spos.line X.env = pure true) (hi : II X tg iter mi) (ok : BlkOk X.N X.env.scope scope own) (ht : ∀ s H C cl fp, IGt (bX X scope s H C cl fp) is tg t) (hc : ∀ s H C cl fp, ITs (bX X scope s H C cl fp) ifs c) (hi1 : ∀ s H C cl fp, II (bX X scope s H C cl fp) tg1 iter1 mi1)
    (ht1 : ∀ s H C cl fp, IGt (bX X scope s H C cl fp) is1 tg1 t1) (hc1 : ∀ s H C cl fp, ITs (bX X scope s H C cl fp) ifs1 c1) (he : ∀ s H C cl fp, IG (bX X scope s H C cl fp) elt m)
    (hsub : ∀ i ∈ is, i ∈ own.map (·.2)) (hsub1 : ∀ i ∈ is1, i ∈ vs1) (h11 : ∀ i ∈ vs1, i ∈ own.map (·.2)) (hs : ∀ x, foldedSetIterable iter X.env x = pure x) (hs1 : ∀ env x, foldedSetIterable iter1 env x = pure x) :
    IS X P (.Assign [.Name y py] (.ListComp elt [⟨tg, iter, ifs, 0⟩, ⟨tg1, iter1, ifs1, 0⟩] scope pos) spos) (sSet j (mLc2 mi (own.map (·.2)) vs1 t c mi1 t1 c1 m)) := by
  intro Z Hb H σ δ L fl s e Dn f
  unfold sSet at e
  split at e
  · rename_i d δ1 e1
    split at e
    · rename_i hl
      cases e
      refine wS_of (ps_setLc2 (pos := pos) (wi := wI X tg iter) (g := fun v σ H Q => ∀ s H0 C cl fp, wG (bX X scope s H0 C cl fp) tg v σ H Q) (tt := fun σ H Q => ∀ s H0 C cl fp, wTs (bX X scope s H0 C cl fp) ifs σ H Q) (wi1 := fun σ H R => ∀ s H0 C cl fp, wI (bX X scope s H0 C cl fp) tg1 iter1 σ H R)
        (g1 := fun v σ H Q => ∀ s H0 C cl fp, wG (bX X scope s H0 C cl fp) tg1 v σ H Q) (tt1 := fun σ H Q => ∀ s H0 C cl fp, wTs (bX X scope s H0 C cl fp) ifs1 σ H Q) (te := fun σ H Q => ∀ s H0 C cl fp, wE (bX X scope s H0 C cl fp) elt σ H Q) hcl hN hy hyl hsw pi_w ok h11 (fun s H C cl fp => ⟨fun pins s' σ H' v u Q I r h => h s H C cl fp pins s' u I r⟩) (fun s H C cl fp => ⟨fun pins s' σ H' Q I h => h s H C cl fp pins s' I⟩) (fun s H C cl fp => ⟨fun pins s' σ H' R I h => h s H C cl fp pins s' I⟩)
        (fun s H C cl fp => ⟨fun pins s' σ H' v u Q I r h => h s H C cl fp pins s' u I r⟩) (fun s H C cl fp => ⟨fun pins s' σ H' Q I h => h s H C cl fp pins s' I⟩) (fun s H C cl fp => ⟨fun pins s' σ H' Q I h => h s H C cl fp pins s' I⟩) hs hs1) ?_
      exact lc2_run hi ht hc hi1 ht1 hc1 he hsub hsub1 h11 s e1 _ fun v H' s' => f _ H' (s'.store hl) (.set hP _)
    · cases e
  · cases e
end
def pairsD : List D → Option (List Key × List D)
  | [] => some ([], [])
  | .tup [k, v] :: r => match keyD k, pairsD r with
    | some kk, some (ks, vs) => some (kk :: ks, v :: vs)
    | _, _ => none
  | _ :: _ => none
def dDict : List D → Option D
  | [.lst _ ds] => match pairsD (fzs ds) with
    | some (ks, vs) => if decide ks.Nodup then some (.dct true ks vs) else none
    | none => none
  | _ => none
theorem pairs_run {K : PySem.W.Frag} {mg : Str → Option Value} {H Hb : Hp} {Z : Addr → Prop} {P : PL} : ∀ {ds : List D} {ws : List V} {ks : List Key} {vs : List D}, ws.length = ds.length → pairsD ds = some (ks, vs) → Sp K mg Z Hb H (ws.zip ds ++ P) →
    ∃ (ps : List Addr) (kvs : List (Key × V)), ws = ps.map V.ref ∧ Paired (fun p kv => SqT K H p [kV kv.1, kv.2]) ps kvs ∧ kvs.map (·.1) = ks ∧ kvs.length = vs.length ∧ Sp K mg Z Hb H ((kvs.map (·.2)).zip vs ++ P)
  | [], [], _, _, _, e, s => by cases e; exact ⟨[], [], rfl, .nil, rfl, rfl, s⟩
  | [], _ :: _, _, _, h, _, _ => by simp at h
  | _ :: _, [], _, _, h, _, _ => by simp at h
  | d :: ds, w :: ws, ks, vs, hl, e, s => by
    unfold pairsD at e
    split at e
    · rename_i e1; cases e1
    · rename_i k v r e1
      cases e1
      split at e
      · rename_i kk ks' vs' ek er
        cases e
        have s0 : Sp K mg Z Hb H ((w, .tup [k, v]) :: (ws.zip ds ++ P)) := s
        obtain ⟨a, us, rfl, ha, hlu, s1⟩ := s0.tup
        match us, hlu with
        | [u1, u2], _ =>
          have s2 : Sp K mg Z Hb H ((u1, k) :: (u2, v) :: (ws.zip ds ++ P)) := s1
          have ek' := s2.key ek
          subst ek'
          have s3 : Sp K mg Z Hb H (ws.zip ds ++ ((u2, v) :: P)) := s2.drop.perm List.perm_middle.symm
          obtain ⟨ps, kvs, rfl, hp, hk, hlk, s4⟩ := pairs_run (by simpa using hl) er s3
          exact ⟨a :: ps, (kk, u2) :: kvs, rfl, .cons ha hp, by simp [hk], by simp [hlk], s4.perm List.perm_middle⟩
      · cases e
    · cases e
theorem bc_dict {X : Cx} (hc : X.calm = true) : BC X (.type "dict") dDict := by
  intro Z Hb H P vs ds d hl s e Q q
  unfold dDict at e
  split at e
  · rename_i o es
    split at e
    · rename_i ks ws ep
      split at e
      · rename_i hnd
        cases e
        match vs, hl with
        | [v], _ =>
          have s0 : Sp X.K X.mg Z Hb H ((v, .lst o es) :: P) := s
          have s1 : Sp X.K X.mg Z Hb H ((v, .lst false (fzs es)) :: P) := s0.freeze
          obtain ⟨a, xs, rfl, ha, hlx, s2⟩ := Sp.lst s1
          obtain ⟨ps, kvs, rfl, hp, hk, hlk, s3⟩ := pairs_run hlx ep s2
          refine wC_of (call_dictP hc) ⟨a, ps, kvs, rfl, .of ha, hp, fun p hn => ?_⟩
          have hnd' : ks.Nodup := of_decide_eq_true hnd
          have hm : mergeK [] kvs = kvs := by
            have := mergeK_new (more := kvs) (kvs := []) (fun p _ => rfl) (by rw [hk]; exact hnd')
            simpa using this
          rw [hm]
          exact q _ _ (s3.newK hlk ⟨hk, hnd'⟩ hn)
      · cases e
    · cases e
  · cases e
end DL
set_option Elab.async false
set_option linter.all false
set_option maxRecDepth 100000
set_option maxHeartbeats 4000001
namespace DL
open PySem.Spec PySem L2 PyProof.Rows
/-- an attribute of some classes -/
def AtF (K : PySem.W.Frag) (mg : Str → Option Value) (cs : List Str) (f : Str) : Prop := ∀ c ∈ cs, ∀ C, mg c = some (.ref C) → Cls K C ∧ NoAttr K C f
section
variable {K : PySem.W.Frag} {mg : Str → Option Value} {c f : Str} {cs : List Str}
theorem atF_nil : AtF K mg [] f := fun c m => by cases m
theorem atF_cons (hg : mg c = some (.ref (He.ga K c))) (hc : Cls K (He.ga K c)) (hn : NoAttr K (He.ga K c) f) (r : AtF K mg cs f) : AtF K mg (c :: cs) f := fun x m C hx => by
  rcases List.mem_cons.mp m with e | m
  · subst e
    rw [hg] at hx
    cases hx
    exact ⟨hc, hn⟩
  · exact r x m C hx
theorem gl_cls {a : Addr} (h : mg c = some (.ref a)) : GlD K mg c (.glo c) := ⟨.ref a, .ref a, h, rfl, fun _ _ => .glo h⟩
end
def iAlt (a b : MI) : MI := fun δ => match a δ with
  | some r => some r
  | none => b δ
section
variable {X : Cx} {x : Str} {p pos : Pos} {e : Expr} {es : List Expr} {as : List AS} {k : Nat} {ps : List Str} {m : MF} {dd : List D}
theorem x_make (c : CalC X.prog X.w X.K X.mg X.base k x ps dd m) (hr : Room (k + 1) X.A) (hg : X.A.guards = some []) (ha : IA X (e :: es) as) (hn : as.length + dd.length + 1 = ps.length := by rfl) (hgl : Gl X x := by rfl) (hdb : (x == ("__debug__" : Str)) = false := by decide)
    (he : starEach (e :: es) X.env = (false, eval e X.env) :: starEach es X.env := by rfl) (hpl : (backTo pos (starEach es X.env)).any (·.1) = false := by rfl) : IG X (.Call (.Name x p) (e :: es) [] pos) (mMake x m as dd) := by
  obtain ⟨C, f, fd, dvs, dsv, F, hm, M, hb, hd, hdd⟩ := c.ex
  exact ig_make dd M F hr hg hgl hm hb hd hdd ha hn hdb he hpl
theorem x_enum2 {r : ML} {tpos : Pos} {elts : List Expr} {kk : Nat} (hm : X.mg "enumerate" = none) (ha : IL X [e] r) (hg : Gl X "enumerate" := by rfl) (hs : starEach [e] X.env = [(false, eval e X.env)] := by rfl) : II X (.Tuple elts kk tpos) (.Call (.Name "enumerate" p) [e] [] pos) (iEnum2 r) := ii_enum2 hg hm ha hs
theorem x_zip2 {e2 : Expr} {r : ML} {tpos : Pos} {elts : List Expr} {kk : Nat} (hm : X.mg "zip" = none) (ha : IL X [e, e2] r) (hg : Gl X "zip" := by rfl) (hs : starEach [e, e2] X.env = (false, eval e X.env) :: starEach [e2] X.env := by rfl) (hpl : (backTo pos (starEach [e2] X.env)).any (·.1) = false := by rfl) :
    II X (.Tuple elts kk tpos) (.Call (.Name "zip" p) [e, e2] [] pos) (iZip2 r) := ii_zip2 hg hm ha hs hpl
theorem x_pfld {o : Expr} {f : Str} {i : Nat} {mp : MP} (cs : List Str) (h : IP X o i mp) (hc : AtF X.K X.mg cs f) (hb : attributeBase o f X.env (eval o X.env) = eval o X.env := by rfl) : IP X (.Attribute o f pos) i (pFld mp cs f) := ip_fld cs h hb hc
theorem x_putF {P : Nat → Bool} {o v : Expr} {f : Str} {i : Nat} {mp : MP} {me : ME} {pos' : Pos} (cs : List Str) (he : IG X v me) (ho : IP X o i mp) (hc : AtF X.K X.mg cs f) (hs : swapsWith v (some (.Attribute o f pos')) pos.line X.env = pure false := by rfl) :
    IS X P (.Assign [.Attribute o f pos'] v pos) (sPutF i mp cs f me) := is_putF cs he ho hc hs
theorem x_star {me : ME} {r : ML} (h : IG X e me) (t : IL X es r) (hs : starEach (.Starred e p :: es) X.env = (true, eval e X.env) :: starEach es X.env := by rfl) : IL X (.Starred e p :: es) (mStarC me r) := il_star h t hs
end
section
variable {X : Cx} {P : Nat → Bool} {tg iter elt : Expr} {ifs : List Expr} {body : List Stmt} {mi : MI} {t : MG} {b : MS} {c : MT} {m : ME} {is : List Nat} {pos : Pos} {i : Nat} {mp : MP} {scope : Scope} {own : List (Str × Nat)}
/-- a list, or else the dict at a place -/
theorem x_forA (hpo : PassesOwn (model X.prog X.w) X.A X.env X.xe) (hi : II X tg iter mi) (ho : IP X iter i mp) (ht : IGt X is tg t) (hb : ISs X P body b) (hm : ∀ δ δ', mp δ = mp δ' := by intro _ _; rfl) (hc : X.calm = true := by rfl) (hP : ∀ i ∈ is, P i = false := by decide) (hs : ∀ x, foldedSetIterable iter X.env x = pure x := by intro _; rfl) :
    IS X P (.For tg iter body [] pos) (sFor (iAlt mi (keysAt i mp)) t b) := by
  intro Z Hb H σ δ L fl s e Dn f
  cases h : mi δ with
  | some r => exact is_for hpo hc hi ht hb hP hs s (by simpa [sFor, iAlt, h] using e) Dn f
  | none => exact is_forK hpo hc ho hm ht hb hP hs s (by simpa [sFor, iAlt, h] using e) Dn f
theorem x_lcompA (nd : X.N.Nodup) (hi : II X tg iter mi) (ho : IP X iter i mp) (ok : BlkOk X.N X.env.scope scope own) (ht : ∀ s H C cl fp, IGt (bX X scope s H C cl fp) is tg t) (hc : ∀ s H C cl fp, ITs (bX X scope s H C cl fp) ifs c) (he : ∀ s H C cl fp, IG (bX X scope s H C cl fp) elt m)
    (hm : ∀ δ δ', mp δ = mp δ' := by intro _ _; rfl) (hcl : X.calm = true := by rfl) (hsub : ∀ i ∈ is, i ∈ own.map (·.2) := by decide) (hs : ∀ x, foldedSetIterable iter X.env x = pure x := by intro _; rfl) : IG X (.ListComp elt [⟨tg, iter, ifs, 0⟩] scope pos) (mLc (iAlt mi (keysAt i mp)) (own.map (·.2)) t c m) := by
  intro Z Hb H σ δ L d δ' s e Q q
  cases h : mi δ with
  | some r => exact ig_lc hcl nd hi ok ht hc he hsub hs s (by simpa [mLc, iAlt, h] using e) Q q
  | none => exact ig_lcK hcl nd ho hm ok ht hc he hsub hs s (by simpa [mLc, iAlt, h] using e) Q q
theorem x_setLcA {j : Nat} {y : Str} {py spos : Pos} (nd : X.N.Nodup) (hi : II X tg iter mi) (ho : IP X iter i mp) (ok : BlkOk X.N X.env.scope scope own) (ht : ∀ s H C cl fp, IGt (bX X scope s H C cl fp) is tg t) (hc : ∀ s H C cl fp, ITs (bX X scope s H C cl fp) ifs c) (he : ∀ s H C cl fp, IG (bX X scope s H C cl fp) elt m)
    (hm : ∀ δ δ', mp δ = mp δ' := by intro _ _; rfl) (hP : P j = false := by rfl) (hcl : X.calm = true := by rfl) (hy : X.N[j]? = some y := by rfl) (hyl : X.env.scope.names.lookup y = some .local := by rfl) (hsw : swapsWith (.ListComp elt [⟨tg, iter, ifs, 0⟩] scope pos) (some (.Name y py)) spos.line X.env = pure true := by exact sw_true rfl rfl rfl (by decide))
    (hsub : ∀ i ∈ is, i ∈ own.map (·.2) := by decide) (hs : ∀ x, foldedSetIterable iter X.env x = pure x := by intro _; rfl) : IS X P (.Assign [.Name y py] (.ListComp elt [⟨tg, iter, ifs, 0⟩] scope pos) spos) (sSet j (mLc (iAlt mi (keysAt i mp)) (own.map (·.2)) t c m)) := by
  intro Z Hb H σ δ L fl s e Dn f
  cases h : mi δ with
  | some r => exact is_setLc hP hcl nd hy hyl hsw hi ok ht hc he hsub hs s (by simpa [sSet, mLc, iAlt, h] using e) Dn f
  | none => exact is_setLcK hP hcl nd hy hyl hsw ho hm ok ht hc he hsub hs s (by simpa [sSet, mLc, iAlt, h] using e) Dn f
variable {tg1 iter1 : Expr} {ifs1 : List Expr} {mi1 : MI} {t1 : MG} {c1 : MT} {is1 : List Nat}
theorem x_setLc2 {j : Nat} {y : Str} {py spos : Pos} (vs1 : List Nat) (nd : X.N.Nodup) (hi : II X tg iter mi) (ok : BlkOk X.N X.env.scope scope own) (ht : ∀ s H C cl fp, IGt (bX X scope s H C cl fp) is tg t) (hc : ∀ s H C cl fp, ITs (bX X scope s H C cl fp) ifs c) (hi1 : ∀ s H C cl fp, II (bX X scope s H C cl fp) tg1 iter1 mi1)
    (ht1 : ∀ s H C cl fp, IGt (bX X scope s H C cl fp) is1 tg1 t1) (hc1 : ∀ s H C cl fp, ITs (bX X scope s H C cl fp) ifs1 c1) (he : ∀ s H C cl fp, IG (bX X scope s H C cl fp) elt m)
    (hP : P j = false := by rfl) (hcl : X.calm = true := by rfl) (hy : X.N[j]? = some y := by rfl) (hyl : X.env.scope.names.lookup y = some .local := by rfl) (hsw : swapsWith (.ListComp elt [⟨tg, iter, ifs, 0⟩, ⟨tg1, iter1, ifs1, 0⟩] scope pos) (some (.Name y py)) spos.line X.env = pure true := by exact sw_true rfl rfl rfl (by decide))
    (hsub : ∀ i ∈ is, i ∈ own.map (·.2) := by decide) (hsub1 : ∀ i ∈ is1, i ∈ vs1 := by decide) (h11 : ∀ i ∈ vs1, i ∈ own.map (·.2) := by decide) (hs : ∀ x, foldedSetIterable iter X.env x = pure x := by intro _; rfl) (hs1 : ∀ env x, foldedSetIterable iter1 env x = pure x := by intro _ _; rfl) :
    IS X P (.Assign [.Name y py] (.ListComp elt [⟨tg, iter, ifs, 0⟩, ⟨tg1, iter1, ifs1, 0⟩] scope pos) spos) (sSet j (mLc2 mi (own.map (·.2)) vs1 t c mi1 t1 c1 m)) := is_setLc2 vs1 hP hcl nd hy hyl hsw hi ok ht hc hi1 ht1 hc1 he hsub hsub1 h11 hs hs1
end
section
variable {P : Program} {w : World} {K : PySem.W.Frag} {mg : Str → Option Value} {base : Heap} {k : Nat} {x c nm qual : Str} {params : Arguments} {body : List Stmt} {scope : Scope} {kws : List (Str × V)} {f : Addr} {fd : FuncData} {ps : List Str} {m : MF}
/-- __init__ of a class -/
theorem calC_of {C : Addr} (F : FunD K x qual params body scope [] kws f fd) (G : FnG P w K mg base k f fd ps (spD K mg ps.length m)) (gm : mg c = some (.ref C)) (M : Mk K C f)
    (h : ∀ (kV doc pm : Value) (an : Option Addr) (cdv ct : Value) (us : List Value), us.length = ps.length → bindArgs (PySem.W.fnOf x qual params body scope .none kV doc pm an cdv ct) ⟨us, []⟩ = pure (ps.zip us)) : CalC P w K mg base k c ps [] m :=
  ⟨C, f, fd, [], [], G, gm, M, F.bindsN h, .nil, fun _ _ => .nil⟩
end
def bodyOf : Stmt → List Stmt
  | .ClassDef _ _ _ body _ _ _ _ _ _ _ => body
  | _ => []
/-- given up: from here on nobody changes it -/
def mFz (a : ME) : ME := fun δ => match a δ with
  | some (d, δ1) => some (fz d, δ1)
  | none => none
theorem ig_fz {X : Cx} {e : Expr} {a : ME} (h : IG X e a) : IG X e (mFz a) := by
  intro Z Hb H σ δ L d δ' s e' Q q
  unfold mFz at e'
  split at e'
  · rename_i d1 δ1 e1
    cases e'
    exact h s e1 Q fun v H1 s1 => q v H1 ⟨Sp.freeze s1.sp, s1.dom⟩
  · cases e'
end DL
set_option Elab.async false
set_option linter.all false
set_option maxRecDepth 100000
set_option maxHeartbeats 4000001
namespace DL
open PySem.Spec PySem L2 PyProof.Rows
section
variable {α β : Type} {i : MI} {own : List Nat} {t : MG} {c : MT} {m : ME} {b : MS} {δ δ1 : DL.Env}
theorem loopC_typ (g : α → D) (p : α → Bool) (f : α → D) : ∀ (xs : List α) (acc : List D), (∀ x ∈ xs, ∃ δa, t (g x) δ1 = some δa ∧ wipeE δa own = δ1 ∧ c δa = some (p x, δa) ∧ (p x = true → m δa = some (f x, δa))) →
    loopC own t c m (xs.map g) δ1 acc = some (acc ++ (xs.filter p).map f, δ1)
  | [], acc, h => by simp [loopC]
  | x :: xs, acc, h => by
    obtain ⟨δa, h1, h2, h3, h4⟩ := h x List.mem_cons_self
    have ih := loopC_typ g p f xs
    have hr : ∀ y ∈ xs, _ := fun y hy => h y (List.mem_cons_of_mem _ hy)
    rw [List.map_cons]
    simp only [loopC, h1, h3]
    cases hp : p x with
    | false =>
      simp only [h2]
      rw [ih acc hr, List.filter_cons, hp]
      simp
    | true =>
      simp only [h4 hp, h2]
      rw [ih _ hr, List.filter_cons, hp]
      simp
theorem lc_typ (xs : List α) (g : α → D) (p : α → Bool) (f : α → D) (hi : i δ = some (xs.map g, δ1)) (hw : wipeE δ1 own = δ1) (hl : xs.length ≤ sizeLine)
    (h : ∀ x ∈ xs, ∃ δa, t (g x) δ1 = some δa ∧ wipeE δa own = δ1 ∧ c δa = some (p x, δa) ∧ (p x = true → m δa = some (f x, δa))) :
    mLc i own t c m δ = some (.lst true ((xs.filter p).map f), δ1) := by
  unfold mLc
  rw [hi]
  simp only [List.length_map, hl, if_true, hw, loopC_typ g p f xs [] h, List.nil_append]
theorem lc_map (xs : List α) (g : α → D) (f : α → D) (hi : i δ = some (xs.map g, δ1)) (hw : wipeE δ1 own = δ1) (hl : xs.length ≤ sizeLine)
    (h : ∀ x ∈ xs, ∃ δa, t (g x) δ1 = some δa ∧ wipeE δa own = δ1 ∧ m δa = some (f x, δa)) :
    mLc i own t tTrue m δ = some (.lst true (xs.map f), δ1) := by
  have := lc_typ (c := tTrue) (m := m) xs g (fun _ => true) f hi hw hl fun x hx => by
    obtain ⟨δa, h1, h2, h3⟩ := h x hx
    exact ⟨δa, h1, h2, rfl, fun _ => h3⟩
  rw [this, List.filter_eq_self.mpr fun _ _ => rfl]
theorem bls_map (xs : List α) (q : α → Bool) : blsOf (xs.map fun x => D.bl (q x)) = some (xs.map q) := by
  induction xs with
  | nil => rfl
  | cons x xs ih => simp only [List.map_cons, blsOf, ih, Option.map_some]
theorem all_typ (xs : List α) (g : α → D) (q : α → Bool) (hi : i δ = some (xs.map g, δ1)) (hw : wipeE δ1 own = δ1) (hl : xs.length ≤ sizeLine)
    (h : ∀ x ∈ xs, ∃ δa, t (g x) δ1 = some δa ∧ wipeE δa own = δ1 ∧ m δa = some (.bl (q x), δa)) :
    mCallB dAll (mCons (mLc i own t tTrue m) mNil) δ = some (.bl (xs.all q), δ1) := by
  refine ev_call1 (lc_map xs g (fun x => .bl (q x)) hi hw hl h) ?_
  simp only [dAll, bls_map, Option.map_some, List.all_map]
  rfl
/-- a loop that ends with r where a test fails -/
theorem for_typ {J : DL.Env → Prop} (xs : List α) (g : α → D) (q : α → Bool) (r : D) (hi : i δ = some (xs.map g, δ1)) (hJ : J δ1)
    (h : ∀ x ∈ xs, ∀ δ, J δ → ∃ δa, t (g x) δ = some δa ∧ (q x = true → ∃ δb, b δa = some (.nx δb) ∧ J δb) ∧ (q x = false → ∃ δb, b δa = some (.rt r δb) ∧ J δb)) :
    (xs.all q = true → ∃ δb, J δb ∧ sFor i t b δ = some (.nx δb)) ∧ (xs.all q = false → ∃ δb, J δb ∧ sFor i t b δ = some (.rt r δb)) := by
  unfold sFor
  rw [hi]
  clear hi
  simp only
  induction xs generalizing δ1 with
  | nil => exact ⟨fun _ => ⟨δ1, hJ, rfl⟩, fun e => by simp at e⟩
  | cons x xs ih =>
    obtain ⟨δa, h1, h2, h3⟩ := h x List.mem_cons_self δ1 hJ
    rw [List.map_cons]
    cases hq : q x with
    | false =>
      refine ⟨fun e => (by simp [hq] at e), fun _ => ?_⟩
      obtain ⟨δb, e, j⟩ := h3 hq
      exact ⟨δb, j, by simp only [loopF, h1, e]⟩
    | true =>
      obtain ⟨δb, e, j⟩ := h2 hq
      have := ih j (fun y hy => h y (List.mem_cons_of_mem _ hy))
      simp only [loopF, h1, e, List.all_cons, hq, Bool.true_and]
      exact this
theorem enumF_typ (g : α → D) : ∀ (xs : List α) (k : Nat), enumF k (xs.map g) = (xs.zipIdx k).map fun p => D.tup [.int p.2, g p.1]
  | [], k => rfl
  | x :: xs, k => by simp only [List.map_cons, enumF, enumF_typ g xs (k + 1), List.zipIdx_cons]
theorem zipD_typ (g : α → D) (h : β → D) (xs : List α) (ys : List β) : zipD (xs.map g) (ys.map h) = (xs.zip ys).map fun p => D.tup [g p.1, h p.2] := by
  unfold zipD
  rw [List.zip_map, List.map_map]
  rfl
theorem fzs_typ (g : α → D) (hg : ∀ x, isFz (g x) = true) (xs : List α) : fzs (xs.map g) = xs.map g := fzs_isFzs _ (isFzs_iff.mpr fun d hd => by
  obtain ⟨x, _, rfl⟩ := List.mem_map.mp hd
  exact hg x)
theorem isFzs_typ (g : α → D) (hg : ∀ x, isFz (g x) = true) (xs : List α) : isFzs (xs.map g) = true := isFzs_iff.mpr fun d hd => by
  obtain ⟨x, _, rfl⟩ := List.mem_map.mp hd
  exact hg x
theorem fzs_strs (xs : List Str) : fzs (xs.map D.str) = xs.map D.str := fzs_typ _ (fun _ => rfl) xs
theorem isFzs_strs (xs : List Str) : isFzs (xs.map D.str) = true := isFzs_typ _ (fun _ => rfl) xs
theorem iAny_tup {a : ME} {ds : List D} (h : a δ = some (.tup ds, δ1)) (hf : isFzs ds = true) : iAny a δ = some (ds, δ1) := by
  unfold iAny iLst iTup
  rw [h]
  simp only [itemsD, fzs_isFzs ds hf]
theorem iAny_lst {a : ME} {o : Bool} {ds : List D} (h : a δ = some (.lst o ds, δ1)) : iAny a δ = some (fzs ds, δ1) := by
  unfold iAny iLst
  rw [h]
  rfl
end
theorem toPys_strs : ∀ L : List Str, toPys (L.map D.str) = some (L.map PyData.str)
  | [] => rfl
  | x :: r => by simp only [List.map_cons, toPys, toPy, toPys_strs r]
theorem canLay_strs : ∀ L : List Str, (∀ x ∈ L, PyData.strOk x = true) → PyData.canLayAll0 (L.map PyData.str) = true
  | [], _ => rfl
  | x :: r, h => by simp only [List.map_cons, PyData.canLayAll0, PyData.canLay0, h x List.mem_cons_self, canLay_strs r fun y hy => h y (List.mem_cons_of_mem _ hy), Bool.and_self]
theorem depth_strs : ∀ L : List Str, PyData.depthAll (L.map PyData.str) = 0
  | [] => rfl
  | x :: r => by simp only [List.map_cons, PyData.depthAll, PyData.depth, depth_strs r]; rfl
theorem shaped_strs (L : List Str) (h : ∀ x ∈ L, PyData.strOk x = true) : SeqAt.shaped (.list (L.map PyData.str)) = true ∧ SeqAt.shaped (.tuple (L.map PyData.str)) = true := by
  constructor
  · unfold SeqAt.shaped
    simp only [PyData.canLay0, canLay_strs L h, PyData.depth, depth_strs]
    decide
  · unfold SeqAt.shaped
    simp only [PyData.canLay0, canLay_strs L h, PyData.depth, depth_strs]
    decide
theorem shaped_str {z : Str} (hz : PyData.strOk z = true) : SeqAt.shaped (.str z) = true := by
  unfold SeqAt.shaped
  simp only [PyData.canLay0, hz]; rfl
theorem any_strs (z : Str) : ∀ L : List Str, ((L.map PyData.str).any fun q => PyData.eqv q (.str z)) = decide (z ∈ L)
  | [] => rfl
  | x :: r => by
    rw [List.map_cons, List.any_cons, any_strs z r]
    have : PyData.eqv (.str x) (.str z) = decide (x = z) := by
      simp only [PyData.eqv]
      first | rfl | (by_cases h : x = z <;> simp [h])
    rw [this]
    by_cases h : x = z
    · subst h; simp
    · simp [h, show ¬ z = x from fun e => h e.symm]
theorem inB_strs {z : Str} {L : List Str} (hz : PyData.strOk z = true) (h : ∀ x ∈ L, PyData.strOk x = true) : (∀ o, dInB (.str z) (.lst o (L.map D.str)) = some (decide (z ∈ L))) ∧ dInB (.str z) (.tup (L.map D.str)) = some (decide (z ∈ L)) := by
  constructor
  · intro o
    show pyIn _ _ = _
    unfold pyIn
    simp only [toPy, toPys_strs, Option.map_some, shaped_str hz, (shaped_strs L h).1, Bool.and_self, if_true, any_strs]
  · show pyIn _ _ = _
    unfold pyIn
    simp only [toPy, toPys_strs, Option.map_some, shaped_str hz, (shaped_strs L h).2, Bool.and_self, if_true, any_strs]
theorem in_tup {z : Str} {L : List Str} (hz : PyData.strOk z = true) (h : ∀ x ∈ L, PyData.strOk x = true) : dIn (.str z) (.tup (L.map D.str)) = some (.bl (decide (z ∈ L))) := by
  unfold dIn
  rw [(inB_strs hz h).2]; rfl
theorem notIn_lst {z : Str} {L : List Str} {o : Bool} (hz : PyData.strOk z = true) (h : ∀ x ∈ L, PyData.strOk x = true) : dNotIn (.str z) (.lst o (L.map D.str)) = some (.bl (!decide (z ∈ L))) := by
  unfold dNotIn
  rw [(inB_strs hz h).1 o]; rfl
theorem notIn_tup {z : Str} {L : List Str} (hz : PyData.strOk z = true) (h : ∀ x ∈ L, PyData.strOk x = true) : dNotIn (.str z) (.tup (L.map D.str)) = some (.bl (!decide (z ∈ L))) := by
  unfold dNotIn
  rw [(inB_strs hz h).2]; rfl
theorem Lab.ok {z : Str} (h : Lab z) : PyData.strOk z = true := by
  have e : z.cps.all (fun c => decide (c < 0x110000)) = true := by
    rw [← Array.all_toList]
    exact List.all_eq_true.mpr fun c hc => decide_eq_true (by have := h.c c hc; omega)
  first | exact e | (unfold PyData.strOk; exact e) | (unfold PyData.strOk Str.ok; exact e)
/-- a def of frozen things -/
theorem fin_rt {np N : Nat} {P : Nat → Bool} {b : MS} {ds : List D} {r : D} {δ : DL.Env} (hl : ds.length = np) (hP : ∀ j, j < np → P j = true) (h : b (ds.map some ++ List.replicate (N - np) none) = some (.rt r (ds.map some ++ δ))) : mFun np N P b ds = some (r, ds) := by
  have hb : ∀ (es : List D) (k : Nat) (γ : DL.Env), (∀ (j : Nat) (d : D), es[j]? = some d → γ[k + j]? = some (some d)) → (∀ j, k ≤ j → j < k + es.length → P j = true) → backs P k es γ = some es := by
    intro es
    induction es with
    | nil => intro k γ _ _; simp [backs]
    | cons d es ih =>
      intro k γ hg hk
      have h0 := hg 0 d rfl
      have := ih (k + 1) γ (fun j e he => by
        have := hg (j + 1) e (by simpa using he)
        rwa [show k + (j + 1) = k + 1 + j from by omega] at this) fun j h1 h2 => hk j (by omega) (by simp at h2 ⊢; omega)
      rw [Nat.add_zero] at h0
      simp [backs, hk k (by omega) (by simp), this, h0]
  unfold mFun
  rw [if_pos hl, h]
  simp only
  rw [hb ds 0 _ (fun j d he => ?_) fun j _ hj => hP j (by omega)]
  have hj := (List.getElem?_eq_some_iff.mp he).1
  rw [Nat.zero_add, List.getElem?_append_left (by simpa using hj), List.getElem?_map, he]
  rfl
theorem ownC_fz {d : D} (h : isFz d = true) : ownC d = false := by
  cases d with
  | lst o ds => cases o <;> simp_all [isFz, ownC]
  | dct o ks vs => cases o <;> simp_all [isFz, ownC]
  | obj o c ns vs => cases o <;> simp_all [isFz, ownC]
  | _ => rfl
theorem walk_nilF {d : D} (h : isFz d = true) : walk d [] = some (d, d) := by rw [walk, if_pos h]
theorem walkF {d e t e' : D} {st : Stp} {p : List Stp} {j : Nat} (hf : isFz d = true) (hj : chN d st = some j) (he : (kids d)[j]? = some e) (hw : walk e p = some (t, e')) : walk d (st :: p) = some (t, d) := by
  rw [walk]
  simp only [hj, he, ownC_fz hf, hf, hw]
  rfl
theorem posOf_nodup {α : Type} [DecidableEq α] : ∀ {l : List α} {j : Nat} {x : α}, l.Nodup → l[j]? = some x → posOf l x = some j
  | [], j, x, _, h => by simp at h
  | y :: l, 0, x, hn, h => by
    have : y = x := by simpa using h
    simp [posOf, this]
  | y :: l, j + 1, x, hn, h => by
    have h1 : l[j]? = some x := by simpa using h
    have hne : y ≠ x := fun e => (List.nodup_cons.mp hn).1 (e ▸ List.mem_of_getElem? h1)
    simp only [posOf, if_neg hne, posOf_nodup (List.nodup_cons.mp hn).2 h1, Option.map_some]
theorem walk_key {ks : List Key} {vs : List D} {k : Key} {d : D} {j : Nat} (hf : isFzs vs = true) (hn : ks.Nodup) (hk : ks[j]? = some k) (hv : vs[j]? = some d) : walk (.dct false ks vs) [.sub k] = some (d, .dct false ks vs) := by
  have h : isFz (.dct false ks vs) = true := by simp only [isFz, hf]; rfl
  exact walkF h (posOf_nodup hn hk) hv (walk_nilF (isFzs_get hf hv))
theorem ev_path {i : Nat} {mp : MP} {δ : DL.Env} {d t d' : D} {p : List Stp} (hd : δ[i]? = some (some d)) (hp : mp δ = some p) (hw : walk d p = some (t, d')) : mPath i mp δ = some (t, δ.set i (some d')) := by
  unfold mPath
  simp only [hd, hp, hw]
theorem ev_pathF {i : Nat} {mp : MP} {δ : DL.Env} {d t : D} {p : List Stp} (hd : δ[i]? = some (some d)) (hp : mp δ = some p) (hw : walk d p = some (t, d)) : mPath i mp δ = some (t, δ) := by
  rw [ev_path hd hp hw]
  congr 2
  apply List.ext_getElem?
  intro n
  rw [List.getElem?_set]
  split
  · rename_i e
    subst e
    rw [if_pos (List.getElem?_eq_some_iff.mp hd).1, hd]
  · rfl
theorem ev_altE {a b : ME} {δ : DL.Env} {r : D × DL.Env} (h : a δ = some r) : mAlt a b δ = some r := by
  unfold mAlt
  rw [h]
theorem ev_altI {a b : MI} {δ : DL.Env} {r : List D × DL.Env} (h : a δ = some r) : iAlt a b δ = some r := by
  unfold iAlt
  rw [h]
theorem ev_fz {a : ME} {δ δ1 : DL.Env} {d : D} (h : a δ = some (d, δ1)) : mFz a δ = some (fz d, δ1) := by
  unfold mFz
  rw [h]
theorem ev_putF {i : Nat} {mp : MP} {cs : List Str} {f : Str} {e : ME} {δ δ1 : DL.Env} {dv d t t' : D} {p : List Stp} (he : e δ = some (dv, δ1)) (hd : δ1[i]? = some (some d)) (hp : mp δ1 = some p) (ha : atO d p = some t) (hs : dSetF cs f t dv = some t') : sPutF i mp cs f e δ = some (.nx (δ1.set i (some (putO d p t')))) := by
  unfold sPutF
  simp only [he, hd, hp, ha, hs]
theorem ev_put {i : Nat} {mp : MP} {k : MK} {e : ME} {δ δ1 : DL.Env} {dv d t t' dk : D} {p : List Stp} (he : e δ = some (dv, δ1)) (hd : δ1[i]? = some (some d)) (hp : mp δ1 = some p) (hk : k δ1 = some dk) (ha : atO d p = some t) (hs : dSetIt t dk dv = some t') : sPut i mp k e δ = some (.nx (δ1.set i (some (putO d p t')))) := by
  unfold sPut
  simp only [he, hd, hp, hk, ha, hs]
theorem leS_trans (a b c : Str) (h1 : leS a b = true) (h2 : leS b c = true) : leS a c = true := decide_eq_true (List.le_trans (of_decide_eq_true h1) (of_decide_eq_true h2))
theorem leS_total (a b : Str) : (leS a b || leS b a) = true := by
  rcases List.le_total a.cps.toList b.cps.toList with h | h
  · simp [leS, h]
  · simp [leS, h]
theorem leS_anti (a b : Str) (h1 : leS a b = true) (h2 : leS b a = true) : a = b := PySem.W.str_of_cps (List.le_antisymm (of_decide_eq_true h1) (of_decide_eq_true h2))
theorem sort_perm {ys zs : List Str} (h : ys.Perm zs) : ys.mergeSort leS = zs.mergeSort leS :=
  List.Perm.eq_of_pairwise (le := fun a b => leS a b = true) (fun a b _ _ h1 h2 => leS_anti a b h1 h2) (List.pairwise_mergeSort leS_trans leS_total ys) (List.pairwise_mergeSort leS_trans leS_total zs) ((List.mergeSort_perm ys leS).trans (h.trans (List.mergeSort_perm zs leS).symm))
theorem strsK_inr : ∀ zs : List Str, strsK (zs.map Sum.inr) = some zs
  | [] => rfl
  | z :: r => by simp only [List.map_cons, strsK, strsK_inr r, Option.map_some]
theorem sort_keys {zs : List Str} {vs : List D} {o : Bool} (h : zs.length < 64) : dSortA [.dct o (zs.map Sum.inr) vs] = some (.lst true ((zs.mergeSort leS).map D.str)) := by
  unfold dSortA
  simp only [strsK_inr, h, if_true, srtD_strs]
theorem ev_putF0 {cs : List Str} {f : Str} {e : ME} {δ : DL.Env} {dv d t' : D} (he : e (some d :: δ) = some (dv, some d :: δ)) (hs : dSetF cs f d dv = some t') : sPutF 0 pVar cs f e (some d :: δ) = some (.nx (some t' :: δ)) :=
  ev_putF (p := []) he rfl rfl rfl hs
theorem ev_calle3 {m : MF} {a b c : ME} {x x' y y' z z' r : D} {δ : DL.Env} (ha : a δ = some (x, δ)) (hb : b δ = some (y, δ)) (hc : c δ = some (z, δ)) (h : m [x, y, z] = some (r, [x', y', z'])) : mCall m [.e a, .e b, .e c] [] δ = some (r, δ) := by
  simp [mCall, mArgs, lend, restore, ha, hb, hc, h]
theorem ev_expr {m : ME} {δ δ1 : DL.Env} {d : D} (h : m δ = some (d, δ1)) : sExpr m δ = some (.nx δ1) := by
  unfold sExpr
  rw [h]
theorem fin_nx {np N : Nat} {P : Nat → Bool} {b : MS} {ds : List D} {δ : DL.Env} (hl : ds.length = np) (hP : ∀ j, j < np → P j = true) (h : b (ds.map some ++ List.replicate (N - np) none) = some (.nx (ds.map some ++ δ))) : mFun np N P b ds = some (.non, ds) := by
  have := fin_rt (N := N) (b := fun _ => some (.rt .non (ds.map some ++ δ))) (r := .non) (δ := δ) hl hP rfl
  unfold mFun at this ⊢
  rw [if_pos hl] at this ⊢
  rw [h]
  exact this
theorem zipIdx_all {α β : Type} (q : β → α → Bool) (z : β) : ∀ (ds : List α) (vs pre : List β), ds.length = vs.length → ((ds.zipIdx pre.length).all fun p => q ((pre ++ vs).getD p.2 z) p.1) = ((vs.zip ds).all fun p => q p.1 p.2)
  | [], vs, pre, h => by
    have : vs = [] := List.length_eq_zero_iff.mp h.symm
    subst this; rfl
  | d :: ds, [], pre, h => by simp at h
  | d :: ds, v :: vs, pre, h => by
    have ih := zipIdx_all q z ds vs (pre ++ [v]) (by simpa using h)
    rw [List.length_append, List.length_singleton, List.append_assoc, List.singleton_append] at ih
    rw [List.zipIdx_cons, List.all_cons, ih, List.zip_cons_cons, List.all_cons]
    congr 2
    simp
theorem insL_keep {α : Type} {le : α → α → Bool} (h : PySem.W.TotalLe le) (p : α → Bool) (a : α) : ∀ {l : List α}, l.Pairwise (fun a b => le a b = true) → (insL le a l).filter p = if p a = true then insL le a (l.filter p) else l.filter p
  | [], _ => by
    cases ha : p a <;> simp [insL, ha]
  | b :: r, pw => by
    obtain ⟨h1, h2⟩ := List.pairwise_cons.mp pw
    have ih := insL_keep h p a h2
    have low : le a b = true → ∀ {m : List α}, (∀ c ∈ m, le b c = true) → insL le a m = a :: m := fun hab m hm => by
      cases m with
      | nil => rfl
      | cons c m =>
        unfold insL
        rw [if_pos (h.trans _ _ _ hab (hm c List.mem_cons_self))]
    cases ha : p a with
    | false =>
      rw [if_neg (by simp)]
      rw [ha, if_neg (by simp)] at ih
      unfold insL
      split
      · simp [List.filter_cons, ha]
      · rw [List.filter_cons, List.filter_cons, ih]
    | true =>
      rw [if_pos rfl]
      rw [ha, if_pos rfl] at ih
      by_cases hab : le a b = true
      · rw [show insL le a (b :: r) = a :: b :: r by (unfold insL; rw [if_pos hab]), List.filter_cons, ha, if_pos rfl]
        cases hb : p b with
        | true => simp [List.filter_cons, hb, insL, hab]
        | false =>
          rw [List.filter_cons, hb, if_neg (by simp)]
          exact (low hab fun c hc => h1 c (List.mem_filter.mp hc).1).symm
      · rw [show insL le a (b :: r) = b :: insL le a r by (rw [insL, if_neg hab])]
        cases hb : p b with
        | true => rw [List.filter_cons, hb, if_pos rfl, ih, List.filter_cons, hb, if_pos rfl, insL, if_neg hab]
        | false => rw [List.filter_cons, hb, if_neg (by simp), ih, List.filter_cons, hb, if_neg (by simp)]
theorem isrt_keep {α : Type} {le : α → α → Bool} (h : PySem.W.TotalLe le) (p : α → Bool) : ∀ l : List α, (isrt le l).filter p = isrt le (l.filter p)
  | [] => rfl
  | a :: r => by
    show (insL le a (isrt le r)).filter p = _
    rw [insL_keep h p a (isrt_pw h r), isrt_keep h p r, List.filter_cons]
    cases p a <;> rfl
theorem insL_map {α β : Type} {le : β → β → Bool} (f : α → β) (a : α) : ∀ l : List α, insL le (f a) (l.map f) = (insL (fun x y => le (f x) (f y)) a l).map f
  | [] => rfl
  | b :: r => by
    simp only [List.map_cons, insL, insL_map f a r]
    split <;> rfl
theorem isrt_map {α β : Type} {le : β → β → Bool} (f : α → β) : ∀ l : List α, isrt le (l.map f) = (isrt (fun x y => le (f x) (f y)) l).map f
  | [] => rfl
  | a :: r => by
    show insL le (f a) (isrt le (r.map f)) = _
    rw [isrt_map f r, insL_map]
    rfl
theorem tot_on {α β : Type} {le : β → β → Bool} (h : PySem.W.TotalLe le) (f : α → β) : PySem.W.TotalLe (fun x y => le (f x) (f y)) :=
  ⟨fun a b c h1 h2 => h.trans _ _ _ h1 h2, fun a b => h.total _ _⟩
theorem sub_len {α : Type} [DecidableEq α] : ∀ {l m : List α}, l.Nodup → (∀ x ∈ l, x ∈ m) → l.length ≤ m.length
  | [], _, _, _ => Nat.zero_le _
  | a :: l, m, hn, h => by
    obtain ⟨h1, h2⟩ := List.nodup_cons.mp hn
    have ha := h a List.mem_cons_self
    have := sub_len (l := l) (m := m.erase a) h2 fun x hx => (List.mem_erase_of_ne (fun e : x = a => h1 (by rw [← e]; exact hx))).mpr (h x (List.mem_cons_of_mem _ hx))
    rw [List.length_erase_of_mem ha] at this
    have := List.length_pos_of_mem ha
    simp only [List.length_cons]
    omega
theorem iAny_own {i : Nat} {δ : DL.Env} {o : Bool} {ds : List D} (h : δ[i]? = some (some (.lst o ds))) : iAny (mVar i) δ = some (fzs ds, δ.set i (some (.lst false (fzs ds)))) := by
  have e := iAny_lst (o := false) (ds := fzs ds) (ev_varf h)
  rwa [fzs_isFzs _ (isFzs_fzs ds)] at e
theorem add_lst {o o' : Bool} {a b : List D} (h : a.length + b.length ≤ sizeLine) : dAdd (.lst o a) (.lst o' b) = some (.lst true (a ++ b)) := by
  unfold dAdd
  exact if_pos h
theorem add_str {a b : Str} (h : a.length + b.length ≤ sizeLine) : dAdd (.str a) (.str b) = some (.str (a ++ b)) := by
  unfold dAdd
  exact if_pos h
theorem add_tup {a b : List D} (h : a.length + b.length ≤ sizeLine) : dAdd (.tup a) (.tup b) = some (.tup (a ++ b)) := by
  unfold dAdd
  exact if_pos h
theorem fin_gen {np N : Nat} {P : Nat → Bool} {b : MS} {ds ds' : List D} {r : D} {δ : DL.Env} (hl : ds.length = np) (h : b (ds.map some ++ List.replicate (N - np) none) = some (.rt r δ)) (hb : backs P 0 ds δ = some ds') : mFun np N P b ds = some (r, ds') := by
  unfold mFun
  rw [if_pos hl, h]
  simp only [hb]
theorem gAppend_ok {ds : List D} {x : D} (h : ds.length < sizeLine) : gAppend (.lst true ds) [x] = some (.non, .lst true (ds ++ [x])) := by
  unfold gAppend
  exact if_pos h
theorem posOf_no {α : Type} [DecidableEq α] : ∀ {l : List α} {x : α}, x ∉ l → posOf l x = none
  | [], _, _ => rfl
  | y :: l, x, h => by
    have h1 : y ≠ x := fun e => h (by rw [e]; exact List.mem_cons_self)
    simp only [posOf, if_neg h1, posOf_no (fun q => h (List.mem_cons_of_mem _ q)), Option.map_none]
theorem set_new {ks : List Key} {ds : List D} {y x : D} {k : Key} (hk : keyD y = some k) (hl : ks.length < sizeLine) (hn : k ∉ ks) : dSetIt (.dct true ks ds) y x = some (.dct true (ks ++ [k]) (ds ++ [x])) := by
  unfold dSetIt
  simp only [hk, hl, if_true, posOf_no hn]
theorem ev_make1 {c : Str} {m : MF} {a : ME} {x x' self : D} {δ : DL.Env} (ha : a δ = some (x, δ)) (h : m [.obj true c [] [], x] = some (.non, [self, x'])) : mMake c m [.e a] [] δ = some (self, δ) := by
  simp [mMake, mArgs, lend, restore, ha, h]
theorem alike_strs : ∀ xs ys : List Str, PySem.W.alikeAll (xs.map PyData.str) (ys.map PyData.str) = true
  | [], _ => by cases ‹List Str› <;> rfl
  | x :: xs, [] => rfl
  | x :: xs, y :: ys => by simp only [List.map_cons, PySem.W.alikeAll, PySem.W.alike, alike_strs xs ys, Bool.and_self]
/-- a tuple of texts -/
def tpS (xs : List Str) : D := .tup (xs.map D.str)
theorem toPy_tp (xs : List Str) : toPy (tpS xs) = some (.tuple (xs.map PyData.str)) := by
  simp only [tpS, toPy, toPys_strs, Option.map_some]
theorem pyE_tp (xs : List Str) : pyE (tpS xs) = .tuple (xs.map PyData.str) := by
  unfold pyE
  rw [toPy_tp]; rfl
def leT (a b : List Str) : Bool := PySem.W.dataLe false pyE (tpS a) (tpS b)
theorem leT_tot : PySem.W.TotalLe leT := tot_on (dataLe_tot pyE) tpS
def sortT (fs : List (List Str)) : List (List Str) := isrt leT fs
theorem srtD_tps (fs : List (List Str)) : srtD (fs.map tpS) = (sortT fs).map tpS := isrt_map tpS fs
theorem srtOk_tps {fs : List (List Str)} (h : ∀ sc ∈ fs, sc ≠ []) (hl : fs.length ≤ sizeLine) : srtOk (fs.map tpS) = true := by
  unfold srtOk
  simp only [Bool.and_eq_true, Bool.or_eq_true, List.all_map, List.all_eq_true, decide_eq_true_eq, List.length_map, Function.comp]
  refine ⟨⟨fun sc hsc => ⟨by rw [toPy_tp]; rfl, ?_⟩, fun a ha b hb => ?_, .inl fun sc hsc => ?_⟩, hl⟩
  · rw [pyE_tp]
    simp only [PyData.depth, depth_strs]
    decide
  · rw [pyE_tp, pyE_tp]
    exact alike_strs a b
  · rw [pyE_tp]
    cases sc with
    | nil => exact absurd rfl (h _ hsc)
    | cons x r => rfl
theorem fz_tps (xs : List Str) : isFz (tpS xs) = true := by simp only [tpS, isFz, isFzs_strs]
theorem sort_tps {fs : List (List Str)} {o : Bool} (h : ∀ sc ∈ fs, sc ≠ []) (hl : fs.length ≤ sizeLine) : dSortA [.lst o (fs.map tpS)] = some (.lst true ((sortT fs).map tpS)) := by
  unfold dSortA
  simp only [fzs_typ _ fz_tps, srtOk_tps h hl, if_true, srtD_tps]
theorem sortT_keep (p : List Str → Bool) (fs : List (List Str)) : (sortT fs).filter p = sortT (fs.filter p) := isrt_keep leT_tot p fs
theorem sortT_perm (fs : List (List Str)) : (sortT fs).Perm fs := isrt_perm fs
section
variable {α β : Type} {i i1 : MI} {own own1 : List Nat} {t t1 : MG} {c c1 : MT} {m : ME} {δ δ1 : DL.Env}
theorem loopCs_typ {δx : DL.Env} (h : β → D) (p : β → Bool) (f : β → D) : ∀ (ys : List β) (acc : List D), acc.length + ((ys.filter p).map f).length ≤ sizeLine → (∀ y ∈ ys, ∃ δy, t1 (h y) δx = some δy ∧ wipeE δy own1 = δx ∧ c1 δy = some (p y, δy) ∧ (p y = true → m δy = some (f y, δy))) →
    loopCs own1 t1 c1 m (ys.map h) δx acc = some (acc ++ (ys.filter p).map f, δx)
  | [], acc, _, _ => by simp [loopCs]
  | y :: ys, acc, hl, hy => by
    obtain ⟨δy, h1, h2, h3, h4⟩ := hy y List.mem_cons_self
    have hr : ∀ z ∈ ys, _ := fun z hz => hy z (List.mem_cons_of_mem _ hz)
    rw [List.map_cons]
    simp only [loopCs, h1, h3]
    cases hp : p y with
    | false =>
      simp only [h2]
      rw [List.filter_cons, hp, if_neg (by simp)] at hl
      rw [loopCs_typ h p f ys acc hl hr, List.filter_cons, hp]
      simp
    | true =>
      rw [List.filter_cons, hp, if_pos rfl, List.map_cons, List.length_cons] at hl
      simp only [h4 hp, h2]
      rw [if_pos (by omega), loopCs_typ h p f ys _ (by simp; simp at hl; omega) hr, List.filter_cons, hp]
      simp
theorem lc2_typ (xs : List α) (g : α → D) (ys : α → List β) (hh : α → β → D) (p : α → β → Bool) (f : α → β → D) (hi : i δ = some (xs.map g, δ1)) (hw : wipeE δ1 own = δ1)
    (hl : (xs.flatMap fun x => ((ys x).filter (p x)).map (f x)).length ≤ sizeLine)
    (h : ∀ x ∈ xs, ∃ δa δb, t (g x) δ1 = some δa ∧ c δa = some (true, δa) ∧ i1 δa = some ((ys x).map (hh x), δb) ∧ wipeE (wipeE δb own1) own = δ1 ∧
      ∀ y ∈ ys x, ∃ δy, t1 (hh x y) (wipeE δb own1) = some δy ∧ wipeE δy own1 = wipeE δb own1 ∧ c1 δy = some (p x y, δy) ∧ (p x y = true → m δy = some (f x y, δy))) :
    mLc2 i own own1 t c i1 t1 c1 m δ = some (.lst true (xs.flatMap fun x => ((ys x).filter (p x)).map (f x)), δ1) := by
  have key : ∀ (xs : List α) (acc : List D), acc.length + (xs.flatMap fun x => ((ys x).filter (p x)).map (f x)).length ≤ sizeLine → (∀ x ∈ xs, ∃ δa δb, t (g x) δ1 = some δa ∧ c δa = some (true, δa) ∧ i1 δa = some ((ys x).map (hh x), δb) ∧ wipeE (wipeE δb own1) own = δ1 ∧
      ∀ y ∈ ys x, ∃ δy, t1 (hh x y) (wipeE δb own1) = some δy ∧ wipeE δy own1 = wipeE δb own1 ∧ c1 δy = some (p x y, δy) ∧ (p x y = true → m δy = some (f x y, δy))) →
      loopC2 own own1 t c i1 t1 c1 m (xs.map g) δ1 acc = some (acc ++ xs.flatMap fun x => ((ys x).filter (p x)).map (f x), δ1) := by
    intro xs
    induction xs with
    | nil => intro acc _ _; simp [loopC2]
    | cons x xs ih =>
      intro acc hl h
      obtain ⟨δa, δb, h1, h2, h3, h4, h5⟩ := h x List.mem_cons_self
      rw [List.flatMap_cons, List.length_append] at hl
      have e := loopCs_typ (hh x) (p x) (f x) (ys x) acc (by omega) h5
      rw [List.map_cons]
      simp only [loopC2, h1, h2, h3, e, h4]
      rw [ih _ (by simp; simp at hl; omega) fun z hz => h z (List.mem_cons_of_mem _ hz), List.flatMap_cons, List.append_assoc]
  unfold mLc2
  rw [hi]
  simp only [hw]
  rw [key xs [] (by simpa using hl) h]
  simp
end
theorem ev_and2 {a b : MT} {δ : DL.Env} {p q : Bool} (h : a δ = some (p, δ)) (h2 : p = true → b δ = some (q, δ)) : tAnd2 a b δ = some (p && q, δ) := by
  unfold tAnd2
  rw [h]
  cases p
  · rfl
  · simp only [h2 rfl, Bool.true_and]
theorem lookD_nodup : ∀ {ks : List Key} {vs : List D} {k : Key} {d : D} {j : Nat}, ks.Nodup → ks[j]? = some k → vs[j]? = some d → lookD ks vs k = some d
  | [], _, _, _, _, _, h, _ => by simp at h
  | _ :: _, [], _, _, _, _, _, h => by simp at h
  | i :: ks, e :: vs, k, d, 0, _, h1, h2 => by
    have h1 : i = k := by simpa using h1
    have h2 : e = d := by simpa using h2
    simp [lookD, h1, h2]
  | i :: ks, e :: vs, k, d, j + 1, hn, h1, h2 => by
    have h1 : ks[j]? = some k := by simpa using h1
    have h2 : vs[j]? = some d := by simpa using h2
    have hne : i ≠ k := fun q => (List.nodup_cons.mp hn).1 (by rw [q]; exact List.mem_of_getElem? h1)
    simp only [lookD, if_neg hne]
    exact lookD_nodup (List.nodup_cons.mp hn).2 h1 h2
theorem cut_mem {α : Type} {ds : List α} {lo hi : Option Int} {d : α} (h : d ∈ DL.cutD ds lo hi) : d ∈ ds := List.mem_of_mem_drop (List.mem_of_mem_take h)
theorem cut_len {α : Type} (ds : List α) (lo hi : Option Int) : (DL.cutD ds lo hi).length ≤ ds.length := by
  unfold DL.cutD
  rw [List.length_take, List.length_drop]
  omega
theorem ev_sl {a : ME} {lo hi : MO} {δ δ1 δ2 δ3 : DL.Env} {ds : List D} {l h : Option Int} (h1 : a δ = some (.tup ds, δ1)) (h2 : lo δ1 = some (l, δ2)) (h3 : hi δ2 = some (h, δ3)) : mSl a lo hi δ = some (.tup (DL.cutD ds l h), δ3) := by
  unfold mSl
  simp only [h1, h2, h3]
  rfl
theorem ev_some {m : ME} {δ δ1 : DL.Env} {i : Int} (h : m δ = some (.int i, δ1)) : oSome m δ = some (some i, δ1) := by
  unfold oSome
  rw [h]
theorem ev_lst {r : ML} {δ δ1 : DL.Env} {xs : List D} (h1 : r δ = some (xs, δ1)) (hz : xs.length ≤ sizeLine) : mLst r δ = some (.lst true xs, δ1) := by
  unfold mLst
  rw [h1]
  exact if_pos hz
theorem ev_cve {m : MF} {a : ME} {i : Nat} {d d1 d' x x' r : D} {δ δ1 : DL.Env} (h0 : δ[i]? = some (some d)) (ha : a δ = some (x, δ1)) (h1 : δ1[i]? = some (some d1)) (hf : isFz d1 = false) (h : m [d1, x] = some (r, [d', x'])) : mCall m [.v i, .e a] [] δ = some (r, δ1.set i (some d')) := by
  simp [mCall, mArgs, lend, restore, h0, ha, h1, hf, h]
theorem ev_cvee {m : MF} {a b : ME} {i : Nat} {d d1 d' x x' y y' r : D} {δ δ1 δ2 : DL.Env} (h0 : δ[i]? = some (some d)) (ha : a δ = some (x, δ1)) (hb : b δ1 = some (y, δ2)) (h1 : δ2[i]? = some (some d1)) (hf : isFz d1 = false) (h : m [d1, x, y] = some (r, [d', x', y'])) : mCall m [.v i, .e a, .e b] [] δ = some (r, δ2.set i (some d')) := by
  simp [mCall, mArgs, lend, restore, h0, ha, hb, h1, hf, h]
theorem ev_ce1 {m : MF} {a : ME} {x x' r : D} {δ δ1 : DL.Env} (ha : a δ = some (x, δ1)) (h : m [x] = some (r, [x'])) : mCall m [.e a] [] δ = some (r, δ1) := by
  simp [mCall, mArgs, lend, restore, ha, h]
theorem ev_ce2 {m : MF} {a b : ME} {x x' y y' r : D} {δ δ1 δ2 : DL.Env} (ha : a δ = some (x, δ1)) (hb : b δ1 = some (y, δ2)) (h : m [x, y] = some (r, [x', y'])) : mCall m [.e a, .e b] [] δ = some (r, δ2) := by
  simp [mCall, mArgs, lend, restore, ha, hb, h]
theorem ev_ce3 {m : MF} {a b c : ME} {x x' y y' z z' r : D} {δ δ1 δ2 δ3 : DL.Env} (ha : a δ = some (x, δ1)) (hb : b δ1 = some (y, δ2)) (hc : c δ2 = some (z, δ3)) (h : m [x, y, z] = some (r, [x', y', z'])) : mCall m [.e a, .e b, .e c] [] δ = some (r, δ3) := by
  simp [mCall, mArgs, lend, restore, ha, hb, hc, h]
theorem perm2 {m : MF} {a b a' b' r : D} (h : m [b, a] = some (r, [b', a'])) : mPerm [1, 0] [1, 0] m [a, b] = some (r, [a', b']) := by
  unfold mPerm
  rw [show pm [1, 0] [a, b] = [b, a] from rfl, h]
  rfl
theorem perm3 {m : MF} {a b c a' b' c' r : D} (h : m [c, b, a] = some (r, [c', b', a'])) : mPerm [2, 1, 0] [2, 1, 0] m [a, b, c] = some (r, [a', b', c']) := by
  unfold mPerm
  rw [show pm [2, 1, 0] [a, b, c] = [c, b, a] from rfl, h]
  rfl
theorem ev_disp1 {k : Str} {m : ME} {d : D} {δ δ1 : DL.Env} (h : m δ = some (d, δ1)) : mDisp [((mC (.str k)), m)] δ = some (.dct true [.inr k] [d], δ1) := by
  unfold mDisp mPairs mPairs
  simp only [mC, keyD, h]
  exact if_pos ⟨List.nodup_cons.mpr ⟨List.not_mem_nil, List.nodup_nil⟩, show 1 ≤ 15 by decide⟩
theorem eqv_strs : ∀ xs : List Str, PyData.eqvAll (xs.map PyData.str) (xs.map PyData.str) = true
  | [] => rfl
  | x :: r => by simp [PyData.eqvAll, PyData.eqv, eqv_strs r]
theorem eqv_tps : ∀ fs : List (List Str), PyData.eqvAll (fs.map fun sc => .tuple (sc.map PyData.str)) (fs.map fun sc => .tuple (sc.map PyData.str)) = true
  | [] => rfl
  | x :: r => by simp [PyData.eqvAll, PyData.eqv, eqv_strs, eqv_tps r]
theorem toPys_tps : ∀ fs : List (List Str), toPys (fs.map tpS) = some (fs.map fun sc => .tuple (sc.map PyData.str))
  | [] => rfl
  | x :: r => by simp only [List.map_cons, toPys, toPy_tp, toPys_tps r]
theorem canLay_tps : ∀ fs : List (List Str), (∀ sc ∈ fs, ∀ z ∈ sc, PyData.strOk z = true) → PyData.canLayAll0 (fs.map fun sc => .tuple (sc.map PyData.str)) = true ∧ PyData.depthAll (fs.map fun sc => PyData.tuple (sc.map PyData.str)) ≤ 1
  | [], _ => ⟨rfl, Nat.zero_le _⟩
  | x :: r, h => by
    obtain ⟨h1, h2⟩ := canLay_tps r fun y hy => h y (List.mem_cons_of_mem _ hy)
    constructor
    · simp only [List.map_cons, PyData.canLayAll0, PyData.canLay0, canLay_strs x (h x List.mem_cons_self), h1, Bool.and_self]
    · simp only [List.map_cons, PyData.depthAll, PyData.depth, depth_strs]
      omega
theorem ne_tps {o o' : Bool} {fs : List (List Str)} (h : ∀ sc ∈ fs, ∀ z ∈ sc, PyData.strOk z = true) : dNe (.lst o (fs.map tpS)) (.lst o' (fs.map tpS)) = some (.bl false) := by
  have e : pyEq (.lst o (fs.map tpS)) (.lst o' (fs.map tpS)) = some true := by
    obtain ⟨h1, h2⟩ := canLay_tps fs h
    have sh : SeqAt.shaped (.list (fs.map fun sc => .tuple (sc.map PyData.str))) = true := by
      unfold SeqAt.shaped
      simp only [PyData.canLay0, h1, PyData.depth]
      simp
      omega
    unfold pyEq
    simp only [toPy, toPys_tps, Option.map_some, sh, Bool.and_self, if_true, PyData.eqv, eqv_tps]
  show (pyEq _ _).map _ = _
  rw [e]; rfl
end DL
set_option Elab.async false
set_option linter.all false
set_option maxRecDepth 100000
set_option maxHeartbeats 4000001
namespace DL
open PySem.Spec PySem L2 PyProof.Rows
structure Bd (n : Nat) (y : Str) : Prop where
  ok : ∀ c ∈ y.cps.toList, c < 0x110000
  len : y.length ≤ n
theorem Bd.mono {n m : Nat} {y : Str} (h : Bd n y) (hm : n ≤ m) : Bd m y := ⟨h.ok, Nat.le_trans h.len hm⟩
theorem cps_app (x y : Str) : (x ++ y).cps.toList = x.cps.toList ++ y.cps.toList := TL.tl_append x y
theorem Bd.app {n m : Nat} {x y : Str} (h : Bd n x) (k : Bd m y) : Bd (n + m) (x ++ y) := by
  refine ⟨fun c hc => ?_, by rw [strLen_append]; exact Nat.add_le_add h.len k.len⟩
  rw [cps_app] at hc
  (rcases List.mem_append.mp hc with hc | hc)
  · exact h.ok c hc
  · exact k.ok c hc
theorem bd_lit {y : Str} (h : (y.cps.toList.all fun c => decide (c < 0x110000)) = true) : Bd y.length y := ⟨fun c hc => by simpa using List.all_eq_true.mp h c hc, Nat.le_refl _⟩
theorem bd_cs : Bd 2 (Str.ofString ", ") := (bd_lit (by decide +kernel)).mono (by decide +kernel)
theorem Bd.join {n : Nat} : ∀ {ts : List Str}, (∀ t ∈ ts, Bd n t) → Bd (ts.length * (n + 2)) (Str.join ", " ts)
  | [], _ => ⟨fun c hc => (by cases hc), Nat.zero_le _⟩
  | [x], h => (h x List.mem_cons_self).mono (by simp)
  | x :: y :: r, h => by
    have ih := Bd.join (ts := y :: r) fun t ht => h t (List.mem_cons_of_mem _ ht)
    have e : Str.join ", " (x :: y :: r) = x ++ Str.ofString ", " ++ Str.join ", " (y :: r) := rfl
    rw [e]
    refine (((h x List.mem_cons_self).app bd_cs).app ih).mono ?_
    simp only [List.length_cons, Nat.add_mul]
    omega
theorem Bd.tuple {n : Nat} {ts : List Str} (h : ∀ t ∈ ts, Bd n t) : Bd (ts.length * (n + 2) + 3) (tupleText ts) := by
  have a : Bd 1 (Str.ofString "(") := (bd_lit (by decide +kernel)).mono (by decide +kernel)
  have b : ∀ k : Bool, Bd 2 (Str.ofString (if k then ",)" else ")")) := fun k => by cases k <;> exact (bd_lit (by decide +kernel)).mono (by decide +kernel)
  exact (((a.app (Bd.join h)).app (b (ts.length == 1)))).mono (by omega)
theorem textFrom_bd {n : Nat} : ∀ {ts : List Str} {k m : Nat} {acc : Str}, Bd m acc → (∀ t ∈ ts, Bd n t) → Bd (m + ts.length * (n + 2)) (textFrom k acc ts)
  | [], k, m, acc, h, _ => h.mono (by omega)
  | t :: ts, k, m, acc, h, ht => by
    have b : Bd 2 (Str.ofString (if k > 0 then ", " else "")) := by
      by_cases hk : k > 0
      · rw [if_pos hk]; exact bd_cs
      · rw [if_neg hk]; exact (bd_lit (by decide +kernel)).mono (by decide +kernel)
    have := textFrom_bd (k := k + 1) ((h.app b).app (ht t List.mem_cons_self)) fun x hx => ht x (List.mem_cons_of_mem _ hx)
    refine Bd.mono this ?_
    simp only [List.length_cons, Nat.add_mul]
    omega
theorem Bd.list {n : Nat} {ts : List Str} (h : ∀ t ∈ ts, Bd n t) : Bd (ts.length * (n + 2) + 3) (listText ts) := by
  have a : Bd 1 (Str.ofString "[") := (bd_lit (by decide +kernel)).mono (by decide +kernel)
  have b : Bd 1 (Str.ofString "]") := (bd_lit (by decide +kernel)).mono (by decide +kernel)
  exact ((textFrom_bd (k := 0) a h).app b).mono (by omega)
theorem text_first : ∀ (ts : List Str) (k : Nat) (acc : Str) (c : Nat), acc.cps.toList.head? = some c → (textFrom k acc ts).cps.toList.head? = some c
  | [], k, acc, c, h => h
  | t :: ts, k, acc, c, h => by
    refine text_first ts (k + 1) _ c ?_
    rw [cps_app, cps_app, List.append_assoc, List.head?_append, h]; rfl
/-- signs that repr shows as they are -/
def PLAIN : List Nat := (List.range' 32 95).filter fun c => c != 39 && c != 92
def Pl (z : Str) : Prop := ∀ c ∈ z.cps.toList, c ∈ PLAIN
theorem plain_lt : ∀ c ∈ PLAIN, c < 0x110000 := by decide +kernel
theorem repr_word {z : Str} (hc : Pl z) : (reprText z).cps.toList = 39 :: (z.cps.toList ++ [39]) := by
  have q : reprQuote z = 39 := by
    have : z.cps.contains 39 = false := by
      rw [← Bool.not_eq_true, Array.contains_iff_mem, ← Array.mem_toList_iff]
      intro m
      exact absurd (hc 39 m) (by decide +kernel)
    unfold reprQuote
    rw [this]; rfl
  have hr : ∀ c ∈ PLAIN, Builtin.Str.reprChar 39 c = [c] := by decide +kernel
  have fold : ∀ (l : List Nat) (acc : Array Nat), (∀ c ∈ l, c ∈ PLAIN) → (l.foldl (fun out c => out ++ (Builtin.Str.reprChar 39 c).toArray) acc).toList = acc.toList ++ l := by
    intro l
    induction l with
    | nil => intro acc _; simp
    | cons c l ih =>
      intro acc hl
      rw [List.foldl_cons, ih _ fun x hx => hl x (List.mem_cons_of_mem _ hx), hr c (hl c List.mem_cons_self)]
      simp
  unfold reprText
  rw [q]
  simp only [Array.toList_push, ← Array.foldl_toList]
  rw [fold _ _ hc]
  rfl
theorem Lab.pl {z : Str} (h : Lab z) : Pl z := fun c hc => by
  have := h.c c hc
  refine List.mem_filter.mpr ⟨List.mem_range'.mpr ⟨c - 32, by omega, by omega⟩, ?_⟩
  simp only [bne_iff_ne, ne_eq, Bool.and_eq_true]
  omega
structure Sh (n k : Nat) (d : D) (p : PyData) : Prop where
  py : toPyR d = some p
  sh : p.showable = true
  dp : p.depth ≤ k
  bd : Bd n p.shown
theorem Sh.mono {n m k j : Nat} {d : D} {p : PyData} (h : Sh n k d p) (hn : n ≤ m) (hk : k ≤ j) : Sh m j d p := ⟨h.py, h.sh, Nat.le_trans h.dp hk, h.bd.mono hn⟩
theorem non_sh : ∃ p, Sh 24 0 .non p := ⟨.none, rfl, rfl, Nat.le_refl _, (bd_lit (by decide +kernel)).mono (by decide +kernel)⟩
theorem bl_sh (b : Bool) : ∃ p, Sh 24 0 (.bl b) p := by
  cases b <;> exact ⟨.bool _, rfl, rfl, Nat.le_refl _, (bd_lit (by decide +kernel)).mono (by decide +kernel)⟩
theorem str_sh {z : Str} {n : Nat} (h : Pl z) (hn : z.length + 2 ≤ n) : ∃ p, Sh n 0 (.str z) p := by
  refine ⟨.str z, ⟨rfl, rfl, Nat.le_refl _, ⟨fun c hc' => ?_, ?_⟩⟩⟩
  · have : c ∈ 39 :: (z.cps.toList ++ [39]) := by rw [← repr_word h]; exact hc'
    rcases List.mem_cons.mp this with e | e
    · rw [e]; decide
    · rcases List.mem_append.mp e with e | e
      · exact plain_lt c (h c e)
      · rw [List.mem_singleton.mp e]; decide
  · show (reprText z).cps.size ≤ n
    rw [← Array.length_toList, repr_word h, List.length_cons, List.length_append, Array.length_toList]
    have : z.cps.size = z.length := rfl
    simp; omega
theorem seq_sh {n k : Nat} : ∀ {ds : List D}, (∀ d ∈ ds, ∃ p, Sh n k d p) → ∃ ps, toPyRs ds = some ps ∧ PyData.showableAll ps = true ∧ PyData.depthAll ps ≤ k ∧ (PyData.shownAll ps).length = ds.length ∧ ∀ t ∈ PyData.shownAll ps, Bd n t
  | [], _ => ⟨[], rfl, rfl, Nat.zero_le _, rfl, fun t ht => by cases ht⟩
  | d :: r, h => by
    obtain ⟨p, hp⟩ := h d List.mem_cons_self
    obtain ⟨ps, a, b, c, e, f⟩ := seq_sh (ds := r) fun x hx => h x (List.mem_cons_of_mem _ hx)
    refine ⟨p :: ps, ?_, ?_, ?_, ?_, ?_⟩
    · simp only [toPyRs, hp.py, a]
    · simp only [PyData.showableAll, hp.sh, b]; rfl
    · simp only [PyData.depthAll]
      exact Nat.max_le.mpr ⟨hp.dp, c⟩
    · simp only [PyData.shownAll, List.length_cons, e]
    · intro t ht
      simp only [PyData.shownAll] at ht
      rcases List.mem_cons.mp ht with e | e
      · rw [e]; exact hp.bd
      · exact f t e
theorem tup_sh {n k l : Nat} {ds : List D} (h : ∀ d ∈ ds, ∃ p, Sh n k d p) (hl : ds.length ≤ l) : ∃ p, Sh (l * (n + 2) + 3) (k + 1) (.tup ds) p ∧ p.shown.cps.toList.head? ≠ some 39 := by
  obtain ⟨ps, a, b, c, e, f⟩ := seq_sh h
  refine ⟨.tuple ps, ⟨by simp only [toPyR, a]; rfl, by simpa [PyData.showable] using b, by simp only [PyData.depth]; omega, ?_⟩, ?_⟩
  · show Bd _ (tupleText (PyData.shownAll ps))
    refine (Bd.tuple f).mono ?_
    rw [e]
    have := Nat.mul_le_mul_right (n + 2) hl
    omega
  · show (tupleText (PyData.shownAll ps)).cps.toList.head? ≠ some 39
    unfold tupleText
    rw [cps_app, cps_app, List.append_assoc, List.head?_append, show (Str.ofString "(").cps.toList.head? = some 40 by decide +kernel]
    show (some 40 : Option Nat) ≠ some 39
    decide
theorem lst_sh {n k l : Nat} {o : Bool} {ds : List D} (h : ∀ d ∈ ds, ∃ p, Sh n k d p) (hl : ds.length ≤ l) : ∃ p, Sh (l * (n + 2) + 3) (k + 1) (.lst o ds) p ∧ p.shown.cps.toList.head? ≠ some 39 := by
  obtain ⟨ps, a, b, c, e, f⟩ := seq_sh h
  refine ⟨.list ps, ⟨by simp only [toPyR, a]; rfl, by simpa [PyData.showable] using b, by simp only [PyData.depth]; omega, ?_⟩, ?_⟩
  · show Bd _ (listText (PyData.shownAll ps))
    refine (Bd.list f).mono ?_
    rw [e]
    have := Nat.mul_le_mul_right (n + 2) hl
    omega
  · show (listText (PyData.shownAll ps)).cps.toList.head? ≠ some 39
    unfold listText
    rw [cps_app, List.head?_append, text_first _ 0 (Str.ofString "[") 91 (by decide +kernel)]
    decide
theorem repr_of {n k : Nat} {d : D} {p : PyData} (h : Sh n k d p) (hn : n ≤ 100000) (hk : k ≤ 64) : reprD d = some p.shown := by
  unfold reprD
  simp only [h.py]
  exact if_pos ⟨h.sh, Nat.le_trans h.dp hk, Nat.le_trans h.bd.len (Nat.le_trans hn (by decide))⟩
theorem dRepr_of {d : D} {w : Str} (h : reprD d = some w) : dRepr [d] = some (.str w) := by
  unfold dRepr
  simp only [h, Option.map_some]
/-- texts in tuples in a list -/
theorem tps_repr {fs : List (List Str)} {o : Bool} (hl : fs.length ≤ 60) (hs : ∀ sc ∈ fs, sc.length ≤ 20) (hw : ∀ sc ∈ fs, ∀ z ∈ sc, Pl z ∧ z.length ≤ 20) : ∃ w, reprD (.lst o (fs.map tpS)) = some w := by
  obtain ⟨p, hp, _⟩ := lst_sh (o := o) (n := 20 * (22 + 2) + 3) (k := 1) (l := 60) (ds := fs.map tpS) (fun d hd => by
    obtain ⟨sc, hsc, rfl⟩ := List.mem_map.mp hd
    obtain ⟨p, hp, _⟩ := tup_sh (n := 22) (k := 0) (l := 20) (ds := sc.map D.str) (fun e he => by
      obtain ⟨z, hz, rfl⟩ := List.mem_map.mp he
      exact str_sh (hw sc hsc z hz).1 (by have := (hw sc hsc z hz).2; omega)) (by rw [List.length_map]; exact hs sc hsc)
    exact ⟨p, hp⟩) (by rw [List.length_map]; exact hl)
  exact ⟨_, repr_of hp (by decide) (by decide)⟩
theorem reprD_flag {o o' : Bool} {ds : List D} : reprD (.lst o ds) = reprD (.lst o' ds) := by
  unfold reprD
  simp only [toPyR]
theorem bls_repr (bs : List Bool) (hl : bs.length ≤ 60) (o : Bool) : ∃ w, reprD (.lst o (bs.map D.bl)) = some w := by
  obtain ⟨p, hp, _⟩ := lst_sh (o := o) (n := 24) (k := 0) (l := 60) (ds := bs.map D.bl) (fun d hd => by
    obtain ⟨b, _, rfl⟩ := List.mem_map.mp hd
    exact bl_sh b) (by rw [List.length_map]; exact hl)
  exact ⟨_, repr_of hp (by decide) (by decide)⟩
end DL
set_option Elab.async false
set_option linter.all false
set_option maxRecDepth 100000
set_option maxHeartbeats 0
namespace K03
open PySem PySem.Spec PyProof.Rows L2 DL
def ct : CT := [("Hall", [])]
def ps__law_begun : List Str := ["_law_script"]
def N__law_begun : List Str := ["_law_script", "_law_large", "_law_cell"]
def P__law_begun (i : Nat) : Bool := ([true] : List Bool).getD i false
def b__law_begun : MS := (sCons (sSet 1 (mLc (iAlt (iAny (mVar 0)) (keysAt 0 pVar)) [2] (tName 2) (toT (mBin dGe (mCallB dAbs (mCons (mVar 2) mNil)) (mBin dPow (mC (.int 10)) (mC (.int 18))))) (mBin dSub (mCallB dAbs (mCons (mVar 2) mNil)) (mBin dPow (mC (.int 10)) (mC (.int 18))))))
  (sRet (mDisp [((mC (.str "large")), (mMv 1)), ((mC (.str "cells")), (mLc (iAlt (iAny (mVar 0)) (keysAt 0 pVar)) [2] (tName 2) tTrue (mCallB dAbs (mCons (mVar 2) mNil)))), ((mC (.str "rest")), (mC (.int 0))), ((mC (.str "turn")), (mC (.int 0)))])))
def m__law_begun : MF := mFun ps__law_begun.length N__law_begun.length P__law_begun b__law_begun
def ps__law_mixed : List Str := ["_law_state"]
def N__law_mixed : List Str := ["_law_state", "_law_found", "_law_prime", "_law_blend", "_law_cell"]
def P__law_mixed (i : Nat) : Bool := ([true] : List Bool).getD i false
def b__law_mixed : MS := (sCons (sPut 0 pVar (kC (.str "turn")) (mBin dAdd (mPath 0 (pSub pVar (kC (.str "turn")))) (mC (.int 1))))
  (sCons (sSet 1 (mC (.int 0)))
  (sCons (sFor (iAny (mLst (mCons (mC (.int 2147483629)) (mCons (mC (.int 2147483587)) (mCons (mC (.int 2147483579)) (mCons (mC (.int 2147483563)) mNil)))))) (tName 2)
  (sCons (sSet 3 (mBin dAdd (mBin dMul (mC (.int 104729)) (mPath 0 (pSub pVar (kC (.str "turn"))))) (mBin dFdiv (mVar 2) (mC (.int 7)))))
  (sCons (sFor (iAlt (iAny (mPath 0 (pSub pVar (kC (.str "cells"))))) (keysAt 0 (pSub pVar (kC (.str "cells"))))) (tName 4)
  (sSet 3 (mBin dMod (mCallB dInt2 (mCons (mBin dAdd (mBin dMul (mVar 3) (mC (.int 48271))) (mVar 4)) mNil)) (mVar 2))))
  (sSet 1 (mBin dAdd (mBin dMul (mVar 1) (mC (.int 2147483647))) (mBin dMod (mCallB dInt2 (mCons (mBin dPow (mVar 3) (mC (.int 5))) mNil)) (mVar 2)))))))
  (sRet (mMv 1)))))
def m__law_mixed : MF := mFun ps__law_mixed.length N__law_mixed.length P__law_mixed b__law_mixed
def ps__law_take : List Str := ["_law_state", "_law_size"]
def N__law_take : List Str := ["_law_state", "_law_size", "_law_found"]
def P__law_take (i : Nat) : Bool := ([true, true] : List Bool).getD i false
def b__law_take : MS := (sCons (sIf (toT (mBin dEq (mPath 0 (pSub pVar (kC (.str "rest")))) (mC (.int 0))))
  (sPut 0 pVar (kC (.str "rest")) (mIf (purT [true] (toT (mBin dNe (mPath 0 (pSub pVar (kC (.str "large")))) (mLst mNil)))) (mMethP "list" gPopAt 0 (pSub pVar (kC (.str "large"))) (ksCons (kC (.int 0)) ksNil)) (mCall m__law_mixed [.v 0] [])))
  sNil)
  (sCons (sSet 2 (mBin dMod (mCallB dInt2 (mCons (mPath 0 (pSub pVar (kC (.str "rest")))) mNil)) (mVar 1)))
  (sCons (sPut 0 pVar (kC (.str "rest")) (mBin dFdiv (mPath 0 (pSub pVar (kC (.str "rest")))) (mVar 1)))
  (sRet (mMv 2)))))
def m__law_take : MF := mFun ps__law_take.length N__law_take.length P__law_take b__law_take
def ps__law_pick : List Str := ["_law_state", "_law_some"]
def N__law_pick : List Str := ["_law_state", "_law_some"]
def P__law_pick (i : Nat) : Bool := ([true, true] : List Bool).getD i false
def b__law_pick : MS := (sRet (mBin dIx (mVar 1) (mCall m__law_take [.v 0, .e (mCallB dLen (mCons (mVar 1) mNil))] [])))
def m__law_pick : MF := mFun ps__law_pick.length N__law_pick.length P__law_pick b__law_pick
def ps__law_word : List Str := ["_law_state"]
def N__law_word : List Str := ["_law_state", "_law_words", "_law_letters", "_law_k"]
def P__law_word (i : Nat) : Bool := ([true] : List Bool).getD i false
def b__law_word : MS := (sCons (sSet 1 (mMethV "str" gSplit (mC (.str "a b aa act move same value people tell zzzzzz")) (mCons (mC (.str " ")) mNil)))
  (sCons (sIf (toT (mBin dGt (mCall m__law_take [.v 0, .e (mC (.int 3))] []) (mC (.int 0))))
  (sRet (mCall m__law_pick [.v 0, .e (mVar 1)] []))
  sNil)
  (sCons (sSet 2 (mC (.str "abcdefghijklmnopqrstuvwxyz")))
  (sRet (mMethV "str" gJoin (mC (.str "")) (mCons (mLc (mRng1 (mCons (mBin dAdd (mC (.int 1)) (mCall m__law_take [.v 0, .e (mC (.int 6))] [])) mNil)) [3] (tName 3) tTrue (mCall m__law_pick [.v 0, .e (mVar 2)] [])) mNil))))))
def m__law_word : MF := mFun ps__law_word.length N__law_word.length P__law_word b__law_word
def ps__law_labels : List Str := ["_law_state", "_law_many"]
def N__law_labels : List Str := ["_law_state", "_law_many", "_law_letters", "_law_found", "_law_k", "_law_label", "_law_near_here", "_law_letter", "_law_one"]
def P__law_labels (i : Nat) : Bool := ([true, true] : List Bool).getD i false
def b__law_labels : MS := (sCons (sAsg (mTup (mCons (mC (.str "abcdefghijklmnopqrstuvwxyz")) (mCons (mLst mNil) mNil))) (tTup (tsCons (tName 2) (tsCons (tName 3) tsNil))))
  (sCons (sFor (mRng1 (mCons (mVar 1) mNil)) (tName 4)
  (sCons (sSet 5 (mCall m__law_word [.v 0] []))
  (sCons (sSet 6 (mBin dAdd (mLst (mCons (mVar 5) mNil)) (mLc (iAlt (iAny (mVar 2)) (keysAt 2 pVar)) [7] (tName 7) tTrue (mBin dAdd (mSl (mVar 5) oNone (oSome (mC (.int 5)))) (mVar 7)))))
  (sExpr (mMeth "list" gAppend 3 (mCons (mBin dIx (mLc (iAlt (iAny (mVar 6)) (keysAt 6 pVar)) [8] (tName 8) (purT [false, false, false, true, false, false, false, false, true] (toT (mBin dNotIn (mVar 8) (mVar 3)))) (mVar 8)) (mC (.int 0))) mNil))))))
  (sRet (mMv 3))))
def m__law_labels : MF := mFun ps__law_labels.length N__law_labels.length P__law_labels b__law_labels
def ps__law_cells : List Str := ["_law_state", "_law_many", "_law_most"]
def N__law_cells : List Str := ["_law_state", "_law_many", "_law_most", "_law_found", "_law_cell"]
def P__law_cells (i : Nat) : Bool := ([true, true, true] : List Bool).getD i false
def b__law_cells : MS := (sCons (sSet 3 (mC (.dct true [] [])))
  (sCons (sFor (iAny (mCall m__law_labels [.v 0, .e (mVar 1)] [])) (tName 4)
  (sPut 3 pVar (kPur [false, false, false, false, true] (mVar 4)) (mCall m__law_labels [.v 0, .e (mFz (mBin dAdd (mC (.int 2)) (mCall m__law_take [.v 0, .e (mBin dSub (mVar 2) (mC (.int 1)))] [])))] [])))
  (sRet (mMv 3))))
def m__law_cells : MF := mFun ps__law_cells.length N__law_cells.length P__law_cells b__law_cells
def ps_is_name : List Str := ["value"]
def N_is_name : List Str := ["value", "sign"]
def P_is_name (i : Nat) : Bool := ([true] : List Bool).getD i false
def b_is_name : MS := (sRet (mAnd (mCallB (dIsO ct) (mCons (mVar 0) (mCons (mC (.ty .str)) mNil))) (mAnd (mChain dLe dLe (mC (.int 1)) (mCallB dLen (mCons (mVar 0) mNil)) (mC (.int 6))) (mCallB dAll (mCons (mLc (iAlt (iAny (mVar 0)) (keysAt 0 pVar)) [1] (tName 1) tTrue (mBin dIn (mVar 1) (mC (.str "abcdefghijklmnopqrstuvwxyz")))) mNil)))))
def m_is_name : MF := mFun ps_is_name.length N_is_name.length P_is_name b_is_name
def ps_is_list : List Str := ["value"]
def N_is_list : List Str := ["value"]
def P_is_list (i : Nat) : Bool := ([true] : List Bool).getD i false
def b_is_list : MS := (sRet (mCallB (dIsO ct) (mCons (mVar 0) (mCons (mTup (mCons (mC (.ty .lst)) (mCons (mC (.ty .tup)) mNil))) mNil))))
def m_is_list : MF := mFun ps_is_list.length N_is_list.length P_is_list b_is_list
def ps_are_different : List Str := ["values"]
def N_are_different : List Str := ["values", "at", "value"]
def P_are_different (i : Nat) : Bool := ([true] : List Bool).getD i false
def b_are_different : MS := (sRet (mCallB dAll (mCons (mLc (iEnum2 (mCons (mVar 0) mNil)) [1, 2] (tTup (tsCons (tName 1) (tsCons (tName 2) tsNil))) tTrue (mBin dNotIn (mVar 2) (mSl (mVar 0) oNone (oSome (mVar 1))))) mNil)))
def m_are_different : MF := mFun ps_are_different.length N_are_different.length P_are_different b_are_different
def ps_are_values : List Str := ["value"]
def N_are_values : List Str := ["value", "one"]
def P_are_values (i : Nat) : Bool := ([true] : List Bool).getD i false
def b_are_values : MS := (sRet (mAnd (mCall m_is_list [.e (mVar 0)] []) (mAnd (mChain dLe dLe (mC (.int 2)) (mCallB dLen (mCons (mVar 0) mNil)) (mC (.int 3))) (mAnd (mCallB dAll (mCons (mLc (iAlt (iAny (mVar 0)) (keysAt 0 pVar)) [1] (tName 1) tTrue (mCall m_is_name [.e (mVar 1)] [])) mNil)) (mCall m_are_different [.e (mVar 0)] [])))))
def m_are_values : MF := mFun ps_are_values.length N_are_values.length P_are_values b_are_values
def ps_Hall___init__ : List Str := ["self", "cells"]
def N_Hall___init__ : List Str := ["self", "cells", "name", "values"]
def P_Hall___init__ (i : Nat) : Bool := ([true, true] : List Bool).getD i false
def b_Hall___init__ : MS := (sCons (sIf (tOr2 (tNot1 (mTru (mCallB (dIsO ct) (mCons (mVar 1) (mCons (mC (.ty .dct)) mNil))))) (tNot1 (toT (mChain dLe dLe (mC (.int 1)) (mCallB dLen (mCons (mVar 1) mNil)) (mC (.int 3))))))
  sStuck
  sNil)
  (sCons (sIf (tNot1 (mTru (mCallB dAll (mCons (mLc (iAlt (iAny (mVar 1)) (keysAt 1 pVar)) [2] (tName 2) tTrue (mAnd (mCall m_is_name [.e (mVar 2)] []) (mCall m_are_values [.e (mAlt (mPath 1 (pSub pVar (kPur [false, false, true] (mVar 2)))) (mBin dIx (mVar 1) (mVar 2)))] []))) mNil))))
  sStuck
  sNil)
  (sCons (sPutF 0 pVar ["Hall"] "names" (mCallB dTuple (mCons (mCallB dSortA (mCons (mVar 1) mNil)) mNil)))
  (sCons (sPutF 0 pVar ["Hall"] "hall_values" (mCallB dTuple (mCons (mLc (iAlt (iAny (mPath 0 (pFld pVar ["Hall"] "names"))) (keysAt 0 (pFld pVar ["Hall"] "names"))) [2] (tName 2) tTrue (mCallB dTuple (mCons (mAlt (mPath 1 (pSub pVar (kPur [false, false, true] (mVar 2)))) (mBin dIx (mVar 1) (mVar 2))) mNil))) mNil)))
  (sPutF 0 pVar ["Hall"] "first" (mCallB dTuple (mCons (mLc (iAlt (iAny (mPath 0 (pFld pVar ["Hall"] "hall_values"))) (keysAt 0 (pFld pVar ["Hall"] "hall_values"))) [3] (tName 3) tTrue (mAlt (mPath 3 (pSub pVar (kC (.int 0)))) (mBin dIx (mVar 3) (mC (.int 0))))) mNil)))))))
def m_Hall___init__ : MF := mFun ps_Hall___init__.length N_Hall___init__.length P_Hall___init__ b_Hall___init__
def ps__law_hall : List Str := ["_law_model"]
def N__law_hall : List Str := ["_law_model", "_law_cell"]
def P__law_hall (i : Nat) : Bool := ([true] : List Bool).getD i false
def b__law_hall : MS := (sRet (mMake "Hall" m_Hall___init__ [.e (mFz (mCallB dDict (mCons (mLc (iAny (mUn dRev (mCallB dSortA (mCons (mPath 0 (pSub pVar (kC (.str "cells")))) mNil)))) [1] (tName 1) tTrue (mTup (mCons (mVar 1) (mCons (mCallB dList (mCons (mPath 0 (pSub (pSub pVar (kC (.str "cells"))) (kPur [false, true] (mVar 1)))) mNil)) mNil)))) mNil)))] []))
def m__law_hall : MF := mFun ps__law_hall.length N__law_hall.length P__law_hall b__law_hall
def ps__law_all_scenes : List Str := ["_law_model"]
def N__law_all_scenes : List Str := ["_law_model", "_law_found", "_law_cell", "_law_longer", "_law_scene", "_law_value"]
def P__law_all_scenes (i : Nat) : Bool := ([true] : List Bool).getD i false
def b__law_all_scenes : MS := (sCons (sSet 1 (mLst (mCons (mTup mNil) mNil)))
  (sCons (sFor (iAny (mCallB dSortA (mCons (mPath 0 (pSub pVar (kC (.str "cells")))) mNil))) (tName 2)
  (sCons (sSet 3 (mLst mNil))
  (sCons (sFor (iAlt (iAny (mVar 1)) (keysAt 1 pVar)) (tName 4)
  (sSet 3 (mBin dAdd (mVar 3) (mLc (iAny (mPath 0 (pSub (pSub pVar (kC (.str "cells"))) (kPur [false, false, true] (mVar 2))))) [5] (tName 5) tTrue (mBin dAdd (mVar 4) (mTup (mCons (mVar 5) mNil)))))))
  (sSet 1 (mVar 3)))))
  (sRet (mCallB dSortA (mCons (mVar 1) mNil)))))
def m__law_all_scenes : MF := mFun ps__law_all_scenes.length N__law_all_scenes.length P__law_all_scenes b__law_all_scenes
def ps__law_does_fit : List Str := ["_law_scene", "_law_pattern_here"]
def N__law_does_fit : List Str := ["_law_scene", "_law_pattern_here", "_law_value", "_law_want"]
def P__law_does_fit (i : Nat) : Bool := ([true, true] : List Bool).getD i false
def b__law_does_fit : MS := (sRet (mBin dEq (mLc (iZip2 (mCons (mVar 0) (mCons (mVar 1) mNil))) [2, 3] (tTup (tsCons (tName 2) (tsCons (tName 3) tsNil))) (tAnd2 (toT (mBin dNe (mVar 3) (mC (.str "")))) (toT (mBin dNe (mVar 3) (mVar 2)))) (mC (.int 1))) (mLst mNil)))
def m__law_does_fit : MF := mFun ps__law_does_fit.length N__law_does_fit.length P__law_does_fit b__law_does_fit
def ps_need_hall : List Str := ["hall"]
def N_need_hall : List Str := ["hall"]
def P_need_hall (i : Nat) : Bool := ([true] : List Bool).getD i false
def b_need_hall : MS := (sIf (tNot1 (mTru (mCallB (dIsO ct) (mCons (mVar 0) (mCons (mC (.glo "Hall")) mNil)))))
  sStuck
  sNil)
def m_need_hall : MF := mFun ps_need_hall.length N_need_hall.length P_need_hall b_need_hall
def ps_has_items : List Str := ["hall", "thing"]
def N_has_items : List Str := ["hall", "thing"]
def P_has_items (i : Nat) : Bool := ([true, true] : List Bool).getD i false
def b_has_items : MS := (sRet (mAnd (mCallB (dIsO ct) (mCons (mVar 1) (mCons (mC (.ty .tup)) mNil))) (mBin dEq (mCallB dLen (mCons (mVar 1) mNil)) (mCallB dLen (mCons (mPath 0 (pFld pVar ["Hall"] "names")) mNil)))))
def m_has_items : MF := mFun ps_has_items.length N_has_items.length P_has_items b_has_items
def ps_is_value_of : List Str := ["hall", "at", "value"]
def N_is_value_of : List Str := ["hall", "at", "value"]
def P_is_value_of (i : Nat) : Bool := ([true, true, true] : List Bool).getD i false
def b_is_value_of : MS := (sRet (mAnd (mCallB (dIsO ct) (mCons (mVar 2) (mCons (mC (.ty .str)) mNil))) (mBin dIn (mVar 2) (mPath 0 (pSub (pFld pVar ["Hall"] "hall_values") (kPur [false, true] (mVar 1)))))))
def m_is_value_of : MF := mFun ps_is_value_of.length N_is_value_of.length P_is_value_of b_is_value_of
def ps_is_pattern : List Str := ["hall", "thing"]
def N_is_pattern : List Str := ["hall", "thing", "value", "at"]
def P_is_pattern (i : Nat) : Bool := ([true, true] : List Bool).getD i false
def b_is_pattern : MS := (sCons (sExpr (mCall m_need_hall [.e (mVar 0)] []))
  (sCons (sIf (tOr2 (tNot1 (mTru (mCall m_has_items [.e (mVar 0), .e (mVar 1)] []))) (tNot1 (mTru (mCallB dAll (mCons (mLc (iAlt (iAny (mVar 1)) (keysAt 1 pVar)) [2] (tName 2) tTrue (mCallB (dIsO ct) (mCons (mVar 2) (mCons (mC (.ty .str)) mNil)))) mNil)))))
  (sRet (mC (.bl false)))
  sNil)
  (sRet (mCallB dAll (mCons (mLc (iEnum2 (mCons (mVar 1) mNil)) [3, 2] (tTup (tsCons (tName 3) (tsCons (tName 2) tsNil))) tTrue (mOr (mBin dEq (mVar 2) (mC (.str ""))) (mCall m_is_value_of [.e (mVar 0), .e (mVar 3), .e (mVar 2)] []))) mNil)))))
def m_is_pattern : MF := mFun ps_is_pattern.length N_is_pattern.length P_is_pattern b_is_pattern
def ps_need_pattern : List Str := ["hall", "pattern"]
def N_need_pattern : List Str := ["hall", "pattern"]
def P_need_pattern (i : Nat) : Bool := ([true, true] : List Bool).getD i false
def b_need_pattern : MS := (sIf (tNot1 (mTru (mCall m_is_pattern [.e (mVar 0), .e (mVar 1)] [])))
  sStuck
  sNil)
def m_need_pattern : MF := mFun ps_need_pattern.length N_need_pattern.length P_need_pattern b_need_pattern
def ps_scenes_of : List Str := ["hall", "pattern"]
def N_scenes_of : List Str := ["hall", "pattern", "found", "values", "want", "scene", "value"]
def P_scenes_of (i : Nat) : Bool := ([true, true] : List Bool).getD i false
def b_scenes_of : MS := (sCons (sExpr (mCall m_need_hall [.e (mVar 0)] []))
  (sCons (sExpr (mCall m_need_pattern [.e (mVar 0), .e (mVar 1)] []))
  (sCons (sSet 2 (mLst (mCons (mTup mNil) mNil)))
  (sCons (sFor (iZip2 (mCons (mPath 0 (pFld pVar ["Hall"] "hall_values")) (mCons (mVar 1) mNil))) (tTup (tsCons (tName 3) (tsCons (tName 4) tsNil)))
  (sSet 2 (mLc2 (iAny (mVar 2)) [5, 6] [6] (tName 5) tTrue (iAny (mVar 3)) (tName 6) (toT (mBin dIn (mVar 4) (mTup (mCons (mC (.str "")) (mCons (mVar 6) mNil))))) (mTup (mStarC (mVar 5) (mCons (mVar 6) mNil))))))
  (sRet (mCallB dSortA (mCons (mVar 2) mNil)))))))
def m_scenes_of : MF := mFun ps_scenes_of.length N_scenes_of.length P_scenes_of b_scenes_of
def ps__law_pattern : List Str := ["_law_state", "_law_model"]
def N__law_pattern : List Str := ["_law_state", "_law_model", "_law_cell"]
def P__law_pattern (i : Nat) : Bool := ([true, true] : List Bool).getD i false
def b__law_pattern : MS := (sRet (mCallB dTuple (mCons (mLc (iAny (mCallB dSortA (mCons (mPath 1 (pSub pVar (kC (.str "cells")))) mNil))) [2] (tName 2) tTrue (mCall m__law_pick [.v 0, .e (mFz (mBin dAdd (mLst (mCons (mC (.str "")) (mCons (mC (.str "")) mNil))) (mPath 1 (pSub (pSub pVar (kC (.str "cells"))) (kPur [false, false, true] (mVar 2))))))] [])) mNil)))
def m__law_pattern : MF := mFun ps__law_pattern.length N__law_pattern.length P__law_pattern b__law_pattern
def ps_met : List Str := ["hall", "one", "other"]
def N_met : List Str := ["hall", "one", "other", "first", "second"]
def P_met (i : Nat) : Bool := ([true, true, true] : List Bool).getD i false
def b_met : MS := (sCons (sExpr (mCall m_need_hall [.e (mVar 0)] []))
  (sCons (sExpr (mCall m_need_pattern [.e (mVar 0), .e (mVar 1)] []))
  (sCons (sExpr (mCall m_need_pattern [.e (mVar 0), .e (mVar 2)] []))
  (sCons (sIf (toT (mBin dNe (mLc (iZip2 (mCons (mVar 1) (mCons (mVar 2) mNil))) [3, 4] (tTup (tsCons (tName 3) (tsCons (tName 4) tsNil))) (tAnd2 (toT (mBin dNotIn (mC (.str "")) (mTup (mCons (mVar 3) (mCons (mVar 4) mNil))))) (toT (mBin dNe (mVar 3) (mVar 4)))) (mC (.int 1))) (mLst mNil)))
  (sRet (mC .non))
  sNil)
  (sRet (mCallB dTuple (mCons (mLc (iZip2 (mCons (mVar 1) (mCons (mVar 2) mNil))) [3, 4] (tTup (tsCons (tName 3) (tsCons (tName 4) tsNil))) tTrue (mIf (toT (mBin dNe (mVar 3) (mC (.str "")))) (mVar 3) (mVar 4))) mNil)))))))
def m_met : MF := mFun ps_met.length N_met.length P_met b_met
def ps__law_near : List Str := ["_law_state", "_law_model", "_law_scene"]
def N__law_near : List Str := ["_law_state", "_law_model", "_law_scene", "_law_at", "_law_way", "_law_some", "_law_other"]
def P__law_near (i : Nat) : Bool := ([true, true, true] : List Bool).getD i false
def b__law_near : MS := (sCons (sPar [3, 4] (mCons (mCall m__law_take [.v 0, .e (mCallB dLen (mCons (mVar 2) mNil))] []) (mCons (mCall m__law_take [.v 0, .e (mC (.int 7))] []) mNil)))
  (sCons (sIf (toT (mBin dEq (mVar 4) (mC (.int 0))))
  (sRet (mCallB dList (mCons (mVar 2) mNil)))
  sNil)
  (sCons (sIf (toT (mBin dEq (mVar 4) (mC (.int 1))))
  (sRet (mBin dAdd (mVar 2) (mSl (mVar 2) oNone (oSome (mC (.int 1))))))
  sNil)
  (sCons (sIf (toT (mBin dEq (mVar 4) (mC (.int 2))))
  (sRet (mSl (mVar 2) (oSome (mC (.int 1))) oNone))
  sNil)
  (sCons (sIf (toT (mBin dEq (mVar 4) (mC (.int 3))))
  (sRet (mCall m__law_pick [.v 0, .e (mFz (mLst (mCons (mC .non) (mCons (mC (.int 5)) (mCons (mC (.str "")) (mCons (mC (.str "a")) (mCons (mTup mNil) (mCons (mC (.dct true [] [])) (mCons (mC (.bl true)) (mCons (mLst (mCons (mVar 2) mNil)) mNil))))))))))] []))
  sNil)
  (sCons (sSet 5 (mBin dIx (mPath 1 (pSub pVar (kC (.str "cells")))) (mCall m__law_pick [.v 0, .e (mFz (mCallB dSortA (mCons (mPath 1 (pSub pVar (kC (.str "cells")))) mNil)))] [])))
  (sCons (sSet 6 (mCall m__law_pick [.v 0, .e (mFz (mBin dAdd (mLst (mCons (mC (.str "")) (mCons (mC (.str "zz")) (mCons (mC .non) (mCons (mC (.int 0)) (mCons (mTup (mCons (mC (.str "a")) mNil)) (mCons (mC (.bl true)) (mCons (mLst mNil) (mCons (mC (.dct true [] [])) (mCons (mLst (mCons (mLst (mCons (mC (.str "x")) mNil)) mNil)) mNil)))))))))) (mVar 5)))] []))
  (sRet (mBin dAdd (mBin dAdd (mSl (mVar 2) oNone (oSome (mVar 3))) (mTup (mCons (mVar 6) mNil))) (mSl (mVar 2) (oSome (mBin dAdd (mVar 3) (mC (.int 1)))) oNone))))))))))
def m__law_near : MF := mFun ps__law_near.length N__law_near.length P__law_near b__law_near
def ps__law_is_like : List Str := ["_law_model", "_law_thing", "_law_more"]
def N__law_is_like : List Str := ["_law_model", "_law_thing", "_law_more", "_law_cell", "_law_value"]
def P__law_is_like (i : Nat) : Bool := ([true, true, true] : List Bool).getD i false
def b__law_is_like : MS := (sCons (sIf (tOr2 (tNot1 (mTru (mCallB (dIsO ct) (mCons (mVar 1) (mCons (mC (.ty .tup)) mNil))))) (toT (mBin dNe (mCallB dLen (mCons (mVar 1) mNil)) (mCallB dLen (mCons (mPath 0 (pSub pVar (kC (.str "cells")))) mNil)))))
  (sRet (mC (.bl false)))
  sNil)
  (sCons (sFor (iZip2 (mCons (mCallB dSortA (mCons (mPath 0 (pSub pVar (kC (.str "cells")))) mNil)) (mCons (mVar 1) mNil))) (tTup (tsCons (tName 3) (tsCons (tName 4) tsNil)))
  (sIf (tOr2 (tNot1 (mTru (mCallB (dIsO ct) (mCons (mVar 4) (mCons (mC (.ty .str)) mNil))))) (toT (mBin dNotIn (mVar 4) (mBin dAdd (mPath 0 (pSub (pSub pVar (kC (.str "cells"))) (kPur [false, false, false, true] (mVar 3)))) (mVar 2)))))
  (sRet (mC (.bl false)))
  sNil))
  (sRet (mC (.bl true)))))
def m__law_is_like : MF := mFun ps__law_is_like.length N__law_is_like.length P__law_is_like b__law_is_like
def ps_is_scene : List Str := ["hall", "thing"]
def N_is_scene : List Str := ["hall", "thing", "at", "value"]
def P_is_scene (i : Nat) : Bool := ([true, true] : List Bool).getD i false
def b_is_scene : MS := (sCons (sExpr (mCall m_need_hall [.e (mVar 0)] []))
  (sRet (mAnd (mCall m_has_items [.e (mVar 0), .e (mVar 1)] []) (mCallB dAll (mCons (mLc (iEnum2 (mCons (mVar 1) mNil)) [2, 3] (tTup (tsCons (tName 2) (tsCons (tName 3) tsNil))) tTrue (mCall m_is_value_of [.e (mVar 0), .e (mVar 2), .e (mVar 3)] [])) mNil)))))
def m_is_scene : MF := mFun ps_is_scene.length N_is_scene.length P_is_scene b_is_scene
def ps_need_scene : List Str := ["hall", "scene"]
def N_need_scene : List Str := ["hall", "scene"]
def P_need_scene (i : Nat) : Bool := ([true, true] : List Bool).getD i false
def b_need_scene : MS := (sIf (tNot1 (mTru (mCall m_is_scene [.e (mVar 0), .e (mVar 1)] [])))
  sStuck
  sNil)
def m_need_scene : MF := mFun ps_need_scene.length N_need_scene.length P_need_scene b_need_scene
def ps_is_fit : List Str := ["scene", "pattern"]
def N_is_fit : List Str := ["scene", "pattern", "value", "want"]
def P_is_fit (i : Nat) : Bool := ([true, true] : List Bool).getD i false
def b_is_fit : MS := (sRet (mCallB dAll (mCons (mLc (iZip2 (mCons (mVar 0) (mCons (mVar 1) mNil))) [2, 3] (tTup (tsCons (tName 2) (tsCons (tName 3) tsNil))) tTrue (mBin dIn (mVar 3) (mTup (mCons (mC (.str "")) (mCons (mVar 2) mNil))))) mNil)))
def m_is_fit : MF := mFun ps_is_fit.length N_is_fit.length P_is_fit b_is_fit
def ps_fits : List Str := ["hall", "scene", "pattern"]
def N_fits : List Str := ["hall", "scene", "pattern"]
def P_fits (i : Nat) : Bool := ([true, true, true] : List Bool).getD i false
def b_fits : MS := (sCons (sExpr (mCall m_need_hall [.e (mVar 0)] []))
  (sCons (sExpr (mCall m_need_scene [.e (mVar 0), .e (mVar 1)] []))
  (sCons (sExpr (mCall m_need_pattern [.e (mVar 0), .e (mVar 2)] []))
  (sRet (mCall m_is_fit [.e (mVar 1), .e (mVar 2)] [])))))
def m_fits : MF := mFun ps_fits.length N_fits.length P_fits b_fits
def ps_law : List Str := ["_law_script"]
def N_law : List Str := ["_law_script", "_law_state", "_law_turn", "_law_model", "_law_lap", "_law_hall_here", "_law_every", "_law_is_so", "_law_due", "_law_found", "_law_thing", "_law_scene", "_law_one", "_law_other", "_law_both", "_law_common", "_law_each"]
def P_law (i : Nat) : Bool := ([true] : List Bool).getD i false
def b_law : MS := (sCons (sSet 1 (mCall m__law_begun [.e (mVar 0)] []))
  (sCons (sFor (mRng1 (mCons (mBin dAdd (mC (.int 2)) (mCallB dMin2 (mCons (mCallB dLen (mCons (mVar 0) mNil)) (mCons (mC (.int 8)) mNil)))) mNil)) (tName 2)
  (sCons (sSet 3 (mDisp [((mC (.str "cells")), (mCall m__law_cells [.v 1, .e (mFz (mBin dAdd (mC (.int 1)) (mCall m__law_take [.v 1, .e (mC (.int 3))] []))), .e (mC (.int 3))] []))]))
  (sCons (sPar [5, 6] (mCons (mCall m__law_hall [.e (mVar 3)] []) (mCons (mCall m__law_all_scenes [.e (mVar 3)] []) mNil)))
  (sFor (mRng1 (mCons (mC (.int 5)) mNil)) (tName 4)
  (sCons (sAsg (mTup (mCons (mCall m__law_pick [.v 1, .e (mVar 6)] []) (mCons (mCall m__law_pattern [.v 1, .e (mVar 3)] []) (mCons (mCall m__law_pattern [.v 1, .e (mVar 3)] []) mNil)))) (tTup (tsCons (tName 11) (tsCons (tName 12) (tsCons (tName 13) tsNil)))))
  (sCons (sSet 7 (mCall m__law_does_fit [.e (mVar 11), .e (mVar 12)] []))
  (sCons (sIf (toT (mBin dNe (mCallB dRepr (mCons (mLst (mCons (mCall m_fits [.e (mVar 5), .e (mVar 11), .e (mVar 12)] []) (mCons (mCall (mPerm [2, 1, 0] [2, 1, 0] m_fits) [.e (mVar 12), .e (mVar 11), .e (mVar 5)] []) mNil))) mNil)) (mCallB dRepr (mCons (mLst (mCons (mVar 7) (mCons (mVar 7) mNil))) mNil))))
  (sRet (mC (.bl false)))
  sNil)
  (sCons (sSet 8 (mLc (iAlt (iAny (mVar 6)) (keysAt 6 pVar)) [16] (tName 16) (mTru (mCall m__law_does_fit [.e (mVar 16), .e (mVar 12)] [])) (mVar 16)))
  (sCons (sSet 9 (mCall m_scenes_of [.e (mVar 5), .e (mVar 12)] []))
  (sCons (sIf (purT [false, false, false, false, false, false, false, false, true, true] (toT (mBin dNe (pur [false, false, false, false, false, false, false, false, false, true] (mCallB dRepr (mCons (mVar 9) mNil))) (mCallB dRepr (mCons (mVar 8) mNil)))))
  (sRet (mC (.bl false)))
  sNil)
  (sCons (sExpr (mMeth "list" gAppend 9 (mCons (mC .non) mNil)))
  (sCons (sIf (toT (mBin dNe (mCallB dRepr (mCons (mCall (mPerm [1, 0] [1, 0] m_scenes_of) [.e (mVar 12), .e (mVar 5)] []) mNil)) (mCallB dRepr (mCons (mVar 8) mNil))))
  (sRet (mC (.bl false)))
  sNil)
  (sCons (sPar [14, 15] (mCons (mLc (iAlt (iAny (mVar 8)) (keysAt 8 pVar)) [16] (tName 16) (mTru (mCall m__law_does_fit [.e (mVar 16), .e (mVar 13)] [])) (mVar 16)) (mCons (mCall m_met [.e (mVar 5), .e (mVar 12), .e (mVar 13)] []) mNil)))
  (sCons (sIf (tOr2 (toT (mBin dNe (mBin dIs (mVar 15) (mC .non)) (mBin dEq (mVar 14) (mLst mNil)))) (toT (mBin dNe (mCallB dRepr (mCons (mCall (mPerm [2, 1, 0] [2, 1, 0] m_met) [.e (mVar 13), .e (mVar 12), .e (mVar 5)] []) mNil)) (mCallB dRepr (mCons (mVar 15) mNil)))))
  (sRet (mC (.bl false)))
  sNil)
  (sCons (sIf (tAnd2 (toT (mBin dIsNot (mVar 15) (mC .non))) (tOr2 (tNot1 (mTru (mCall m_is_pattern [.e (mVar 5), .e (mVar 15)] []))) (toT (mBin dNe (mCall m_scenes_of [.e (mVar 5), .e (mVar 15)] []) (mVar 14)))))
  (sRet (mC (.bl false)))
  sNil)
  (sFor (iAny (mLst (mCons (mCall m__law_near [.v 1, .e (mVar 3), .e (mFz (mCall m__law_pick [.v 1, .e (mFz (mLst (mCons (mVar 11) (mCons (mVar 12) mNil))))] []))] []) (mCons (mVar 11) (mCons (mVar 12) mNil))))) (tName 10)
  (sCons (sSet 8 (mLst (mCons (mCall m__law_is_like [.e (mVar 3), .e (mVar 10), .e (mFz (mLst mNil))] []) (mCons (mCall m__law_is_like [.e (mVar 3), .e (mVar 10), .e (mFz (mLst (mCons (mC (.str "")) mNil)))] []) mNil))))
  (sCons (sIf (toT (mBin dNe (mCallB dRepr (mCons (mLst (mCons (mCall (mPerm [1, 0] [1, 0] m_is_scene) [.e (mVar 10), .e (mVar 5)] []) (mCons (mCall (mPerm [1, 0] [1, 0] m_is_pattern) [.e (mVar 10), .e (mVar 5)] []) mNil))) mNil)) (mCallB dRepr (mCons (mVar 8) mNil))))
  (sRet (mC (.bl false)))
  sNil)
  (sIf (toT (mBin dNe (mCallB dRepr (mCons (mLst (mCons (mCall m_is_scene [.e (mVar 5), .e (mVar 10)] []) (mCons (mCall m_is_pattern [.e (mVar 5), .e (mVar 10)] []) mNil))) mNil)) (mCallB dRepr (mCons (mVar 8) mNil))))
  (sRet (mC (.bl false)))
  sNil)))))))))))))))))))
  (sRet (mC (.bl true)))))
def m_law : MF := mFun ps_law.length N_law.length P_law b_law
end K03
set_option Elab.async false
set_option linter.all false
set_option maxRecDepth 100000
set_option maxHeartbeats 0
namespace K03
open PySem PySem.Spec PyProof.Rows L2 DL
def top (i : Nat) : Stmt := PySem.Challenge.pw_farkeepers_k03_scenes_and_patterns.main.body.getD i (.Pass ⟨0, 0, 0, 0⟩)
def mst (i j : Nat) : Stmt := (bodyOf (top i)).getD j (.Pass ⟨0, 0, 0, 0⟩)
theorem bo_abs : bootBuiltins "abs" = some (.builtin "abs") := by kernel_rfl
theorem bo_int : bootBuiltins "int" = some (.type "int") := by kernel_rfl
theorem bo_len : bootBuiltins "len" = some (.builtin "len") := by kernel_rfl
theorem bo_isinstance : bootBuiltins "isinstance" = some (.builtin "isinstance") := by kernel_rfl
theorem bo_str : bootBuiltins "str" = some (.type "str") := by kernel_rfl
theorem bo_all : bootBuiltins "all" = some (.builtin "all") := by kernel_rfl
theorem bo_list : bootBuiltins "list" = some (.type "list") := by kernel_rfl
theorem bo_tuple : bootBuiltins "tuple" = some (.type "tuple") := by kernel_rfl
theorem bo_dict : bootBuiltins "dict" = some (.type "dict") := by kernel_rfl
theorem bo_sorted : bootBuiltins "sorted" = some (.builtin "sorted") := by kernel_rfl
theorem bo_min : bootBuiltins "min" = some (.builtin "min") := by kernel_rfl
theorem bo_repr : bootBuiltins "repr" = some (.builtin "repr") := by kernel_rfl
section
variable {P : Program} {w : World} {K : PySem.W.Frag} {mg : Str → Option Value} {base : Heap} {f : Addr} {fd : FuncData}
theorem sc__law_begun : FnScope N__law_begun ps__law_begun (defScope (top 25)) := ⟨rfl, rfl, rfl, by decide +kernel, rfl, by decide +kernel, by decide +kernel⟩
theorem w__law_begun (F : FunD K "_law_begun" "_law_begun" (defArgs (top 25)) (defBody (top 25)) (defScope (top 25)) [] [] f fd) (b_abs : mg "abs" = none) :
    FnG P w K mg base 1 f fd ps__law_begun (spD K mg ps__law_begun.length m__law_begun) :=
  fnD_of (N := N__law_begun) (ps := ps__law_begun) (Pr := P__law_begun) (mb := b__law_begun) F sc__law_begun fun cdv A outer s H E hr hg =>
  (iss_cons (by exact (x_setLcA (own := [("_law_cell", 2)]) sc__law_begun.nd (ii_any (x_var 0)) (x_pv 0) (by show BlkOk N__law_begun (defScope (top 25)) _ _; exact ⟨rfl, by decide +kernel, by decide +kernel, by decide +kernel, by decide +kernel⟩) (fun _ _ _ _ _ => (x_tg 2 sc__law_begun.nd)) (fun _ _ _ _ _ => (its1 (x_tcmp br_ge (x_blt bc_abs b_abs bo_abs (by refine (x_lc (x_var 2) ?_); exact il_nil)) (ig_bin br_pow ig_int ig_int)))) (fun _ _ _ _ _ => (ig_bin br_sub (x_blt bc_abs b_abs bo_abs (by refine (x_lc (x_var 2) ?_); exact il_nil)) (ig_bin br_pow ig_int ig_int)))))
  (iss_one (by exact (is_ret (ig_disp (ips_cons ig_str (x_mv 1) (ips_cons ig_str (x_lcompA (own := [("_law_cell", 2)]) sc__law_begun.nd (ii_any (x_var 0)) (x_pv 0) (by show BlkOk N__law_begun (defScope (top 25)) _ _; exact ⟨rfl, by decide +kernel, by decide +kernel, by decide +kernel, by decide +kernel⟩) (fun _ _ _ _ _ => (x_tg 2 sc__law_begun.nd)) (fun _ _ _ _ _ => its0) (fun _ _ _ _ _ => (x_blt bc_abs b_abs bo_abs (by refine (x_lc (x_var 2) ?_); exact il_nil)))) (ips_cons ig_str ig_int (ips_cons ig_str ig_int ips_nil)))) rfl rfl nofun (by decide))))))
theorem sc__law_mixed : FnScope N__law_mixed ps__law_mixed (defScope (top 26)) := ⟨rfl, rfl, rfl, by decide +kernel, rfl, by decide +kernel, by decide +kernel⟩
theorem w__law_mixed (F : FunD K "_law_mixed" "_law_mixed" (defArgs (top 26)) (defBody (top 26)) (defScope (top 26)) [] [] f fd) (b_int : mg "int" = none) :
    FnG P w K mg base 1 f fd ps__law_mixed (spD K mg ps__law_mixed.length m__law_mixed) :=
  fnD_of (N := N__law_mixed) (ps := ps__law_mixed) (Pr := P__law_mixed) (mb := b__law_mixed) F sc__law_mixed fun cdv A outer s H E hr hg =>
  (iss_cons (by exact (x_put (Room.u65 hr) (ig_bin br_add (ig_path (x_psub (Room.u65 hr) (x_pv 0) ik_str)) ig_int) (x_pv 0) ik_str))
  (iss_cons (by exact (x_set 1 sc__law_mixed.nd ig_int))
  (iss_cons (by exact (x_for PassesOwn.never (ii_any (ig_lst (by refine (x_lc ig_int ?_); refine (x_lc ig_int ?_); refine (x_lc ig_int ?_); refine (x_lc ig_int ?_); exact il_nil))) (x_tg 2 sc__law_mixed.nd)
  (iss_cons (by exact (x_set 3 sc__law_mixed.nd (ig_bin br_add (ig_bin br_mul ig_int (ig_path (x_psub (Room.u65 hr) (x_pv 0) ik_str))) (ig_bin br_fdiv (x_var 2) ig_int))))
  (iss_cons (by exact (x_forA PassesOwn.never (ii_any (ig_path (x_psub (Room.u65 hr) (x_pv 0) ik_str))) (x_psub (Room.u65 hr) (x_pv 0) ik_str) (x_tg 4 sc__law_mixed.nd)
  (iss_one (by exact (x_set 3 sc__law_mixed.nd (ig_bin br_mod (x_bty bc_int2 b_int bo_int (by refine (x_lc (ig_bin br_add (ig_bin br_mul (x_var 3) ig_int) (x_var 4)) ?_); exact il_nil)) (x_var 2)))))))
  (iss_one (by exact (x_set 1 sc__law_mixed.nd (ig_bin br_add (ig_bin br_mul (x_var 1) ig_int) (ig_bin br_mod (x_bty bc_int2 b_int bo_int (by refine (x_lc (ig_bin br_pow (x_var 3) ig_int) ?_); exact il_nil)) (x_var 2))))))))))
  (iss_one (by exact (is_ret (x_mv 1)))))))
theorem sc__law_take : FnScope N__law_take ps__law_take (defScope (top 27)) := ⟨rfl, rfl, rfl, by decide +kernel, rfl, by decide +kernel, by decide +kernel⟩
theorem w__law_take (F : FunD K "_law_take" "_law_take" (defArgs (top 27)) (defBody (top 27)) (defScope (top 27)) [] [] f fd)
    (c__law_mixed : CalF P w K mg base 1 "_law_mixed" ps__law_mixed [] m__law_mixed) (b_int : mg "int" = none) :
    FnG P w K mg base 2 f fd ps__law_take (spD K mg ps__law_take.length m__law_take) :=
  fnD_of (N := N__law_take) (ps := ps__law_take) (Pr := P__law_take) (mb := b__law_take) F sc__law_take fun cdv A outer s H E hr hg =>
  (iss_cons (by exact (is_if (x_tcmp (br_eq (lt64 (Room.u65 hr))) (ig_path (x_psub (Room.u65 hr) (x_pv 0) ik_str)) ig_int)
  (iss_one (by exact (x_put (Room.u65 hr) (ig_if (it_pur [true] (x_tcmp (br_ne (lt64 (Room.u65 hr))) (ig_path (x_psub (Room.u65 hr) (x_pv 0) ik_str)) (ig_lst (by exact il_nil)))) (x_methP PySem.F.plainAttrs_list PySem.F.slot_list_pop PySem.F.type_list_pop mb_popAt (x_psub (Room.u65 hr) (x_pv 0) ik_str) (iks_cons ik_int iks_nil rfl)) (x_call c__law_mixed (hr.mono (by decide)) hg (x_av 0 x_a0))) (x_pv 0) ik_str)))
  iss_nil))
  (iss_cons (by exact (x_set 2 sc__law_take.nd (ig_bin br_mod (x_bty bc_int2 b_int bo_int (by refine (x_lc (ig_path (x_psub (Room.u65 hr) (x_pv 0) ik_str)) ?_); exact il_nil)) (x_var 1))))
  (iss_cons (by exact (x_put (Room.u65 hr) (ig_bin br_fdiv (ig_path (x_psub (Room.u65 hr) (x_pv 0) ik_str)) (x_var 1)) (x_pv 0) ik_str))
  (iss_one (by exact (is_ret (x_mv 2)))))))
theorem sc__law_pick : FnScope N__law_pick ps__law_pick (defScope (top 28)) := ⟨rfl, rfl, rfl, by decide +kernel, rfl, by decide +kernel, by decide +kernel⟩
theorem w__law_pick (F : FunD K "_law_pick" "_law_pick" (defArgs (top 28)) (defBody (top 28)) (defScope (top 28)) [] [] f fd)
    (c__law_take : CalF P w K mg base 2 "_law_take" ps__law_take [] m__law_take) (b_len : mg "len" = none) :
    FnG P w K mg base 3 f fd ps__law_pick (spD K mg ps__law_pick.length m__law_pick) :=
  fnD_of (N := N__law_pick) (ps := ps__law_pick) (Pr := P__law_pick) (mb := b__law_pick) F sc__law_pick fun cdv A outer s H E hr hg =>
  (iss_one (by exact (is_ret (x_ix (Room.u65 hr) (x_var 1) (x_call c__law_take (hr.mono (by decide)) hg (x_av 0 (x_ae (x_blt bc_len b_len bo_len (by refine (x_lc (x_var 1) ?_); exact il_nil)) x_a0)))))))
theorem sc__law_word : FnScope N__law_word ps__law_word (defScope (top 29)) := ⟨rfl, rfl, rfl, by decide +kernel, rfl, by decide +kernel, by decide +kernel⟩
theorem w__law_word (F : FunD K "_law_word" "_law_word" (defArgs (top 29)) (defBody (top 29)) (defScope (top 29)) [] [] f fd)
    (c__law_take : CalF P w K mg base 2 "_law_take" ps__law_take [] m__law_take)
    (c__law_pick : CalF P w K mg base 3 "_law_pick" ps__law_pick [] m__law_pick) (b_range : mg "range" = none) :
    FnG P w K mg base 4 f fd ps__law_word (spD K mg ps__law_word.length m__law_word) :=
  fnD_of (N := N__law_word) (ps := ps__law_word) (Pr := P__law_word) (mb := b__law_word) F sc__law_word fun cdv A outer s H E hr hg =>
  (iss_cons (by exact (x_set 1 sc__law_word.nd (x_methV PySem.F.plainAttrs_str PySem.F.slot_str_split PySem.F.type_str_split bm_split ig_str (by refine (x_lc ig_str ?_); exact il_nil))))
  (iss_cons (by exact (is_if (x_tcmp br_gt (x_call c__law_take (hr.mono (by decide)) hg (x_av 0 (x_ae ig_int x_a0))) ig_int)
  (iss_one (by exact (is_ret (x_call c__law_pick (hr.mono (by decide)) hg (x_av 0 (x_ae (x_var 1) x_a0))))))
  iss_nil))
  (iss_cons (by exact (x_set 2 sc__law_word.nd ig_str))
  (iss_one (by exact (is_ret (x_methV PySem.F.plainAttrs_str PySem.F.slot_str_join PySem.F.type_str_join bm_join ig_str (by refine (x_lc (x_lcomp (own := [("_law_k", 3)]) sc__law_word.nd (x_rng1 b_range (by refine (x_lc (ig_bin br_add ig_int (x_call c__law_take (hr.mono (by decide)) hg (x_av 0 (x_ae ig_int x_a0)))) ?_); exact il_nil)) (by show BlkOk N__law_word (defScope (top 29)) _ _; exact ⟨rfl, by decide +kernel, by decide +kernel, by decide +kernel, by decide +kernel⟩) (fun _ _ _ _ _ => (x_tg 3 sc__law_word.nd)) (fun _ _ _ _ _ => its0) (fun _ _ _ _ _ => (x_call c__law_pick (hr.mono (by decide)) hg (x_av 0 (x_ae (x_var 2) x_a0))))) ?_); exact il_nil))))))))
theorem sc__law_labels : FnScope N__law_labels ps__law_labels (defScope (top 30)) := ⟨rfl, rfl, rfl, by decide +kernel, rfl, by decide +kernel, by decide +kernel⟩
theorem w__law_labels (F : FunD K "_law_labels" "_law_labels" (defArgs (top 30)) (defBody (top 30)) (defScope (top 30)) [] [] f fd)
    (c__law_word : CalF P w K mg base 4 "_law_word" ps__law_word [] m__law_word) (b_range : mg "range" = none) :
    FnG P w K mg base 5 f fd ps__law_labels (spD K mg ps__law_labels.length m__law_labels) :=
  fnD_of (N := N__law_labels) (ps := ps__law_labels) (Pr := P__law_labels) (mb := b__law_labels) F sc__law_labels fun cdv A outer s H E hr hg =>
  (iss_cons (by exact (is_asg (ig_tup (by refine (x_lc ig_str ?_); refine (x_lc (ig_lst (by exact il_nil)) ?_); exact il_nil)) (it_tup rfl (its_cons (x_tg 2 sc__law_labels.nd) (its_cons (x_tg 3 sc__law_labels.nd) its_nil rfl) rfl) rfl rfl (tsCons_len (tsCons_len tsNil_len))) (by decide) rfl rfl rfl))
  (iss_cons (by exact (x_for PassesOwn.never (x_rng1 b_range (by refine (x_lc (x_var 1) ?_); exact il_nil)) (x_tg 4 sc__law_labels.nd)
  (iss_cons (by exact (x_set 5 sc__law_labels.nd (x_call c__law_word (hr.mono (by decide)) hg (x_av 0 x_a0))))
  (iss_cons (by exact (x_set 6 sc__law_labels.nd (ig_bin br_add (ig_lst (by refine (x_lc (x_var 5) ?_); exact il_nil)) (x_lcompA (own := [("_law_letter", 7)]) sc__law_labels.nd (ii_any (x_var 2)) (x_pv 2) (by show BlkOk N__law_labels (defScope (top 30)) _ _; exact ⟨rfl, by decide +kernel, by decide +kernel, by decide +kernel, by decide +kernel⟩) (fun _ _ _ _ _ => (x_tg 7 sc__law_labels.nd)) (fun _ _ _ _ _ => its0) (fun _ _ _ _ _ => (ig_bin br_add (ig_slice (x_var 5) io_none (io_some ig_int)) (x_var 7)))))))
  (iss_one (by exact (x_expr (x_meth 3 PySem.F.plainAttrs_list PySem.F.slot_list_append PySem.F.type_list_append mb_append (by refine (x_lc (x_ix (Room.u65 hr) (x_lcompA (own := [("_law_one", 8)]) sc__law_labels.nd (ii_any (x_var 6)) (x_pv 6) (by show BlkOk N__law_labels (defScope (top 30)) _ _; exact ⟨rfl, by decide +kernel, by decide +kernel, by decide +kernel, by decide +kernel⟩) (fun _ _ _ _ _ => (x_tg 8 sc__law_labels.nd)) (fun _ _ _ _ _ => (its1 (it_pur [false, false, false, true, false, false, false, false, true] (x_tcmp (br_notIn (Room.u65 hr)) (x_var 8) (x_var 3))))) (fun _ _ _ _ _ => (x_var 8))) ig_int) ?_); exact il_nil)))))))))
  (iss_one (by exact (is_ret (x_mv 3))))))
theorem sc__law_cells : FnScope N__law_cells ps__law_cells (defScope (top 31)) := ⟨rfl, rfl, rfl, by decide +kernel, rfl, by decide +kernel, by decide +kernel⟩
theorem w__law_cells (F : FunD K "_law_cells" "_law_cells" (defArgs (top 31)) (defBody (top 31)) (defScope (top 31)) [] [] f fd)
    (c__law_labels : CalF P w K mg base 5 "_law_labels" ps__law_labels [] m__law_labels)
    (c__law_take : CalF P w K mg base 2 "_law_take" ps__law_take [] m__law_take) :
    FnG P w K mg base 6 f fd ps__law_cells (spD K mg ps__law_cells.length m__law_cells) :=
  fnD_of (N := N__law_cells) (ps := ps__law_cells) (Pr := P__law_cells) (mb := b__law_cells) F sc__law_cells fun cdv A outer s H E hr hg =>
  (iss_cons (by exact (x_set 3 sc__law_cells.nd ig_dnew))
  (iss_cons (by exact (x_for PassesOwn.never (ii_any (x_call c__law_labels (hr.mono (by decide)) hg (x_av 0 (x_ae (x_var 1) x_a0)))) (x_tg 4 sc__law_cells.nd)
  (iss_one (by exact (x_put (Room.u65 hr) (x_call c__law_labels (hr.mono (by decide)) hg (x_av 0 (x_ae (ig_fz (ig_bin br_add ig_int (x_call c__law_take (hr.mono (by decide)) hg (x_av 0 (x_ae (ig_bin br_sub (x_var 2) ig_int) x_a0))))) x_a0))) (x_pv 3) (ik_pur [false, false, false, false, true] (x_var 4)))))))
  (iss_one (by exact (is_ret (x_mv 3))))))
theorem sc_is_name : FnScope N_is_name ps_is_name (defScope (top 7)) := ⟨rfl, rfl, rfl, by decide +kernel, rfl, by decide +kernel, by decide +kernel⟩
theorem w_is_name (F : FunD K "is_name" "is_name" (defArgs (top 7)) (defBody (top 7)) (defScope (top 7)) [] [] f fd) (b_isinstance : mg "isinstance" = none) (b_str : mg "str" = none) (b_len : mg "len" = none) (b_all : mg "all" = none) (g_LETTERS : GlD K mg "LETTERS" (.str "abcdefghijklmnopqrstuvwxyz")) (hCT : ClsT K mg ct) :
    FnG P w K mg base 1 f fd ps_is_name (spD K mg ps_is_name.length m_is_name) :=
  fnD_of (N := N_is_name) (ps := ps_is_name) (Pr := P_is_name) (mb := b_is_name) F sc_is_name fun cdv A outer s H E hr hg =>
  (iss_one (by exact (is_ret (ig_and (x_blt (bc_isO hCT) b_isinstance bo_isinstance (by refine (x_lc (x_var 0) ?_); refine (x_lc (x_ty .str b_str bo_str) ?_); exact il_nil)) (ig_and (x_chain br_le br_le ig_int (x_blt bc_len b_len bo_len (by refine (x_lc (x_var 0) ?_); exact il_nil)) ig_int) (ig_one (x_blt (bc_all rfl) b_all bo_all (by refine (x_lc (x_lcompA (own := [("sign", 1)]) sc_is_name.nd (ii_any (x_var 0)) (x_pv 0) (by show BlkOk N_is_name (defScope (top 7)) _ _; exact ⟨rfl, by decide +kernel, by decide +kernel, by decide +kernel, by decide +kernel⟩) (fun _ _ _ _ _ => (x_tg 1 sc_is_name.nd)) (fun _ _ _ _ _ => its0) (fun _ _ _ _ _ => (x_cmp (br_in (Room.u65 hr)) (x_var 1) (x_gl g_LETTERS)))) ?_); exact il_nil))))))))
theorem sc_is_list : FnScope N_is_list ps_is_list (defScope (top 8)) := ⟨rfl, rfl, rfl, by decide +kernel, rfl, by decide +kernel, by decide +kernel⟩
theorem w_is_list (F : FunD K "is_list" "is_list" (defArgs (top 8)) (defBody (top 8)) (defScope (top 8)) [] [] f fd) (b_isinstance : mg "isinstance" = none) (b_list : mg "list" = none) (b_tuple : mg "tuple" = none) (hCT : ClsT K mg ct) :
    FnG P w K mg base 1 f fd ps_is_list (spD K mg ps_is_list.length m_is_list) :=
  fnD_of (N := N_is_list) (ps := ps_is_list) (Pr := P_is_list) (mb := b_is_list) F sc_is_list fun cdv A outer s H E hr hg =>
  (iss_one (by exact (is_ret (x_blt (bc_isO hCT) b_isinstance bo_isinstance (by refine (x_lc (x_var 0) ?_); refine (x_lc (ig_tup (by refine (x_lc (x_ty .lst b_list bo_list) ?_); refine (x_lc (x_ty .tup b_tuple bo_tuple) ?_); exact il_nil)) ?_); exact il_nil)))))
theorem sc_are_different : FnScope N_are_different ps_are_different (defScope (top 9)) := ⟨rfl, rfl, rfl, by decide +kernel, rfl, by decide +kernel, by decide +kernel⟩
theorem w_are_different (F : FunD K "are_different" "are_different" (defArgs (top 9)) (defBody (top 9)) (defScope (top 9)) [] [] f fd) (b_all : mg "all" = none) (b_enumerate : mg "enumerate" = none) :
    FnG P w K mg base 1 f fd ps_are_different (spD K mg ps_are_different.length m_are_different) :=
  fnD_of (N := N_are_different) (ps := ps_are_different) (Pr := P_are_different) (mb := b_are_different) F sc_are_different fun cdv A outer s H E hr hg =>
  (iss_one (by exact (is_ret (x_blt (bc_all rfl) b_all bo_all (by refine (x_lc (x_lcomp (own := [("at", 1), ("value", 2)]) sc_are_different.nd (x_enum2 b_enumerate (by refine (x_lc (x_var 0) ?_); exact il_nil)) (by show BlkOk N_are_different (defScope (top 9)) _ _; exact ⟨rfl, by decide +kernel, by decide +kernel, by decide +kernel, by decide +kernel⟩) (fun _ _ _ _ _ => (it_tup rfl (its_cons (x_tg 1 sc_are_different.nd) (its_cons (x_tg 2 sc_are_different.nd) its_nil rfl) rfl) rfl rfl (tsCons_len (tsCons_len tsNil_len)))) (fun _ _ _ _ _ => its0) (fun _ _ _ _ _ => (x_cmp (br_notIn (Room.u65 hr)) (x_var 2) (ig_slice (x_var 0) io_none (io_some (x_var 1)))))) ?_); exact il_nil)))))
theorem sc_are_values : FnScope N_are_values ps_are_values (defScope (top 11)) := ⟨rfl, rfl, rfl, by decide +kernel, rfl, by decide +kernel, by decide +kernel⟩
theorem w_are_values (F : FunD K "are_values" "are_values" (defArgs (top 11)) (defBody (top 11)) (defScope (top 11)) [] [] f fd)
    (c_is_list : CalF P w K mg base 1 "is_list" ps_is_list [] m_is_list)
    (c_is_name : CalF P w K mg base 1 "is_name" ps_is_name [] m_is_name)
    (c_are_different : CalF P w K mg base 1 "are_different" ps_are_different [] m_are_different) (b_len : mg "len" = none) (b_all : mg "all" = none) :
    FnG P w K mg base 2 f fd ps_are_values (spD K mg ps_are_values.length m_are_values) :=
  fnD_of (N := N_are_values) (ps := ps_are_values) (Pr := P_are_values) (mb := b_are_values) F sc_are_values fun cdv A outer s H E hr hg =>
  (iss_one (by exact (is_ret (ig_and (x_call c_is_list (hr.mono (by decide)) hg (x_ae (x_var 0) x_a0)) (ig_and (x_chain br_le br_le ig_int (x_blt bc_len b_len bo_len (by refine (x_lc (x_var 0) ?_); exact il_nil)) ig_int) (ig_and (x_blt (bc_all rfl) b_all bo_all (by refine (x_lc (x_lcompA (own := [("one", 1)]) sc_are_values.nd (ii_any (x_var 0)) (x_pv 0) (by show BlkOk N_are_values (defScope (top 11)) _ _; exact ⟨rfl, by decide +kernel, by decide +kernel, by decide +kernel, by decide +kernel⟩) (fun _ _ _ _ _ => (x_tg 1 sc_are_values.nd)) (fun _ _ _ _ _ => its0) (fun _ _ _ _ _ => (x_call c_is_name (hr.mono (by decide)) hg (x_ae (x_var 1) x_a0)))) ?_); exact il_nil)) (ig_one (x_call c_are_different (hr.mono (by decide)) hg (x_ae (x_var 0) x_a0)))))))))
theorem sc_Hall___init__ : FnScope N_Hall___init__ ps_Hall___init__ (defScope (mst 12 0)) := ⟨rfl, rfl, rfl, by decide +kernel, rfl, by decide +kernel, by decide +kernel⟩
theorem w_Hall___init__ (F : FunD K "__init__" "Hall.__init__" (defArgs (mst 12 0)) (defBody (mst 12 0)) (defScope (mst 12 0)) [] [] f fd)
    (c_is_name : CalF P w K mg base 1 "is_name" ps_is_name [] m_is_name)
    (c_are_values : CalF P w K mg base 2 "are_values" ps_are_values [] m_are_values) (b_isinstance : mg "isinstance" = none) (b_dict : mg "dict" = none) (b_len : mg "len" = none) (b_all : mg "all" = none) (b_tuple : mg "tuple" = none) (b_sorted : mg "sorted" = none) (f_names : AtF K mg ["Hall"] "names") (f_hall_values : AtF K mg ["Hall"] "hall_values") (f_first : AtF K mg ["Hall"] "first") (hCT : ClsT K mg ct) :
    FnG P w K mg base 3 f fd ps_Hall___init__ (spD K mg ps_Hall___init__.length m_Hall___init__) :=
  fnD_of (N := N_Hall___init__) (ps := ps_Hall___init__) (Pr := P_Hall___init__) (mb := b_Hall___init__) F sc_Hall___init__ fun cdv A outer s H E hr hg =>
  (iss_cons (by exact (is_if (it_w (iw_or (it_not (x_val (x_blt (bc_isO hCT) b_isinstance bo_isinstance (by refine (x_lc (x_var 1) ?_); refine (x_lc (x_ty .dct b_dict bo_dict) ?_); exact il_nil)))) (iw_or1 (it_not (x_tchain br_le br_le ig_int (x_blt bc_len b_len bo_len (by refine (x_lc (x_var 1) ?_); exact il_nil)) ig_int)))))
  (iss_one (by exact is_stuck))
  iss_nil))
  (iss_cons (by exact (is_if (it_not (x_val (x_blt (bc_all rfl) b_all bo_all (by refine (x_lc (x_lcompA (own := [("name", 2)]) sc_Hall___init__.nd (ii_any (x_var 1)) (x_pv 1) (by show BlkOk N_Hall___init__ (defScope (mst 12 0)) _ _; exact ⟨rfl, by decide +kernel, by decide +kernel, by decide +kernel, by decide +kernel⟩) (fun _ _ _ _ _ => (x_tg 2 sc_Hall___init__.nd)) (fun _ _ _ _ _ => its0) (fun _ _ _ _ _ => (ig_and (x_call c_is_name (hr.mono (by decide)) hg (x_ae (x_var 2) x_a0)) (ig_one (x_call c_are_values (hr.mono (by decide)) hg (x_ae (ig_alt (ig_path (x_psub (Room.u65 hr) (x_pv 1) (ik_pur [false, false, true] (x_var 2)))) (x_ix (Room.u65 hr) (x_var 1) (x_var 2))) x_a0)))))) ?_); exact il_nil))))
  (iss_one (by exact is_stuck))
  iss_nil))
  (iss_cons (by exact (x_putF ["Hall"] (x_bty bc_tuple b_tuple bo_tuple (by refine (x_lc (x_blt (bc_sortA rfl (Room.u65 hr)) b_sorted bo_sorted (by refine (x_lc (x_var 1) ?_); exact il_nil)) ?_); exact il_nil)) (x_pv 0) f_names))
  (iss_cons (by exact (x_putF ["Hall"] (x_bty bc_tuple b_tuple bo_tuple (by refine (x_lc (x_lcompA (own := [("name", 2)]) sc_Hall___init__.nd (ii_any (ig_path (x_pfld ["Hall"] (x_pv 0) f_names))) (x_pfld ["Hall"] (x_pv 0) f_names) (by show BlkOk N_Hall___init__ (defScope (mst 12 0)) _ _; exact ⟨rfl, by decide +kernel, by decide +kernel, by decide +kernel, by decide +kernel⟩) (fun _ _ _ _ _ => (x_tg 2 sc_Hall___init__.nd)) (fun _ _ _ _ _ => its0) (fun _ _ _ _ _ => (x_bty bc_tuple b_tuple bo_tuple (by refine (x_lc (ig_alt (ig_path (x_psub (Room.u65 hr) (x_pv 1) (ik_pur [false, false, true] (x_var 2)))) (x_ix (Room.u65 hr) (x_var 1) (x_var 2))) ?_); exact il_nil)))) ?_); exact il_nil)) (x_pv 0) f_hall_values))
  (iss_one (by exact (x_putF ["Hall"] (x_bty bc_tuple b_tuple bo_tuple (by refine (x_lc (x_lcompA (own := [("values", 3)]) sc_Hall___init__.nd (ii_any (ig_path (x_pfld ["Hall"] (x_pv 0) f_hall_values))) (x_pfld ["Hall"] (x_pv 0) f_hall_values) (by show BlkOk N_Hall___init__ (defScope (mst 12 0)) _ _; exact ⟨rfl, by decide +kernel, by decide +kernel, by decide +kernel, by decide +kernel⟩) (fun _ _ _ _ _ => (x_tg 3 sc_Hall___init__.nd)) (fun _ _ _ _ _ => its0) (fun _ _ _ _ _ => (ig_alt (ig_path (x_psub (Room.u65 hr) (x_pv 3) ik_int)) (x_ix (Room.u65 hr) (x_var 3) ig_int)))) ?_); exact il_nil)) (x_pv 0) f_first)))))))
theorem sc__law_hall : FnScope N__law_hall ps__law_hall (defScope (top 33)) := ⟨rfl, rfl, rfl, by decide +kernel, rfl, by decide +kernel, by decide +kernel⟩
theorem w__law_hall (F : FunD K "_law_hall" "_law_hall" (defArgs (top 33)) (defBody (top 33)) (defScope (top 33)) [] [] f fd)
    (k_Hall : CalC P w K mg base 3 "Hall" ps_Hall___init__ [] m_Hall___init__) (b_dict : mg "dict" = none) (b_sorted : mg "sorted" = none) (b_list : mg "list" = none) :
    FnG P w K mg base 5 f fd ps__law_hall (spD K mg ps__law_hall.length m__law_hall) :=
  fnD_of (N := N__law_hall) (ps := ps__law_hall) (Pr := P__law_hall) (mb := b__law_hall) F sc__law_hall fun cdv A outer s H E hr hg =>
  (iss_one (by exact (is_ret (x_make k_Hall (hr.mono (by decide)) hg (x_ae (ig_fz (x_bty (bc_dict rfl) b_dict bo_dict (by refine (x_lc (x_lcomp (own := [("_law_cell", 1)]) sc__law_hall.nd (ii_any (ig_rev (x_blt (bc_sortA rfl (Room.u65 hr)) b_sorted bo_sorted (by refine (x_lc (ig_path (x_psub (Room.u65 hr) (x_pv 0) ik_str)) ?_); exact il_nil)))) (by show BlkOk N__law_hall (defScope (top 33)) _ _; exact ⟨rfl, by decide +kernel, by decide +kernel, by decide +kernel, by decide +kernel⟩) (fun _ _ _ _ _ => (x_tg 1 sc__law_hall.nd)) (fun _ _ _ _ _ => its0) (fun _ _ _ _ _ => (ig_tup (by refine (x_lc (x_var 1) ?_); refine (x_lc (x_bty bc_list b_list bo_list (by refine (x_lc (ig_path (x_psub (Room.u65 hr) (x_psub (Room.u65 hr) (x_pv 0) ik_str) (ik_pur [false, true] (x_var 1)))) ?_); exact il_nil)) ?_); exact il_nil)))) ?_); exact il_nil))) x_a0)))))
theorem sc__law_all_scenes : FnScope N__law_all_scenes ps__law_all_scenes (defScope (top 35)) := ⟨rfl, rfl, rfl, by decide +kernel, rfl, by decide +kernel, by decide +kernel⟩
theorem w__law_all_scenes (F : FunD K "_law_all_scenes" "_law_all_scenes" (defArgs (top 35)) (defBody (top 35)) (defScope (top 35)) [] [] f fd) (b_sorted : mg "sorted" = none) :
    FnG P w K mg base 1 f fd ps__law_all_scenes (spD K mg ps__law_all_scenes.length m__law_all_scenes) :=
  fnD_of (N := N__law_all_scenes) (ps := ps__law_all_scenes) (Pr := P__law_all_scenes) (mb := b__law_all_scenes) F sc__law_all_scenes fun cdv A outer s H E hr hg =>
  (iss_cons (by exact (x_set 1 sc__law_all_scenes.nd (ig_lst (by refine (x_lc (ig_tup (by exact il_nil)) ?_); exact il_nil))))
  (iss_cons (by exact (x_for PassesOwn.never (ii_any (x_blt (bc_sortA rfl (Room.u65 hr)) b_sorted bo_sorted (by refine (x_lc (ig_path (x_psub (Room.u65 hr) (x_pv 0) ik_str)) ?_); exact il_nil))) (x_tg 2 sc__law_all_scenes.nd)
  (iss_cons (by exact (x_set 3 sc__law_all_scenes.nd (ig_lst (by exact il_nil))))
  (iss_cons (by exact (x_forA PassesOwn.never (ii_any (x_var 1)) (x_pv 1) (x_tg 4 sc__law_all_scenes.nd)
  (iss_one (by exact (x_set 3 sc__law_all_scenes.nd (ig_bin br_add (x_var 3) (x_lcomp (own := [("_law_value", 5)]) sc__law_all_scenes.nd (ii_any (ig_path (x_psub (Room.u65 hr) (x_psub (Room.u65 hr) (x_pv 0) ik_str) (ik_pur [false, false, true] (x_var 2))))) (by show BlkOk N__law_all_scenes (defScope (top 35)) _ _; exact ⟨rfl, by decide +kernel, by decide +kernel, by decide +kernel, by decide +kernel⟩) (fun _ _ _ _ _ => (x_tg 5 sc__law_all_scenes.nd)) (fun _ _ _ _ _ => its0) (fun _ _ _ _ _ => (ig_bin br_add (x_var 4) (ig_tup (by refine (x_lc (x_var 5) ?_); exact il_nil)))))))))))
  (iss_one (by exact (x_set 1 sc__law_all_scenes.nd (x_var 3))))))))
  (iss_one (by exact (is_ret (x_blt (bc_sortA rfl (Room.u65 hr)) b_sorted bo_sorted (by refine (x_lc (x_var 1) ?_); exact il_nil)))))))
theorem sc__law_does_fit : FnScope N__law_does_fit ps__law_does_fit (defScope (top 34)) := ⟨rfl, rfl, rfl, by decide +kernel, rfl, by decide +kernel, by decide +kernel⟩
theorem w__law_does_fit (F : FunD K "_law_does_fit" "_law_does_fit" (defArgs (top 34)) (defBody (top 34)) (defScope (top 34)) [] [] f fd) (b_zip : mg "zip" = none) :
    FnG P w K mg base 1 f fd ps__law_does_fit (spD K mg ps__law_does_fit.length m__law_does_fit) :=
  fnD_of (N := N__law_does_fit) (ps := ps__law_does_fit) (Pr := P__law_does_fit) (mb := b__law_does_fit) F sc__law_does_fit fun cdv A outer s H E hr hg =>
  (iss_one (by exact (is_ret (x_cmp (br_eq (lt64 (Room.u65 hr))) (x_lcomp (own := [("_law_value", 2), ("_law_want", 3)]) sc__law_does_fit.nd (x_zip2 b_zip (by refine (x_lc (x_var 0) ?_); refine (x_lc (x_var 1) ?_); exact il_nil)) (by show BlkOk N__law_does_fit (defScope (top 34)) _ _; exact ⟨rfl, by decide +kernel, by decide +kernel, by decide +kernel, by decide +kernel⟩) (fun _ _ _ _ _ => (it_tup rfl (its_cons (x_tg 2 sc__law_does_fit.nd) (its_cons (x_tg 3 sc__law_does_fit.nd) its_nil rfl) rfl) rfl rfl (tsCons_len (tsCons_len tsNil_len)))) (fun _ _ _ _ _ => (its1 (it_w (iw_and (x_tcmp (br_ne (lt64 (Room.u65 hr))) (x_var 3) ig_str) (iw_and1 (x_tcmp (br_ne (lt64 (Room.u65 hr))) (x_var 3) (x_var 2))))))) (fun _ _ _ _ _ => ig_int)) (ig_lst (by exact il_nil))))))
theorem sc_need_hall : FnScope N_need_hall ps_need_hall (defScope (top 13)) := ⟨rfl, rfl, rfl, by decide +kernel, rfl, by decide +kernel, by decide +kernel⟩
theorem w_need_hall (F : FunD K "need_hall" "need_hall" (defArgs (top 13)) (defBody (top 13)) (defScope (top 13)) [] [] f fd) (b_isinstance : mg "isinstance" = none) (g_Hall : GlD K mg "Hall" (.glo "Hall")) (hCT : ClsT K mg ct) :
    FnG P w K mg base 1 f fd ps_need_hall (spD K mg ps_need_hall.length m_need_hall) :=
  fnD_of (N := N_need_hall) (ps := ps_need_hall) (Pr := P_need_hall) (mb := b_need_hall) F sc_need_hall fun cdv A outer s H E hr hg =>
  (iss_one (by exact (is_if (it_not (x_val (x_blt (bc_isO hCT) b_isinstance bo_isinstance (by refine (x_lc (x_var 0) ?_); refine (x_lc (x_gl g_Hall) ?_); exact il_nil))))
  (iss_one (by exact is_stuck))
  iss_nil)))
theorem sc_has_items : FnScope N_has_items ps_has_items (defScope (top 15)) := ⟨rfl, rfl, rfl, by decide +kernel, rfl, by decide +kernel, by decide +kernel⟩
theorem w_has_items (F : FunD K "has_items" "has_items" (defArgs (top 15)) (defBody (top 15)) (defScope (top 15)) [] [] f fd) (b_isinstance : mg "isinstance" = none) (b_tuple : mg "tuple" = none) (b_len : mg "len" = none) (f_names : AtF K mg ["Hall"] "names") (hCT : ClsT K mg ct) :
    FnG P w K mg base 1 f fd ps_has_items (spD K mg ps_has_items.length m_has_items) :=
  fnD_of (N := N_has_items) (ps := ps_has_items) (Pr := P_has_items) (mb := b_has_items) F sc_has_items fun cdv A outer s H E hr hg =>
  (iss_one (by exact (is_ret (ig_and (x_blt (bc_isO hCT) b_isinstance bo_isinstance (by refine (x_lc (x_var 1) ?_); refine (x_lc (x_ty .tup b_tuple bo_tuple) ?_); exact il_nil)) (ig_one (x_cmp (br_eq (lt64 (Room.u65 hr))) (x_blt bc_len b_len bo_len (by refine (x_lc (x_var 1) ?_); exact il_nil)) (x_blt bc_len b_len bo_len (by refine (x_lc (ig_path (x_pfld ["Hall"] (x_pv 0) f_names)) ?_); exact il_nil))))))))
theorem sc_is_value_of : FnScope N_is_value_of ps_is_value_of (defScope (top 14)) := ⟨rfl, rfl, rfl, by decide +kernel, rfl, by decide +kernel, by decide +kernel⟩
theorem w_is_value_of (F : FunD K "is_value_of" "is_value_of" (defArgs (top 14)) (defBody (top 14)) (defScope (top 14)) [] [] f fd) (b_isinstance : mg "isinstance" = none) (b_str : mg "str" = none) (f_hall_values : AtF K mg ["Hall"] "hall_values") (hCT : ClsT K mg ct) :
    FnG P w K mg base 1 f fd ps_is_value_of (spD K mg ps_is_value_of.length m_is_value_of) :=
  fnD_of (N := N_is_value_of) (ps := ps_is_value_of) (Pr := P_is_value_of) (mb := b_is_value_of) F sc_is_value_of fun cdv A outer s H E hr hg =>
  (iss_one (by exact (is_ret (ig_and (x_blt (bc_isO hCT) b_isinstance bo_isinstance (by refine (x_lc (x_var 2) ?_); refine (x_lc (x_ty .str b_str bo_str) ?_); exact il_nil)) (ig_one (x_cmp (br_in (Room.u65 hr)) (x_var 2) (ig_path (x_psub (Room.u65 hr) (x_pfld ["Hall"] (x_pv 0) f_hall_values) (ik_pur [false, true] (x_var 1))))))))))
theorem sc_is_pattern : FnScope N_is_pattern ps_is_pattern (defScope (top 17)) := ⟨rfl, rfl, rfl, by decide +kernel, rfl, by decide +kernel, by decide +kernel⟩
theorem w_is_pattern (F : FunD K "is_pattern" "is_pattern" (defArgs (top 17)) (defBody (top 17)) (defScope (top 17)) [] [] f fd)
    (c_need_hall : CalF P w K mg base 1 "need_hall" ps_need_hall [] m_need_hall)
    (c_has_items : CalF P w K mg base 1 "has_items" ps_has_items [] m_has_items)
    (c_is_value_of : CalF P w K mg base 1 "is_value_of" ps_is_value_of [] m_is_value_of) (b_all : mg "all" = none) (b_isinstance : mg "isinstance" = none) (b_str : mg "str" = none) (b_enumerate : mg "enumerate" = none) (hCT : ClsT K mg ct) :
    FnG P w K mg base 2 f fd ps_is_pattern (spD K mg ps_is_pattern.length m_is_pattern) :=
  fnD_of (N := N_is_pattern) (ps := ps_is_pattern) (Pr := P_is_pattern) (mb := b_is_pattern) F sc_is_pattern fun cdv A outer s H E hr hg =>
  (iss_cons (by exact (x_expr (x_call c_need_hall (hr.mono (by decide)) hg (x_ae (x_var 0) x_a0))))
  (iss_cons (by exact (is_if (it_w (iw_or (it_not (x_val (x_call c_has_items (hr.mono (by decide)) hg (x_ae (x_var 0) (x_ae (x_var 1) x_a0))))) (iw_or1 (it_not (x_val (x_blt (bc_all rfl) b_all bo_all (by refine (x_lc (x_lcompA (own := [("value", 2)]) sc_is_pattern.nd (ii_any (x_var 1)) (x_pv 1) (by show BlkOk N_is_pattern (defScope (top 17)) _ _; exact ⟨rfl, by decide +kernel, by decide +kernel, by decide +kernel, by decide +kernel⟩) (fun _ _ _ _ _ => (x_tg 2 sc_is_pattern.nd)) (fun _ _ _ _ _ => its0) (fun _ _ _ _ _ => (x_blt (bc_isO hCT) b_isinstance bo_isinstance (by refine (x_lc (x_var 2) ?_); refine (x_lc (x_ty .str b_str bo_str) ?_); exact il_nil)))) ?_); exact il_nil)))))))
  (iss_one (by exact (is_ret ig_bl)))
  iss_nil))
  (iss_one (by exact (is_ret (x_blt (bc_all rfl) b_all bo_all (by refine (x_lc (x_lcomp (own := [("at", 3), ("value", 2)]) sc_is_pattern.nd (x_enum2 b_enumerate (by refine (x_lc (x_var 1) ?_); exact il_nil)) (by show BlkOk N_is_pattern (defScope (top 17)) _ _; exact ⟨rfl, by decide +kernel, by decide +kernel, by decide +kernel, by decide +kernel⟩) (fun _ _ _ _ _ => (it_tup rfl (its_cons (x_tg 3 sc_is_pattern.nd) (its_cons (x_tg 2 sc_is_pattern.nd) its_nil rfl) rfl) rfl rfl (tsCons_len (tsCons_len tsNil_len)))) (fun _ _ _ _ _ => its0) (fun _ _ _ _ _ => (ig_or (x_cmp (br_eq (lt64 (Room.u65 hr))) (x_var 2) ig_str) (ig_one (x_call c_is_value_of (hr.mono (by decide)) hg (x_ae (x_var 0) (x_ae (x_var 3) (x_ae (x_var 2) x_a0)))))))) ?_); exact il_nil)))))))
theorem sc_need_pattern : FnScope N_need_pattern ps_need_pattern (defScope (top 19)) := ⟨rfl, rfl, rfl, by decide +kernel, rfl, by decide +kernel, by decide +kernel⟩
theorem w_need_pattern (F : FunD K "need_pattern" "need_pattern" (defArgs (top 19)) (defBody (top 19)) (defScope (top 19)) [] [] f fd)
    (c_is_pattern : CalF P w K mg base 2 "is_pattern" ps_is_pattern [] m_is_pattern) :
    FnG P w K mg base 3 f fd ps_need_pattern (spD K mg ps_need_pattern.length m_need_pattern) :=
  fnD_of (N := N_need_pattern) (ps := ps_need_pattern) (Pr := P_need_pattern) (mb := b_need_pattern) F sc_need_pattern fun cdv A outer s H E hr hg =>
  (iss_one (by exact (is_if (it_not (x_val (x_call c_is_pattern (hr.mono (by decide)) hg (x_ae (x_var 0) (x_ae (x_var 1) x_a0)))))
  (iss_one (by exact is_stuck))
  iss_nil)))
theorem sc_scenes_of : FnScope N_scenes_of ps_scenes_of (defScope (top 22)) := ⟨rfl, rfl, rfl, by decide +kernel, rfl, by decide +kernel, by decide +kernel⟩
theorem w_scenes_of (F : FunD K "scenes_of" "scenes_of" (defArgs (top 22)) (defBody (top 22)) (defScope (top 22)) [] [] f fd)
    (c_need_hall : CalF P w K mg base 1 "need_hall" ps_need_hall [] m_need_hall)
    (c_need_pattern : CalF P w K mg base 3 "need_pattern" ps_need_pattern [] m_need_pattern) (b_zip : mg "zip" = none) (b_sorted : mg "sorted" = none) (f_hall_values : AtF K mg ["Hall"] "hall_values") :
    FnG P w K mg base 4 f fd ps_scenes_of (spD K mg ps_scenes_of.length m_scenes_of) :=
  fnD_of (N := N_scenes_of) (ps := ps_scenes_of) (Pr := P_scenes_of) (mb := b_scenes_of) F sc_scenes_of fun cdv A outer s H E hr hg =>
  (iss_cons (by exact (x_expr (x_call c_need_hall (hr.mono (by decide)) hg (x_ae (x_var 0) x_a0))))
  (iss_cons (by exact (x_expr (x_call c_need_pattern (hr.mono (by decide)) hg (x_ae (x_var 0) (x_ae (x_var 1) x_a0)))))
  (iss_cons (by exact (x_set 2 sc_scenes_of.nd (ig_lst (by refine (x_lc (ig_tup (by exact il_nil)) ?_); exact il_nil))))
  (iss_cons (by exact (x_for PassesOwn.never (x_zip2 b_zip (by refine (x_lc (ig_path (x_pfld ["Hall"] (x_pv 0) f_hall_values)) ?_); refine (x_lc (x_var 1) ?_); exact il_nil)) (it_tup rfl (its_cons (x_tg 3 sc_scenes_of.nd) (its_cons (x_tg 4 sc_scenes_of.nd) its_nil rfl) rfl) rfl rfl (tsCons_len (tsCons_len tsNil_len)))
  (iss_one (by exact (x_setLc2 (own := [("scene", 5), ("value", 6)]) [6] sc_scenes_of.nd (ii_any (x_var 2)) (by show BlkOk N_scenes_of (defScope (top 22)) _ _; exact ⟨rfl, by decide +kernel, by decide +kernel, by decide +kernel, by decide +kernel⟩) (fun _ _ _ _ _ => (x_tg 5 sc_scenes_of.nd)) (fun _ _ _ _ _ => its0) (fun _ _ _ _ _ => (ii_any (x_var 3))) (fun _ _ _ _ _ => (x_tg 6 sc_scenes_of.nd)) (fun _ _ _ _ _ => (its1 (x_tcmp (br_in (Room.u65 hr)) (x_var 4) (ig_tup (by refine (x_lc ig_str ?_); refine (x_lc (x_var 6) ?_); exact il_nil))))) (fun _ _ _ _ _ => (ig_tup (by refine (x_star (x_var 5) ?_); refine (x_lc (x_var 6) ?_); exact il_nil))))))))
  (iss_one (by exact (is_ret (x_blt (bc_sortA rfl (Room.u65 hr)) b_sorted bo_sorted (by refine (x_lc (x_var 2) ?_); exact il_nil)))))))))
theorem sc__law_pattern : FnScope N__law_pattern ps__law_pattern (defScope (top 32)) := ⟨rfl, rfl, rfl, by decide +kernel, rfl, by decide +kernel, by decide +kernel⟩
theorem w__law_pattern (F : FunD K "_law_pattern" "_law_pattern" (defArgs (top 32)) (defBody (top 32)) (defScope (top 32)) [] [] f fd)
    (c__law_pick : CalF P w K mg base 3 "_law_pick" ps__law_pick [] m__law_pick) (b_tuple : mg "tuple" = none) (b_sorted : mg "sorted" = none) :
    FnG P w K mg base 4 f fd ps__law_pattern (spD K mg ps__law_pattern.length m__law_pattern) :=
  fnD_of (N := N__law_pattern) (ps := ps__law_pattern) (Pr := P__law_pattern) (mb := b__law_pattern) F sc__law_pattern fun cdv A outer s H E hr hg =>
  (iss_one (by exact (is_ret (x_bty bc_tuple b_tuple bo_tuple (by refine (x_lc (x_lcomp (own := [("_law_cell", 2)]) sc__law_pattern.nd (ii_any (x_blt (bc_sortA rfl (Room.u65 hr)) b_sorted bo_sorted (by refine (x_lc (ig_path (x_psub (Room.u65 hr) (x_pv 1) ik_str)) ?_); exact il_nil))) (by show BlkOk N__law_pattern (defScope (top 32)) _ _; exact ⟨rfl, by decide +kernel, by decide +kernel, by decide +kernel, by decide +kernel⟩) (fun _ _ _ _ _ => (x_tg 2 sc__law_pattern.nd)) (fun _ _ _ _ _ => its0) (fun _ _ _ _ _ => (x_call c__law_pick (hr.mono (by decide)) hg (x_av 0 (x_ae (ig_fz (ig_bin br_add (ig_lst (by refine (x_lc ig_str ?_); refine (x_lc ig_str ?_); exact il_nil)) (ig_path (x_psub (Room.u65 hr) (x_psub (Room.u65 hr) (x_pv 1) ik_str) (ik_pur [false, false, true] (x_var 2)))))) x_a0))))) ?_); exact il_nil)))))
theorem sc_met : FnScope N_met ps_met (defScope (top 23)) := ⟨rfl, rfl, rfl, by decide +kernel, rfl, by decide +kernel, by decide +kernel⟩
theorem w_met (F : FunD K "met" "met" (defArgs (top 23)) (defBody (top 23)) (defScope (top 23)) [] [] f fd)
    (c_need_hall : CalF P w K mg base 1 "need_hall" ps_need_hall [] m_need_hall)
    (c_need_pattern : CalF P w K mg base 3 "need_pattern" ps_need_pattern [] m_need_pattern) (b_zip : mg "zip" = none) (b_tuple : mg "tuple" = none) :
    FnG P w K mg base 4 f fd ps_met (spD K mg ps_met.length m_met) :=
  fnD_of (N := N_met) (ps := ps_met) (Pr := P_met) (mb := b_met) F sc_met fun cdv A outer s H E hr hg =>
  (iss_cons (by exact (x_expr (x_call c_need_hall (hr.mono (by decide)) hg (x_ae (x_var 0) x_a0))))
  (iss_cons (by exact (x_expr (x_call c_need_pattern (hr.mono (by decide)) hg (x_ae (x_var 0) (x_ae (x_var 1) x_a0)))))
  (iss_cons (by exact (x_expr (x_call c_need_pattern (hr.mono (by decide)) hg (x_ae (x_var 0) (x_ae (x_var 2) x_a0)))))
  (iss_cons (by exact (is_if (x_tcmp (br_ne (lt64 (Room.u65 hr))) (x_lcomp (own := [("first", 3), ("second", 4)]) sc_met.nd (x_zip2 b_zip (by refine (x_lc (x_var 1) ?_); refine (x_lc (x_var 2) ?_); exact il_nil)) (by show BlkOk N_met (defScope (top 23)) _ _; exact ⟨rfl, by decide +kernel, by decide +kernel, by decide +kernel, by decide +kernel⟩) (fun _ _ _ _ _ => (it_tup rfl (its_cons (x_tg 3 sc_met.nd) (its_cons (x_tg 4 sc_met.nd) its_nil rfl) rfl) rfl rfl (tsCons_len (tsCons_len tsNil_len)))) (fun _ _ _ _ _ => (its1 (it_w (iw_and (x_tcmp (br_notIn (Room.u65 hr)) ig_str (ig_tup (by refine (x_lc (x_var 3) ?_); refine (x_lc (x_var 4) ?_); exact il_nil))) (iw_and1 (x_tcmp (br_ne (lt64 (Room.u65 hr))) (x_var 3) (x_var 4))))))) (fun _ _ _ _ _ => ig_int)) (ig_lst (by exact il_nil)))
  (iss_one (by exact (is_ret ig_non)))
  iss_nil))
  (iss_one (by exact (is_ret (x_bty bc_tuple b_tuple bo_tuple (by refine (x_lc (x_lcomp (own := [("first", 3), ("second", 4)]) sc_met.nd (x_zip2 b_zip (by refine (x_lc (x_var 1) ?_); refine (x_lc (x_var 2) ?_); exact il_nil)) (by show BlkOk N_met (defScope (top 23)) _ _; exact ⟨rfl, by decide +kernel, by decide +kernel, by decide +kernel, by decide +kernel⟩) (fun _ _ _ _ _ => (it_tup rfl (its_cons (x_tg 3 sc_met.nd) (its_cons (x_tg 4 sc_met.nd) its_nil rfl) rfl) rfl rfl (tsCons_len (tsCons_len tsNil_len)))) (fun _ _ _ _ _ => its0) (fun _ _ _ _ _ => (ig_if (x_tcmp (br_ne (lt64 (Room.u65 hr))) (x_var 3) ig_str) (x_var 3) (x_var 4)))) ?_); exact il_nil)))))))))
theorem sc__law_near : FnScope N__law_near ps__law_near (defScope (top 36)) := ⟨rfl, rfl, rfl, by decide +kernel, rfl, by decide +kernel, by decide +kernel⟩
theorem w__law_near (F : FunD K "_law_near" "_law_near" (defArgs (top 36)) (defBody (top 36)) (defScope (top 36)) [] [] f fd)
    (c__law_take : CalF P w K mg base 2 "_law_take" ps__law_take [] m__law_take)
    (c__law_pick : CalF P w K mg base 3 "_law_pick" ps__law_pick [] m__law_pick) (b_len : mg "len" = none) (b_list : mg "list" = none) (b_sorted : mg "sorted" = none) :
    FnG P w K mg base 4 f fd ps__law_near (spD K mg ps__law_near.length m__law_near) :=
  fnD_of (N := N__law_near) (ps := ps__law_near) (Pr := P__law_near) (mb := b__law_near) F sc__law_near fun cdv A outer s H E hr hg =>
  (iss_cons (by exact (is_par (es := []) (i := 3) (j := 4) rfl rfl rfl sc__law_near.nd rfl rfl (by decide) rfl rfl (by refine (x_lc (x_call c__law_take (hr.mono (by decide)) hg (x_av 0 (x_ae (x_blt bc_len b_len bo_len (by refine (x_lc (x_var 2) ?_); exact il_nil)) x_a0))) ?_); refine (x_lc (x_call c__law_take (hr.mono (by decide)) hg (x_av 0 (x_ae ig_int x_a0))) ?_); exact il_nil) rfl rfl))
  (iss_cons (by exact (is_if (x_tcmp (br_eq (lt64 (Room.u65 hr))) (x_var 4) ig_int)
  (iss_one (by exact (is_ret (x_bty bc_list b_list bo_list (by refine (x_lc (x_var 2) ?_); exact il_nil)))))
  iss_nil))
  (iss_cons (by exact (is_if (x_tcmp (br_eq (lt64 (Room.u65 hr))) (x_var 4) ig_int)
  (iss_one (by exact (is_ret (ig_bin br_add (x_var 2) (ig_slice (x_var 2) io_none (io_some ig_int))))))
  iss_nil))
  (iss_cons (by exact (is_if (x_tcmp (br_eq (lt64 (Room.u65 hr))) (x_var 4) ig_int)
  (iss_one (by exact (is_ret (ig_slice (x_var 2) (io_some ig_int) io_none))))
  iss_nil))
  (iss_cons (by exact (is_if (x_tcmp (br_eq (lt64 (Room.u65 hr))) (x_var 4) ig_int)
  (iss_one (by exact (is_ret (x_call c__law_pick (hr.mono (by decide)) hg (x_av 0 (x_ae (ig_fz (ig_lst (by refine (x_lc ig_non ?_); refine (x_lc ig_int ?_); refine (x_lc ig_str ?_); refine (x_lc ig_str ?_); refine (x_lc (ig_tup (by exact il_nil)) ?_); refine (x_lc ig_dnew ?_); refine (x_lc ig_bl ?_); refine (x_lc (ig_lst (by refine (x_lc (x_var 2) ?_); exact il_nil)) ?_); exact il_nil))) x_a0))))))
  iss_nil))
  (iss_cons (by exact (x_set 5 sc__law_near.nd (x_ix (Room.u65 hr) (ig_path (x_psub (Room.u65 hr) (x_pv 1) ik_str)) (x_call c__law_pick (hr.mono (by decide)) hg (x_av 0 (x_ae (ig_fz (x_blt (bc_sortA rfl (Room.u65 hr)) b_sorted bo_sorted (by refine (x_lc (ig_path (x_psub (Room.u65 hr) (x_pv 1) ik_str)) ?_); exact il_nil))) x_a0))))))
  (iss_cons (by exact (x_set 6 sc__law_near.nd (x_call c__law_pick (hr.mono (by decide)) hg (x_av 0 (x_ae (ig_fz (ig_bin br_add (ig_lst (by refine (x_lc ig_str ?_); refine (x_lc ig_str ?_); refine (x_lc ig_non ?_); refine (x_lc ig_int ?_); refine (x_lc (ig_tup (by refine (x_lc ig_str ?_); exact il_nil)) ?_); refine (x_lc ig_bl ?_); refine (x_lc (ig_lst (by exact il_nil)) ?_); refine (x_lc ig_dnew ?_); refine (x_lc (ig_lst (by refine (x_lc (ig_lst (by refine (x_lc ig_str ?_); exact il_nil)) ?_); exact il_nil)) ?_); exact il_nil)) (x_var 5))) x_a0)))))
  (iss_one (by exact (is_ret (ig_bin br_add (ig_bin br_add (ig_slice (x_var 2) io_none (io_some (x_var 3))) (ig_tup (by refine (x_lc (x_var 6) ?_); exact il_nil))) (ig_slice (x_var 2) (io_some (ig_bin br_add (x_var 3) ig_int)) io_none))))))))))))
theorem sc__law_is_like : FnScope N__law_is_like ps__law_is_like (defScope (top 37)) := ⟨rfl, rfl, rfl, by decide +kernel, rfl, by decide +kernel, by decide +kernel⟩
theorem w__law_is_like (F : FunD K "_law_is_like" "_law_is_like" (defArgs (top 37)) (defBody (top 37)) (defScope (top 37)) [] [] f fd) (b_isinstance : mg "isinstance" = none) (b_tuple : mg "tuple" = none) (b_len : mg "len" = none) (b_zip : mg "zip" = none) (b_sorted : mg "sorted" = none) (b_str : mg "str" = none) (hCT : ClsT K mg ct) :
    FnG P w K mg base 1 f fd ps__law_is_like (spD K mg ps__law_is_like.length m__law_is_like) :=
  fnD_of (N := N__law_is_like) (ps := ps__law_is_like) (Pr := P__law_is_like) (mb := b__law_is_like) F sc__law_is_like fun cdv A outer s H E hr hg =>
  (iss_cons (by exact (is_if (it_w (iw_or (it_not (x_val (x_blt (bc_isO hCT) b_isinstance bo_isinstance (by refine (x_lc (x_var 1) ?_); refine (x_lc (x_ty .tup b_tuple bo_tuple) ?_); exact il_nil)))) (iw_or1 (x_tcmp (br_ne (lt64 (Room.u65 hr))) (x_blt bc_len b_len bo_len (by refine (x_lc (x_var 1) ?_); exact il_nil)) (x_blt bc_len b_len bo_len (by refine (x_lc (ig_path (x_psub (Room.u65 hr) (x_pv 0) ik_str)) ?_); exact il_nil))))))
  (iss_one (by exact (is_ret ig_bl)))
  iss_nil))
  (iss_cons (by exact (x_for PassesOwn.never (x_zip2 b_zip (by refine (x_lc (x_blt (bc_sortA rfl (Room.u65 hr)) b_sorted bo_sorted (by refine (x_lc (ig_path (x_psub (Room.u65 hr) (x_pv 0) ik_str)) ?_); exact il_nil)) ?_); refine (x_lc (x_var 1) ?_); exact il_nil)) (it_tup rfl (its_cons (x_tg 3 sc__law_is_like.nd) (its_cons (x_tg 4 sc__law_is_like.nd) its_nil rfl) rfl) rfl rfl (tsCons_len (tsCons_len tsNil_len)))
  (iss_one (by exact (is_if (it_w (iw_or (it_not (x_val (x_blt (bc_isO hCT) b_isinstance bo_isinstance (by refine (x_lc (x_var 4) ?_); refine (x_lc (x_ty .str b_str bo_str) ?_); exact il_nil)))) (iw_or1 (x_tcmp (br_notIn (Room.u65 hr)) (x_var 4) (ig_bin br_add (ig_path (x_psub (Room.u65 hr) (x_psub (Room.u65 hr) (x_pv 0) ik_str) (ik_pur [false, false, false, true] (x_var 3)))) (x_var 2))))))
  (iss_one (by exact (is_ret ig_bl)))
  iss_nil)))))
  (iss_one (by exact (is_ret ig_bl)))))
theorem sc_is_scene : FnScope N_is_scene ps_is_scene (defScope (top 16)) := ⟨rfl, rfl, rfl, by decide +kernel, rfl, by decide +kernel, by decide +kernel⟩
theorem w_is_scene (F : FunD K "is_scene" "is_scene" (defArgs (top 16)) (defBody (top 16)) (defScope (top 16)) [] [] f fd)
    (c_need_hall : CalF P w K mg base 1 "need_hall" ps_need_hall [] m_need_hall)
    (c_has_items : CalF P w K mg base 1 "has_items" ps_has_items [] m_has_items)
    (c_is_value_of : CalF P w K mg base 1 "is_value_of" ps_is_value_of [] m_is_value_of) (b_all : mg "all" = none) (b_enumerate : mg "enumerate" = none) :
    FnG P w K mg base 2 f fd ps_is_scene (spD K mg ps_is_scene.length m_is_scene) :=
  fnD_of (N := N_is_scene) (ps := ps_is_scene) (Pr := P_is_scene) (mb := b_is_scene) F sc_is_scene fun cdv A outer s H E hr hg =>
  (iss_cons (by exact (x_expr (x_call c_need_hall (hr.mono (by decide)) hg (x_ae (x_var 0) x_a0))))
  (iss_one (by exact (is_ret (ig_and (x_call c_has_items (hr.mono (by decide)) hg (x_ae (x_var 0) (x_ae (x_var 1) x_a0))) (ig_one (x_blt (bc_all rfl) b_all bo_all (by refine (x_lc (x_lcomp (own := [("at", 2), ("value", 3)]) sc_is_scene.nd (x_enum2 b_enumerate (by refine (x_lc (x_var 1) ?_); exact il_nil)) (by show BlkOk N_is_scene (defScope (top 16)) _ _; exact ⟨rfl, by decide +kernel, by decide +kernel, by decide +kernel, by decide +kernel⟩) (fun _ _ _ _ _ => (it_tup rfl (its_cons (x_tg 2 sc_is_scene.nd) (its_cons (x_tg 3 sc_is_scene.nd) its_nil rfl) rfl) rfl rfl (tsCons_len (tsCons_len tsNil_len)))) (fun _ _ _ _ _ => its0) (fun _ _ _ _ _ => (x_call c_is_value_of (hr.mono (by decide)) hg (x_ae (x_var 0) (x_ae (x_var 2) (x_ae (x_var 3) x_a0)))))) ?_); exact il_nil))))))))
theorem sc_need_scene : FnScope N_need_scene ps_need_scene (defScope (top 18)) := ⟨rfl, rfl, rfl, by decide +kernel, rfl, by decide +kernel, by decide +kernel⟩
theorem w_need_scene (F : FunD K "need_scene" "need_scene" (defArgs (top 18)) (defBody (top 18)) (defScope (top 18)) [] [] f fd)
    (c_is_scene : CalF P w K mg base 2 "is_scene" ps_is_scene [] m_is_scene) :
    FnG P w K mg base 3 f fd ps_need_scene (spD K mg ps_need_scene.length m_need_scene) :=
  fnD_of (N := N_need_scene) (ps := ps_need_scene) (Pr := P_need_scene) (mb := b_need_scene) F sc_need_scene fun cdv A outer s H E hr hg =>
  (iss_one (by exact (is_if (it_not (x_val (x_call c_is_scene (hr.mono (by decide)) hg (x_ae (x_var 0) (x_ae (x_var 1) x_a0)))))
  (iss_one (by exact is_stuck))
  iss_nil)))
theorem sc_is_fit : FnScope N_is_fit ps_is_fit (defScope (top 20)) := ⟨rfl, rfl, rfl, by decide +kernel, rfl, by decide +kernel, by decide +kernel⟩
theorem w_is_fit (F : FunD K "is_fit" "is_fit" (defArgs (top 20)) (defBody (top 20)) (defScope (top 20)) [] [] f fd) (b_all : mg "all" = none) (b_zip : mg "zip" = none) :
    FnG P w K mg base 1 f fd ps_is_fit (spD K mg ps_is_fit.length m_is_fit) :=
  fnD_of (N := N_is_fit) (ps := ps_is_fit) (Pr := P_is_fit) (mb := b_is_fit) F sc_is_fit fun cdv A outer s H E hr hg =>
  (iss_one (by exact (is_ret (x_blt (bc_all rfl) b_all bo_all (by refine (x_lc (x_lcomp (own := [("value", 2), ("want", 3)]) sc_is_fit.nd (x_zip2 b_zip (by refine (x_lc (x_var 0) ?_); refine (x_lc (x_var 1) ?_); exact il_nil)) (by show BlkOk N_is_fit (defScope (top 20)) _ _; exact ⟨rfl, by decide +kernel, by decide +kernel, by decide +kernel, by decide +kernel⟩) (fun _ _ _ _ _ => (it_tup rfl (its_cons (x_tg 2 sc_is_fit.nd) (its_cons (x_tg 3 sc_is_fit.nd) its_nil rfl) rfl) rfl rfl (tsCons_len (tsCons_len tsNil_len)))) (fun _ _ _ _ _ => its0) (fun _ _ _ _ _ => (x_cmp (br_in (Room.u65 hr)) (x_var 3) (ig_tup (by refine (x_lc ig_str ?_); refine (x_lc (x_var 2) ?_); exact il_nil))))) ?_); exact il_nil)))))
theorem sc_fits : FnScope N_fits ps_fits (defScope (top 21)) := ⟨rfl, rfl, rfl, by decide +kernel, rfl, by decide +kernel, by decide +kernel⟩
theorem w_fits (F : FunD K "fits" "fits" (defArgs (top 21)) (defBody (top 21)) (defScope (top 21)) [] [] f fd)
    (c_need_hall : CalF P w K mg base 1 "need_hall" ps_need_hall [] m_need_hall)
    (c_need_scene : CalF P w K mg base 3 "need_scene" ps_need_scene [] m_need_scene)
    (c_need_pattern : CalF P w K mg base 3 "need_pattern" ps_need_pattern [] m_need_pattern)
    (c_is_fit : CalF P w K mg base 1 "is_fit" ps_is_fit [] m_is_fit) :
    FnG P w K mg base 4 f fd ps_fits (spD K mg ps_fits.length m_fits) :=
  fnD_of (N := N_fits) (ps := ps_fits) (Pr := P_fits) (mb := b_fits) F sc_fits fun cdv A outer s H E hr hg =>
  (iss_cons (by exact (x_expr (x_call c_need_hall (hr.mono (by decide)) hg (x_ae (x_var 0) x_a0))))
  (iss_cons (by exact (x_expr (x_call c_need_scene (hr.mono (by decide)) hg (x_ae (x_var 0) (x_ae (x_var 1) x_a0)))))
  (iss_cons (by exact (x_expr (x_call c_need_pattern (hr.mono (by decide)) hg (x_ae (x_var 0) (x_ae (x_var 2) x_a0)))))
  (iss_one (by exact (is_ret (x_call c_is_fit (hr.mono (by decide)) hg (x_ae (x_var 1) (x_ae (x_var 2) x_a0)))))))))
theorem sc_law : FnScope N_law ps_law (defScope (top 38)) := ⟨rfl, rfl, rfl, by decide +kernel, rfl, by decide +kernel, by decide +kernel⟩
theorem w_law (F : FunD K "law" "law" (defArgs (top 38)) (defBody (top 38)) (defScope (top 38)) [] [] f fd)
    (c__law_begun : CalF P w K mg base 1 "_law_begun" ps__law_begun [] m__law_begun)
    (c__law_cells : CalF P w K mg base 6 "_law_cells" ps__law_cells [] m__law_cells)
    (c__law_take : CalF P w K mg base 2 "_law_take" ps__law_take [] m__law_take)
    (c__law_hall : CalF P w K mg base 5 "_law_hall" ps__law_hall [] m__law_hall)
    (c__law_all_scenes : CalF P w K mg base 1 "_law_all_scenes" ps__law_all_scenes [] m__law_all_scenes)
    (c__law_pick : CalF P w K mg base 3 "_law_pick" ps__law_pick [] m__law_pick)
    (c__law_pattern : CalF P w K mg base 4 "_law_pattern" ps__law_pattern [] m__law_pattern)
    (c__law_does_fit : CalF P w K mg base 1 "_law_does_fit" ps__law_does_fit [] m__law_does_fit)
    (c_fits : CalF P w K mg base 4 "fits" ps_fits [] m_fits)
    (c_scenes_of : CalF P w K mg base 4 "scenes_of" ps_scenes_of [] m_scenes_of)
    (c_met : CalF P w K mg base 4 "met" ps_met [] m_met)
    (c_is_pattern : CalF P w K mg base 2 "is_pattern" ps_is_pattern [] m_is_pattern)
    (c__law_near : CalF P w K mg base 4 "_law_near" ps__law_near [] m__law_near)
    (c__law_is_like : CalF P w K mg base 1 "_law_is_like" ps__law_is_like [] m__law_is_like)
    (c_is_scene : CalF P w K mg base 2 "is_scene" ps_is_scene [] m_is_scene)
    (k_fits_0_pattern_scene_hall : CalK P w K mg base 4 "fits" ps_fits m_fits 0 ["pattern", "scene", "hall"] [2, 1, 0])
    (k_scenes_of_0_pattern_hall : CalK P w K mg base 4 "scenes_of" ps_scenes_of m_scenes_of 0 ["pattern", "hall"] [1, 0])
    (k_met_0_other_one_hall : CalK P w K mg base 4 "met" ps_met m_met 0 ["other", "one", "hall"] [2, 1, 0])
    (k_is_scene_0_thing_hall : CalK P w K mg base 2 "is_scene" ps_is_scene m_is_scene 0 ["thing", "hall"] [1, 0])
    (k_is_pattern_0_thing_hall : CalK P w K mg base 2 "is_pattern" ps_is_pattern m_is_pattern 0 ["thing", "hall"] [1, 0]) (b_range : mg "range" = none) (b_min : mg "min" = none) (b_len : mg "len" = none) (b_repr : mg "repr" = none) (hS : SysD K) :
    FnG P w K mg base 7 f fd ps_law (spD K mg ps_law.length m_law) :=
  fnD_of (N := N_law) (ps := ps_law) (Pr := P_law) (mb := b_law) F sc_law fun cdv A outer s H E hr hg =>
  (iss_cons (by exact (x_set 1 sc_law.nd (x_call c__law_begun (hr.mono (by decide)) hg (x_ae (x_var 0) x_a0))))
  (iss_cons (by exact (x_for PassesOwn.never (x_rng1 b_range (by refine (x_lc (ig_bin br_add ig_int (x_blt (bc_min2 rfl) b_min bo_min (by refine (x_lc (x_blt bc_len b_len bo_len (by refine (x_lc (x_var 0) ?_); exact il_nil)) ?_); refine (x_lc ig_int ?_); exact il_nil))) ?_); exact il_nil)) (x_tg 2 sc_law.nd)
  (iss_cons (by exact (x_set 3 sc_law.nd (ig_disp (ips_cons ig_str (x_call c__law_cells (hr.mono (by decide)) hg (x_av 1 (x_ae (ig_fz (ig_bin br_add ig_int (x_call c__law_take (hr.mono (by decide)) hg (x_av 1 (x_ae ig_int x_a0))))) (x_ae ig_int x_a0)))) ips_nil) rfl rfl nofun (by decide))))
  (iss_cons (by exact (is_par (es := []) (i := 5) (j := 6) rfl rfl rfl sc_law.nd rfl rfl (by decide) rfl rfl (by refine (x_lc (x_call c__law_hall (hr.mono (by decide)) hg (x_ae (x_var 3) x_a0)) ?_); refine (x_lc (x_call c__law_all_scenes (hr.mono (by decide)) hg (x_ae (x_var 3) x_a0)) ?_); exact il_nil) rfl rfl))
  (iss_one (by exact (x_for PassesOwn.never (x_rng1 b_range (by refine (x_lc ig_int ?_); exact il_nil)) (x_tg 4 sc_law.nd)
  (iss_cons (by exact (is_asg (ig_tup (by refine (x_lc (x_call c__law_pick (hr.mono (by decide)) hg (x_av 1 (x_ae (x_var 6) x_a0))) ?_); refine (x_lc (x_call c__law_pattern (hr.mono (by decide)) hg (x_av 1 (x_ae (x_var 3) x_a0))) ?_); refine (x_lc (x_call c__law_pattern (hr.mono (by decide)) hg (x_av 1 (x_ae (x_var 3) x_a0))) ?_); exact il_nil)) (it_tup rfl (its_cons (x_tg 11 sc_law.nd) (its_cons (x_tg 12 sc_law.nd) (its_cons (x_tg 13 sc_law.nd) its_nil rfl) rfl) rfl) rfl rfl (tsCons_len (tsCons_len (tsCons_len tsNil_len)))) (by decide) rfl rfl rfl))
  (iss_cons (by exact (x_set 7 sc_law.nd (x_call c__law_does_fit (hr.mono (by decide)) hg (x_ae (x_var 11) (x_ae (x_var 12) x_a0)))))
  (iss_cons (by exact (is_if (x_tcmp (br_ne (lt64 (Room.u65 hr))) (x_blt (bc_repr hS hg (Room.u65 hr)) b_repr bo_repr (by refine (x_lc (ig_lst (by refine (x_lc (x_call c_fits (hr.mono (by decide)) hg (x_ae (x_var 5) (x_ae (x_var 11) (x_ae (x_var 12) x_a0)))) ?_); refine (x_lc (x_callK0 [2, 1, 0] k_fits_0_pattern_scene_hall (hr.mono (by decide)) hg (iak_e (x_var 12) (iak_e (x_var 11) (iak_e (x_var 5) iak_nil)))) ?_); exact il_nil)) ?_); exact il_nil)) (x_blt (bc_repr hS hg (Room.u65 hr)) b_repr bo_repr (by refine (x_lc (ig_lst (by refine (x_lc (x_var 7) ?_); refine (x_lc (x_var 7) ?_); exact il_nil)) ?_); exact il_nil)))
  (iss_one (by exact (is_ret ig_bl)))
  iss_nil))
  (iss_cons (by exact (x_setLcA (own := [("_law_each", 16)]) sc_law.nd (ii_any (x_var 6)) (x_pv 6) (by show BlkOk N_law (defScope (top 38)) _ _; exact ⟨rfl, by decide +kernel, by decide +kernel, by decide +kernel, by decide +kernel⟩) (fun _ _ _ _ _ => (x_tg 16 sc_law.nd)) (fun _ _ _ _ _ => (its1 (x_val (x_call c__law_does_fit (hr.mono (by decide)) hg (x_ae (x_var 16) (x_ae (x_var 12) x_a0)))))) (fun _ _ _ _ _ => (x_var 16))))
  (iss_cons (by exact (x_set 9 sc_law.nd (x_call c_scenes_of (hr.mono (by decide)) hg (x_ae (x_var 5) (x_ae (x_var 12) x_a0)))))
  (iss_cons (by exact (is_if (it_pur [false, false, false, false, false, false, false, false, true, true] (x_tcmp (br_ne (lt64 (Room.u65 hr))) (ig_pur [false, false, false, false, false, false, false, false, false, true] (x_blt (bc_repr hS hg (Room.u65 hr)) b_repr bo_repr (by refine (x_lc (x_var 9) ?_); exact il_nil))) (x_blt (bc_repr hS hg (Room.u65 hr)) b_repr bo_repr (by refine (x_lc (x_var 8) ?_); exact il_nil))))
  (iss_one (by exact (is_ret ig_bl)))
  iss_nil))
  (iss_cons (by exact (x_expr (x_meth 9 PySem.F.plainAttrs_list PySem.F.slot_list_append PySem.F.type_list_append mb_append (by refine (x_lc ig_non ?_); exact il_nil))))
  (iss_cons (by exact (is_if (x_tcmp (br_ne (lt64 (Room.u65 hr))) (x_blt (bc_repr hS hg (Room.u65 hr)) b_repr bo_repr (by refine (x_lc (x_callK0 [1, 0] k_scenes_of_0_pattern_hall (hr.mono (by decide)) hg (iak_e (x_var 12) (iak_e (x_var 5) iak_nil))) ?_); exact il_nil)) (x_blt (bc_repr hS hg (Room.u65 hr)) b_repr bo_repr (by refine (x_lc (x_var 8) ?_); exact il_nil)))
  (iss_one (by exact (is_ret ig_bl)))
  iss_nil))
  (iss_cons (by exact (is_par (es := []) (i := 14) (j := 15) rfl rfl rfl sc_law.nd rfl rfl (by decide) rfl rfl (by refine (x_lc (x_lcompA (own := [("_law_each", 16)]) sc_law.nd (ii_any (x_var 8)) (x_pv 8) (by show BlkOk N_law (defScope (top 38)) _ _; exact ⟨rfl, by decide +kernel, by decide +kernel, by decide +kernel, by decide +kernel⟩) (fun _ _ _ _ _ => (x_tg 16 sc_law.nd)) (fun _ _ _ _ _ => (its1 (x_val (x_call c__law_does_fit (hr.mono (by decide)) hg (x_ae (x_var 16) (x_ae (x_var 13) x_a0)))))) (fun _ _ _ _ _ => (x_var 16))) ?_); refine (x_lc (x_call c_met (hr.mono (by decide)) hg (x_ae (x_var 5) (x_ae (x_var 12) (x_ae (x_var 13) x_a0)))) ?_); exact il_nil) rfl rfl))
  (iss_cons (by exact (is_if (it_w (iw_or (x_tcmp (br_ne (lt64 (Room.u65 hr))) (x_cmp br_is (x_var 15) ig_non) (x_cmp (br_eq (lt64 (Room.u65 hr))) (x_var 14) (ig_lst (by exact il_nil)))) (iw_or1 (x_tcmp (br_ne (lt64 (Room.u65 hr))) (x_blt (bc_repr hS hg (Room.u65 hr)) b_repr bo_repr (by refine (x_lc (x_callK0 [2, 1, 0] k_met_0_other_one_hall (hr.mono (by decide)) hg (iak_e (x_var 13) (iak_e (x_var 12) (iak_e (x_var 5) iak_nil)))) ?_); exact il_nil)) (x_blt (bc_repr hS hg (Room.u65 hr)) b_repr bo_repr (by refine (x_lc (x_var 15) ?_); exact il_nil))))))
  (iss_one (by exact (is_ret ig_bl)))
  iss_nil))
  (iss_cons (by exact (is_if (it_w (iw_and (x_tcmp br_isNot (x_var 15) ig_non) (iw_and1 (it_w (iw_or (it_not (x_val (x_call c_is_pattern (hr.mono (by decide)) hg (x_ae (x_var 5) (x_ae (x_var 15) x_a0))))) (iw_or1 (x_tcmp (br_ne (lt64 (Room.u65 hr))) (x_call c_scenes_of (hr.mono (by decide)) hg (x_ae (x_var 5) (x_ae (x_var 15) x_a0))) (x_var 14))))))))
  (iss_one (by exact (is_ret ig_bl)))
  iss_nil))
  (iss_one (by exact (x_for PassesOwn.never (ii_any (ig_lst (by refine (x_lc (x_call c__law_near (hr.mono (by decide)) hg (x_av 1 (x_ae (x_var 3) (x_ae (ig_fz (x_call c__law_pick (hr.mono (by decide)) hg (x_av 1 (x_ae (ig_fz (ig_lst (by refine (x_lc (x_var 11) ?_); refine (x_lc (x_var 12) ?_); exact il_nil))) x_a0)))) x_a0)))) ?_); refine (x_lc (x_var 11) ?_); refine (x_lc (x_var 12) ?_); exact il_nil))) (x_tg 10 sc_law.nd)
  (iss_cons (by exact (x_set 8 sc_law.nd (ig_lst (by refine (x_lc (x_call c__law_is_like (hr.mono (by decide)) hg (x_ae (x_var 3) (x_ae (x_var 10) (x_ae (ig_fz (ig_lst (by exact il_nil))) x_a0)))) ?_); refine (x_lc (x_call c__law_is_like (hr.mono (by decide)) hg (x_ae (x_var 3) (x_ae (x_var 10) (x_ae (ig_fz (ig_lst (by refine (x_lc ig_str ?_); exact il_nil))) x_a0)))) ?_); exact il_nil))))
  (iss_cons (by exact (is_if (x_tcmp (br_ne (lt64 (Room.u65 hr))) (x_blt (bc_repr hS hg (Room.u65 hr)) b_repr bo_repr (by refine (x_lc (ig_lst (by refine (x_lc (x_callK0 [1, 0] k_is_scene_0_thing_hall (hr.mono (by decide)) hg (iak_e (x_var 10) (iak_e (x_var 5) iak_nil))) ?_); refine (x_lc (x_callK0 [1, 0] k_is_pattern_0_thing_hall (hr.mono (by decide)) hg (iak_e (x_var 10) (iak_e (x_var 5) iak_nil))) ?_); exact il_nil)) ?_); exact il_nil)) (x_blt (bc_repr hS hg (Room.u65 hr)) b_repr bo_repr (by refine (x_lc (x_var 8) ?_); exact il_nil)))
  (iss_one (by exact (is_ret ig_bl)))
  iss_nil))
  (iss_one (by exact (is_if (x_tcmp (br_ne (lt64 (Room.u65 hr))) (x_blt (bc_repr hS hg (Room.u65 hr)) b_repr bo_repr (by refine (x_lc (ig_lst (by refine (x_lc (x_call c_is_scene (hr.mono (by decide)) hg (x_ae (x_var 5) (x_ae (x_var 10) x_a0))) ?_); refine (x_lc (x_call c_is_pattern (hr.mono (by decide)) hg (x_ae (x_var 5) (x_ae (x_var 10) x_a0))) ?_); exact il_nil)) ?_); exact il_nil)) (x_blt (bc_repr hS hg (Room.u65 hr)) b_repr bo_repr (by refine (x_lc (x_var 8) ?_); exact il_nil)))
  (iss_one (by exact (is_ret ig_bl)))
  iss_nil))))))))))))))))))))))))))
  (iss_one (by exact (is_ret ig_bl)))))
end
end K03
set_option Elab.async false
set_option linter.all false
set_option maxRecDepth 100000
set_option maxHeartbeats 0
namespace K03
open PySem PySem.Spec PyProof.Rows L2 DL
def dd (x : Str) (i : Nat) : He.DefD := ⟨(x, none), x, x, defArgs (top i), defBody (top i), defScope (top i), [], []⟩
def dm (c m q : Str) (i j : Nat) : He.DefD := ⟨(c, some m), m, q, defArgs (mst i j), defBody (mst i j), defScope (mst i j), [], []⟩
def fn : List He.DefD := [dd "_law_begun" 25, dd "_law_mixed" 26, dd "_law_take" 27, dd "_law_pick" 28, dd "_law_word" 29, dd "_law_labels" 30, dd "_law_cells" 31, dd "is_name" 7, dd "is_list" 8, dd "are_different" 9, dd "are_values" 11, dm "Hall" "__init__" "Hall.__init__" 12 0, dd "_law_hall" 33, dd "_law_all_scenes" 35, dd "_law_does_fit" 34, dd "need_hall" 13, dd "has_items" 15, dd "is_value_of" 14, dd "is_pattern" 17, dd "need_pattern" 19, dd "scenes_of" 22, dd "_law_pattern" 32, dd "met" 23, dd "_law_near" 36, dd "_law_is_like" 37, dd "is_scene" 16, dd "need_scene" 18, dd "is_fit" 20, dd "fits" 21, dd "law" 38]
def fa : List He.Fa := [.glo "_law_begun", .glo "_law_mixed", .glo "_law_take", .glo "_law_pick", .glo "_law_word", .glo "_law_labels", .glo "_law_cells", .glo "is_name", .glo "is_list", .glo "are_different", .glo "are_values", .glo "_law_hall", .glo "_law_all_scenes", .glo "_law_does_fit", .glo "need_hall", .glo "has_items", .glo "is_value_of", .glo "is_pattern", .glo "need_pattern", .glo "scenes_of", .glo "_law_pattern", .glo "met", .glo "_law_near", .glo "_law_is_like", .glo "is_scene", .glo "need_scene", .glo "is_fit", .glo "fits", .glo "law", .free "abs", .free "int", .free "len", .free "range", .free "isinstance", .free "str", .free "all", .free "list", .free "tuple", .free "enumerate", .free "dict", .free "sorted", .free "zip", .free "min", .free "repr", .str "LETTERS" "abcdefghijklmnopqrstuvwxyz", .glo "Hall", .cls "Hall", .mkr "Hall", .noat "Hall" "names", .noat "Hall" "hall_values", .noat "Hall" "first"]
def ex (K : PySem.W.Frag) : Bool := clsTB K ct && (true)
abbrev R : PySem.W.OpenRow := PySem.W.OpenLaw.row PySem.Challenge.rw_farkeepers_k03_scenes_and_patterns
abbrev hk : PySem.W.Hook := hookS 4 fa fn ex
def ob (s : PySem.W.SharedT) : AlS := obsS 4 fa fn ex (HandSHeadRun.getT s)
theorem ob_eq (s : PySem.W.SharedT) : ob s = hk.obs s.abs := obsS_eq (HandSHeadRun.getT_eq s)
def names : List Str := (["FarError", "BadHall", "BadScene", "BadPattern", "LETTERS", "is_name", "is_list", "are_different", "are_values", "Hall", "need_hall", "is_value_of", "has_items", "is_scene", "is_pattern", "need_scene", "need_pattern", "is_fit", "fits", "scenes_of", "met", "_law_begun", "_law_mixed", "_law_take", "_law_pick"] : List Str) ++ (["_law_word", "_law_labels", "_law_cells", "_law_pattern", "_law_hall", "_law_does_fit", "_law_all_scenes", "_law_near", "_law_is_like"] : List Str)
theorem run (w : World) : HandSHeadRun.RunEq R (PySem.W.view R.prog [38]) hk ob 6000 names w := by
  intro os
  kernel_rfl
theorem facts {P : Program} {w : World} {K : PySem.W.Frag} {h : Heap} {mg : Str → Option Value} {f : Addr} (X : K.In h) (G : h.Ns mainGlobals mg) (hfa : mg ("law" : Str) = some (.ref f)) (c : SaysS fa fn ex K) :
    ∃ fd : FuncData, (∀ (s : Shared) (v : Value), BindsTo s fd ⟨[v], []⟩ [("_law_script", v)]) ∧ ∀ base : Heap, K.In base → base.Ns mainGlobals mg → FnG P w K mg base 7 f fd ["_law_script"] (spD K mg 1 m_law) := by
  have hS : SysD K := c.sys
  have b_abs : mg "abs" = none := He.free_ok X G (c.old.fact 29 (f := .free "abs") rfl)
  have b_int : mg "int" = none := He.free_ok X G (c.old.fact 30 (f := .free "int") rfl)
  have b_len : mg "len" = none := He.free_ok X G (c.old.fact 31 (f := .free "len") rfl)
  have b_range : mg "range" = none := He.free_ok X G (c.old.fact 32 (f := .free "range") rfl)
  have b_isinstance : mg "isinstance" = none := He.free_ok X G (c.old.fact 33 (f := .free "isinstance") rfl)
  have b_str : mg "str" = none := He.free_ok X G (c.old.fact 34 (f := .free "str") rfl)
  have b_all : mg "all" = none := He.free_ok X G (c.old.fact 35 (f := .free "all") rfl)
  have b_list : mg "list" = none := He.free_ok X G (c.old.fact 36 (f := .free "list") rfl)
  have b_tuple : mg "tuple" = none := He.free_ok X G (c.old.fact 37 (f := .free "tuple") rfl)
  have b_enumerate : mg "enumerate" = none := He.free_ok X G (c.old.fact 38 (f := .free "enumerate") rfl)
  have b_dict : mg "dict" = none := He.free_ok X G (c.old.fact 39 (f := .free "dict") rfl)
  have b_sorted : mg "sorted" = none := He.free_ok X G (c.old.fact 40 (f := .free "sorted") rfl)
  have b_zip : mg "zip" = none := He.free_ok X G (c.old.fact 41 (f := .free "zip") rfl)
  have b_min : mg "min" = none := He.free_ok X G (c.old.fact 42 (f := .free "min") rfl)
  have b_repr : mg "repr" = none := He.free_ok X G (c.old.fact 43 (f := .free "repr") rfl)
  have hext := (He.ba c.ext)
  have g_LETTERS : GlD K mg "LETTERS" (.str "abcdefghijklmnopqrstuvwxyz") := gl_str X G (c.old.fact 44 (f := .str "LETTERS" "abcdefghijklmnopqrstuvwxyz") rfl)
  have g_Hall : GlD K mg "Hall" (.glo "Hall") := gl_cls (He.glo_ok X G (c.old.fact 45 (f := .glo "Hall") rfl))
  have gc_Hall := He.glo_ok X G (c.old.fact 45 (f := .glo "Hall") rfl)
  have cc_Hall := He.cls_ok (c.old.fact 46 (f := .cls "Hall") rfl)
  have hCT : ClsT K mg ct := clsT_of X G hext.1 (fun p hp => by
    rcases List.mem_cons.mp hp with rfl | hp
    · exact gc_Hall
    cases hp)
  have f_names : AtF K mg ["Hall"] "names" := (atF_cons gc_Hall cc_Hall (He.noat_ok (c.old.fact 48 (f := .noat "Hall" "names") rfl)) atF_nil)
  have f_hall_values : AtF K mg ["Hall"] "hall_values" := (atF_cons gc_Hall cc_Hall (He.noat_ok (c.old.fact 49 (f := .noat "Hall" "hall_values") rfl)) atF_nil)
  have f_first : AtF K mg ["Hall"] "first" := (atF_cons gc_Hall cc_Hall (He.noat_ok (c.old.fact 50 (f := .noat "Hall" "first") rfl)) atF_nil)
  obtain ⟨fd__law_begun, F__law_begun⟩ := c.old.def_ 0 (d := dd "_law_begun" 25) rfl
  obtain ⟨fd__law_mixed, F__law_mixed⟩ := c.old.def_ 1 (d := dd "_law_mixed" 26) rfl
  obtain ⟨fd__law_take, F__law_take⟩ := c.old.def_ 2 (d := dd "_law_take" 27) rfl
  obtain ⟨fd__law_pick, F__law_pick⟩ := c.old.def_ 3 (d := dd "_law_pick" 28) rfl
  obtain ⟨fd__law_word, F__law_word⟩ := c.old.def_ 4 (d := dd "_law_word" 29) rfl
  obtain ⟨fd__law_labels, F__law_labels⟩ := c.old.def_ 5 (d := dd "_law_labels" 30) rfl
  obtain ⟨fd__law_cells, F__law_cells⟩ := c.old.def_ 6 (d := dd "_law_cells" 31) rfl
  obtain ⟨fd_is_name, F_is_name⟩ := c.old.def_ 7 (d := dd "is_name" 7) rfl
  obtain ⟨fd_is_list, F_is_list⟩ := c.old.def_ 8 (d := dd "is_list" 8) rfl
  obtain ⟨fd_are_different, F_are_different⟩ := c.old.def_ 9 (d := dd "are_different" 9) rfl
  obtain ⟨fd_are_values, F_are_values⟩ := c.old.def_ 10 (d := dd "are_values" 11) rfl
  obtain ⟨fd_Hall___init__, F_Hall___init__⟩ := c.old.def_ 11 (d := dm "Hall" "__init__" "Hall.__init__" 12 0) rfl
  obtain ⟨fd__law_hall, F__law_hall⟩ := c.old.def_ 12 (d := dd "_law_hall" 33) rfl
  obtain ⟨fd__law_all_scenes, F__law_all_scenes⟩ := c.old.def_ 13 (d := dd "_law_all_scenes" 35) rfl
  obtain ⟨fd__law_does_fit, F__law_does_fit⟩ := c.old.def_ 14 (d := dd "_law_does_fit" 34) rfl
  obtain ⟨fd_need_hall, F_need_hall⟩ := c.old.def_ 15 (d := dd "need_hall" 13) rfl
  obtain ⟨fd_has_items, F_has_items⟩ := c.old.def_ 16 (d := dd "has_items" 15) rfl
  obtain ⟨fd_is_value_of, F_is_value_of⟩ := c.old.def_ 17 (d := dd "is_value_of" 14) rfl
  obtain ⟨fd_is_pattern, F_is_pattern⟩ := c.old.def_ 18 (d := dd "is_pattern" 17) rfl
  obtain ⟨fd_need_pattern, F_need_pattern⟩ := c.old.def_ 19 (d := dd "need_pattern" 19) rfl
  obtain ⟨fd_scenes_of, F_scenes_of⟩ := c.old.def_ 20 (d := dd "scenes_of" 22) rfl
  obtain ⟨fd__law_pattern, F__law_pattern⟩ := c.old.def_ 21 (d := dd "_law_pattern" 32) rfl
  obtain ⟨fd_met, F_met⟩ := c.old.def_ 22 (d := dd "met" 23) rfl
  obtain ⟨fd__law_near, F__law_near⟩ := c.old.def_ 23 (d := dd "_law_near" 36) rfl
  obtain ⟨fd__law_is_like, F__law_is_like⟩ := c.old.def_ 24 (d := dd "_law_is_like" 37) rfl
  obtain ⟨fd_is_scene, F_is_scene⟩ := c.old.def_ 25 (d := dd "is_scene" 16) rfl
  obtain ⟨fd_need_scene, F_need_scene⟩ := c.old.def_ 26 (d := dd "need_scene" 18) rfl
  obtain ⟨fd_is_fit, F_is_fit⟩ := c.old.def_ 27 (d := dd "is_fit" 20) rfl
  obtain ⟨fd_fits, F_fits⟩ := c.old.def_ 28 (d := dd "fits" 21) rfl
  obtain ⟨fd_law, F_law⟩ := c.old.def_ 29 (d := dd "law" 38) rfl
  have e := hfa.symm.trans (He.glo_ok X G (c.old.fact 28 (f := .glo "law") rfl))
  cases e
  refine ⟨fd_law, fun s v => FunD.bindsA (ps := ["_law_script"]) F_law (fun _ _ _ _ _ _ us hl => match us, hl with | [_], _ => rfl) s [v] rfl, fun base _ _ => ?_⟩
  have G__law_begun : FnG P w K mg base 1 _ fd__law_begun ps__law_begun (spD K mg ps__law_begun.length m__law_begun) := w__law_begun F__law_begun b_abs
  have c__law_begun : CalF P w K mg base 1 "_law_begun" ps__law_begun [] m__law_begun := calF_of F__law_begun G__law_begun (He.glo_ok X G (c.old.fact 0 (f := .glo "_law_begun") rfl)) fun _ _ _ _ _ _ us hl => match us, hl with | [_], _ => rfl
  have G__law_mixed : FnG P w K mg base 1 _ fd__law_mixed ps__law_mixed (spD K mg ps__law_mixed.length m__law_mixed) := w__law_mixed F__law_mixed b_int
  have c__law_mixed : CalF P w K mg base 1 "_law_mixed" ps__law_mixed [] m__law_mixed := calF_of F__law_mixed G__law_mixed (He.glo_ok X G (c.old.fact 1 (f := .glo "_law_mixed") rfl)) fun _ _ _ _ _ _ us hl => match us, hl with | [_], _ => rfl
  have G__law_take : FnG P w K mg base 2 _ fd__law_take ps__law_take (spD K mg ps__law_take.length m__law_take) := w__law_take F__law_take c__law_mixed b_int
  have c__law_take : CalF P w K mg base 2 "_law_take" ps__law_take [] m__law_take := calF_of F__law_take G__law_take (He.glo_ok X G (c.old.fact 2 (f := .glo "_law_take") rfl)) fun _ _ _ _ _ _ us hl => match us, hl with | [_, _], _ => rfl
  have G__law_pick : FnG P w K mg base 3 _ fd__law_pick ps__law_pick (spD K mg ps__law_pick.length m__law_pick) := w__law_pick F__law_pick c__law_take b_len
  have c__law_pick : CalF P w K mg base 3 "_law_pick" ps__law_pick [] m__law_pick := calF_of F__law_pick G__law_pick (He.glo_ok X G (c.old.fact 3 (f := .glo "_law_pick") rfl)) fun _ _ _ _ _ _ us hl => match us, hl with | [_, _], _ => rfl
  have G__law_word : FnG P w K mg base 4 _ fd__law_word ps__law_word (spD K mg ps__law_word.length m__law_word) := w__law_word F__law_word c__law_take c__law_pick b_range
  have c__law_word : CalF P w K mg base 4 "_law_word" ps__law_word [] m__law_word := calF_of F__law_word G__law_word (He.glo_ok X G (c.old.fact 4 (f := .glo "_law_word") rfl)) fun _ _ _ _ _ _ us hl => match us, hl with | [_], _ => rfl
  have G__law_labels : FnG P w K mg base 5 _ fd__law_labels ps__law_labels (spD K mg ps__law_labels.length m__law_labels) := w__law_labels F__law_labels c__law_word b_range
  have c__law_labels : CalF P w K mg base 5 "_law_labels" ps__law_labels [] m__law_labels := calF_of F__law_labels G__law_labels (He.glo_ok X G (c.old.fact 5 (f := .glo "_law_labels") rfl)) fun _ _ _ _ _ _ us hl => match us, hl with | [_, _], _ => rfl
  have G__law_cells : FnG P w K mg base 6 _ fd__law_cells ps__law_cells (spD K mg ps__law_cells.length m__law_cells) := w__law_cells F__law_cells c__law_labels c__law_take
  have c__law_cells : CalF P w K mg base 6 "_law_cells" ps__law_cells [] m__law_cells := calF_of F__law_cells G__law_cells (He.glo_ok X G (c.old.fact 6 (f := .glo "_law_cells") rfl)) fun _ _ _ _ _ _ us hl => match us, hl with | [_, _, _], _ => rfl
  have G_is_name : FnG P w K mg base 1 _ fd_is_name ps_is_name (spD K mg ps_is_name.length m_is_name) := w_is_name F_is_name b_isinstance b_str b_len b_all g_LETTERS hCT
  have c_is_name : CalF P w K mg base 1 "is_name" ps_is_name [] m_is_name := calF_of F_is_name G_is_name (He.glo_ok X G (c.old.fact 7 (f := .glo "is_name") rfl)) fun _ _ _ _ _ _ us hl => match us, hl with | [_], _ => rfl
  have G_is_list : FnG P w K mg base 1 _ fd_is_list ps_is_list (spD K mg ps_is_list.length m_is_list) := w_is_list F_is_list b_isinstance b_list b_tuple hCT
  have c_is_list : CalF P w K mg base 1 "is_list" ps_is_list [] m_is_list := calF_of F_is_list G_is_list (He.glo_ok X G (c.old.fact 8 (f := .glo "is_list") rfl)) fun _ _ _ _ _ _ us hl => match us, hl with | [_], _ => rfl
  have G_are_different : FnG P w K mg base 1 _ fd_are_different ps_are_different (spD K mg ps_are_different.length m_are_different) := w_are_different F_are_different b_all b_enumerate
  have c_are_different : CalF P w K mg base 1 "are_different" ps_are_different [] m_are_different := calF_of F_are_different G_are_different (He.glo_ok X G (c.old.fact 9 (f := .glo "are_different") rfl)) fun _ _ _ _ _ _ us hl => match us, hl with | [_], _ => rfl
  have G_are_values : FnG P w K mg base 2 _ fd_are_values ps_are_values (spD K mg ps_are_values.length m_are_values) := w_are_values F_are_values c_is_list c_is_name c_are_different b_len b_all
  have c_are_values : CalF P w K mg base 2 "are_values" ps_are_values [] m_are_values := calF_of F_are_values G_are_values (He.glo_ok X G (c.old.fact 10 (f := .glo "are_values") rfl)) fun _ _ _ _ _ _ us hl => match us, hl with | [_], _ => rfl
  have G_Hall___init__ : FnG P w K mg base 3 _ fd_Hall___init__ ps_Hall___init__ (spD K mg ps_Hall___init__.length m_Hall___init__) := w_Hall___init__ F_Hall___init__ c_is_name c_are_values b_isinstance b_dict b_len b_all b_tuple b_sorted f_names f_hall_values f_first hCT
  have k_Hall : CalC P w K mg base 3 "Hall" ps_Hall___init__ [] m_Hall___init__ := calC_of F_Hall___init__ G_Hall___init__ gc_Hall (He.mkr_ok (c.old.fact 47 (f := .mkr "Hall") rfl)) fun _ _ _ _ _ _ us hl => match us, hl with | [_, _], _ => rfl
  have G__law_hall : FnG P w K mg base 5 _ fd__law_hall ps__law_hall (spD K mg ps__law_hall.length m__law_hall) := w__law_hall F__law_hall k_Hall b_dict b_sorted b_list
  have c__law_hall : CalF P w K mg base 5 "_law_hall" ps__law_hall [] m__law_hall := calF_of F__law_hall G__law_hall (He.glo_ok X G (c.old.fact 11 (f := .glo "_law_hall") rfl)) fun _ _ _ _ _ _ us hl => match us, hl with | [_], _ => rfl
  have G__law_all_scenes : FnG P w K mg base 1 _ fd__law_all_scenes ps__law_all_scenes (spD K mg ps__law_all_scenes.length m__law_all_scenes) := w__law_all_scenes F__law_all_scenes b_sorted
  have c__law_all_scenes : CalF P w K mg base 1 "_law_all_scenes" ps__law_all_scenes [] m__law_all_scenes := calF_of F__law_all_scenes G__law_all_scenes (He.glo_ok X G (c.old.fact 12 (f := .glo "_law_all_scenes") rfl)) fun _ _ _ _ _ _ us hl => match us, hl with | [_], _ => rfl
  have G__law_does_fit : FnG P w K mg base 1 _ fd__law_does_fit ps__law_does_fit (spD K mg ps__law_does_fit.length m__law_does_fit) := w__law_does_fit F__law_does_fit b_zip
  have c__law_does_fit : CalF P w K mg base 1 "_law_does_fit" ps__law_does_fit [] m__law_does_fit := calF_of F__law_does_fit G__law_does_fit (He.glo_ok X G (c.old.fact 13 (f := .glo "_law_does_fit") rfl)) fun _ _ _ _ _ _ us hl => match us, hl with | [_, _], _ => rfl
  have G_need_hall : FnG P w K mg base 1 _ fd_need_hall ps_need_hall (spD K mg ps_need_hall.length m_need_hall) := w_need_hall F_need_hall b_isinstance g_Hall hCT
  have c_need_hall : CalF P w K mg base 1 "need_hall" ps_need_hall [] m_need_hall := calF_of F_need_hall G_need_hall (He.glo_ok X G (c.old.fact 14 (f := .glo "need_hall") rfl)) fun _ _ _ _ _ _ us hl => match us, hl with | [_], _ => rfl
  have G_has_items : FnG P w K mg base 1 _ fd_has_items ps_has_items (spD K mg ps_has_items.length m_has_items) := w_has_items F_has_items b_isinstance b_tuple b_len f_names hCT
  have c_has_items : CalF P w K mg base 1 "has_items" ps_has_items [] m_has_items := calF_of F_has_items G_has_items (He.glo_ok X G (c.old.fact 15 (f := .glo "has_items") rfl)) fun _ _ _ _ _ _ us hl => match us, hl with | [_, _], _ => rfl
  have G_is_value_of : FnG P w K mg base 1 _ fd_is_value_of ps_is_value_of (spD K mg ps_is_value_of.length m_is_value_of) := w_is_value_of F_is_value_of b_isinstance b_str f_hall_values hCT
  have c_is_value_of : CalF P w K mg base 1 "is_value_of" ps_is_value_of [] m_is_value_of := calF_of F_is_value_of G_is_value_of (He.glo_ok X G (c.old.fact 16 (f := .glo "is_value_of") rfl)) fun _ _ _ _ _ _ us hl => match us, hl with | [_, _, _], _ => rfl
  have G_is_pattern : FnG P w K mg base 2 _ fd_is_pattern ps_is_pattern (spD K mg ps_is_pattern.length m_is_pattern) := w_is_pattern F_is_pattern c_need_hall c_has_items c_is_value_of b_all b_isinstance b_str b_enumerate hCT
  have c_is_pattern : CalF P w K mg base 2 "is_pattern" ps_is_pattern [] m_is_pattern := calF_of F_is_pattern G_is_pattern (He.glo_ok X G (c.old.fact 17 (f := .glo "is_pattern") rfl)) fun _ _ _ _ _ _ us hl => match us, hl with | [_, _], _ => rfl
  have k_is_pattern_0_thing_hall : CalK P w K mg base 2 "is_pattern" ps_is_pattern m_is_pattern 0 ["thing", "hall"] [1, 0] := calK_of F_is_pattern G_is_pattern (He.glo_ok X G (c.old.fact 17 (f := .glo "is_pattern") rfl)) fun _ _ _ _ _ _ us ws h1 h2 => match us, h1, ws, h2 with | [], _, [_, _], _ => rfl
  have G_need_pattern : FnG P w K mg base 3 _ fd_need_pattern ps_need_pattern (spD K mg ps_need_pattern.length m_need_pattern) := w_need_pattern F_need_pattern c_is_pattern
  have c_need_pattern : CalF P w K mg base 3 "need_pattern" ps_need_pattern [] m_need_pattern := calF_of F_need_pattern G_need_pattern (He.glo_ok X G (c.old.fact 18 (f := .glo "need_pattern") rfl)) fun _ _ _ _ _ _ us hl => match us, hl with | [_, _], _ => rfl
  have G_scenes_of : FnG P w K mg base 4 _ fd_scenes_of ps_scenes_of (spD K mg ps_scenes_of.length m_scenes_of) := w_scenes_of F_scenes_of c_need_hall c_need_pattern b_zip b_sorted f_hall_values
  have c_scenes_of : CalF P w K mg base 4 "scenes_of" ps_scenes_of [] m_scenes_of := calF_of F_scenes_of G_scenes_of (He.glo_ok X G (c.old.fact 19 (f := .glo "scenes_of") rfl)) fun _ _ _ _ _ _ us hl => match us, hl with | [_, _], _ => rfl
  have k_scenes_of_0_pattern_hall : CalK P w K mg base 4 "scenes_of" ps_scenes_of m_scenes_of 0 ["pattern", "hall"] [1, 0] := calK_of F_scenes_of G_scenes_of (He.glo_ok X G (c.old.fact 19 (f := .glo "scenes_of") rfl)) fun _ _ _ _ _ _ us ws h1 h2 => match us, h1, ws, h2 with | [], _, [_, _], _ => rfl
  have G__law_pattern : FnG P w K mg base 4 _ fd__law_pattern ps__law_pattern (spD K mg ps__law_pattern.length m__law_pattern) := w__law_pattern F__law_pattern c__law_pick b_tuple b_sorted
  have c__law_pattern : CalF P w K mg base 4 "_law_pattern" ps__law_pattern [] m__law_pattern := calF_of F__law_pattern G__law_pattern (He.glo_ok X G (c.old.fact 20 (f := .glo "_law_pattern") rfl)) fun _ _ _ _ _ _ us hl => match us, hl with | [_, _], _ => rfl
  have G_met : FnG P w K mg base 4 _ fd_met ps_met (spD K mg ps_met.length m_met) := w_met F_met c_need_hall c_need_pattern b_zip b_tuple
  have c_met : CalF P w K mg base 4 "met" ps_met [] m_met := calF_of F_met G_met (He.glo_ok X G (c.old.fact 21 (f := .glo "met") rfl)) fun _ _ _ _ _ _ us hl => match us, hl with | [_, _, _], _ => rfl
  have k_met_0_other_one_hall : CalK P w K mg base 4 "met" ps_met m_met 0 ["other", "one", "hall"] [2, 1, 0] := calK_of F_met G_met (He.glo_ok X G (c.old.fact 21 (f := .glo "met") rfl)) fun _ _ _ _ _ _ us ws h1 h2 => match us, h1, ws, h2 with | [], _, [_, _, _], _ => rfl
  have G__law_near : FnG P w K mg base 4 _ fd__law_near ps__law_near (spD K mg ps__law_near.length m__law_near) := w__law_near F__law_near c__law_take c__law_pick b_len b_list b_sorted
  have c__law_near : CalF P w K mg base 4 "_law_near" ps__law_near [] m__law_near := calF_of F__law_near G__law_near (He.glo_ok X G (c.old.fact 22 (f := .glo "_law_near") rfl)) fun _ _ _ _ _ _ us hl => match us, hl with | [_, _, _], _ => rfl
  have G__law_is_like : FnG P w K mg base 1 _ fd__law_is_like ps__law_is_like (spD K mg ps__law_is_like.length m__law_is_like) := w__law_is_like F__law_is_like b_isinstance b_tuple b_len b_zip b_sorted b_str hCT
  have c__law_is_like : CalF P w K mg base 1 "_law_is_like" ps__law_is_like [] m__law_is_like := calF_of F__law_is_like G__law_is_like (He.glo_ok X G (c.old.fact 23 (f := .glo "_law_is_like") rfl)) fun _ _ _ _ _ _ us hl => match us, hl with | [_, _, _], _ => rfl
  have G_is_scene : FnG P w K mg base 2 _ fd_is_scene ps_is_scene (spD K mg ps_is_scene.length m_is_scene) := w_is_scene F_is_scene c_need_hall c_has_items c_is_value_of b_all b_enumerate
  have c_is_scene : CalF P w K mg base 2 "is_scene" ps_is_scene [] m_is_scene := calF_of F_is_scene G_is_scene (He.glo_ok X G (c.old.fact 24 (f := .glo "is_scene") rfl)) fun _ _ _ _ _ _ us hl => match us, hl with | [_, _], _ => rfl
  have k_is_scene_0_thing_hall : CalK P w K mg base 2 "is_scene" ps_is_scene m_is_scene 0 ["thing", "hall"] [1, 0] := calK_of F_is_scene G_is_scene (He.glo_ok X G (c.old.fact 24 (f := .glo "is_scene") rfl)) fun _ _ _ _ _ _ us ws h1 h2 => match us, h1, ws, h2 with | [], _, [_, _], _ => rfl
  have G_need_scene : FnG P w K mg base 3 _ fd_need_scene ps_need_scene (spD K mg ps_need_scene.length m_need_scene) := w_need_scene F_need_scene c_is_scene
  have c_need_scene : CalF P w K mg base 3 "need_scene" ps_need_scene [] m_need_scene := calF_of F_need_scene G_need_scene (He.glo_ok X G (c.old.fact 25 (f := .glo "need_scene") rfl)) fun _ _ _ _ _ _ us hl => match us, hl with | [_, _], _ => rfl
  have G_is_fit : FnG P w K mg base 1 _ fd_is_fit ps_is_fit (spD K mg ps_is_fit.length m_is_fit) := w_is_fit F_is_fit b_all b_zip
  have c_is_fit : CalF P w K mg base 1 "is_fit" ps_is_fit [] m_is_fit := calF_of F_is_fit G_is_fit (He.glo_ok X G (c.old.fact 26 (f := .glo "is_fit") rfl)) fun _ _ _ _ _ _ us hl => match us, hl with | [_, _], _ => rfl
  have G_fits : FnG P w K mg base 4 _ fd_fits ps_fits (spD K mg ps_fits.length m_fits) := w_fits F_fits c_need_hall c_need_scene c_need_pattern c_is_fit
  have c_fits : CalF P w K mg base 4 "fits" ps_fits [] m_fits := calF_of F_fits G_fits (He.glo_ok X G (c.old.fact 27 (f := .glo "fits") rfl)) fun _ _ _ _ _ _ us hl => match us, hl with | [_, _, _], _ => rfl
  have k_fits_0_pattern_scene_hall : CalK P w K mg base 4 "fits" ps_fits m_fits 0 ["pattern", "scene", "hall"] [2, 1, 0] := calK_of F_fits G_fits (He.glo_ok X G (c.old.fact 27 (f := .glo "fits") rfl)) fun _ _ _ _ _ _ us ws h1 h2 => match us, h1, ws, h2 with | [], _, [_, _, _], _ => rfl
  have G_law : FnG P w K mg base 7 _ fd_law ps_law (spD K mg ps_law.length m_law) := w_law F_law c__law_begun c__law_cells c__law_take c__law_hall c__law_all_scenes c__law_pick c__law_pattern c__law_does_fit c_fits c_scenes_of c_met c_is_pattern c__law_near c__law_is_like c_is_scene k_fits_0_pattern_scene_hall k_scenes_of_0_pattern_hall k_met_0_other_one_hall k_is_scene_0_thing_hall k_is_pattern_0_thing_hall b_range b_min b_len b_repr hS
  exact G_law
end K03
set_option Elab.async false
set_option linter.all false
set_option maxRecDepth 100000
set_option maxHeartbeats 0
namespace K03
open PySem PySem.Spec PyProof.Rows L2 DL
theorem ev_alt {a b : MI} {δ : DL.Env} {r : List D × DL.Env} (h : a δ = some r) : iAlt a b δ = some r := by
  unfold iAlt
  rw [h]
theorem path_turn (s : Dr) (r : DL.Env) : mPath 0 (pSub pVar (kC (.str "turn"))) (some s.d :: r) = some (.int s.t, some s.d :: r) := by
  show (match walk s.d [.sub (.inr "turn")] with | some (t, d') => some (t, (some s.d :: r).set 0 (some d')) | none => none) = _
  rw [walk_turn]; rfl
theorem path_rest (s : Dr) (r : DL.Env) : mPath 0 (pSub pVar (kC (.str "rest"))) (some s.d :: r) = some (.int s.r, some s.d :: r) := by
  show (match walk s.d [.sub (.inr "rest")] with | some (t, d') => some (t, (some s.d :: r).set 0 (some d')) | none => none) = _
  rw [walk_rest]; rfl
theorem path_cells (s : Dr) (r : DL.Env) : mPath 0 (pSub pVar (kC (.str "cells"))) (some s.d :: r) = some (.lst false (s.C.map D.int), some ({ s with o := false } : Dr).d :: r) := by
  show (match walk s.d [.sub (.inr "cells")] with | some (t, d') => some (t, (some s.d :: r).set 0 (some d')) | none => none) = _
  rw [walk_cells]; rfl
theorem put_turn {s : Dr} {r r' : DL.Env} {s' : Dr} {e : ME} {i : Int} (h : e (some s.d :: r) = some (.int i, some s'.d :: r')) : sPut 0 pVar (kC (.str "turn")) e (some s.d :: r) = some (.nx (some ({ s' with t := i } : Dr).d :: r')) := by
  unfold sPut
  rw [h]
  show (match dSetIt s'.d (.str "turn") (.int i) with | some t' => some (Fl.nx ((some s'.d :: r').set 0 (some (putO s'.d [] t')))) | none => none) = _
  rw [set_turn]; rfl
theorem put_rest {s : Dr} {r r' : DL.Env} {s' : Dr} {e : ME} {i : Int} (h : e (some s.d :: r) = some (.int i, some s'.d :: r')) : sPut 0 pVar (kC (.str "rest")) e (some s.d :: r) = some (.nx (some ({ s' with r := i } : Dr).d :: r')) := by
  unfold sPut
  rw [h]
  show (match dSetIt s'.d (.str "rest") (.int i) with | some t' => some (Fl.nx ((some s'.d :: r').set 0 (some (putO s'.d [] t')))) | none => none) = _
  rw [set_rest]; rfl
theorem mixed_ok {s : Dr} {b : Nat} (h : s.Ok b) (hb : b < 2 ^ 40) : ∃ v, 0 ≤ v ∧ ∃ s' : Dr, s'.Ok (b + 1) ∧ s'.L = s.L ∧ m__law_mixed [s.d] = some (.int v, [s'.d]) := by
  have ht0 := h.t0
  have ht := h.t
  have h1 : ({ s with t := s.t + 1 } : Dr).Ok (b + 1) := ⟨h.L, h.C, h.r, by show 0 ≤ s.t + 1; omega, by show s.t + 1 ≤ ((b + 1 : Nat) : Int); push_cast; omega, h.ls, h.cs⟩
  obtain ⟨δ', eo, _, s4, f4, x4, y4, z4, h4, hL4, hf4, rfl⟩ := loopF_ind (t := tName 2) (b := (sCons (sSet 3 (mBin dAdd (mBin dMul (mC (.int 104729)) (mPath 0 (pSub pVar (kC (.str "turn"))))) (mBin dFdiv (mVar 2) (mC (.int 7)))))
      (sCons (sFor (iAlt (iAny (mPath 0 (pSub pVar (kC (.str "cells"))))) (keysAt 0 (pSub pVar (kC (.str "cells"))))) (tName 4) (sSet 3 (mBin dMod (mCallB dInt2 (mCons (mBin dAdd (mBin dMul (mVar 3) (mC (.int 48271))) (mVar 4)) mNil)) (mVar 2))))
      (sSet 1 (mBin dAdd (mBin dMul (mVar 1) (mC (.int 2147483647))) (mBin dMod (mCallB dInt2 (mCons (mBin dPow (mVar 3) (mC (.int 5))) mNil)) (mVar 2)))))))
      (J := fun ds δ => (∃ ps : List Int, ds = ps.map D.int ∧ ∀ p ∈ ps, 0 < p ∧ p < 2 ^ 31) ∧ ∃ (s2 : Dr) (f : Int) (x y z : Option D), s2.Ok (b + 1) ∧ s2.L = s.L ∧ 0 ≤ f ∧ δ = [some s2.d, some (.int f), x, y, z])
      (fun d r δ hJ => by
        obtain ⟨⟨ps, e, hp⟩, s2, f, x, y, z, h2, hL, hf, rfl⟩ := hJ
        match ps, e with
        | p :: ps, e =>
          cases e
          obtain ⟨p0, p1⟩ := hp p List.mem_cons_self
          have t20 := h2.t0
          have t2 := h2.t
          have x00 : 0 ≤ 104729 * s2.t + p / 7 := by omega
          have x01 : 104729 * s2.t + p / 7 < 2 ^ 64 := by
            have : (b : Int) < 2 ^ 40 := by exact_mod_cast hb
            push_cast at t2
            omega
          have a1 := ev_set (i := 3) (δ := [some s2.d, some (.int f), some (.int p), y, z]) (ev_bin (g := dAdd) (ev_bin (g := dMul) (a := mC (.int 104729)) rfl (path_turn s2 _) (dMul_l (by decide))) (ev_bin (g := dFdiv) (a := mVar 2) (b := mC (.int 7)) (ev_int rfl) rfl (dFdiv_p (by decide) (by decide))) rfl) (by simp)
          obtain ⟨δi, ei, _, w, x2, x20, x21, rfl⟩ := loopF_ind (t := tName 4) (b := (sSet 3 (mBin dMod (mCallB dInt2 (mCons (mBin dAdd (mBin dMul (mVar 3) (mC (.int 48271))) (mVar 4)) mNil)) (mVar 2))))
            (J := fun ds δ => (∃ cs : List Int, ds = cs.map D.int ∧ ∀ c ∈ cs, 0 ≤ c) ∧ ∃ (w : Option D) (x : Int), 0 ≤ x ∧ x < 2 ^ 64 ∧ δ = [some ({ s2 with o := false } : Dr).d, some (.int f), some (.int p), some (.int x), w])
            (fun d r δ hJ => by
              obtain ⟨⟨cs, e, hc⟩, w, x, x0, x1, rfl⟩ := hJ
              match cs, e with
              | c :: cs, e =>
                cases e
                have c0 := hc c List.mem_cons_self
                refine ⟨_, _, rfl, ev_set (i := 3) (ev_bin (g := dMod) (ev_call1 (g := dInt2) (ev_bin (g := dAdd) (ev_bin (g := dMul) (a := mVar 3) (b := mC (.int 48271)) (ev_int rfl) rfl (dMul_r (by decide))) (ev_int rfl) rfl) rfl) (ev_int rfl) (dMod_p p0)) (by simp), ⟨cs, rfl, fun c hc' => hc c (List.mem_cons_of_mem _ hc')⟩, _, _, ?_, ?_, rfl⟩
                · exact Int.emod_nonneg _ (by omega)
                · have := Int.emod_lt_of_pos (x * 48271 + c) p0
                  omega) (s2.C.map D.int) [some ({ s2 with o := false } : Dr).d, some (.int f), some (.int p), some (.int (104729 * s2.t + p / 7)), z] ⟨⟨s2.C, rfl, h2.C⟩, z, _, x00, x01, rfl⟩
          refine ⟨_, _, rfl, (ev_seq a1).trans ((ev_seq ((ev_for (ev_alt (ev_ints (path_cells s2 _)))).trans ei)).trans (ev_set (i := 1) (ev_bin (g := dAdd) (ev_bin (g := dMul) (a := mVar 1) (b := mC (.int 2147483647)) (ev_int rfl) rfl (dMul_r (by decide))) (ev_bin (g := dMod) (ev_call1 (g := dInt2) (ev_bin (g := dPow) (a := mVar 3) (b := mC (.int 5)) (ev_int rfl) rfl (dPow_p (j := 5) ⟨x20, x21⟩ (by decide))) rfl) (ev_int rfl) (dMod_p p0)) rfl) (by simp))), ⟨ps, rfl, fun q hq => hp q (List.mem_cons_of_mem _ hq)⟩, { s2 with o := false }, _, _, _, _, ⟨h2.L, h2.C, h2.r, h2.t0, h2.t, h2.ls, h2.cs⟩, hL, ?_, rfl⟩
          have := Int.emod_nonneg (x2 ^ 5) (show p ≠ 0 by omega)
          omega) [.int 2147483629, .int 2147483587, .int 2147483579, .int 2147483563] [some ({ s with t := s.t + 1 } : Dr).d, some (.int 0), none, none, none] ⟨⟨[2147483629, 2147483587, 2147483579, 2147483563], rfl, by decide⟩, { s with t := s.t + 1 }, 0, none, none, none, h1, rfl, by decide, rfl⟩
  refine ⟨f4, hf4, s4, h4, hL4, ?_⟩
  have body : b__law_mixed [some s.d, none, none, none, none] = some (.rt (.int f4) [some s4.d, none, x4, y4, z4]) := by
    refine (ev_seq (put_turn (ev_bin (g := dAdd) (path_turn s _) (b := mC (.int 1)) rfl rfl))).trans ((ev_seq (ev_set (i := 1) (m := mC (.int 0)) rfl (by simp))).trans ((ev_seq ((ev_for (ds := [.int 2147483629, .int 2147483587, .int 2147483579, .int 2147483563]) rfl).trans eo)).trans (ev_ret rfl)))
  show (if ([s.d] : List D).length = 1 then match b__law_mixed [some s.d, none, none, none, none] with | some (.rt r δ) => (match backs P__law_mixed 0 [s.d] δ with | some bs => some (r, bs) | none => none) | some (.nx δ) => (match backs P__law_mixed 0 [s.d] δ with | some bs => some (D.non, bs) | none => none) | _ => none else none) = _
  rw [body]
  rfl
theorem take_ok {s : Dr} {b : Nat} {n : Int} (h : s.Ok b) (hb : b < 2 ^ 40) (hn : 0 < n) (hn2 : n < 1073741824) : ∃ v, 0 ≤ v ∧ v < n ∧ ∃ s' : Dr, s'.Ok (b + 1) ∧ m__law_take [s.d, .int n] = some (.int v, [s'.d, .int n]) := by
  have A : ∃ s1 : Dr, s1.Ok (b + 1) ∧ (sIf (toT (mBin dEq (mPath 0 (pSub pVar (kC (.str "rest")))) (mC (.int 0))))
      (sPut 0 pVar (kC (.str "rest")) (mIf (purT [true] (toT (mBin dNe (mPath 0 (pSub pVar (kC (.str "large")))) (mLst mNil)))) (mMethP "list" gPopAt 0 (pSub pVar (kC (.str "large"))) (ksCons (kC (.int 0)) ksNil)) (mCall m__law_mixed [.v 0] [])))
      sNil) [some s.d, some (.int n), none] = some (.nx [some s1.d, some (.int n), none]) := by
    have c0 : toT (mBin dEq (mPath 0 (pSub pVar (kC (.str "rest")))) (mC (.int 0))) [some s.d, some (.int n), none] = some (decide (s.r = 0), [some s.d, some (.int n), none]) := ev_toT (ev_bin (path_rest s _) (b := mC (.int 0)) rfl rfl)
    have up : s.Ok (b + 1) := ⟨h.L, h.C, h.r, h.t0, by have := h.t; push_cast; omega, h.ls, h.cs⟩
    by_cases hr : s.r = 0
    · rw [decide_eq_true hr] at c0
      rw [ev_if1 c0]
      cases hL : s.L with
      | nil =>
        obtain ⟨v, hv, s', h', _, e⟩ := mixed_ok h hb
        refine ⟨{ s' with r := v }, ⟨h'.L, h'.C, hv, h'.t0, h'.t, h'.ls, h'.cs⟩, put_rest ?_⟩
        rw [ev_if_e (ev_large s _), hL]
        exact ev_callv0 rfl e
      | cons x L =>
        have hx : 0 ≤ x := h.L x (by rw [hL]; exact List.mem_cons_self)
        refine ⟨{ s with L := L, r := x }, ⟨fun y hy => h.L y (by rw [hL]; exact List.mem_cons_of_mem _ hy), h.C, hx, h.t0, up.t, ?_, h.cs⟩, put_rest (s' := { s with L := L }) ?_⟩
        · have := h.ls
          rw [hL] at this
          simp at this
          show L.length ≤ 1000
          omega
        · rw [ev_if_e (ev_large s _), hL]
          exact ev_pop0 s hL _
    · rw [decide_eq_false hr] at c0
      rw [ev_if0 c0]
      exact ⟨s, up, rfl⟩
  obtain ⟨s1, h1, e1⟩ := A
  have r0 := h1.r
  refine ⟨s1.r % n, Int.emod_nonneg _ (by omega), Int.emod_lt_of_pos _ hn, { s1 with r := s1.r / n }, ⟨h1.L, h1.C, Int.ediv_nonneg r0 (by omega), h1.t0, h1.t, h1.ls, h1.cs⟩, ?_⟩
  have body : b__law_take [some s.d, some (.int n), none] = some (.rt (.int (s1.r % n)) [some ({ s1 with r := s1.r / n } : Dr).d, some (.int n), none]) :=
    (ev_seq e1).trans ((ev_seq (ev_set (i := 2) (ev_bin (g := dMod) (ev_call1 (g := dInt2) (path_rest s1 _) rfl) (ev_int rfl) (dMod_p hn)) (by simp))).trans ((ev_seq (put_rest (ev_bin (g := dFdiv) (path_rest s1 _) (ev_int rfl) (dFdiv_p hn hn2)))).trans (ev_ret rfl)))
  show (if ([s.d, .int n] : List D).length = 2 then match b__law_take [some s.d, some (.int n), none] with | some (.rt r δ) => (match backs P__law_take 0 [s.d, .int n] δ with | some bs => some (r, bs) | none => none) | some (.nx δ) => (match backs P__law_take 0 [s.d, .int n] δ with | some bs => some (D.non, bs) | none => none) | _ => none else none) = _
  rw [body]
  rfl
theorem pick_ok {s : Dr} {b : Nat} {o : Bool} {ds : List D} (h : s.Ok b) (hb : b < 2 ^ 40) (hn : ds ≠ []) (hn2 : ds.length ≤ 1000) : ∃ (j : Nat) (d : D), ds[j]? = some d ∧ ∃ s' : Dr, s'.Ok (b + 1) ∧ m__law_pick [s.d, .lst o ds] = some (fz d, [s'.d, .lst false (fzs ds)]) := by
  have hp : 0 < ds.length := List.length_pos_iff.mpr hn
  obtain ⟨v, v0, v1, s', h', e⟩ := take_ok (n := (ds.length : Int)) h hb (by omega) (by omega)
  have hv : v.toNat < ds.length := by omega
  obtain ⟨d, hd⟩ : ∃ d, ds[v.toNat]? = some d := ⟨ds[v.toNat], by simp [hv]⟩
  refine ⟨v.toNat, d, hd, s', h', ?_⟩
  have body : b__law_pick [some s.d, some (.lst o ds)] = some (.rt (fz d) [some s'.d, some (.lst false (fzs ds))]) := by
    refine ev_ret (ev_bin (g := dIx) (ev_varf (i := 1) (d := .lst o ds) rfl) (ev_callv0e (d := s.d) (d1 := s.d) (ev_call1 (g := dLen) (ev_var (i := 1) (d := .lst false (fzs ds)) rfl (isFz_fz (.lst o ds))) (d := .int ds.length) ?_) rfl e) ?_)
    · show some (D.int (fzs ds).length) = _
      rw [fzs_length]
    · show (atI (fzs ds) v).map fz = _
      rw [atI_nat v0 (fzs_get hd)]
      exact congrArg some (fz_fz d)
  show (if ([s.d, .lst o ds] : List D).length = 2 then match b__law_pick [some s.d, some (.lst o ds)] with | some (.rt r δ) => (match backs P__law_pick 0 [s.d, .lst o ds] δ with | some bs => some (r, bs) | none => none) | some (.nx δ) => (match backs P__law_pick 0 [s.d, .lst o ds] δ with | some bs => some (D.non, bs) | none => none) | _ => none else none) = _
  rw [body]
  rfl
theorem pick_str {s : Dr} {b : Nat} {z : Str} (h : s.Ok b) (hb : b < 2 ^ 40) (hn : 0 < z.length) (hn2 : z.length ≤ 1000) : ∃ (j : Nat) (c : Nat), z.cps.toList[j]? = some c ∧ ∃ s' : Dr, s'.Ok (b + 1) ∧ m__law_pick [s.d, .str z] = some (.str ⟨#[c]⟩, [s'.d, .str z]) := by
  obtain ⟨v, v0, v1, s', h', e⟩ := take_ok (n := (z.length : Int)) h hb (by omega) (by omega)
  have hz : z.cps.toList.length = z.length := Array.length_toList
  have hv : v.toNat < z.cps.toList.length := by omega
  obtain ⟨c, hc⟩ : ∃ c, z.cps.toList[v.toNat]? = some c := ⟨z.cps.toList[v.toNat], by simp [hv]⟩
  have hs : z.length ≤ sizeLine := Nat.le_trans hn2 (by decide)
  refine ⟨v.toNat, c, hc, s', h', ?_⟩
  have body : b__law_pick [some s.d, some (.str z)] = some (.rt (.str ⟨#[c]⟩) [some s'.d, some (.str z)]) := by
    refine ev_ret (ev_bin (g := dIx) (ev_var (i := 1) (d := .str z) rfl rfl) (ev_callv0e (d := s.d) (d1 := s.d) (ev_call1 (g := dLen) (ev_var (i := 1) (d := .str z) rfl rfl) (d := .int z.length) (if_pos hs)) rfl e) ?_)
    show (if z.length ≤ sizeLine then (atI z.cps.toList v).map fun c => D.str ⟨#[c]⟩ else none) = _
    rw [if_pos hs, atI_nat v0 hc]
    rfl
  show (if ([s.d, .str z] : List D).length = 2 then match b__law_pick [some s.d, some (.str z)] with | some (.rt r δ) => (match backs P__law_pick 0 [s.d, .str z] δ with | some bs => some (r, bs) | none => none) | some (.nx δ) => (match backs P__law_pick 0 [s.d, .str z] δ with | some bs => some (D.non, bs) | none => none) | _ => none else none) = _
  rw [body]
  rfl
def WS : List Str := ["a", "b", "aa", "act", "move", "same", "value", "people", "tell", "zzzzzz"]
theorem ws_lab : ∀ w ∈ WS, (1 ≤ w.length ∧ w.length ≤ 6 ∧ ∀ c ∈ w.cps.toList, 97 ≤ c ∧ c ≤ 122) := by decide +kernel
theorem letters_ok : ∀ c ∈ (Str.ofString "abcdefghijklmnopqrstuvwxyz").cps.toList, 97 ≤ c ∧ c ≤ 122 := by decide +kernel
theorem letters_len : (Str.ofString "abcdefghijklmnopqrstuvwxyz").length = 26 := by decide +kernel
theorem ws_split (δ : DL.Env) : (mMethV "str" gSplit (mC (.str "a b aa act move same value people tell zzzzzz")) (mCons (mC (.str " ")) mNil)) δ = some (.lst true (WS.map D.str), δ) := by kernel_rfl
theorem word_ok {s : Dr} {b : Nat} (h : s.Ok b) (hb : b + 10 < 2 ^ 40) : ∃ z, Lab z ∧ ∃ s' : Dr, s'.Ok (b + 10) ∧ m__law_word [s.d] = some (.str z, [s'.d]) := by
  have fin : ∀ {z : Str} {s' : Dr} {x y w : Option D}, b__law_word [some s.d, none, none, none] = some (.rt (.str z) [some s'.d, x, y, w]) → m__law_word [s.d] = some (.str z, [s'.d]) := fun {z s' x y w} e => by
    show (if ([s.d] : List D).length = 1 then match b__law_word [some s.d, none, none, none] with | some (.rt r δ) => (match backs P__law_word 0 [s.d] δ with | some bs => some (r, bs) | none => none) | some (.nx δ) => (match backs P__law_word 0 [s.d] δ with | some bs => some (D.non, bs) | none => none) | _ => none else none) = _
    rw [e]
    rfl
  obtain ⟨v, v0, v1, s1, h1, e1⟩ := take_ok (n := 3) h (by omega) (by decide) (by decide)
  have a1 := ev_set (i := 1) (ws_split [some s.d, none, none, none]) (by simp)
  have t1 : toT (mBin dGt (mCall m__law_take [.v 0, .e (mC (.int 3))] []) (mC (.int 0))) [some s.d, some (.lst true (WS.map D.str)), none, none] = some (decide (0 < v), [some s1.d, some (.lst true (WS.map D.str)), none, none]) :=
    ev_toT (ev_bin (g := dGt) (ev_callv0e (d := s.d) (d1 := s.d) (a := mC (.int 3)) rfl rfl e1) (b := mC (.int 0)) rfl rfl)
  by_cases hv : 0 < v
  · rw [decide_eq_true hv] at t1
    obtain ⟨j, d, hd, s2, h2, e2⟩ := pick_ok (o := false) (ds := WS.map D.str) h1 (by omega) (by decide) (by decide)
    rw [List.getElem?_map] at hd
    obtain ⟨w, hw, rfl⟩ := Option.map_eq_some_iff.mp hd
    obtain ⟨l1, l2, l3⟩ := ws_lab w (List.mem_of_getElem? hw)
    refine ⟨w, ⟨l1, l2, l3⟩, s2, h2.mono (by omega), fin (x := some (.lst false (fzs (WS.map D.str)))) (y := none) (w := none) ?_⟩
    exact (ev_seq a1).trans (ev_stop ((ev_if1 t1).trans (ev_ret (ev_callv0e (d := s1.d) (d1 := s1.d) (a := mVar 1) (x := .lst false (WS.map D.str)) (ev_varf (i := 1) (d := .lst true (WS.map D.str)) rfl) rfl e2))))
  · rw [decide_eq_false hv] at t1
    obtain ⟨n, n0, n1, s2, h2, e2⟩ := take_ok (n := 6) h1 (by omega) (by decide) (by decide)
    have hrng : mRng1 (mCons (mBin dAdd (mC (.int 1)) (mCall m__law_take [.v 0, .e (mC (.int 6))] [])) mNil) [some s1.d, some (.lst true (WS.map D.str)), some (.str "abcdefghijklmnopqrstuvwxyz"), none] = some (rngD 0 (1 + n).toNat, [some s2.d, some (.lst true (WS.map D.str)), some (.str "abcdefghijklmnopqrstuvwxyz"), none]) :=
      ev_rng (ev_bin (g := dAdd) (a := mC (.int 1)) rfl (ev_callv0e (d := s1.d) (d1 := s1.d) (a := mC (.int 6)) rfl rfl e2) rfl) (by omega) (by omega)
    obtain ⟨δ', acc, el, hr, s3, cs, x, hs3, rfl, hc, hl, rfl⟩ := loopC_ind (own := [3]) (t := tName 3) (c := tTrue) (m := mCall m__law_pick [.v 0, .e (mVar 2)] [])
      (J := fun r δ acc => r.length ≤ 6 ∧ ∃ (s3 : Dr) (cs : List Nat) (x : Unit), s3.Ok (b + 8 - r.length) ∧ acc = (cs.map fun c => D.str ⟨#[c]⟩) ∧ (∀ c ∈ cs, 97 ≤ c ∧ c ≤ 122) ∧ cs.length + r.length = (1 + n).toNat ∧ δ = [some s3.d, some (.lst true (WS.map D.str)), some (.str "abcdefghijklmnopqrstuvwxyz"), none])
      (fun d r δ acc hJ => by
        obtain ⟨hr, s3, cs, x, hs3, rfl, hc, hl, rfl⟩ := hJ
        simp only [List.length_cons] at hr hs3 hl
        obtain ⟨j, c, hcj, s4, h4, e4⟩ := pick_str (z := "abcdefghijklmnopqrstuvwxyz") hs3 (by omega) (by rw [letters_len]; decide) (by rw [letters_len]; decide)
        refine ⟨_, _, rfl, .inr ⟨rfl, _, _, ev_callv0e (d := s3.d) (d1 := s3.d) (a := mVar 2) (x := .str "abcdefghijklmnopqrstuvwxyz") (ev_var (i := 2) rfl rfl) rfl e4, by omega, s4, cs ++ [c], (), h4.mono (by omega), by simp, fun q hq => ?_, by simp; omega, rfl⟩⟩
        (rcases List.mem_append.mp hq with hq | hq)
        · exact hc q hq
        · (rw [List.mem_singleton.mp hq])
          exact letters_ok c (List.mem_of_getElem? hcj)) (rngD 0 (1 + n).toNat) [some s2.d, some (.lst true (WS.map D.str)), some (.str "abcdefghijklmnopqrstuvwxyz"), none] [] ⟨by rw [rng_len]; omega, s2, [], (), h2.mono (by rw [rng_len]; omega), rfl, by simp, by rw [rng_len]; simp, rfl⟩
    have hcl : cs.length = (1 + n).toNat := by simpa using hl
    refine ⟨Txt.join "" (cs.map fun c => (⟨#[c]⟩ : Str)), ⟨?_, ?_, ?_⟩, s3, hs3.mono (by simp), fin (x := some (.lst true (WS.map D.str))) (y := some (.str "abcdefghijklmnopqrstuvwxyz")) (w := none) ?_⟩
    · show 1 ≤ Array.size _
      rw [← Array.length_toList, join_signs]; omega
    · show Array.size _ ≤ 6
      rw [← Array.length_toList, join_signs]; omega
    · rw [join_signs]; exact hc
    · refine (ev_seq a1).trans ?_
      have nx : (sIf (toT (mBin dGt (mCall m__law_take [.v 0, .e (mC (.int 3))] []) (mC (.int 0)))) (sRet (mCall m__law_pick [.v 0, .e (mVar 1)] [])) sNil) [some s.d, some (.lst true (WS.map D.str)), none, none] = some (.nx [some s1.d, some (.lst true (WS.map D.str)), none, none]) := by
        rw [ev_if0 t1]; rfl
      refine (ev_seq nx).trans ((ev_seq (ev_set (i := 2) (m := mC (.str "abcdefghijklmnopqrstuvwxyz")) rfl (by simp))).trans (ev_ret ?_))
      have lc := ev_lc hrng (own := [3]) (by rw [rng_len]; exact Nat.le_trans (show (1 + n).toNat ≤ 6 by omega) (by decide)) el
      have g1 : gJoin (.str "") [.lst true (cs.map fun c => D.str ⟨#[c]⟩)] = some (.str (Txt.join "" (cs.map fun c => (⟨#[c]⟩ : Str)))) := by
        have es : strsOf (cs.map fun c => D.str ⟨#[c]⟩) = some (cs.map fun c => (⟨#[c]⟩ : Str)) := by
          have := strs_strs (cs.map fun c => (⟨#[c]⟩ : Str))
          rw [List.map_map] at this
          exact this
        simp only [gJoin, es, sum_ones]
        refine if_pos ?_
        rw [List.length_map, show (Str.ofString "").length = 0 from rfl]
        omega
      exact ev_methV (a := mC (.str "")) rfl (tyD_str _) (ev_cons lc rfl) g1
end K03
set_option Elab.async false
set_option linter.all false
set_option maxRecDepth 100000
set_option maxHeartbeats 0
namespace K03
open PySem PySem.Spec PyProof.Rows L2 DL
theorem letter_in : ∀ c ∈ List.range' 97 26, dInB (.str ⟨#[c]⟩) (.str "abcdefghijklmnopqrstuvwxyz") = some true := by decide +kernel
theorem letter_ok {c : Nat} (h : 97 ≤ c ∧ c ≤ 122) : dIn (.str ⟨#[c]⟩) (.str "abcdefghijklmnopqrstuvwxyz") = some (.bl true) := by
  have := letter_in c (List.mem_range'.mpr ⟨c - 97, by omega, by omega⟩)
  unfold dIn
  rw [this]; rfl
theorem lab_len {z : Str} (h : Lab z) : z.length ≤ sizeLine := Nat.le_trans h.b (by decide)
theorem txt_any {z : Str} {i : Nat} {δ : DL.Env} (h : δ[i]? = some (some (.str z))) : iAny (mVar i) δ = some (z.cps.toList.map fun c => D.str ⟨#[c]⟩, δ) := by
  have := ev_var h rfl
  unfold iAny DL.iLst DL.iTup DL.iTxt
  rw [this]
  rfl
theorem is_name_ok {z : Str} (h : Lab z) : m_is_name [.str z] = some (.bl true, [.str z]) := by
  refine fin_rt (np := 1) (N := 2) (δ := [none]) rfl (by decide) (ev_ret ?_)
  have e1 : (mCallB (dIsO ct) (mCons (mVar 0) (mCons (mC (.ty .str)) mNil))) [some (.str z), none] = some (.bl true, [some (.str z), none]) := rfl
  have e2 := ev_chain (g := dLe) (g' := dLe) (a := mC (.int 1)) (c := mC (.int 6)) (δ := [some (.str z), none]) rfl (ev_call1 (g := dLen) (ev_var (i := 0) (d := .str z) rfl rfl) (d := .int z.length) (if_pos (lab_len h))) rfl rfl rfl rfl
  have h1 := h.a
  have h2 := h.b
  rw [show decide ((1 : Int) ≤ z.length) = true from decide_eq_true (by omega), show decide ((z.length : Int) ≤ 6) = true from decide_eq_true (by omega)] at e2
  have e3 := all_typ (own := [1]) (t := tName 1) (m := mBin dIn (mVar 1) (mC (.str "abcdefghijklmnopqrstuvwxyz"))) z.cps.toList (fun c => D.str ⟨#[c]⟩) (fun _ => true) (ev_alt (b := keysAt 0 pVar) (txt_any (i := 0) (δ := [some (.str z), none]) rfl)) rfl (by rw [Array.length_toList]; exact lab_len h) fun c hc => ⟨_, rfl, rfl, ev_bin (g := dIn) (ev_var (i := 1) (d := .str ⟨#[c]⟩) rfl rfl) (b := mC (.str "abcdefghijklmnopqrstuvwxyz")) rfl (letter_ok (h.c c hc))⟩
  exact ((ev_and1 e1).trans ((ev_and1 e2).trans e3)).trans (by simp)
theorem is_list_l {ds : List D} (hf : isFzs ds = true) : m_is_list [.lst false ds] = some (.bl true, [.lst false ds]) := by
  have h0 : isFz (.lst false ds) = true := by simp only [isFz, hf]; rfl
  exact fin_rt (np := 1) (N := 1) (δ := []) rfl (by decide) (ev_ret (ev_callB (ev_cons (ev_var (i := 0) (d := .lst false ds) rfl h0) (ev_cons (x := .tup [.ty .lst, .ty .tup]) rfl (r := mNil) rfl)) rfl))
theorem cut_take {α : Type} (ds : List α) (k : Nat) : DL.cutD ds none (some (k : Int)) = ds.take k := by
  unfold DL.cutD
  rw [HT.sIx_none, HT.sIx_nat]
  simp
theorem isFz_lst {ds : List D} (hf : isFzs ds = true) : isFz (.lst false ds) = true := by simp only [isFz, hf]; rfl
theorem isFz_tup {ds : List D} (hf : isFzs ds = true) : isFz (.tup ds) = true := by simp only [isFz, hf]
theorem dif_q {xs : List Str} (hn : xs.Nodup) : (xs.zipIdx.all fun p => !decide (p.1 ∈ xs.take p.2)) = true := by
  refine List.all_eq_true.mpr fun p hp => ?_
  obtain ⟨x, k⟩ := p
  have hk := List.mem_zipIdx_iff_getElem?.mp hp
  simp only [Bool.not_eq_true', decide_eq_false_iff_not]
  intro hm
  obtain ⟨j, hj⟩ := List.mem_iff_getElem?.mp hm
  rw [List.getElem?_take] at hj
  split at hj
  · rename_i hjk
    have h1 := (List.getElem?_eq_some_iff.mp hj)
    have h2 := (List.getElem?_eq_some_iff.mp hk)
    have := (List.getElem_inj hn).mp (h1.2.trans h2.2.symm)
    omega
  · cases hj
theorem different_l {xs : List Str} (hn : xs.Nodup) (hl : xs.length ≤ 100) (hok : ∀ x ∈ xs, PyData.strOk x = true) : m_are_different [.lst false (xs.map D.str)] = some (.bl true, [.lst false (xs.map D.str)]) := by
  have hf := isFz_lst (isFzs_strs xs)
  refine fin_rt (np := 1) (N := 3) (δ := [none, none]) rfl (by decide) (ev_ret ?_)
  have hi : iEnum2 (mCons (mVar 0) mNil) [some (.lst false (xs.map D.str)), none, none] = some (xs.zipIdx.map fun p => D.tup [.int p.2, .str p.1], [some (.lst false (xs.map D.str)), none, none]) := by
    unfold iEnum2
    rw [ev_cons (ev_var (i := 0) rfl hf) (r := mNil) rfl]
    simp only [seqD, fzs_strs, enumF_typ]
  refine (all_typ (own := [1, 2]) xs.zipIdx _ (fun p => !decide (p.1 ∈ xs.take p.2)) hi rfl (by simp; exact Nat.le_trans hl (by decide)) fun p hp => ⟨_, rfl, rfl, ?_⟩).trans (by rw [dif_q hn]; rfl)
  have hp1 : p.1 ∈ xs := by
    have := List.mem_zipIdx_iff_getElem?.mp hp
    exact List.mem_of_getElem? this
  refine ev_bin (g := dNotIn) (ev_var (i := 2) (d := .str p.1) rfl rfl) (y := .lst true ((xs.take p.2).map D.str)) ?_ (notIn_lst (hok _ hp1) fun x hx => hok x (List.mem_of_mem_take hx))
  show mSl (mVar 0) oNone (oSome (mVar 1)) [some (.lst false (xs.map D.str)), some (.int p.2), some (.str p.1)] = _
  unfold mSl
  rw [ev_var (i := 0) rfl hf]
  show (match dSl (.lst false (xs.map D.str)) none (some (p.2 : Int)) with | some r => some (r, _) | none => none) = _
  have : dSl (.lst false (xs.map D.str)) none (some (p.2 : Int)) = some (.lst true ((xs.take p.2).map D.str)) := by
    unfold dSl
    simp only [cut_take, List.map_take, fzs_strs]
  rw [this]
  rfl
theorem values_l {xs : List Str} (hn : xs.Nodup) (h2 : 2 ≤ xs.length) (h3 : xs.length ≤ 3) (hok : ∀ x ∈ xs, Lab x) : m_are_values [.lst false (xs.map D.str)] = some (.bl true, [.lst false (xs.map D.str)]) := by
  have hf := isFz_lst (isFzs_strs xs)
  refine fin_rt (np := 1) (N := 2) (δ := [none]) rfl (by decide) (ev_ret ?_)
  have v0 : mVar 0 [some (.lst false (xs.map D.str)), none] = some (.lst false (xs.map D.str), [some (.lst false (xs.map D.str)), none]) := ev_var (i := 0) rfl hf
  have e1 := ev_calle1 v0 (is_list_l (isFzs_strs xs))
  have e2 := ev_chain (g := dLe) (g' := dLe) (a := mC (.int 2)) (c := mC (.int 3)) (δ := [some (.lst false (xs.map D.str)), none]) rfl (ev_call1 (g := dLen) v0 (d := .int xs.length) (by simp [dLen])) rfl rfl rfl rfl
  rw [show decide ((2 : Int) ≤ xs.length) = true from decide_eq_true (by omega), show decide ((xs.length : Int) ≤ 3) = true from decide_eq_true (by omega)] at e2
  have e3 := all_typ (own := [1]) (t := tName 1) (m := mCall m_is_name [.e (mVar 1)] []) (δ1 := [some (.lst false (xs.map D.str)), none]) xs D.str (fun _ => true) (ev_alt (b := keysAt 0 pVar) ((iAny_lst v0).trans (by rw [fzs_strs]))) rfl (Nat.le_trans h3 (by decide)) fun x hx => ⟨_, rfl, rfl, ev_calle1 (ev_var (i := 1) rfl rfl) (is_name_ok (hok x hx))⟩
  rw [show (xs.all fun _ => true) = true by simp] at e3
  exact (ev_and1 e1).trans ((ev_and1 e2).trans ((ev_and1 e3).trans (ev_calle1 v0 (different_l hn (by omega) fun x hx => (hok x hx).ok))))
end K03
set_option Elab.async false
set_option linter.all false
set_option maxRecDepth 100000
set_option maxHeartbeats 0
namespace K03
open PySem PySem.Spec PyProof.Rows L2 DL
abbrev Cs := List (Str × List Str)
def nms (hs : Cs) : List Str := hs.map (·.1)
def vls (hs : Cs) : List (List Str) := hs.map (·.2)
abbrev tp (xs : List Str) : D := tpS xs
def lf (xs : List Str) : D := .lst false (xs.map D.str)
def CD (ws : Cs) : D := .dct false ((nms ws).map Sum.inr) (ws.map fun w => lf w.2)
def HD (o : Bool) (hs : Cs) : D := .obj o "Hall" ["names", "hall_values", "first"] [tp (nms hs), .tup ((vls hs).map tp), .tup ((vls hs).map fun v => .str (v.headD ""))]
theorem fz_tp (xs : List Str) : isFz (tp xs) = true := isFz_tup (isFzs_strs xs)
theorem fz_lf (xs : List Str) : isFz (lf xs) = true := isFz_lst (isFzs_strs xs)
theorem fz_CD (ws : Cs) : isFz (CD ws) = true := by
  have : isFzs (ws.map fun w => lf w.2) = true := isFzs_typ _ (fun w => fz_lf w.2) ws
  simp only [CD, isFz, this]; rfl
theorem fz_HD (hs : Cs) : isFz (HD false hs) = true := by
  have h1 : isFzs ((vls hs).map tp) = true := isFzs_typ _ fz_tp _
  have h2 : isFzs ((vls hs).map fun v => D.str (v.headD "")) = true := isFzs_typ _ (fun _ => rfl) _
  simp only [HD, isFz, isFzs, h1, h2, fz_tp]; rfl
theorem frz_HD (o : Bool) (hs : Cs) : fz (HD o hs) = HD false hs := by
  have h1 : isFzs ((vls hs).map tp) = true := isFzs_typ _ fz_tp _
  have h2 : isFzs ((vls hs).map fun v => D.str (v.headD "")) = true := isFzs_typ _ (fun _ => rfl) _
  simp only [HD, fz, fzs, fz_isFz _ (fz_tp _), fzs_isFzs _ h1, fzs_isFzs _ h2]
structure Ok (hs : Cs) : Prop where
  a : 1 ≤ hs.length
  b : hs.length ≤ 3
  n : (nms hs).Nodup
  l : ∀ h ∈ hs, Lab h.1
  v2 : ∀ h ∈ hs, 2 ≤ h.2.length
  v3 : ∀ h ∈ hs, h.2.length ≤ 3
  vn : ∀ h ∈ hs, h.2.Nodup
  vl : ∀ h ∈ hs, ∀ v ∈ h.2, Lab v
theorem Ok.perm {hs ws : Cs} (h : Ok hs) (p : ws.Perm hs) : Ok ws :=
  ⟨by rw [p.length_eq]; exact h.a, by rw [p.length_eq]; exact h.b, (p.map _).nodup_iff.mpr h.n, fun x hx => h.l x (p.mem_iff.mp hx), fun x hx => h.v2 x (p.mem_iff.mp hx), fun x hx => h.v3 x (p.mem_iff.mp hx), fun x hx => h.vn x (p.mem_iff.mp hx), fun x hx => h.vl x (p.mem_iff.mp hx)⟩
theorem inr_nodup {zs : List Str} (h : zs.Nodup) : (zs.map (Sum.inr : Str → Key)).Nodup := List.Pairwise.map _ (fun a b (e : a ≠ b) q => e (Sum.inr.inj q)) h
theorem CD_at {ws : Cs} {w : Str × List Str} (hn : (nms ws).Nodup) (hw : w ∈ ws) : walk (CD ws) [.sub (.inr w.1)] = some (lf w.2, CD ws) := by
  obtain ⟨j, hj⟩ := List.mem_iff_getElem?.mp hw
  refine walk_key (isFzs_typ _ (fun w => fz_lf w.2) ws) (inr_nodup hn) (j := j) ?_ ?_
  · simp only [nms, List.getElem?_map, hj, Option.map_some]
  · simp only [List.getElem?_map, hj, Option.map_some]
theorem keys_ev {i : Nat} {δ : DL.Env} {ws : Cs} (h : δ[i]? = some (some (CD ws))) : keysAt i pVar δ = some (ws.map fun w => D.str w.1, δ) := by
  unfold keysAt
  rw [ev_pathF h rfl (walk_nilF (fz_CD ws))]
  simp only [CD, nms, List.map_map]
  rfl
theorem any_dct {a : ME} {δ δ1 : DL.Env} {o : Bool} {ks : List Key} {vs : List D} (h : a δ = some (.dct o ks vs, δ1)) : iAny a δ = none := by
  unfold iAny DL.iLst DL.iTup DL.iTxt
  rw [h]
  rfl
theorem alt_none {a b : MI} {δ : DL.Env} (h : a δ = none) : iAlt a b δ = b δ := by
  unfold iAlt
  rw [h]
/-- the values of a cell, where the slot of the name is j -/
theorem at_name {i j : Nat} {δ : DL.Env} {ws : Cs} {w : Str × List Str} {m : List Bool} (h : δ[i]? = some (some (CD ws))) (hk : (kPur m (mVar j)) δ = some (.str w.1)) (hn : (nms ws).Nodup) (hw : w ∈ ws) : mPath i (pSub pVar (kPur m (mVar j))) δ = some (lf w.2, δ) := by
  refine ev_pathF h (p := [.sub (.inr w.1)]) ?_ (CD_at hn hw)
  unfold pSub
  simp only [pVar, hk]
  rfl
theorem hall_init {hs ws : Cs} (H : Ok hs) (hp : ws.Perm hs) (hs0 : (nms hs).Pairwise fun a b => leS a b = true) : m_Hall___init__ [.obj true "Hall" [] [], CD ws] = some (.non, [HD true hs, CD ws]) := by
  have W := H.perm hp
  have hl : ((nms ws).length : Int) = ws.length := by simp [nms]
  have c1 : (tOr2 (tNot1 (mTru (mCallB (dIsO ct) (mCons (mVar 1) (mCons (mC (.ty .dct)) mNil))))) (tNot1 (toT (mChain dLe dLe (mC (.int 1)) (mCallB dLen (mCons (mVar 1) mNil)) (mC (.int 3)))))) [some (.obj true "Hall" [] []), some (CD ws), none, none] = some (false, [some (.obj true "Hall" [] []), some (CD ws), none, none]) := by
    have v1 : mVar 1 [some (.obj true "Hall" [] []), some (CD ws), none, none] = some (CD ws, [some (.obj true "Hall" [] []), some (CD ws), none, none]) := ev_var rfl (fz_CD ws)
    have e2 := ev_chain (g := dLe) (g' := dLe) (a := mC (.int 1)) (c := mC (.int 3)) (δ := [some (.obj true "Hall" [] []), some (CD ws), none, none]) rfl (ev_call1 (g := dLen) v1 (d := .int ws.length) (by simp [dLen, CD, nms])) rfl rfl rfl rfl
    have a1 := W.a
    have a2 := W.b
    rw [show decide ((1 : Int) ≤ ws.length) = true from decide_eq_true (by omega), show decide ((ws.length : Int) ≤ 3) = true from decide_eq_true (by omega)] at e2
    exact ev_or2 (p := false) (ev_not1 (p := true) (ev_tru (ev_callB (ev_cons v1 (ev_cons (x := .ty .dct) rfl (r := mNil) rfl)) rfl))) fun _ => ev_not1 (p := true) (ev_toT e2)
  have c2 : (tNot1 (mTru (mCallB dAll (mCons (mLc (iAlt (iAny (mVar 1)) (keysAt 1 pVar)) [2] (tName 2) tTrue (mAnd (mCall m_is_name [.e (mVar 2)] []) (mCall m_are_values [.e (mAlt (mPath 1 (pSub pVar (kPur [false, false, true] (mVar 2)))) (mBin dIx (mVar 1) (mVar 2)))] []))) mNil)))) [some (.obj true "Hall" [] []), some (CD ws), none, none] = some (false, [some (.obj true "Hall" [] []), some (CD ws), none, none]) := by
    have v1 : mVar 1 [some (.obj true "Hall" [] []), some (CD ws), none, none] = some (CD ws, [some (.obj true "Hall" [] []), some (CD ws), none, none]) := ev_var rfl (fz_CD ws)
    have a := all_typ (own := [2]) (t := tName 2) (m := (mAnd (mCall m_is_name [.e (mVar 2)] []) (mCall m_are_values [.e (mAlt (mPath 1 (pSub pVar (kPur [false, false, true] (mVar 2)))) (mBin dIx (mVar 1) (mVar 2)))] []))) (δ1 := [some (.obj true "Hall" [] []), some (CD ws), none, none]) ws (fun w => D.str w.1) (fun _ => true) ((alt_none (any_dct v1)).trans (keys_ev (i := 1) rfl)) rfl (Nat.le_trans W.b (by decide)) fun w hw => ⟨_, rfl, rfl, (ev_and1 (ev_calle1 (ev_var (i := 2) rfl rfl) (is_name_ok (W.l w hw)))).trans (ev_calle1 (ev_altE (at_name rfl rfl W.n hw)) (values_l (W.vn w hw) (W.v2 w hw) (W.v3 w hw) (W.vl w hw)))⟩
    rw [show (ws.all fun _ => true) = true by simp] at a
    exact ev_not1 (p := true) (ev_tru a)
  have s1 : (nms ws).mergeSort leS = nms hs := by
    rw [sort_perm (show (nms ws).Perm (nms hs) from hp.map _)]
    exact List.mergeSort_of_pairwise hs0
  have c3 : (sPutF 0 pVar ["Hall"] "names" (mCallB dTuple (mCons (mCallB dSortA (mCons (mVar 1) mNil)) mNil))) [some (.obj true "Hall" [] []), some (CD ws), none, none] = some (.nx [some (.obj true "Hall" ["names"] [tp (nms hs)]), some (CD ws), none, none]) := by
    refine ev_putF0 (ev_call1 (g := dTuple) (ev_call1 (g := dSortA) (ev_var (i := 1) rfl (fz_CD ws)) (sort_keys ?_)) (d := tp (nms hs)) ?_) rfl
    · simp only [nms, List.length_map]; have := W.b; omega
    · rw [s1]; rfl
  have c4 : (sPutF 0 pVar ["Hall"] "hall_values" (mCallB dTuple (mCons (mLc (iAlt (iAny (mPath 0 (pFld pVar ["Hall"] "names"))) (keysAt 0 (pFld pVar ["Hall"] "names"))) [2] (tName 2) tTrue (mCallB dTuple (mCons (mAlt (mPath 1 (pSub pVar (kPur [false, false, true] (mVar 2)))) (mBin dIx (mVar 1) (mVar 2))) mNil))) mNil))) [some (.obj true "Hall" ["names"] [tp (nms hs)]), some (CD ws), none, none] = some (.nx [some (.obj true "Hall" ["names", "hall_values"] [tp (nms hs), .tup ((vls hs).map tp)]), some (CD ws), none, none]) := by
    have p0 : mPath 0 (pFld pVar ["Hall"] "names") [some (.obj true "Hall" ["names"] [tp (nms hs)]), some (CD ws), none, none] = some (tp (nms hs), [some (.obj true "Hall" ["names"] [tp (nms hs)]), some (CD ws), none, none]) :=
      ev_path rfl rfl (walk1 (j := 0) rfl rfl rfl (walk_nilF (fz_tp (nms hs))))
    have a := lc_map (own := [2]) (t := tName 2) (m := (mCallB dTuple (mCons (mAlt (mPath 1 (pSub pVar (kPur [false, false, true] (mVar 2)))) (mBin dIx (mVar 1) (mVar 2))) mNil))) (δ1 := [some (.obj true "Hall" ["names"] [tp (nms hs)]), some (CD ws), none, none]) hs (fun w => D.str w.1) (fun w => tp w.2) (ev_altI (b := keysAt 0 (pFld pVar ["Hall"] "names")) ((iAny_tup p0 (isFzs_strs _)).trans (by simp [nms, List.map_map, Function.comp]))) rfl (Nat.le_trans H.b (by decide)) fun w hw => ⟨_, rfl, rfl, ev_call1 (g := dTuple) (ev_altE (at_name rfl rfl W.n (hp.mem_iff.mpr hw))) rfl⟩
    refine ev_putF0 (ev_call1 (g := dTuple) a (d := .tup ((vls hs).map tp)) ?_) rfl
    simp [vls, dTuple, List.map_map, Function.comp]
  have c5 : (sPutF 0 pVar ["Hall"] "first" (mCallB dTuple (mCons (mLc (iAlt (iAny (mPath 0 (pFld pVar ["Hall"] "hall_values"))) (keysAt 0 (pFld pVar ["Hall"] "hall_values"))) [3] (tName 3) tTrue (mAlt (mPath 3 (pSub pVar (kC (.int 0)))) (mBin dIx (mVar 3) (mC (.int 0))))) mNil))) [some (.obj true "Hall" ["names", "hall_values"] [tp (nms hs), .tup ((vls hs).map tp)]), some (CD ws), none, none] = some (.nx [some (HD true hs), some (CD ws), none, none]) := by
    have hf : isFzs ((vls hs).map tp) = true := isFzs_typ _ fz_tp _
    have p0 : mPath 0 (pFld pVar ["Hall"] "hall_values") [some (.obj true "Hall" ["names", "hall_values"] [tp (nms hs), .tup ((vls hs).map tp)]), some (CD ws), none, none] = some (.tup ((vls hs).map tp), [some (.obj true "Hall" ["names", "hall_values"] [tp (nms hs), .tup ((vls hs).map tp)]), some (CD ws), none, none]) :=
      ev_path rfl rfl (walk1 (j := 1) rfl rfl rfl (walk_nilF (isFz_tup hf)))
    have a := lc_map (own := [3]) (t := tName 3) (m := (mAlt (mPath 3 (pSub pVar (kC (.int 0)))) (mBin dIx (mVar 3) (mC (.int 0))))) (δ1 := [some (.obj true "Hall" ["names", "hall_values"] [tp (nms hs), .tup ((vls hs).map tp)]), some (CD ws), none, none]) (vls hs) tp (fun v => .str (v.headD "")) (ev_altI (b := keysAt 0 (pFld pVar ["Hall"] "hall_values")) (iAny_tup p0 hf)) rfl (by simp only [vls, List.length_map]; exact Nat.le_trans H.b (by decide)) fun v hv => ⟨_, rfl, rfl, by
      obtain ⟨w, hw, rfl⟩ := List.mem_map.mp hv
      have h2 := H.v2 w hw
      match e : w.2, h2 with
      | x :: r, _ =>
        exact ev_altE (ev_pathF (i := 3) (d := tp (x :: r)) rfl (p := [.sub (.inl 0)]) rfl (walkF (fz_tp _) (j := 0) (by
          show ixN ((x :: r).map D.str).length 0 = some 0
          simp [ixN]) rfl (walk_nilF rfl)))⟩
    refine ev_putF0 (ev_call1 (g := dTuple) a (d := .tup ((vls hs).map fun v => .str (v.headD ""))) rfl) rfl
  have body : b_Hall___init__ [some (.obj true "Hall" [] []), some (CD ws), none, none] = some (.nx [some (HD true hs), some (CD ws), none, none]) :=
    (ev_seq ((ev_if0 c1).trans rfl)).trans ((ev_seq ((ev_if0 c2).trans rfl)).trans ((ev_seq c3).trans ((ev_seq c4).trans c5)))
  show (if ([.obj true "Hall" [] [], CD ws] : List D).length = 2 then match b_Hall___init__ [some (.obj true "Hall" [] []), some (CD ws), none, none] with | some (.rt r δ) => (match backs P_Hall___init__ 0 [.obj true "Hall" [] [], CD ws] δ with | some bs => some (r, bs) | none => none) | some (.nx δ) => (match backs P_Hall___init__ 0 [.obj true "Hall" [] [], CD ws] δ with | some bs => some (D.non, bs) | none => none) | _ => none else none) = _
  rw [body]
  rfl
end K03
set_option Elab.async false
set_option linter.all false
set_option maxRecDepth 100000
set_option maxHeartbeats 0
namespace K03
open PySem PySem.Spec PyProof.Rows L2 DL
def isStr : D → Bool
  | .str _ => true
  | _ => false
def isTup : D → Bool
  | .tup _ => true
  | _ => false
structure It (e : D) : Prop where
  f : isFz e = true
  s : dIsO ct [e, .ty .str] = some (.bl (isStr e))
  w : ∀ z, e = .str z → PyData.strOk z = true
structure Th (d : D) : Prop where
  f : isFz d = true
  t : dIsO ct [d, .ty .tup] = some (.bl (isTup d))
  i : ∀ ds, d = .tup ds → ds.length ≤ 100 ∧ ∀ e ∈ ds, It e
def inV (vs : List Str) : D → Bool
  | .str z => decide (z ∈ vs)
  | _ => false
def allZ (more : List Str) (hs : Cs) (ds : List D) : Bool := ((vls hs).zip ds).all fun p => inV (p.1 ++ more) p.2
def likeB (more : List Str) (hs : Cs) : D → Bool
  | .tup ds => decide (ds.length = hs.length) && allZ more hs ds
  | _ => false
def lenB (hs : Cs) : D → Bool
  | .tup ds => decide (ds.length = hs.length)
  | _ => false
theorem lenB_t {hs : Cs} {ds : List D} (h : ds.length = hs.length) : lenB hs (.tup ds) = true := decide_eq_true h
theorem lenB_f {hs : Cs} {ds : List D} (h : ¬ ds.length = hs.length) : lenB hs (.tup ds) = false := decide_eq_false h
theorem need_hall_ok (hs : Cs) : m_need_hall [HD false hs] = some (.non, [HD false hs]) := by
  refine fin_nx (np := 1) (N := 1) (δ := []) rfl (by decide) ((ev_if0 (ev_not1 (p := true) (ev_tru (ev_callB (ev_cons (ev_var (i := 0) (d := HD false hs) rfl (fz_HD hs)) (ev_cons (x := .glo "Hall") rfl (r := mNil) rfl)) ?_)))).trans rfl)
  rfl
theorem names_ev {hs : Cs} {i : Nat} {δ : DL.Env} (h : δ[i]? = some (some (HD false hs))) : mPath i (pFld pVar ["Hall"] "names") δ = some (tp (nms hs), δ) :=
  ev_pathF h (p := [.fld ["Hall"] "names"]) rfl (walkF (fz_HD hs) (j := 0) rfl rfl (walk_nilF (fz_tp _)))
theorem fz_vt (hs : Cs) : isFzs ((vls hs).map tp) = true := isFzs_typ _ fz_tp _
theorem values_ev {hs : Cs} {i : Nat} {δ : DL.Env} (h : δ[i]? = some (some (HD false hs))) : mPath i (pFld pVar ["Hall"] "hall_values") δ = some (.tup ((vls hs).map tp), δ) :=
  ev_pathF h (p := [.fld ["Hall"] "hall_values"]) rfl (walkF (fz_HD hs) (j := 1) rfl rfl (walk_nilF (isFz_tup (fz_vt hs))))
theorem ix_nat {n k : Nat} (h : k < n) : ixN n (k : Int) = some k := by
  unfold ixN
  rw [if_pos (by omega), if_pos (by omega)]
  simp
theorem value_ev {hs : Cs} {k : Nat} {i j : Nat} {m : List Bool} {δ : DL.Env} {vs : List Str} (h : δ[i]? = some (some (HD false hs))) (hk : (kPur m (mVar j)) δ = some (.int k)) (hv : (vls hs)[k]? = some vs) : mPath i (pSub (pFld pVar ["Hall"] "hall_values") (kPur m (mVar j))) δ = some (tp vs, δ) := by
  refine ev_pathF h (p := [.fld ["Hall"] "hall_values", .sub (.inl k)]) ?_ (walkF (fz_HD hs) (j := 1) rfl rfl (walkF (isFz_tup (fz_vt hs)) (j := k) ?_ ?_ (walk_nilF (fz_tp _))))
  · unfold pSub
    simp only [pFld, pVar, hk]
    rfl
  · refine ix_nat ?_
    rw [List.length_map]
    exact (List.getElem?_eq_some_iff.mp hv).1
  · show ((vls hs).map tp)[k]? = _
    rw [List.getElem?_map, hv]; rfl
theorem has_items_ok {hs : Cs} {d : D} (h : Th d) : m_has_items [HD false hs, d] = some (.bl (lenB hs d), [HD false hs, d]) := by
  refine fin_rt (np := 2) (N := 2) (δ := []) rfl (by decide) (ev_ret ?_)
  have e1 := ev_callB (g := dIsO ct) (ev_cons (ev_var (i := 1) (δ := [some (HD false hs), some d]) rfl h.f) (ev_cons (a := mC (.ty .tup)) rfl (r := mNil) rfl)) h.t
  by_cases ht : ∃ ds, d = .tup ds
  · obtain ⟨ds, rfl⟩ := ht
    refine (ev_and1 e1).trans (ev_bin (g := dEq) (ev_call1 (g := dLen) (ev_var (i := 1) (d := .tup ds) rfl h.f) (d := .int ds.length) rfl) (ev_call1 (g := dLen) (names_ev rfl) (d := .int hs.length) (by simp [dLen, tp, tpS, nms])) ?_)
    show some (D.bl (decide ((ds.length : Int) = hs.length))) = some (D.bl (decide (ds.length = hs.length)))
    congr 2
    exact decide_eq_decide.mpr (by omega)
  · have hb : isTup d = false := by cases d <;> first | rfl | exact absurd ⟨_, rfl⟩ ht
    rw [hb] at e1
    refine (ev_and0 e1).trans ?_
    cases d <;> first | rfl | exact absurd ⟨_, rfl⟩ ht
theorem value_of_ok {hs : Cs} {k : Nat} {vs : List Str} {e : D} (H : Ok hs) (he : It e) (hv : (vls hs)[k]? = some vs) : m_is_value_of [HD false hs, .int k, e] = some (.bl (inV vs e), [HD false hs, .int k, e]) := by
  refine fin_rt (np := 3) (N := 3) (δ := []) rfl (by decide) (ev_ret ?_)
  have e1 := ev_callB (g := dIsO ct) (ev_cons (ev_var (i := 2) (δ := [some (HD false hs), some (.int k), some e]) rfl he.f) (ev_cons (a := mC (.ty .str)) rfl (r := mNil) rfl)) he.s
  by_cases ht : ∃ z, e = .str z
  · obtain ⟨z, rfl⟩ := ht
    refine (ev_and1 e1).trans (ev_bin (g := dIn) (ev_var (i := 2) (d := .str z) rfl rfl) (value_ev (k := k) rfl rfl hv) (in_tup (he.w z rfl) fun x hx => ?_))
    obtain ⟨w, hw, rfl⟩ := List.mem_map.mp (List.mem_of_getElem? hv)
    exact (H.vl w hw x hx).ok
  · have hb : isStr e = false := by cases e <;> first | rfl | exact absurd ⟨_, rfl⟩ ht
    rw [hb] at e1
    refine (ev_and0 e1).trans ?_
    cases e <;> first | rfl | exact absurd ⟨_, rfl⟩ ht
theorem enum_ev {ds : List D} {δ : DL.Env} {i : Nat} (h : δ[i]? = some (some (.tup ds))) (hf : isFzs ds = true) : iEnum2 (mCons (mVar i) mNil) δ = some (ds.zipIdx.map fun p => D.tup [.int p.2, p.1], δ) := by
  unfold iEnum2
  rw [ev_cons (ev_var h (isFz_tup hf)) (r := mNil) rfl]
  simp only [seqD, fzs_isFzs ds hf]
  have := enumF_typ id ds 0
  simp only [List.map_id, id] at this
  rw [this]
theorem is_scene_ok {hs : Cs} {d : D} (H : Ok hs) (h : Th d) : m_is_scene [HD false hs, d] = some (.bl (likeB [] hs d), [HD false hs, d]) := by
  have e0 := ev_calle1 (ev_var (i := 0) (δ := [some (HD false hs), some d, none, none]) rfl (fz_HD hs)) (need_hall_ok hs)
  have e1 := ev_calle2 (ev_var (i := 0) (δ := [some (HD false hs), some d, none, none]) rfl (fz_HD hs)) (ev_var (i := 1) rfl h.f) (has_items_ok (hs := hs) h)
  refine fin_rt (np := 2) (N := 4) (δ := [none, none]) rfl (by decide) ((ev_seq (ev_expr e0)).trans (ev_ret ?_))
  by_cases ht : ∃ ds, d = .tup ds
  · obtain ⟨ds, rfl⟩ := ht
    by_cases hl : ds.length = hs.length
    · rw [lenB_t hl] at e1
      obtain ⟨h100, hi⟩ := h.i ds rfl
      have hf : isFzs ds = true := isFzs_iff.mpr fun e he => (hi e he).f
      have a := all_typ (own := [2, 3]) (t := tTup (tsCons (tName 2) (tsCons (tName 3) tsNil))) (m := mCall m_is_value_of [.e (mVar 0), .e (mVar 2), .e (mVar 3)] []) (δ1 := [some (HD false hs), some (.tup ds), none, none]) ds.zipIdx (fun p => D.tup [.int p.2, p.1]) (fun p => inV ((vls hs).getD p.2 []) p.1) (enum_ev (i := 1) rfl hf) rfl (by simp; exact Nat.le_trans h100 (by decide)) fun p hp => by
        have hg := List.mem_zipIdx_iff_getElem?.mp hp
        have hk : p.2 < (vls hs).length := by
          have := (List.getElem?_eq_some_iff.mp hg).1
          simp only [vls, List.length_map]; omega
        have hie := hi p.1 (List.mem_of_getElem? hg)
        refine ⟨_, rfl, rfl, ev_calle3 (ev_var (i := 0) rfl (fz_HD hs)) (ev_var (i := 2) (d := .int p.2) rfl rfl) (ev_var (i := 3) rfl hie.f) (value_of_ok H hie ?_)⟩
        rw [List.getD_eq_getElem?_getD, List.getElem?_eq_getElem hk]; rfl
      refine (ev_and1 e1).trans (a.trans ?_)
      have z := zipIdx_all (fun vs e => inV vs e) [] ds (vls hs) [] (by simp [vls, hl])
      simp only [List.nil_append, List.length_nil] at z
      rw [z]
      simp [likeB, allZ, hl]
    · rw [lenB_f hl] at e1
      refine (ev_and0 e1).trans ?_
      simp [likeB, hl]
  · have : lenB hs d = false ∧ likeB [] hs d = false := by
      cases d <;> first | exact ⟨rfl, rfl⟩ | exact absurd ⟨_, rfl⟩ ht
    obtain ⟨q1, q2⟩ := this
    rw [q1] at e1
    rw [q2]
    exact ev_and0 e1
theorem inV_more {vs : List Str} {e : D} : inV (vs ++ [("" : Str)]) e = (match e with | .str z => decide (z = "") || decide (z ∈ vs) | _ => false) := by
  cases e <;> simp [inV, Bool.or_comm]
theorem is_pattern_ok {hs : Cs} {d : D} (H : Ok hs) (h : Th d) : m_is_pattern [HD false hs, d] = some (.bl (likeB [""] hs d), [HD false hs, d]) := by
  have e0 := ev_calle1 (ev_var (i := 0) (δ := [some (HD false hs), some d, none, none]) rfl (fz_HD hs)) (need_hall_ok hs)
  have e1 := ev_calle2 (ev_var (i := 0) (δ := [some (HD false hs), some d, none, none]) rfl (fz_HD hs)) (ev_var (i := 1) rfl h.f) (has_items_ok (hs := hs) h)
  refine fin_rt (np := 2) (N := 4) (δ := [none, none]) rfl (by decide) ((ev_seq (ev_expr e0)).trans ?_)
  by_cases ht : ∃ ds, d = .tup ds ∧ ds.length = hs.length
  · obtain ⟨ds, rfl, hl⟩ := ht
    rw [lenB_t hl] at e1
    obtain ⟨h100, hi⟩ := h.i ds rfl
    have hf : isFzs ds = true := isFzs_iff.mpr fun e he => (hi e he).f
    have hd : mVar 1 [some (HD false hs), some (.tup ds), none, none] = some (.tup ds, [some (HD false hs), some (.tup ds), none, none]) := ev_var rfl h.f
    have a := all_typ (own := [2]) (t := tName 2) (m := (mCallB (dIsO ct) (mCons (mVar 2) (mCons (mC (.ty .str)) mNil)))) (δ1 := [some (HD false hs), some (.tup ds), none, none]) ds id isStr (ev_altI (b := keysAt 1 pVar) ((iAny_tup hd hf).trans (by simp))) rfl (Nat.le_trans h100 (by decide)) fun e he => ⟨_, rfl, rfl, ev_callB (ev_cons (ev_var (i := 2) rfl (hi e he).f) (ev_cons (a := mC (.ty .str)) rfl (r := mNil) rfl)) (hi e he).s⟩
    by_cases hs' : ds.all isStr = true
    · rw [hs'] at a
      refine (ev_seq ((ev_if0 (ev_or2 (p := false) (q := false) (ev_not1 (p := true) (ev_tru e1)) fun _ => ev_not1 (p := true) (ev_tru a))).trans rfl)).trans (ev_ret ?_)
      have a2 := all_typ (own := [3, 2]) (t := tTup (tsCons (tName 3) (tsCons (tName 2) tsNil))) (m := (mOr (mBin dEq (mVar 2) (mC (.str ""))) (mCall m_is_value_of [.e (mVar 0), .e (mVar 3), .e (mVar 2)] []))) (δ1 := [some (HD false hs), some (.tup ds), none, none]) ds.zipIdx (fun p => D.tup [.int p.2, p.1]) (fun p => inV ((vls hs).getD p.2 [] ++ [("" : Str)]) p.1) (enum_ev (i := 1) rfl hf) rfl (by simp; exact Nat.le_trans h100 (by decide)) fun p hp => by
        have hg := List.mem_zipIdx_iff_getElem?.mp hp
        have hk : p.2 < (vls hs).length := by
          have := (List.getElem?_eq_some_iff.mp hg).1
          simp only [vls, List.length_map]; omega
        have hm := List.mem_of_getElem? hg
        have hie := hi p.1 hm
        have hst := List.all_eq_true.mp hs' p.1 hm
        refine ⟨_, rfl, rfl, ?_⟩
        obtain ⟨e, k⟩ := p
        cases e with
        | str z =>
          have q1 : (mBin dEq (mVar 2) (mC (.str ""))) [some (HD false hs), some (.tup ds), some (.str z), some (.int k)] = some (.bl (decide (z = "")), [some (HD false hs), some (.tup ds), some (.str z), some (.int k)]) := ev_bin (ev_var (i := 2) rfl rfl) (b := mC (.str "")) rfl rfl
          rw [inV_more]
          show mOr _ _ [some (HD false hs), some (.tup ds), some (.str z), some (.int k)] = some (.bl (decide (z = "") || decide (z ∈ (vls hs).getD k [])), [some (HD false hs), some (.tup ds), some (.str z), some (.int k)])
          unfold mOr
          rw [q1]
          by_cases hz : z = ""
          · rw [decide_eq_true hz]; rfl
          · rw [decide_eq_false hz]
            show (mCall m_is_value_of [.e (mVar 0), .e (mVar 3), .e (mVar 2)] []) [some (HD false hs), some (.tup ds), some (.str z), some (.int k)] = _
            refine ev_calle3 (ev_var (i := 0) rfl (fz_HD hs)) (ev_var (i := 3) (d := .int k) rfl rfl) (ev_var (i := 2) rfl hie.f) (value_of_ok H hie ?_)
            rw [List.getD_eq_getElem?_getD, List.getElem?_eq_getElem hk]; rfl
        | _ => cases hst
      refine a2.trans ?_
      have z := zipIdx_all (fun vs e => inV (vs ++ [("" : Str)]) e) [] ds (vls hs) [] (by simp [vls, hl])
      simp only [List.nil_append, List.length_nil] at z
      rw [z]
      simp [likeB, allZ, hl]
    · have hs0 : ds.all isStr = false := by simpa using hs'
      rw [hs0] at a
      refine (ev_stop ((ev_if1 (ev_or2 (p := false) (q := true) (ev_not1 (p := true) (ev_tru e1)) fun _ => ev_not1 (p := false) (ev_tru a))).trans (ev_ret (m := mC (.bl false)) rfl))).trans ?_
      have : likeB [""] hs (.tup ds) = false := by
        obtain ⟨e, he, hb⟩ := List.all_eq_false.mp hs0
        obtain ⟨k, hk⟩ := List.mem_iff_getElem?.mp he
        have hkl := (List.getElem?_eq_some_iff.mp hk).1
        simp only [likeB, hl, decide_true, Bool.true_and, allZ]
        refine List.all_eq_false.mpr ⟨((vls hs)[k]'(by simp only [vls, List.length_map]; omega), e), ?_, ?_⟩
        · refine List.mem_iff_getElem?.mpr ⟨k, ?_⟩
          rw [List.getElem?_zip_eq_some]
          exact ⟨List.getElem?_eq_getElem _, hk⟩
        · cases e <;> simp_all [inV, isStr]
      rw [this]; rfl
  · have q : lenB hs d = false ∧ likeB [""] hs d = false := by
      cases d with
      | tup ds =>
        have hl : ¬ ds.length = hs.length := fun e => ht ⟨ds, rfl, e⟩
        exact ⟨lenB_f hl, by simp [likeB, hl]⟩
      | _ => exact ⟨rfl, rfl⟩
    rw [q.1] at e1
    rw [q.2]
    exact ev_stop ((ev_if1 (ev_or2 (p := true) (q := true) (ev_not1 (p := false) (ev_tru e1)) (fun h => by cases h))).trans (ev_ret (m := mC (.bl false)) rfl))
end K03
set_option Elab.async false
set_option linter.all false
set_option maxRecDepth 100000
set_option maxHeartbeats 0
namespace K03
open PySem PySem.Spec PyProof.Rows L2 DL
theorem cps_app (x y : Str) : (x ++ y).cps.toList = x.cps.toList ++ y.cps.toList := TL.tl_append x y
theorem len_tl (x : Str) : x.length = x.cps.toList.length := Array.length_toList.symm
abbrev LET : Str := "abcdefghijklmnopqrstuvwxyz"
def one (c : Nat) : Str := ⟨#[c]⟩
def cut5 (z : Str) : Str := cutS z none (some (5 : Int))
theorem cut5_tl (z : Str) : (cut5 z).cps.toList = z.cps.toList.take 5 := by
  unfold cut5 cutS
  rw [HT.sIx_none, show HT.sIx z.length z.length (some (5 : Int)) = min 5 z.length from HT.sIx_nat _ _ 5, List.toList_toArray]
  simp only [List.drop_zero, Nat.sub_zero]
  rw [len_tl, ← List.take_take, List.take_of_length_le (Nat.le_refl z.cps.toList.length)]
def near (z : Str) : List Str := z :: (LET.cps.toList.map fun c => cut5 z ++ one c)
theorem near_lab {z y : Str} (h : Lab z) (hy : y ∈ near z) : Lab y := by
  rcases List.mem_cons.mp hy with rfl | hy
  · exact h
  · obtain ⟨c, hc, rfl⟩ := List.mem_map.mp hy
    have e : (cut5 z ++ one c).cps.toList = z.cps.toList.take 5 ++ [c] := by rw [cps_app, cut5_tl]; rfl
    refine ⟨by rw [len_tl, e]; simp, by rw [len_tl, e]; simp; omega, fun d hd => ?_⟩
    rw [e] at hd
    rcases List.mem_append.mp hd with hd | hd
    · exact h.c d (List.mem_of_mem_take hd)
    · rw [List.mem_singleton.mp hd]
      exact letters_ok c hc
theorem let_nodup : LET.cps.toList.Nodup := by decide +kernel
theorem let_len : LET.cps.toList.length = 26 := by decide +kernel
theorem near_new {z : Str} {xs : List Str} (hx : xs.length < 26) : ∃ y r, ((near z).filter fun y => !decide (y ∈ xs)) = y :: r := by
  cases e : (near z).filter fun y => !decide (y ∈ xs) with
  | cons y r => exact ⟨y, r, rfl⟩
  | nil =>
    exfalso
    have hall : ∀ y ∈ near z, y ∈ xs := fun y hy => by
      by_cases h : y ∈ xs
      · exact h
      · have := List.filter_eq_nil_iff.mp e y hy
        simp [h] at this
    have hn : (LET.cps.toList.map fun c => cut5 z ++ one c).Nodup := List.Pairwise.map _ (fun a b hab q => hab (by
      have := congrArg (fun s : Str => s.cps.toList) q
      simp only [cps_app] at this
      have := List.append_cancel_left this
      simpa [one] using this)) let_nodup
    have := sub_len hn fun y hy => hall y (List.mem_cons_of_mem _ hy)
    rw [List.length_map, let_len] at this
    omega
theorem near_ev {z : Str} (h : Lab z) {a b d k x : Option D} : (mBin dAdd (mLst (mCons (mVar 5) mNil)) (mLc (iAlt (iAny (mVar 2)) (keysAt 2 pVar)) [7] (tName 7) tTrue (mBin dAdd (mSl (mVar 5) oNone (oSome (mC (.int 5)))) (mVar 7)))) [a, b, some (.str LET), d, k, some (.str z), x, none, none] = some (.lst true ((near z).map D.str), [a, b, some (.str LET), d, k, some (.str z), x, none, none]) := by
  have v5 : ∀ y, mVar 5 [a, b, some (.str LET), d, k, some (.str z), x, y, none] = some (.str z, [a, b, some (.str LET), d, k, some (.str z), x, y, none]) := fun y => ev_var rfl rfl
  have e2 := lc_map (own := [7]) (t := tName 7) (m := (mBin dAdd (mSl (mVar 5) oNone (oSome (mC (.int 5)))) (mVar 7))) (δ1 := [a, b, some (.str LET), d, k, some (.str z), x, none, none]) LET.cps.toList (fun c => D.str ⟨#[c]⟩) (fun c => D.str (cut5 z ++ one c)) (ev_altI (b := keysAt 2 pVar) (txt_any (i := 2) rfl)) rfl (by rw [let_len]; decide) fun c hc => ⟨_, rfl, rfl, ev_bin (g := dAdd) (x := .str (cut5 z)) (by
      show mSl (mVar 5) oNone (oSome (mC (.int 5))) [a, b, some (.str LET), d, k, some (.str z), x, some (.str ⟨#[c]⟩), none] = _
      unfold mSl
      rw [v5]
      show (match dSl (.str z) none (some 5) with | some r => some (r, _) | none => none) = _
      have : dSl (.str z) none (some 5) = some (.str (cut5 z)) := by
        unfold dSl
        exact if_pos (lab_len h)
      rw [this]
      rfl) (ev_var (i := 7) (d := .str (one c)) rfl rfl) (add_str (by
      rw [len_tl, cut5_tl]
      refine Nat.le_trans (m := 6) ?_ (by decide)
      have : (one c).length = 1 := rfl
      simp; omega))⟩
  refine ev_bin (g := dAdd) (x := .lst true [.str z]) ?_ e2 ?_
  · unfold mLst
    rw [ev_cons (v5 none) (r := mNil) rfl]
    rfl
  · refine (add_lst ?_).trans ?_
    · rw [List.length_map, let_len]
      show 1 + 26 ≤ sizeLine
      decide
    · simp [near]
theorem lab_step {z : Str} (h : Lab z) {xs : List Str} (hx : xs.length ≤ 3) (hok : ∀ x ∈ xs, Lab x) {a b k : Option D} : ∃ y, Lab y ∧ y ∉ xs ∧ (sExpr (mMeth "list" gAppend 3 (mCons (mBin dIx (mLc (iAlt (iAny (mVar 6)) (keysAt 6 pVar)) [8] (tName 8) (purT [false, false, false, true, false, false, false, false, true] (toT (mBin dNotIn (mVar 8) (mVar 3)))) (mVar 8)) (mC (.int 0))) mNil))) [a, b, some (.str LET), some (.lst true (xs.map D.str)), k, some (.str z), some (.lst true ((near z).map D.str)), none, none]
    = some (.nx [a, b, some (.str LET), some (.lst true ((xs ++ [y]).map D.str)), k, some (.str z), some (lf (near z)), none, none]) := by
  obtain ⟨y, r, hy⟩ := near_new (z := z) (xs := xs) (by omega)
  have hm : y ∈ (near z).filter fun y => !decide (y ∈ xs) := by rw [hy]; exact List.mem_cons_self
  obtain ⟨m1, m2⟩ := List.mem_filter.mp hm
  refine ⟨y, near_lab h m1, by simpa using m2, ?_⟩
  have e1 := lc_typ (own := [8]) (t := tName 8) (c := (purT [false, false, false, true, false, false, false, false, true] (toT (mBin dNotIn (mVar 8) (mVar 3))))) (m := mVar 8) (δ := [a, b, some (.str LET), some (.lst true (xs.map D.str)), k, some (.str z), some (.lst true ((near z).map D.str)), none, none])
    (δ1 := [a, b, some (.str LET), some (.lst true (xs.map D.str)), k, some (.str z), some (lf (near z)), none, none]) (near z) D.str (fun y => !decide (y ∈ xs)) D.str (ev_altI (b := keysAt 6 pVar) ((iAny_own (i := 6) rfl).trans (by rw [fzs_strs]; rfl))) rfl (by simp only [near, List.length_cons, List.length_map, let_len]; decide) fun y hy => ⟨_, rfl, rfl, by
        show purT _ _ [a, b, some (.str LET), some (.lst true (xs.map D.str)), k, some (.str z), some (lf (near z)), none, some (.str y)] = _
        unfold purT
        have q : (toT (mBin dNotIn (mVar 8) (mVar 3))) (fzE (keepM [false, false, false, true, false, false, false, false, true] [a, b, some (.str LET), some (.lst true (xs.map D.str)), k, some (.str z), some (lf (near z)), none, some (.str y)])) = some (!decide (y ∈ xs), [none, none, none, some (.lst false (xs.map D.str)), none, none, none, none, some (.str y)]) := by
          have e0 : fzE (keepM [false, false, false, true, false, false, false, false, true] [a, b, some (.str LET), some (.lst true (xs.map D.str)), k, some (.str z), some (lf (near z)), none, some (.str y)]) = [none, none, none, some (.lst false (xs.map D.str)), none, none, none, none, some (.str y)] := by
            simp [fzE, keepM, fz, fzs_strs]
          rw [e0]
          exact ev_toT (ev_bin (ev_var (i := 8) rfl rfl) (ev_var (i := 3) rfl (isFz_lst (isFzs_strs xs))) (notIn_lst (near_lab h hy).ok fun x hx => (hok x hx).ok))
        rw [q]
        rfl, fun _ => ev_var (i := 8) rfl rfl⟩
  rw [hy] at e1
  refine ev_expr (d := .non) ?_
  unfold mMeth
  have ei := ev_cons (ev_bin (g := dIx) e1 (b := mC (.int 0)) rfl (d := .str y) (by
    show (atI (D.str y :: r.map D.str) 0).map fz = _
    rw [atI_nat (v := 0) (by decide) rfl]
    rfl)) (r := mNil) rfl
  show (match (mCons _ mNil) _ with | some (ds, δ1) => _ | none => none) = _
  rw [ei]
  have hg : gAppend (.lst true (xs.map D.str)) [.str y] = some (.non, .lst true ((xs ++ [y]).map D.str)) := by
    rw [gAppend_ok (by rw [List.length_map]; exact Nat.lt_of_le_of_lt hx (by decide))]
    simp
  show (match gAppend (.lst true (xs.map D.str)) [.str y] with | some (a', d2) => some (a', _) | none => none) = _
  rw [hg]
  rfl
theorem labels_ok {s : Dr} {b : Nat} {n : Nat} (h : s.Ok b) (hb : b + 100 < 2 ^ 40) (hn : n ≤ 3) : ∃ xs : List Str, xs.length = n ∧ xs.Nodup ∧ (∀ x ∈ xs, Lab x) ∧ ∃ s' : Dr, s'.Ok (b + 30) ∧ m__law_labels [s.d, .int n] = some (.lst true (xs.map D.str), [s'.d, .int n]) := by
  obtain ⟨δ', el, xs, s', x4, x5, x6, h', hl, hnd, hlab, rfl⟩ := loopF_ind (t := tName 4) (b := (sCons (sSet 5 (mCall m__law_word [.v 0] []))
    (sCons (sSet 6 (mBin dAdd (mLst (mCons (mVar 5) mNil)) (mLc (iAlt (iAny (mVar 2)) (keysAt 2 pVar)) [7] (tName 7) tTrue (mBin dAdd (mSl (mVar 5) oNone (oSome (mC (.int 5)))) (mVar 7)))))
    (sExpr (mMeth "list" gAppend 3 (mCons (mBin dIx (mLc (iAlt (iAny (mVar 6)) (keysAt 6 pVar)) [8] (tName 8) (purT [false, false, false, true, false, false, false, false, true] (toT (mBin dNotIn (mVar 8) (mVar 3)))) (mVar 8)) (mC (.int 0))) mNil))))))
    (J := fun r δ => ∃ (xs : List Str) (s2 : Dr) (x4 x5 x6 : Option D), s2.Ok (b + 10 * xs.length) ∧ xs.length + r.length = n ∧ xs.Nodup ∧ (∀ x ∈ xs, Lab x) ∧ δ = [some s2.d, some (.int n), some (.str LET), some (.lst true (xs.map D.str)), x4, x5, x6, none, none])
    (fun d r δ hJ => by
      obtain ⟨xs, s2, x4, x5, x6, h2, hl, hnd, hlab, rfl⟩ := hJ
      simp only [List.length_cons] at hl
      obtain ⟨z, hz, s3, h3, e3⟩ := word_ok h2 (by omega)
      obtain ⟨y, hy, hyn, e4⟩ := lab_step hz (xs := xs) (by omega) hlab (a := some s3.d) (b := some (.int n)) (k := some d)
      refine ⟨_, _, rfl, (ev_seq (ev_set (i := 5) (ev_callv0 rfl e3) (by simp))).trans ((ev_seq (ev_set (i := 6) (near_ev hz) (by simp))).trans e4), xs ++ [y], s3, _, _, _, h3.mono (by simp; omega), by simp; omega, ?_, ?_, rfl⟩
      · exact List.nodup_append.mpr ⟨hnd, List.nodup_cons.mpr ⟨by simp, List.nodup_nil⟩, fun a ha b hb => by rw [List.mem_singleton.mp hb]; exact fun e => hyn (e ▸ ha)⟩
      · intro x hx
        rcases List.mem_append.mp hx with hx | hx
        · exact hlab x hx
        · rw [List.mem_singleton.mp hx]; exact hy) (rngD 0 n) [some s.d, some (.int n), some (.str LET), some (.lst true []), none, none, none, none, none] ⟨[], s, none, none, none, h.mono (by simp), by rw [rng_len]; simp, List.nodup_nil, by simp, rfl⟩
  simp only [List.length_nil, Nat.add_zero] at hl
  refine ⟨xs, hl, hnd, hlab, s', h'.mono (by omega), ?_⟩
  have body : b__law_labels [some s.d, some (.int n), none, none, none, none, none, none, none] = some (.rt (.lst true (xs.map D.str)) [some s'.d, some (.int n), some (.str LET), none, x4, x5, x6, none, none]) := by
    refine (ev_seq (δ1 := [some s.d, some (.int n), some (.str LET), some (.lst true []), none, none, none, none, none]) rfl).trans ((ev_seq ((ev_for (ds := rngD 0 n) (δ1 := [some s.d, some (.int n), some (.str LET), some (.lst true []), none, none, none, none, none]) ?_).trans el)).trans (ev_ret rfl))
    have := ev_rng (a := mVar 1) (δ := [some s.d, some (.int n), some (.str LET), some (.lst true []), none, none, none, none, none]) (n := (n : Int)) (ev_var rfl rfl) (by omega) (by omega)
    rw [Int.toNat_natCast] at this
    exact this
  exact fin_gen (N := 9) rfl body rfl
end K03
set_option Elab.async false
set_option linter.all false
set_option maxRecDepth 100000
set_option maxHeartbeats 0
namespace K03
open PySem PySem.Spec PyProof.Rows L2 DL
def CDo (ws : Cs) : D := .dct true ((nms ws).map Sum.inr) (ws.map fun w => .lst true (w.2.map D.str))
def MD (ws : Cs) : D := .dct false [.inr "cells"] [CD ws]
theorem frz_CDo (ws : Cs) : fz (CDo ws) = CD ws := by
  simp only [CDo, CD, fz, fzs_map, List.map_map]
  congr 1
  refine List.map_congr_left fun w _ => ?_
  simp only [Function.comp, fz, fzs_strs, lf]
theorem fz_MD (ws : Cs) : isFz (MD ws) = true := by simp only [MD, isFz, isFzs, fz_CD]; rfl
theorem cells_ok {s : Dr} {b n : Nat} (h : s.Ok b) (hb : b + 1000 < 2 ^ 40) (h1 : 1 ≤ n) (hn : n ≤ 3) : ∃ ws : Cs, Ok ws ∧ ws.length = n ∧ ∃ s' : Dr, s'.Ok (b + 200) ∧ m__law_cells [s.d, .int n, .int 3] = some (CDo ws, [s'.d, .int n, .int 3]) := by
  obtain ⟨xs, hl, hnd, hlab, s1, hs1, e1⟩ := labels_ok h (by omega) hn
  obtain ⟨δ', el, ws, s', x4, h', hnm, hp, rfl⟩ := loopF_ind (t := tName 4) (b := (sPut 3 pVar (kPur [false, false, false, false, true] (mVar 4)) (mCall m__law_labels [.v 0, .e (mFz (mBin dAdd (mC (.int 2)) (mCall m__law_take [.v 0, .e (mBin dSub (mVar 2) (mC (.int 1)))] [])))] [])))
    (J := fun r δ => ∃ (ws : Cs) (s2 : Dr) (x4 : Option D), s2.Ok (b + 30 + 40 * ws.length) ∧ (∃ rs : List Str, r = rs.map D.str ∧ nms ws ++ rs = xs) ∧ (∀ w ∈ ws, 2 ≤ w.2.length ∧ w.2.length ≤ 3 ∧ w.2.Nodup ∧ ∀ v ∈ w.2, Lab v) ∧ δ = [some s2.d, some (.int n), some (.int 3), some (CDo ws), x4])
    (fun d r δ hJ => by
      obtain ⟨ws, s2, x4, h2, ⟨rs, hr, hx⟩, hp, rfl⟩ := hJ
      match rs, hr with
      | x :: rs, hr =>
        cases hr
        have hwl : ws.length + (rs.length + 1) = n := by
          have := congrArg List.length hx
          simp [nms] at this
          omega
        obtain ⟨v, v0, v1, s3, h3, e3⟩ := take_ok (n := 2) h2 (by omega) (by decide) (by decide)
        obtain ⟨m, rfl⟩ : ∃ m : Nat, v = m := ⟨v.toNat, by omega⟩
        obtain ⟨ys, yl, ynd, ylab, s4, h4, e4⟩ := labels_ok (n := 2 + m) h3 (by omega) (by omega)
        have hnew : x ∉ nms ws := by
          rw [← hx] at hnd
          have := (List.nodup_append.mp hnd).2.2
          exact fun q => this x q x List.mem_cons_self rfl
        have ea : mFz (mBin dAdd (mC (.int 2)) (mCall m__law_take [.v 0, .e (mBin dSub (mVar 2) (mC (.int 1)))] [])) [some s2.d, some (.int n), some (.int 3), some (CDo ws), some (.str x)] = some (.int ((2 + m : Nat) : Int), [some s3.d, some (.int n), some (.int 3), some (CDo ws), some (.str x)]) := by
          refine (ev_fz (ev_bin (g := dAdd) (a := mC (.int 2)) rfl (ev_callv0e (d := s2.d) (d1 := s2.d) (ev_bin (g := dSub) (ev_var (i := 2) rfl rfl) (b := mC (.int 1)) rfl rfl) rfl e3) (d := .int (2 + (m : Int))) rfl)).trans ?_
          simp [fz]
        refine ⟨_, _, rfl, ev_put (i := 3) (k := kPur [false, false, false, false, true] (mVar 4)) (p := []) (dk := .str x) (t' := CDo (ws ++ [(x, ys)])) (ev_callv0e (d := s2.d) (d1 := s3.d) ea rfl e4) (d := CDo ws) rfl rfl rfl rfl ?_, ws ++ [(x, ys)], s4, some (.str x), h4.mono (by simp; omega), ⟨rs, rfl, ?_⟩, ?_, rfl⟩
        · rw [show CDo ws = .dct true ((nms ws).map Sum.inr) (ws.map fun w => .lst true (w.2.map D.str)) from rfl, set_new (k := .inr x) rfl (by simp [nms]; exact Nat.lt_of_le_of_lt (show ws.length ≤ 3 by omega) (by decide)) (fun q => by
            obtain ⟨z, hz, e⟩ := List.mem_map.mp q
            exact hnew (Sum.inr.inj e ▸ hz))]
          simp [CDo, nms]
        · rw [← hx]; simp [nms]
        · intro w hw
          rcases List.mem_append.mp hw with hw | hw
          · exact hp w hw
          · rw [List.mem_singleton.mp hw]
            exact ⟨by show 2 ≤ ys.length; omega, by show ys.length ≤ 3; omega, ynd, ylab⟩) (xs.map D.str) [some s1.d, some (.int n), some (.int 3), some (CDo []), none] ⟨[], s1, none, hs1.mono (by simp), ⟨xs, rfl, rfl⟩, by simp, rfl⟩
  obtain ⟨rs, hr, hx⟩ := hnm
  have : rs = [] := by cases rs with
    | nil => rfl
    | cons _ _ => cases hr
  subst this
  rw [List.append_nil] at hx
  have hwl : ws.length = n := by rw [← hl, ← hx]; simp [nms]
  refine ⟨ws, ⟨by omega, by omega, by rw [hx]; exact hnd, fun w hw => hlab _ (by rw [← hx]; exact List.mem_map_of_mem hw), fun w hw => (hp w hw).1, fun w hw => (hp w hw).2.1, fun w hw => (hp w hw).2.2.1, fun w hw => (hp w hw).2.2.2⟩, hwl, s', h'.mono (by omega), ?_⟩
  have body : b__law_cells [some s.d, some (.int n), some (.int 3), none, none] = some (.rt (CDo ws) [some s'.d, some (.int n), some (.int 3), none, x4]) := by
    refine (ev_seq (δ1 := [some s.d, some (.int n), some (.int 3), some (CDo []), none]) rfl).trans ((ev_seq ((ev_for (ds := xs.map D.str) (δ1 := [some s1.d, some (.int n), some (.int 3), some (CDo []), none]) ?_).trans el)).trans (ev_ret rfl))
    have := iAny_lst (o := true) (ds := xs.map D.str) (ev_callv0e (d := s.d) (d1 := s.d) (a := mVar 1) (δ := [some (.int n), some (.int 3), some (CDo []), none]) (ev_var (i := 1) rfl rfl) rfl e1)
    rw [fzs_strs] at this
    exact this
  exact fin_gen (N := 5) rfl body rfl
def srtC (ws : Cs) : Cs := ws.mergeSort fun a b => leS a.1 b.1
theorem srtC_perm (ws : Cs) : (srtC ws).Perm ws := List.mergeSort_perm ws _
theorem srtC_nms (ws : Cs) : (nms ws).mergeSort leS = nms (srtC ws) := (PySem.W.sort_maps (l := ws) (r := fun (a b : Str × List Str) => leS a.1 b.1) (s := leS) (fun w : Str × List Str => w.1) fun _ _ _ _ => rfl).symm
theorem srtC_pw (ws : Cs) : (nms (srtC ws)).Pairwise fun a b => leS a b = true := by
  rw [← srtC_nms]
  exact List.pairwise_mergeSort leS_trans leS_total _
theorem cells_path {i : Nat} {δ : DL.Env} {ws : Cs} (h : δ[i]? = some (some (MD ws))) : mPath i (pSub pVar (kC (.str "cells"))) δ = some (CD ws, δ) :=
  ev_pathF h (p := [.sub (.inr "cells")]) rfl (walkF (fz_MD ws) (j := 0) rfl rfl (walk_nilF (fz_CD ws)))
theorem cell_path {i j : Nat} {δ : DL.Env} {ws : Cs} {w : Str × List Str} {m : List Bool} (h : δ[i]? = some (some (MD ws))) (hk : (kPur m (mVar j)) δ = some (.str w.1)) (hn : (nms ws).Nodup) (hw : w ∈ ws) : mPath i (pSub (pSub pVar (kC (.str "cells"))) (kPur m (mVar j))) δ = some (lf w.2, δ) := by
  refine ev_pathF h (p := [.sub (.inr "cells"), .sub (.inr w.1)]) ?_ (walkF (fz_MD ws) (j := 0) rfl rfl (CD_at hn hw))
  unfold pSub
  simp only [pVar, kC, hk]
  rfl
theorem sorted_ev {i : Nat} {δ : DL.Env} {ws : Cs} (H : Ok ws) (h : δ[i]? = some (some (MD ws))) : mCallB dSortA (mCons (mPath i (pSub pVar (kC (.str "cells")))) mNil) δ = some (.lst true ((srtC ws).map fun w => D.str w.1), δ) := by
  refine ev_call1 (g := dSortA) (cells_path h) ((sort_keys (by simp only [nms, List.length_map]; have := H.b; omega)).trans ?_)
  rw [srtC_nms]
  simp [nms, List.map_map, Function.comp]
theorem pairs_ok : ∀ hs : Cs, pairsD (hs.map fun w => D.tup [.str w.1, lf w.2]) = some ((nms hs).map Sum.inr, hs.map fun w => lf w.2)
  | [] => rfl
  | h :: r => by
    simp only [List.map_cons, pairsD, pairs_ok r, keyD, nms]
theorem hall_ok {ws : Cs} (H : Ok ws) : m__law_hall [MD ws] = some (HD true (srtC ws), [MD ws]) := by
  have Hs := H.perm (srtC_perm ws)
  have hpr : (srtC ws).reverse.Perm (srtC ws) := List.reverse_perm _
  refine fin_rt (np := 1) (N := 2) (δ := [none]) rfl (by decide) (ev_ret (ev_make1 (x' := CD (srtC ws).reverse) (ev_fz (d := .dct true ((nms (srtC ws).reverse).map Sum.inr) ((srtC ws).reverse.map fun w => lf w.2)) (ev_call1 (g := dDict) (x := .lst true ((srtC ws).reverse.map fun w => D.tup [.str w.1, .lst true (w.2.map D.str)])) ?_ ?_)) ?_))
  · refine lc_map (own := [1]) (t := tName 1) (m := (mTup (mCons (mVar 1) (mCons (mCallB dList (mCons (mPath 0 (pSub (pSub pVar (kC (.str "cells"))) (kPur [false, true] (mVar 1)))) mNil)) mNil)))) (δ1 := [some (MD ws), none]) (srtC ws).reverse (fun w => D.str w.1) (fun w => D.tup [.str w.1, .lst true (w.2.map D.str)]) ?_ rfl (by rw [List.length_reverse]; exact Nat.le_trans Hs.b (by decide)) fun w hw => ⟨_, rfl, rfl, ?_⟩
    · have e1 := sorted_ev (i := 0) (δ := [some (MD ws), none]) H rfl
      refine (iAny_lst (o := true) (ds := ((srtC ws).reverse.map fun w => D.str w.1)) (δ1 := [some (MD ws), none]) ?_).trans ?_
      · unfold mUn
        show (match mCallB dSortA (mCons (mPath 0 (pSub pVar (kC (.str "cells")))) mNil) [some (MD ws), none] with | some (d, δ1) => _ | none => none) = _
        rw [e1]
        simp [dRev]
      · rw [fzs_typ _ fun _ => rfl]
    · have hw' : w ∈ ws := (srtC_perm ws).mem_iff.mp (List.mem_reverse.mp hw)
      exact ev_tup (ev_cons (ev_var (i := 1) rfl rfl) (ev_cons (ev_call1 (g := dList) (cell_path rfl rfl H.n hw') rfl) (r := mNil) rfl)) (by show 2 ≤ sizeLine; decide)
  · unfold dDict
    have e : fzs ((srtC ws).reverse.map fun w => D.tup [.str w.1, .lst true (w.2.map D.str)]) = (srtC ws).reverse.map fun w => D.tup [.str w.1, lf w.2] := by
      rw [fzs_map, List.map_map]
      refine List.map_congr_left fun w _ => ?_
      simp only [Function.comp, fz, fzs, fzs_strs, lf]
    simp only [e, pairs_ok]
    exact if_pos (decide_eq_true (inr_nodup ((Hs.perm hpr).n)))
  · have e : fz (.dct true ((nms (srtC ws).reverse).map Sum.inr) ((srtC ws).reverse.map fun w => lf w.2)) = CD (srtC ws).reverse := by
      simp only [fz, CD]
      congr 1
      exact fzs_typ (fun w : Str × List Str => lf w.2) (fun w => fz_lf w.2) _
    rw [e]
    exact hall_init Hs hpr (srtC_pw ws)
end K03
set_option Elab.async false
set_option linter.all false
set_option maxRecDepth 100000
set_option maxHeartbeats 0
namespace K03
open PySem PySem.Spec PyProof.Rows L2 DL
abbrev Sc := List Str
def ext1 (sc : Sc) (vs : List Str) : List Sc := vs.map fun v => sc ++ [v]
def ext (fs : List Sc) (vs : List Str) : List Sc := fs.flatMap fun sc => ext1 sc vs
def prods (vss : List (List Str)) : List Sc := vss.foldl ext [[]]
def okw (w v : Str) : Bool := decide (w = "") || decide (w = v)
def extF (w : Str) (fs : List Sc) (vs : List Str) : List Sc := fs.flatMap fun sc => ext1 sc (vs.filter (okw w))
def fitB (sc : Sc) (pt : List Str) : Bool := (sc.zip pt).all fun p => okw p.2 p.1
theorem prods_snoc (vss : List (List Str)) (vs : List Str) : prods (vss ++ [vs]) = ext (prods vss) vs := by simp [prods]
theorem ext_mem {fs : List Sc} {vs : List Str} {sc : Sc} : sc ∈ ext fs vs ↔ ∃ s ∈ fs, ∃ v ∈ vs, sc = s ++ [v] := by
  simp only [ext, ext1, List.mem_flatMap, List.mem_map]
  constructor
  · rintro ⟨s, hs, v, hv, rfl⟩; exact ⟨s, hs, v, hv, rfl⟩
  · rintro ⟨s, hs, v, hv, rfl⟩; exact ⟨s, hs, v, hv, rfl⟩
theorem snoc_ind {α : Type} {P : List α → Prop} (h0 : P []) (h1 : ∀ l a, P l → P (l ++ [a])) (l : List α) : P l := by
  have : ∀ r : List α, P r.reverse := by
    intro r
    induction r with
    | nil => exact h0
    | cons a r ih => rw [List.reverse_cons]; exact h1 _ _ ih
  have := this l.reverse
  rwa [List.reverse_reverse] at this
theorem prods_mem (vss : List (List Str)) : ∀ sc, sc ∈ prods vss ↔ sc.length = vss.length ∧ ∀ p ∈ vss.zip sc, p.2 ∈ p.1 := by
  induction vss using snoc_ind with
  | h0 =>
    intro sc
    simp [prods]
  | h1 vss vs ih =>
    intro sc
    rw [prods_snoc, ext_mem]
    constructor
    · rintro ⟨s, hs, v, hv, rfl⟩
      obtain ⟨hl, hz⟩ := (ih s).mp hs
      refine ⟨by simp [hl], fun p hp => ?_⟩
      rw [List.zip_append hl.symm] at hp
      rcases List.mem_append.mp hp with hp | hp
      · exact hz p hp
      · simp at hp
        rw [hp]; exact hv
    · rintro ⟨hl, hz⟩
      rw [List.length_append] at hl
      obtain ⟨s, v, rfl⟩ : ∃ s v, sc = s ++ [v] := by
        have hne : sc ≠ [] := fun e => by subst e; simp at hl
        exact ⟨sc.dropLast, sc.getLast hne, (List.dropLast_concat_getLast hne).symm⟩
      have hl' : s.length = vss.length := by simp at hl; exact hl
      rw [List.zip_append hl'.symm] at hz
      refine ⟨s, (ih s).mpr ⟨hl', fun p hp => hz p (List.mem_append.mpr (.inl hp))⟩, v, ?_, rfl⟩
      exact hz (vs, v) (List.mem_append.mpr (.inr (by simp)))
theorem ext_len (fs : List Sc) {vs : List Str} (hv : vs.length ≤ 3) : (ext fs vs).length ≤ fs.length * 3 := by
  induction fs with
  | nil => simp [ext]
  | cons s fs ih =>
    simp only [ext, ext1, List.flatMap_cons, List.length_append, List.length_map, List.length_cons] at ih ⊢
    omega
theorem prods_len (vss : List (List Str)) (hv : ∀ vs ∈ vss, vs.length ≤ 3) : (prods vss).length ≤ 3 ^ vss.length := by
  induction vss using snoc_ind with
  | h0 => simp [prods]
  | h1 vss vs ih =>
    rw [prods_snoc, List.length_append, List.length_singleton, Nat.pow_succ]
    have h1 := ih fun v hv' => hv v (List.mem_append.mpr (.inl hv'))
    have h2 := ext_len (prods vss) (hv vs (List.mem_append.mpr (.inr (by simp))))
    omega
theorem fitB_snoc {s : Sc} {pt : List Str} {v w : Str} (h : s.length = pt.length) : fitB (s ++ [v]) (pt ++ [w]) = (fitB s pt && okw w v) := by
  unfold fitB
  rw [List.zip_append h, List.all_append]
  simp
theorem filter_ext (fs : List Sc) (vs : List Str) (pt : List Str) (w : Str) (h : ∀ s ∈ fs, s.length = pt.length) : (ext fs vs).filter (fun sc => fitB sc (pt ++ [w])) = extF w (fs.filter fun sc => fitB sc pt) vs := by
  induction fs with
  | nil => rfl
  | cons s fs ih =>
    have ih' := ih fun x hx => h x (List.mem_cons_of_mem _ hx)
    have hs := h s List.mem_cons_self
    have e1 : (ext1 s vs).filter (fun sc => fitB sc (pt ++ [w])) = if fitB s pt = true then ext1 s (vs.filter (okw w)) else [] := by
      unfold ext1
      rw [List.filter_map]
      have : ((fun sc => fitB sc (pt ++ [w])) ∘ fun v => s ++ [v]) = fun v => (fitB s pt && okw w v) := by
        funext v
        exact fitB_snoc hs
      rw [this]
      cases fitB s pt with
      | true => simp
      | false => simp
    simp only [ext, List.flatMap_cons, List.filter_append] at ih' ⊢
    rw [ih', e1, List.filter_cons]
    cases fitB s pt with
    | true => simp [extF, List.flatMap_cons]
    | false => simp [extF]
end K03
set_option Elab.async false
set_option linter.all false
set_option maxRecDepth 100000
set_option maxHeartbeats 0
namespace K03
open PySem PySem.Spec PyProof.Rows L2 DL
theorem vls_app (a b : Cs) : vls (a ++ b) = vls a ++ vls b := by simp [vls]
theorem prods_bound {hs : Cs} (H : Ok hs) {d r : Cs} (e : hs = d ++ r) : (prods (vls d)).length ≤ 27 ∧ d.length ≤ 3 := by
  have hd : d.length ≤ 3 := by
    have := H.b
    rw [e, List.length_append] at this
    omega
  refine ⟨Nat.le_trans (prods_len _ fun vs hv => ?_) ?_, hd⟩
  · obtain ⟨w, hw, rfl⟩ := List.mem_map.mp hv
    exact H.v3 w (by rw [e]; exact List.mem_append.mpr (.inl hw))
  · rw [show (vls d).length = d.length by simp [vls]]
    match d.length, hd with
    | 0, _ => decide
    | 1, _ => decide
    | 2, _ => decide
    | 3, _ => decide
theorem all_scenes_ok {ws : Cs} (H : Ok ws) : m__law_all_scenes [MD ws] = some (.lst true ((sortT (prods (vls (srtC ws)))).map tp), [MD ws]) := by
  have Hs := H.perm (srtC_perm ws)
  obtain ⟨δ', el, dn, rest, o, x2, x3, x4, hsp, hr, rfl⟩ := loopF_ind (t := tName 2) (b := (sCons (sSet 3 (mLst mNil))
    (sCons (sFor (iAlt (iAny (mVar 1)) (keysAt 1 pVar)) (tName 4)
    (sSet 3 (mBin dAdd (mVar 3) (mLc (iAny (mPath 0 (pSub (pSub pVar (kC (.str "cells"))) (kPur [false, false, true] (mVar 2))))) [5] (tName 5) tTrue (mBin dAdd (mVar 4) (mTup (mCons (mVar 5) mNil)))))))
    (sSet 1 (mVar 3)))))
    (J := fun r δ => ∃ (dn rest : Cs) (o : Bool) (x2 x3 x4 : Option D), srtC ws = dn ++ rest ∧ r = rest.map (fun w => D.str w.1) ∧ δ = [some (MD ws), some (.lst o ((prods (vls dn)).map tp)), x2, x3, x4, none])
    (fun d r δ hJ => by
      obtain ⟨dn, rest, o, x2, x3, x4, hsp, hr, rfl⟩ := hJ
      match rest, hr with
      | w :: rest, hr =>
        cases hr
        obtain ⟨hpl, hdl⟩ := prods_bound Hs hsp
        have hw0 : w ∈ srtC ws := by rw [hsp]; exact List.mem_append.mpr (.inr List.mem_cons_self)
        have hw : w ∈ ws := (srtC_perm ws).mem_iff.mp hw0
        have hv3 := Hs.v3 w hw0
        have hlen : ∀ sc ∈ prods (vls dn), sc.length ≤ 3 := fun sc hsc => by
          rw [((prods_mem _ sc).mp hsc).1]; simp only [vls, List.length_map]; exact hdl
        obtain ⟨δi, ei, dn', rs', o', y4, hsp', hr', rfl⟩ := loopF_ind (t := tName 4) (b := (sSet 3 (mBin dAdd (mVar 3) (mLc (iAny (mPath 0 (pSub (pSub pVar (kC (.str "cells"))) (kPur [false, false, true] (mVar 2))))) [5] (tName 5) tTrue (mBin dAdd (mVar 4) (mTup (mCons (mVar 5) mNil)))))))
          (J := fun r δ => ∃ (a b : List Sc) (o : Bool) (x4 : Option D), prods (vls dn) = a ++ b ∧ r = b.map tp ∧ δ = [some (MD ws), some (.lst false ((prods (vls dn)).map tp)), some (.str w.1), some (.lst o ((ext a w.2).map tp)), x4, none])
          (fun d r δ hJ => by
            obtain ⟨a, b, o, x4, hsp, hr, rfl⟩ := hJ
            match b, hr with
            | sc :: b, hr =>
              cases hr
              have hsc := hlen sc (by rw [hsp]; exact List.mem_append.mpr (.inr List.mem_cons_self))
              have hal : a.length + 1 ≤ 27 := by
                have := congrArg List.length hsp
                simp at this
                omega
              have hel := ext_len a hv3
              have e3 := ev_varf (i := 3) (δ := [some (MD ws), some (.lst false ((prods (vls dn)).map tp)), some (.str w.1), some (.lst o ((ext a w.2).map tp)), some (tp sc), none]) rfl
              rw [show fz (.lst o ((ext a w.2).map tp)) = .lst false ((ext a w.2).map tp) by simp only [fz, fzs_typ tp fz_tps]] at e3
              have lc := lc_map (own := [5]) (t := tName 5) (m := (mBin dAdd (mVar 4) (mTup (mCons (mVar 5) mNil)))) (δ1 := [some (MD ws), some (.lst false ((prods (vls dn)).map tp)), some (.str w.1), some (.lst false ((ext a w.2).map tp)), some (tp sc), none]) w.2 D.str (fun v => tp (sc ++ [v])) ((iAny_lst (o := false) (cell_path (i := 0) (j := 2) (m := [false, false, true]) rfl rfl H.n hw)).trans (by rw [fzs_strs])) rfl (Nat.le_trans hv3 (by decide)) fun v hv => ⟨_, rfl, rfl, by
                refine ev_bin (g := dAdd) (ev_var (i := 4) rfl (fz_tps sc)) (ev_tup (ev_cons (ev_var (i := 5) rfl rfl) (r := mNil) rfl) (by show 1 ≤ sizeLine; decide)) ((add_tup ?_).trans ?_)
                · rw [List.length_map]
                  exact Nat.le_trans (show sc.length + 1 ≤ 4 by omega) (by decide)
                · simp [tpS]⟩
              refine ⟨_, _, rfl, ev_set (i := 3) (ev_bin (g := dAdd) e3 lc (add_lst ?_)) (by simp), a ++ [sc], b, true, some (tp sc), by rw [hsp]; simp, rfl, ?_⟩
              · simp only [List.length_map]
                exact Nat.le_trans (show (ext a w.2).length + w.2.length ≤ 200 by omega) (by decide)
              · simp [ext, ext1, List.map_map, Function.comp]) ((prods (vls dn)).map tp) [some (MD ws), some (.lst false ((prods (vls dn)).map tp)), some (.str w.1), some (.lst true []), x4, none] ⟨[], prods (vls dn), true, x4, rfl, rfl, rfl⟩
        have : rs' = [] := by cases rs' with
          | nil => rfl
          | cons _ _ => cases hr'
        subst this
        rw [List.append_nil] at hsp'
        have e3 := ev_varf (i := 3) (δ := [some (MD ws), some (.lst false ((prods (vls dn)).map tp)), some (.str w.1), some (.lst o' ((ext dn' w.2).map tp)), y4, none]) rfl
        rw [show fz (.lst o' ((ext dn' w.2).map tp)) = .lst false ((ext dn' w.2).map tp) by simp only [fz, fzs_typ tp fz_tps]] at e3
        have ea := iAny_own (i := 1) (δ := [some (MD ws), some (.lst o ((prods (vls dn)).map tp)), some (.str w.1), some (.lst true []), x4, none]) rfl
        rw [fzs_typ tp fz_tps] at ea
        refine ⟨_, _, rfl, (ev_seq (δ1 := [some (MD ws), some (.lst o ((prods (vls dn)).map tp)), some (.str w.1), some (.lst true []), x4, none]) rfl).trans ((ev_seq ((ev_for (ev_altI ea)).trans ei)).trans (ev_set (i := 1) e3 (by simp))), dn ++ [w], rest, false, some (.str w.1), some (.lst false ((ext dn' w.2).map tp)), y4, by rw [hsp]; simp, rfl, ?_⟩
        rw [vls_app, show vls [w] = [w.2] from rfl, prods_snoc, hsp']
        rfl) ((srtC ws).map fun w => D.str w.1) [some (MD ws), some (.lst true ((prods (vls [])).map tp)), none, none, none, none] ⟨[], srtC ws, true, none, none, none, rfl, rfl, rfl⟩
  have : rest = [] := by cases rest with
    | nil => rfl
    | cons _ _ => cases hr
  subst this
  rw [List.append_nil] at hsp
  subst hsp
  obtain ⟨hpl, hdl⟩ := prods_bound Hs (show srtC ws = srtC ws ++ [] by simp)
  have hne : ∀ sc ∈ prods (vls (srtC ws)), sc ≠ [] := fun sc hsc e => by
    have h1 := ((prods_mem _ sc).mp hsc).1
    have h2 := Hs.a
    rw [e] at h1
    simp [vls] at h1
    rw [← h1] at h2
    simp at h2
  refine fin_rt (np := 1) (N := 6) (δ := [some (.lst false ((prods (vls (srtC ws))).map tp)), x2, x3, x4, none]) rfl (by decide) ?_
  have ev1 := ev_varf (i := 1) (δ := [some (MD ws), some (.lst o ((prods (vls (srtC ws))).map tp)), x2, x3, x4, none]) rfl
  rw [show fz (.lst o ((prods (vls (srtC ws))).map tp)) = .lst false ((prods (vls (srtC ws))).map tp) by simp only [fz, fzs_typ tp fz_tps]] at ev1
  refine (ev_seq (δ1 := [some (MD ws), some (.lst true ((prods (vls [])).map tp)), none, none, none, none]) rfl).trans ((ev_seq ((ev_for (ds := (srtC ws).map fun w => D.str w.1) (δ1 := [some (MD ws), some (.lst true ((prods (vls [])).map tp)), none, none, none, none]) ?_).trans el)).trans (ev_ret (ev_call1 (g := dSortA) ev1 (sort_tps hne (Nat.le_trans hpl (by decide))))))
  refine (iAny_lst (sorted_ev (i := 0) H rfl)).trans ?_
  rw [fzs_typ (fun w : Str × List Str => D.str w.1) fun _ => rfl]
end K03
set_option Elab.async false
set_option linter.all false
set_option maxRecDepth 100000
set_option maxHeartbeats 0
namespace K03
open PySem PySem.Spec PyProof.Rows L2 DL
theorem it_str {z : Str} (h : PyData.strOk z = true) : It (.str z) := ⟨rfl, rfl, fun y e => by cases e; exact h⟩
theorem th_tp {xs : List Str} (hl : xs.length ≤ 100) (h : ∀ x ∈ xs, PyData.strOk x = true) : Th (tp xs) := ⟨fz_tps xs, rfl, fun ds e => by
  have e : xs.map D.str = ds := by injection e
  subst e
  refine ⟨by simpa using hl, fun e he => ?_⟩
  obtain ⟨x, hx, rfl⟩ := List.mem_map.mp he
  exact it_str (h x hx)⟩
theorem need_scene_ok {hs : Cs} {d : D} (H : Ok hs) (h : Th d) (hb : likeB [] hs d = true) : m_need_scene [HD false hs, d] = some (.non, [HD false hs, d]) := by
  have e := ev_calle2 (ev_var (i := 0) (δ := [some (HD false hs), some d]) rfl (fz_HD hs)) (ev_var (i := 1) rfl h.f) (is_scene_ok H h)
  rw [hb] at e
  exact fin_nx (np := 2) (N := 2) (δ := []) rfl (by decide) ((ev_if0 (ev_not1 (p := true) (ev_tru e))).trans rfl)
theorem need_pattern_ok {hs : Cs} {d : D} (H : Ok hs) (h : Th d) (hb : likeB [""] hs d = true) : m_need_pattern [HD false hs, d] = some (.non, [HD false hs, d]) := by
  have e := ev_calle2 (ev_var (i := 0) (δ := [some (HD false hs), some d]) rfl (fz_HD hs)) (ev_var (i := 1) rfl h.f) (is_pattern_ok H h)
  rw [hb] at e
  exact fin_nx (np := 2) (N := 2) (δ := []) rfl (by decide) ((ev_if0 (ev_not1 (p := true) (ev_tru e))).trans rfl)
theorem okw_in (w v : Str) : decide (w ∈ [("" : Str), v]) = okw w v := by
  unfold okw
  by_cases h1 : w = "" <;> by_cases h2 : w = v <;> simp [h1, h2]
theorem empty_ok : PyData.strOk "" = true := by decide +kernel
theorem in_pair {w v : Str} (hw : PyData.strOk w = true) (hv : PyData.strOk v = true) : dIn (.str w) (.tup [.str "", .str v]) = some (.bl (okw w v)) := by
  have := in_tup (z := w) (L := ["", v]) hw (fun x hx => by
    rcases List.mem_cons.mp hx with rfl | hx
    · exact empty_ok
    · rw [List.mem_singleton.mp hx]; exact hv)
  rw [okw_in] at this
  exact this
theorem zip_ev {i j : Nat} {δ : DL.Env} {xs ys : List Str} (hi : δ[i]? = some (some (tp xs))) (hj : δ[j]? = some (some (tp ys))) : iZip2 (mCons (mVar i) (mCons (mVar j) mNil)) δ = some ((xs.zip ys).map fun p => D.tup [.str p.1, .str p.2], δ) := by
  unfold iZip2
  rw [ev_cons (ev_var hi (fz_tps xs)) (ev_cons (ev_var hj (fz_tps ys)) (r := mNil) rfl)]
  simp only [tpS, seqD, fzs_strs, zipD_typ]
theorem is_fit_ok {sc pt : List Str} (hs : ∀ x ∈ sc, PyData.strOk x = true) (hp : ∀ x ∈ pt, PyData.strOk x = true) (hl : sc.length ≤ 100) : m_is_fit [tp sc, tp pt] = some (.bl (fitB sc pt), [tp sc, tp pt]) := by
  refine fin_rt (np := 2) (N := 4) (δ := [none, none]) rfl (by decide) (ev_ret ?_)
  refine (all_typ (own := [2, 3]) (t := tTup (tsCons (tName 2) (tsCons (tName 3) tsNil))) (m := mBin dIn (mVar 3) (mTup (mCons (mC (.str "")) (mCons (mVar 2) mNil)))) (δ1 := [some (tp sc), some (tp pt), none, none]) (sc.zip pt) (fun p => D.tup [.str p.1, .str p.2]) (fun p => okw p.2 p.1) (zip_ev (i := 0) (j := 1) rfl rfl) rfl (by rw [List.length_zip]; exact Nat.le_trans (Nat.min_le_left _ _) (Nat.le_trans hl (by decide))) fun p hp' => ⟨_, rfl, rfl, ?_⟩)
  obtain ⟨h1, h2⟩ := List.of_mem_zip (show (p.1, p.2) ∈ sc.zip pt from hp')
  exact ev_bin (g := dIn) (ev_var (i := 3) (d := .str p.2) rfl rfl) (ev_tup (ev_cons (a := mC (.str "")) rfl (ev_cons (ev_var (i := 2) (d := .str p.1) rfl rfl) (r := mNil) rfl)) (by show 2 ≤ sizeLine; decide)) (in_pair (hp _ h2) (hs _ h1))
theorem nestr (a b : Str) : dNe (.str a) (.str b) = some (.bl (!decide (a = b))) := rfl
theorem does_fit_ok {sc pt : List Str} (hl : sc.length ≤ 100) : m__law_does_fit [tp sc, tp pt] = some (.bl (fitB sc pt), [tp sc, tp pt]) := by
  refine fin_rt (np := 2) (N := 4) (δ := [none, none]) rfl (by decide) (ev_ret ?_)
  have lc := lc_typ (own := [2, 3]) (t := tTup (tsCons (tName 2) (tsCons (tName 3) tsNil))) (c := (tAnd2 (toT (mBin dNe (mVar 3) (mC (.str "")))) (toT (mBin dNe (mVar 3) (mVar 2))))) (m := mC (.int 1)) (δ1 := [some (tp sc), some (tp pt), none, none]) (sc.zip pt) (fun p => D.tup [.str p.1, .str p.2]) (fun p => !okw p.2 p.1) (fun _ => .int 1) (zip_ev (i := 0) (j := 1) rfl rfl) rfl (by rw [List.length_zip]; exact Nat.le_trans (Nat.min_le_left _ _) (Nat.le_trans hl (by decide))) fun p hp' => ⟨_, rfl, rfl, by
    refine (ev_and2 (q := !decide (p.2 = p.1)) (ev_toT (ev_bin (g := dNe) (ev_var (i := 3) (d := .str p.2) rfl rfl) (b := mC (.str "")) rfl (nestr _ _))) fun _ => ev_toT (ev_bin (g := dNe) (ev_var (i := 3) (d := .str p.2) rfl rfl) (ev_var (i := 2) (d := .str p.1) rfl rfl) (nestr _ _))).trans ?_
    simp [okw], fun _ => rfl⟩
  refine ev_bin (g := dEq) lc (b := mLst mNil) (y := .lst true []) rfl ?_
  show some (D.bl (((sc.zip pt).filter fun p => !okw p.2 p.1).map fun _ => D.int 1).isEmpty) = some (D.bl (fitB sc pt))
  congr 2
  unfold fitB
  induction sc.zip pt with
  | nil => rfl
  | cons p r ih =>
    rw [List.filter_cons, List.all_cons]
    cases hq : okw p.2 p.1 with
    | true => simpa [hq] using ih
    | false => simp [hq]
theorem fits_ok {hs : Cs} {sc pt : List Str} (H : Ok hs) (hs' : ∀ x ∈ sc, PyData.strOk x = true) (hp : ∀ x ∈ pt, PyData.strOk x = true) (hl : sc.length ≤ 100) (hl2 : pt.length ≤ 100) (b1 : likeB [] hs (tp sc) = true) (b2 : likeB [""] hs (tp pt) = true) :
    m_fits [HD false hs, tp sc, tp pt] = some (.bl (fitB sc pt), [HD false hs, tp sc, tp pt]) := by
  have v0 : mVar 0 [some (HD false hs), some (tp sc), some (tp pt)] = some (HD false hs, [some (HD false hs), some (tp sc), some (tp pt)]) := ev_var rfl (fz_HD hs)
  have v1 : mVar 1 [some (HD false hs), some (tp sc), some (tp pt)] = some (tp sc, [some (HD false hs), some (tp sc), some (tp pt)]) := ev_var rfl (fz_tps sc)
  have v2 : mVar 2 [some (HD false hs), some (tp sc), some (tp pt)] = some (tp pt, [some (HD false hs), some (tp sc), some (tp pt)]) := ev_var rfl (fz_tps pt)
  exact fin_rt (np := 3) (N := 3) (δ := []) rfl (by decide) ((ev_seq (ev_expr (ev_calle1 v0 (need_hall_ok hs)))).trans ((ev_seq (ev_expr (ev_calle2 v0 v1 (need_scene_ok H (th_tp hl hs') b1)))).trans ((ev_seq (ev_expr (ev_calle2 v0 v2 (need_pattern_ok H (th_tp hl2 hp) b2)))).trans (ev_ret (ev_calle2 v1 v2 (is_fit_ok hs' hp hl))))))
def foldF (l : List (List Str × Str)) : List Sc := l.foldl (fun fs p => extF p.2 fs p.1) [[]]
theorem foldF_eq (l : List (List Str × Str)) : foldF l = (prods (l.map (·.1))).filter fun sc => fitB sc (l.map (·.2)) := by
  induction l using snoc_ind with
  | h0 => rfl
  | h1 l p ih =>
    rw [List.map_append, List.map_append, show [p].map (·.1) = [p.1] from rfl, show [p].map (·.2) = [p.2] from rfl, prods_snoc, filter_ext _ _ _ _ (fun s hs => by rw [((prods_mem _ s).mp hs).1]; simp), ← ih]
    simp [foldF]
theorem extF_len (w : Str) (fs : List Sc) {vs : List Str} (hv : vs.length ≤ 3) : (extF w fs vs).length ≤ fs.length * 3 := by
  induction fs with
  | nil => simp [extF]
  | cons s fs ih =>
    have := List.length_filter_le (okw w) vs
    simp only [extF, ext1, List.flatMap_cons, List.length_append, List.length_map, List.length_cons] at ih ⊢
    omega
theorem scenes_of_ok {hs : Cs} {pt : List Str} (H : Ok hs) (hp : ∀ x ∈ pt, PyData.strOk x = true) (hl : pt.length = hs.length) (hb : likeB [""] hs (tp pt) = true) :
    m_scenes_of [HD false hs, tp pt] = some (.lst true (((sortT (prods (vls hs))).filter fun sc => fitB sc pt).map tp), [HD false hs, tp pt]) := by
  have hpl : pt.length ≤ 100 := by have := H.b; omega
  have hzip1 : ((vls hs).zip pt).map (·.1) = vls hs := List.map_fst_zip (by simp [vls, hl])
  have hzip2 : ((vls hs).zip pt).map (·.2) = pt := List.map_snd_zip (by simp [vls, hl])
  have bound : ∀ dn rest : List (List Str × Str), (vls hs).zip pt = dn ++ rest → (foldF dn).length ≤ 27 ∧ ∀ sc ∈ foldF dn, sc.length ≤ 3 := fun dn rest e => by
    have e1 : vls hs = dn.map (·.1) ++ rest.map (·.1) := by rw [← List.map_append, ← e, hzip1]
    have hd : dn.length ≤ 3 := by
      have := congrArg List.length e1
      have := H.b
      simp [vls] at *
      omega
    rw [foldF_eq]
    refine ⟨Nat.le_trans (List.length_filter_le _ _) (Nat.le_trans (prods_len _ fun vs hv => ?_) ?_), fun sc hsc => ?_⟩
    · have : vs ∈ vls hs := by rw [e1]; exact List.mem_append.mpr (.inl hv)
      obtain ⟨w, hw, rfl⟩ := List.mem_map.mp this
      exact H.v3 w hw
    · rw [List.length_map]
      match dn.length, hd with
      | 0, _ => decide
      | 1, _ => decide
      | 2, _ => decide
      | 3, _ => decide
    · rw [((prods_mem _ sc).mp (List.mem_filter.mp hsc).1).1, List.length_map]
      exact hd
  obtain ⟨δ', el, dn, rest, o, x3, x4, hsp, hr, rfl⟩ := loopF_ind (t := tTup (tsCons (tName 3) (tsCons (tName 4) tsNil))) (b := (sSet 2 (mLc2 (iAny (mVar 2)) [5, 6] [6] (tName 5) tTrue (iAny (mVar 3)) (tName 6) (toT (mBin dIn (mVar 4) (mTup (mCons (mC (.str "")) (mCons (mVar 6) mNil))))) (mTup (mStarC (mVar 5) (mCons (mVar 6) mNil))))))
    (J := fun r δ => ∃ (dn rest : List (List Str × Str)) (o : Bool) (x3 x4 : Option D), (vls hs).zip pt = dn ++ rest ∧ r = rest.map (fun p => D.tup [tp p.1, .str p.2]) ∧ δ = [some (HD false hs), some (tp pt), some (.lst o ((foldF dn).map tp)), x3, x4, none, none])
    (fun d r δ hJ => by
      obtain ⟨dn, rest, o, x3, x4, hsp, hr, rfl⟩ := hJ
      match rest, hr with
      | p :: rest, hr =>
        cases hr
        have hpz : (p.1, p.2) ∈ (vls hs).zip pt := by rw [hsp]; exact List.mem_append.mpr (.inr List.mem_cons_self)
        obtain ⟨hv, hw⟩ := List.of_mem_zip hpz
        obtain ⟨w, hw1, hw2⟩ := List.mem_map.mp hv
        obtain ⟨bl, bsc⟩ := bound dn (p :: rest) hsp
        have hv3 : p.1.length ≤ 3 := by rw [← hw2]; exact H.v3 w hw1
        have hvl : ∀ v ∈ p.1, Lab v := by rw [← hw2]; exact H.vl w hw1
        have ea := iAny_own (i := 2) (δ := [some (HD false hs), some (tp pt), some (.lst o ((foldF dn).map tp)), some (tp p.1), some (.str p.2), none, none]) rfl
        rw [fzs_typ tp fz_tps] at ea
        have e2 := lc2_typ (own := [5, 6]) (own1 := [6]) (t := tName 5) (c := tTrue) (i1 := iAny (mVar 3)) (t1 := tName 6) (c1 := (toT (mBin dIn (mVar 4) (mTup (mCons (mC (.str "")) (mCons (mVar 6) mNil)))))) (m := (mTup (mStarC (mVar 5) (mCons (mVar 6) mNil)))) (foldF dn) tp (fun _ => p.1) (fun _ => D.str) (fun _ v => okw p.2 v) (fun sc v => tp (sc ++ [v])) ea rfl (by
          have := extF_len p.2 (foldF dn) hv3
          have e : ((foldF dn).flatMap fun x => ((p.1).filter fun v => okw p.2 v).map fun v => tp (x ++ [v])) = (extF p.2 (foldF dn) p.1).map tp := by
            simp only [extF, ext1, List.map_flatMap, List.map_map]
            rfl
          rw [e, List.length_map]
          exact Nat.le_trans (show _ ≤ 81 by omega) (by decide)) (fun sc hsc => ⟨_, _, rfl, rfl, iAny_tup (ev_var (i := 3) (d := tp p.1) rfl (fz_tps _)) (isFzs_strs _), rfl, fun v hv => ⟨_, rfl, rfl, ev_toT (ev_bin (g := dIn) (ev_var (i := 4) (d := .str p.2) rfl rfl) (ev_tup (ev_cons (a := mC (.str "")) rfl (ev_cons (ev_var (i := 6) (d := .str v) rfl rfl) (r := mNil) rfl)) (by show 2 ≤ sizeLine; decide)) (in_pair (hp _ hw) (hvl v hv).ok)), fun _ => by
            have h3 := bsc sc hsc
            refine ev_tup (xs := (sc ++ [v]).map D.str) ?_ ?_
            · unfold mStarC
              rw [ev_var (i := 5) (d := tp sc) rfl (fz_tps sc)]
              simp only [tpS, seqD]
              rw [ev_cons (ev_var (i := 6) (d := .str v) rfl rfl) (r := mNil) rfl]
              simp [fzs_strs]
            · simp; exact Nat.le_trans (show sc.length + 1 ≤ 4 by omega) (by decide)⟩⟩)
        refine ⟨_, _, rfl, ev_set (i := 2) e2 (by simp), dn ++ [p], rest, true, some (tp p.1), some (.str p.2), by rw [hsp]; simp, rfl, ?_⟩
        have : ((foldF dn).flatMap fun x => ((p.1).filter fun v => okw p.2 v).map fun v => tp (x ++ [v])) = (foldF (dn ++ [p])).map tp := by
          simp only [foldF, List.foldl_append, List.foldl_cons, List.foldl_nil, extF, ext1, List.map_flatMap, List.map_map]
          rfl
        rw [this]
        rfl) (((vls hs).zip pt).map fun p => D.tup [tp p.1, .str p.2]) [some (HD false hs), some (tp pt), some (.lst true ((foldF []).map tp)), none, none, none, none] ⟨[], (vls hs).zip pt, true, none, none, rfl, rfl, rfl⟩
  have : rest = [] := by cases rest with
    | nil => rfl
    | cons _ _ => cases hr
  subst this
  rw [List.append_nil] at hsp
  subst hsp
  obtain ⟨bl, bsc⟩ := bound ((vls hs).zip pt) [] (by simp)
  have hF := foldF_eq ((vls hs).zip pt)
  rw [hzip1, hzip2] at hF
  have hne : ∀ sc ∈ foldF ((vls hs).zip pt), sc ≠ [] := fun sc hsc e => by
    rw [hF] at hsc
    have h1 := ((prods_mem _ sc).mp (List.mem_filter.mp hsc).1).1
    have h2 := H.a
    rw [e] at h1
    simp [vls] at h1
    rw [← h1] at h2
    simp at h2
  have v0 : mVar 0 [some (HD false hs), some (tp pt), none, none, none, none, none] = some (HD false hs, [some (HD false hs), some (tp pt), none, none, none, none, none]) := ev_var rfl (fz_HD hs)
  have v1 : mVar 1 [some (HD false hs), some (tp pt), none, none, none, none, none] = some (tp pt, [some (HD false hs), some (tp pt), none, none, none, none, none]) := ev_var rfl (fz_tps pt)
  have ev2 := ev_varf (i := 2) (δ := [some (HD false hs), some (tp pt), some (.lst o ((foldF ((vls hs).zip pt)).map tp)), x3, x4, none, none]) rfl
  rw [show fz (.lst o ((foldF ((vls hs).zip pt)).map tp)) = .lst false ((foldF ((vls hs).zip pt)).map tp) by simp only [fz, fzs_typ tp fz_tps]] at ev2
  refine fin_rt (np := 2) (N := 7) (δ := [some (.lst false ((foldF ((vls hs).zip pt)).map tp)), x3, x4, none, none]) rfl (by decide) ?_
  refine (ev_seq (ev_expr (ev_calle1 v0 (need_hall_ok hs)))).trans ((ev_seq (ev_expr (ev_calle2 v0 v1 (need_pattern_ok H (th_tp hpl hp) hb)))).trans ((ev_seq (δ1 := [some (HD false hs), some (tp pt), some (.lst true ((foldF []).map tp)), none, none, none, none]) rfl).trans ((ev_seq ((ev_for ?_).trans el)).trans (ev_ret ?_))))
  · unfold iZip2
    rw [ev_cons (values_ev (i := 0) rfl) (ev_cons (ev_var (i := 1) (d := tp pt) rfl (fz_tps pt)) (r := mNil) rfl)]
    simp only [tpS, seqD, fzs_strs]
    rw [fzs_isFzs _ (fz_vt hs), zipD_typ]
    rfl
  · refine ev_call1 (g := dSortA) ev2 ((sort_tps hne (Nat.le_trans bl (by decide))).trans ?_)
    rw [hF, ← sortT_keep]
end K03
set_option Elab.async false
set_option linter.all false
set_option maxRecDepth 100000
set_option maxHeartbeats 0
namespace K03
open PySem PySem.Spec PyProof.Rows L2 DL
def conf (a b : Str) : Bool := !decide (("" : Str) ∈ [a, b]) && !decide (a = b)
def comm (a b : Str) : Str := if a = "" then b else a
def clash (x y : List Str) : Bool := (x.zip y).any fun p => conf p.1 p.2
def common (x y : List Str) : List Str := (x.zip y).map fun p => comm p.1 p.2
def metD (x y : List Str) : D := if clash x y = true then .non else tp (common x y)
theorem met_ok {hs : Cs} {x y : List Str} (H : Ok hs) (hx : ∀ z ∈ x, PyData.strOk z = true) (hy : ∀ z ∈ y, PyData.strOk z = true) (lx : x.length ≤ 100) (ly : y.length ≤ 100) (bx : likeB [""] hs (tp x) = true) (by' : likeB [""] hs (tp y) = true) :
    m_met [HD false hs, tp x, tp y] = some (metD x y, [HD false hs, tp x, tp y]) := by
  have v0 : mVar 0 [some (HD false hs), some (tp x), some (tp y), none, none] = some (HD false hs, [some (HD false hs), some (tp x), some (tp y), none, none]) := ev_var rfl (fz_HD hs)
  have v1 : mVar 1 [some (HD false hs), some (tp x), some (tp y), none, none] = some (tp x, [some (HD false hs), some (tp x), some (tp y), none, none]) := ev_var rfl (fz_tps x)
  have v2 : mVar 2 [some (HD false hs), some (tp x), some (tp y), none, none] = some (tp y, [some (HD false hs), some (tp x), some (tp y), none, none]) := ev_var rfl (fz_tps y)
  have hz : (x.zip y).length ≤ sizeLine := by rw [List.length_zip]; exact Nat.le_trans (Nat.min_le_left _ _) (Nat.le_trans lx (by decide))
  have lc := lc_typ (own := [3, 4]) (t := tTup (tsCons (tName 3) (tsCons (tName 4) tsNil))) (c := (tAnd2 (toT (mBin dNotIn (mC (.str "")) (mTup (mCons (mVar 3) (mCons (mVar 4) mNil))))) (toT (mBin dNe (mVar 3) (mVar 4))))) (m := mC (.int 1)) (δ1 := [some (HD false hs), some (tp x), some (tp y), none, none]) (x.zip y) (fun p => D.tup [.str p.1, .str p.2]) (fun p => conf p.1 p.2) (fun _ => .int 1) (zip_ev (i := 1) (j := 2) rfl rfl) rfl hz fun p hp' => ⟨_, rfl, rfl, by
    obtain ⟨h1, h2⟩ := List.of_mem_zip (show (p.1, p.2) ∈ x.zip y from hp')
    exact ev_and2 (ev_toT (ev_bin (g := dNotIn) (a := mC (.str "")) rfl (ev_tup (ev_cons (ev_var (i := 3) (d := .str p.1) rfl rfl) (ev_cons (ev_var (i := 4) (d := .str p.2) rfl rfl) (r := mNil) rfl)) (by show 2 ≤ sizeLine; decide)) (notIn_tup (z := "") (L := [p.1, p.2]) empty_ok fun z hz' => by
      rcases List.mem_cons.mp hz' with rfl | hz'
      · exact hx _ h1
      · rw [List.mem_singleton.mp hz']; exact hy _ h2))) fun _ => ev_toT (ev_bin (g := dNe) (ev_var (i := 3) (d := .str p.1) rfl rfl) (ev_var (i := 4) (d := .str p.2) rfl rfl) (nestr _ _)), fun _ => rfl⟩
  have e0 : (((x.zip y).filter fun p => conf p.1 p.2).map fun _ => D.int 1) = (((x.zip y).filter fun p => conf p.1 p.2).map fun _ => (1 : Int)).map D.int := by rw [List.map_map]; rfl
  rw [e0] at lc
  have c1 := ev_toT (ev_bin (g := dNe) lc (b := mLst mNil) (y := .lst true []) rfl (dNe_ints _))
  have e1 : (!(((x.zip y).filter fun p => conf p.1 p.2).map fun _ => (1 : Int)).isEmpty) = clash x y := by
    unfold clash
    induction x.zip y with
    | nil => rfl
    | cons p r ih =>
      rw [List.filter_cons, List.any_cons]
      cases hq : conf p.1 p.2 with
      | true => simp
      | false => simpa [hq] using ih
  rw [e1] at c1
  have pre : ∀ {b : MS} {z : Fl}, b [some (HD false hs), some (tp x), some (tp y), none, none] = some z → (sCons (sExpr (mCall m_need_hall [.e (mVar 0)] [])) (sCons (sExpr (mCall m_need_pattern [.e (mVar 0), .e (mVar 1)] [])) (sCons (sExpr (mCall m_need_pattern [.e (mVar 0), .e (mVar 2)] [])) b))) [some (HD false hs), some (tp x), some (tp y), none, none] = some z := fun h =>
    (ev_seq (ev_expr (ev_calle1 v0 (need_hall_ok hs)))).trans ((ev_seq (ev_expr (ev_calle2 v0 v1 (need_pattern_ok H (th_tp lx hx) bx)))).trans ((ev_seq (ev_expr (ev_calle2 v0 v2 (need_pattern_ok H (th_tp ly hy) by')))).trans h))
  refine fin_rt (np := 3) (N := 5) (δ := [none, none]) rfl (by decide) (pre ?_)
  unfold metD
  cases hc : clash x y with
  | true =>
    rw [hc] at c1
    exact ev_stop ((ev_if1 c1).trans (ev_ret (m := mC .non) rfl))
  | false =>
    rw [hc] at c1
    refine (ev_seq ((ev_if0 c1).trans rfl)).trans (ev_ret (ev_call1 (g := dTuple) (lc_map (own := [3, 4]) (t := tTup (tsCons (tName 3) (tsCons (tName 4) tsNil))) (m := (mIf (toT (mBin dNe (mVar 3) (mC (.str "")))) (mVar 3) (mVar 4))) (δ1 := [some (HD false hs), some (tp x), some (tp y), none, none]) (x.zip y) (fun p => D.tup [.str p.1, .str p.2]) (fun p => .str (comm p.1 p.2)) (zip_ev (i := 1) (j := 2) rfl rfl) rfl hz fun p hp' => ⟨_, rfl, rfl, ?_⟩) ?_))
    · refine (ev_if_e (ev_toT (ev_bin (g := dNe) (ev_var (i := 3) (d := .str p.1) rfl rfl) (b := mC (.str "")) rfl (nestr _ _)))).trans ?_
      by_cases he : p.1 = ""
      · rw [if_neg (by simp [he])]
        unfold comm
        rw [if_pos he]
        exact ev_var (i := 4) rfl rfl
      · rw [if_pos (by simp [he])]
        unfold comm
        rw [if_neg he]
        exact ev_var (i := 3) rfl rfl
    · simp [dTuple, common, tp, tpS, List.map_map, Function.comp]
/-- a pattern of the values vss -/
def PatB (vss : List (List Str)) (x : List Str) : Prop := x.length = vss.length ∧ ∀ p ∈ vss.zip x, p.2 = "" ∨ p.2 ∈ p.1
theorem fit_common {sc x y : List Str} (hc : clash x y = false) (h1 : sc.length = x.length) (h2 : x.length = y.length) : fitB sc (common x y) = (fitB sc x && fitB sc y) := by
  induction sc generalizing x y with
  | nil =>
    have : x = [] := List.length_eq_zero_iff.mp h1.symm
    subst this
    have : y = [] := List.length_eq_zero_iff.mp h2.symm
    subst this
    rfl
  | cons v sc ih =>
    match x, y, h1, h2 with
    | a :: x, b :: y, h1, h2 =>
      unfold clash at hc
      rw [List.zip_cons_cons, List.any_cons, Bool.or_eq_false_iff] at hc
      have := ih (x := x) (y := y) hc.2 (by simpa using h1) (by simpa using h2)
      have e : okw (comm a b) v = (okw a v && okw b v) := by
        have hcf := hc.1
        unfold conf at hcf
        unfold okw comm
        by_cases ha : a = ""
        · subst ha; simp
        · by_cases hb : b = ""
          · subst hb; simp [ha]
          · have hab : a = b := by
              simpa [ha, hb, Ne.symm ha, Ne.symm hb, show ¬ (Str.ofString "" = a) from fun e => ha e.symm, show ¬ (Str.ofString "" = b) from fun e => hb e.symm] using hcf
            subst hab; simp [ha]
      show (okw (comm a b) v && fitB sc (common x y)) = ((okw a v && fitB sc x) && (okw b v && fitB sc y))
      rw [this, e]
      cases okw a v <;> cases okw b v <;> cases fitB sc x <;> simp
theorem clash_none {sc x y : List Str} (hc : clash x y = true) (h1 : sc.length = x.length) (h2 : x.length = y.length) : (fitB sc x && fitB sc y) = false := by
  induction sc generalizing x y with
  | nil =>
    have : x = [] := List.length_eq_zero_iff.mp h1.symm
    subst this
    have : y = [] := List.length_eq_zero_iff.mp h2.symm
    subst this
    cases hc
  | cons v sc ih =>
    match x, y, h1, h2 with
    | a :: x, b :: y, h1, h2 =>
      unfold clash at hc
      rw [List.zip_cons_cons, List.any_cons, Bool.or_eq_true] at hc
      show ((okw a v && fitB sc x) && (okw b v && fitB sc y)) = false
      rcases hc with hc | hc
      · have : (okw a v && okw b v) = false := by
          unfold conf at hc
          simp only [List.mem_cons, List.not_mem_nil, or_false, Bool.and_eq_true, Bool.not_eq_true', decide_eq_false_iff_not, not_or] at hc
          obtain ⟨⟨q1, q2⟩, q3⟩ := hc
          unfold okw
          have n1 : ¬ a = "" := fun e => q1 e.symm
          have n2 : ¬ b = "" := fun e => q2 e.symm
          simp only [n1, n2, decide_false, Bool.false_or]
          by_cases e1 : a = v
          · have : ¬ b = v := fun e2 => q3 (e1.trans e2.symm)
            simp [this]
          · simp [e1]
        cases h : okw a v <;> cases h' : okw b v <;> simp_all
      · have := ih (x := x) (y := y) hc (by simpa using h1) (by simpa using h2)
        cases okw a v <;> cases okw b v <;> simp_all
/-- a common pattern has a scene -/
theorem common_scene {vss : List (List Str)} {x y : List Str} (hv : ∀ vs ∈ vss, vs ≠ []) (px : PatB vss x) (py : PatB vss y) (hc : clash x y = false) : PatB vss (common x y) ∧ ∃ sc ∈ prods vss, fitB sc (common x y) = true := by
  have key : ∀ (vss : List (List Str)) (x y : List Str), (∀ vs ∈ vss, vs ≠ []) → PatB vss x → PatB vss y → PatB vss (common x y) ∧ ∃ sc : List Str, sc.length = vss.length ∧ (∀ p ∈ vss.zip sc, p.2 ∈ p.1) ∧ fitB sc (common x y) = true := by
    intro vss
    induction vss with
    | nil =>
      intro x y _ px py
      have hx : x = [] := List.length_eq_zero_iff.mp px.1
      subst hx
      exact ⟨⟨rfl, by simp [common]⟩, [], rfl, by simp, rfl⟩
    | cons vs vss ih =>
      intro x y hv px py
      match x, y, px, py with
      | a :: x, b :: y, px, py =>
        have px' : PatB vss x := ⟨by simpa using px.1, fun p hp => px.2 p (by rw [List.zip_cons_cons]; exact List.mem_cons_of_mem _ hp)⟩
        have py' : PatB vss y := ⟨by simpa using py.1, fun p hp => py.2 p (by rw [List.zip_cons_cons]; exact List.mem_cons_of_mem _ hp)⟩
        obtain ⟨q, sc, h1, h2, h3⟩ := ih x y (fun v hv' => hv v (List.mem_cons_of_mem _ hv')) px' py'
        have ha := px.2 (vs, a) (by rw [List.zip_cons_cons]; exact List.mem_cons_self)
        have hb := py.2 (vs, b) (by rw [List.zip_cons_cons]; exact List.mem_cons_self)
        have hcm : comm a b = "" ∨ comm a b ∈ vs := by
          unfold comm
          split
          · exact hb
          · rename_i h
            exact .inr (ha.resolve_left h)
        have hvs := hv vs List.mem_cons_self
        obtain ⟨v, hvm, hok⟩ : ∃ v ∈ vs, okw (comm a b) v = true := by
          rcases hcm with h | h
          · match vs, hvs with
            | v :: r, _ => exact ⟨v, List.mem_cons_self, by simp [okw, h]⟩
          · exact ⟨comm a b, h, by simp [okw]⟩
        refine ⟨⟨?_, fun p hp => ?_⟩, v :: sc, by simp [h1], fun p hp => ?_, ?_⟩
        · show (comm a b :: common x y).length = _
          rw [List.length_cons, List.length_cons, q.1]
        · have hp : p ∈ (vs :: vss).zip (comm a b :: common x y) := hp
          rw [List.zip_cons_cons] at hp
          rcases List.mem_cons.mp hp with rfl | hp
          · exact hcm
          · exact q.2 p hp
        · rw [List.zip_cons_cons] at hp
          rcases List.mem_cons.mp hp with rfl | hp
          · exact hvm
          · exact h2 p hp
        · show (okw (comm a b) v && fitB sc (common x y)) = true
          rw [hok, h3]; rfl
  obtain ⟨q, sc, h1, h2, h3⟩ := key vss x y hv px py
  exact ⟨q, sc, (prods_mem _ sc).mpr ⟨h1, h2⟩, h3⟩
theorem pat_like {hs : Cs} {x : List Str} (h : PatB (vls hs) x) : likeB [""] hs (tp x) = true := by
  have hl : x.length = hs.length := by rw [h.1]; simp [vls]
  show (decide ((x.map D.str).length = hs.length) && allZ [""] hs (x.map D.str)) = true
  rw [List.length_map, decide_eq_true hl, Bool.true_and]
  unfold allZ
  refine List.all_eq_true.mpr fun p hp => ?_
  rw [List.zip_map_right] at hp
  obtain ⟨q, hq, rfl⟩ := List.mem_map.mp hp
  have := h.2 q hq
  show decide (q.2 ∈ q.1 ++ [("" : Str)]) = true
  refine decide_eq_true ?_
  rcases this with e | e
  · rw [e]; simp
  · exact List.mem_append.mpr (.inl e)
theorem scene_like {hs : Cs} {sc : List Str} (h : sc ∈ prods (vls hs)) : likeB [] hs (tp sc) = true ∧ PatB (vls hs) sc := by
  obtain ⟨h1, h2⟩ := (prods_mem _ sc).mp h
  have hl : sc.length = hs.length := by rw [h1]; simp [vls]
  refine ⟨?_, h1, fun p hp => .inr (h2 p hp)⟩
  show (decide ((sc.map D.str).length = hs.length) && allZ [] hs (sc.map D.str)) = true
  rw [List.length_map, decide_eq_true hl, Bool.true_and]
  unfold allZ
  refine List.all_eq_true.mpr fun p hp => ?_
  rw [List.zip_map_right] at hp
  obtain ⟨q, hq, rfl⟩ := List.mem_map.mp hp
  show decide (q.2 ∈ q.1 ++ []) = true
  exact decide_eq_true (List.mem_append.mpr (.inl (h2 q hq)))
end K03
set_option Elab.async false
set_option linter.all false
set_option maxRecDepth 100000
set_option maxHeartbeats 0
namespace K03
open PySem PySem.Spec PyProof.Rows L2 DL
theorem pat_ok {s : Dr} {b : Nat} {ws : Cs} (H : Ok ws) (h : s.Ok b) (hb : b + 10 < 2 ^ 40) : ∃ pt, PatB (vls (srtC ws)) pt ∧ (∀ z ∈ pt, PyData.strOk z = true) ∧ ∃ s' : Dr, s'.Ok (b + 3) ∧ m__law_pattern [s.d, MD ws] = some (tp pt, [s'.d, MD ws]) := by
  have Hs := H.perm (srtC_perm ws)
  obtain ⟨δ', acc, el, dn, rest, s', pt, hsp, hr, rfl, hl, hz, hok, h', rfl⟩ := loopC_ind (own := [2]) (t := tName 2) (c := tTrue) (m := (mCall m__law_pick [.v 0, .e (mFz (mBin dAdd (mLst (mCons (mC (.str "")) (mCons (mC (.str "")) mNil))) (mPath 1 (pSub (pSub pVar (kC (.str "cells"))) (kPur [false, false, true] (mVar 2))))))] []))
    (J := fun r δ acc => ∃ (dn rest : Cs) (s2 : Dr) (pt : List Str), srtC ws = dn ++ rest ∧ r = rest.map (fun w => D.str w.1) ∧ acc = pt.map D.str ∧ pt.length = dn.length ∧ (∀ p ∈ (vls dn).zip pt, p.2 = "" ∨ p.2 ∈ p.1) ∧ (∀ z ∈ pt, PyData.strOk z = true) ∧ s2.Ok (b + dn.length) ∧ δ = [some s2.d, some (MD ws), none])
    (fun d r δ acc hJ => by
      obtain ⟨dn, rest, s2, pt, hsp, hr, rfl, hl, hz, hok, h2, rfl⟩ := hJ
      match rest, hr with
      | w :: rest, hr =>
        cases hr
        have hw0 : w ∈ srtC ws := by rw [hsp]; exact List.mem_append.mpr (.inr List.mem_cons_self)
        have hw : w ∈ ws := (srtC_perm ws).mem_iff.mp hw0
        have hdl : dn.length ≤ 3 := by
          have := congrArg List.length hsp
          have := Hs.b
          simp at *
          omega
        have hv3 := Hs.v3 w hw0
        obtain ⟨j, d, hd, s3, h3, e3⟩ := pick_ok (o := false) (ds := ([("" : Str), ""] ++ w.2).map D.str) h2 (by omega) (by simp) (by simp; omega)
        rw [List.getElem?_map] at hd
        obtain ⟨z, hz1, rfl⟩ := Option.map_eq_some_iff.mp hd
        have hzm := List.mem_of_getElem? hz1
        have hzc : z = "" ∨ z ∈ w.2 := by
          rcases List.mem_append.mp hzm with q | q
          · left; simpa using q
          · exact .inr q
        have ea : mFz (mBin dAdd (mLst (mCons (mC (.str "")) (mCons (mC (.str "")) mNil))) (mPath 1 (pSub (pSub pVar (kC (.str "cells"))) (kPur [false, false, true] (mVar 2))))) [some s2.d, some (MD ws), some (.str w.1)] = some (.lst false (([("" : Str), ""] ++ w.2).map D.str), [some s2.d, some (MD ws), some (.str w.1)]) := by
          refine (ev_fz (ev_bin (g := dAdd) (x := .lst true [.str "", .str ""]) rfl (cell_path (i := 1) (j := 2) (m := [false, false, true]) rfl rfl H.n hw) (add_lst (by simp; exact Nat.le_trans (show 2 + w.2.length ≤ 5 by omega) (by decide))))).trans ?_
          simp only [fz]
          congr 3
          exact fzs_strs ([("" : Str), ""] ++ w.2)
        refine ⟨_, _, rfl, .inr ⟨rfl, _, _, ev_callv0e (d := s2.d) (d1 := s2.d) ea rfl e3, dn ++ [w], rest, s3, pt ++ [z], by rw [hsp]; simp, rfl, by simp [fz], by simp [hl], fun p hp => ?_, fun y hy => ?_, h3.mono (by simp; omega), rfl⟩⟩
        · rw [vls_app, List.zip_append (by simp [vls, hl])] at hp
          rcases List.mem_append.mp hp with hp | hp
          · exact hz p hp
          · have : p = (w.2, z) := by simpa [vls] using hp
            rw [this]; exact hzc
        · rcases List.mem_append.mp hy with hy | hy
          · exact hok y hy
          · rw [List.mem_singleton.mp hy]
            rcases hzc with e | e
            · rw [e]; exact empty_ok
            · exact (H.vl w hw z e).ok) ((srtC ws).map fun w => D.str w.1) [some s.d, some (MD ws), none] [] ⟨[], srtC ws, s, [], rfl, rfl, rfl, rfl, by simp, by simp, h.mono (by simp), rfl⟩
  have : rest = [] := by cases rest with
    | nil => rfl
    | cons _ _ => cases hr
  subst this
  rw [List.append_nil] at hsp
  subst hsp
  refine ⟨pt, ⟨by rw [hl]; simp [vls], hz⟩, hok, s', h'.mono (by have := Hs.b; omega), ?_⟩
  have body : b__law_pattern [some s.d, some (MD ws), none] = some (.rt (tp pt) [some s'.d, some (MD ws), none]) := by
    refine ev_ret (ev_call1 (g := dTuple) (ev_lc (own := [2]) ((iAny_lst (sorted_ev (i := 1) H rfl)).trans (by rw [fzs_typ (fun w : Str × List Str => D.str w.1) fun _ => rfl])) (by rw [List.length_map]; exact Nat.le_trans Hs.b (by decide)) el) rfl)
  exact fin_gen (N := 3) rfl body rfl
theorem vls_zip (more : List Str) (hs : Cs) (ds : List D) : allZ more hs ds = ((hs.zip ds).all fun p => inV (p.1.2 ++ more) p.2) := by
  unfold allZ vls
  rw [List.zip_map_left, List.all_map]
  rfl
theorem is_like_ok {ws : Cs} {d : D} {more : List Str} (H : Ok ws) (h : Th d) (hm : ∀ z ∈ more, PyData.strOk z = true) (hml : more.length ≤ 10) : m__law_is_like [MD ws, d, .lst false (more.map D.str)] = some (.bl (likeB more (srtC ws) d), [MD ws, d, .lst false (more.map D.str)]) := by
  have Hs := H.perm (srtC_perm ws)
  have e1 := ev_callB (g := dIsO ct) (ev_cons (ev_var (i := 1) (δ := [some (MD ws), some d, some (.lst false (more.map D.str)), none, none]) rfl h.f) (ev_cons (a := mC (.ty .tup)) rfl (r := mNil) rfl)) h.t
  by_cases ht : ∃ ds, d = .tup ds
  · obtain ⟨ds, rfl⟩ := ht
    obtain ⟨h100, hi⟩ := h.i ds rfl
    have hf : isFzs ds = true := isFzs_iff.mpr fun e he => (hi e he).f
    have e2 : (toT (mBin dNe (mCallB dLen (mCons (mVar 1) mNil)) (mCallB dLen (mCons (mPath 0 (pSub pVar (kC (.str "cells")))) mNil)))) [some (MD ws), some (.tup ds), some (.lst false (more.map D.str)), none, none] = some (!decide (ds.length = (srtC ws).length), [some (MD ws), some (.tup ds), some (.lst false (more.map D.str)), none, none]) := by
      refine ev_toT (ev_bin (g := dNe) (ev_call1 (g := dLen) (ev_var (i := 1) (d := .tup ds) rfl h.f) (d := .int ds.length) rfl) (ev_call1 (g := dLen) (cells_path rfl) (d := .int ws.length) (by simp [dLen, CD, nms])) ?_)
      show some (D.bl (!decide ((ds.length : Int) = ws.length))) = _
      congr 3
      refine decide_eq_decide.mpr ?_
      rw [(srtC_perm ws).length_eq]
      omega
    by_cases hl : ds.length = (srtC ws).length
    · rw [decide_eq_true hl] at e2
      have fl := for_typ (J := fun δ => ∃ x3 x4, δ = [some (MD ws), some (.tup ds), some (.lst false (more.map D.str)), x3, x4]) (i := (iZip2 (mCons (mCallB dSortA (mCons (mPath 0 (pSub pVar (kC (.str "cells")))) mNil)) (mCons (mVar 1) mNil)))) (t := (tTup (tsCons (tName 3) (tsCons (tName 4) tsNil)))) (b := (sIf (tOr2 (tNot1 (mTru (mCallB (dIsO ct) (mCons (mVar 4) (mCons (mC (.ty .str)) mNil))))) (toT (mBin dNotIn (mVar 4) (mBin dAdd (mPath 0 (pSub (pSub pVar (kC (.str "cells"))) (kPur [false, false, false, true] (mVar 3)))) (mVar 2)))))
        (sRet (mC (.bl false))) sNil)) (δ := [some (MD ws), some (.tup ds), some (.lst false (more.map D.str)), none, none]) (δ1 := [some (MD ws), some (.tup ds), some (.lst false (more.map D.str)), none, none]) ((srtC ws).zip ds) (fun p => D.tup [.str p.1.1, p.2]) (fun p => inV (p.1.2 ++ more) p.2) (.bl false) (by
          unfold iZip2
          rw [ev_cons (sorted_ev (i := 0) H rfl) (ev_cons (ev_var (i := 1) (d := .tup ds) rfl h.f) (r := mNil) rfl)]
          simp only [seqD]
          rw [fzs_typ (fun w : Str × List Str => D.str w.1) fun _ => rfl, fzs_isFzs ds hf]
          have := zipD_typ (fun w : Str × List Str => D.str w.1) id (srtC ws) ds
          rw [List.map_id] at this
          rw [this]
          rfl) ⟨none, none, rfl⟩ (fun p hp δ hJ => by
          obtain ⟨x3, x4, rfl⟩ := hJ
          obtain ⟨hp1, hp2⟩ := List.of_mem_zip (show (p.1, p.2) ∈ (srtC ws).zip ds from hp)
          have hw : p.1 ∈ ws := (srtC_perm ws).mem_iff.mp hp1
          have hie := hi p.2 hp2
          have t1 : (tOr2 (tNot1 (mTru (mCallB (dIsO ct) (mCons (mVar 4) (mCons (mC (.ty .str)) mNil))))) (toT (mBin dNotIn (mVar 4) (mBin dAdd (mPath 0 (pSub (pSub pVar (kC (.str "cells"))) (kPur [false, false, false, true] (mVar 3)))) (mVar 2))))) [some (MD ws), some (.tup ds), some (.lst false (more.map D.str)), some (.str p.1.1), some p.2] = some (!inV (p.1.2 ++ more) p.2, [some (MD ws), some (.tup ds), some (.lst false (more.map D.str)), some (.str p.1.1), some p.2]) := by
            have q1 := ev_callB (g := dIsO ct) (ev_cons (ev_var (i := 4) (δ := [some (MD ws), some (.tup ds), some (.lst false (more.map D.str)), some (.str p.1.1), some p.2]) rfl hie.f) (ev_cons (a := mC (.ty .str)) rfl (r := mNil) rfl)) hie.s
            by_cases hstr : ∃ z, p.2 = .str z
            · obtain ⟨z, hz⟩ := hstr
              have q2 := ev_toT (ev_bin (g := dNotIn) (ev_var (i := 4) (δ := [some (MD ws), some (.tup ds), some (.lst false (more.map D.str)), some (.str p.1.1), some p.2]) (d := p.2) rfl hie.f) (ev_bin (g := dAdd) (cell_path (i := 0) (j := 3) (m := [false, false, false, true]) (w := p.1) rfl rfl H.n hw) (ev_var (i := 2) (d := .lst false (more.map D.str)) rfl (isFz_lst (isFzs_strs more))) (add_lst (by
                have := H.v3 p.1 hw
                simp only [List.length_map]
                exact Nat.le_trans (show _ ≤ 13 by omega) (by decide)))) (d := .bl (!decide (z ∈ p.1.2 ++ more))) (by
                  rw [hz, ← List.map_append]
                  exact notIn_lst (hie.w z hz) fun x hx => by
                    rcases List.mem_append.mp hx with hx | hx
                    · exact (H.vl p.1 hw x hx).ok
                    · exact hm x hx))
              rw [hz] at q1 q2 ⊢
              exact (ev_or2 (ev_not1 (ev_tru q1)) fun _ => q2).trans rfl
            · have hb : isStr p.2 = false := by
                cases hq : p.2 <;> first | rfl | exact absurd ⟨_, hq⟩ hstr
              rw [hb] at q1
              have : inV (p.1.2 ++ more) p.2 = false := by
                cases hq : p.2 <;> first | rfl | exact absurd ⟨_, hq⟩ hstr
              rw [this]
              exact ev_or2 (p := true) (q := true) (ev_not1 (p := false) (ev_tru q1)) (fun h => by cases h)
          refine ⟨_, rfl, fun hq => ?_, fun hq => ?_⟩
          · rw [hq] at t1
            exact ⟨_, (ev_if0 t1).trans rfl, _, _, rfl⟩
          · rw [hq] at t1
            exact ⟨_, (ev_if1 t1).trans (ev_ret (m := mC (.bl false)) rfl), _, _, rfl⟩)
      have c0 := ev_or2 (ev_not1 (p := true) (ev_tru e1)) fun _ => e2
      have hlk : likeB more (srtC ws) (.tup ds) = ((srtC ws).zip ds).all fun p => inV (p.1.2 ++ more) p.2 := by
        show (decide (ds.length = (srtC ws).length) && _) = _
        rw [decide_eq_true hl, Bool.true_and, vls_zip]
      rw [hlk]
      cases hb : ((srtC ws).zip ds).all fun p => inV (p.1.2 ++ more) p.2 with
      | true =>
        obtain ⟨δb, ⟨x3, x4, rfl⟩, e⟩ := fl.1 hb
        exact fin_rt (np := 3) (N := 5) (δ := [x3, x4]) rfl (by decide) ((ev_seq ((ev_if0 c0).trans rfl)).trans ((ev_seq e).trans (ev_ret (m := mC (.bl true)) rfl)))
      | false =>
        obtain ⟨δb, ⟨x3, x4, rfl⟩, e⟩ := fl.2 hb
        exact fin_rt (np := 3) (N := 5) (δ := [x3, x4]) rfl (by decide) ((ev_seq ((ev_if0 c0).trans rfl)).trans (ev_stop e))
    · rw [decide_eq_false hl] at e2
      have c0 := ev_or2 (ev_not1 (p := true) (ev_tru e1)) fun _ => e2
      have hlk : likeB more (srtC ws) (.tup ds) = false := by
        show (decide (ds.length = (srtC ws).length) && _) = _
        rw [decide_eq_false hl]; rfl
      rw [hlk]
      exact fin_rt (np := 3) (N := 5) (δ := [none, none]) rfl (by decide) (ev_stop ((ev_if1 c0).trans (ev_ret (m := mC (.bl false)) rfl)))
  · have hb : isTup d = false := by cases d <;> first | rfl | exact absurd ⟨_, rfl⟩ ht
    have hlk : likeB more (srtC ws) d = false := by cases d <;> first | rfl | exact absurd ⟨_, rfl⟩ ht
    rw [hb] at e1
    rw [hlk]
    exact fin_rt (np := 3) (N := 5) (δ := [none, none]) rfl (by decide) (ev_stop ((ev_if1 (ev_or2 (p := true) (q := true) (ev_not1 (p := false) (ev_tru e1)) (fun h => by cases h))).trans (ev_ret (m := mC (.bl false)) rfl)))
end K03
set_option Elab.async false
set_option linter.all false
set_option maxRecDepth 100000
set_option maxHeartbeats 0
namespace K03
open PySem PySem.Spec PyProof.Rows L2 DL
theorem th_strs {xs : List Str} (ds : List D) (hl : ds.length ≤ 100) (h : ∀ e ∈ ds, It e) : Th (.tup ds) := ⟨isFz_tup (isFzs_iff.mpr fun e he => (h e he).f), rfl, fun ds' e => by cases e; exact ⟨hl, h⟩⟩
theorem th_atom {d : D} (h1 : isFz d = true) (h2 : dIsO ct [d, .ty .tup] = some (.bl false)) (h3 : isTup d = false) : Th d := ⟨h1, by rw [h2, h3], fun ds e => by rw [e] at h3; cases h3⟩
theorem it_atom {d : D} (h1 : isFz d = true) (h2 : dIsO ct [d, .ty .str] = some (.bl false)) (h3 : isStr d = false) : It d := ⟨h1, by rw [h2, h3], fun z e => by rw [e] at h3; cases h3⟩
def NEAR (x : List Str) : List D := [.non, .int 5, .str "", .str "a", .tup [], .dct false [] [], .bl true, .lst false [tp x]]
def OTHER (v : List Str) : List D := [.str "", .str "zz", .non, .int 0, .tup [.str "a"], .bl true, .lst false [], .dct false [] [], .lst false [.lst false [.str "x"]]] ++ v.map D.str
theorem fz_lst1 {d : D} (h : isFz d = true) : isFz (.lst false [d]) = true := isFz_lst (by simp only [isFzs, h]; rfl)
theorem near_th {x : List Str} {d : D} (h : d ∈ NEAR x) : Th d := by
  simp only [NEAR, List.mem_cons, List.not_mem_nil, or_false] at h
  rcases h with rfl | rfl | rfl | rfl | rfl | rfl | rfl | rfl
  · exact th_atom rfl rfl rfl
  · exact th_atom rfl rfl rfl
  · exact th_atom rfl rfl rfl
  · exact th_atom rfl rfl rfl
  · exact th_tp (xs := []) (by decide) (by simp)
  · exact th_atom rfl rfl rfl
  · exact th_atom rfl rfl rfl
  · exact th_atom (fz_lst1 (fz_tps x)) rfl rfl
theorem other_it {v : List Str} {d : D} (hv : ∀ z ∈ v, PyData.strOk z = true) (h : d ∈ OTHER v) : It d := by
  rcases List.mem_append.mp h with h | h
  · simp only [List.mem_cons, List.not_mem_nil, or_false] at h
    rcases h with rfl | rfl | rfl | rfl | rfl | rfl | rfl | rfl | rfl
    · exact it_str empty_ok
    · exact it_str (by decide +kernel)
    · exact it_atom rfl rfl rfl
    · exact it_atom rfl rfl rfl
    · exact it_atom rfl rfl rfl
    · exact it_atom rfl rfl rfl
    · exact it_atom rfl rfl rfl
    · exact it_atom rfl rfl rfl
    · exact it_atom rfl rfl rfl
  · obtain ⟨z, hz, rfl⟩ := List.mem_map.mp h
    exact it_str (hv z hz)
theorem near_ok {s : Dr} {b : Nat} {ws : Cs} {x : List Str} (H : Ok ws) (h : s.Ok b) (hb : b + 10 < 2 ^ 40) (hx : ∀ z ∈ x, PyData.strOk z = true) (h1 : 1 ≤ x.length) (h3 : x.length ≤ 3) : ∃ d, Th (fz d) ∧ ∃ s' : Dr, s'.Ok (b + 5) ∧ m__law_near [s.d, MD ws, tp x] = some (d, [s'.d, MD ws, tp x]) := by
  have Hs := H.perm (srtC_perm ws)
  obtain ⟨a, a0, a1, s1, k1, e1⟩ := take_ok (n := (x.length : Int)) h (by omega) (by omega) (by omega)
  obtain ⟨w, w0, w1, s2, k2, e2⟩ := take_ok (n := 7) k1 (by omega) (by decide) (by decide)
  have itx : ∀ e ∈ x.map D.str, It e := fun e he => by
    obtain ⟨z, hz, rfl⟩ := List.mem_map.mp he
    exact it_str (hx z hz)
  have p0 : (sPar [3, 4] (mCons (mCall m__law_take [.v 0, .e (mCallB dLen (mCons (mVar 2) mNil))] []) (mCons (mCall m__law_take [.v 0, .e (mC (.int 7))] []) mNil))) [some s.d, some (MD ws), some (tp x), none, none, none, none] = some (.nx [some s2.d, some (MD ws), some (tp x), some (.int a), some (.int w), none, none]) :=
    ev_par2 (ev_cons (ev_callv0e (d := s.d) (d1 := s.d) (ev_call1 (g := dLen) (ev_var (i := 2) (d := tp x) rfl (fz_tps x)) (d := .int x.length) (by simp [dLen, tp, tpS])) rfl e1) (ev_cons (ev_callv0e (d := s1.d) (d1 := s1.d) (a := mC (.int 7)) rfl rfl e2) (r := mNil) rfl)) (by simp) (by simp)
  have t : ∀ k : Int, toT (mBin dEq (mVar 4) (mC (.int k))) [some s2.d, some (MD ws), some (tp x), some (.int a), some (.int w), none, none] = some (decide (w = k), [some s2.d, some (MD ws), some (tp x), some (.int a), some (.int w), none, none]) := fun k => ev_toT (ev_bin (g := dEq) (ev_var (i := 4) rfl rfl) (b := mC (.int k)) rfl rfl)
  have v2 : mVar 2 [some s2.d, some (MD ws), some (tp x), some (.int a), some (.int w), none, none] = some (tp x, [some s2.d, some (MD ws), some (tp x), some (.int a), some (.int w), none, none]) := ev_var rfl (fz_tps x)
  by_cases q0 : w = 0
  · have t0 := t 0
    rw [decide_eq_true q0] at t0
    refine ⟨.lst true (x.map D.str), ?_, s2, k2.mono (by omega), fin_gen (N := 7) (δ := [some s2.d, some (MD ws), some (tp x), some (.int a), some (.int w), none, none]) rfl ((ev_seq p0).trans (ev_stop ((ev_if1 t0).trans (ev_ret (ev_call1 (g := dList) v2 rfl))))) rfl⟩
    simp only [fz, fzs_strs]
    exact th_atom (isFz_lst (isFzs_strs x)) rfl rfl
  have n0 := t 0
  rw [decide_eq_false q0] at n0
  by_cases q1 : w = 1
  · have t1 := t 1
    rw [decide_eq_true q1] at t1
    have hth : Th (.tup (x.map D.str ++ DL.cutD (x.map D.str) none (some 1))) := th_strs (xs := []) _ (by
      have := cut_len (x.map D.str) none (some 1)
      simp at this ⊢; omega) fun e he => by
      rcases List.mem_append.mp he with he | he
      · exact itx e he
      · exact itx e (cut_mem he)
    refine ⟨_, by rw [fz_isFz _ hth.f]; exact hth, s2, k2.mono (by omega), fin_gen (N := 7) (δ := [some s2.d, some (MD ws), some (tp x), some (.int a), some (.int w), none, none]) rfl ((ev_seq p0).trans ((ev_seq ((ev_if0 n0).trans rfl)).trans (ev_stop ((ev_if1 t1).trans (ev_ret (ev_bin (g := dAdd) v2 (ev_sl (lo := oNone) v2 rfl (ev_some (m := mC (.int 1)) rfl)) (add_tup ?_))))))) rfl⟩
    have := cut_len (x.map D.str) none (some 1)
    rw [List.length_map] at this ⊢
    exact Nat.le_trans (show _ ≤ 6 by omega) (by decide)
  have n1 := t 1
  rw [decide_eq_false q1] at n1
  by_cases q2 : w = 2
  · have t2 := t 2
    rw [decide_eq_true q2] at t2
    have hth : Th (.tup (DL.cutD (x.map D.str) (some 1) none)) := th_strs (xs := []) _ (by
      have := cut_len (x.map D.str) (some 1) none
      simp at this ⊢; omega) fun e he => itx e (cut_mem he)
    exact ⟨_, by rw [fz_isFz _ hth.f]; exact hth, s2, k2.mono (by omega), fin_gen (N := 7) (δ := [some s2.d, some (MD ws), some (tp x), some (.int a), some (.int w), none, none]) rfl ((ev_seq p0).trans ((ev_seq ((ev_if0 n0).trans rfl)).trans ((ev_seq ((ev_if0 n1).trans rfl)).trans (ev_stop ((ev_if1 t2).trans (ev_ret (ev_sl (hi := oNone) v2 (ev_some (m := mC (.int 1)) rfl) rfl))))))) rfl⟩
  have n2 := t 2
  rw [decide_eq_false q2] at n2
  by_cases q3 : w = 3
  · have t3 := t 3
    rw [decide_eq_true q3] at t3
    obtain ⟨j, d, hd, s3, k3, e3⟩ := pick_ok (o := false) (ds := NEAR x) k2 (by omega) (by simp [NEAR]) (by simp [NEAR])
    have hth := near_th (List.mem_of_getElem? hd)
    have ea : mFz (mLst (mCons (mC .non) (mCons (mC (.int 5)) (mCons (mC (.str "")) (mCons (mC (.str "a")) (mCons (mTup mNil) (mCons (mC (.dct true [] [])) (mCons (mC (.bl true)) (mCons (mLst (mCons (mVar 2) mNil)) mNil))))))))) [some s2.d, some (MD ws), some (tp x), some (.int a), some (.int w), none, none] = some (.lst false (NEAR x), [some s2.d, some (MD ws), some (tp x), some (.int a), some (.int w), none, none]) := by
      have e0 : (mLst (mCons (mC .non) (mCons (mC (.int 5)) (mCons (mC (.str "")) (mCons (mC (.str "a")) (mCons (mTup mNil) (mCons (mC (.dct true [] [])) (mCons (mC (.bl true)) (mCons (mLst (mCons (mVar 2) mNil)) mNil))))))))) [some s2.d, some (MD ws), some (tp x), some (.int a), some (.int w), none, none] = some (.lst true [.non, .int 5, .str "", .str "a", .tup [], .dct true [] [], .bl true, .lst true [tp x]], [some s2.d, some (MD ws), some (tp x), some (.int a), some (.int w), none, none]) := by
        have ev2 := ev_lst (ev_cons v2 (r := mNil) rfl) (by show 1 ≤ sizeLine; decide)
        have := ev_cons (a := mC .non) (x := .non) (δ := [some s2.d, some (MD ws), some (tp x), some (.int a), some (.int w), none, none]) rfl (ev_cons (a := mC (.int 5)) (x := .int 5) rfl (ev_cons (a := mC (.str "")) (x := .str "") rfl (ev_cons (a := mC (.str "a")) (x := .str "a") rfl (ev_cons (a := mTup mNil) (x := .tup []) rfl (ev_cons (a := mC (.dct true [] [])) (x := .dct true [] []) rfl (ev_cons (a := mC (.bl true)) (x := .bl true) rfl (ev_cons ev2 (r := mNil) rfl)))))))
        exact ev_lst this (by show 8 ≤ sizeLine; decide)
      rw [ev_fz e0]
      simp only [fz, fzs, fz_isFz _ (fz_tps x), NEAR]
    exact ⟨fz d, by rw [fz_fz, fz_isFz _ hth.f]; exact hth, s3, k3.mono (by omega), fin_gen (N := 7) (δ := [some s3.d, some (MD ws), some (tp x), some (.int a), some (.int w), none, none]) rfl ((ev_seq p0).trans ((ev_seq ((ev_if0 n0).trans rfl)).trans ((ev_seq ((ev_if0 n1).trans rfl)).trans ((ev_seq ((ev_if0 n2).trans rfl)).trans (ev_stop ((ev_if1 t3).trans (ev_ret (ev_callv0e (d := s2.d) (d1 := s2.d) ea rfl e3)))))))) rfl⟩
  have n3 := t 3
  rw [decide_eq_false q3] at n3
  obtain ⟨j, d, hd, s3, k3, e3⟩ := pick_ok (o := false) (ds := (srtC ws).map fun w => D.str w.1) k2 (by omega) (by have := Hs.a; intro q; simp at q; rw [q] at this; simp at this) (by rw [List.length_map]; have := Hs.b; omega)
  rw [List.getElem?_map] at hd
  obtain ⟨c, hc, rfl⟩ := Option.map_eq_some_iff.mp hd
  have hcm : c ∈ ws := (srtC_perm ws).mem_iff.mp (List.mem_of_getElem? hc)
  have hv3 := H.v3 c hcm
  have s5 : (sSet 5 (mBin dIx (mPath 1 (pSub pVar (kC (.str "cells")))) (mCall m__law_pick [.v 0, .e (mFz (mCallB dSortA (mCons (mPath 1 (pSub pVar (kC (.str "cells")))) mNil)))] []))) [some s2.d, some (MD ws), some (tp x), some (.int a), some (.int w), none, none] = some (.nx [some s3.d, some (MD ws), some (tp x), some (.int a), some (.int w), some (lf c.2), none]) := by
    refine ev_set (i := 5) (δ1 := [some s3.d, some (MD ws), some (tp x), some (.int a), some (.int w), none, none]) (ev_bin (g := dIx) (cells_path (i := 1) (δ := [some s2.d, some (MD ws), some (tp x), some (.int a), some (.int w), none, none]) rfl) (ev_callv0e (d := s2.d) (d1 := s2.d) (x := .lst false ((srtC ws).map fun w => D.str w.1)) ?_ rfl e3) ?_) (by simp)
    · rw [ev_fz (sorted_ev (i := 1) H rfl)]
      simp only [fz]
      rw [fzs_typ (fun w : Str × List Str => D.str w.1) fun _ => rfl]
    · obtain ⟨j', hj'⟩ := List.mem_iff_getElem?.mp hcm
      show (lookD ((nms ws).map Sum.inr) (ws.map fun w => lf w.2) (.inr c.1)).map fz = some (lf c.2)
      rw [lookD_nodup (j := j') (d := lf c.2) (inr_nodup H.n) (by simp [nms, hj']) (by simp only [List.getElem?_map, hj', Option.map_some])]
      exact congrArg some (fz_isFz _ (fz_lf c.2))
  have hcv : ∀ z ∈ c.2, PyData.strOk z = true := fun z hz => (H.vl c hcm z hz).ok
  obtain ⟨j2, d, hd2, s4, k4, e4⟩ := pick_ok (o := false) (ds := OTHER c.2) k3 (by omega) (by simp [OTHER]) (by simp [OTHER]; omega)
  have hit := other_it hcv (List.mem_of_getElem? hd2)
  have ofz : fzs (OTHER c.2) = OTHER c.2 := fzs_isFzs _ (isFzs_iff.mpr fun e he => (other_it hcv he).f)
  have s6 : (sSet 6 (mCall m__law_pick [.v 0, .e (mFz (mBin dAdd (mLst (mCons (mC (.str "")) (mCons (mC (.str "zz")) (mCons (mC .non) (mCons (mC (.int 0)) (mCons (mTup (mCons (mC (.str "a")) mNil)) (mCons (mC (.bl true)) (mCons (mLst mNil) (mCons (mC (.dct true [] [])) (mCons (mLst (mCons (mLst (mCons (mC (.str "x")) mNil)) mNil)) mNil)))))))))) (mVar 5)))] [])) [some s3.d, some (MD ws), some (tp x), some (.int a), some (.int w), some (lf c.2), none] = some (.nx [some s4.d, some (MD ws), some (tp x), some (.int a), some (.int w), some (lf c.2), some d]) := by
    refine (ev_set (i := 6) (δ1 := [some s4.d, some (MD ws), some (tp x), some (.int a), some (.int w), some (lf c.2), none]) (ev_callv0e (d := s3.d) (d1 := s3.d) (x := .lst false (OTHER c.2)) ?_ rfl e4) (by simp)).trans ?_
    · have : (mLst (mCons (mC (.str "")) (mCons (mC (.str "zz")) (mCons (mC .non) (mCons (mC (.int 0)) (mCons (mTup (mCons (mC (.str "a")) mNil)) (mCons (mC (.bl true)) (mCons (mLst mNil) (mCons (mC (.dct true [] [])) (mCons (mLst (mCons (mLst (mCons (mC (.str "x")) mNil)) mNil)) mNil)))))))))) [some s3.d, some (MD ws), some (tp x), some (.int a), some (.int w), some (lf c.2), none] = some (.lst true [.str "", .str "zz", .non, .int 0, .tup [.str "a"], .bl true, .lst true [], .dct true [] [], .lst true [.lst true [.str "x"]]], [some s3.d, some (MD ws), some (tp x), some (.int a), some (.int w), some (lf c.2), none]) := rfl
      rw [ev_fz (ev_bin (g := dAdd) this (ev_var (i := 5) (d := lf c.2) rfl (fz_lf c.2)) (add_lst (by simp; exact Nat.le_trans (show _ ≤ 12 by omega) (by decide))))]
      simp only [fz, fzs_map, List.map_append, OTHER, List.map_cons, List.map_nil, List.map_map]
      rfl
    · rw [fz_isFz _ hit.f]; rfl
  have hth : Th (.tup ((DL.cutD (x.map D.str) none (some a) ++ [d]) ++ DL.cutD (x.map D.str) (some (a + 1)) none)) := th_strs (xs := []) _ (by
    have := cut_len (x.map D.str) none (some a)
    have := cut_len (x.map D.str) (some (a + 1)) none
    simp at *; omega) fun e he => by
    rcases List.mem_append.mp he with he | he
    · rcases List.mem_append.mp he with he | he
      · exact itx e (cut_mem he)
      · rw [List.mem_singleton.mp he]; exact hit
    · exact itx e (cut_mem he)
  have w2 : mVar 2 [some s4.d, some (MD ws), some (tp x), some (.int a), some (.int w), some (lf c.2), some d] = some (tp x, [some s4.d, some (MD ws), some (tp x), some (.int a), some (.int w), some (lf c.2), some d]) := ev_var rfl (fz_tps x)
  have w3 : mVar 3 [some s4.d, some (MD ws), some (tp x), some (.int a), some (.int w), some (lf c.2), some d] = some (.int a, [some s4.d, some (MD ws), some (tp x), some (.int a), some (.int w), some (lf c.2), some d]) := ev_var rfl rfl
  have l1 := cut_len (x.map D.str) none (some a)
  have l2 := cut_len (x.map D.str) (some (a + 1)) none
  rw [List.length_map] at l1 l2
  exact ⟨_, by rw [fz_isFz _ hth.f]; exact hth, s4, k4.mono (by omega), fin_gen (N := 7) (δ := [some s4.d, some (MD ws), some (tp x), some (.int a), some (.int w), some (lf c.2), some d]) rfl ((ev_seq p0).trans ((ev_seq ((ev_if0 n0).trans rfl)).trans ((ev_seq ((ev_if0 n1).trans rfl)).trans ((ev_seq ((ev_if0 n2).trans rfl)).trans ((ev_seq ((ev_if0 n3).trans rfl)).trans ((ev_seq s5).trans ((ev_seq s6).trans (ev_ret (ev_bin (g := dAdd) (ev_bin (g := dAdd) (ev_sl (lo := oNone) w2 rfl (ev_some w3)) (ev_tup (ev_cons (ev_var (i := 6) (d := d) rfl hit.f) (r := mNil) rfl) (by show 1 ≤ sizeLine; decide)) (add_tup (by simp; exact Nat.le_trans (show _ ≤ 4 by omega) (by decide)))) (ev_sl (hi := oNone) w2 (ev_some (ev_bin (g := dAdd) w3 (b := mC (.int 1)) rfl rfl)) rfl) (add_tup (by simp; exact Nat.le_trans (show _ ≤ 7 by omega) (by decide)))))))))))) rfl⟩
end K03
set_option Elab.async false
set_option linter.all false
set_option maxRecDepth 100000
set_option maxHeartbeats 0
namespace K03
open PySem PySem.Spec PyProof.Rows L2 DL
theorem any_scr {nums : List Int} {r : DL.Env} : iAny (mVar 0) (some (.scr (nums.map D.int)) :: r) = some (nums.map D.int, some (.scr (nums.map D.int)) :: r) := by
  have hv : mVar 0 (some (.scr (nums.map D.int)) :: r) = some (.scr (nums.map D.int), some (.scr (nums.map D.int)) :: r) := ev_var rfl (isFzs_ints nums)
  have e : DL.iLst (mVar 0) (some (.scr (nums.map D.int)) :: r) = some (nums.map D.int, some (.scr (nums.map D.int)) :: r) := by
    unfold DL.iLst
    rw [hv]
    simp only [itemsD, fzs_ints]
  unfold iAny
  rw [e]
theorem abs_ev {i : Int} {a b : Option D} : (mCallB dAbs (mCons (mVar 2) mNil)) [a, b, some (.int i)] = some (.int (if i < 0 then -i else i), [a, b, some (.int i)]) := ev_call1 (g := dAbs) (ev_int rfl) rfl
theorem ten18 (δ : DL.Env) : (mBin dPow (mC (.int 10)) (mC (.int 18))) δ = some (.int 1000000000000000000, δ) := by kernel_rfl
theorem begun_ok {nums : List Int} (hn : nums.length ≤ 63) : ∃ s : Dr, s.Ok 0 ∧ m__law_begun [.scr (nums.map D.int)] = some (s.d, [.scr (nums.map D.int)]) := by
  have hz : (nums.map D.int).length ≤ sizeLine := by rw [List.length_map]; exact Nat.le_trans hn (by decide)
  obtain ⟨δ1, acc1, el1, ⟨rs, hrs, hrl⟩, L, hL, rfl, hLl, rfl⟩ := loopC_ind (own := [2]) (t := tName 2) (c := toT (mBin dGe (mCallB dAbs (mCons (mVar 2) mNil)) (mBin dPow (mC (.int 10)) (mC (.int 18))))) (m := mBin dSub (mCallB dAbs (mCons (mVar 2) mNil)) (mBin dPow (mC (.int 10)) (mC (.int 18))))
    (J := fun r δ acc => (∃ rs : List Int, r = rs.map D.int ∧ rs.length ≤ 63) ∧ ∃ L : List Int, (∀ x ∈ L, 0 ≤ x) ∧ acc = L.map D.int ∧ L.length + r.length ≤ 63 ∧ δ = [some (.scr (nums.map D.int)), none, none])
    (fun d r δ acc hJ => by
      obtain ⟨⟨rs, hrs, hrl⟩, L, hL, rfl, hLl, rfl⟩ := hJ
      match rs, hrs with
      | i :: rs, hrs =>
        cases hrs
        simp only [List.length_cons] at hrl hLl
        have c := ev_toT (ev_bin (g := dGe) (abs_ev (i := i) (a := some (.scr (nums.map D.int))) (b := none)) (ten18 _) rfl)
        by_cases hc : (1000000000000000000 : Int) ≤ (if i < 0 then -i else i)
        · rw [decide_eq_true hc] at c
          refine ⟨_, _, rfl, .inr ⟨c, _, _, ev_bin (g := dSub) abs_ev (ten18 _) rfl, ⟨rs, rfl, by omega⟩, L ++ [(if i < 0 then -i else i) - 1000000000000000000], fun x hx => ?_, by simp, by simp at hLl ⊢; omega, rfl⟩⟩
          (rcases List.mem_append.mp hx with hx | hx)
          · exact hL x hx
          · rw [List.mem_singleton.mp hx]; omega
        · rw [decide_eq_false hc] at c
          exact ⟨_, _, rfl, .inl ⟨c, ⟨rs, rfl, by omega⟩, L, hL, rfl, by omega, rfl⟩⟩) (nums.map D.int) [some (.scr (nums.map D.int)), none, none] [] ⟨⟨nums, rfl, hn⟩, [], by simp, rfl, by simpa using hn, rfl⟩
  obtain ⟨δ2, acc2, el2, _, C, hC, rfl, hCl, rfl⟩ := loopC_ind (own := [2]) (t := tName 2) (c := tTrue) (m := mCallB dAbs (mCons (mVar 2) mNil))
    (J := fun r δ acc => (∃ rs : List Int, r = rs.map D.int ∧ rs.length ≤ 63) ∧ ∃ L : List Int, (∀ x ∈ L, 0 ≤ x) ∧ acc = L.map D.int ∧ L.length + r.length ≤ 63 ∧ δ = [some (.scr (nums.map D.int)), none, none])
    (fun d r δ acc hJ => by
      obtain ⟨⟨rs, hrs, hrl⟩, L, hL, rfl, hLl, rfl⟩ := hJ
      match rs, hrs with
      | i :: rs, hrs =>
        cases hrs
        simp only [List.length_cons] at hrl hLl
        refine ⟨_, _, rfl, .inr ⟨rfl, _, _, abs_ev, ⟨rs, rfl, by omega⟩, L ++ [if i < 0 then -i else i], fun x hx => ?_, by simp, by simp at hLl ⊢; omega, rfl⟩⟩
        (rcases List.mem_append.mp hx with hx | hx)
        · exact hL x hx
        · rw [List.mem_singleton.mp hx]; split <;> omega) (nums.map D.int) [some (.scr (nums.map D.int)), none, none] [] ⟨⟨nums, rfl, hn⟩, [], by simp, rfl, by simpa using hn, rfl⟩
  have lc1 := ev_lc (ev_altI (b := keysAt 0 pVar) (any_scr (nums := nums) (r := [none, none]))) hz el1
  have lc2 := ev_lc (ev_altI (b := keysAt 0 pVar) (any_scr (nums := nums) (r := [none, none]))) hz el2
  refine ⟨⟨L, true, C, 0, 0⟩, ⟨hL, hC, Int.le_refl 0, Int.le_refl 0, Int.le_refl 0, by simp at hLl; show L.length ≤ 1000; omega, by simp at hCl; show C.length ≤ 1000; omega⟩, ?_⟩
  refine fin_rt (np := 1) (N := 3) (δ := [none, none]) rfl (by decide) ?_
  refine (ev_seq (ev_set (i := 1) lc1 (by simp))).trans (ev_ret ?_)
  have lc2' : (mLc (iAlt (iAny (mVar 0)) (keysAt 0 pVar)) [2] (tName 2) tTrue (mCallB dAbs (mCons (mVar 2) mNil))) [some (.scr (nums.map D.int)), none, none] = some (.lst true (C.map D.int), [some (.scr (nums.map D.int)), none, none]) := lc2
  have pr : mPairs [((mC (.str "large")), (mMv 1)), ((mC (.str "cells")), (mLc (iAlt (iAny (mVar 0)) (keysAt 0 pVar)) [2] (tName 2) tTrue (mCallB dAbs (mCons (mVar 2) mNil)))), ((mC (.str "rest")), (mC (.int 0))), ((mC (.str "turn")), (mC (.int 0)))] [some (.scr (nums.map D.int)), some (.lst true (L.map D.int)), none] = some ([(.inr "large", .lst true (L.map D.int)), (.inr "cells", .lst true (C.map D.int)), (.inr "rest", .int 0), (.inr "turn", .int 0)], [some (.scr (nums.map D.int)), none, none]) := by
    have m1 : mMv 1 [some (.scr (nums.map D.int)), some (.lst true (L.map D.int)), none] = some (.lst true (L.map D.int), [some (.scr (nums.map D.int)), none, none]) := rfl
    simp only [mPairs, mC, keyD, m1, lc2']
  show mDisp _ [some (.scr (nums.map D.int)), some (.lst true (L.map D.int)), none] = _
  unfold mDisp
  rw [pr]
  exact if_pos (show Dr.ks.Nodup ∧ 4 ≤ 15 from ⟨by decide +kernel, by decide⟩)
end K03
set_option Elab.async false
set_option linter.all false
set_option maxRecDepth 100000
set_option maxHeartbeats 0
namespace K03
open PySem PySem.Spec PyProof.Rows L2 DL
theorem ne_str_refl (a : Str) : dNe (.str a) (.str a) = some (.bl false) := by
  show some (D.bl (!decide (a = a))) = _
  rw [decide_eq_true rfl]; rfl
theorem bb_repr (a b : Bool) (o : Bool) : ∃ w, reprD (.lst o [.bl a, .bl b]) = some w := bls_repr [a, b] (by show 2 ≤ 60; decide) o
/-- the body over the things -/
theorem things_ok {scr : D} {x2 x4 x6 x7 x9 x11 x12 x13 x14 x15 x16 : Option D} {st : Option D} {ws : Cs} (H : Ok ws) (ds : List D) (hds : ∀ d ∈ ds, Th d) (x8 x10 : Option D) : ∃ y8 y10, loopF (tName 10) (sCons (sSet 8 (mLst (mCons (mCall m__law_is_like [.e (mVar 3), .e (mVar 10), .e (mFz (mLst mNil))] []) (mCons (mCall m__law_is_like [.e (mVar 3), .e (mVar 10), .e (mFz (mLst (mCons (mC (.str "")) mNil)))] []) mNil)))) (sCons (sIf (toT (mBin dNe (mCallB dRepr (mCons (mLst (mCons (mCall (mPerm [1, 0] [1, 0] m_is_scene) [.e (mVar 10), .e (mVar 5)] []) (mCons (mCall (mPerm [1, 0] [1, 0] m_is_pattern) [.e (mVar 10), .e (mVar 5)] []) mNil))) mNil)) (mCallB dRepr (mCons (mVar 8) mNil)))) (sRet (mC (.bl false))) sNil) (sIf (toT (mBin dNe (mCallB dRepr (mCons (mLst (mCons (mCall m_is_scene [.e (mVar 5), .e (mVar 10)] []) (mCons (mCall m_is_pattern [.e (mVar 5), .e (mVar 10)] []) mNil))) mNil)) (mCallB dRepr (mCons (mVar 8) mNil)))) (sRet (mC (.bl false))) sNil))) ds [some scr, st, x2, some (MD ws), x4, some (HD false (srtC ws)), x6, x7, x8, x9, x10, x11, x12, x13, x14, x15, x16] = some (.nx [some scr, st, x2, some (MD ws), x4, some (HD false (srtC ws)), x6, x7, y8, x9, y10, x11, x12, x13, x14, x15, x16]) := by
  have Hs := H.perm (srtC_perm ws)
  obtain ⟨δ', el, _, y8, y10, rfl⟩ := loopF_ind (t := tName 10) (b := (sCons (sSet 8 (mLst (mCons (mCall m__law_is_like [.e (mVar 3), .e (mVar 10), .e (mFz (mLst mNil))] []) (mCons (mCall m__law_is_like [.e (mVar 3), .e (mVar 10), .e (mFz (mLst (mCons (mC (.str "")) mNil)))] []) mNil)))) (sCons (sIf (toT (mBin dNe (mCallB dRepr (mCons (mLst (mCons (mCall (mPerm [1, 0] [1, 0] m_is_scene) [.e (mVar 10), .e (mVar 5)] []) (mCons (mCall (mPerm [1, 0] [1, 0] m_is_pattern) [.e (mVar 10), .e (mVar 5)] []) mNil))) mNil)) (mCallB dRepr (mCons (mVar 8) mNil)))) (sRet (mC (.bl false))) sNil) (sIf (toT (mBin dNe (mCallB dRepr (mCons (mLst (mCons (mCall m_is_scene [.e (mVar 5), .e (mVar 10)] []) (mCons (mCall m_is_pattern [.e (mVar 5), .e (mVar 10)] []) mNil))) mNil)) (mCallB dRepr (mCons (mVar 8) mNil)))) (sRet (mC (.bl false))) sNil))))
    (J := fun r δ => (∀ d ∈ r, Th d) ∧ ∃ y8 y10, δ = [some scr, st, x2, some (MD ws), x4, some (HD false (srtC ws)), x6, x7, y8, x9, y10, x11, x12, x13, x14, x15, x16]) (fun d r δ hJ => by
      obtain ⟨hr, y8, y10, rfl⟩ := hJ
      have hd := hr d List.mem_cons_self
      obtain ⟨w, hw⟩ := bb_repr (likeB [] (srtC ws) d) (likeB [""] (srtC ws) d) true
      have hw0 : reprD (.lst false [.bl (likeB [] (srtC ws) d), .bl (likeB [""] (srtC ws) d)]) = some w := reprD_flag.trans hw
      have s1 : (sSet 8 (mLst (mCons (mCall m__law_is_like [.e (mVar 3), .e (mVar 10), .e (mFz (mLst mNil))] []) (mCons (mCall m__law_is_like [.e (mVar 3), .e (mVar 10), .e (mFz (mLst (mCons (mC (.str "")) mNil)))] []) mNil)))) [some scr, st, x2, some (MD ws), x4, some (HD false (srtC ws)), x6, x7, y8, x9, some d, x11, x12, x13, x14, x15, x16] = some (.nx [some scr, st, x2, some (MD ws), x4, some (HD false (srtC ws)), x6, x7, some (.lst true [.bl (likeB [] (srtC ws) d), .bl (likeB [""] (srtC ws) d)]), x9, some d, x11, x12, x13, x14, x15, x16]) := by
        have c3 : mVar 3 [some scr, st, x2, some (MD ws), x4, some (HD false (srtC ws)), x6, x7, y8, x9, some d, x11, x12, x13, x14, x15, x16] = some (MD ws, [some scr, st, x2, some (MD ws), x4, some (HD false (srtC ws)), x6, x7, y8, x9, some d, x11, x12, x13, x14, x15, x16]) := ev_var rfl (fz_MD ws)
        have c10 : mVar 10 [some scr, st, x2, some (MD ws), x4, some (HD false (srtC ws)), x6, x7, y8, x9, some d, x11, x12, x13, x14, x15, x16] = some (d, [some scr, st, x2, some (MD ws), x4, some (HD false (srtC ws)), x6, x7, y8, x9, some d, x11, x12, x13, x14, x15, x16]) := ev_var rfl hd.f
        exact ev_set (i := 8) (ev_lst (ev_cons (ev_ce3 c3 c10 (z := .lst false (([] : List Str).map D.str)) (ev_fz (ev_lst (r := mNil) rfl (by show 0 ≤ sizeLine; decide))) (is_like_ok (more := []) H hd (by simp) (by decide))) (ev_cons (ev_ce3 c3 c10 (z := .lst false ([("" : Str)].map D.str)) (ev_fz (ev_lst (r := mCons (mC (.str "")) mNil) rfl (by show 1 ≤ sizeLine; decide))) (is_like_ok (more := [""]) H hd (by simp [empty_ok]) (by decide))) (r := mNil) rfl)) (by show 2 ≤ sizeLine; decide)) (by simp)
      have c5 : mVar 5 [some scr, st, x2, some (MD ws), x4, some (HD false (srtC ws)), x6, x7, some (.lst true [.bl (likeB [] (srtC ws) d), .bl (likeB [""] (srtC ws) d)]), x9, some d, x11, x12, x13, x14, x15, x16] = some (HD false (srtC ws), [some scr, st, x2, some (MD ws), x4, some (HD false (srtC ws)), x6, x7, some (.lst true [.bl (likeB [] (srtC ws) d), .bl (likeB [""] (srtC ws) d)]), x9, some d, x11, x12, x13, x14, x15, x16]) := ev_var rfl (fz_HD _)
      have c10 : mVar 10 [some scr, st, x2, some (MD ws), x4, some (HD false (srtC ws)), x6, x7, some (.lst true [.bl (likeB [] (srtC ws) d), .bl (likeB [""] (srtC ws) d)]), x9, some d, x11, x12, x13, x14, x15, x16] = some (d, [some scr, st, x2, some (MD ws), x4, some (HD false (srtC ws)), x6, x7, some (.lst true [.bl (likeB [] (srtC ws) d), .bl (likeB [""] (srtC ws) d)]), x9, some d, x11, x12, x13, x14, x15, x16]) := ev_var rfl hd.f
      have a2 := ev_toT (ev_bin (g := dNe) (ev_call1 (g := dRepr) (ev_lst (ev_cons (ev_ce2 c10 c5 (perm2 (is_scene_ok Hs hd))) (ev_cons (ev_ce2 c10 c5 (perm2 (is_pattern_ok Hs hd))) (r := mNil) rfl)) (by show 2 ≤ sizeLine; decide)) (dRepr_of hw)) (ev_call1 (g := dRepr) (ev_varf (i := 8) rfl) (dRepr_of hw0)) (ne_str_refl w))
      have s2 : (sIf (toT (mBin dNe (mCallB dRepr (mCons (mLst (mCons (mCall (mPerm [1, 0] [1, 0] m_is_scene) [.e (mVar 10), .e (mVar 5)] []) (mCons (mCall (mPerm [1, 0] [1, 0] m_is_pattern) [.e (mVar 10), .e (mVar 5)] []) mNil))) mNil)) (mCallB dRepr (mCons (mVar 8) mNil)))) (sRet (mC (.bl false))) sNil) [some scr, st, x2, some (MD ws), x4, some (HD false (srtC ws)), x6, x7, some (.lst true [.bl (likeB [] (srtC ws) d), .bl (likeB [""] (srtC ws) d)]), x9, some d, x11, x12, x13, x14, x15, x16] = some (.nx [some scr, st, x2, some (MD ws), x4, some (HD false (srtC ws)), x6, x7, some (.lst false [.bl (likeB [] (srtC ws) d), .bl (likeB [""] (srtC ws) d)]), x9, some d, x11, x12, x13, x14, x15, x16]) := (ev_if0 a2).trans rfl
      have f5 : mVar 5 [some scr, st, x2, some (MD ws), x4, some (HD false (srtC ws)), x6, x7, some (.lst false [.bl (likeB [] (srtC ws) d), .bl (likeB [""] (srtC ws) d)]), x9, some d, x11, x12, x13, x14, x15, x16] = some (HD false (srtC ws), [some scr, st, x2, some (MD ws), x4, some (HD false (srtC ws)), x6, x7, some (.lst false [.bl (likeB [] (srtC ws) d), .bl (likeB [""] (srtC ws) d)]), x9, some d, x11, x12, x13, x14, x15, x16]) := ev_var rfl (fz_HD _)
      have f10 : mVar 10 [some scr, st, x2, some (MD ws), x4, some (HD false (srtC ws)), x6, x7, some (.lst false [.bl (likeB [] (srtC ws) d), .bl (likeB [""] (srtC ws) d)]), x9, some d, x11, x12, x13, x14, x15, x16] = some (d, [some scr, st, x2, some (MD ws), x4, some (HD false (srtC ws)), x6, x7, some (.lst false [.bl (likeB [] (srtC ws) d), .bl (likeB [""] (srtC ws) d)]), x9, some d, x11, x12, x13, x14, x15, x16]) := ev_var rfl hd.f
      have a3 := ev_toT (ev_bin (g := dNe) (ev_call1 (g := dRepr) (ev_lst (ev_cons (ev_ce2 f5 f10 (is_scene_ok Hs hd)) (ev_cons (ev_ce2 f5 f10 (is_pattern_ok Hs hd)) (r := mNil) rfl)) (by show 2 ≤ sizeLine; decide)) (dRepr_of hw)) (ev_call1 (g := dRepr) (ev_var (i := 8) rfl rfl) (dRepr_of hw0)) (ne_str_refl w))
      exact ⟨_, _, rfl, (ev_seq s1).trans ((ev_seq s2).trans ((ev_if0 a3).trans rfl)), fun x hx => hr x (List.mem_cons_of_mem _ hx), _, _, rfl⟩) ds _ ⟨hds, x8, x10, rfl⟩
  exact ⟨y8, y10, el⟩
theorem lap_ok {scr : D} {s : Dr} {b : Nat} {o o' : Bool} {x2 x4 x7 x8 x9 x10 x11 x12 x13 x14 x15 : Option D} {ws : Cs} (H : Ok ws) (h : s.Ok b) (hb : b + 40 < 2 ^ 40) : ∃ (s' : Dr) (y7 y8 y9 y10 y11 y12 y13 y14 y15 : Option D), s'.Ok (b + 40) ∧ (sCons (sAsg (mTup (mCons (mCall m__law_pick [.v 1, .e (mVar 6)] []) (mCons (mCall m__law_pattern [.v 1, .e (mVar 3)] []) (mCons (mCall m__law_pattern [.v 1, .e (mVar 3)] []) mNil)))) (tTup (tsCons (tName 11) (tsCons (tName 12) (tsCons (tName 13) tsNil))))) (sCons (sSet 7 (mCall m__law_does_fit [.e (mVar 11), .e (mVar 12)] [])) (sCons (sIf (toT (mBin dNe (mCallB dRepr (mCons (mLst (mCons (mCall m_fits [.e (mVar 5), .e (mVar 11), .e (mVar 12)] []) (mCons (mCall (mPerm [2, 1, 0] [2, 1, 0] m_fits) [.e (mVar 12), .e (mVar 11), .e (mVar 5)] []) mNil))) mNil)) (mCallB dRepr (mCons (mLst (mCons (mVar 7) (mCons (mVar 7) mNil))) mNil)))) (sRet (mC (.bl false))) sNil) (sCons (sSet 8 (mLc (iAlt (iAny (mVar 6)) (keysAt 6 pVar)) [16] (tName 16) (mTru (mCall m__law_does_fit [.e (mVar 16), .e (mVar 12)] [])) (mVar 16))) (sCons (sSet 9 (mCall m_scenes_of [.e (mVar 5), .e (mVar 12)] [])) (sCons (sIf (purT [false, false, false, false, false, false, false, false, true, true] (toT (mBin dNe (pur [false, false, false, false, false, false, false, false, false, true] (mCallB dRepr (mCons (mVar 9) mNil))) (mCallB dRepr (mCons (mVar 8) mNil))))) (sRet (mC (.bl false))) sNil) (sCons (sExpr (mMeth "list" gAppend 9 (mCons (mC .non) mNil))) (sCons (sIf (toT (mBin dNe (mCallB dRepr (mCons (mCall (mPerm [1, 0] [1, 0] m_scenes_of) [.e (mVar 12), .e (mVar 5)] []) mNil)) (mCallB dRepr (mCons (mVar 8) mNil)))) (sRet (mC (.bl false))) sNil) (sCons (sPar [14, 15] (mCons (mLc (iAlt (iAny (mVar 8)) (keysAt 8 pVar)) [16] (tName 16) (mTru (mCall m__law_does_fit [.e (mVar 16), .e (mVar 13)] [])) (mVar 16)) (mCons (mCall m_met [.e (mVar 5), .e (mVar 12), .e (mVar 13)] []) mNil))) (sCons (sIf (tOr2 (toT (mBin dNe (mBin dIs (mVar 15) (mC .non)) (mBin dEq (mVar 14) (mLst mNil)))) (toT (mBin dNe (mCallB dRepr (mCons (mCall (mPerm [2, 1, 0] [2, 1, 0] m_met) [.e (mVar 13), .e (mVar 12), .e (mVar 5)] []) mNil)) (mCallB dRepr (mCons (mVar 15) mNil))))) (sRet (mC (.bl false))) sNil) (sCons (sIf (tAnd2 (toT (mBin dIsNot (mVar 15) (mC .non))) (tOr2 (tNot1 (mTru (mCall m_is_pattern [.e (mVar 5), .e (mVar 15)] []))) (toT (mBin dNe (mCall m_scenes_of [.e (mVar 5), .e (mVar 15)] []) (mVar 14))))) (sRet (mC (.bl false))) sNil) (sFor (iAny (mLst (mCons (mCall m__law_near [.v 1, .e (mVar 3), .e (mFz (mCall m__law_pick [.v 1, .e (mFz (mLst (mCons (mVar 11) (mCons (mVar 12) mNil))))] []))] []) (mCons (mVar 11) (mCons (mVar 12) mNil))))) (tName 10) (sCons (sSet 8 (mLst (mCons (mCall m__law_is_like [.e (mVar 3), .e (mVar 10), .e (mFz (mLst mNil))] []) (mCons (mCall m__law_is_like [.e (mVar 3), .e (mVar 10), .e (mFz (mLst (mCons (mC (.str "")) mNil)))] []) mNil)))) (sCons (sIf (toT (mBin dNe (mCallB dRepr (mCons (mLst (mCons (mCall (mPerm [1, 0] [1, 0] m_is_scene) [.e (mVar 10), .e (mVar 5)] []) (mCons (mCall (mPerm [1, 0] [1, 0] m_is_pattern) [.e (mVar 10), .e (mVar 5)] []) mNil))) mNil)) (mCallB dRepr (mCons (mVar 8) mNil)))) (sRet (mC (.bl false))) sNil) (sIf (toT (mBin dNe (mCallB dRepr (mCons (mLst (mCons (mCall m_is_scene [.e (mVar 5), .e (mVar 10)] []) (mCons (mCall m_is_pattern [.e (mVar 5), .e (mVar 10)] []) mNil))) mNil)) (mCallB dRepr (mCons (mVar 8) mNil)))) (sRet (mC (.bl false))) sNil))))))))))))))) [some scr, some s.d, x2, some (MD ws), x4, some (HD o (srtC ws)), some (.lst o' ((sortT (prods (vls (srtC ws)))).map tp)), x7, x8, x9, x10, x11, x12, x13, x14, x15, none] = some (.nx [some scr, some s'.d, x2, some (MD ws), x4, some (HD false (srtC ws)), some (.lst false ((sortT (prods (vls (srtC ws)))).map tp)), y7, y8, y9, y10, y11, y12, y13, y14, y15, none]) := by
  have Hs := H.perm (srtC_perm ws)
  obtain ⟨hpl, hdl⟩ := prods_bound Hs (show srtC ws = srtC ws ++ [] by simp)
  have smem : ∀ sc, sc ∈ (sortT (prods (vls (srtC ws)))) → sc ∈ prods (vls (srtC ws)) := fun sc hsc => (sortT_perm _).mem_iff.mp hsc
  have sprops : ∀ sc, sc ∈ (sortT (prods (vls (srtC ws)))) → sc.length = (srtC ws).length ∧ ∀ z ∈ sc, Lab z := fun sc hsc => by
    obtain ⟨h1, h2⟩ := (prods_mem _ sc).mp (smem sc hsc)
    refine ⟨by rw [h1]; simp [vls], fun z hz => ?_⟩
    obtain ⟨k, hk⟩ := List.mem_iff_getElem?.mp hz
    have hkl := (List.getElem?_eq_some_iff.mp hk).1
    have hv : (vls (srtC ws))[k]? = some ((vls (srtC ws))[k]'(by omega)) := List.getElem?_eq_getElem _
    have := h2 ((vls (srtC ws))[k]'(by omega), z) (List.mem_iff_getElem?.mpr ⟨k, by rw [List.getElem?_zip_eq_some]; exact ⟨hv, hk⟩⟩)
    obtain ⟨wd, hwd, e⟩ := List.mem_map.mp (List.mem_of_getElem? hv)
    exact Hs.vl wd hwd z (by rw [e]; exact this)
  have slen : (sortT (prods (vls (srtC ws)))).length ≤ 27 := by rw [(sortT_perm _).length_eq]; exact hpl
  have hne : ∀ vs ∈ vls (srtC ws), vs ≠ [] := fun vs hv e => by
    obtain ⟨wd, hwd, rfl⟩ := List.mem_map.mp hv
    have := Hs.v2 wd hwd
    rw [e] at this
    simp at this
  have h3 := Hs.b
  have h1' := Hs.a
  have sne : (sortT (prods (vls (srtC ws)))) ≠ [] := fun e => by
    have hpb : PatB (vls (srtC ws)) ((vls (srtC ws)).map fun _ => ("" : Str)) := ⟨by simp, fun p hp => by
      left
      obtain ⟨_, hp2⟩ := List.of_mem_zip (show (p.1, p.2) ∈ _ from hp)
      obtain ⟨_, _, e⟩ := List.mem_map.mp hp2
      exact e.symm⟩
    have hcl : clash ((vls (srtC ws)).map fun _ => ("" : Str)) ((vls (srtC ws)).map fun _ => ("" : Str)) = false := by
      unfold clash
      refine List.any_eq_false.mpr fun p hp => ?_
      obtain ⟨hp1, _⟩ := List.of_mem_zip (show (p.1, p.2) ∈ _ from hp)
      obtain ⟨_, _, e⟩ := List.mem_map.mp hp1
      simp [conf, ← e]
    obtain ⟨_, sc, hsc, _⟩ := common_scene hne hpb hpb hcl
    have := (sortT_perm (prods (vls (srtC ws)))).mem_iff.mpr hsc
    rw [e] at this
    cases this
  obtain ⟨j, d, hd, s1, k1, p1⟩ := pick_ok (o := false) (ds := (sortT (prods (vls (srtC ws)))).map tp) h (by omega) (fun e => sne (List.map_eq_nil_iff.mp e)) (by rw [List.length_map]; omega)
  rw [List.getElem?_map] at hd
  obtain ⟨sc, hsc0, rfl⟩ := Option.map_eq_some_iff.mp hd
  have hsc := List.mem_of_getElem? hsc0
  obtain ⟨scl, scw⟩ := sprops sc hsc
  obtain ⟨likesc, patsc⟩ := scene_like (smem sc hsc)
  have scok : ∀ z ∈ sc, PyData.strOk z = true := fun z hz => (scw z hz).ok
  obtain ⟨x, px, xok, s2, k2, p2⟩ := pat_ok H k1 (by omega)
  obtain ⟨y, py, yok, s3, k3, p3⟩ := pat_ok H k2 (by omega)
  have xl : x.length = (srtC ws).length := by rw [px.1]; simp [vls]
  have yl : y.length = (srtC ws).length := by rw [py.1]; simp [vls]
  have likex := pat_like px
  have likey := pat_like py
  have fzsc : fz (tp sc) = tp sc := fz_isFz _ (fz_tps sc)
  rw [fzsc] at p1
  have fl6 : fz (.lst o' ((sortT (prods (vls (srtC ws)))).map tp)) = .lst false ((sortT (prods (vls (srtC ws)))).map tp) := by simp only [fz, fzs_typ tp fz_tps]
  have S1 : (sAsg (mTup (mCons (mCall m__law_pick [.v 1, .e (mVar 6)] []) (mCons (mCall m__law_pattern [.v 1, .e (mVar 3)] []) (mCons (mCall m__law_pattern [.v 1, .e (mVar 3)] []) mNil)))) (tTup (tsCons (tName 11) (tsCons (tName 12) (tsCons (tName 13) tsNil))))) [some scr, some s.d, x2, some (MD ws), x4, some (HD o (srtC ws)), some (.lst o' ((sortT (prods (vls (srtC ws)))).map tp)), x7, x8, x9, x10, x11, x12, x13, x14, x15, none] = some (.nx [some scr, some s3.d, x2, some (MD ws), x4, some (HD o (srtC ws)), some (.lst false ((sortT (prods (vls (srtC ws)))).map tp)), x7, x8, x9, x10, some (tp sc), some (tp x), some (tp y), x14, x15, none]) := by
    have a6 : mVar 6 [some scr, some s.d, x2, some (MD ws), x4, some (HD o (srtC ws)), some (.lst o' ((sortT (prods (vls (srtC ws)))).map tp)), x7, x8, x9, x10, x11, x12, x13, x14, x15, none] = some (.lst false ((sortT (prods (vls (srtC ws)))).map tp), [some scr, some s.d, x2, some (MD ws), x4, some (HD o (srtC ws)), some (.lst false ((sortT (prods (vls (srtC ws)))).map tp)), x7, x8, x9, x10, x11, x12, x13, x14, x15, none]) := by
      have := ev_varf (i := 6) (δ := [some scr, some s.d, x2, some (MD ws), x4, some (HD o (srtC ws)), some (.lst o' ((sortT (prods (vls (srtC ws)))).map tp)), x7, x8, x9, x10, x11, x12, x13, x14, x15, none]) rfl
      rw [fl6] at this
      exact this
    have q1 : mCall m__law_pick [.v 1, .e (mVar 6)] [] [some scr, some s.d, x2, some (MD ws), x4, some (HD o (srtC ws)), some (.lst o' ((sortT (prods (vls (srtC ws)))).map tp)), x7, x8, x9, x10, x11, x12, x13, x14, x15, none] = some (tp sc, [some scr, some s1.d, x2, some (MD ws), x4, some (HD o (srtC ws)), some (.lst false ((sortT (prods (vls (srtC ws)))).map tp)), x7, x8, x9, x10, x11, x12, x13, x14, x15, none]) := ev_cve (i := 1) rfl a6 rfl rfl p1
    have q2 : mCall m__law_pattern [.v 1, .e (mVar 3)] [] [some scr, some s1.d, x2, some (MD ws), x4, some (HD o (srtC ws)), some (.lst false ((sortT (prods (vls (srtC ws)))).map tp)), x7, x8, x9, x10, x11, x12, x13, x14, x15, none] = some (tp x, [some scr, some s2.d, x2, some (MD ws), x4, some (HD o (srtC ws)), some (.lst false ((sortT (prods (vls (srtC ws)))).map tp)), x7, x8, x9, x10, x11, x12, x13, x14, x15, none]) := ev_cve (i := 1) rfl (ev_var (i := 3) rfl (fz_MD ws)) rfl rfl p2
    have q3 : mCall m__law_pattern [.v 1, .e (mVar 3)] [] [some scr, some s2.d, x2, some (MD ws), x4, some (HD o (srtC ws)), some (.lst false ((sortT (prods (vls (srtC ws)))).map tp)), x7, x8, x9, x10, x11, x12, x13, x14, x15, none] = some (tp y, [some scr, some s3.d, x2, some (MD ws), x4, some (HD o (srtC ws)), some (.lst false ((sortT (prods (vls (srtC ws)))).map tp)), x7, x8, x9, x10, x11, x12, x13, x14, x15, none]) := ev_cve (i := 1) rfl (ev_var (i := 3) rfl (fz_MD ws)) rfl rfl p3
    unfold sAsg
    rw [ev_tup (ev_cons q1 (ev_cons q2 (ev_cons q3 (r := mNil) rfl))) (by show 3 ≤ sizeLine; decide)]
    rfl
  have S2 : (sSet 7 (mCall m__law_does_fit [.e (mVar 11), .e (mVar 12)] [])) [some scr, some s3.d, x2, some (MD ws), x4, some (HD o (srtC ws)), some (.lst false ((sortT (prods (vls (srtC ws)))).map tp)), x7, x8, x9, x10, some (tp sc), some (tp x), some (tp y), x14, x15, none] = some (.nx [some scr, some s3.d, x2, some (MD ws), x4, some (HD o (srtC ws)), some (.lst false ((sortT (prods (vls (srtC ws)))).map tp)), some (.bl (fitB sc x)), x8, x9, x10, some (tp sc), some (tp x), some (tp y), x14, x15, none]) := ev_set (i := 7) (ev_ce2 (ev_var (i := 11) (d := tp sc) rfl (fz_tps sc)) (ev_var (i := 12) (d := tp x) rfl (fz_tps x)) (does_fit_ok (by omega))) (by simp)
  obtain ⟨w1, hw1⟩ := bb_repr (fitB sc x) (fitB sc x) true
  have fok := fits_ok Hs scok xok (by omega) (by omega) likesc likex
  have S3 : (sIf (toT (mBin dNe (mCallB dRepr (mCons (mLst (mCons (mCall m_fits [.e (mVar 5), .e (mVar 11), .e (mVar 12)] []) (mCons (mCall (mPerm [2, 1, 0] [2, 1, 0] m_fits) [.e (mVar 12), .e (mVar 11), .e (mVar 5)] []) mNil))) mNil)) (mCallB dRepr (mCons (mLst (mCons (mVar 7) (mCons (mVar 7) mNil))) mNil)))) (sRet (mC (.bl false))) sNil) [some scr, some s3.d, x2, some (MD ws), x4, some (HD o (srtC ws)), some (.lst false ((sortT (prods (vls (srtC ws)))).map tp)), some (.bl (fitB sc x)), x8, x9, x10, some (tp sc), some (tp x), some (tp y), x14, x15, none] = some (.nx [some scr, some s3.d, x2, some (MD ws), x4, some (HD false (srtC ws)), some (.lst false ((sortT (prods (vls (srtC ws)))).map tp)), some (.bl (fitB sc x)), x8, x9, x10, some (tp sc), some (tp x), some (tp y), x14, x15, none]) := by
    have a5 : mVar 5 [some scr, some s3.d, x2, some (MD ws), x4, some (HD o (srtC ws)), some (.lst false ((sortT (prods (vls (srtC ws)))).map tp)), some (.bl (fitB sc x)), x8, x9, x10, some (tp sc), some (tp x), some (tp y), x14, x15, none] = some (HD false (srtC ws), [some scr, some s3.d, x2, some (MD ws), x4, some (HD false (srtC ws)), some (.lst false ((sortT (prods (vls (srtC ws)))).map tp)), some (.bl (fitB sc x)), x8, x9, x10, some (tp sc), some (tp x), some (tp y), x14, x15, none]) := by
      have := ev_varf (i := 5) (δ := [some scr, some s3.d, x2, some (MD ws), x4, some (HD o (srtC ws)), some (.lst false ((sortT (prods (vls (srtC ws)))).map tp)), some (.bl (fitB sc x)), x8, x9, x10, some (tp sc), some (tp x), some (tp y), x14, x15, none]) rfl
      rw [frz_HD] at this
      exact this
    have a11 : mVar 11 [some scr, some s3.d, x2, some (MD ws), x4, some (HD false (srtC ws)), some (.lst false ((sortT (prods (vls (srtC ws)))).map tp)), some (.bl (fitB sc x)), x8, x9, x10, some (tp sc), some (tp x), some (tp y), x14, x15, none] = some (tp sc, [some scr, some s3.d, x2, some (MD ws), x4, some (HD false (srtC ws)), some (.lst false ((sortT (prods (vls (srtC ws)))).map tp)), some (.bl (fitB sc x)), x8, x9, x10, some (tp sc), some (tp x), some (tp y), x14, x15, none]) := ev_var rfl (fz_tps sc)
    have a12 : mVar 12 [some scr, some s3.d, x2, some (MD ws), x4, some (HD false (srtC ws)), some (.lst false ((sortT (prods (vls (srtC ws)))).map tp)), some (.bl (fitB sc x)), x8, x9, x10, some (tp sc), some (tp x), some (tp y), x14, x15, none] = some (tp x, [some scr, some s3.d, x2, some (MD ws), x4, some (HD false (srtC ws)), some (.lst false ((sortT (prods (vls (srtC ws)))).map tp)), some (.bl (fitB sc x)), x8, x9, x10, some (tp sc), some (tp x), some (tp y), x14, x15, none]) := ev_var rfl (fz_tps x)
    have b5 : mVar 5 [some scr, some s3.d, x2, some (MD ws), x4, some (HD false (srtC ws)), some (.lst false ((sortT (prods (vls (srtC ws)))).map tp)), some (.bl (fitB sc x)), x8, x9, x10, some (tp sc), some (tp x), some (tp y), x14, x15, none] = some (HD false (srtC ws), [some scr, some s3.d, x2, some (MD ws), x4, some (HD false (srtC ws)), some (.lst false ((sortT (prods (vls (srtC ws)))).map tp)), some (.bl (fitB sc x)), x8, x9, x10, some (tp sc), some (tp x), some (tp y), x14, x15, none]) := ev_var rfl (fz_HD _)
    have a7 : mVar 7 [some scr, some s3.d, x2, some (MD ws), x4, some (HD false (srtC ws)), some (.lst false ((sortT (prods (vls (srtC ws)))).map tp)), some (.bl (fitB sc x)), x8, x9, x10, some (tp sc), some (tp x), some (tp y), x14, x15, none] = some (.bl (fitB sc x), [some scr, some s3.d, x2, some (MD ws), x4, some (HD false (srtC ws)), some (.lst false ((sortT (prods (vls (srtC ws)))).map tp)), some (.bl (fitB sc x)), x8, x9, x10, some (tp sc), some (tp x), some (tp y), x14, x15, none]) := ev_var rfl rfl
    exact (ev_if0 (ev_toT (ev_bin (g := dNe) (ev_call1 (g := dRepr) (ev_lst (ev_cons (ev_ce3 a5 a11 a12 fok) (ev_cons (ev_ce3 a12 a11 b5 (perm3 fok)) (r := mNil) rfl)) (by show 2 ≤ sizeLine; decide)) (dRepr_of hw1)) (ev_call1 (g := dRepr) (ev_lst (ev_cons a7 (ev_cons a7 (r := mNil) rfl)) (by show 2 ≤ sizeLine; decide)) (dRepr_of hw1)) (ne_str_refl w1)))).trans rfl
  have S4 : (sSet 8 (mLc (iAlt (iAny (mVar 6)) (keysAt 6 pVar)) [16] (tName 16) (mTru (mCall m__law_does_fit [.e (mVar 16), .e (mVar 12)] [])) (mVar 16))) [some scr, some s3.d, x2, some (MD ws), x4, some (HD false (srtC ws)), some (.lst false ((sortT (prods (vls (srtC ws)))).map tp)), some (.bl (fitB sc x)), x8, x9, x10, some (tp sc), some (tp x), some (tp y), x14, x15, none] = some (.nx [some scr, some s3.d, x2, some (MD ws), x4, some (HD false (srtC ws)), some (.lst false ((sortT (prods (vls (srtC ws)))).map tp)), some (.bl (fitB sc x)), some (.lst true (((sortT (prods (vls (srtC ws)))).filter fun sc => fitB sc x).map tp)), x9, x10, some (tp sc), some (tp x), some (tp y), x14, x15, none]) := by
    refine ev_set (i := 8) (lc_typ (own := [16]) (t := tName 16) (c := (mTru (mCall m__law_does_fit [.e (mVar 16), .e (mVar 12)] []))) (m := mVar 16) (δ1 := [some scr, some s3.d, x2, some (MD ws), x4, some (HD false (srtC ws)), some (.lst false ((sortT (prods (vls (srtC ws)))).map tp)), some (.bl (fitB sc x)), x8, x9, x10, some (tp sc), some (tp x), some (tp y), x14, x15, none]) (sortT (prods (vls (srtC ws)))) tp (fun sc => fitB sc x) tp (ev_altI (b := keysAt 6 pVar) ((iAny_lst (o := false) (ev_var (i := 6) rfl (isFz_lst (isFzs_typ tp fz_tps _)))).trans (by rw [fzs_typ tp fz_tps]))) rfl (Nat.le_trans slen (by decide)) fun z hz => ⟨_, rfl, rfl, ev_tru (ev_ce2 (ev_var (i := 16) (d := tp z) rfl (fz_tps z)) (ev_var (i := 12) (d := tp x) rfl (fz_tps x)) (does_fit_ok (by have := (sprops z hz).1; omega))), fun _ => ev_var (i := 16) rfl (fz_tps z)⟩) (by simp)
  have sof := scenes_of_ok Hs xok xl likex
  have S5 : (sSet 9 (mCall m_scenes_of [.e (mVar 5), .e (mVar 12)] [])) [some scr, some s3.d, x2, some (MD ws), x4, some (HD false (srtC ws)), some (.lst false ((sortT (prods (vls (srtC ws)))).map tp)), some (.bl (fitB sc x)), some (.lst true (((sortT (prods (vls (srtC ws)))).filter fun sc => fitB sc x).map tp)), x9, x10, some (tp sc), some (tp x), some (tp y), x14, x15, none] = some (.nx [some scr, some s3.d, x2, some (MD ws), x4, some (HD false (srtC ws)), some (.lst false ((sortT (prods (vls (srtC ws)))).map tp)), some (.bl (fitB sc x)), some (.lst true (((sortT (prods (vls (srtC ws)))).filter fun sc => fitB sc x).map tp)), some (.lst true (((sortT (prods (vls (srtC ws)))).filter fun sc => fitB sc x).map tp)), x10, some (tp sc), some (tp x), some (tp y), x14, x15, none]) := ev_set (i := 9) (ev_ce2 (ev_var (i := 5) rfl (fz_HD _)) (ev_var (i := 12) (d := tp x) rfl (fz_tps x)) sof) (by simp)
  have llen : ((sortT (prods (vls (srtC ws)))).filter fun sc => fitB sc x).length ≤ 27 := Nat.le_trans (List.length_filter_le _ _) slen
  have lprops : ∀ sc, sc ∈ ((sortT (prods (vls (srtC ws)))).filter fun sc => fitB sc x) → sc.length = (srtC ws).length ∧ ∀ z ∈ sc, Lab z := fun sc hsc => sprops sc (List.mem_filter.mp hsc).1
  obtain ⟨w2, hw2⟩ := tps_repr (o := false) (fs := ((sortT (prods (vls (srtC ws)))).filter fun sc => fitB sc x)) (Nat.le_trans llen (by decide)) (fun sc hsc => by have := (lprops sc hsc).1; omega) (fun sc hsc z hz => ⟨((lprops sc hsc).2 z hz).pl, by have := ((lprops sc hsc).2 z hz).b; omega⟩)
  have hw2t : reprD (.lst true (((sortT (prods (vls (srtC ws)))).filter fun sc => fitB sc x).map tp)) = some w2 := reprD_flag.trans hw2
  have fzL : ∀ o, fz (.lst o (((sortT (prods (vls (srtC ws)))).filter fun sc => fitB sc x).map tp)) = .lst false (((sortT (prods (vls (srtC ws)))).filter fun sc => fitB sc x).map tp) := fun o => by simp only [fz, fzs_typ tp fz_tps]
  have isL : isFz (.lst false (((sortT (prods (vls (srtC ws)))).filter fun sc => fitB sc x).map tp)) = true := isFz_lst (isFzs_typ tp fz_tps _)
  have S6 : (sIf (purT [false, false, false, false, false, false, false, false, true, true] (toT (mBin dNe (pur [false, false, false, false, false, false, false, false, false, true] (mCallB dRepr (mCons (mVar 9) mNil))) (mCallB dRepr (mCons (mVar 8) mNil))))) (sRet (mC (.bl false))) sNil) [some scr, some s3.d, x2, some (MD ws), x4, some (HD false (srtC ws)), some (.lst false ((sortT (prods (vls (srtC ws)))).map tp)), some (.bl (fitB sc x)), some (.lst true (((sortT (prods (vls (srtC ws)))).filter fun sc => fitB sc x).map tp)), some (.lst true (((sortT (prods (vls (srtC ws)))).filter fun sc => fitB sc x).map tp)), x10, some (tp sc), some (tp x), some (tp y), x14, x15, none] = some (.nx [some scr, some s3.d, x2, some (MD ws), x4, some (HD false (srtC ws)), some (.lst false ((sortT (prods (vls (srtC ws)))).map tp)), some (.bl (fitB sc x)), some (.lst true (((sortT (prods (vls (srtC ws)))).filter fun sc => fitB sc x).map tp)), some (.lst true (((sortT (prods (vls (srtC ws)))).filter fun sc => fitB sc x).map tp)), x10, some (tp sc), some (tp x), some (tp y), x14, x15, none]) := by
    refine (ev_if0 (δ1 := [some scr, some s3.d, x2, some (MD ws), x4, some (HD false (srtC ws)), some (.lst false ((sortT (prods (vls (srtC ws)))).map tp)), some (.bl (fitB sc x)), some (.lst true (((sortT (prods (vls (srtC ws)))).filter fun sc => fitB sc x).map tp)), some (.lst true (((sortT (prods (vls (srtC ws)))).filter fun sc => fitB sc x).map tp)), x10, some (tp sc), some (tp x), some (tp y), x14, x15, none]) ?_).trans rfl
    have e0 : fzE (keepM [false, false, false, false, false, false, false, false, true, true] [some scr, some s3.d, x2, some (MD ws), x4, some (HD false (srtC ws)), some (.lst false ((sortT (prods (vls (srtC ws)))).map tp)), some (.bl (fitB sc x)), some (.lst true (((sortT (prods (vls (srtC ws)))).filter fun sc => fitB sc x).map tp)), some (.lst true (((sortT (prods (vls (srtC ws)))).filter fun sc => fitB sc x).map tp)), x10, some (tp sc), some (tp x), some (tp y), x14, x15, none]) = [none, none, none, none, none, none, none, none, some (.lst false (((sortT (prods (vls (srtC ws)))).filter fun sc => fitB sc x).map tp)), some (.lst false (((sortT (prods (vls (srtC ws)))).filter fun sc => fitB sc x).map tp)), none, none, none, none, none, none, none] := by
      simp only [keepM, fzE, List.map_cons, List.map_nil, Option.map_some, Option.map_none, fzL]
    unfold purT
    rw [e0]
    have q9 : (pur [false, false, false, false, false, false, false, false, false, true] (mCallB dRepr (mCons (mVar 9) mNil))) [none, none, none, none, none, none, none, none, some (.lst false (((sortT (prods (vls (srtC ws)))).filter fun sc => fitB sc x).map tp)), some (.lst false (((sortT (prods (vls (srtC ws)))).filter fun sc => fitB sc x).map tp)), none, none, none, none, none, none, none] = some (.str w2, [none, none, none, none, none, none, none, none, some (.lst false (((sortT (prods (vls (srtC ws)))).filter fun sc => fitB sc x).map tp)), some (.lst false (((sortT (prods (vls (srtC ws)))).filter fun sc => fitB sc x).map tp)), none, none, none, none, none, none, none]) := by
      have e1 : fzE (keepM [false, false, false, false, false, false, false, false, false, true] [none, none, none, none, none, none, none, none, some (.lst false (((sortT (prods (vls (srtC ws)))).filter fun sc => fitB sc x).map tp)), some (.lst false (((sortT (prods (vls (srtC ws)))).filter fun sc => fitB sc x).map tp)), none, none, none, none, none, none, none]) = [none, none, none, none, none, none, none, none, none, some (.lst false (((sortT (prods (vls (srtC ws)))).filter fun sc => fitB sc x).map tp)), none, none, none, none, none, none, none] := by
        simp only [keepM, fzE, List.map_cons, List.map_nil, Option.map_some, Option.map_none, fzL]
      unfold pur
      rw [e1, ev_call1 (g := dRepr) (ev_var (i := 9) rfl isL) (dRepr_of hw2)]
      rfl
    have := ev_toT (ev_bin (g := dNe) q9 (ev_call1 (g := dRepr) (ev_var (i := 8) (δ := [none, none, none, none, none, none, none, none, some (.lst false (((sortT (prods (vls (srtC ws)))).filter fun sc => fitB sc x).map tp)), some (.lst false (((sortT (prods (vls (srtC ws)))).filter fun sc => fitB sc x).map tp)), none, none, none, none, none, none, none]) rfl isL) (dRepr_of hw2)) (ne_str_refl w2))
    rw [this]
  have S7 : (sExpr (mMeth "list" gAppend 9 (mCons (mC .non) mNil))) [some scr, some s3.d, x2, some (MD ws), x4, some (HD false (srtC ws)), some (.lst false ((sortT (prods (vls (srtC ws)))).map tp)), some (.bl (fitB sc x)), some (.lst true (((sortT (prods (vls (srtC ws)))).filter fun sc => fitB sc x).map tp)), some (.lst true (((sortT (prods (vls (srtC ws)))).filter fun sc => fitB sc x).map tp)), x10, some (tp sc), some (tp x), some (tp y), x14, x15, none] = some (.nx [some scr, some s3.d, x2, some (MD ws), x4, some (HD false (srtC ws)), some (.lst false ((sortT (prods (vls (srtC ws)))).map tp)), some (.bl (fitB sc x)), some (.lst true (((sortT (prods (vls (srtC ws)))).filter fun sc => fitB sc x).map tp)), some (.lst true (((sortT (prods (vls (srtC ws)))).filter fun sc => fitB sc x).map tp ++ [.non])), x10, some (tp sc), some (tp x), some (tp y), x14, x15, none]) := by
    refine ev_expr (d := .non) ?_
    have hg : gAppend (.lst true (((sortT (prods (vls (srtC ws)))).filter fun sc => fitB sc x).map tp)) [.non] = some (.non, .lst true (((sortT (prods (vls (srtC ws)))).filter fun sc => fitB sc x).map tp ++ [.non])) := gAppend_ok (by rw [List.length_map]; exact Nat.lt_of_le_of_lt llen (by decide))
    show (match gAppend (.lst true (((sortT (prods (vls (srtC ws)))).filter fun sc => fitB sc x).map tp)) [.non] with | some (a', d2) => some (a', _) | none => none) = _
    rw [hg]
    rfl
  have S8 : (sIf (toT (mBin dNe (mCallB dRepr (mCons (mCall (mPerm [1, 0] [1, 0] m_scenes_of) [.e (mVar 12), .e (mVar 5)] []) mNil)) (mCallB dRepr (mCons (mVar 8) mNil)))) (sRet (mC (.bl false))) sNil) [some scr, some s3.d, x2, some (MD ws), x4, some (HD false (srtC ws)), some (.lst false ((sortT (prods (vls (srtC ws)))).map tp)), some (.bl (fitB sc x)), some (.lst true (((sortT (prods (vls (srtC ws)))).filter fun sc => fitB sc x).map tp)), some (.lst true (((sortT (prods (vls (srtC ws)))).filter fun sc => fitB sc x).map tp ++ [.non])), x10, some (tp sc), some (tp x), some (tp y), x14, x15, none] = some (.nx [some scr, some s3.d, x2, some (MD ws), x4, some (HD false (srtC ws)), some (.lst false ((sortT (prods (vls (srtC ws)))).map tp)), some (.bl (fitB sc x)), some (.lst false (((sortT (prods (vls (srtC ws)))).filter fun sc => fitB sc x).map tp)), some (.lst true (((sortT (prods (vls (srtC ws)))).filter fun sc => fitB sc x).map tp ++ [.non])), x10, some (tp sc), some (tp x), some (tp y), x14, x15, none]) := by
    have a8 : mVar 8 [some scr, some s3.d, x2, some (MD ws), x4, some (HD false (srtC ws)), some (.lst false ((sortT (prods (vls (srtC ws)))).map tp)), some (.bl (fitB sc x)), some (.lst true (((sortT (prods (vls (srtC ws)))).filter fun sc => fitB sc x).map tp)), some (.lst true (((sortT (prods (vls (srtC ws)))).filter fun sc => fitB sc x).map tp ++ [.non])), x10, some (tp sc), some (tp x), some (tp y), x14, x15, none] = some (.lst false (((sortT (prods (vls (srtC ws)))).filter fun sc => fitB sc x).map tp), [some scr, some s3.d, x2, some (MD ws), x4, some (HD false (srtC ws)), some (.lst false ((sortT (prods (vls (srtC ws)))).map tp)), some (.bl (fitB sc x)), some (.lst false (((sortT (prods (vls (srtC ws)))).filter fun sc => fitB sc x).map tp)), some (.lst true (((sortT (prods (vls (srtC ws)))).filter fun sc => fitB sc x).map tp ++ [.non])), x10, some (tp sc), some (tp x), some (tp y), x14, x15, none]) := by
      have := ev_varf (i := 8) (δ := [some scr, some s3.d, x2, some (MD ws), x4, some (HD false (srtC ws)), some (.lst false ((sortT (prods (vls (srtC ws)))).map tp)), some (.bl (fitB sc x)), some (.lst true (((sortT (prods (vls (srtC ws)))).filter fun sc => fitB sc x).map tp)), some (.lst true (((sortT (prods (vls (srtC ws)))).filter fun sc => fitB sc x).map tp ++ [.non])), x10, some (tp sc), some (tp x), some (tp y), x14, x15, none]) rfl
      rw [fzL] at this
      exact this
    exact (ev_if0 (ev_toT (ev_bin (g := dNe) (ev_call1 (g := dRepr) (ev_ce2 (ev_var (i := 12) (δ := [some scr, some s3.d, x2, some (MD ws), x4, some (HD false (srtC ws)), some (.lst false ((sortT (prods (vls (srtC ws)))).map tp)), some (.bl (fitB sc x)), some (.lst true (((sortT (prods (vls (srtC ws)))).filter fun sc => fitB sc x).map tp)), some (.lst true (((sortT (prods (vls (srtC ws)))).filter fun sc => fitB sc x).map tp ++ [.non])), x10, some (tp sc), some (tp x), some (tp y), x14, x15, none]) (d := tp x) rfl (fz_tps x)) (ev_var (i := 5) rfl (fz_HD _)) (perm2 sof)) (dRepr_of hw2t)) (ev_call1 (g := dRepr) a8 (dRepr_of hw2)) (ne_str_refl w2)))).trans rfl
  have mok := met_ok Hs xok yok (by omega) (by omega) likex likey
  have S9 : (sPar [14, 15] (mCons (mLc (iAlt (iAny (mVar 8)) (keysAt 8 pVar)) [16] (tName 16) (mTru (mCall m__law_does_fit [.e (mVar 16), .e (mVar 13)] [])) (mVar 16)) (mCons (mCall m_met [.e (mVar 5), .e (mVar 12), .e (mVar 13)] []) mNil))) [some scr, some s3.d, x2, some (MD ws), x4, some (HD false (srtC ws)), some (.lst false ((sortT (prods (vls (srtC ws)))).map tp)), some (.bl (fitB sc x)), some (.lst false (((sortT (prods (vls (srtC ws)))).filter fun sc => fitB sc x).map tp)), some (.lst true (((sortT (prods (vls (srtC ws)))).filter fun sc => fitB sc x).map tp ++ [.non])), x10, some (tp sc), some (tp x), some (tp y), x14, x15, none] = some (.nx [some scr, some s3.d, x2, some (MD ws), x4, some (HD false (srtC ws)), some (.lst false ((sortT (prods (vls (srtC ws)))).map tp)), some (.bl (fitB sc x)), some (.lst false (((sortT (prods (vls (srtC ws)))).filter fun sc => fitB sc x).map tp)), some (.lst true (((sortT (prods (vls (srtC ws)))).filter fun sc => fitB sc x).map tp ++ [.non])), x10, some (tp sc), some (tp x), some (tp y), some (.lst true ((((sortT (prods (vls (srtC ws)))).filter fun sc => fitB sc x).filter fun sc => fitB sc y).map tp)), some (metD x y), none]) :=
    ev_par2 (ev_cons (lc_typ (own := [16]) (t := tName 16) (c := (mTru (mCall m__law_does_fit [.e (mVar 16), .e (mVar 13)] []))) (m := mVar 16) (δ1 := [some scr, some s3.d, x2, some (MD ws), x4, some (HD false (srtC ws)), some (.lst false ((sortT (prods (vls (srtC ws)))).map tp)), some (.bl (fitB sc x)), some (.lst false (((sortT (prods (vls (srtC ws)))).filter fun sc => fitB sc x).map tp)), some (.lst true (((sortT (prods (vls (srtC ws)))).filter fun sc => fitB sc x).map tp ++ [.non])), x10, some (tp sc), some (tp x), some (tp y), x14, x15, none]) ((sortT (prods (vls (srtC ws)))).filter fun sc => fitB sc x) tp (fun sc => fitB sc y) tp (ev_altI (b := keysAt 8 pVar) ((iAny_lst (o := false) (ev_var (i := 8) rfl isL)).trans (by rw [fzs_typ tp fz_tps]))) rfl (Nat.le_trans llen (by decide)) fun z hz => ⟨_, rfl, rfl, ev_tru (ev_ce2 (ev_var (i := 16) (d := tp z) rfl (fz_tps z)) (ev_var (i := 13) (d := tp y) rfl (fz_tps y)) (does_fit_ok (by have := (lprops z hz).1; omega))), fun _ => ev_var (i := 16) rfl (fz_tps z)⟩) (ev_cons (ev_ce3 (ev_var (i := 5) rfl (fz_HD _)) (ev_var (i := 12) (d := tp x) rfl (fz_tps x)) (ev_var (i := 13) (d := tp y) rfl (fz_tps y)) mok) (r := mNil) rfl)) (by simp) (by simp)
  have fmet : isFz (metD x y) = true := by
    unfold metD
    split
    · rfl
    · exact fz_tps _
  have fzB : ∀ o, fz (.lst o ((((sortT (prods (vls (srtC ws)))).filter fun sc => fitB sc x).filter fun sc => fitB sc y).map tp)) = .lst false ((((sortT (prods (vls (srtC ws)))).filter fun sc => fitB sc x).filter fun sc => fitB sc y).map tp) := fun o => by simp only [fz, fzs_typ tp fz_tps]
  have isB_ : isFz (.lst false ((((sortT (prods (vls (srtC ws)))).filter fun sc => fitB sc x).filter fun sc => fitB sc y).map tp)) = true := isFz_lst (isFzs_typ tp fz_tps _)
  have hB : clash x y = (((sortT (prods (vls (srtC ws)))).filter fun sc => fitB sc x).filter fun sc => fitB sc y).isEmpty := by
    cases hc : clash x y with
    | true =>
      have : (((sortT (prods (vls (srtC ws)))).filter fun sc => fitB sc x).filter fun sc => fitB sc y) = [] := by
        rw [List.filter_filter]
        refine List.filter_eq_nil_iff.mpr fun z hz => ?_
        have := clash_none (sc := z) hc (by rw [(sprops z hz).1, xl]) (by rw [xl, yl])
        rw [Bool.and_comm] at this
        simp [this]
      rw [this]; rfl
    | false =>
      obtain ⟨_, z, hz, hzf⟩ := common_scene hne px py hc
      have hzm := (sortT_perm (prods (vls (srtC ws)))).mem_iff.mpr hz
      rw [fit_common hc (by rw [(sprops z hzm).1, xl]) (by rw [xl, yl]), Bool.and_eq_true] at hzf
      have : z ∈ (((sortT (prods (vls (srtC ws)))).filter fun sc => fitB sc x).filter fun sc => fitB sc y) := List.mem_filter.mpr ⟨List.mem_filter.mpr ⟨hzm, hzf.1⟩, hzf.2⟩
      cases e : (((sortT (prods (vls (srtC ws)))).filter fun sc => fitB sc x).filter fun sc => fitB sc y) with
      | nil => rw [e] at this; cases this
      | cons a r => rfl
  have comok : clash x y = false → (∀ z ∈ common x y, Lab z ∨ z = "") ∧ (common x y).length = (srtC ws).length ∧ likeB [""] (srtC ws) (tp (common x y)) = true := fun hc => by
    obtain ⟨pc, _⟩ := common_scene hne px py hc
    have cl : (common x y).length = (srtC ws).length := by rw [pc.1]; simp [vls]
    refine ⟨fun z hz => ?_, cl, pat_like pc⟩
    obtain ⟨k, hk⟩ := List.mem_iff_getElem?.mp hz
    have hkl := (List.getElem?_eq_some_iff.mp hk).1
    have hvl : (vls (srtC ws)).length = (srtC ws).length := by simp [vls]
    have hv : (vls (srtC ws))[k]? = some ((vls (srtC ws))[k]'(by omega)) := List.getElem?_eq_getElem _
    rcases pc.2 ((vls (srtC ws))[k]'(by omega), z) (List.mem_iff_getElem?.mpr ⟨k, by rw [List.getElem?_zip_eq_some]; exact ⟨hv, hk⟩⟩) with e | e
    · exact .inr e
    · obtain ⟨wd, hwd, e2⟩ := List.mem_map.mp (List.mem_of_getElem? hv)
      exact .inl (Hs.vl wd hwd z (by rw [e2]; exact e))
  obtain ⟨w3, hw3⟩ : ∃ w3, reprD (metD x y) = some w3 := by
    unfold metD
    cases hc : clash x y with
    | true =>
      obtain ⟨p, hp⟩ := non_sh
      exact ⟨_, repr_of hp (by decide) (by decide)⟩
    | false =>
      obtain ⟨c1, c2, _⟩ := comok hc
      obtain ⟨p, hp, _⟩ := tup_sh (n := 22) (k := 0) (l := 20) (ds := (common x y).map D.str) (fun e he => by
        obtain ⟨z, hz, rfl⟩ := List.mem_map.mp he
        rcases c1 z hz with q | q
        · exact str_sh q.pl (by have := q.b; omega)
        · subst q
          exact str_sh (fun c hc => by cases hc) (by decide)) (by rw [List.length_map, c2]; omega)
      exact ⟨_, repr_of hp (by decide) (by decide)⟩
  have S10 : (sIf (tOr2 (toT (mBin dNe (mBin dIs (mVar 15) (mC .non)) (mBin dEq (mVar 14) (mLst mNil)))) (toT (mBin dNe (mCallB dRepr (mCons (mCall (mPerm [2, 1, 0] [2, 1, 0] m_met) [.e (mVar 13), .e (mVar 12), .e (mVar 5)] []) mNil)) (mCallB dRepr (mCons (mVar 15) mNil))))) (sRet (mC (.bl false))) sNil) [some scr, some s3.d, x2, some (MD ws), x4, some (HD false (srtC ws)), some (.lst false ((sortT (prods (vls (srtC ws)))).map tp)), some (.bl (fitB sc x)), some (.lst false (((sortT (prods (vls (srtC ws)))).filter fun sc => fitB sc x).map tp)), some (.lst true (((sortT (prods (vls (srtC ws)))).filter fun sc => fitB sc x).map tp ++ [.non])), x10, some (tp sc), some (tp x), some (tp y), some (.lst true ((((sortT (prods (vls (srtC ws)))).filter fun sc => fitB sc x).filter fun sc => fitB sc y).map tp)), some (metD x y), none] = some (.nx [some scr, some s3.d, x2, some (MD ws), x4, some (HD false (srtC ws)), some (.lst false ((sortT (prods (vls (srtC ws)))).map tp)), some (.bl (fitB sc x)), some (.lst false (((sortT (prods (vls (srtC ws)))).filter fun sc => fitB sc x).map tp)), some (.lst true (((sortT (prods (vls (srtC ws)))).filter fun sc => fitB sc x).map tp ++ [.non])), x10, some (tp sc), some (tp x), some (tp y), some (.lst false ((((sortT (prods (vls (srtC ws)))).filter fun sc => fitB sc x).filter fun sc => fitB sc y).map tp)), some (metD x y), none]) := by
    have a14 : mVar 14 [some scr, some s3.d, x2, some (MD ws), x4, some (HD false (srtC ws)), some (.lst false ((sortT (prods (vls (srtC ws)))).map tp)), some (.bl (fitB sc x)), some (.lst false (((sortT (prods (vls (srtC ws)))).filter fun sc => fitB sc x).map tp)), some (.lst true (((sortT (prods (vls (srtC ws)))).filter fun sc => fitB sc x).map tp ++ [.non])), x10, some (tp sc), some (tp x), some (tp y), some (.lst true ((((sortT (prods (vls (srtC ws)))).filter fun sc => fitB sc x).filter fun sc => fitB sc y).map tp)), some (metD x y), none] = some (.lst false ((((sortT (prods (vls (srtC ws)))).filter fun sc => fitB sc x).filter fun sc => fitB sc y).map tp), [some scr, some s3.d, x2, some (MD ws), x4, some (HD false (srtC ws)), some (.lst false ((sortT (prods (vls (srtC ws)))).map tp)), some (.bl (fitB sc x)), some (.lst false (((sortT (prods (vls (srtC ws)))).filter fun sc => fitB sc x).map tp)), some (.lst true (((sortT (prods (vls (srtC ws)))).filter fun sc => fitB sc x).map tp ++ [.non])), x10, some (tp sc), some (tp x), some (tp y), some (.lst false ((((sortT (prods (vls (srtC ws)))).filter fun sc => fitB sc x).filter fun sc => fitB sc y).map tp)), some (metD x y), none]) := by
      have := ev_varf (i := 14) (δ := [some scr, some s3.d, x2, some (MD ws), x4, some (HD false (srtC ws)), some (.lst false ((sortT (prods (vls (srtC ws)))).map tp)), some (.bl (fitB sc x)), some (.lst false (((sortT (prods (vls (srtC ws)))).filter fun sc => fitB sc x).map tp)), some (.lst true (((sortT (prods (vls (srtC ws)))).filter fun sc => fitB sc x).map tp ++ [.non])), x10, some (tp sc), some (tp x), some (tp y), some (.lst true ((((sortT (prods (vls (srtC ws)))).filter fun sc => fitB sc x).filter fun sc => fitB sc y).map tp)), some (metD x y), none]) rfl
      rw [fzB] at this
      exact this
    have c1 : toT (mBin dNe (mBin dIs (mVar 15) (mC .non)) (mBin dEq (mVar 14) (mLst mNil))) [some scr, some s3.d, x2, some (MD ws), x4, some (HD false (srtC ws)), some (.lst false ((sortT (prods (vls (srtC ws)))).map tp)), some (.bl (fitB sc x)), some (.lst false (((sortT (prods (vls (srtC ws)))).filter fun sc => fitB sc x).map tp)), some (.lst true (((sortT (prods (vls (srtC ws)))).filter fun sc => fitB sc x).map tp ++ [.non])), x10, some (tp sc), some (tp x), some (tp y), some (.lst true ((((sortT (prods (vls (srtC ws)))).filter fun sc => fitB sc x).filter fun sc => fitB sc y).map tp)), some (metD x y), none] = some (false, [some scr, some s3.d, x2, some (MD ws), x4, some (HD false (srtC ws)), some (.lst false ((sortT (prods (vls (srtC ws)))).map tp)), some (.bl (fitB sc x)), some (.lst false (((sortT (prods (vls (srtC ws)))).filter fun sc => fitB sc x).map tp)), some (.lst true (((sortT (prods (vls (srtC ws)))).filter fun sc => fitB sc x).map tp ++ [.non])), x10, some (tp sc), some (tp x), some (tp y), some (.lst false ((((sortT (prods (vls (srtC ws)))).filter fun sc => fitB sc x).filter fun sc => fitB sc y).map tp)), some (metD x y), none]) := by
      refine ev_toT (ev_bin (g := dNe) (x := .bl (clash x y)) (y := .bl (clash x y)) (ev_bin (g := dIs) (ev_var (i := 15) rfl fmet) (b := mC .non) rfl ?_) (ev_bin (g := dEq) a14 (b := mLst mNil) (y := .lst true []) rfl ?_) ?_)
      · show some (D.bl (isNon (metD x y))) = _
        unfold metD
        cases clash x y <;> rfl
      · show some (D.bl ((((sortT (prods (vls (srtC ws)))).filter fun sc => fitB sc x).filter fun sc => fitB sc y).map tp).isEmpty) = _
        rw [List.isEmpty_map, ← hB]
      · show some (D.bl (!decide (clash x y = clash x y))) = _
        rw [decide_eq_true rfl]; rfl
    have c2 : toT (mBin dNe (mCallB dRepr (mCons (mCall (mPerm [2, 1, 0] [2, 1, 0] m_met) [.e (mVar 13), .e (mVar 12), .e (mVar 5)] []) mNil)) (mCallB dRepr (mCons (mVar 15) mNil))) [some scr, some s3.d, x2, some (MD ws), x4, some (HD false (srtC ws)), some (.lst false ((sortT (prods (vls (srtC ws)))).map tp)), some (.bl (fitB sc x)), some (.lst false (((sortT (prods (vls (srtC ws)))).filter fun sc => fitB sc x).map tp)), some (.lst true (((sortT (prods (vls (srtC ws)))).filter fun sc => fitB sc x).map tp ++ [.non])), x10, some (tp sc), some (tp x), some (tp y), some (.lst false ((((sortT (prods (vls (srtC ws)))).filter fun sc => fitB sc x).filter fun sc => fitB sc y).map tp)), some (metD x y), none] = some (false, [some scr, some s3.d, x2, some (MD ws), x4, some (HD false (srtC ws)), some (.lst false ((sortT (prods (vls (srtC ws)))).map tp)), some (.bl (fitB sc x)), some (.lst false (((sortT (prods (vls (srtC ws)))).filter fun sc => fitB sc x).map tp)), some (.lst true (((sortT (prods (vls (srtC ws)))).filter fun sc => fitB sc x).map tp ++ [.non])), x10, some (tp sc), some (tp x), some (tp y), some (.lst false ((((sortT (prods (vls (srtC ws)))).filter fun sc => fitB sc x).filter fun sc => fitB sc y).map tp)), some (metD x y), none]) :=
      ev_toT (ev_bin (g := dNe) (ev_call1 (g := dRepr) (ev_ce3 (ev_var (i := 13) (d := tp y) rfl (fz_tps y)) (ev_var (i := 12) (d := tp x) rfl (fz_tps x)) (ev_var (i := 5) rfl (fz_HD _)) (perm3 mok)) (dRepr_of hw3)) (ev_call1 (g := dRepr) (ev_var (i := 15) rfl fmet) (dRepr_of hw3)) (ne_str_refl w3))
    refine (ev_if0 ?_).trans rfl
    unfold tOr2
    rw [c1]
    exact c2
  have S11 : (sIf (tAnd2 (toT (mBin dIsNot (mVar 15) (mC .non))) (tOr2 (tNot1 (mTru (mCall m_is_pattern [.e (mVar 5), .e (mVar 15)] []))) (toT (mBin dNe (mCall m_scenes_of [.e (mVar 5), .e (mVar 15)] []) (mVar 14))))) (sRet (mC (.bl false))) sNil) [some scr, some s3.d, x2, some (MD ws), x4, some (HD false (srtC ws)), some (.lst false ((sortT (prods (vls (srtC ws)))).map tp)), some (.bl (fitB sc x)), some (.lst false (((sortT (prods (vls (srtC ws)))).filter fun sc => fitB sc x).map tp)), some (.lst true (((sortT (prods (vls (srtC ws)))).filter fun sc => fitB sc x).map tp ++ [.non])), x10, some (tp sc), some (tp x), some (tp y), some (.lst false ((((sortT (prods (vls (srtC ws)))).filter fun sc => fitB sc x).filter fun sc => fitB sc y).map tp)), some (metD x y), none] = some (.nx [some scr, some s3.d, x2, some (MD ws), x4, some (HD false (srtC ws)), some (.lst false ((sortT (prods (vls (srtC ws)))).map tp)), some (.bl (fitB sc x)), some (.lst false (((sortT (prods (vls (srtC ws)))).filter fun sc => fitB sc x).map tp)), some (.lst true (((sortT (prods (vls (srtC ws)))).filter fun sc => fitB sc x).map tp ++ [.non])), x10, some (tp sc), some (tp x), some (tp y), some (.lst false ((((sortT (prods (vls (srtC ws)))).filter fun sc => fitB sc x).filter fun sc => fitB sc y).map tp)), some (metD x y), none]) := by
    refine (ev_if0 (δ1 := [some scr, some s3.d, x2, some (MD ws), x4, some (HD false (srtC ws)), some (.lst false ((sortT (prods (vls (srtC ws)))).map tp)), some (.bl (fitB sc x)), some (.lst false (((sortT (prods (vls (srtC ws)))).filter fun sc => fitB sc x).map tp)), some (.lst true (((sortT (prods (vls (srtC ws)))).filter fun sc => fitB sc x).map tp ++ [.non])), x10, some (tp sc), some (tp x), some (tp y), some (.lst false ((((sortT (prods (vls (srtC ws)))).filter fun sc => fitB sc x).filter fun sc => fitB sc y).map tp)), some (metD x y), none]) ?_).trans rfl
    have c1 : toT (mBin dIsNot (mVar 15) (mC .non)) [some scr, some s3.d, x2, some (MD ws), x4, some (HD false (srtC ws)), some (.lst false ((sortT (prods (vls (srtC ws)))).map tp)), some (.bl (fitB sc x)), some (.lst false (((sortT (prods (vls (srtC ws)))).filter fun sc => fitB sc x).map tp)), some (.lst true (((sortT (prods (vls (srtC ws)))).filter fun sc => fitB sc x).map tp ++ [.non])), x10, some (tp sc), some (tp x), some (tp y), some (.lst false ((((sortT (prods (vls (srtC ws)))).filter fun sc => fitB sc x).filter fun sc => fitB sc y).map tp)), some (metD x y), none] = some (!clash x y, [some scr, some s3.d, x2, some (MD ws), x4, some (HD false (srtC ws)), some (.lst false ((sortT (prods (vls (srtC ws)))).map tp)), some (.bl (fitB sc x)), some (.lst false (((sortT (prods (vls (srtC ws)))).filter fun sc => fitB sc x).map tp)), some (.lst true (((sortT (prods (vls (srtC ws)))).filter fun sc => fitB sc x).map tp ++ [.non])), x10, some (tp sc), some (tp x), some (tp y), some (.lst false ((((sortT (prods (vls (srtC ws)))).filter fun sc => fitB sc x).filter fun sc => fitB sc y).map tp)), some (metD x y), none]) := by
      refine ev_toT (ev_bin (g := dIsNot) (ev_var (i := 15) rfl fmet) (b := mC .non) rfl ?_)
      show some (D.bl (!isNon (metD x y))) = _
      unfold metD
      cases clash x y <;> rfl
    refine (ev_and2 (q := false) c1 fun hq => ?_).trans (by rw [Bool.and_false])
    have hc : clash x y = false := by simpa using hq
    obtain ⟨c1, c2, c3⟩ := comok hc
    have cok : ∀ z ∈ common x y, PyData.strOk z = true := fun z hz => by
      rcases c1 z hz with q | q
      · exact q.ok
      · rw [q]; exact empty_ok
    have emet : metD x y = tp (common x y) := by unfold metD; rw [hc]; rfl
    rw [emet]
    have ip := is_pattern_ok Hs (th_tp (xs := common x y) (by omega) cok)
    rw [c3] at ip
    have so := scenes_of_ok Hs cok c2 c3
    have eB : ((sortT (prods (vls (srtC ws)))).filter fun sc => fitB sc (common x y)) = (((sortT (prods (vls (srtC ws)))).filter fun sc => fitB sc x).filter fun sc => fitB sc y) := by
      rw [List.filter_filter]
      refine List.filter_congr fun z hz => ?_
      rw [fit_common hc (by rw [(sprops z hz).1, xl]) (by rw [xl, yl]), Bool.and_comm]
    rw [eB] at so
    refine ev_or2 (p := false) (q := false) (ev_not1 (p := true) (ev_tru (ev_ce2 (ev_var (i := 5) rfl (fz_HD _)) (ev_var (i := 15) (d := tp (common x y)) rfl (fz_tps _)) ip))) fun _ => ev_toT (ev_bin (g := dNe) (ev_ce2 (ev_var (i := 5) rfl (fz_HD _)) (ev_var (i := 15) (d := tp (common x y)) rfl (fz_tps _)) so) (ev_var (i := 14) rfl isB_) (ne_tps fun z hz v hv => ?_))
    exact ((sprops z (List.mem_filter.mp (List.mem_filter.mp hz).1).1).2 v hv).ok
  obtain ⟨j2, u, hu, s4, k4, p4⟩ := pick_ok (o := false) (ds := [sc, x].map tp) k3 (by omega) (by simp) (by show 2 ≤ 1000; decide)
  rw [List.getElem?_map] at hu
  obtain ⟨t, ht0, rfl⟩ := Option.map_eq_some_iff.mp hu
  have ht := List.mem_of_getElem? ht0
  have tprops : (∀ z ∈ t, PyData.strOk z = true) ∧ t.length = (srtC ws).length := by
    rcases List.mem_cons.mp ht with rfl | ht
    · exact ⟨scok, scl⟩
    · rw [List.mem_singleton.mp ht]
      exact ⟨xok, xl⟩
  obtain ⟨dn, hdn, s5, k5, p5⟩ := near_ok (x := t) H k4 (by omega) tprops.1 (by omega) (by omega)
  rw [show fz (tp t) = tp t from fz_isFz _ (fz_tps t)] at p4
  obtain ⟨y8, y10, ths⟩ := things_ok (scr := scr) (x2 := x2) (x4 := x4) (x6 := some (.lst false ((sortT (prods (vls (srtC ws)))).map tp))) (x7 := some (.bl (fitB sc x))) (x9 := some (.lst true (((sortT (prods (vls (srtC ws)))).filter fun sc => fitB sc x).map tp ++ [.non]))) (x11 := some (tp sc)) (x12 := some (tp x)) (x13 := some (tp y)) (x14 := some (.lst false ((((sortT (prods (vls (srtC ws)))).filter fun sc => fitB sc x).filter fun sc => fitB sc y).map tp))) (x15 := some (metD x y)) (x16 := none) (st := some s5.d) H [fz dn, tp sc, tp x] (fun e he => by
    rcases List.mem_cons.mp he with rfl | he
    · exact hdn
    · rcases List.mem_cons.mp he with rfl | he
      · exact th_tp (by omega) scok
      · rw [List.mem_singleton.mp he]
        exact th_tp (by omega) xok) (some (.lst false (((sortT (prods (vls (srtC ws)))).filter fun sc => fitB sc x).map tp))) x10
  have S12 : (sFor (iAny (mLst (mCons (mCall m__law_near [.v 1, .e (mVar 3), .e (mFz (mCall m__law_pick [.v 1, .e (mFz (mLst (mCons (mVar 11) (mCons (mVar 12) mNil))))] []))] []) (mCons (mVar 11) (mCons (mVar 12) mNil))))) (tName 10) (sCons (sSet 8 (mLst (mCons (mCall m__law_is_like [.e (mVar 3), .e (mVar 10), .e (mFz (mLst mNil))] []) (mCons (mCall m__law_is_like [.e (mVar 3), .e (mVar 10), .e (mFz (mLst (mCons (mC (.str "")) mNil)))] []) mNil)))) (sCons (sIf (toT (mBin dNe (mCallB dRepr (mCons (mLst (mCons (mCall (mPerm [1, 0] [1, 0] m_is_scene) [.e (mVar 10), .e (mVar 5)] []) (mCons (mCall (mPerm [1, 0] [1, 0] m_is_pattern) [.e (mVar 10), .e (mVar 5)] []) mNil))) mNil)) (mCallB dRepr (mCons (mVar 8) mNil)))) (sRet (mC (.bl false))) sNil) (sIf (toT (mBin dNe (mCallB dRepr (mCons (mLst (mCons (mCall m_is_scene [.e (mVar 5), .e (mVar 10)] []) (mCons (mCall m_is_pattern [.e (mVar 5), .e (mVar 10)] []) mNil))) mNil)) (mCallB dRepr (mCons (mVar 8) mNil)))) (sRet (mC (.bl false))) sNil)))) [some scr, some s3.d, x2, some (MD ws), x4, some (HD false (srtC ws)), some (.lst false ((sortT (prods (vls (srtC ws)))).map tp)), some (.bl (fitB sc x)), some (.lst false (((sortT (prods (vls (srtC ws)))).filter fun sc => fitB sc x).map tp)), some (.lst true (((sortT (prods (vls (srtC ws)))).filter fun sc => fitB sc x).map tp ++ [.non])), x10, some (tp sc), some (tp x), some (tp y), some (.lst false ((((sortT (prods (vls (srtC ws)))).filter fun sc => fitB sc x).filter fun sc => fitB sc y).map tp)), some (metD x y), none] = some (.nx [some scr, some s5.d, x2, some (MD ws), x4, some (HD false (srtC ws)), some (.lst false ((sortT (prods (vls (srtC ws)))).map tp)), some (.bl (fitB sc x)), y8, some (.lst true (((sortT (prods (vls (srtC ws)))).filter fun sc => fitB sc x).map tp ++ [.non])), y10, some (tp sc), some (tp x), some (tp y), some (.lst false ((((sortT (prods (vls (srtC ws)))).filter fun sc => fitB sc x).filter fun sc => fitB sc y).map tp)), some (metD x y), none]) := by
    have a11 : mVar 11 [some scr, some s3.d, x2, some (MD ws), x4, some (HD false (srtC ws)), some (.lst false ((sortT (prods (vls (srtC ws)))).map tp)), some (.bl (fitB sc x)), some (.lst false (((sortT (prods (vls (srtC ws)))).filter fun sc => fitB sc x).map tp)), some (.lst true (((sortT (prods (vls (srtC ws)))).filter fun sc => fitB sc x).map tp ++ [.non])), x10, some (tp sc), some (tp x), some (tp y), some (.lst false ((((sortT (prods (vls (srtC ws)))).filter fun sc => fitB sc x).filter fun sc => fitB sc y).map tp)), some (metD x y), none] = some (tp sc, [some scr, some s3.d, x2, some (MD ws), x4, some (HD false (srtC ws)), some (.lst false ((sortT (prods (vls (srtC ws)))).map tp)), some (.bl (fitB sc x)), some (.lst false (((sortT (prods (vls (srtC ws)))).filter fun sc => fitB sc x).map tp)), some (.lst true (((sortT (prods (vls (srtC ws)))).filter fun sc => fitB sc x).map tp ++ [.non])), x10, some (tp sc), some (tp x), some (tp y), some (.lst false ((((sortT (prods (vls (srtC ws)))).filter fun sc => fitB sc x).filter fun sc => fitB sc y).map tp)), some (metD x y), none]) := ev_var rfl (fz_tps sc)
    have a12 : mVar 12 [some scr, some s3.d, x2, some (MD ws), x4, some (HD false (srtC ws)), some (.lst false ((sortT (prods (vls (srtC ws)))).map tp)), some (.bl (fitB sc x)), some (.lst false (((sortT (prods (vls (srtC ws)))).filter fun sc => fitB sc x).map tp)), some (.lst true (((sortT (prods (vls (srtC ws)))).filter fun sc => fitB sc x).map tp ++ [.non])), x10, some (tp sc), some (tp x), some (tp y), some (.lst false ((((sortT (prods (vls (srtC ws)))).filter fun sc => fitB sc x).filter fun sc => fitB sc y).map tp)), some (metD x y), none] = some (tp x, [some scr, some s3.d, x2, some (MD ws), x4, some (HD false (srtC ws)), some (.lst false ((sortT (prods (vls (srtC ws)))).map tp)), some (.bl (fitB sc x)), some (.lst false (((sortT (prods (vls (srtC ws)))).filter fun sc => fitB sc x).map tp)), some (.lst true (((sortT (prods (vls (srtC ws)))).filter fun sc => fitB sc x).map tp ++ [.non])), x10, some (tp sc), some (tp x), some (tp y), some (.lst false ((((sortT (prods (vls (srtC ws)))).filter fun sc => fitB sc x).filter fun sc => fitB sc y).map tp)), some (metD x y), none]) := ev_var rfl (fz_tps x)
    have b11 : mVar 11 [some scr, some s5.d, x2, some (MD ws), x4, some (HD false (srtC ws)), some (.lst false ((sortT (prods (vls (srtC ws)))).map tp)), some (.bl (fitB sc x)), some (.lst false (((sortT (prods (vls (srtC ws)))).filter fun sc => fitB sc x).map tp)), some (.lst true (((sortT (prods (vls (srtC ws)))).filter fun sc => fitB sc x).map tp ++ [.non])), x10, some (tp sc), some (tp x), some (tp y), some (.lst false ((((sortT (prods (vls (srtC ws)))).filter fun sc => fitB sc x).filter fun sc => fitB sc y).map tp)), some (metD x y), none] = some (tp sc, [some scr, some s5.d, x2, some (MD ws), x4, some (HD false (srtC ws)), some (.lst false ((sortT (prods (vls (srtC ws)))).map tp)), some (.bl (fitB sc x)), some (.lst false (((sortT (prods (vls (srtC ws)))).filter fun sc => fitB sc x).map tp)), some (.lst true (((sortT (prods (vls (srtC ws)))).filter fun sc => fitB sc x).map tp ++ [.non])), x10, some (tp sc), some (tp x), some (tp y), some (.lst false ((((sortT (prods (vls (srtC ws)))).filter fun sc => fitB sc x).filter fun sc => fitB sc y).map tp)), some (metD x y), none]) := ev_var rfl (fz_tps sc)
    have b12 : mVar 12 [some scr, some s5.d, x2, some (MD ws), x4, some (HD false (srtC ws)), some (.lst false ((sortT (prods (vls (srtC ws)))).map tp)), some (.bl (fitB sc x)), some (.lst false (((sortT (prods (vls (srtC ws)))).filter fun sc => fitB sc x).map tp)), some (.lst true (((sortT (prods (vls (srtC ws)))).filter fun sc => fitB sc x).map tp ++ [.non])), x10, some (tp sc), some (tp x), some (tp y), some (.lst false ((((sortT (prods (vls (srtC ws)))).filter fun sc => fitB sc x).filter fun sc => fitB sc y).map tp)), some (metD x y), none] = some (tp x, [some scr, some s5.d, x2, some (MD ws), x4, some (HD false (srtC ws)), some (.lst false ((sortT (prods (vls (srtC ws)))).map tp)), some (.bl (fitB sc x)), some (.lst false (((sortT (prods (vls (srtC ws)))).filter fun sc => fitB sc x).map tp)), some (.lst true (((sortT (prods (vls (srtC ws)))).filter fun sc => fitB sc x).map tp ++ [.non])), x10, some (tp sc), some (tp x), some (tp y), some (.lst false ((((sortT (prods (vls (srtC ws)))).filter fun sc => fitB sc x).filter fun sc => fitB sc y).map tp)), some (metD x y), none]) := ev_var rfl (fz_tps x)
    have pk : mFz (mCall m__law_pick [.v 1, .e (mFz (mLst (mCons (mVar 11) (mCons (mVar 12) mNil))))] []) [some scr, some s3.d, x2, some (MD ws), x4, some (HD false (srtC ws)), some (.lst false ((sortT (prods (vls (srtC ws)))).map tp)), some (.bl (fitB sc x)), some (.lst false (((sortT (prods (vls (srtC ws)))).filter fun sc => fitB sc x).map tp)), some (.lst true (((sortT (prods (vls (srtC ws)))).filter fun sc => fitB sc x).map tp ++ [.non])), x10, some (tp sc), some (tp x), some (tp y), some (.lst false ((((sortT (prods (vls (srtC ws)))).filter fun sc => fitB sc x).filter fun sc => fitB sc y).map tp)), some (metD x y), none] = some (tp t, [some scr, some s4.d, x2, some (MD ws), x4, some (HD false (srtC ws)), some (.lst false ((sortT (prods (vls (srtC ws)))).map tp)), some (.bl (fitB sc x)), some (.lst false (((sortT (prods (vls (srtC ws)))).filter fun sc => fitB sc x).map tp)), some (.lst true (((sortT (prods (vls (srtC ws)))).filter fun sc => fitB sc x).map tp ++ [.non])), x10, some (tp sc), some (tp x), some (tp y), some (.lst false ((((sortT (prods (vls (srtC ws)))).filter fun sc => fitB sc x).filter fun sc => fitB sc y).map tp)), some (metD x y), none]) := by
      have a : mFz (mLst (mCons (mVar 11) (mCons (mVar 12) mNil))) [some scr, some s3.d, x2, some (MD ws), x4, some (HD false (srtC ws)), some (.lst false ((sortT (prods (vls (srtC ws)))).map tp)), some (.bl (fitB sc x)), some (.lst false (((sortT (prods (vls (srtC ws)))).filter fun sc => fitB sc x).map tp)), some (.lst true (((sortT (prods (vls (srtC ws)))).filter fun sc => fitB sc x).map tp ++ [.non])), x10, some (tp sc), some (tp x), some (tp y), some (.lst false ((((sortT (prods (vls (srtC ws)))).filter fun sc => fitB sc x).filter fun sc => fitB sc y).map tp)), some (metD x y), none] = some (.lst false ([sc, x].map tp), [some scr, some s3.d, x2, some (MD ws), x4, some (HD false (srtC ws)), some (.lst false ((sortT (prods (vls (srtC ws)))).map tp)), some (.bl (fitB sc x)), some (.lst false (((sortT (prods (vls (srtC ws)))).filter fun sc => fitB sc x).map tp)), some (.lst true (((sortT (prods (vls (srtC ws)))).filter fun sc => fitB sc x).map tp ++ [.non])), x10, some (tp sc), some (tp x), some (tp y), some (.lst false ((((sortT (prods (vls (srtC ws)))).filter fun sc => fitB sc x).filter fun sc => fitB sc y).map tp)), some (metD x y), none]) := by
        rw [ev_fz (ev_lst (ev_cons a11 (ev_cons a12 (r := mNil) rfl)) (by show 2 ≤ sizeLine; decide))]
        simp only [fz, fzs, fz_isFz _ (fz_tps sc), fz_isFz _ (fz_tps x), List.map_cons, List.map_nil]
      have := ev_fz (ev_cve (i := 1) (d := s3.d) rfl a (d1 := s3.d) rfl rfl p4)
      rw [show fz (tp t) = tp t from fz_isFz _ (fz_tps t)] at this
      exact this
    have nr : mCall m__law_near [.v 1, .e (mVar 3), .e (mFz (mCall m__law_pick [.v 1, .e (mFz (mLst (mCons (mVar 11) (mCons (mVar 12) mNil))))] []))] [] [some scr, some s3.d, x2, some (MD ws), x4, some (HD false (srtC ws)), some (.lst false ((sortT (prods (vls (srtC ws)))).map tp)), some (.bl (fitB sc x)), some (.lst false (((sortT (prods (vls (srtC ws)))).filter fun sc => fitB sc x).map tp)), some (.lst true (((sortT (prods (vls (srtC ws)))).filter fun sc => fitB sc x).map tp ++ [.non])), x10, some (tp sc), some (tp x), some (tp y), some (.lst false ((((sortT (prods (vls (srtC ws)))).filter fun sc => fitB sc x).filter fun sc => fitB sc y).map tp)), some (metD x y), none] = some (dn, [some scr, some s5.d, x2, some (MD ws), x4, some (HD false (srtC ws)), some (.lst false ((sortT (prods (vls (srtC ws)))).map tp)), some (.bl (fitB sc x)), some (.lst false (((sortT (prods (vls (srtC ws)))).filter fun sc => fitB sc x).map tp)), some (.lst true (((sortT (prods (vls (srtC ws)))).filter fun sc => fitB sc x).map tp ++ [.non])), x10, some (tp sc), some (tp x), some (tp y), some (.lst false ((((sortT (prods (vls (srtC ws)))).filter fun sc => fitB sc x).filter fun sc => fitB sc y).map tp)), some (metD x y), none]) := ev_cvee (i := 1) (d := s3.d) (d1 := s4.d) rfl (ev_var (i := 3) rfl (fz_MD ws)) pk rfl rfl p5
    refine (ev_for ((iAny_lst (o := true) (ev_lst (ev_cons nr (ev_cons b11 (ev_cons b12 (r := mNil) rfl))) (by show 3 ≤ sizeLine; decide))).trans ?_)).trans ths
    simp only [fzs, fz_isFz _ (fz_tps sc), fz_isFz _ (fz_tps x)]
  exact ⟨s5, _, _, _, _, _, _, _, _, _, k5.mono (by omega), (ev_seq S1).trans ((ev_seq S2).trans ((ev_seq S3).trans ((ev_seq S4).trans ((ev_seq S5).trans ((ev_seq S6).trans ((ev_seq S7).trans ((ev_seq S8).trans ((ev_seq S9).trans ((ev_seq S10).trans ((ev_seq S11).trans S12))))))))))⟩
end K03
set_option Elab.async false
set_option linter.all false
set_option maxRecDepth 100000
set_option maxHeartbeats 0
namespace K03
open PySem PySem.Spec PyProof.Rows L2 DL
theorem frz_md (ws : Cs) : fz (.dct true [.inr "cells"] [CDo ws]) = MD ws := by
  simp only [fz, fzs, frz_CDo, MD]
theorem turn_ok {scr : D} {s : Dr} {b : Nat} {x2 x3 x4 x5 x6 x7 x8 x9 x10 x11 x12 x13 x14 x15 : Option D} (h : s.Ok b) (hb : b + 2000 < 2 ^ 40) : ∃ (s' : Dr) (y2 y3 y4 y5 y6 y7 y8 y9 y10 y11 y12 y13 y14 y15 : Option D), s'.Ok (b + 500) ∧ (sCons (sSet 3 (mDisp [((mC (.str "cells")), (mCall m__law_cells [.v 1, .e (mFz (mBin dAdd (mC (.int 1)) (mCall m__law_take [.v 1, .e (mC (.int 3))] []))), .e (mC (.int 3))] []))])) (sCons (sPar [5, 6] (mCons (mCall m__law_hall [.e (mVar 3)] []) (mCons (mCall m__law_all_scenes [.e (mVar 3)] []) mNil))) (sFor (mRng1 (mCons (mC (.int 5)) mNil)) (tName 4) (sCons (sAsg (mTup (mCons (mCall m__law_pick [.v 1, .e (mVar 6)] []) (mCons (mCall m__law_pattern [.v 1, .e (mVar 3)] []) (mCons (mCall m__law_pattern [.v 1, .e (mVar 3)] []) mNil)))) (tTup (tsCons (tName 11) (tsCons (tName 12) (tsCons (tName 13) tsNil))))) (sCons (sSet 7 (mCall m__law_does_fit [.e (mVar 11), .e (mVar 12)] [])) (sCons (sIf (toT (mBin dNe (mCallB dRepr (mCons (mLst (mCons (mCall m_fits [.e (mVar 5), .e (mVar 11), .e (mVar 12)] []) (mCons (mCall (mPerm [2, 1, 0] [2, 1, 0] m_fits) [.e (mVar 12), .e (mVar 11), .e (mVar 5)] []) mNil))) mNil)) (mCallB dRepr (mCons (mLst (mCons (mVar 7) (mCons (mVar 7) mNil))) mNil)))) (sRet (mC (.bl false))) sNil) (sCons (sSet 8 (mLc (iAlt (iAny (mVar 6)) (keysAt 6 pVar)) [16] (tName 16) (mTru (mCall m__law_does_fit [.e (mVar 16), .e (mVar 12)] [])) (mVar 16))) (sCons (sSet 9 (mCall m_scenes_of [.e (mVar 5), .e (mVar 12)] [])) (sCons (sIf (purT [false, false, false, false, false, false, false, false, true, true] (toT (mBin dNe (pur [false, false, false, false, false, false, false, false, false, true] (mCallB dRepr (mCons (mVar 9) mNil))) (mCallB dRepr (mCons (mVar 8) mNil))))) (sRet (mC (.bl false))) sNil) (sCons (sExpr (mMeth "list" gAppend 9 (mCons (mC .non) mNil))) (sCons (sIf (toT (mBin dNe (mCallB dRepr (mCons (mCall (mPerm [1, 0] [1, 0] m_scenes_of) [.e (mVar 12), .e (mVar 5)] []) mNil)) (mCallB dRepr (mCons (mVar 8) mNil)))) (sRet (mC (.bl false))) sNil) (sCons (sPar [14, 15] (mCons (mLc (iAlt (iAny (mVar 8)) (keysAt 8 pVar)) [16] (tName 16) (mTru (mCall m__law_does_fit [.e (mVar 16), .e (mVar 13)] [])) (mVar 16)) (mCons (mCall m_met [.e (mVar 5), .e (mVar 12), .e (mVar 13)] []) mNil))) (sCons (sIf (tOr2 (toT (mBin dNe (mBin dIs (mVar 15) (mC .non)) (mBin dEq (mVar 14) (mLst mNil)))) (toT (mBin dNe (mCallB dRepr (mCons (mCall (mPerm [2, 1, 0] [2, 1, 0] m_met) [.e (mVar 13), .e (mVar 12), .e (mVar 5)] []) mNil)) (mCallB dRepr (mCons (mVar 15) mNil))))) (sRet (mC (.bl false))) sNil) (sCons (sIf (tAnd2 (toT (mBin dIsNot (mVar 15) (mC .non))) (tOr2 (tNot1 (mTru (mCall m_is_pattern [.e (mVar 5), .e (mVar 15)] []))) (toT (mBin dNe (mCall m_scenes_of [.e (mVar 5), .e (mVar 15)] []) (mVar 14))))) (sRet (mC (.bl false))) sNil) (sFor (iAny (mLst (mCons (mCall m__law_near [.v 1, .e (mVar 3), .e (mFz (mCall m__law_pick [.v 1, .e (mFz (mLst (mCons (mVar 11) (mCons (mVar 12) mNil))))] []))] []) (mCons (mVar 11) (mCons (mVar 12) mNil))))) (tName 10) (sCons (sSet 8 (mLst (mCons (mCall m__law_is_like [.e (mVar 3), .e (mVar 10), .e (mFz (mLst mNil))] []) (mCons (mCall m__law_is_like [.e (mVar 3), .e (mVar 10), .e (mFz (mLst (mCons (mC (.str "")) mNil)))] []) mNil)))) (sCons (sIf (toT (mBin dNe (mCallB dRepr (mCons (mLst (mCons (mCall (mPerm [1, 0] [1, 0] m_is_scene) [.e (mVar 10), .e (mVar 5)] []) (mCons (mCall (mPerm [1, 0] [1, 0] m_is_pattern) [.e (mVar 10), .e (mVar 5)] []) mNil))) mNil)) (mCallB dRepr (mCons (mVar 8) mNil)))) (sRet (mC (.bl false))) sNil) (sIf (toT (mBin dNe (mCallB dRepr (mCons (mLst (mCons (mCall m_is_scene [.e (mVar 5), .e (mVar 10)] []) (mCons (mCall m_is_pattern [.e (mVar 5), .e (mVar 10)] []) mNil))) mNil)) (mCallB dRepr (mCons (mVar 8) mNil)))) (sRet (mC (.bl false))) sNil)))))))))))))))))) [some scr, some s.d, x2, x3, x4, x5, x6, x7, x8, x9, x10, x11, x12, x13, x14, x15, none] = some (.nx [some scr, some s'.d, y2, y3, y4, y5, y6, y7, y8, y9, y10, y11, y12, y13, y14, y15, none]) := by
  obtain ⟨v, v0, v1, s1, k1, p1⟩ := take_ok (n := 3) h (by omega) (by decide) (by decide)
  obtain ⟨m, rfl⟩ : ∃ m : Nat, v = m := ⟨v.toNat, by omega⟩
  obtain ⟨ws, H, wl, s2, k2, p2⟩ := cells_ok (n := 1 + m) k1 (by omega) (by omega) (by omega)
  have S1 : (sSet 3 (mDisp [((mC (.str "cells")), (mCall m__law_cells [.v 1, .e (mFz (mBin dAdd (mC (.int 1)) (mCall m__law_take [.v 1, .e (mC (.int 3))] []))), .e (mC (.int 3))] []))])) [some scr, some s.d, x2, x3, x4, x5, x6, x7, x8, x9, x10, x11, x12, x13, x14, x15, none] = some (.nx [some scr, some s2.d, x2, some (.dct true [.inr "cells"] [CDo ws]), x4, x5, x6, x7, x8, x9, x10, x11, x12, x13, x14, x15, none]) := by
    have a : mFz (mBin dAdd (mC (.int 1)) (mCall m__law_take [.v 1, .e (mC (.int 3))] [])) [some scr, some s.d, x2, x3, x4, x5, x6, x7, x8, x9, x10, x11, x12, x13, x14, x15, none] = some (.int ((1 + m : Nat) : Int), [some scr, some s1.d, x2, x3, x4, x5, x6, x7, x8, x9, x10, x11, x12, x13, x14, x15, none]) := by
      refine (ev_fz (ev_bin (g := dAdd) (a := mC (.int 1)) rfl (ev_cve (i := 1) (d := s.d) rfl (a := mC (.int 3)) rfl (d1 := s.d) rfl rfl p1) (d := .int (1 + (m : Int))) rfl)).trans ?_
      simp [fz]
    exact ev_set (i := 3) (ev_disp1 (ev_cvee (i := 1) (d := s.d) rfl a (b := mC (.int 3)) rfl (d1 := s1.d) rfl rfl p2)) (by simp)
  have S2 : (sPar [5, 6] (mCons (mCall m__law_hall [.e (mVar 3)] []) (mCons (mCall m__law_all_scenes [.e (mVar 3)] []) mNil))) [some scr, some s2.d, x2, some (.dct true [.inr "cells"] [CDo ws]), x4, x5, x6, x7, x8, x9, x10, x11, x12, x13, x14, x15, none] = some (.nx [some scr, some s2.d, x2, some (MD ws), x4, some (HD true (srtC ws)), some (.lst true ((sortT (prods (vls (srtC ws)))).map tp)), x7, x8, x9, x10, x11, x12, x13, x14, x15, none]) := by
    have a : mVar 3 [some scr, some s2.d, x2, some (.dct true [.inr "cells"] [CDo ws]), x4, x5, x6, x7, x8, x9, x10, x11, x12, x13, x14, x15, none] = some (MD ws, [some scr, some s2.d, x2, some (MD ws), x4, x5, x6, x7, x8, x9, x10, x11, x12, x13, x14, x15, none]) := by
      have := ev_varf (i := 3) (δ := [some scr, some s2.d, x2, some (.dct true [.inr "cells"] [CDo ws]), x4, x5, x6, x7, x8, x9, x10, x11, x12, x13, x14, x15, none]) rfl
      rw [frz_md] at this
      exact this
    exact ev_par2 (ev_cons (ev_ce1 a (hall_ok H)) (ev_cons (ev_ce1 (ev_var (i := 3) rfl (fz_MD ws)) (all_scenes_ok H)) (r := mNil) rfl)) (by simp) (by simp)
  obtain ⟨δ', el, _, sj, o, o', y4, y7, y8, y9, y10, y11, y12, y13, y14, y15, kj, rfl⟩ := loopF_ind (t := tName 4) (b := (sCons (sAsg (mTup (mCons (mCall m__law_pick [.v 1, .e (mVar 6)] []) (mCons (mCall m__law_pattern [.v 1, .e (mVar 3)] []) (mCons (mCall m__law_pattern [.v 1, .e (mVar 3)] []) mNil)))) (tTup (tsCons (tName 11) (tsCons (tName 12) (tsCons (tName 13) tsNil))))) (sCons (sSet 7 (mCall m__law_does_fit [.e (mVar 11), .e (mVar 12)] [])) (sCons (sIf (toT (mBin dNe (mCallB dRepr (mCons (mLst (mCons (mCall m_fits [.e (mVar 5), .e (mVar 11), .e (mVar 12)] []) (mCons (mCall (mPerm [2, 1, 0] [2, 1, 0] m_fits) [.e (mVar 12), .e (mVar 11), .e (mVar 5)] []) mNil))) mNil)) (mCallB dRepr (mCons (mLst (mCons (mVar 7) (mCons (mVar 7) mNil))) mNil)))) (sRet (mC (.bl false))) sNil) (sCons (sSet 8 (mLc (iAlt (iAny (mVar 6)) (keysAt 6 pVar)) [16] (tName 16) (mTru (mCall m__law_does_fit [.e (mVar 16), .e (mVar 12)] [])) (mVar 16))) (sCons (sSet 9 (mCall m_scenes_of [.e (mVar 5), .e (mVar 12)] [])) (sCons (sIf (purT [false, false, false, false, false, false, false, false, true, true] (toT (mBin dNe (pur [false, false, false, false, false, false, false, false, false, true] (mCallB dRepr (mCons (mVar 9) mNil))) (mCallB dRepr (mCons (mVar 8) mNil))))) (sRet (mC (.bl false))) sNil) (sCons (sExpr (mMeth "list" gAppend 9 (mCons (mC .non) mNil))) (sCons (sIf (toT (mBin dNe (mCallB dRepr (mCons (mCall (mPerm [1, 0] [1, 0] m_scenes_of) [.e (mVar 12), .e (mVar 5)] []) mNil)) (mCallB dRepr (mCons (mVar 8) mNil)))) (sRet (mC (.bl false))) sNil) (sCons (sPar [14, 15] (mCons (mLc (iAlt (iAny (mVar 8)) (keysAt 8 pVar)) [16] (tName 16) (mTru (mCall m__law_does_fit [.e (mVar 16), .e (mVar 13)] [])) (mVar 16)) (mCons (mCall m_met [.e (mVar 5), .e (mVar 12), .e (mVar 13)] []) mNil))) (sCons (sIf (tOr2 (toT (mBin dNe (mBin dIs (mVar 15) (mC .non)) (mBin dEq (mVar 14) (mLst mNil)))) (toT (mBin dNe (mCallB dRepr (mCons (mCall (mPerm [2, 1, 0] [2, 1, 0] m_met) [.e (mVar 13), .e (mVar 12), .e (mVar 5)] []) mNil)) (mCallB dRepr (mCons (mVar 15) mNil))))) (sRet (mC (.bl false))) sNil) (sCons (sIf (tAnd2 (toT (mBin dIsNot (mVar 15) (mC .non))) (tOr2 (tNot1 (mTru (mCall m_is_pattern [.e (mVar 5), .e (mVar 15)] []))) (toT (mBin dNe (mCall m_scenes_of [.e (mVar 5), .e (mVar 15)] []) (mVar 14))))) (sRet (mC (.bl false))) sNil) (sFor (iAny (mLst (mCons (mCall m__law_near [.v 1, .e (mVar 3), .e (mFz (mCall m__law_pick [.v 1, .e (mFz (mLst (mCons (mVar 11) (mCons (mVar 12) mNil))))] []))] []) (mCons (mVar 11) (mCons (mVar 12) mNil))))) (tName 10) (sCons (sSet 8 (mLst (mCons (mCall m__law_is_like [.e (mVar 3), .e (mVar 10), .e (mFz (mLst mNil))] []) (mCons (mCall m__law_is_like [.e (mVar 3), .e (mVar 10), .e (mFz (mLst (mCons (mC (.str "")) mNil)))] []) mNil)))) (sCons (sIf (toT (mBin dNe (mCallB dRepr (mCons (mLst (mCons (mCall (mPerm [1, 0] [1, 0] m_is_scene) [.e (mVar 10), .e (mVar 5)] []) (mCons (mCall (mPerm [1, 0] [1, 0] m_is_pattern) [.e (mVar 10), .e (mVar 5)] []) mNil))) mNil)) (mCallB dRepr (mCons (mVar 8) mNil)))) (sRet (mC (.bl false))) sNil) (sIf (toT (mBin dNe (mCallB dRepr (mCons (mLst (mCons (mCall m_is_scene [.e (mVar 5), .e (mVar 10)] []) (mCons (mCall m_is_pattern [.e (mVar 5), .e (mVar 10)] []) mNil))) mNil)) (mCallB dRepr (mCons (mVar 8) mNil)))) (sRet (mC (.bl false))) sNil))))))))))))))))
    (J := fun r δ => r.length ≤ 5 ∧ ∃ (sj : Dr) (o o' : Bool) (y4 y7 y8 y9 y10 y11 y12 y13 y14 y15 : Option D), sj.Ok (b + 460 - 50 * r.length) ∧ δ = [some scr, some sj.d, x2, some (MD ws), y4, some (HD o (srtC ws)), some (.lst o' ((sortT (prods (vls (srtC ws)))).map tp)), y7, y8, y9, y10, y11, y12, y13, y14, y15, none]) (fun d r δ hJ => by
      obtain ⟨hr, sj, o, o', y4, y7, y8, y9, y10, y11, y12, y13, y14, y15, kj, rfl⟩ := hJ
      rw [List.length_cons] at hr kj
      obtain ⟨s', z7, z8, z9, z10, z11, z12, z13, z14, z15, k', e⟩ := lap_ok (scr := scr) (s := sj) (o := o) (o' := o') (x2 := x2) (x4 := some d) (x7 := y7) (x8 := y8) (x9 := y9) (x10 := y10) (x11 := y11) (x12 := y12) (x13 := y13) (x14 := y14) (x15 := y15) H kj (by omega)
      exact ⟨_, _, rfl, e, by omega, s', false, false, some d, z7, z8, z9, z10, z11, z12, z13, z14, z15, k'.mono (by omega), rfl⟩) (rngD 0 5) [some scr, some s2.d, x2, some (MD ws), x4, some (HD true (srtC ws)), some (.lst true ((sortT (prods (vls (srtC ws)))).map tp)), x7, x8, x9, x10, x11, x12, x13, x14, x15, none] ⟨by rw [rng_len]; omega, s2, true, true, x4, x7, x8, x9, x10, x11, x12, x13, x14, x15, k2.mono (by rw [rng_len]; omega), rfl⟩
  refine ⟨sj, _, _, _, _, _, _, _, _, _, _, _, _, _, _, kj.mono (by simp), (ev_seq S1).trans ((ev_seq S2).trans ((ev_for (ds := rngD 0 5) ?_).trans el))⟩
  exact ev_rng (a := mC (.int 5)) (n := 5) rfl (by decide) (by decide)
theorem law_true (nums : List Int) (hn : nums.length ≤ 63) : ∃ ds', m_law [.scr (nums.map D.int)] = some (.bl true, ds') := by
  obtain ⟨s0, h0, e0⟩ := begun_ok hn
  have scf : isFz (.scr (nums.map D.int)) = true := isFzs_ints nums
  have q0 := ev_set (i := 1) (δ := [some (.scr (nums.map D.int)), none, none, none, none, none, none, none, none, none, none, none, none, none, none, none, none]) (ev_ce1 (ev_var (i := 0) rfl scf) e0) (by simp)
  let k : Int := 2 + (if (8 : Int) < ((nums.map D.int).length : Int) then 8 else ((nums.map D.int).length : Int))
  have k0 : 0 ≤ k := by show 0 ≤ 2 + (if (8 : Int) < ((nums.map D.int).length : Int) then (8 : Int) else ((nums.map D.int).length : Int)); split <;> omega
  have k1 : k ≤ 10 := by show 2 + (if (8 : Int) < ((nums.map D.int).length : Int) then (8 : Int) else ((nums.map D.int).length : Int)) ≤ 10; split <;> omega
  have rg : (mRng1 (mCons (mBin dAdd (mC (.int 2)) (mCallB dMin2 (mCons (mCallB dLen (mCons (mVar 0) mNil)) (mCons (mC (.int 8)) mNil)))) mNil)) [some (.scr (nums.map D.int)), some s0.d, none, none, none, none, none, none, none, none, none, none, none, none, none, none, none] = some (rngD 0 k.toNat, [some (.scr (nums.map D.int)), some s0.d, none, none, none, none, none, none, none, none, none, none, none, none, none, none, none]) :=
    ev_rng (ev_bin (g := dAdd) (a := mC (.int 2)) rfl (ev_callB (g := dMin2) (ev_cons (ev_call1 (g := dLen) (ev_var (i := 0) rfl scf) rfl) (ev_cons (a := mC (.int 8)) rfl (r := mNil) rfl)) rfl) rfl) k0 (by omega)
  obtain ⟨δ', el, _, sj, y2, y3, y4, y5, y6, y7, y8, y9, y10, y11, y12, y13, y14, y15, kj, rfl⟩ := loopF_ind (t := tName 2) (b := (sCons (sSet 3 (mDisp [((mC (.str "cells")), (mCall m__law_cells [.v 1, .e (mFz (mBin dAdd (mC (.int 1)) (mCall m__law_take [.v 1, .e (mC (.int 3))] []))), .e (mC (.int 3))] []))])) (sCons (sPar [5, 6] (mCons (mCall m__law_hall [.e (mVar 3)] []) (mCons (mCall m__law_all_scenes [.e (mVar 3)] []) mNil))) (sFor (mRng1 (mCons (mC (.int 5)) mNil)) (tName 4) (sCons (sAsg (mTup (mCons (mCall m__law_pick [.v 1, .e (mVar 6)] []) (mCons (mCall m__law_pattern [.v 1, .e (mVar 3)] []) (mCons (mCall m__law_pattern [.v 1, .e (mVar 3)] []) mNil)))) (tTup (tsCons (tName 11) (tsCons (tName 12) (tsCons (tName 13) tsNil))))) (sCons (sSet 7 (mCall m__law_does_fit [.e (mVar 11), .e (mVar 12)] [])) (sCons (sIf (toT (mBin dNe (mCallB dRepr (mCons (mLst (mCons (mCall m_fits [.e (mVar 5), .e (mVar 11), .e (mVar 12)] []) (mCons (mCall (mPerm [2, 1, 0] [2, 1, 0] m_fits) [.e (mVar 12), .e (mVar 11), .e (mVar 5)] []) mNil))) mNil)) (mCallB dRepr (mCons (mLst (mCons (mVar 7) (mCons (mVar 7) mNil))) mNil)))) (sRet (mC (.bl false))) sNil) (sCons (sSet 8 (mLc (iAlt (iAny (mVar 6)) (keysAt 6 pVar)) [16] (tName 16) (mTru (mCall m__law_does_fit [.e (mVar 16), .e (mVar 12)] [])) (mVar 16))) (sCons (sSet 9 (mCall m_scenes_of [.e (mVar 5), .e (mVar 12)] [])) (sCons (sIf (purT [false, false, false, false, false, false, false, false, true, true] (toT (mBin dNe (pur [false, false, false, false, false, false, false, false, false, true] (mCallB dRepr (mCons (mVar 9) mNil))) (mCallB dRepr (mCons (mVar 8) mNil))))) (sRet (mC (.bl false))) sNil) (sCons (sExpr (mMeth "list" gAppend 9 (mCons (mC .non) mNil))) (sCons (sIf (toT (mBin dNe (mCallB dRepr (mCons (mCall (mPerm [1, 0] [1, 0] m_scenes_of) [.e (mVar 12), .e (mVar 5)] []) mNil)) (mCallB dRepr (mCons (mVar 8) mNil)))) (sRet (mC (.bl false))) sNil) (sCons (sPar [14, 15] (mCons (mLc (iAlt (iAny (mVar 8)) (keysAt 8 pVar)) [16] (tName 16) (mTru (mCall m__law_does_fit [.e (mVar 16), .e (mVar 13)] [])) (mVar 16)) (mCons (mCall m_met [.e (mVar 5), .e (mVar 12), .e (mVar 13)] []) mNil))) (sCons (sIf (tOr2 (toT (mBin dNe (mBin dIs (mVar 15) (mC .non)) (mBin dEq (mVar 14) (mLst mNil)))) (toT (mBin dNe (mCallB dRepr (mCons (mCall (mPerm [2, 1, 0] [2, 1, 0] m_met) [.e (mVar 13), .e (mVar 12), .e (mVar 5)] []) mNil)) (mCallB dRepr (mCons (mVar 15) mNil))))) (sRet (mC (.bl false))) sNil) (sCons (sIf (tAnd2 (toT (mBin dIsNot (mVar 15) (mC .non))) (tOr2 (tNot1 (mTru (mCall m_is_pattern [.e (mVar 5), .e (mVar 15)] []))) (toT (mBin dNe (mCall m_scenes_of [.e (mVar 5), .e (mVar 15)] []) (mVar 14))))) (sRet (mC (.bl false))) sNil) (sFor (iAny (mLst (mCons (mCall m__law_near [.v 1, .e (mVar 3), .e (mFz (mCall m__law_pick [.v 1, .e (mFz (mLst (mCons (mVar 11) (mCons (mVar 12) mNil))))] []))] []) (mCons (mVar 11) (mCons (mVar 12) mNil))))) (tName 10) (sCons (sSet 8 (mLst (mCons (mCall m__law_is_like [.e (mVar 3), .e (mVar 10), .e (mFz (mLst mNil))] []) (mCons (mCall m__law_is_like [.e (mVar 3), .e (mVar 10), .e (mFz (mLst (mCons (mC (.str "")) mNil)))] []) mNil)))) (sCons (sIf (toT (mBin dNe (mCallB dRepr (mCons (mLst (mCons (mCall (mPerm [1, 0] [1, 0] m_is_scene) [.e (mVar 10), .e (mVar 5)] []) (mCons (mCall (mPerm [1, 0] [1, 0] m_is_pattern) [.e (mVar 10), .e (mVar 5)] []) mNil))) mNil)) (mCallB dRepr (mCons (mVar 8) mNil)))) (sRet (mC (.bl false))) sNil) (sIf (toT (mBin dNe (mCallB dRepr (mCons (mLst (mCons (mCall m_is_scene [.e (mVar 5), .e (mVar 10)] []) (mCons (mCall m_is_pattern [.e (mVar 5), .e (mVar 10)] []) mNil))) mNil)) (mCallB dRepr (mCons (mVar 8) mNil)))) (sRet (mC (.bl false))) sNil)))))))))))))))))))
    (J := fun r δ => r.length ≤ 10 ∧ ∃ (sj : Dr) (y2 y3 y4 y5 y6 y7 y8 y9 y10 y11 y12 y13 y14 y15 : Option D), sj.Ok (10000 - 600 * r.length) ∧ δ = [some (.scr (nums.map D.int)), some sj.d, y2, y3, y4, y5, y6, y7, y8, y9, y10, y11, y12, y13, y14, y15, none]) (fun d r δ hJ => by
      obtain ⟨hr, sj, y2, y3, y4, y5, y6, y7, y8, y9, y10, y11, y12, y13, y14, y15, kj, rfl⟩ := hJ
      rw [List.length_cons] at hr kj
      obtain ⟨s', z2, z3, z4, z5, z6, z7, z8, z9, z10, z11, z12, z13, z14, z15, k', e⟩ := turn_ok (scr := .scr (nums.map D.int)) (s := sj) (x2 := some d) (x3 := y3) (x4 := y4) (x5 := y5) (x6 := y6) (x7 := y7) (x8 := y8) (x9 := y9) (x10 := y10) (x11 := y11) (x12 := y12) (x13 := y13) (x14 := y14) (x15 := y15) kj (by omega)
      exact ⟨_, _, rfl, e, by omega, s', z2, z3, z4, z5, z6, z7, z8, z9, z10, z11, z12, z13, z14, z15, k'.mono (by omega), rfl⟩) (rngD 0 k.toNat) [some (.scr (nums.map D.int)), some s0.d, none, none, none, none, none, none, none, none, none, none, none, none, none, none, none] ⟨by rw [rng_len]; omega, s0, none, none, none, none, none, none, none, none, none, none, none, none, none, none, h0.mono (by omega), rfl⟩
  have body : b_law [some (.scr (nums.map D.int)), none, none, none, none, none, none, none, none, none, none, none, none, none, none, none, none] = some (.rt (.bl true) [some (.scr (nums.map D.int)), some sj.d, y2, y3, y4, y5, y6, y7, y8, y9, y10, y11, y12, y13, y14, y15, none]) := (ev_seq q0).trans ((ev_seq ((ev_for rg).trans el)).trans (ev_ret (m := mC (.bl true)) rfl))
  exact ⟨_, fin_gen (N := 17) rfl body rfl⟩
end K03
set_option Elab.async false
set_option linter.all false
set_option maxRecDepth 100000
set_option maxHeartbeats 0
open PySem PySem.W PySem.Calls PyProof.Rows
theorem PySem.Challenge.cw_farkeepers_k03_scenes_and_patterns_holds : PySem.Challenge.rw_farkeepers_k03_scenes_and_patterns.Holds := by
  w_on; o_law
  refine HandSHeadRun.head_any (r := OpenLaw.row PySem.Challenge.rw_farkeepers_k03_scenes_and_patterns) (q := view (OpenLaw.row PySem.Challenge.rw_farkeepers_k03_scenes_and_patterns).prog [38]) (H := K03.hk) (ob := K03.ob) (M := 6000) (loose := K03.names) (d := HandSHeadRun.topDef (OpenLaw.row PySem.Challenge.rw_farkeepers_k03_scenes_and_patterns).prog 38) (kwd := []) K03.ob_eq
    (by kernel_rfl) (fun s => by kernel_rfl) K03.run (by kernel_rfl) (by kernel_rfl) (by kernel_rfl) (by rfl) (by first | assumption | decide +kernel) (by decide +kernel) ⟨rfl, rfl, rfl, rfl, rfl, by decide +kernel⟩ ?hw ?hc
  case hw => w_witness2
  case hc =>
    refine DL.walk_ofG (l := PySem.Challenge.rw_farkeepers_k03_scenes_and_patterns) (n := 63) (k := 7) (px := "_law_script") (m := K03.m_law) rfl (by decide) (by kernel_rfl) ⟨rfl, by decide, by decide⟩ K03.law_true ?F
    intro w mg lf h Y G hmg0
    obtain ⟨K, KX, c⟩ := Y
    have hmg : mg ("law" : PySem.Str) = some (.ref lf) := by
      have e : (HandSHeadRun.topDef (OpenLaw.row PySem.Challenge.rw_farkeepers_k03_scenes_and_patterns).prog 38).name = ("law" : PySem.Str) := by kernel_rfl
      rw [← e]
      exact hmg0
    obtain ⟨fd, hb, hF⟩ := K03.facts (P := (PySem.Challenge.rw_farkeepers_k03_scenes_and_patterns).prog) (w := w) KX G hmg c
    exact ⟨K, fd, KX, hb, hF⟩
