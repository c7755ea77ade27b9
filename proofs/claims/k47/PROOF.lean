import PyProof.Rows.All
import HandS.Exc
import HandS.Lambda
import Wide.All
import OpenK.AllK
import Wide.FinOn
import HandS.ForMost
import HandS.Dict
import HandS.TupAny
import HandS.Style
import HandS.Deep
import HandS.IsInst
import HandS.Flow
import HandS.WordsDict
import HandS.RaiseMore
import HandS.Defaults
import HandS.Head0
import HandS.Head1
import HandS.Head2
import HandS.HeadEnd
import HandS.HeadHook1
import HandS.HeadHook2
import HandS.SortInts
import HandS.Conv
import KE.GoesMore
import KE.GoesZip
import HandS.Zip
import HandS.Star
import KE.SortData
import HandS.More
import HandS.Strs
import HandS.OwnEq
import HandS.DictComp
import HandS.ReCall
import KE.SortKeyHeap
import HandS.SortKw
import HandS.Finally
import KE.KItemsList
import KE.KDictZip
import HandS.ListItems
import HandS.ExcValue
import HandS.ExcIs
import HandS.HeadHook4
import HandS.EndTab
import PyProof.ExcBaseAll.ValueError
import HandS.ExcInit
import HandS.ExcField
import PyProof.StrLawsRepr
import PyProof.StrOps2
import HandS.NamedTupSort
import HandS.TupMul
import HandS.SetFor
import PySem.Challenge.RW_farkeepers_k47_texts_of_frames_changed
import KE.KStateDown
import Lean
import KE.KIntText
import KE.IntTextText
set_option Elab.async false
set_option linter.all false
set_option maxRecDepth 100000
set_option maxHeartbeats 4000001
namespace DL
open PySem L2
/-- the built-in classes that are asked for -/
inductive BT where
  | int | bool | str | tup | lst | dct
  deriving DecidableEq
def BT.name : BT → String
  | .int => "int"
  | .bool => "bool"
  | .str => "str"
  | .tup => "tuple"
  | .lst => "list"
  | .dct => "dict"
inductive D where
  | non
  | bl (b : Bool)
  | int (i : Int)
  | str (x : Str)
  | tup (ds : List D)
  | lst (o : Bool) (ds : List D)
  | dct (o : Bool) (ks : List Key) (vs : List D)
  | obj (o : Bool) (c : Str) (ns : List Str) (vs : List D)
  | ty (n : BT)
  | glo (x : Str)
  | scr (ds : List D)
  | raw (o : Bool) (u : HO)
  | exc (c : Str) (ns : List Str) (vs : List D)
  | hole
  | tab (g q : Str)
mutual
/-- all flags down: nothing of it may be changed any more -/
def fz : D → D
  | .tup ds => .tup (fzs ds)
  | .lst _ ds => .lst false (fzs ds)
  | .dct _ ks vs => .dct false ks (fzs vs)
  | .obj _ c ns vs => .obj false c ns (fzs vs)
  | .non => .non
  | .bl b => .bl b
  | .int i => .int i
  | .str x => .str x
  | .ty n => .ty n
  | .glo x => .glo x
  | .scr ds => .scr (fzs ds)
  | .raw _ u => .raw false u
  | .exc c ns vs => .exc c ns (fzs vs)
  | .hole => .hole
  | .tab _ _ => .hole
def fzs : List D → List D
  | [] => []
  | d :: r => fz d :: fzs r
end
mutual
def isFz : D → Bool
  | .tup ds => isFzs ds
  | .lst o ds => !o && isFzs ds
  | .dct o _ vs => !o && isFzs vs
  | .obj o _ _ vs => !o && isFzs vs
  | .scr ds => isFzs ds
  | .raw o _ => !o
  | .exc _ _ vs => isFzs vs
  | .tab _ _ => false
  | _ => true
def isFzs : List D → Bool
  | [] => true
  | d :: r => isFz d && isFzs r
end
mutual
/-- no part of it is shared -/
def noal : D → Bool
  | .tup ds => noals ds
  | .lst o ds => o && noals ds
  | .dct o _ vs => o && noals vs
  | .obj o _ _ vs => o && noals vs
  | .scr _ => false
  | .raw o _ => o
  | .exc _ _ _ => false
  | .hole => false
  | _ => true
def noals : List D → Bool
  | [] => true
  | d :: r => noal d && noals r
end
theorem fzs_map : ∀ ds : List D, fzs ds = ds.map fz
  | [] => rfl
  | d :: r => by rw [fzs, fzs_map r]; rfl
theorem fzs_length (ds : List D) : (fzs ds).length = ds.length := by rw [fzs_map, List.length_map]
mutual
theorem fz_isFz : ∀ d : D, isFz d = true → fz d = d
  | .tup ds, h => by simp only [isFz] at h; simp only [fz, fzs_isFzs ds h]
  | .lst o ds, h => by
    simp only [isFz, Bool.and_eq_true, Bool.not_eq_true'] at h
    simp only [fz, fzs_isFzs ds h.2, h.1]
  | .dct o ks ds, h => by
    simp only [isFz, Bool.and_eq_true, Bool.not_eq_true'] at h
    simp only [fz, fzs_isFzs ds h.2, h.1]
  | .obj o c ns ds, h => by
    simp only [isFz, Bool.and_eq_true, Bool.not_eq_true'] at h
    simp only [fz, fzs_isFzs ds h.2, h.1]
  | .non, _ => rfl
  | .bl _, _ => rfl
  | .int _, _ => rfl
  | .str _, _ => rfl
  | .ty _, _ => rfl
  | .glo _, _ => rfl
  | .scr ds, h => by simp only [isFz] at h; simp only [fz, fzs_isFzs ds h]
  | .raw o u, h => by
    simp only [isFz, Bool.not_eq_true'] at h
    simp only [fz, h]
  | .exc c ns ds, h => by simp only [isFz] at h; simp only [fz, fzs_isFzs ds h]
  | .hole, _ => rfl
  | .tab _ _, h => by simp [isFz] at h
theorem fzs_isFzs : ∀ ds : List D, isFzs ds = true → fzs ds = ds
  | [], _ => rfl
  | d :: r, h => by
    simp only [isFzs, Bool.and_eq_true] at h
    simp only [fzs, fz_isFz d h.1, fzs_isFzs r h.2]
end
mutual
theorem isFz_fz : ∀ d : D, isFz (fz d) = true
  | .tup ds => by simp only [fz, isFz, isFzs_fzs ds]
  | .lst o ds => by simp only [fz, isFz, isFzs_fzs ds]; rfl
  | .dct o ks ds => by simp only [fz, isFz, isFzs_fzs ds]; rfl
  | .obj o c ns ds => by simp only [fz, isFz, isFzs_fzs ds]; rfl
  | .non => rfl
  | .bl _ => rfl
  | .int _ => rfl
  | .str _ => rfl
  | .ty _ => rfl
  | .glo _ => rfl
  | .scr ds => by simp only [fz, isFz, isFzs_fzs ds]
  | .raw o u => rfl
  | .exc c ns ds => by simp only [fz, isFz, isFzs_fzs ds]
  | .hole => rfl
  | .tab _ _ => rfl
theorem isFzs_fzs : ∀ ds : List D, isFzs (fzs ds) = true
  | [] => rfl
  | d :: r => by simp only [fzs, isFzs, isFz_fz d, isFzs_fzs r]; rfl
end
theorem isFzs_get : ∀ {ds : List D} {i : Nat} {d : D}, isFzs ds = true → ds[i]? = some d → isFz d = true
  | [], i, d, _, h => by simp at h
  | x :: r, 0, d, h, e => by
    simp only [isFzs, Bool.and_eq_true] at h
    have : x = d := by simpa using e
    rw [← this]; exact h.1
  | x :: r, i + 1, d, h, e => by
    simp only [isFzs, Bool.and_eq_true] at h
    exact isFzs_get h.2 (by simpa using e)
theorem isFzs_iff : ∀ {ds : List D}, isFzs ds = true ↔ ∀ d ∈ ds, isFz d = true
  | [] => by simp [isFzs]
  | x :: r => by simp [isFzs, isFzs_iff (ds := r)]
theorem noals_iff : ∀ {ds : List D}, noals ds = true ↔ ∀ d ∈ ds, noal d = true
  | [] => by simp [noals]
  | x :: r => by simp [noals, noals_iff (ds := r)]
/-- a list of the written part -/
def SqLK (K : PySem.W.Frag) (a : Addr) (xs : List V) : Prop := ∃ (o : Obj) (its : Array Value) (n : Nat), K.lookup a = some o ∧ o.cls = .type "list" ∧ o.dict = none ∧ o.data = .seq its n ∧ its.size ≤ sizeLine ∧ Vals xs its.toList
theorem SqLK.sq {K : PySem.W.Frag} {H : Hp} {a : Addr} {xs : List V} (h : SqLK K a xs) : SqL K H a xs := .inr h
/-- what never changes -/
def pers : HO → Bool
  | .tup _ => true
  | .frz _ _ => true
  | _ => false
/-- the script: known to the object, or one of the module's own -/
def ScrAt (K : PySem.W.Frag) (H : Hp) (a : Addr) (vs : List V) : Prop := (∃ o, H a = some (.frz o (.lst vs))) ∨ SqLK K a vs
theorem ScrAt.sq {K : PySem.W.Frag} {H : Hp} {a : Addr} {vs : List V} (h : ScrAt K H a vs) : SqL K H a vs := by
  rcases h with ⟨o, h⟩ | h
  · exact .inl (.inr ⟨o, h⟩)
  · exact h.sq
theorem ScrAt.keep {K : PySem.W.Frag} {H H' : Hp} {a : Addr} {vs : List V} (h : ScrAt K H a vs) (k : ∀ a o, H a = some o → pers o = true → H' a = some o) : ScrAt K H' a vs := by
  rcases h with ⟨o, h⟩ | h
  · exact .inl ⟨o, k _ _ h rfl⟩
  · exact .inr h
/-- an exception of the class cls, its own dict d, at a -/
def ExV (cls : Value) (d : Option Addr) (a : Addr) : HO := .ext fun h => ∃ (oe : Obj) (vs : Array Value), h.get? a = some oe ∧ Zc cls d oe ∧ oe.data = .fields vs
/-- a tuple that has no dict of its own -/
def PlT (H : Hp) (t : Addr) : Prop := ∃ (o : Obj) (xs : List V), H t = some (.frz o (.tup xs)) ∧ o.dict = none
/-- the attribute names of an instance is such a tuple, if it is one -/
def NmU (H : Hp) : HO → Prop
  | .ins _ _ fs => ∀ t, fs.lookup ("names" : Str) = some (.ref t) → PlT H t
  | _ => True
theorem PlT.keep {H H' : Hp} {t : Addr} (h : PlT H t) (k : ∀ a o, H a = some o → pers o = true → H' a = some o) : PlT H' t := let ⟨o, xs, e, d⟩ := h; ⟨o, xs, k _ _ e rfl, d⟩
theorem NmU.imp {H H' : Hp} {u : HO} (h : NmU H u) (k : ∀ t, PlT H t → PlT H' t) : NmU H' u := by
  cases u with
  | ins C dx fs => exact fun t e => k t (h t e)
  | _ => trivial
theorem NmU.keep {H H' : Hp} {u : HO} (h : NmU H u) (k : ∀ a o, H a = some o → pers o = true → H' a = some o) : NmU H' u := h.imp fun _ p => p.keep k
/-- P: the table of code objects of the def g -/
def TabK (K : PySem.W.Frag) (mg : Str → Option Value) (g : Str) (P : Addr) : Prop := ∃ (f c : Addr) (oc : Value) (od : Option Addr) (fd : FuncData) (osl : Array (Option Value)) (o : Obj) (vs : Array Value),
  mg g = some (.ref f) ∧ K.lookup f = some ⟨oc, od, .func fd, osl⟩ ∧ fd.code = .ref c ∧ K.lookup c = some o ∧ o.data = .fields vs ∧ vs[11]? = some (.ref P)
theorem TabK.one {K : PySem.W.Frag} {mg : Str → Option Value} {g : Str} {P Q : Addr} (a : TabK K mg g P) (b : TabK K mg g Q) : P = Q := by
  obtain ⟨f, c, oc, od, fd, osl, o, vs, a1, a2, a3, a4, a5, a6⟩ := a
  obtain ⟨f', c', oc', od', fd', osl', o', vs', b1, b2, b3, b4, b5, b6⟩ := b
  rw [a1] at b1; cases b1
  rw [a2] at b2; cases b2
  rw [a3] at b3; cases b3
  rw [a4] at b4; cases b4
  rw [a5] at b5; cases b5
  rw [a6] at b6; cases b6
  rfl
mutual
/-- the tree d stands for the value v in H: Z: where what is shared lies; F: what is its own -/
inductive Rep (K : PySem.W.Frag) (mg : Str → Option Value) (H : Hp) (Z : Addr → Prop) : V → D → List Addr → Prop
  | non : Rep K mg H Z .non .non []
  | bl {b} : Rep K mg H Z (.bl b) (.bl b) []
  | int {i} : Rep K mg H Z (.int i) (.int i) []
  | str {x} : Rep K mg H Z (.str x) (.str x) []
  | ty {n} : Rep K mg H Z (.ty n.name) (.ty n) []
  | glo {x a} : mg x = some (.ref a) → Rep K mg H Z (.ref a) (.glo x) []
  | tup {a vs ds F} : SqT K H a vs → Reps K mg H Z vs ds F → Rep K mg H Z (.ref a) (.tup ds) F
  | scr {a vs ds} : ScrAt K H a vs → Reps K mg H Z vs ds [] → Rep K mg H Z (.ref a) (.scr ds) []
  | rawF {a u} : Rd H a u → pers u = false → Z a → NmU H u → Rep K mg H Z (.ref a) (.raw false u) []
  | rawO {a u} : H a = some u → pers u = false → NmU H u → Rep K mg H Z (.ref a) (.raw true u) [a]
  | lstF {a vs ds} : H a = some (.lst vs) → Z a → Reps K mg H Z vs ds [] → Rep K mg H Z (.ref a) (.lst false ds) []
  | lstO {a vs ds F} : H a = some (.lst vs) → Reps K mg H Z vs ds F → Rep K mg H Z (.ref a) (.lst true ds) (a :: F)
  | dctF {a kvs ks ds} : Rd H a (.dK kvs) → Z a → kvs.map (·.1) = ks ∧ ks.Nodup → Reps K mg H Z (kvs.map (·.2)) ds [] → Rep K mg H Z (.ref a) (.dct false ks ds) []
  | dctO {a kvs ks ds F} : H a = some (.dK kvs) → kvs.map (·.1) = ks ∧ ks.Nodup → Reps K mg H Z (kvs.map (·.2)) ds F → Rep K mg H Z (.ref a) (.dct true ks ds) (a :: F)
  | objF {a C dx fs c ns ds} : H a = some (.ins C dx fs) → Z a → mg c = some (.ref C) → fs.map (·.1) = ns → Reps K mg H Z (fs.map (·.2)) ds [] → NmU H (.ins C dx fs) → Rep K mg H Z (.ref a) (.obj false c ns ds) []
  | objO {a C dx fs c ns ds F} : H a = some (.ins C dx fs) → mg c = some (.ref C) → fs.map (·.1) = ns → Reps K mg H Z (fs.map (·.2)) ds F → NmU H (.ins C dx fs) → Rep K mg H Z (.ref a) (.obj true c ns ds) (a :: F)
  | exc {a C d fs c ns ds} : H a = some (ExV (.ref C) d a) → Z a → mg c = some (.ref C) → ((d = none ∧ fs = []) ∨ ∃ dd, d = some dd ∧ fs ≠ [] ∧ H dd = some (.xd fs) ∧ Z dd) → fs.map (·.1) = ns → Reps K mg H Z (fs.map (·.2)) ds [] → Rep K mg H Z (.ref a) (.exc c ns ds) []
  | hole {v} : Rep K mg H Z v .hole []
  | tab {P g q ps cs} : TabK K mg g P → H P = some (.tbl ps) → TriplesOk ps.toList → (∀ (pos : Pos) (cv : Value), codeAmong pos ps.toList = some cv → ∃ c ∈ cs, cv = .ref c) → (∀ c ∈ cs, H c = some (LamX.CodeO c q)) → Rep K mg H Z (.ref P) (.tab g q) (P :: cs)
inductive Reps (K : PySem.W.Frag) (mg : Str → Option Value) (H : Hp) (Z : Addr → Prop) : List V → List D → List Addr → Prop
  | nil : Reps K mg H Z [] [] []
  | cons {v vs d ds F G} : Rep K mg H Z v d F → Reps K mg H Z vs ds G → Reps K mg H Z (v :: vs) (d :: ds) (F ++ G)
end
section
variable {K : PySem.W.Frag} {mg : Str → Option Value} {H H' : Hp} {Z Z' : Addr → Prop}
theorem SqT.keep {a : Addr} {vs : List V} (h : SqT K H a vs) (k : ∀ a o, H a = some o → pers o = true → H' a = some o) : SqT K H' a vs := by
  (rcases h with (h | ⟨o, h⟩) | h)
  · exact .inl (.inl (k _ _ h rfl))
  · exact .inl (.inr ⟨o, k _ _ h rfl⟩)
  · exact .inr h
theorem Rd.keep {a : Addr} {u : HO} (h : Rd H a u) (k : ∀ o, H a = some o → H' a = some o) : Rd H' a u := by
  rcases h with h | ⟨o, h⟩
  · exact .inl (k _ h)
  · exact .inr ⟨o, k _ h⟩
theorem Rd.there {a : Addr} {u : HO} (h : Rd H a u) : ∃ o, H a = some o := by
  rcases h with h | ⟨o, h⟩
  · exact ⟨_, h⟩
  · exact ⟨_, h⟩
mutual
/-- what it leans on stands -/
theorem Rep.keep {v : V} {d : D} {F : List Addr} (r : Rep K mg H Z v d F) (k : ∀ a o, H a = some o → (Z a ∨ a ∈ F ∨ pers o = true) → H' a = some o) : Rep K mg H' Z v d F := by
  cases r with
  | non => exact .non
  | bl => exact .bl
  | int => exact .int
  | str => exact .str
  | ty => exact .ty
  | glo h => exact .glo h
  | tup h t => exact .tup (SqT.keep h fun a o e p => k a o e (.inr (.inr p))) (t.keep k)
  | scr h t => exact .scr (h.keep fun a o e p => k a o e (.inr (.inr p))) (t.keep k)
  | rawF h p z m => exact .rawF (Rd.keep h fun o e => k _ o e (.inl z)) p z (m.keep fun a o e q => k a o e (.inr (.inr q)))
  | rawO h p m => exact .rawO (k _ _ h (.inr (.inl List.mem_cons_self))) p (m.keep fun a o e q => k a o e (.inr (.inr q)))
  | lstF h z t => exact .lstF (k _ _ h (.inl z)) z (t.keep k)
  | lstO h t => exact .lstO (k _ _ h (.inr (.inl List.mem_cons_self))) (t.keep fun a o e q => k a o e (q.imp id fun q => q.imp (List.mem_cons_of_mem _) id))
  | dctF h z e t => exact .dctF (Rd.keep h fun o x => k _ o x (.inl z)) z e (t.keep k)
  | dctO h e t => exact .dctO (k _ _ h (.inr (.inl List.mem_cons_self))) e (t.keep fun a o e q => k a o e (q.imp id fun q => q.imp (List.mem_cons_of_mem _) id))
  | objF h z c e t m => exact .objF (k _ _ h (.inl z)) z c e (t.keep k) (m.keep fun a o e q => k a o e (.inr (.inr q)))
  | exc h z c e n t => exact .exc (k _ _ h (.inl z)) z c (e.imp id fun ⟨dd, q, nz, r, y⟩ => ⟨dd, q, nz, k _ _ r (.inl y), y⟩) n (t.keep k)
  | hole => exact .hole
  | tab b h i j l => exact .tab b (k _ _ h (.inr (.inl List.mem_cons_self))) i j fun c hc => k _ _ (l c hc) (.inr (.inl (List.mem_cons_of_mem _ hc)))
  | objO h c e t m => exact .objO (k _ _ h (.inr (.inl List.mem_cons_self))) c e (t.keep fun a o e q => k a o e (q.imp id fun q => q.imp (List.mem_cons_of_mem _) id)) (m.keep fun a o e q => k a o e (.inr (.inr q)))
theorem Reps.keep {vs : List V} {ds : List D} {F : List Addr} (r : Reps K mg H Z vs ds F) (k : ∀ a o, H a = some o → (Z a ∨ a ∈ F ∨ pers o = true) → H' a = some o) : Reps K mg H' Z vs ds F := by
  cases r with
  | nil => exact .nil
  | cons h t => exact .cons (h.keep fun a o e q => k a o e (q.imp id fun q => q.imp (List.mem_append_left _) id)) (t.keep fun a o e q => k a o e (q.imp id fun q => q.imp (List.mem_append_right _) id))
end
mutual
/-- another place for what is shared: all that is tracked there -/
theorem Rep.other {v : V} {d : D} {F : List Addr} (r : Rep K mg H Z v d F) (k : ∀ a o, H a = some o → Z a → Z' a) : Rep K mg H Z' v d F := by
  cases r with
  | non => exact .non
  | bl => exact .bl
  | int => exact .int
  | str => exact .str
  | ty => exact .ty
  | glo h => exact .glo h
  | tup h t => exact .tup h (t.other k)
  | scr h t => exact .scr h (t.other k)
  | rawF h p z m => exact .rawF h p (let ⟨o, x⟩ := Rd.there h; k _ o x z) m
  | rawO h p m => exact .rawO h p m
  | lstF h z t => exact .lstF h (k _ _ h z) (t.other k)
  | lstO h t => exact .lstO h (t.other k)
  | dctF h z e t => exact .dctF h (let ⟨o, x⟩ := Rd.there h; k _ o x z) e (t.other k)
  | dctO h e t => exact .dctO h e (t.other k)
  | objF h z c e t m => exact .objF h (k _ _ h z) c e (t.other k) m
  | exc h z c e n t => exact .exc h (k _ _ h z) c (e.imp id fun ⟨dd, q, nz, r, y⟩ => ⟨dd, q, nz, r, k _ _ r y⟩) n (t.other k)
  | hole => exact .hole
  | tab b h i j l => exact .tab b h i j l
  | objO h c e t m => exact .objO h c e (t.other k) m
theorem Reps.other {vs : List V} {ds : List D} {F : List Addr} (r : Reps K mg H Z vs ds F) (k : ∀ a o, H a = some o → Z a → Z' a) : Reps K mg H Z' vs ds F := by
  cases r with
  | nil => exact .nil
  | cons h t => exact .cons (h.other k) (t.other k)
end
mutual
/-- frozen -/
theorem Rep.fz {v : V} {d : D} {F : List Addr} (r : Rep K mg H Z v d F) (k : ∀ a, Z a → Z' a) (f : ∀ a ∈ F, Z' a) : Rep K mg H Z' v (DL.fz d) [] := by
  cases r with
  | non => exact .non
  | bl => exact .bl
  | int => exact .int
  | str => exact .str
  | ty => exact .ty
  | glo h => exact .glo h
  | tup h t => exact .tup h (t.fz k f)
  | scr h t => exact .scr h (t.fz k f)
  | rawF h p z m => exact .rawF h p (k _ z) m
  | rawO h p m => exact .rawF (.inl h) p (f _ List.mem_cons_self) m
  | lstF h z t => exact .lstF h (k _ z) (t.fz k f)
  | lstO h t => exact .lstF h (f _ List.mem_cons_self) (t.fz k fun a q => f a (List.mem_cons_of_mem _ q))
  | dctF h z e t => exact .dctF h (k _ z) e (t.fz k f)
  | dctO h e t => exact .dctF (.inl h) (f _ List.mem_cons_self) e (t.fz k fun a q => f a (List.mem_cons_of_mem _ q))
  | objF h z c e t m => exact .objF h (k _ z) c e (t.fz k f) m
  | exc h z c e n t => exact .exc h (k _ z) c (e.imp id fun ⟨dd, q, nz, r, y⟩ => ⟨dd, q, nz, r, k _ y⟩) n (t.fz k f)
  | hole => exact .hole
  | tab b h i j l => exact .hole
  | objO h c e t m => exact .objF h (f _ List.mem_cons_self) c e (t.fz k fun a q => f a (List.mem_cons_of_mem _ q)) m
theorem Reps.fz {vs : List V} {ds : List D} {F : List Addr} (r : Reps K mg H Z vs ds F) (k : ∀ a, Z a → Z' a) (f : ∀ a ∈ F, Z' a) : Reps K mg H Z' vs (DL.fzs ds) [] := by
  cases r with
  | nil => exact .nil
  | cons h t =>
    have := Reps.cons (h.fz k fun a q => f a (List.mem_append_left _ q)) (t.fz k fun a q => f a (List.mem_append_right _ q))
    exact this
end
mutual
theorem Rep.own_nil {v : V} {d : D} {F : List Addr} (r : Rep K mg H Z v d F) (h : isFz d = true) : F = [] := by
  cases r with
  | tup _ t => exact t.own_nil h
  | lstO _ t => simp [isFz] at h
  | dctO _ _ t => simp [isFz] at h
  | objO _ _ _ t _ => simp [isFz] at h
  | rawO _ _ _ => simp [isFz] at h
  | tab _ _ _ _ _ => simp [isFz] at h
  | _ => rfl
theorem Reps.own_nil {vs : List V} {ds : List D} {F : List Addr} (r : Reps K mg H Z vs ds F) (h : isFzs ds = true) : F = [] := by
  cases r with
  | nil => rfl
  | cons q t =>
    simp only [isFzs, Bool.and_eq_true] at h
    rw [q.own_nil h.1, t.own_nil h.2]; rfl
end
mutual
theorem Rep.noal {v : V} {d : D} {F : List Addr} (r : Rep K mg H Z v d F) (h : DL.noal d = true) : Rep K mg H Z' v d F := by
  cases r with
  | non => exact .non
  | bl => exact .bl
  | int => exact .int
  | str => exact .str
  | ty => exact .ty
  | glo q => exact .glo q
  | tup q t => exact .tup q (t.noal h)
  | scr q t => simp [DL.noal] at h
  | rawF q p z m => simp [DL.noal] at h
  | rawO q p m => exact .rawO q p m
  | lstF q z t => simp [DL.noal] at h
  | lstO q t => exact .lstO q (t.noal (by simpa [DL.noal] using h))
  | dctF q z e t => simp [DL.noal] at h
  | dctO q e t => exact .dctO q e (t.noal (by simpa [DL.noal] using h))
  | objF q z c e t m => simp [DL.noal] at h
  | exc q z c e n t => simp [DL.noal] at h
  | hole => simp [DL.noal] at h
  | tab b q i j l => exact .tab b q i j l
  | objO q c e t m => exact .objO q c e (t.noal (by simpa [DL.noal] using h)) m
theorem Reps.noal {vs : List V} {ds : List D} {F : List Addr} (r : Reps K mg H Z vs ds F) (h : DL.noals ds = true) : Reps K mg H Z' vs ds F := by
  cases r with
  | nil => exact .nil
  | cons q t =>
    simp only [DL.noals, Bool.and_eq_true] at h
    exact .cons (q.noal h.1) (t.noal h.2)
end
mutual
/-- what is its own is tracked, and may be changed -/
theorem Rep.own_at {v : V} {d : D} {F : List Addr} (r : Rep K mg H Z v d F) {a : Addr} (h : a ∈ F) : ∃ o, H a = some o ∧ pers o = false := by
  cases r with
  | tup q t => exact t.own_at h
  | lstO q t =>
    (rcases List.mem_cons.mp h with e | e)
    · subst e; exact ⟨_, q, rfl⟩
    · exact t.own_at e
  | dctO q e t =>
    (rcases List.mem_cons.mp h with e | e)
    · subst e; exact ⟨_, q, rfl⟩
    · exact t.own_at e
  | objO q c e t m =>
    (rcases List.mem_cons.mp h with e | e)
    · subst e; exact ⟨_, q, rfl⟩
    · exact t.own_at e
  | rawO q p m =>
    (rcases List.mem_cons.mp h with e | e)
    · subst e; exact ⟨_, q, p⟩
    · cases e
  | tab b q i j l =>
    (rcases List.mem_cons.mp h with e | e)
    · subst e; exact ⟨_, q, rfl⟩
    · exact ⟨_, l a e, rfl⟩
  | _ => cases h
theorem Reps.own_at {vs : List V} {ds : List D} {F : List Addr} (r : Reps K mg H Z vs ds F) {a : Addr} (h : a ∈ F) : ∃ o, H a = some o ∧ pers o = false := by
  cases r with
  | nil => cases h
  | cons q t =>
    rcases List.mem_append.mp h with e | e
    · exact q.own_at e
    · exact t.own_at e
end
theorem Reps.len {vs : List V} {ds : List D} {F : List Addr} (r : Reps K mg H Z vs ds F) : vs.length = ds.length := by
  induction vs generalizing ds F with
  | nil => cases r; rfl
  | cons v vs ih => cases r with
    | cons q t => simp [ih t]
end
abbrev PL := List (V × D)
/-- all pairs, their own parts one behind the other -/
inductive Rps (K : PySem.W.Frag) (mg : Str → Option Value) (H : Hp) (Z : Addr → Prop) : PL → List Addr → Prop
  | nil : Rps K mg H Z [] []
  | cons {v d P F G} : Rep K mg H Z v d F → Rps K mg H Z P G → Rps K mg H Z ((v, d) :: P) (F ++ G)
section
variable {K : PySem.W.Frag} {mg : Str → Option Value} {H H' : Hp} {Z Z' : Addr → Prop} {P Q : PL} {F G : List Addr}
theorem Rps.keep (r : Rps K mg H Z P F) (k : ∀ a o, H a = some o → (Z a ∨ a ∈ F ∨ pers o = true) → H' a = some o) : Rps K mg H' Z P F := by
  induction r with
  | nil => exact .nil
  | cons h _ ih => exact .cons (h.keep fun a o e q => k a o e (q.imp id fun q => q.imp (List.mem_append_left _) id)) (ih fun a o e q => k a o e (q.imp id fun q => q.imp (List.mem_append_right _) id))
theorem Rps.other (r : Rps K mg H Z P F) (k : ∀ a o, H a = some o → Z a → Z' a) : Rps K mg H Z' P F := by
  induction r with
  | nil => exact .nil
  | cons h _ ih => exact .cons (h.other k) ih
def fzP (P : PL) : PL := P.map fun p => (p.1, fz p.2)
theorem Rps.fz (r : Rps K mg H Z P F) (k : ∀ a, Z a → Z' a) (f : ∀ a ∈ F, Z' a) : Rps K mg H Z' (fzP P) [] := by
  induction r with
  | nil => exact .nil
  | cons h _ ih =>
    have := Rps.cons (h.fz k fun a q => f a (List.mem_append_left _ q)) (ih fun a q => f a (List.mem_append_right _ q))
    exact this
theorem Rps.own_at (r : Rps K mg H Z P F) {a : Addr} (h : a ∈ F) : ∃ o, H a = some o ∧ pers o = false := by
  induction r with
  | nil => cases h
  | cons q _ ih =>
    rcases List.mem_append.mp h with e | e
    · exact q.own_at e
    · exact ih e
theorem Rps.append (r : Rps K mg H Z P F) (q : Rps K mg H Z Q G) : Rps K mg H Z (P ++ Q) (F ++ G) := by
  induction r with
  | nil => exact q
  | cons h _ ih => rw [List.append_assoc]; exact .cons h ih
theorem Rps.split : ∀ {P : PL} {F : List Addr}, Rps K mg H Z (P ++ Q) F → ∃ F1 F2, F = F1 ++ F2 ∧ Rps K mg H Z P F1 ∧ Rps K mg H Z Q F2
  | [], F, r => ⟨[], F, rfl, .nil, r⟩
  | p :: P, F, r => by
    cases r with
    | cons h t =>
      obtain ⟨F1, F2, e, a, b⟩ := Rps.split t
      exact ⟨_, F2, by rw [e, List.append_assoc], .cons h a, b⟩
theorem Rps.perm (h : P.Perm Q) : ∀ {F : List Addr}, Rps K mg H Z P F → ∃ G, F.Perm G ∧ Rps K mg H Z Q G := by
  induction h with
  | nil => exact fun r => ⟨_, .refl _, r⟩
  | cons x _ ih =>
    intro F r
    cases r with
    | cons h t =>
      obtain ⟨G, p, t'⟩ := ih t
      exact ⟨_, p.append_left _, .cons h t'⟩
  | swap x y l =>
    intro F r
    cases r with
    | cons h t => cases t with
      | cons h' t' =>
        refine ⟨_, ?_, .cons h' (.cons h t')⟩
        (rw [← List.append_assoc, ← List.append_assoc])
        exact List.perm_append_comm.append_right _
  | trans _ _ ih1 ih2 =>
    intro F r
    obtain ⟨G, p, t⟩ := ih1 r
    obtain ⟨G', p', t'⟩ := ih2 t
    exact ⟨G', p.trans p', t'⟩
theorem Reps.zip {vs : List V} {ds : List D} {F : List Addr} (r : Reps K mg H Z vs ds F) : Rps K mg H Z (vs.zip ds) F := by
  induction vs generalizing ds F with
  | nil => cases r; exact .nil
  | cons v vs ih => cases r with
    | cons q t => exact .cons q (ih t)
theorem Rps.unzip : ∀ {vs : List V} {ds : List D} {F : List Addr}, vs.length = ds.length → Rps K mg H Z (vs.zip ds) F → Reps K mg H Z vs ds F
  | [], [], _, _, r => by cases r; exact .nil
  | [], _ :: _, _, h, _ => by simp at h
  | _ :: _, [], _, h, _ => by simp at h
  | v :: vs, d :: ds, _, h, r => by
    cases r with
    | cons q t => exact .cons q (Rps.unzip (by simpa using h) t)
end
structure Sp (K : PySem.W.Frag) (mg : Str → Option Value) (Z : Addr → Prop) (Hb H : Hp) (P : PL) : Prop where
  ex : ∃ F, Rps K mg H (fun a => Z a ∧ a ∉ F) P F ∧ F.Nodup ∧ ∀ a ∈ F, Hb a = none
  base : ∀ a o, Hb a = some o → H a = some o
  fresh : ∀ a, Hb a = none → Z a
section
variable {K : PySem.W.Frag} {mg : Str → Option Value} {H H' Hb : Hp} {Z Z' : Addr → Prop} {P Q : PL} {F : List Addr} {v w : V} {d t : D} {a p : Addr}
theorem Sp.perm (s : Sp K mg Z Hb H P) (h : P.Perm Q) : Sp K mg Z Hb H Q := by
  obtain ⟨⟨F, r, nd, hb⟩, b, fr⟩ := s
  obtain ⟨G, pm, r'⟩ := r.perm h
  exact ⟨⟨G, r'.other fun a o _ z => ⟨z.1, fun m => z.2 (pm.mem_iff.mpr m)⟩, pm.nodup_iff.mp nd, fun a m => hb a (pm.mem_iff.mpr m)⟩, b, fr⟩
theorem Sp.untr (s : Sp K mg Z Hb H P) (h : H p = Option.none) : Hb p = Option.none := by
  cases e : Hb p with
  | none => rfl
  | some o => rw [s.base _ _ e] at h; cases h
/-- a pair is given up -/
theorem Sp.drop (s : Sp K mg Z Hb H ((v, d) :: P)) : Sp K mg Z Hb H P := by
  obtain ⟨⟨F, r, nd, hb⟩, b, fr⟩ := s
  cases r with
  | cons h t =>
    exact ⟨⟨_, t.other fun a o _ z => ⟨z.1, fun m => z.2 (List.mem_append_right _ m)⟩, (List.nodup_append.mp nd).2.1, fun a m => hb a (List.mem_append_right _ m)⟩, b, fr⟩
theorem Sp.dropL : ∀ {L : PL}, Sp K mg Z Hb H (L ++ P) → Sp K mg Z Hb H P
  | [], s => s
  | _ :: _, s => Sp.dropL s.drop
theorem Sp.dropR {L : PL} (s : Sp K mg Z Hb H (P ++ L)) : Sp K mg Z Hb H P := (s.perm List.perm_append_comm).dropL
/-- a pair that says nothing of the heap's own parts comes -/
theorem Sp.put (s : Sp K mg Z Hb H P) (h : ∀ Y, Rep K mg H Y v d []) : Sp K mg Z Hb H ((v, d) :: P) := by
  obtain ⟨⟨F, r, nd, hb⟩, b, fr⟩ := s
  exact ⟨⟨F, .cons (F := []) (h _) r, nd, hb⟩, b, fr⟩
/-- what is frozen may be had twice -/
theorem Sp.dup (s : Sp K mg Z Hb H ((v, d) :: P)) (h : isFz d = true) : Sp K mg Z Hb H ((v, d) :: (v, d) :: P) := by
  obtain ⟨⟨F, r, nd, hb⟩, b, fr⟩ := s
  refine ⟨⟨F, ?_, nd, hb⟩, b, fr⟩
  cases r with
  | cons q t =>
    have e := q.own_nil h
    subst e
    exact .cons (F := []) q (.cons (F := []) q t)
theorem Sp.freeze (s : Sp K mg Z Hb H ((v, d) :: P)) : Sp K mg Z Hb H ((v, DL.fz d) :: P) := by
  obtain ⟨⟨F, r, nd, hb⟩, b, fr⟩ := s
  cases r with
  | @cons _ _ _ F1 F2 q t =>
    have nd' := List.nodup_append.mp nd
    refine ⟨⟨F2, .cons (F := []) (q.fz (Z' := fun a => Z a ∧ a ∉ F2) (fun a z => ⟨z.1, fun m => z.2 (List.mem_append_right _ m)⟩) fun a m => ⟨fr a (hb a (List.mem_append_left _ m)), fun m' => nd'.2.2 a m a m' rfl⟩)
      (t.other fun a o _ z => ⟨z.1, fun m => z.2 (List.mem_append_right _ m)⟩), nd'.2.1, fun a m => hb a (List.mem_append_right _ m)⟩, b, fr⟩
/-- the heap grows -/
theorem Sp.grow (s : Sp K mg Z Hb H P) (k : ∀ a o, H a = some o → H' a = some o) : Sp K mg Z Hb H' P := by
  obtain ⟨⟨F, r, nd, hb⟩, b, fr⟩ := s
  exact ⟨⟨F, r.keep fun a o e _ => k a o e, nd, hb⟩, fun a o e => k a o (b a o e), fr⟩
theorem grow_upd {o : HO} (h : H p = none) : ∀ a u, H a = some u → upd H p o a = some u := fun a u e => by
  rw [upd_ne (ne_of_none e h)]; exact e
/-- the heap grows by one object, into which pairs at the head go; what they become -/
theorem Sp.new {o : HO} {v : V} {d : D} (s : Sp K mg Z Hb H (Q ++ P)) (hp : H p = none) (f : ∀ Y F, Rps K mg (upd H p o) Y Q F → ∃ F', Rep K mg (upd H p o) Y v d F' ∧ (F' = F ∨ F' = p :: F)) : Sp K mg Z Hb (upd H p o) ((v, d) :: P) := by
  have hbp := s.untr hp
  obtain ⟨⟨F, r, nd, hb⟩, b, fr⟩ := s
  have hpF : p ∉ F := fun m => by
    obtain ⟨o, e, _⟩ := r.own_at m
    rw [hp] at e; cases e
  have b' : ∀ a u, Hb a = some u → upd H p o a = some u := fun a u e => grow_upd hp a u (b a u e)
  have t1 : Rps K mg (upd H p o) (fun a => Z a ∧ a ∉ p :: F) (Q ++ P) F := by
    refine Rps.keep (r.other fun a u e z => ⟨z.1, fun m => ?_⟩) fun a u e _ => grow_upd hp a u e
    rcases List.mem_cons.mp m with m | m
    · subst m; rw [hp] at e; cases e
    · exact z.2 m
  obtain ⟨F1, F2, rfl, r1, r2⟩ := t1.split
  obtain ⟨F', q, e⟩ := f _ F1 r1
  rcases e with rfl | rfl
  · exact ⟨⟨F' ++ F2, (Rps.cons q r2).other fun a _ _ z => ⟨z.1, fun m => z.2 (List.mem_cons_of_mem _ m)⟩, nd, hb⟩, b', fr⟩
  · refine ⟨⟨(p :: F1) ++ F2, .cons q r2, List.nodup_cons.mpr ⟨hpF, nd⟩, fun a m => ?_⟩, b', fr⟩
    rcases List.mem_cons.mp m with m | m
    · subst m; exact hbp
    · exact hb a m
theorem Sp.newL {vs : List V} {ds : List D} (s : Sp K mg Z Hb H (vs.zip ds ++ P)) (hl : vs.length = ds.length) (hp : H p = none) : Sp K mg Z Hb (upd H p (.lst vs)) ((.ref p, .lst true ds) :: P) :=
  s.new hp fun Y F r => ⟨_, .lstO upd_same (r.unzip hl), .inr rfl⟩
theorem Sp.newT {vs : List V} {ds : List D} (s : Sp K mg Z Hb H (vs.zip ds ++ P)) (hl : vs.length = ds.length) (hp : H p = none) : Sp K mg Z Hb (upd H p (.tup vs)) ((.ref p, .tup ds) :: P) :=
  s.new hp fun Y F r => ⟨_, .tup (SqT.of upd_same) (r.unzip hl), .inl rfl⟩
theorem Sp.newK {kvs : List (Key × V)} {ks : List Key} {ds : List D} (s : Sp K mg Z Hb H ((kvs.map (·.2)).zip ds ++ P)) (hl : kvs.length = ds.length) (hk : kvs.map (·.1) = ks ∧ ks.Nodup) (hp : H p = none) : Sp K mg Z Hb (upd H p (.dK kvs)) ((.ref p, .dct true ks ds) :: P) :=
  s.new hp fun Y F r => ⟨_, .dctO upd_same hk (r.unzip (by simpa using hl)), .inr rfl⟩
/-- a tuple is opened -/
theorem Sp.openT {ds : List D} (s : Sp K mg Z Hb H ((v, .tup ds) :: P)) : ∃ a vs, v = .ref a ∧ SqT K H a vs ∧ vs.length = ds.length ∧ Sp K mg Z Hb H (vs.zip ds ++ P) := by
  obtain ⟨⟨F, r, nd, hb⟩, b, fr⟩ := s
  cases r with
  | cons q t => cases q with
    | tup h ts => exact ⟨_, _, rfl, h, ts.len, ⟨_, (ts.zip).append t, nd, hb⟩, b, fr⟩
/-- what is had of a frozen pair -/
theorem Sp.part (s : Sp K mg Z Hb H ((v, d) :: P)) (h : isFz d = true) {w : V} {t : D} (f : ∀ Y, Rep K mg H Y v d [] → Rep K mg H Y w t []) : Sp K mg Z Hb H ((w, t) :: (v, d) :: P) := by
  obtain ⟨⟨F, r, nd, hb⟩, b, fr⟩ := s
  refine ⟨⟨F, ?_, nd, hb⟩, b, fr⟩
  cases r with
  | cons q t' =>
    have e := q.own_nil h
    subst e
    exact .cons (F := []) (f _ q) (.cons (F := []) q t')
theorem Reps.get {Y : Addr → Prop} {vs : List V} {ds : List D} (r : Reps K mg H Y vs ds []) : ∀ {i : Nat} {d : D}, ds[i]? = some d → ∃ v, vs[i]? = some v ∧ Rep K mg H Y v d [] := by
  generalize e : ([] : List Addr) = G at r
  induction vs generalizing ds G with
  | nil => cases r; intro i d h; simp at h
  | cons v vs ih => cases r with
    | @cons _ _ d0 ds0 F1 F2 q t =>
      obtain ⟨e1, e2⟩ := List.append_eq_nil_iff.mp e.symm
      subst e1 e2
      intro i d h
      cases i with
      | zero =>
        have e : d0 = d := by simpa using h
        subst e
        exact ⟨v, rfl, q⟩
      | succ i => exact ih [] rfl t (i := i) (by simpa using h)
/-- the state of a def that is called, what is handed to it at the head -/
theorem Sp.lend (s : Sp K mg Z Hb H (Q ++ P)) : ∃ Z' Hc, Sp K mg Z' Hc H Q ∧ ∀ H' Q', Sp K mg Z' Hc H' Q' → Sp K mg Z Hb H' (Q' ++ P) := by
  obtain ⟨⟨F, r, nd, hb⟩, b, fr⟩ := s
  obtain ⟨F1, F2, rfl, r1, r2⟩ := r.split
  have nd' := List.nodup_append.mp nd
  have t1 : ∀ a, a ∈ F1 → ∃ o, H a = some o ∧ pers o = false := fun a m => r1.own_at m
  have t2 : ∀ a, a ∈ F2 → ∃ o, H a = some o ∧ pers o = false := fun a m => r2.own_at m
  classical
  refine ⟨fun a => Z a ∧ a ∉ F2, fun a => if a ∈ F1 then none else H a, ⟨⟨F1, r1.other fun a _ _ z => ⟨⟨z.1, fun m => z.2 (List.mem_append_right _ m)⟩, fun m => z.2 (List.mem_append_left _ m)⟩, nd'.1, fun a m => if_pos m⟩, fun a o e => ?_, fun a e => ?_⟩, fun H' Q' s' => ?_⟩
  · by_cases m : a ∈ F1
    · rw [if_pos m] at e; cases e
    · rw [if_neg m] at e; exact e
  · by_cases m : a ∈ F1
    · exact ⟨fr a (hb a (List.mem_append_left _ m)), fun m' => nd'.2.2 a m a m' rfl⟩
    · rw [if_neg m] at e
      refine ⟨fr a ?_, fun m' => ?_⟩
      · cases q : Hb a with
        | none => rfl
        | some o => rw [b a o q] at e; cases e
      · obtain ⟨o, q, _⟩ := t2 a m'
        rw [q] at e; cases e
  · obtain ⟨⟨G, q, ndG, hG⟩, bG, fG⟩ := s'
    -- what stands outside of F1 stands
    have st : ∀ a o, a ∉ F1 → H a = some o → H' a = some o := fun a o m e => bG a o (by rw [if_neg m]; exact e)
    have gF : ∀ a, a ∈ G → a ∈ F1 ∨ H a = none := fun a m => by
      have := hG a m
      by_cases m' : a ∈ F1
      · exact .inl m'
      · rw [if_neg m'] at this; exact .inr this
    have dis : ∀ a, a ∈ G → a ∉ F2 := fun a m m' => by
      rcases gF a m with h | h
      · exact nd'.2.2 a h a m' rfl
      · obtain ⟨o, e, _⟩ := t2 a m'
        rw [e] at h; cases h
    refine ⟨⟨G ++ F2, Rps.append (q.other fun a o _ z => ⟨z.1.1, fun m => ?_⟩) ?_, List.nodup_append.mpr ⟨ndG, nd'.2.1, fun a m c m' e => dis a m (e ▸ m')⟩, fun a m => ?_⟩, fun a o e => ?_, fr⟩
    · rcases List.mem_append.mp m with m | m
      · exact z.2 m
      · exact z.1.2 m
    · refine Rps.other (Z := fun a => (Z a ∧ a ∉ G ++ F2) ∧ a ∉ F1) (Rps.keep (r2.other fun a o e z => ⟨⟨z.1, fun m => ?_⟩, fun m => z.2 (List.mem_append_left _ m)⟩) fun a o e z => ?_) fun a o _ z => z.1
      · rcases List.mem_append.mp m with m | m
        · rcases gF a m with h | h
          · exact z.2 (List.mem_append_left _ h)
          · rw [e] at h; cases h
        · exact z.2 (List.mem_append_right _ m)
      · refine st a o (fun m => ?_) e
        obtain ⟨u, e', p'⟩ := t1 a m
        rw [e] at e'; cases e'
        rcases z with z | z | z
        · exact z.2 m
        · exact nd'.2.2 a m a z rfl
        · rw [z] at p'; cases p'
    · rcases List.mem_append.mp m with m | m
      · rcases gF a m with h | h
        · exact hb a (List.mem_append_left _ h)
        · cases q' : Hb a with
          | none => rfl
          | some o => rw [b a o q'] at h; cases h
      · exact hb a (List.mem_append_right _ m)
    · by_cases m : a ∈ F1
      · rw [hb a (List.mem_append_left _ m)] at e; cases e
      · exact st a o m (b a o e)
/-- the object of an own part changes: what it holds is put together anew out of pairs that stand -/
theorem Sp.mut {o' : HO} {a : Addr} {d d' : D} {R G : PL} (s : Sp K mg Z Hb H ((.ref a, d) :: P))
    (op : ∀ Y F, Rep K mg H Y (.ref a) d F → ∃ F' R', F = a :: F' ∧ Rps K mg H Y R' F' ∧ R = R')
    (pm : (R ++ P).Perm (Q ++ G)) (cl : ∀ Y F, Rps K mg (upd H a o') Y Q F → Rep K mg (upd H a o') Y (.ref a) d' (a :: F)) : Sp K mg Z Hb (upd H a o') ((.ref a, d') :: G) := by
  obtain ⟨⟨F, r, nd, hb⟩, b, fr⟩ := s
  cases r with
  | @cons _ _ _ F1 F2 q t =>
    obtain ⟨F', R', rfl, qs, rfl⟩ := op _ _ q
    have nda : a ∉ F' ++ F2 := (List.nodup_cons.mp (by simpa using nd)).1
    have ndr : (F' ++ F2).Nodup := (List.nodup_cons.mp (by simpa using nd)).2
    obtain ⟨o, ho, hp⟩ := q.own_at (a := a) List.mem_cons_self
    have all := qs.append t
    obtain ⟨F3, pF, all'⟩ := all.perm pm
    have all2 : Rps K mg (upd H a o') (fun b => Z b ∧ b ∉ a :: F3) (Q ++ G) F3 := by
      refine Rps.keep (all'.other (Z' := fun b => Z b ∧ b ∉ a :: F3) fun c u _ z => ⟨z.1, fun m => ?_⟩) fun c u e z => ?_
      · rcases List.mem_cons.mp m with m | m
        · subst m; exact z.2 (by simp)
        · have := pF.mem_iff.mpr m
          exact z.2 (by simpa using Or.inr (List.mem_append.mp this))
      · have ne : c ≠ a := fun e' => by
          subst e'
          rcases z with z | z | z
          · exact z.2 List.mem_cons_self
          · exact nda (pF.mem_iff.mpr z)
          · rw [ho] at e; cases e; rw [hp] at z; cases z
        rw [upd_ne ne]; exact e
    obtain ⟨F4, F5, rfl, r4, r5⟩ := all2.split
    have hba : Hb a = none := hb a (by simp)
    refine ⟨⟨(a :: F4) ++ F5, .cons (cl _ _ r4) r5, ?_, fun c m => ?_⟩, fun c u e => ?_, fr⟩
    · exact List.nodup_cons.mpr ⟨fun m => nda (pF.mem_iff.mpr m), pF.nodup_iff.mp ndr⟩
    · rcases List.mem_cons.mp m with m | m
      · subst m; exact hba
      · exact hb c (by
          have := pF.mem_iff.mpr m
          simpa using Or.inr (List.mem_append.mp this))
    · have ne : c ≠ a := fun e' => by subst e'; rw [hba] at e; cases e
      rw [upd_ne ne]; exact b c u e
theorem Sp.mutL {ds : List D} {a : Addr} (s : Sp K mg Z Hb H ((.ref a, .lst true ds) :: P)) : ∃ vs, H a = some (.lst vs) ∧ vs.length = ds.length ∧
    ∀ vs' ds' G, vs'.length = ds'.length → (vs.zip ds ++ P).Perm (vs'.zip ds' ++ G) → Sp K mg Z Hb (upd H a (.lst vs')) ((.ref a, .lst true ds') :: G) := by
  have s0 := s
  obtain ⟨⟨F, r, nd, hb⟩, b, fr⟩ := s
  cases r with
  | cons q t => cases q with
    | @lstO _ vs _ F h ts =>
      refine ⟨vs, h, ts.len, fun vs' ds' G hl pm => s0.mut (R := vs.zip ds) (Q := vs'.zip ds') (fun Y F q => ?_) pm fun Y F r => .lstO upd_same (r.unzip hl)⟩
      cases q with
      | lstO h' t' =>
        have e := h.symm.trans h'
        cases e
        exact ⟨_, _, rfl, t'.zip, rfl⟩
theorem Sp.mutK {ks : List Key} {ds : List D} {a : Addr} (s : Sp K mg Z Hb H ((.ref a, .dct true ks ds) :: P)) : ∃ kvs, H a = some (.dK kvs) ∧ (kvs.map (·.1) = ks ∧ ks.Nodup) ∧ kvs.length = ds.length ∧
    ∀ kvs' ds' G, kvs'.length = ds'.length → (kvs'.map (·.1)).Nodup → ((kvs.map (·.2)).zip ds ++ P).Perm ((kvs'.map (·.2)).zip ds' ++ G) → Sp K mg Z Hb (upd H a (.dK kvs')) ((.ref a, .dct true (kvs'.map (·.1)) ds') :: G) := by
  have s0 := s
  obtain ⟨⟨F, r, nd, hb⟩, b, fr⟩ := s
  cases r with
  | cons q t => cases q with
    | @dctO _ kvs _ _ F h e ts =>
      refine ⟨kvs, h, e, by simpa using ts.len, fun vs' ds' G hl hnd pm => s0.mut (R := (kvs.map (·.2)).zip ds) (Q := (vs'.map (·.2)).zip ds') (fun Y F q => ?_) pm fun Y F r => .dctO upd_same ⟨rfl, hnd⟩ (r.unzip (by simpa using hl))⟩
      cases q with
      | dctO h' e' t' =>
        have e := h.symm.trans h'
        cases e
        exact ⟨_, _, rfl, t'.zip, rfl⟩
/-- an expression is reckoned over frozen pairs A; then A stands as it stood, if what came shares nothing; else frozen -/
theorem Sp.pure {A : PL} (s : Sp K mg Z Hb H (A ++ P)) : ∃ Z', Sp K mg Z' H H (fzP A) ∧ ∀ H' v d B, Sp K mg Z' H H' ((v, d) :: B) →
    (noal d = true → Sp K mg Z Hb H' ((v, d) :: (A ++ P))) ∧ Sp K mg Z Hb H' ((v, d) :: (fzP A ++ P)) := by
  have s0 := s
  obtain ⟨⟨F, r, nd, hb⟩, b, fr⟩ := s
  obtain ⟨F1, F2, rfl, r1, r2⟩ := r.split
  have nd' := List.nodup_append.mp nd
  have t2 : ∀ a, a ∈ F2 → ∃ o, H a = some o ∧ pers o = false := fun a m => r2.own_at m
  have untr : ∀ a, H a = none → Hb a = none := fun a e => by
    cases q : Hb a with
    | none => rfl
    | some o => rw [b a o q] at e; cases e
  have f1 : Rps K mg H (fun a => Z a ∧ a ∉ F2) (fzP A) [] := r1.fz (fun a z => ⟨z.1, fun m => z.2 (List.mem_append_right _ m)⟩) fun a m => ⟨fr a (hb a (List.mem_append_left _ m)), fun m' => nd'.2.2 a m a m' rfl⟩
  refine ⟨fun a => Z a ∧ a ∉ F2, ⟨⟨[], f1.other fun a _ _ z => ⟨z, by simp⟩, List.nodup_nil, fun a m => by cases m⟩, fun _ _ e => e, fun a e => ⟨fr a (untr a e), fun m => ?_⟩⟩, fun H' v d B s' => ?_⟩
  · obtain ⟨o, q, _⟩ := t2 a m
    rw [q] at e; cases e
  · obtain ⟨⟨G, q, ndG, hG⟩, bG, fG⟩ := s'
    cases q with
    | @cons _ _ _ Fd FB q tB =>
      have ndd := (List.nodup_append.mp ndG).1
      have hd : ∀ a ∈ Fd, H a = none := fun a m => hG a (List.mem_append_left _ m)
      have notd : ∀ a o, H a = some o → a ∉ Fd := fun a o e m => by rw [hd a m] at e; cases e
      have b' : ∀ a o, Hb a = some o → H' a = some o := fun a o e => bG a o (b a o e)
      refine ⟨fun hn => ⟨⟨Fd ++ (F1 ++ F2), .cons (q.noal hn) (Rps.keep (r.other fun a o e z => ⟨z.1, fun m => ?_⟩) fun a o e _ => bG a o e), ?_, fun a m => ?_⟩, b', fr⟩,
        ⟨⟨Fd ++ F2, .cons (q.other fun a o _ z => ⟨z.1.1, fun m => ?_⟩) (Rps.append (F := []) (Rps.keep (f1.other (Z' := fun a => Z a ∧ a ∉ Fd ++ F2) fun a o e z => ⟨z.1, fun m => ?_⟩) fun a o e _ => bG a o e) (Rps.keep (r2.other fun a o e z => ⟨z.1, fun m => ?_⟩) fun a o e _ => bG a o e)), ?_, fun a m => ?_⟩, b', fr⟩⟩
      · rcases List.mem_append.mp m with m | m
        · exact notd a o e m
        · exact z.2 m
      · exact List.nodup_append.mpr ⟨ndd, nd, fun a m c m' e => by
          subst e
          have : ∃ o, H a = some o := by
            rcases List.mem_append.mp m' with m' | m'
            · obtain ⟨o, q, _⟩ := r1.own_at m'; exact ⟨o, q⟩
            · obtain ⟨o, q, _⟩ := t2 a m'; exact ⟨o, q⟩
          obtain ⟨o, e⟩ := this
          exact notd a o e m⟩
      · rcases List.mem_append.mp m with m | m
        · exact untr a (hd a m)
        · exact hb a m
      · rcases List.mem_append.mp m with m | m
        · exact z.2 (List.mem_append_left _ m)
        · exact z.1.2 m
      · rcases List.mem_append.mp m with m | m
        · exact notd a o e m
        · exact z.2 m
      · rcases List.mem_append.mp m with m | m
        · exact notd a o e m
        · exact z.2 (List.mem_append_right _ m)
      · exact List.nodup_append.mpr ⟨ndd, nd'.2.1, fun a m c m' e => by
          subst e
          obtain ⟨o, q, _⟩ := t2 a m'
          exact notd a o q m⟩
      · rcases List.mem_append.mp m with m | m
        · exact untr a (hd a m)
        · exact hb a (List.mem_append_right _ m)
abbrev Env := List (Option D)
def prs : L2.St → Env → PL
  | some v :: σ, some d :: δ => (v, d) :: prs σ δ
  | _ :: σ, _ :: δ => prs σ δ
  | _, _ => []
/-- each slot that has a tree has a value -/
def Dom (σ : L2.St) (δ : Env) : Prop := σ.length = δ.length ∧ ∀ (i : Nat) (d : D), δ[i]? = some (some d) → ∃ v, σ[i]? = some (some v)
theorem prs_none : ∀ {σ : L2.St} {δ : Env} {i : Nat} (x : Option V), prs (σ.set i x) (δ.set i none) = prs σ (δ.set i none)
  | [], δ, i, x => by simp [prs]
  | s :: σ, [], i, x => by cases i <;> cases x <;> cases s <;> simp [prs]
  | s :: σ, d :: δ, 0, x => by cases x <;> cases s <;> simp [prs]
  | s :: σ, d :: δ, i + 1, x => by cases s <;> cases d <;> simp [prs, prs_none x]
theorem prs_get : ∀ {σ : L2.St} {δ : Env} {i : Nat} {v : V} {d : D}, σ[i]? = some (some v) → δ[i]? = some (some d) → (prs σ δ).Perm ((v, d) :: prs σ (δ.set i none))
  | [], _, i, v, d, h, _ => by simp at h
  | _ :: _, [], i, v, d, _, h => by simp at h
  | s :: σ, e :: δ, 0, v, d, h, h' => by
    have h1 : s = some v := by simpa using h
    have h2 : e = some d := by simpa using h'
    subst h1 h2
    simp [prs]
  | s :: σ, e :: δ, i + 1, v, d, h, h' => by
    have ih := prs_get (σ := σ) (δ := δ) (i := i) (v := v) (d := d) (by simpa using h) (by simpa using h')
    cases s with
    | none => cases e <;> simpa [prs] using ih
    | some x => cases e with
      | none => simpa [prs] using ih
      | some y =>
        simp only [List.set_cons_succ, prs]
        exact (ih.cons _).trans (.swap _ _ _)
theorem prs_set {σ : L2.St} {δ : Env} {i : Nat} {v : V} {d : D} (h : i < σ.length) (hl : σ.length = δ.length) : (prs (σ.set i (some v)) (δ.set i (some d))).Perm ((v, d) :: prs σ (δ.set i none)) := by
  have p := prs_get (σ := σ.set i (some v)) (δ := δ.set i (some d)) (i := i) (v := v) (d := d) (by simp [h]) (by rw [List.getElem?_set_self (by omega)])
  rw [List.set_set, prs_none] at p
  exact p
theorem Dom.set {σ : L2.St} {δ : Env} (h : Dom σ δ) (i : Nat) (v : V) (d : Option D) : Dom (σ.set i (some v)) (δ.set i d) := by
  refine ⟨by simp [h.1], fun j e q => ?_⟩
  rw [List.getElem?_set] at q ⊢
  by_cases hij : i = j
  · subst hij
    rw [if_pos rfl] at q ⊢
    by_cases hl : i < δ.length
    · rw [if_pos (by rw [h.1]; exact hl)]; exact ⟨v, rfl⟩
    · rw [if_neg hl] at q; cases q
  · rw [if_neg hij] at q ⊢
    exact h.2 j e q
/-- a slot's tree changes, or goes -/
theorem Dom.setD {σ : L2.St} {δ : Env} (h : Dom σ δ) {i : Nat} {d0 : D} (hi : δ[i]? = some (some d0)) (d : Option D) : Dom σ (δ.set i d) := by
  refine ⟨by simp [h.1], fun j e q => ?_⟩
  rw [List.getElem?_set] at q
  by_cases hij : i = j
  · subst hij; exact h.2 _ _ hi
  · rw [if_neg hij] at q
    exact h.2 j e q
theorem Dom.drop {σ : L2.St} {δ : Env} (h : Dom σ δ) (i : Nat) : Dom σ (δ.set i none) := by
  refine ⟨by simp [h.1], fun j e q => ?_⟩
  rw [List.getElem?_set] at q
  by_cases hij : i = j
  · subst hij
    rw [if_pos rfl] at q
    by_cases hl : i < δ.length
    · rw [if_pos hl] at q; cases q
    · rw [if_neg hl] at q; cases q
  · rw [if_neg hij] at q
    exact h.2 j e q
end
end DL
set_option Elab.async false
set_option linter.all false
set_option maxRecDepth 100000
set_option maxHeartbeats 4000001
namespace DL
open PySem L2
section
variable (X : Cx)
def wE (e : Expr) : TE := fun σ H Q => ∀ pins s, Inv X pins σ H s → wpAny (model X.prog X.w) X.A (eval e X.env) (EP X pins σ Q) X.xe s
def wT (e : Expr) : TT := fun σ H Q => ∀ pins s, Inv X pins σ H s → wpAny (model X.prog X.w) X.A (isTrue e X.env (eval e X.env)) (TP X pins σ Q) X.xe s
def wW (e : Expr) : TT := fun σ H Q => ∀ whole pins s, Inv X pins σ H s → wpAny (model X.prog X.w) X.A (isTrue e X.env whole) (TP X pins σ Q) X.xe s
def wA (es : List Expr) : TA := fun σ H Q => ∀ pos pins s, Inv X pins σ H s → wpAny (model X.prog X.w) X.A (spliced (backTo pos (starEach es X.env))) (AP X pins σ Q) X.xe s
def wS (st : Stmt) : TS := fun D σ H => ∀ pins s, Inv X pins σ H s → wpAny (model X.prog X.w) X.A (exec st X.env) (SP X pins D) X.xe s
def wSs (st : List Stmt) : TS := fun D σ H => ∀ pins s, Inv X pins σ H s → wpAny (model X.prog X.w) X.A (execs st X.env) (SP X pins D) X.xe s
def wG (tg : Expr) : TG := fun v σ H Q => ∀ pins s u, Inv X pins σ H s → RelV v u → wpAny (model X.prog X.w) X.A (assign tg X.env u) (fun _ s' => ∃ σ' H', Inv X pins σ' H' s' ∧ Q σ' H') X.xe s
def wGs (ts : List Expr) : TGs := fun vs σ H Q => ∀ pins s us, Inv X pins σ H s → Vals vs us → wpAny (model X.prog X.w) X.A (assignInOrder ((assignEach ts X.env).map (·.2)) us) (fun _ s' => ∃ σ' H', Inv X pins σ' H' s' ∧ Q σ' H') X.xe s
def wI (tg iter : Expr) : TI := fun σ H R => ∀ pins s, Inv X pins σ H s → wpAny (model X.prog X.w) X.A (eval iter X.env) (fun v s1 => wpAny (model X.prog X.w) X.A (pyIter v) (PIE X pins σ tg R) X.xe s1) X.xe s
def wR (f : Value → Value → Sem Value) : R2 := fun x y H Q => ∀ pins s σ u v, Inv X pins σ H s → RelV x u → RelV y v → wpAny (model X.prog X.w) X.A (f u v) (EP X pins σ Q) X.xe s
def wC (f : Value) : List V → Hp → VK → Prop := fun xs H Q => ∀ pins s σ us, Inv X pins σ H s → Vals xs us → wpAny (model X.prog X.w) X.A (call f us) (EP X pins σ Q) X.xe s
end
section
variable {X : Cx} {e : Expr} {es : List Expr} {st : Stmt} {sts : List Stmt} {tg iter : Expr}
theorem pe_w : PE X e (wE X e) := ⟨fun pins s σ H Q I h => h pins s I⟩
theorem pt_w : PT X e (wT X e) := ⟨fun pins s σ H Q I h => h pins s I⟩
theorem pw_w : PW X e (wW X e) := ⟨fun w pins s σ H Q I h => h w pins s I⟩
theorem pa_w : PA X es (wA X es) := ⟨fun pos pins s σ H Q I h => h pos pins s I⟩
theorem ps_w : PS X st (wS X st) := ⟨fun pins s σ H Q I h => h pins s I⟩
theorem pss_w : PSs X sts (wSs X sts) := ⟨fun pins s σ H Q I h => h pins s I⟩
theorem pg_w : PG X tg (wG X tg) := ⟨fun pins s σ H v u Q I r h => h pins s u I r⟩
theorem pgs_w : PGs X es (wGs X es) := ⟨fun pins s σ H v u Q I r h => h pins s u I r⟩
theorem pi_w : PI X tg iter (wI X tg iter) := ⟨fun pins s σ H R I h => h pins s I⟩
theorem opr_w {f : Value → Value → Sem Value} : OpR X f (wR X f) := fun pins s σ H x y v u Q I r1 r2 h => h pins s σ v u I r1 r2
theorem callr_w {f : Value} : CallR X f (wC X f) := fun pins s σ H xs us Q I r h => h pins s σ us I r
theorem wE_of {t : TE} (h : PE X e t) {σ : L2.St} {H : Hp} {Q : VK} (q : t σ H Q) : wE X e σ H Q := fun pins s I => h.run pins s σ H Q I q
theorem wT_of {t : TT} (h : PT X e t) {σ : L2.St} {H : Hp} {Q : Bool → Hp → Prop} (q : t σ H Q) : wT X e σ H Q := fun pins s I => h.run pins s σ H Q I q
theorem wW_of {t : TT} (h : PW X e t) {σ : L2.St} {H : Hp} {Q : Bool → Hp → Prop} (q : t σ H Q) : wW X e σ H Q := fun w pins s I => h.run w pins s σ H Q I q
theorem wA_of {t : TA} (h : PA X es t) {σ : L2.St} {H : Hp} {Q : List V → Hp → Prop} (q : t σ H Q) : wA X es σ H Q := fun pos pins s I => h.run pos pins s σ H Q I q
theorem wS_of {t : TS} (h : PS X st t) {σ : L2.St} {H : Hp} {D : Ends} (q : t D σ H) : wS X st D σ H := fun pins s I => h.run pins s σ H D I q
theorem wSs_of {t : TS} (h : PSs X sts t) {σ : L2.St} {H : Hp} {D : Ends} (q : t D σ H) : wSs X sts D σ H := fun pins s I => h.run pins s σ H D I q
theorem wG_of {t : TG} (h : PG X tg t) {v : V} {σ : L2.St} {H : Hp} {Q : L2.St → Hp → Prop} (q : t v σ H Q) : wG X tg v σ H Q := fun pins s u I r => h.run pins s σ H v u Q I r q
theorem wGs_of {t : TGs} (h : PGs X es t) {vs : List V} {σ : L2.St} {H : Hp} {Q : L2.St → Hp → Prop} (q : t vs σ H Q) : wGs X es vs σ H Q := fun pins s u I r => h.run pins s σ H vs u Q I r q
theorem wI_of {t : TI} (h : PI X tg iter t) {σ : L2.St} {H : Hp} {R : It → Hp → Prop} (q : t σ H R) : wI X tg iter σ H R := fun pins s I => h.run pins s σ H R I q
theorem wR_of {f : Value → Value → Sem Value} {r : R2} (h : OpR X f r) {x y : V} {H : Hp} {Q : VK} (q : r x y H Q) : wR X f x y H Q := fun pins s σ u v I r1 r2 => h pins s σ H x y u v Q I r1 r2 q
theorem wC_of {f : Value} {r : List V → Hp → VK → Prop} (h : CallR X f r) {xs : List V} {H : Hp} {Q : VK} (q : r xs H Q) : wC X f xs H Q := fun pins s σ us I r1 => h pins s σ H xs us Q I r1 q
end
/-- the state: temporary pairs L, and the slots -/
structure Sq (X : Cx) (Z : Addr → Prop) (Hb H : Hp) (σ : L2.St) (δ : Env) (L : PL) : Prop where
  sp : Sp X.K X.mg Z Hb H (L ++ prs σ δ)
  dom : Dom σ δ
abbrev ME := Env → Option (D × Env)
abbrev MT := Env → Option (Bool × Env)
def IG (X : Cx) (e : Expr) (m : ME) : Prop := ∀ {Z : Addr → Prop} {Hb H : Hp} {σ : L2.St} {δ : Env} {L : PL} {d : D} {δ' : Env}, Sq X Z Hb H σ δ L → m δ = some (d, δ') →
  ∀ Q : VK, (∀ v H', Sq X Z Hb H' σ δ' ((v, d) :: L) → Q v H') → wE X e σ H Q
def IT (X : Cx) (e : Expr) (m : MT) : Prop := ∀ {Z : Addr → Prop} {Hb H : Hp} {σ : L2.St} {δ : Env} {L : PL} {b : Bool} {δ' : Env}, Sq X Z Hb H σ δ L → m δ = some (b, δ') →
  ∀ Q : Bool → Hp → Prop, (∀ H', Sq X Z Hb H' σ δ' L → Q b H') → wT X e σ H Q
def IW (X : Cx) (e : Expr) (m : MT) : Prop := ∀ {Z : Addr → Prop} {Hb H : Hp} {σ : L2.St} {δ : Env} {L : PL} {b : Bool} {δ' : Env}, Sq X Z Hb H σ δ L → m δ = some (b, δ') →
  ∀ Q : Bool → Hp → Prop, (∀ H', Sq X Z Hb H' σ δ' L → Q b H') → wW X e σ H Q
section
variable {X : Cx} {Z : Addr → Prop} {Hb H H' : Hp} {σ : L2.St} {δ δ' : Env} {L : PL} {v : V} {d : D}
theorem Sq.put (s : Sq X Z Hb H σ δ L) (h : ∀ Y, Rep X.K X.mg H Y v d []) : Sq X Z Hb H σ δ ((v, d) :: L) := ⟨s.sp.put h, s.dom⟩
theorem Sq.drop (s : Sq X Z Hb H σ δ ((v, d) :: L)) : Sq X Z Hb H σ δ L := ⟨Sp.drop s.sp, s.dom⟩
end
def mVar (i : Nat) : ME := fun δ => match δ[i]? with
  | some (some d) => if isFz d then some (d, δ) else some (fz d, δ.set i (some (fz d)))
  | _ => none
/-- a name that is not asked any more -/
def mMv (i : Nat) : ME := fun δ => match δ[i]? with
  | some (some d) => some (d, δ.set i none)
  | _ => none
def mC (d : D) : ME := fun δ => some (d, δ)
section
variable {X : Cx}
theorem prs_back {σ : L2.St} {δ : Env} {i : Nat} {v : V} {d d' : D} (h : σ[i]? = some (some v)) (h' : δ[i]? = some (some d)) : (prs σ (δ.set i (some d'))).Perm ((v, d') :: prs σ (δ.set i none)) := by
  have p := prs_get (σ := σ) (δ := δ.set i (some d')) (i := i) (v := v) (d := d') h (by
    rw [List.getElem?_set_self]
    exact (List.getElem?_eq_some_iff.mp h').1)
  rw [List.set_set] at p
  exact p
theorem ig_var {x : Str} {pos : Pos} (i : Nat) (hp : PE X (.Name x pos) (tVar i)) : IG X (.Name x pos) (mVar i) := by
  intro Z Hb H σ δ L d δ' s e Q q
  unfold mVar at e
  split at e
  · rename_i d0 hd
    obtain ⟨v, hv⟩ := s.dom.2 i d0 hd
    refine wE_of hp ⟨v, hv, q v H ?_⟩
    have pm := prs_get hv hd
    have s1 : Sp X.K X.mg Z Hb H ((v, d0) :: (L ++ prs σ (δ.set i none))) := s.sp.perm ((pm.append_left L).trans List.perm_middle)
    split at e
    · rename_i hf
      cases e
      exact ⟨(s1.dup hf).perm (((pm.append_left L).trans List.perm_middle).symm.cons _), s.dom⟩
    · cases e
      have s2 := s1.freeze.dup (isFz_fz d0)
      refine ⟨s2.perm (((((prs_back hv hd).append_left L).trans List.perm_middle).symm).cons _), s.dom.setD hd _⟩
  · cases e
theorem ig_mv {x : Str} {pos : Pos} (i : Nat) (hp : PE X (.Name x pos) (tVar i)) : IG X (.Name x pos) (mMv i) := by
  intro Z Hb H σ δ L d δ' s e Q q
  unfold mMv at e
  split at e
  · rename_i d0 hd
    obtain ⟨v, hv⟩ := s.dom.2 i d0 hd
    cases e
    exact wE_of hp ⟨v, hv, q v H ⟨s.sp.perm (((prs_get hv hd).append_left L).trans List.perm_middle), s.dom.drop i⟩⟩
  · cases e
/-- a constant of the text -/
theorem ig_c {e : Expr} {v : V} {d : D} (hp : PE X e (tC v)) (r : ∀ H Y, Rep X.K X.mg H Y v d []) : IG X e (mC d) := by
  intro Z Hb H σ δ L d δ' s e Q q
  cases e
  exact wE_of hp (q v H (s.put (r H)))
theorem ig_int {i j pos} : IG X (.Constant (.int i) j pos) (mC (.int i)) := ig_c pe_int fun _ _ => .int
theorem ig_bl {i j pos} : IG X (.Constant (.bool i) j pos) (mC (.bl i)) := ig_c pe_bl fun _ _ => .bl
theorem ig_non {j pos} : IG X (.Constant .none j pos) (mC .non) := ig_c pe_non fun _ _ => .non
theorem ig_str {i j pos} : IG X (.Constant (.str i) j pos) (mC (.str i)) := ig_c pe_str fun _ _ => .str
end
def keepM : List Bool → Env → Env
  | true :: m, d :: δ => d :: keepM m δ
  | false :: m, _ :: δ => none :: keepM m δ
  | [], _ :: δ => none :: keepM [] δ
  | _, [] => []
def restM : List Bool → Env → Env
  | true :: m, _ :: δ => none :: restM m δ
  | false :: m, d :: δ => d :: restM m δ
  | [], δ => δ
  | _, [] => []
def fzM : List Bool → Env → Env
  | true :: m, d :: δ => d.map fz :: fzM m δ
  | false :: m, d :: δ => d :: fzM m δ
  | [], δ => δ
  | _, [] => []
def fzE (δ : Env) : Env := δ.map fun d => d.map fz
def purT (m : List Bool) (f : MT) : MT := fun δ => match f (fzE (keepM m δ)) with
  | some (b, _) => some (b, δ)
  | none => none
theorem prs_nil {σ : L2.St} : prs σ [] = [] := by cases σ with
  | nil => rfl
  | cons s _ => cases s <;> rfl
theorem prs_nones : ∀ {σ : L2.St} {δ : Env}, prs σ (keepM [] δ) = []
  | [], δ => by cases δ <;> rfl
  | s :: σ, [] => by cases s <;> rfl
  | s :: σ, d :: δ => by cases s <;> simp [keepM, prs, prs_nones]
theorem prs_split : ∀ (m : List Bool) (σ : L2.St) (δ : Env), (prs σ δ).Perm (prs σ (keepM m δ) ++ prs σ (restM m δ))
  | m, [], δ => by simp [prs]
  | m, s :: σ, [] => by cases m <;> simp [keepM, restM, prs_nil]
  | [], s :: σ, d :: δ => by
    rw [prs_nones]
    simp [restM]
  | true :: m, s :: σ, d :: δ => by
    have ih := prs_split m σ δ
    cases s <;> cases d <;> simp [keepM, restM, prs, ih]
  | false :: m, s :: σ, d :: δ => by
    have ih := prs_split m σ δ
    cases s with
    | none => cases d <;> simpa [keepM, restM, prs] using ih
    | some v => cases d with
      | none => simpa [keepM, restM, prs] using ih
      | some y =>
        simp only [keepM, restM, prs]
        exact (ih.cons _).trans List.perm_middle.symm
theorem prs_fzE : ∀ (σ : L2.St) (δ : Env), prs σ (fzE δ) = fzP (prs σ δ)
  | [], δ => by cases δ <;> rfl
  | s :: σ, [] => by rw [fzE, List.map_nil, prs_nil]; rfl
  | s :: σ, d :: δ => by
    have ih := prs_fzE σ δ
    unfold fzE at ih
    cases s <;> cases d <;> simp [fzE, prs, fzP, ih]
theorem prs_fzM : ∀ (m : List Bool) (σ : L2.St) (δ : Env), (prs σ (fzM m δ)).Perm (fzP (prs σ (keepM m δ)) ++ prs σ (restM m δ))
  | m, [], δ => by simp [prs, fzP]
  | m, s :: σ, [] => by cases m <;> simp [keepM, restM, fzM, prs_nil, fzP]
  | [], s :: σ, d :: δ => by
    rw [prs_nones]
    simp [restM, fzM, fzP]
  | true :: m, s :: σ, d :: δ => by
    have ih := prs_fzM m σ δ
    cases s <;> cases d <;> simpa [keepM, restM, fzM, prs, fzP] using ih
  | false :: m, s :: σ, d :: δ => by
    have ih := prs_fzM m σ δ
    cases s with
    | none => cases d <;> simpa [keepM, restM, fzM, prs] using ih
    | some v => cases d with
      | none => simpa [keepM, restM, fzM, prs] using ih
      | some y =>
        simp only [keepM, restM, fzM, prs]
        exact (ih.cons _).trans List.perm_middle.symm
theorem keepM_get : ∀ (m : List Bool) (δ : Env) (i : Nat) (d : D), (keepM m δ)[i]? = some (some d) → δ[i]? = some (some d)
  | m, [], i, d, h => by cases m with
    | nil => simp [keepM] at h
    | cons b m => cases b <;> simp [keepM] at h
  | [], x :: δ, 0, d, h => by simp [keepM] at h
  | [], x :: δ, i + 1, d, h => by simpa using keepM_get [] δ i d (by simpa [keepM] using h)
  | true :: m, x :: δ, 0, d, h => by simpa [keepM] using h
  | true :: m, x :: δ, i + 1, d, h => by simpa using keepM_get m δ i d (by simpa [keepM] using h)
  | false :: m, x :: δ, 0, d, h => by simp [keepM] at h
  | false :: m, x :: δ, i + 1, d, h => by simpa using keepM_get m δ i d (by simpa [keepM] using h)
theorem keepM_len : ∀ (m : List Bool) (δ : Env), (keepM m δ).length = δ.length
  | m, [] => by cases m with
    | nil => rfl
    | cons b m => cases b <;> rfl
  | [], x :: δ => by simp [keepM, keepM_len [] δ]
  | true :: m, x :: δ => by simp [keepM, keepM_len m δ]
  | false :: m, x :: δ => by simp [keepM, keepM_len m δ]
theorem fzM_len : ∀ (m : List Bool) (δ : Env), (fzM m δ).length = δ.length
  | m, [] => by cases m with
    | nil => rfl
    | cons b m => cases b <;> rfl
  | [], x :: δ => rfl
  | true :: m, x :: δ => by simp [fzM, fzM_len m δ]
  | false :: m, x :: δ => by simp [fzM, fzM_len m δ]
theorem fzM_get : ∀ (m : List Bool) (δ : Env) (i : Nat) (d : D), (fzM m δ)[i]? = some (some d) → ∃ d0, δ[i]? = some (some d0)
  | m, [], i, d, h => by cases m with
    | nil => simp [fzM] at h
    | cons b m => cases b <;> simp [fzM] at h
  | [], x :: δ, i, d, h => ⟨d, h⟩
  | true :: m, x :: δ, 0, d, h => by
    cases x with
    | none => simp [fzM] at h
    | some y => exact ⟨y, rfl⟩
  | true :: m, x :: δ, i + 1, d, h => by simpa using fzM_get m δ i d (by simpa [fzM] using h)
  | false :: m, x :: δ, 0, d, h => ⟨d, by simpa [fzM] using h⟩
  | false :: m, x :: δ, i + 1, d, h => by simpa using fzM_get m δ i d (by simpa [fzM] using h)
theorem Dom.keepM {σ : L2.St} {δ : Env} (h : Dom σ δ) (m : List Bool) : Dom σ (fzE (keepM m δ)) := by
  refine ⟨by simp [fzE, keepM_len, h.1], fun i d q => ?_⟩
  unfold fzE at q
  rw [List.getElem?_map] at q
  cases e : (DL.keepM m δ)[i]? with
  | none => rw [e] at q; cases q
  | some x => cases x with
    | none => rw [e] at q; cases q
    | some y => exact h.2 i y (keepM_get m δ i y e)
theorem Dom.fzM {σ : L2.St} {δ : Env} (h : Dom σ δ) (m : List Bool) : Dom σ (fzM m δ) :=
  ⟨by simp [fzM_len, h.1], fun i d q => let ⟨d0, e⟩ := fzM_get m δ i d q; h.2 i d0 e⟩
section
variable {X : Cx} {e : Expr}
theorem it_pur (m : List Bool) {f : MT} (h : IT X e f) : IT X e (purT m f) := by
  intro Z Hb H σ δ L d δ' s e' Q q
  unfold purT at e'
  split at e'
  · rename_i d0 δ0 hf
    cases e'
    have s1 : Sp X.K X.mg Z Hb H (prs σ (keepM m δ) ++ (prs σ (restM m δ) ++ L)) := s.sp.perm (((prs_split m σ δ).append_left L).trans (by
      rw [← List.append_assoc (prs σ (keepM m δ))]
      exact List.perm_append_comm))
    obtain ⟨Z', sp, back⟩ := s1.pure
    have sq : Sq X Z' H H σ (fzE (keepM m δ)) [] := ⟨by rw [prs_fzE]; exact sp, s.dom.keepM m⟩
    refine h sq hf Q fun H' s' => q H' ?_
    have s2 : Sp X.K X.mg Z' H H' ((V.non, D.non) :: prs σ _) := s'.sp.put fun _ => .non
    have b1 := ((back H' _ _ _ s2).1 rfl).drop
    refine ⟨b1.perm ?_, s.dom⟩
    refine List.Perm.trans ?_ ((prs_split m σ δ).symm.append_left L)
    rw [← List.append_assoc]
    exact List.perm_append_comm
  · cases e'
end
end DL
set_option Elab.async false
set_option linter.all false
set_option maxRecDepth 100000
set_option maxHeartbeats 4000001
namespace DL
open PySem L2
section
variable {K : PySem.W.Frag} {mg : Str → Option Value} {H Hb : Hp} {Z : Addr → Prop} {P : PL} {v : V}
theorem Sp.head {d : D} (s : Sp K mg Z Hb H ((v, d) :: P)) : ∃ Y F, Rep K mg H Y v d F := by
  obtain ⟨⟨F, r, _, _⟩, _, _⟩ := s
  cases r with
  | cons q t => exact ⟨_, _, q⟩
theorem Sp.int {i : Int} (s : Sp K mg Z Hb H ((v, .int i) :: P)) : v = .int i := by obtain ⟨Y, F, q⟩ := s.head; cases q; rfl
theorem Sp.bl {i : Bool} (s : Sp K mg Z Hb H ((v, .bl i) :: P)) : v = .bl i := by obtain ⟨Y, F, q⟩ := s.head; cases q; rfl
theorem Sp.str {i : Str} (s : Sp K mg Z Hb H ((v, .str i) :: P)) : v = .str i := by obtain ⟨Y, F, q⟩ := s.head; cases q; rfl
theorem Sp.non (s : Sp K mg Z Hb H ((v, .non) :: P)) : v = .non := by obtain ⟨Y, F, q⟩ := s.head; cases q; rfl
theorem Sp.ty {i : BT} (s : Sp K mg Z Hb H ((v, .ty i) :: P)) : v = .ty i.name := by obtain ⟨Y, F, q⟩ := s.head; cases q; rfl
theorem Sp.lst {o : Bool} {ds : List D} (s : Sp K mg Z Hb H ((v, .lst o ds) :: P)) : ∃ a vs, v = .ref a ∧ H a = some (.lst vs) ∧ vs.length = ds.length ∧ Sp K mg Z Hb H (vs.zip ds ++ P) := by
  obtain ⟨⟨F, r, nd, hb⟩, b, fr⟩ := s
  cases r with
  | @cons _ _ _ F1 F2 q t => cases q with
    | lstF h z ts => exact ⟨_, _, rfl, h, ts.len, ⟨_, (ts.zip).append t, nd, hb⟩, b, fr⟩
    | @lstO a vs _ F h ts =>
      refine ⟨_, _, rfl, h, ts.len, ⟨_, ((ts.zip).append t).other fun c _ _ z => ⟨z.1, fun m => z.2 (List.mem_cons_of_mem _ m)⟩, (List.nodup_cons.mp nd).2, fun c m => hb c (List.mem_cons_of_mem _ m)⟩, b, fr⟩
theorem Sp.scr {ds : List D} (s : Sp K mg Z Hb H ((v, .scr ds) :: P)) : ∃ a vs, v = .ref a ∧ ScrAt K H a vs ∧ vs.length = ds.length := by
  obtain ⟨Y, F, q⟩ := s.head
  cases q with
  | scr h ts => exact ⟨_, _, rfl, h, ts.len⟩
theorem Sp.tup {ds : List D} (s : Sp K mg Z Hb H ((v, .tup ds) :: P)) : ∃ a vs, v = .ref a ∧ SqT K H a vs ∧ vs.length = ds.length ∧ Sp K mg Z Hb H (vs.zip ds ++ P) := s.openT
end
mutual
def toPy : D → Option PyData
  | .non => some .none
  | .bl b => some (.bool b)
  | .int i => some (.int i)
  | .str x => some (.str x)
  | .tup ds => (toPys ds).map .tuple
  | .lst _ ds => (toPys ds).map .list
  | .scr ds => (toPys ds).map .list
  | _ => none
def toPys : List D → Option (List PyData)
  | [] => some []
  | d :: r => match toPy d, toPys r with
    | some p, some q => some (p :: q)
    | _, _ => none
end
section
variable {K : PySem.W.Frag} {mg : Str → Option Value} {H Hb : Hp} {Z : Addr → Prop}
mutual
theorem Rep.dp {v : V} {d : D} {F : List Addr} (r : Rep K mg H Z v d F) {p : PyData} (e : toPy d = some p) : Dp K H v p := by
  cases r with
  | non => cases e; exact .non
  | bl => cases e; exact .bl _
  | int => cases e; exact .int _
  | str => cases e; exact .str _
  | ty => cases e
  | glo _ => cases e
  | tup h t =>
    simp only [toPy, Option.map_eq_some_iff] at e
    obtain ⟨ps, e1, e2⟩ := e
    subst e2
    exact .tup h (t.dps e1)
  | scr h t =>
    simp only [toPy, Option.map_eq_some_iff] at e
    obtain ⟨ps, e1, e2⟩ := e
    subst e2
    exact .lst h.sq (t.dps e1)
  | lstF h z t =>
    simp only [toPy, Option.map_eq_some_iff] at e
    obtain ⟨ps, e1, e2⟩ := e
    subst e2
    exact .lst (.of h) (t.dps e1)
  | lstO h t =>
    simp only [toPy, Option.map_eq_some_iff] at e
    obtain ⟨ps, e1, e2⟩ := e
    subst e2
    exact .lst (.of h) (t.dps e1)
  | dctF _ _ _ _ => cases e
  | dctO _ _ _ => cases e
  | objF _ _ _ _ _ _ => cases e
  | exc _ _ _ _ _ _ => cases e
  | objO _ _ _ _ _ => cases e
  | rawF _ _ _ _ => cases e
  | rawO _ _ _ => cases e
  | hole => cases e
  | tab _ _ _ _ _ => cases e
theorem Reps.dps {vs : List V} {ds : List D} {F : List Addr} (r : Reps K mg H Z vs ds F) {ps : List PyData} (e : toPys ds = some ps) : DpAll K H vs ps := by
  cases r with
  | nil => cases e; exact .nil
  | cons q t =>
    simp only [toPys] at e
    split at e
    · rename_i p ps' e1 e2
      cases e
      exact .cons (q.dp e1) (t.dps e2)
    · cases e
end
theorem Sp.dp {P : PL} {v : V} {d : D} {p : PyData} (s : Sp K mg Z Hb H ((v, d) :: P)) (e : toPy d = some p) : Dp K H v p := by
  obtain ⟨Y, F, q⟩ := s.head; exact q.dp e
end
def BR (X : Cx) (f : Value → Value → Sem Value) (g : D → D → Option D) : Prop := ∀ {Z : Addr → Prop} {Hb H : Hp} {P : PL} {x y : V} {dx dy d : D}, Sp X.K X.mg Z Hb H ((y, dy) :: (x, dx) :: P) → g dx dy = some d →
  ∀ Q : VK, (∀ v H', Sp X.K X.mg Z Hb H' ((v, d) :: P) → Q v H') → wR X f x y H Q
def mBin (g : D → D → Option D) (a b : ME) : ME := fun δ => match a δ with
  | some (x, δ1) => match b δ1 with
    | some (y, δ2) => match g x y with
      | some z => some (z, δ2)
      | none => none
    | none => none
  | none => none
section
variable {X : Cx} {a b : Expr} {ma mb : ME} {g : D → D → Option D} {pos : Pos}
theorem bin_of {δ δ' : Env} {d : D} (e : mBin g ma mb δ = some (d, δ')) : ∃ x δ1 y, ma δ = some (x, δ1) ∧ mb δ1 = some (y, δ') ∧ g x y = some d := by
  unfold mBin at e
  split at e
  · rename_i x δ1 e1
    split at e
    · rename_i y δ2 e2
      split at e
      · rename_i z e3
        cases e
        exact ⟨x, δ1, y, e1, e2, e3⟩
      · cases e
    · cases e
  · cases e
theorem bin_run {f : Value → Value → Sem Value} (ho : BR X f g) (ha : IG X a ma) (hb : IG X b mb) {Z : Addr → Prop} {Hb H : Hp} {σ : L2.St} {δ δ' : Env} {L : PL} {d : D} (s : Sq X Z Hb H σ δ L) (e : mBin g ma mb δ = some (d, δ'))
    (Q : VK) (q : ∀ v H', Sq X Z Hb H' σ δ' ((v, d) :: L) → Q v H') : tOp (wR X f) (wE X a) (wE X b) σ H Q := by
  obtain ⟨x, δ1, y, e1, e2, e3⟩ := bin_of e
  exact ha s e1 _ fun v H1 s1 => hb s1 e2 _ fun w H2 s2 => ho s2.sp e3 Q fun z H3 s3 => q z H3 ⟨s3, s2.dom⟩
theorem ig_bin {op : Operator} (ho : BR X (binaryOp op) g) (ha : IG X a ma) (hb : IG X b mb) : IG X (.BinOp a op b pos) (mBin g ma mb) := by
  intro Z Hb H σ δ L d δ' s e Q q
  exact wE_of (pe_op opr_w pe_w pe_w) (bin_run ho ha hb s e Q q)
theorem ig_cmp {op : CmpOp} (ho : BR X (compareOp op) g) (ha : IG X a ma) (hb : IG X b mb) (hm : behindInMarks op b = false) : IG X (.Compare a [op] [b] pos) (mBin g ma mb) := by
  intro Z Hb H σ δ L d δ' s e Q q
  exact wE_of (pe_cmpR opr_w pe_w pe_w hm) (bin_run ho ha hb s e Q q)
/-- a mirror whose value is a bool -/
def toT (m : ME) : MT := fun δ => match m δ with
  | some (.bl b, δ') => some (b, δ')
  | _ => none
theorem toT_of {m : ME} {δ δ' : Env} {b : Bool} (e : toT m δ = some (b, δ')) : m δ = some (.bl b, δ') := by
  unfold toT at e
  split at e
  · rename_i b' δ1 e1
    cases e; exact e1
  · cases e
theorem it_cmp {op : CmpOp} (ho : BR X (compareOp op) g) (ha : IG X a ma) (hb : IG X b mb) (hm : behindInMarks op b = false) : IT X (.Compare a [op] [b] pos) (toT (mBin g ma mb)) := by
  intro Z Hb H σ δ L d δ' s e Q q
  refine wT_of (pt_cmpR opr_w pe_w pe_w hm) ?_
  exact bin_run ho ha hb s (toT_of e) _ fun v H' s' => ⟨d, s'.sp.bl, q H' s'.drop⟩
/-- a chain of two -/
def mChain (g g' : D → D → Option D) (a b c : ME) : ME := fun δ => match a δ with
  | some (x, δ1) => match b δ1 with
    | some (y, δ2) => if isFz y then match g x y with
      | some (.bl true) => match c δ2 with
        | some (z, δ3) => match g' y z with
          | some (.bl k) => some (.bl k, δ3)
          | _ => none
        | none => none
      | some (.bl false) => some (.bl false, δ2)
      | _ => none else none
    | none => none
  | none => none
variable {c : Expr} {mc : ME} {g' : D → D → Option D}
theorem chain_run {op op' : CmpOp} (ho : BR X (compareOp op) g) (ho' : BR X (compareOp op') g') (ha : IG X a ma) (hb : IG X b mb) (hc : IG X c mc) {Z : Addr → Prop} {Hb H : Hp} {σ : L2.St} {δ δ' : Env} {L : PL} {d : D} (s : Sq X Z Hb H σ δ L) (e : mChain g g' ma mb mc δ = some (d, δ'))
    (Q : VK) (q : ∀ k H', d = .bl k → Sq X Z Hb H' σ δ' L → Q (.bl k) H') : tChain (wR X (compareOp op)) (wR X (compareOp op')) (wE X a) (wE X b) (wE X c) σ H Q := by
  unfold mChain at e
  split at e
  · rename_i x δ1 e1
    split at e
    · rename_i y δ2 e2
      split at e
      · rename_i hf
        refine ha s e1 _ fun v H1 s1 => hb s1 e2 _ fun w H2 s2 => ?_
        have s2' : Sp X.K X.mg Z Hb H2 ((w, y) :: (v, x) :: (w, y) :: (L ++ prs σ δ2)) := (s2.sp.dup hf).perm (.cons _ (.swap _ _ _))
        split at e
        · rename_i eg
          split at e
          · rename_i z δ3 e3
            split at e
            · rename_i k eg'
              cases e
              refine ho s2' eg _ fun u H3 s3 => ⟨true, s3.bl, ?_⟩
              (show (if true = true then _ else _))
              rw [if_pos rfl]
              have s3' : Sq X Z Hb H3 σ δ2 ((w, y) :: L) := ⟨s3.drop, s2.dom⟩
              refine hc s3' e3 _ fun u' H4 s4 => ho' s4.sp eg' _ fun u2 H5 s5 => ?_
              rw [s5.bl]
              exact q k H5 rfl ⟨s5.drop, s4.dom⟩
            · cases e
          · cases e
        · rename_i eg
          cases e
          refine ho s2' eg _ fun u H3 s3 => ⟨false, s3.bl, ?_⟩
          show (if false = true then _ else _)
          (rw [if_neg Bool.false_ne_true])
          exact q false H3 rfl ⟨s3.drop.drop, s2.dom⟩
        · cases e
      · cases e
    · cases e
  · cases e
theorem ig_chain {op op' : CmpOp} (ho : BR X (compareOp op) g) (ho' : BR X (compareOp op') g') (ha : IG X a ma) (hb : IG X b mb) (hc : IG X c mc) (hm : lastMarks [op, op'] [b, c] = false) : IG X (.Compare a [op, op'] [b, c] pos) (mChain g g' ma mb mc) := by
  intro Z Hb H σ δ L d δ' s e Q q
  refine wE_of (pe_chain opr_w opr_w pe_w pe_w pe_w hm) (chain_run ho ho' ha hb hc s e Q fun k H' ek s' => ?_)
  subst ek
  exact q _ _ (s'.put fun _ => .bl)
theorem it_chain {op op' : CmpOp} (ho : BR X (compareOp op) g) (ho' : BR X (compareOp op') g') (ha : IG X a ma) (hb : IG X b mb) (hc : IG X c mc) (hm : lastMarks [op, op'] [b, c] = false) : IT X (.Compare a [op, op'] [b, c] pos) (toT (mChain g g' ma mb mc)) := by
  intro Z Hb H σ δ L d δ' s e Q q
  refine wT_of (pt_chain opr_w opr_w pe_w pe_w pe_w hm) (chain_run ho ho' ha hb hc s (toT_of e) _ fun k H' ek s' => ?_)
  cases ek
  exact ⟨d, rfl, q H' s'⟩
end
def dAdd : D → D → Option D
  | .int i, .int j => some (.int (i + j))
  | .str i, .str j => if i.length + j.length ≤ sizeLine then some (.str (i ++ j)) else none
  | .lst _ a, .lst _ b => if a.length + b.length ≤ sizeLine then some (.lst true (a ++ b)) else none
  | .tup a, .tup b => if a.length + b.length ≤ sizeLine then some (.tup (a ++ b)) else none
  | _, _ => none
def dSub : D → D → Option D
  | .int i, .int j => some (.int (i - j))
  | _, _ => none
def dMul : D → D → Option D
  | .int i, .int j => if (-(2 ^ 64) < i ∧ i < 2 ^ 64) ∨ (-(2 ^ 64) < j ∧ j < 2 ^ 64) then some (.int (i * j)) else none
  | .lst _ a, .int k => if -(2 ^ 63) ≤ k ∧ k < 2 ^ 63 ∧ a.length * k.toNat ≤ sizeLine then some (.lst true (List.replicate k.toNat (fzs a)).flatten) else none
  | _, _ => none
def dFdiv : D → D → Option D
  | .int i, .int j => if j ≠ 0 ∧ j.natAbs < 1073741824 then some (.int (i.fdiv j)) else none
  | _, _ => none
def dMod : D → D → Option D
  | .int i, .int j => if j ≠ 0 then some (.int (i.fmod j)) else none
  | _, _ => none
def dPow : D → D → Option D
  | .int i, .int j => if 0 ≤ j ∧ j ≤ 1000000 ∧ i.natAbs < 2 ^ 64 then some (.int (i ^ j.toNat)) else none
  | _, _ => none
/-- == of data -/
def pyEq (x y : D) : Option Bool := match toPy x, toPy y with
  | some p, some q => if SeqAt.shaped p && SeqAt.shaped q then some (PyData.eqv p q) else none
  | _, _ => none
def dEqB : D → D → Option Bool
  | .int i, .int j => some (decide (i = j))
  | .str i, .str j => some (decide (i = j))
  | .bl i, .bl j => some (decide (i = j))
  | x, y => pyEq x y
def dEq : D → D → Option D
  | .tup ds, .tup [] => some (.bl ds.isEmpty)
  | .lst _ ds, .lst _ [] => some (.bl ds.isEmpty)
  | x, y => (dEqB x y).map .bl
def dNe (x y : D) : Option D := (dEqB x y).map fun b => .bl !b
def dLt : D → D → Option D
  | .int i, .int j => some (.bl (decide (i < j)))
  | _, _ => none
def dLe : D → D → Option D
  | .int i, .int j => some (.bl (decide (i ≤ j)))
  | _, _ => none
def dGt : D → D → Option D
  | .int i, .int j => some (.bl (decide (j < i)))
  | _, _ => none
def dGe : D → D → Option D
  | .int i, .int j => some (.bl (decide (j ≤ i)))
  | _, _ => none
def pyIn (x y : D) : Option Bool := match toPy x, toPy y with
  | some p, some (.list q) => if SeqAt.shaped p && SeqAt.shaped (.list q) then some (q.any fun z => PyData.eqv z p) else none
  | some p, some (.tuple q) => if SeqAt.shaped p && SeqAt.shaped (.tuple q) then some (q.any fun z => PyData.eqv z p) else none
  | _, _ => none
def keyD : D → Option Key
  | .int i => some (.inl i)
  | .str i => some (.inr i)
  | _ => none
def dInB : D → D → Option Bool
  | x, .dct _ ks _ => (keyD x).map fun k => ks.any fun j => decide (j = k)
  | .str i, .str j => some (!(Builtin.Str.occurrences j i 0 j.length 1).isEmpty)
  | x, y => pyIn x y
def dIn (x y : D) : Option D := (dInB x y).map .bl
def dNotIn (x y : D) : Option D := (dInB x y).map fun b => .bl !b
def isNon : D → Bool
  | .non => true
  | _ => false
def dIsB : D → D → Option Bool
  | .hole, .non => none
  | x, .non => some (isNon x)
  | .bl i, .bl j => some (decide (i = j))
  | _, _ => none
def dIs (x y : D) : Option D := (dIsB x y).map .bl
def dIsNot (x y : D) : Option D := (dIsB x y).map fun b => .bl !b
section
variable {X : Cx}
/-- two values are given up, one comes -/
theorem Sp.two {K : PySem.W.Frag} {mg : Str → Option Value} {H Hb : Hp} {Z : Addr → Prop} {P : PL} {x y w : V} {dx dy d : D} (s : Sp K mg Z Hb H ((y, dy) :: (x, dx) :: P)) (h : ∀ Y, Rep K mg H Y w d []) : Sp K mg Z Hb H ((w, d) :: P) := s.drop.drop.put h
theorem br_int {f : Value → Value → Sem Value} {g : D → D → Option D} {C : Int → Int → Prop} {k : Int → Int → Int} (h : OpR X f (rI C fun i j => .int (k i j))) (hg : ∀ x y d, g x y = some d → ∃ i j, x = .int i ∧ y = .int j ∧ C i j ∧ d = .int (k i j)) : BR X f g := by
  intro Z Hb H P x y dx dy d s e Q q
  obtain ⟨i, j, rfl, rfl, hc, rfl⟩ := hg _ _ _ e
  refine wR_of h ⟨i, j, s.drop.int, s.int, hc, q _ _ (s.two fun _ => .int)⟩
theorem br_int0 {f : Value → Value → Sem Value} {g : D → D → Option D} {k : Int → Int → Bool} (h : OpR X f (rI0 fun i j => .bl (k i j))) (hg : ∀ x y d, g x y = some d → ∃ i j, x = .int i ∧ y = .int j ∧ d = .bl (k i j)) : BR X f g := by
  intro Z Hb H P x y dx dy d s e Q q
  obtain ⟨i, j, rfl, rfl, rfl⟩ := hg _ _ _ e
  exact wR_of h ⟨i, j, s.drop.int, s.int, q _ _ (s.two fun _ => .bl)⟩
theorem br_sub : BR X (binaryOp .Sub) dSub := by
  intro Z Hb H P x y dx dy d s e Q q
  unfold dSub at e; split at e
  · cases e
    exact wR_of op_sub ⟨_, _, s.drop.int, s.int, q _ _ (s.two fun _ => .int)⟩
  · cases e
theorem br_fdiv : BR X (binaryOp .FloorDiv) dFdiv := br_int op_fdivN fun x y d e => by
  unfold dFdiv at e; split at e
  · split at e
    · rename_i h; cases e; exact ⟨_, _, rfl, rfl, h, rfl⟩
    · cases e
  · cases e
theorem br_mod : BR X (binaryOp .Mod) dMod := br_int op_modN fun x y d e => by
  unfold dMod at e; split at e
  · split at e
    · rename_i h; cases e; exact ⟨_, _, rfl, rfl, h, rfl⟩
    · cases e
  · cases e
theorem br_pow : BR X (binaryOp .Pow) dPow := br_int op_pow fun x y d e => by
  unfold dPow at e; split at e
  · split at e
    · rename_i h; cases e; exact ⟨_, _, rfl, rfl, h, rfl⟩
    · cases e
  · cases e
theorem br_lt : BR X (compareOp .Lt) dLt := br_int0 op_lt fun x y d e => by
  unfold dLt at e; split at e
  · cases e; exact ⟨_, _, rfl, rfl, rfl⟩
  · cases e
theorem br_le : BR X (compareOp .LtE) dLe := br_int0 op_le fun x y d e => by
  unfold dLe at e; split at e
  · cases e; exact ⟨_, _, rfl, rfl, rfl⟩
  · cases e
theorem br_gt : BR X (compareOp .Gt) dGt := br_int0 op_gt fun x y d e => by
  unfold dGt at e; split at e
  · cases e; exact ⟨_, _, rfl, rfl, rfl⟩
  · cases e
theorem br_ge : BR X (compareOp .GtE) dGe := br_int0 op_ge fun x y d e => by
  unfold dGe at e; split at e
  · cases e; exact ⟨_, _, rfl, rfl, rfl⟩
  · cases e
theorem zip_append {vs ws : List V} {ds es : List D} (h : vs.length = ds.length) : (vs ++ ws).zip (ds ++ es) = vs.zip ds ++ ws.zip es := List.zip_append h
theorem br_add : BR X (binaryOp .Add) dAdd := by
  intro Z Hb H P x y dx dy d s e Q q
  unfold dAdd at e; split at e
  · cases e
    exact wR_of op_add ⟨_, _, s.drop.int, s.int, q _ _ (s.two fun _ => .int)⟩
  · split at e
    · rename_i h; cases e
      exact wR_of op_add_str ⟨_, _, s.drop.str, s.str, h, q _ _ (s.two fun _ => .str)⟩
    · cases e
  · rename_i o1 as o2 bs
    split at e
    · rename_i h; cases e
      obtain ⟨b, ws, rfl, hb, lb, s1⟩ := s.lst
      obtain ⟨a, vs, rfl, ha, la, s2⟩ := (s1.perm List.perm_middle).lst
      refine wR_of op_cat ⟨a, b, vs, ws, rfl, rfl, ha, hb, by omega, fun p hp => q _ _ ?_⟩
      refine Sp.newL (P := P) (s2.perm ?_) (by simp [la, lb]) hp
      rw [zip_append la, List.append_assoc]
    · cases e
  · rename_i as bs
    split at e
    · rename_i h; cases e
      have s0 : Sp X.K X.mg Z Hb H ((x, .tup as) :: (y, .tup bs) :: P) := s.perm (.swap _ _ _)
      obtain ⟨b, ws, rfl, hb, lb, s1⟩ := s.tup
      obtain ⟨a, vs, rfl, ha, la, s2⟩ := (s1.perm List.perm_middle).tup
      refine wR_of op_catA ⟨a, b, vs, ws, rfl, rfl, ha, hb, by omega, fun e0 => q _ _ ?_, fun e0 e1 => q _ _ ?_, fun e0 e1 p hp => q _ _ ?_⟩
      · subst e0
        have : as = [] := List.eq_nil_of_length_eq_zero (by simpa using la.symm)
        subst this
        exact (s.perm (.swap _ _ _)).drop
      · subst e1
        have : bs = [] := List.eq_nil_of_length_eq_zero (by simpa using lb.symm)
        subst this
        rw [List.append_nil]
        exact (s0.perm (.swap _ _ _)).drop
      · refine Sp.newT (P := P) (s2.perm ?_) (by simp [la, lb]) hp
        rw [zip_append la, List.append_assoc]
    · cases e
  · cases e
theorem Rps.own_nil {K : PySem.W.Frag} {mg : Str → Option Value} {H : Hp} {Z : Addr → Prop} {A : PL} : ∀ {F : List Addr}, Rps K mg H Z A F → (∀ p ∈ A, isFz p.2 = true) → F = [] := by
  induction A with
  | nil => intro F r _; cases r; rfl
  | cons p A ih =>
    intro F r h
    cases r with
    | cons q t => rw [q.own_nil (h _ List.mem_cons_self), ih t (fun p m => h p (List.mem_cons_of_mem _ m))]; rfl
/-- frozen items as often as wanted -/
theorem Sp.rep {K : PySem.W.Frag} {mg : Str → Option Value} {H Hb : Hp} {Z : Addr → Prop} {P A : PL} (s : Sp K mg Z Hb H (A ++ P)) (h : ∀ p ∈ A, isFz p.2 = true) (n : Nat) : Sp K mg Z Hb H ((List.replicate n A).flatten ++ P) := by
  obtain ⟨⟨F, r, nd, hb⟩, b, fr⟩ := s
  obtain ⟨F1, F2, rfl, r1, r2⟩ := r.split
  have e : F1 = [] := r1.own_nil h
  subst e
  refine ⟨⟨F2, ?_, by simpa using nd, fun a m => hb a (by simpa using m)⟩, b, fr⟩
  have r1' : Rps K mg H (fun a => Z a ∧ a ∉ F2) A [] := r1.other fun a _ _ z => ⟨z.1, by simpa using z.2⟩
  have r2' : Rps K mg H (fun a => Z a ∧ a ∉ F2) P F2 := r2.other fun a _ _ z => ⟨z.1, by simpa using z.2⟩
  clear r1 r2
  have : Rps K mg H (fun a => Z a ∧ a ∉ F2) (List.replicate n A).flatten [] := by
    induction n with
    | zero => exact .nil
    | succ n ih =>
      (rw [List.replicate_succ, List.flatten_cons])
      exact Rps.append (F := []) (G := []) r1' ih
  exact Rps.append (F := []) this r2'
theorem zip_rep {vs : List V} {ds : List D} (h : vs.length = ds.length) (n : Nat) : (List.replicate n vs).flatten.zip (List.replicate n ds).flatten = (List.replicate n (vs.zip ds)).flatten := by
  induction n with
  | zero => rfl
  | succ n ih =>
    rw [List.replicate_succ, List.replicate_succ, List.replicate_succ, List.flatten_cons, List.flatten_cons, List.flatten_cons, List.zip_append h, ih]
theorem br_mul : BR X (binaryOp .Mult) dMul := by
  intro Z Hb H P x y dx dy d s e Q q
  unfold dMul at e; split at e
  · split at e
    · rename_i h; cases e
      exact wR_of op_mul ⟨_, _, s.drop.int, s.int, h, q _ _ (s.two fun _ => .int)⟩
    · cases e
  · rename_i o as k
    split at e
    · rename_i h; cases e
      have ey := s.int
      have s0 := s.drop.freeze
      obtain ⟨a, vs, rfl, ha, la, s1⟩ := s0.lst
      refine wR_of op_rep ⟨a, k, vs, rfl, ey, ha, h.1, h.2.1, by rw [la, fzs_length]; exact h.2.2, fun p hp => q _ _ ?_⟩
      have s2 := s1.rep (n := k.toNat) fun p m => isFzs_iff.mp (isFzs_fzs as) _ (List.of_mem_zip m).2
      rw [← zip_rep la] at s2
      exact s2.newL (by simp [la]) hp
    · cases e
  · cases e
theorem eq_run (hu : X.A.units + 64 < cLine) {Z : Addr → Prop} {Hb H : Hp} {P : PL} {x y : V} {dx dy : D} {b : Bool} (s : Sp X.K X.mg Z Hb H ((y, dy) :: (x, dx) :: P)) (e : dEqB dx dy = some b) (Q : VK) :
    (Q (.bl b) H → wR X (compareOp .Eq) x y H Q) ∧ (Q (.bl !b) H → wR X (compareOp .NotEq) x y H Q) := by
  unfold dEqB at e
  split at e
  · cases e
    rw [s.int, s.drop.int]
    refine ⟨fun q => wR_of op_eq ⟨rfl, ?_⟩, fun q => wR_of op_ne ⟨rfl, ?_⟩⟩
    all_goals (simpa using q)
  · cases e
    rw [s.str, s.drop.str]
    refine ⟨fun q => wR_of op_eq ⟨rfl, ?_⟩, fun q => wR_of op_ne ⟨rfl, ?_⟩⟩
    all_goals (simpa using q)
  · cases e
    rw [s.bl, s.drop.bl]
    refine ⟨fun q => wR_of op_eq ⟨rfl, ?_⟩, fun q => wR_of op_ne ⟨rfl, ?_⟩⟩
    all_goals (simpa using q)
  · unfold pyEq at e
    split at e
    · rename_i p q' e1 e2
      split at e
      · rename_i h
        cases e
        have h' := Bool.and_eq_true_iff.mp h
        exact ⟨fun q => wR_of (op_eqD hu) ⟨p, q', s.drop.dp e1, s.dp e2, h'.1, h'.2, q⟩, fun q => wR_of (op_neD hu) ⟨p, q', s.drop.dp e1, s.dp e2, h'.1, h'.2, q⟩⟩
      · cases e
    · cases e
theorem br_eq (hu : X.A.units + 64 < cLine) : BR X (compareOp .Eq) dEq := by
  intro Z Hb H P x y dx dy d s e Q q
  unfold dEq at e
  split at e
  · rename_i ds
    cases e
    obtain ⟨a, vs, rfl, ha, hl, s1⟩ := s.drop.tup
    obtain ⟨b, ws, rfl, hb, hl2, s2⟩ := s.tup
    intro pins s0 σ u v I r1 r2
    cases r1
    cases r2
    obtain ⟨its, rv, ht, _⟩ := I.tuple ha
    obtain ⟨its2, rv2, ht2, _⟩ := I.tuple hb
    have z2 : its2 = [] := by
      have h1 := rv2.length
      rw [hl2] at h1
      exact List.eq_nil_of_length_eq_zero h1.symm
    subst z2
    refine SeqAt.eq_tupleAt (e := fun _ => true) ht ht2 (by omega) (fun j h1 h2 => absurd h2 (by simp)) ?_
    refine ⟨.bl ds.isEmpty, H, I, ?_, q _ _ (s.two fun _ => .bl)⟩
    have : ds.isEmpty = (its.toArray.size == 0) := by
      have h1 := rv.length
      rw [hl] at h1
      cases ds with
      | nil => simp at h1; simp [h1]
      | cons x r => cases its with
        | nil => simp at h1
        | cons y t => simp
    rw [this]
    show Value.bool _ = Value.bool _
    simp
  · rename_i o1 ds o2
    cases e
    obtain ⟨a, vs, rfl, ha, hl, s1⟩ := Sp.lst s.drop
    obtain ⟨b, ws, rfl, hb, hl2, s2⟩ := Sp.lst s
    intro pins s0 σ u v I r1 r2
    cases r1
    cases r2
    obtain ⟨its, rv, ht, _⟩ := I.list (.of ha)
    obtain ⟨its2, rv2, ht2, _⟩ := I.list (.of hb)
    have z2 : its2 = [] := by
      have h1 := rv2.length
      rw [hl2] at h1
      exact List.eq_nil_of_length_eq_zero h1.symm
    subst z2
    have h1 := rv.length
    rw [hl] at h1
    have fin := q (.bl ds.isEmpty) H (s.two fun _ => .bl)
    cases ds with
    | nil =>
      have z1 : its = [] := List.eq_nil_of_length_eq_zero h1.symm
      subst z1
      exact SeqAt.eq_listAt (e := fun _ => true) ht.isList ht2.isList rfl (by omega) (fun j h1 h2 => absurd h2 (by simp)) ⟨.bl true, H, I, rfl, fin⟩
    | cons x r =>
      refine SeqAt.eq_list_lengthsAt ht.isList ht2.isList ?_ (by omega) ⟨.bl false, H, I, rfl, fin⟩
      cases its with
      | nil => simp at h1
      | cons y t => simp
  · obtain ⟨b, e1, rfl⟩ := Option.map_eq_some_iff.mp e
    exact (eq_run hu s e1 Q).1 (q _ _ (s.two fun _ => .bl))
theorem br_ne (hu : X.A.units + 64 < cLine) : BR X (compareOp .NotEq) dNe := by
  intro Z Hb H P x y dx dy d s e Q q
  unfold dNe at e
  obtain ⟨b, e1, rfl⟩ := Option.map_eq_some_iff.mp e
  exact (eq_run hu s e1 Q).2 (q _ _ (s.two fun _ => .bl))
def rInTD (K : PySem.W.Frag) (neg : Bool) : R2 := fun x y H Q => ∃ d ds, Dp K H x d ∧ Dp K H y (.tuple ds) ∧ SeqAt.shaped d = true ∧ SeqAt.shaped (.tuple ds) = true ∧ Q (.bl (if neg then !(ds.any fun z => PyData.eqv z d) else ds.any fun z => PyData.eqv z d)) H
theorem op_inTD (hu : X.A.units + 65 < cLine) : OpR X (compareOp .In) (rInTD X.K false) := by
  (intro pins s σ H x y v u Q I rx ry h)
  (obtain ⟨d, ds, hd, he, sd, se, q⟩ := h)
  (obtain ⟨as, r1⟩ := Dp.reads I d x v hd rx)
  obtain ⟨bs, r2⟩ := Dp.reads I (.tuple ds) y u he ry
  exact SeqAt.in_tuple_reads r2 r1 (SeqAt.canLay_of_shaped se) (SeqAt.canLay_of_shaped sd) (PyProof.Rows.room_in_shaped sd hu) ⟨.bl _, H, I, rfl, q⟩
theorem op_notInTD (hu : X.A.units + 65 < cLine) : OpR X (compareOp .NotIn) (rInTD X.K true) := by
  (intro pins s σ H x y v u Q I rx ry h)
  (obtain ⟨d, ds, hd, he, sd, se, q⟩ := h)
  (obtain ⟨as, r1⟩ := Dp.reads I d x v hd rx)
  obtain ⟨bs, r2⟩ := Dp.reads I (.tuple ds) y u he ry
  exact SeqAt.notIn_tuple_reads r2 r1 (SeqAt.canLay_of_shaped se) (SeqAt.canLay_of_shaped sd) (PyProof.Rows.room_in_shaped sd hu) ⟨.bl _, H, I, rfl, q⟩
theorem Sp.key {K : PySem.W.Frag} {mg : Str → Option Value} {H Hb : Hp} {Z : Addr → Prop} {P : PL} {x : V} {d : D} {k : Key} (s : Sp K mg Z Hb H ((x, d) :: P)) (e : keyD d = some k) : x = kV k := by
  unfold keyD at e
  split at e
  · cases e; exact s.int
  · cases e; exact s.str
  · cases e
theorem in_keys (kvs : List (Key × V)) (k : Key) : ((kvs.map (·.1)).any fun j => decide (j = k)) = (valV kvs k).isSome := by
  rw [← valV_any, List.any_map]
  rfl
theorem in_run (hu : X.A.units + 65 < cLine) {Z : Addr → Prop} {Hb H : Hp} {P : PL} {x y : V} {dx dy : D} {b : Bool} (s : Sp X.K X.mg Z Hb H ((y, dy) :: (x, dx) :: P)) (e : dInB dx dy = some b) (Q : VK) :
    (Q (.bl b) H → wR X (compareOp .In) x y H Q) ∧ (Q (.bl !b) H → wR X (compareOp .NotIn) x y H Q) := by
  unfold dInB at e
  split at e
  · rename_i o ks vs
    obtain ⟨k, ek, rfl⟩ := Option.map_eq_some_iff.mp e
    obtain ⟨Y, F, q⟩ := s.head
    have hx : x = kV k := s.drop.key ek
    have go : ∀ (a : Addr) (kvs : List (Key × V)), y = .ref a → Rd H a (.dK kvs) → kvs.map (·.1) = ks → (Q (.bl (ks.any fun j => decide (j = k))) H → wR X (compareOp .In) x y H Q) ∧ (Q (.bl !(ks.any fun j => decide (j = k))) H → wR X (compareOp .NotIn) x y H Q) := by
      intro a kvs ey ha hk
      subst ey hx
      have hb : (ks.any fun j => decide (j = k)) = (valV kvs k).isSome := by rw [← hk]; exact in_keys kvs k
      rw [hb]
      exact ⟨fun q pins s σ u v I r1 r2 => by cases r2; exact d_in (by omega) I (.inl ⟨kvs, k, ha, rfl, rfl⟩) r1 fun s' I' => ⟨.bl _, H, I', rfl, q⟩, fun q pins s σ u v I r1 r2 => by cases r2; exact d_notIn (by omega) I (.inl ⟨kvs, k, ha, rfl, rfl⟩) r1 fun s' I' => ⟨.bl _, H, I', rfl, q⟩⟩
    cases q with
    | dctF h z e' t => exact go _ _ rfl h e'.1
    | dctO h e' t => exact go _ _ rfl (.inl h) e'.1
  · cases e
    exact ⟨fun q => wR_of op_in_str ⟨_, _, s.drop.str, s.str, q⟩, fun q => wR_of op_notin_str ⟨_, _, s.drop.str, s.str, q⟩⟩
  · unfold pyIn at e
    split at e
    · rename_i p q' e1 e2
      split at e
      · rename_i h
        cases e
        have h' := Bool.and_eq_true_iff.mp h
        exact ⟨fun q => wR_of (op_inD hu) ⟨p, q', s.drop.dp e1, s.dp e2, h'.1, h'.2, q⟩, fun q => wR_of (op_notInD hu) ⟨p, q', s.drop.dp e1, s.dp e2, h'.1, h'.2, q⟩⟩
      · cases e
    · rename_i p q' e1 e2
      split at e
      · rename_i h
        cases e
        have h' := Bool.and_eq_true_iff.mp h
        exact ⟨fun q => wR_of (op_inTD hu) ⟨p, q', s.drop.dp e1, s.dp e2, h'.1, h'.2, q⟩, fun q => wR_of (op_notInTD hu) ⟨p, q', s.drop.dp e1, s.dp e2, h'.1, h'.2, q⟩⟩
      · cases e
    · cases e
theorem br_in (hu : X.A.units + 65 < cLine) : BR X (compareOp .In) dIn := by
  intro Z Hb H P x y dx dy d s e Q q
  unfold dIn at e
  obtain ⟨b, e1, rfl⟩ := Option.map_eq_some_iff.mp e
  exact (in_run hu s e1 Q).1 (q _ _ (s.two fun _ => .bl))
theorem br_notIn (hu : X.A.units + 65 < cLine) : BR X (compareOp .NotIn) dNotIn := by
  intro Z Hb H P x y dx dy d s e Q q
  unfold dNotIn at e
  obtain ⟨b, e1, rfl⟩ := Option.map_eq_some_iff.mp e
  exact (in_run hu s e1 Q).2 (q _ _ (s.two fun _ => .bl))
theorem Sp.isNon {K : PySem.W.Frag} {mg : Str → Option Value} {H Hb : Hp} {Z : Addr → Prop} {P : PL} {x : V} {d : D} (s : Sp K mg Z Hb H ((x, d) :: P)) (hd : d ≠ .hole) : decide (x = .non) = DL.isNon d := by
  obtain ⟨Y, F, q⟩ := s.head
  cases q <;> first | (exact absurd rfl hd) | simp [DL.isNon]
theorem is_run {Z : Addr → Prop} {Hb H : Hp} {P : PL} {x y : V} {dx dy : D} {b : Bool} (s : Sp X.K X.mg Z Hb H ((y, dy) :: (x, dx) :: P)) (e : dIsB dx dy = some b) (Q : VK) :
    (Q (.bl b) H → wR X (compareOp .Is) x y H Q) ∧ (Q (.bl !b) H → wR X (compareOp .IsNot) x y H Q) := by
  unfold dIsB at e
  split at e
  · cases e
  · rename_i hne
    cases e
    have h := s.drop.isNon (fun q => hne q)
    exact ⟨fun q => wR_of op_isN ⟨s.non, by rw [h]; exact q⟩, fun q => wR_of op_notN ⟨s.non, by rw [h]; exact q⟩⟩
  · cases e
    exact ⟨fun q => wR_of op_isBl ⟨_, _, s.drop.bl, s.bl, q⟩, fun q => wR_of op_notBl ⟨_, _, s.drop.bl, s.bl, q⟩⟩
  · cases e
theorem br_is : BR X (compareOp .Is) dIs := by
  intro Z Hb H P x y dx dy d s e Q q
  unfold dIs at e
  obtain ⟨b, e1, rfl⟩ := Option.map_eq_some_iff.mp e
  exact (is_run s e1 Q).1 (q _ _ (s.two fun _ => .bl))
theorem br_isNot : BR X (compareOp .IsNot) dIsNot := by
  intro Z Hb H P x y dx dy d s e Q q
  unfold dIsNot at e
  obtain ⟨b, e1, rfl⟩ := Option.map_eq_some_iff.mp e
  exact (is_run s e1 Q).2 (q _ _ (s.two fun _ => .bl))
end
end DL
set_option Elab.async false
set_option linter.all false
set_option maxRecDepth 100000
set_option maxHeartbeats 4000001
namespace DL
open PySem PySem.Spec L2
section
variable {X : Cx} {a b c e : Expr} {ma mb mc : ME} {pos : Pos} {rest : List Expr}
/-- -a -/
def mNeg (a : ME) : ME := fun δ => match a δ with
  | some (.int i, δ1) => some (.int (-i), δ1)
  | _ => none
theorem ig_neg (ha : IG X a ma) : IG X (.UnaryOp .USub a pos) (mNeg ma) := by
  intro Z Hb H σ δ L d δ' s e Q q
  unfold mNeg at e
  split at e
  · rename_i i δ1 e1
    cases e
    refine wE_of (pe_un un_neg pe_w) (ha s e1 _ fun v H1 s1 => ⟨i, s1.sp.int, q _ _ ?_⟩)
    exact s1.drop.put fun _ => .int
  · cases e
def truD : D → Option Bool
  | .non => some false
  | .bl b => some b
  | .int i => some (i != 0)
  | .str x => if x.length ≤ sizeLine then some ((x.length : Int) != 0) else none
  | .tup ds => some (!ds.isEmpty)
  | .lst _ ds => some (!ds.isEmpty)
  | .scr ds => some (!ds.isEmpty)
  | .dct o ks _ => if o = true then some (!ks.isEmpty) else none
  | _ => none
theorem isEmpty_len {α β : Type} {a : List α} {b : List β} (h : a.length = b.length) : a.isEmpty = b.isEmpty := by
  (cases a <;> cases b <;> simp_all)
theorem Rep.tru {K : PySem.W.Frag} {mg : Str → Option Value} {H : Hp} {Z : Addr → Prop} {v : V} {d : D} {F : List Addr} {k : Bool} (r : Rep K mg H Z v d F) (e : truD d = some k) : TruV K v H k := by
  cases r with
  | non => cases e; rfl
  | bl => cases e; rfl
  | int => cases e; rfl
  | str =>
    simp only [truD] at e
    split at e
    · rename_i h; cases e; exact ⟨h, rfl⟩
    · cases e
  | ty => cases e
  | glo _ => cases e
  | tup h t => cases e; exact .inr (.inl ⟨_, h, by rw [isEmpty_len t.len]⟩)
  | scr h t => cases e; exact .inl ⟨_, h.sq, by rw [isEmpty_len t.len]⟩
  | lstF h z t => cases e; exact .inl ⟨_, .of h, by rw [isEmpty_len t.len]⟩
  | lstO h t => cases e; exact .inl ⟨_, .of h, by rw [isEmpty_len t.len]⟩
  | dctF h z hk t => cases e
  | dctO h hk t => obtain ⟨hk, _⟩ := hk; subst hk; cases e; exact .inr (.inr ⟨_, h, by rw [isEmpty_len (List.length_map _)]⟩)
  | objF _ _ _ _ _ _ => cases e
  | exc _ _ _ _ _ _ => cases e
  | hole => cases e
  | tab _ _ _ _ _ => cases e
  | objO _ _ _ _ _ => cases e
  | rawF _ _ _ _ => cases e
  | rawO _ _ _ => cases e
theorem Sp.tru {K : PySem.W.Frag} {mg : Str → Option Value} {H Hb : Hp} {Z : Addr → Prop} {P : PL} {v : V} {d : D} {k : Bool} (s : Sp K mg Z Hb H ((v, d) :: P)) (e : truD d = some k) : TruV K v H k := by
  obtain ⟨Y, F, q⟩ := s.head; exact q.tru e
/-- a plain expression as a test -/
def mTru (a : ME) : MT := fun δ => match a δ with
  | some (d, δ1) => match truD d with
    | some k => some (k, δ1)
    | none => none
  | none => none
theorem it_val (ha : IG X a ma) (he : ∀ whole, isTrue a X.env whole = (do let v ← whole; standAt a.pos; holding [v] (truthy v))) : IT X a (mTru ma) := by
  intro Z Hb H σ δ L d δ' s e Q q
  unfold mTru at e
  split at e
  · rename_i d0 δ1 e1
    split at e
    · rename_i k e2
      cases e
      exact wT_of (pt_truth pe_w he) (ha s e1 _ fun v H1 s1 => ⟨_, s1.sp.tru e2, q _ s1.drop⟩)
    · cases e
  · cases e
def tAnd2 (a b : MT) : MT := fun δ => match a δ with
  | some (true, δ1) => b δ1
  | some (false, δ1) => some (false, δ1)
  | none => none
def tOr2 (a b : MT) : MT := fun δ => match a δ with
  | some (false, δ1) => b δ1
  | some (true, δ1) => some (true, δ1)
  | none => none
def tNot1 (a : MT) : MT := fun δ => match a δ with
  | some (k, δ1) => some (!k, δ1)
  | none => none
variable {ta tb : MT}
theorem iw_and1 (ha : IT X a ta) : IW X (.BoolOp .And [a] pos) ta := by
  intro Z Hb H σ δ L d δ' s e Q q
  exact wW_of (pw_and1 pt_w) (ha s e Q q)
theorem iw_or1 (ha : IT X a ta) : IW X (.BoolOp .Or [a] pos) ta := by
  intro Z Hb H σ δ L d δ' s e Q q
  exact wW_of (pw_or1 pt_w) (ha s e Q q)
theorem iw_and (ha : IT X a ta) (hb : IW X (.BoolOp .And (b :: rest) pos) tb) : IW X (.BoolOp .And (a :: b :: rest) pos) (tAnd2 ta tb) := by
  intro Z Hb H σ δ L d δ' s e Q q
  refine wW_of (pw_and pt_w pw_w) ?_
  unfold tAnd2 at e
  split at e
  · rename_i δ1 e1
    refine ha s e1 _ fun H1 s1 => ?_
    (show (if true = true then _ else _))
    rw [if_pos rfl]
    exact hb s1 e Q q
  · rename_i δ1 e1
    cases e
    refine ha s e1 _ fun H1 s1 => ?_
    show (if false = true then _ else _)
    (rw [if_neg Bool.false_ne_true])
    exact q _ s1
  · cases e
theorem iw_or (ha : IT X a ta) (hb : IW X (.BoolOp .Or (b :: rest) pos) tb) : IW X (.BoolOp .Or (a :: b :: rest) pos) (tOr2 ta tb) := by
  intro Z Hb H σ δ L d δ' s e Q q
  refine wW_of (pw_or pt_w pw_w) ?_
  unfold tOr2 at e
  split at e
  · rename_i δ1 e1
    refine ha s e1 _ fun H1 s1 => ?_
    show (if false = true then _ else _)
    (rw [if_neg Bool.false_ne_true])
    exact hb s1 e Q q
  · rename_i δ1 e1
    cases e
    refine ha s e1 _ fun H1 s1 => ?_
    (show (if true = true then _ else _))
    rw [if_pos rfl]
    exact q _ s1
  · cases e
theorem it_w (h : IW X a ta) : IT X a ta := by
  intro Z Hb H σ δ L d δ' s e Q q
  exact wT_of pw_w.pt (h s e Q q)
theorem it_not (ha : IT X a ta) : IT X (.UnaryOp .Not a pos) (tNot1 ta) := by
  intro Z Hb H σ δ L d δ' s e Q q
  unfold tNot1 at e
  split at e
  · rename_i k δ1 e1
    cases e
    exact wT_of (pt_not pt_w) (ha s e1 _ q)
  · cases e
def mAnd (a b : ME) : ME := fun δ => match a δ with
  | some (d, δ1) => match truD d with
    | some true => b δ1
    | some false => some (d, δ1)
    | none => none
  | none => none
def mNot (a : ME) : ME := fun δ => match a δ with
  | some (d, δ1) => match truD d with
    | some k => some (.bl !k, δ1)
    | none => none
  | none => none
theorem ig_one {op} (ha : IG X a ma) : IG X (.BoolOp op [a] pos) ma := by
  intro Z Hb H σ δ L d δ' s e Q q
  exact wE_of (pe_one pe_w) (ha s e Q q)
theorem ig_and (ha : IG X a ma) (hb : IG X (.BoolOp .And (b :: rest) pos) mb) : IG X (.BoolOp .And (a :: b :: rest) pos) (mAnd ma mb) := by
  intro Z Hb H σ δ L d δ' s e Q q
  refine wE_of (pe_andT pe_w pe_w) ?_
  unfold mAnd at e
  split at e
  · rename_i d0 δ1 e1
    refine ha s e1 _ fun v H1 s1 => ?_
    split at e
    · rename_i k
      refine ⟨true, s1.sp.tru k, ?_⟩
      rw [if_pos rfl]
      exact hb s1.drop e Q q
    · rename_i k
      cases e
      refine ⟨false, s1.sp.tru k, ?_⟩
      (rw [if_neg Bool.false_ne_true])
      exact q _ _ s1
    · cases e
  · cases e
theorem ig_not (ha : IG X a ma) : IG X (.UnaryOp .Not a pos) (mNot ma) := by
  intro Z Hb H σ δ L d δ' s e Q q
  refine wE_of (pe_notT pe_w) ?_
  unfold mNot at e
  split at e
  · rename_i d0 δ1 e1
    split at e
    · rename_i k e2
      cases e
      exact ha s e1 _ fun v H1 s1 => ⟨k, s1.sp.tru e2, q _ _ (s1.drop.put fun _ => .bl)⟩
    · cases e
  · cases e
def mIf (t : MT) (a b : ME) : ME := fun δ => match t δ with
  | some (true, δ1) => a δ1
  | some (false, δ1) => b δ1
  | none => none
theorem ig_if (hc : IT X c ta) (ha : IG X a ma) (hb : IG X b mb) : IG X (.IfExp c a b pos) (mIf ta ma mb) := by
  intro Z Hb H σ δ L d δ' s e Q q
  refine wE_of (pe_ifExp pt_w pe_w pe_w) ?_
  unfold mIf at e
  split at e
  · rename_i δ1 e1
    refine hc s e1 _ fun H1 s1 => ?_
    rw [if_pos rfl]
    exact ha s1 e Q q
  · rename_i δ1 e1
    refine hc s e1 _ fun H1 s1 => ?_
    (rw [if_neg Bool.false_ne_true])
    exact hb s1 e Q q
  · cases e
end
abbrev ML := Env → Option (List D × Env)
def IL (X : Cx) (es : List Expr) (m : ML) : Prop := ∀ {Z : Addr → Prop} {Hb H : Hp} {σ : L2.St} {δ : Env} {L : PL} {ds : List D} {δ' : Env}, Sq X Z Hb H σ δ L → m δ = some (ds, δ') →
  ∀ Q : List V → Hp → Prop, (∀ vs H', vs.length = ds.length → Sq X Z Hb H' σ δ' (vs.zip ds ++ L) → Q vs H') → wA X es σ H Q
def mNil : ML := fun δ => some ([], δ)
def mCons (a : ME) (r : ML) : ML := fun δ => match a δ with
  | some (d, δ1) => match r δ1 with
    | some (ds, δ2) => some (d :: ds, δ2)
    | none => none
  | none => none
theorem Sq.perm {X : Cx} {Z : Addr → Prop} {Hb H : Hp} {σ : L2.St} {δ : Env} {L L' : PL} (s : Sq X Z Hb H σ δ L) (h : L.Perm L') : Sq X Z Hb H σ δ L' := ⟨s.sp.perm (h.append_right _), s.dom⟩
theorem Sq.dropL {X : Cx} {Z : Addr → Prop} {Hb H : Hp} {σ : L2.St} {δ : Env} {L A : PL} (s : Sq X Z Hb H σ δ (A ++ L)) : Sq X Z Hb H σ δ L := ⟨by
  have := s.sp
  (rw [List.append_assoc] at this)
  exact this.dropL, s.dom⟩
section
variable {X : Cx} {e : Expr} {es : List Expr} {m : ME} {r : ML} {pos : Pos}
theorem il_nil : IL X [] mNil := by
  intro Z Hb H σ δ L d δ' s e Q q
  cases e
  exact wA_of pa_nil (q [] H rfl s)
theorem il_cons (h : IG X e m) (t : IL X es r) (hs : starEach (e :: es) X.env = (false, eval e X.env) :: starEach es X.env) : IL X (e :: es) (mCons m r) := by
  intro Z Hb H σ δ L d δ' s e' Q q
  refine wA_of (pa_cons pe_w pa_w hs) ?_
  unfold mCons at e'
  split at e'
  · rename_i d0 δ1 e1
    split at e'
    · rename_i ds δ2 e2
      cases e'
      refine h s e1 _ fun v H1 s1 => t s1 e2 _ fun vs H2 hl s2 => q (v :: vs) H2 (by simp [hl]) ?_
      refine s2.perm ?_
      show List.Perm _ ((v, d0) :: (vs.zip ds ++ L))
      exact List.perm_middle
    · cases e'
  · cases e'
def mTup (r : ML) : ME := fun δ => match r δ with
  | some (ds, δ1) => if ds.length ≤ sizeLine then some (.tup ds, δ1) else none
  | none => none
def mLst (r : ML) : ME := fun δ => match r δ with
  | some (ds, δ1) => if ds.length ≤ sizeLine then some (.lst true ds, δ1) else none
  | none => none
theorem ig_tup {x1} (h : IL X es r) : IG X (.Tuple es x1 pos) (mTup r) := by
  intro Z Hb H σ δ L d δ' s e Q q
  refine wE_of (pe_tup pa_w) ?_
  unfold mTup at e
  split at e
  · rename_i ds δ1 e1
    split at e
    · rename_i hz
      cases e
      refine h s e1 _ fun vs H1 hl s1 => ⟨by rw [hl]; exact hz, fun p hp => q _ _ ⟨?_, s1.dom⟩⟩
      have := s1.sp
      (rw [List.append_assoc] at this)
      exact this.newT hl hp
    · cases e
  · cases e
theorem ig_lst (h : IL X es r) : IG X (.List es pos) (mLst r) := by
  intro Z Hb H σ δ L d δ' s e Q q
  refine wE_of (pe_lst pa_w) ?_
  unfold mLst at e
  split at e
  · rename_i ds δ1 e1
    split at e
    · rename_i hz
      cases e
      refine h s e1 _ fun vs H1 hl s1 => ⟨by rw [hl]; exact hz, fun p hp => q _ _ ⟨?_, s1.dom⟩⟩
      have := s1.sp
      (rw [List.append_assoc] at this)
      exact this.newL hl hp
    · cases e
  · cases e
end
def lookD : List Key → List D → Key → Option D
  | k :: ks, d :: ds, j => if k = j then some d else lookD ks ds j
  | _, _, _ => none
theorem lookD_get : ∀ {kvs : List (Key × V)} {ds : List D} {k : Key} {d : D}, lookD (kvs.map (·.1)) ds k = some d → ∃ j v, valV kvs k = some v ∧ kvs[j]? = some (k, v) ∧ (kvs.map (·.1)).take j = ((kvs.map (·.1)).take j).filter (fun i => decide (i ≠ k)) ∧ ds[j]? = some d
  | [], ds, k, d, h => by simp [lookD] at h
  | p :: r, [], k, d, h => by simp [lookD] at h
  | p :: r, x :: ds, k, d, h => by
    simp only [List.map_cons, lookD] at h
    split at h
    · rename_i e
      cases h
      refine ⟨0, p.2, valV_pos e, ?_, rfl, rfl⟩
      rw [← e]; rfl
    · rename_i e
      obtain ⟨j, v, h1, h2, h3, h4⟩ := lookD_get h
      refine ⟨j + 1, v, (valV_neg e).trans h1, by simpa using h2, ?_, by simpa using h4⟩
      have : decide (p.1 ≠ k) = true := decide_eq_true e
      rw [List.map_cons, List.take_succ_cons, List.filter_cons, if_pos this, ← h3]
def dIx : D → D → Option D
  | .dct _ ks ds, y => match keyD y with
    | some k => (lookD ks ds k).map fz
    | none => none
  | .tup ds, .int i => atI ds i
  | .lst _ ds, .int i => (atI ds i).map fz
  | .str x, .int i => if x.length ≤ sizeLine then (atI x.cps.toList i).map fun c => .str ⟨#[c]⟩ else none
  | _, _ => none
def wX (X : Cx) : R2 := fun x y H Q => ∀ (value slice : Expr) pins s σ u v, Inv X pins σ H s → RelV x u → RelV y v → subscripted slice false u v = operate [u, v] (getItem u v) → wpAny (model X.prog X.w) X.A (PyProof.Rows.subscriptTail value slice u v) (EP X pins σ Q) X.xe s
theorem ixr_w {X : Cx} : IxR X (wX X) := fun value slice pins s σ H x y v u Q I r1 r2 h hs => h value slice pins s σ v u I r1 r2 hs
theorem wX_of {X : Cx} {r : R2} (h : IxR X r) {x y : V} {H : Hp} {Q : VK} (q : r x y H Q) : wX X x y H Q := fun value slice pins s σ u v I r1 r2 hs => h value slice pins s σ H x y u v Q I r1 r2 q hs
theorem atI_zip {vs : List V} {ds : List D} (hl : vs.length = ds.length) {i : Int} {d : D} (h : atI ds i = some d) : ∃ j v, ixN vs.length i = some j ∧ atI vs i = some v ∧ vs[j]? = some v ∧ ds[j]? = some d := by
  unfold atI at h ⊢
  obtain ⟨j, e1, e2⟩ := Option.bind_eq_some_iff.mp h
  have hj : j < vs.length := by rw [hl]; exact (List.getElem?_eq_some_iff.mp e2).1
  exact ⟨j, vs[j], by rw [hl]; exact e1, by rw [hl, e1]; simp [hj], by simp [hj], e2⟩
theorem zip_get {vs : List V} {ds : List D} {j : Nat} {v : V} {d : D} (h1 : vs[j]? = some v) (h2 : ds[j]? = some d) : ∃ A, (vs.zip ds).Perm ((v, d) :: A) := by
  have : (vs.zip ds)[j]? = some (v, d) := by rw [List.getElem?_zip_eq_some]; exact ⟨h1, h2⟩
  obtain ⟨A, B, e⟩ := List.append_of_mem (List.mem_of_getElem? this)
  exact ⟨A ++ B, by rw [e]; exact List.perm_middle⟩
section
variable {X : Cx} {a b : Expr} {ma mb : ME} {pos : Pos}
theorem dgetR {H : Hp} {a : Addr} {kvs : List (Key × V)} {k : Key} (e : Rd H a (.dK kvs)) : DGet H a (kV k) (valV kvs k) := .inl ⟨kvs, k, e, rfl, rfl⟩
theorem rd_inj {H : Hp} {a : Addr} {k1 k2 : List (Key × V)} (h1 : Rd H a (.dK k1)) (h2 : Rd H a (.dK k2)) : k1 = k2 := by
  rcases h1 with h1 | ⟨o1, h1⟩ <;> rcases h2 with h2 | ⟨o2, h2⟩ <;> have := h1.symm.trans h2 <;> cases this <;> rfl
theorem ix_dictW (hu : X.A.units + 1 < cLine) {x y : V} {H : Hp} {Q : VK} {a : Addr} {v : V} (ex : x = .ref a) (g : DGet H a y (some v)) (q : Q v H) : wX X x y H Q := by
  intro value slice pins s σ u w I r1 r2 hs
  subst ex
  cases r1
  exact PyProof.Rows.tail_any (ops := [.ref a, w]) (dict_typeIs I g) PySem.F.slot_dict_getitem.lookup (d_getItem hu I g r2 fun w' s3 I3 rw' => ⟨v, H, I3, rw', q⟩) hs
theorem ix_run (hu : X.A.units + 1 < cLine) {Z : Addr → Prop} {Hb H : Hp} {P : PL} {x y : V} {dx dy d : D} (s : Sp X.K X.mg Z Hb H ((y, dy) :: (x, dx) :: P)) (e : dIx dx dy = some d) (Q : VK) (q : ∀ v H', Sp X.K X.mg Z Hb H' ((v, d) :: P) → Q v H') : wX X x y H Q := by
  unfold dIx at e
  split at e
  · rename_i o ks ds
    split at e
    · rename_i k ek
      obtain ⟨d0, e0, rfl⟩ := Option.map_eq_some_iff.mp e
      have ey := s.key ek
      subst ey
      have s1 := s.drop.freeze
      obtain ⟨Y, F, r⟩ := s1.head
      cases r with
      | @dctF a kvs _ _ ha hz hk ts =>
        rw [← hk.1] at e0
        obtain ⟨j, v, h1, h2, _, h3⟩ := lookD_get e0
        refine ix_dictW hu rfl (by rw [← h1]; exact dgetR ha) (q _ _ ?_)
        refine (s1.part (isFz_fz _) (w := v) (t := fz d0) fun Y' q' => ?_).perm (.swap _ _ _) |>.drop
        cases q' with
        | dctF ha' hz' hk' ts' =>
          have := rd_inj ha ha'
          subst this
          have hj : (fzs ds)[j]? = some (fz d0) := by rw [fzs_map, List.getElem?_map, h3]; rfl
          obtain ⟨v', hv', rv'⟩ := ts'.get hj
          rw [List.getElem?_map, h2] at hv'
          cases hv'
          exact rv'
    · cases e
  · rename_i ds i
    have ey := s.int
    obtain ⟨p, vs, rfl, hp, hl, s1⟩ := s.drop.tup
    obtain ⟨j, v, _, e1, e2, e3⟩ := atI_zip hl e
    refine wX_of ix_tup ⟨p, vs, i, v, rfl, ey, hp, e1, q _ _ ?_⟩
    obtain ⟨A, pm⟩ := zip_get e2 e3
    have s2 := s1.perm (pm.append_right P)
    have s3 : Sp X.K X.mg Z Hb H (A ++ ((v, d) :: P)) := s2.perm (by
      show List.Perm ((v, d) :: (A ++ P)) _
      exact List.perm_middle.symm)
    exact s3.dropL
  · rename_i o ds i
    obtain ⟨d0, e0, rfl⟩ := Option.map_eq_some_iff.mp e
    have ey := s.int
    obtain ⟨p, vs, rfl, hp, hl, s1⟩ := s.drop.freeze.lst
    have e0' : atI (fzs ds) i = some (fz d0) := by
      unfold atI at e0 ⊢
      rw [fzs_length]
      obtain ⟨j, e1, e2⟩ := Option.bind_eq_some_iff.mp e0
      rw [e1]
      show (fzs ds)[j]? = _
      rw [fzs_map, List.getElem?_map, e2]; rfl
    obtain ⟨j, v, _, e1, e2, e3⟩ := atI_zip hl e0'
    refine wX_of ix_list ⟨p, vs, i, v, rfl, ey, .of hp, e1, q _ _ ?_⟩
    obtain ⟨A, pm⟩ := zip_get e2 e3
    have s2 := s1.perm (pm.append_right P)
    have s3 : Sp X.K X.mg Z Hb H (A ++ ((v, fz d0) :: P)) := s2.perm (by
      show List.Perm ((v, fz d0) :: (A ++ P)) _
      exact List.perm_middle.symm)
    exact s3.dropL
  · rename_i x0 i
    split at e
    · rename_i hz
      obtain ⟨c, e0, rfl⟩ := Option.map_eq_some_iff.mp e
      exact wX_of ix_str ⟨x0, i, c, s.drop.str, s.int, hz, e0, q _ _ (s.two fun _ => .str)⟩
    · cases e
  · cases e
theorem ig_ix (hu : X.A.units + 65 < cLine) (ha : IG X a ma) (hb : IG X b mb) (hs : PlainIx b) : IG X (.Subscript a b pos) (mBin dIx ma mb) := by
  intro Z Hb H σ δ L d δ' s e Q q
  refine wE_of (pe_ix ixr_w pe_w pe_w hs) ?_
  obtain ⟨x, δ1, y, e1, e2, e3⟩ := bin_of e
  exact ha s e1 _ fun v H1 s1 => hb s1 e2 _ fun w H2 s2 => ix_run (by omega) s2.sp e3 Q fun z H3 s3 => q z H3 ⟨s3, s2.dom⟩
end
end DL
set_option Elab.async false
set_option linter.all false
set_option maxRecDepth 100000
set_option maxHeartbeats 4000001
namespace DL
open PySem PySem.Spec L2
def BC (X : Cx) (f : Value) (g : List D → Option D) : Prop := ∀ {Z : Addr → Prop} {Hb H : Hp} {P : PL} {vs : List V} {ds : List D} {d : D}, vs.length = ds.length → Sp X.K X.mg Z Hb H (vs.zip ds ++ P) → g ds = some d →
  ∀ Q : VK, (∀ v H', Sp X.K X.mg Z Hb H' ((v, d) :: P) → Q v H') → wC X f vs H Q
def mCallB (g : List D → Option D) (r : ML) : ME := fun δ => match r δ with
  | some (ds, δ1) => match g ds with
    | some d => some (d, δ1)
    | none => none
  | none => none
theorem callB_of {g : List D → Option D} {r : ML} {δ δ' : Env} {d : D} (e : mCallB g r δ = some (d, δ')) : ∃ ds, r δ = some (ds, δ') ∧ g ds = some d := by
  unfold mCallB at e
  split at e
  · rename_i ds δ1 e1
    split at e
    · rename_i d0 e2
      cases e
      exact ⟨ds, e1, e2⟩
    · cases e
  · cases e
section
variable {X : Cx} {x : Str} {p pos : Pos} {e : Expr} {es : List Expr} {r : ML} {g : List D → Option D} {id T : String}
theorem ig_callB (hb : BC X (.builtin id) g) (hg : Gl X x) (hm : X.mg x = none) (hv : bootBuiltins x = some (.builtin id)) (ha : IL X (e :: es) r) (hn : x ≠ "__name__") (hdb : (x == ("__debug__" : Str)) = false)
    (he : starEach (e :: es) X.env = (false, eval e X.env) :: starEach es X.env) (hpl : (backTo pos (starEach es X.env)).any (·.1) = false) : IG X (.Call (.Name x p) (e :: es) [] pos) (mCallB g r) := by
  intro Z Hb H σ δ L d δ' s e' Q q
  obtain ⟨ds, e1, e2⟩ := callB_of e'
  refine wE_of (pe_callB callr_w hg hm hv pa_w hn hdb he hpl) ?_
  refine ha s e1 _ fun vs H1 hl s1 => ?_
  have := s1.sp
  (rw [List.append_assoc] at this)
  exact hb hl this e2 Q fun v H' s' => q v H' ⟨s', s1.dom⟩
theorem ig_callTy (hb : BC X (.type T) g) (hg : Gl X x) (hm : X.mg x = none) (hv : bootBuiltins x = some (.type T)) (ha : IL X (e :: es) r) (hn : x ≠ "__name__") (hdb : (x == ("__debug__" : Str)) = false)
    (he : starEach (e :: es) X.env = (false, eval e X.env) :: starEach es X.env) (hpl : (backTo pos (starEach es X.env)).any (·.1) = false) : IG X (.Call (.Name x p) (e :: es) [] pos) (mCallB g r) := by
  intro Z Hb H σ δ L d δ' s e' Q q
  obtain ⟨ds, e1, e2⟩ := callB_of e'
  refine wE_of (pe_callTy callr_w hg hm hv pa_w hn hdb he hpl) ?_
  refine ha s e1 _ fun vs H1 hl s1 => ?_
  have := s1.sp
  (rw [List.append_assoc] at this)
  exact hb hl this e2 Q fun v H' s' => q v H' ⟨s', s1.dom⟩
/-- the name of a built-in class as a value -/
theorem ig_ty (t : BT) (hg : Gl X x) (hm : X.mg x = none) (hv : bootBuiltins x = some (.type t.name)) (hn : x ≠ "__name__") (hdb : (x == ("__debug__" : Str)) = false) : IG X (.Name x pos) (mC (.ty t)) :=
  ig_c (pe_bltn (v := .ty t.name) hg hm hv rfl hn hdb) fun _ _ => .ty
/-- a text, a number of the module's top -/
theorem ig_glob {d : D} {v : V} {u : Value} (hg : Gl X x) (hm : X.mg x = some u) (rv : RelV v u) (r : ∀ H Y, Rep X.K X.mg H Y v d []) (hdb : (x == ("__debug__" : Str)) = false) : IG X (.Name x pos) (mC d) :=
  ig_c (pe_glob hg hm rv hdb) r
end
def isOf (t : BT) : D → Option Bool
  | .non => some false
  | .bl _ => some (decide (t = .bool) || decide (t = .int))
  | .int _ => some (decide (t = .int))
  | .str _ => some (decide (t = .str))
  | .tup _ => some (decide (t = .tup))
  | .lst _ _ => some (decide (t = .lst))
  | .scr _ => some (decide (t = .lst))
  | .dct _ _ _ => some (decide (t = .dct))
  | _ => none
def isAny : List BT → D → Option Bool
  | [], _ => some false
  | t :: r, d => match isOf t d with
    | some true => some true
    | some false => isAny r d
    | none => none
def tysOf : List D → Option (List BT)
  | [] => some []
  | .ty t :: r => (tysOf r).map (t :: ·)
  | _ :: _ => none
def dIsi : List D → Option D
  | [d, .ty t] => (isOf t d).map .bl
  | [d, .tup ts] => match tysOf ts with
    | some (t :: bs) => (isAny (t :: bs) d).map .bl
    | _ => none
  | _ => none
theorem kit_non : ∀ t : BT, kitB "NoneType" t.name = some false := by intro t; cases t <;> decide +kernel
theorem kit_bl : ∀ t : BT, kitB "bool" t.name = some (decide (t = .bool) || decide (t = .int)) := by intro t; cases t <;> decide +kernel
theorem kit_int : ∀ t : BT, kitB "int" t.name = some (decide (t = .int)) := by intro t; cases t <;> decide +kernel
theorem kit_str : ∀ t : BT, kitB "str" t.name = some (decide (t = .str)) := by intro t; cases t <;> decide +kernel
theorem kit_tup : ∀ t : BT, kitB "tuple" t.name = some (decide (t = .tup)) := by intro t; cases t <;> decide +kernel
theorem kit_lst : ∀ t : BT, kitB "list" t.name = some (decide (t = .lst)) := by intro t; cases t <;> decide +kernel
theorem kit_dct : ∀ t : BT, kitB "dict" t.name = some (decide (t = .dct)) := by intro t; cases t <;> decide +kernel
section
variable {K : PySem.W.Frag} {mg : Str → Option Value} {H Hb : Hp} {Z : Addr → Prop}
theorem tyx_tup {a : Addr} {vs : List V} (h : SqT K H a vs) : TyX K H (.ref a) (.type "tuple") := by
  rcases h with (h | ⟨o, h⟩) | ⟨o, its, n, h, hc, _⟩
  · exact .base (.tup h)
  · exact .fTuple h
  · exact .kTuple h hc
theorem tyx_scr {a : Addr} {vs : List V} (h : ScrAt K H a vs) : TyX K H (.ref a) (.type "list") := by
  rcases h with ⟨o, h⟩ | ⟨o, its, n, h, hc, _⟩
  · exact .base (.frz h)
  · exact .kList h hc
/-- the class of a value -/
theorem Rep.cls {v : V} {d : D} {F : List Addr} (r : Rep K mg H Z v d F) (h0 : isOf .int d ≠ none) : ∃ c, TyX K H v c ∧ ∀ (t : BT) (b : Bool), isOf t d = some b → PySem.W.kitOne K c (.type t.name) = some b := by
  cases r with
  | non => exact ⟨_, .base .non, fun t b e => by cases e; exact kit_ty (kit_non t)⟩
  | bl => exact ⟨_, .base (.bl _), fun t b e => by cases e; exact kit_ty (kit_bl t)⟩
  | int => exact ⟨_, .base (.int _), fun t b e => by cases e; exact kit_ty (kit_int t)⟩
  | str => exact ⟨_, .base (.str _), fun t b e => by cases e; exact kit_ty (kit_str t)⟩
  | ty => exact absurd rfl h0
  | glo _ => exact absurd rfl h0
  | tup h _ => exact ⟨_, tyx_tup h, fun t b e => by cases e; exact kit_ty (kit_tup t)⟩
  | scr h _ => exact ⟨_, tyx_scr h, fun t b e => by cases e; exact kit_ty (kit_lst t)⟩
  | lstF h _ _ => exact ⟨_, .base (.lst h), fun t b e => by cases e; exact kit_ty (kit_lst t)⟩
  | lstO h _ => exact ⟨_, .base (.lst h), fun t b e => by cases e; exact kit_ty (kit_lst t)⟩
  | dctF h _ _ _ =>
    refine ⟨.type "dict", ?_, fun t b e => by cases e; exact kit_ty (kit_dct t)⟩
    rcases h with h | ⟨o, h⟩
    · exact .base (.dK h)
    · exact .fDict h
  | dctO h _ _ => exact ⟨_, .base (.dK h), fun t b e => by cases e; exact kit_ty (kit_dct t)⟩
  | objF _ _ _ _ _ _ => exact absurd rfl h0
  | exc _ _ _ _ _ _ => exact absurd rfl h0
  | hole => exact absurd rfl h0
  | tab _ _ _ _ _ => exact absurd rfl h0
  | objO _ _ _ _ _ => exact absurd rfl h0
  | rawF _ _ _ _ => exact absurd rfl h0
  | rawO _ _ _ => exact absurd rfl h0
theorem isOf_some {d : D} {t t' : BT} (h : isOf t d ≠ none) : isOf t' d ≠ none := by
  cases d <;> simp_all [isOf]
theorem kit_any {c : Value} {d : D} (hc : ∀ (t : BT) (b : Bool), isOf t d = some b → PySem.W.kitOne K c (.type t.name) = some b) : ∀ {bs : List BT} {b : Bool}, isAny bs d = some b → PySem.W.kitAny K c (bs.map fun t => Value.type t.name) = some b
  | [], b, e => by cases e; rfl
  | t :: bs, b, e => by
    simp only [isAny] at e
    cases e1 : isOf t d with
    | none => rw [e1] at e; cases e
    | some k =>
      rw [e1] at e
      refine kitAny_cons (hc t k e1) (fun hk => ?_) (fun hk => ?_)
      · subst hk; exact kit_any hc e
      · subst hk; cases e; rfl
theorem cls_all : ∀ {ts : List D} {bs : List BT} {Y : Addr → Prop} {vs : List V} {G : List Addr}, tysOf ts = some bs → Reps K mg H Y vs ts G → Paired ClsV vs (bs.map fun t => Value.type t.name)
  | [], bs, _, vs, _, e, r => by cases e; cases r; exact .nil
  | t :: ts, bs, _, vs, _, e, r => by
    cases t with
    | ty t =>
      simp only [tysOf, Option.map_eq_some_iff] at e
      obtain ⟨bs', e1, rfl⟩ := e
      cases r with
      | cons q r' =>
        cases q
        exact .cons (.ty _) (cls_all e1 r')
    | _ => cases e
end
/-- isinstance against a tuple of classes that is read -/
def rIsiS (K : PySem.W.Frag) : List V → Hp → VK → Prop := fun xs H Q => ∃ (x : V) (tp : Addr) (cs : List V) (t : Value) (us : List Value) (b : Bool), xs = [x, .ref tp] ∧ SqT K H tp cs ∧ Paired ClsV cs us ∧ TyX K H x t ∧ PySem.W.kitAny K t us = some b ∧ Q (.bl b) H
section
variable {X : Cx}
theorem call_isiS : CallR X (.builtin "isinstance") (rIsiS X.K) := by
  (intro pins s σ H xs us Q I r h)
  (obtain ⟨x, tp, cs, t, ws, b, rfl, hT, k, ty, e, q⟩ := h)
  (obtain ⟨u1, u2, rfl, r1, r2⟩ := vals2 r)
  (cases (show u2 = Value.ref tp from r2))
  obtain ⟨Pz, Zk, pz, hx⟩ := kit_of I r1 ty
  obtain ⟨its, rv, ⟨⟨oc, od, dt, sl⟩, h1, h2, n, h3⟩, _⟩ := I.tuple hT
  have e3 := ClsV.all k rv
  subst e3
  simp only at h2 h3
  subst h2 h3
  exact PySem.W.kia_tup Zk I.kIn pz h1 e hx fun tk => ⟨.bl b, H, I.tok tk, rfl, q⟩
theorem bc_isi : BC X (.builtin "isinstance") dIsi := by
  intro Z Hb H P vs ds d hl s e Q q
  unfold dIsi at e
  split at e
  · rename_i d0 t
    obtain ⟨b, e1, rfl⟩ := Option.map_eq_some_iff.mp e
    match vs, hl with
    | [v, w], _ =>
      have s0 : Sp X.K X.mg Z Hb H ((v, d0) :: (w, .ty t) :: P) := s
      have ew := s0.drop.ty
      obtain ⟨Y, F, r⟩ := s0.head
      obtain ⟨c, hc, hk⟩ := r.cls (isOf_some (t := t) (by rw [e1]; exact fun h => nomatch h))
      refine wC_of call_isi ⟨v, w, c, .type t.name, b, rfl, by rw [ew]; exact .ty _, hc, hk t b e1, q _ _ ?_⟩
      exact s0.drop.drop.put fun _ => .bl
  · rename_i d0 ts
    split at e
    · rename_i t0 bs0 e0
      obtain ⟨b, e1, rfl⟩ := Option.map_eq_some_iff.mp e
      match vs, hl with
      | [v, w], _ =>
        have s0 : Sp X.K X.mg Z Hb H ((v, d0) :: (w, .tup ts) :: P) := s
        obtain ⟨a, cs, rfl, ha, hlc, s1⟩ := s0.drop.tup
        obtain ⟨Y, F, r⟩ := s0.head
        have fin : Sp X.K X.mg Z Hb H ((V.bl b, D.bl b) :: P) := s0.drop.drop.put fun _ => .bl
        obtain ⟨Y', F', r'⟩ := s0.drop.head
        cases r' with
        | @tup _ cs' _ _ h' t' =>
          have hp := cls_all e0 t'
          have hn : isOf .int d0 ≠ none := by
            simp only [isAny] at e1
            cases e3 : isOf t0 d0 with
            | none => rw [e3] at e1; cases e1
            | some _ => exact isOf_some (t := t0) (by rw [e3]; exact fun h => nomatch h)
          obtain ⟨c, hc, hk⟩ := r.cls hn
          exact wC_of call_isiS ⟨v, a, cs', c, _, b, rfl, h', hp, hc, kit_any hk e1, q _ _ fin⟩
    · cases e
  · cases e
end
end DL
namespace DL
open PySem PySem.Spec L2
def dLen : List D → Option D
  | [.str x] => if x.length ≤ sizeLine then some (.int x.length) else none
  | [.tup ds] => some (.int ds.length)
  | [.lst _ ds] => some (.int ds.length)
  | [.scr ds] => some (.int ds.length)
  | [.dct _ ks _] => some (.int ks.length)
  | _ => none
def dAbs : List D → Option D
  | [.int i] => some (.int (if i < 0 then -i else i))
  | _ => none
def dInt : List D → Option D
  | [.int i] => some (.int i)
  | [.bl b] => some (.int (if b then 1 else 0))
  | _ => none
def dMin2 : List D → Option D
  | [.int i, .int j] => some (.int (if j < i then j else i))
  | _ => none
def blsOf : List D → Option (List Bool)
  | [] => some []
  | .bl b :: r => (blsOf r).map (b :: ·)
  | _ :: _ => none
def dAll : List D → Option D
  | [.lst _ ds] => (blsOf ds).map fun bs => .bl (bs.all id)
  | _ => none
def strsOf : List D → Option (List Str)
  | [] => some []
  | .str b :: r => (strsOf r).map (b :: ·)
  | _ :: _ => none
def dTuple : List D → Option D
  | [.lst _ ds] => some (.tup ds)
  | [.tup ds] => some (.tup ds)
  | _ => none
theorem bls_vals {K : PySem.W.Frag} {mg : Str → Option Value} {H : Hp} {Y : Addr → Prop} : ∀ {ds : List D} {bs : List Bool} {vs : List V} {G : List Addr}, blsOf ds = some bs → Reps K mg H Y vs ds G → vs = bs.map V.bl
  | [], _, _, _, e, r => by cases e; cases r; rfl
  | d :: ds, _, _, _, e, r => by
    cases d with
    | bl b =>
      simp only [blsOf, Option.map_eq_some_iff] at e
      obtain ⟨bs', e1, rfl⟩ := e
      cases r with
      | cons q t => cases q; rw [bls_vals e1 t]; rfl
    | _ => cases e
theorem strs_vals {K : PySem.W.Frag} {mg : Str → Option Value} {H : Hp} {Y : Addr → Prop} : ∀ {ds : List D} {bs : List Str} {vs : List V} {G : List Addr}, strsOf ds = some bs → Reps K mg H Y vs ds G → vs = bs.map V.str
  | [], _, _, _, e, r => by cases e; cases r; rfl
  | d :: ds, _, _, _, e, r => by
    cases d with
    | str b =>
      simp only [strsOf, Option.map_eq_some_iff] at e
      obtain ⟨bs', e1, rfl⟩ := e
      cases r with
      | cons q t => cases q; rw [strs_vals e1 t]; rfl
    | _ => cases e
theorem Sp.lst' {K : PySem.W.Frag} {mg : Str → Option Value} {H Hb : Hp} {Z : Addr → Prop} {P : PL} {v : V} {o : Bool} {ds : List D} (s : Sp K mg Z Hb H ((v, .lst o ds) :: P)) : ∃ a vs Y F, v = .ref a ∧ H a = some (.lst vs) ∧ Reps K mg H Y vs ds F := by
  obtain ⟨Y, F, q⟩ := s.head
  cases q with
  | lstF h z t => exact ⟨_, _, _, _, rfl, h, t⟩
  | lstO h t => exact ⟨_, _, _, _, rfl, h, t⟩
section
variable {X : Cx}
/-- len of a dict that is read -/
theorem call_lenR : CallR X (.builtin "len") (fun xs H Q => ∃ a kvs, xs = [V.ref a] ∧ Rd H a (.dK kvs) ∧ Q (.int kvs.length) H) := by
  rintro pins s σ H _ us Q I r ⟨a, kvs, rfl, ha, q⟩
  rcases r with _ | ⟨rfl, _ | _⟩
  exact d_len I ha fun t s' I' => ⟨.int kvs.length, H, I', ⟨t, rfl⟩, q⟩
theorem bc_len : BC X (.builtin "len") dLen := by
  intro Z Hb H P vs ds d hl s e Q q
  unfold dLen at e
  split at e
  · rename_i x
    split at e
    · rename_i hz
      cases e
      match vs, hl with
      | [v], _ =>
        have s0 : Sp X.K X.mg Z Hb H ((v, .str x) :: P) := s
        exact wC_of call_len ⟨v, x.length, rfl, by rw [s0.str]; exact ⟨hz, rfl⟩, q _ _ (s0.drop.put fun _ => .int)⟩
    · cases e
  · rename_i ts
    cases e
    match vs, hl with
    | [v], _ =>
      have s0 : Sp X.K X.mg Z Hb H ((v, .tup ts) :: P) := s
      obtain ⟨a, ws, rfl, ha, hl, _⟩ := s0.tup
      exact wC_of call_len ⟨_, ts.length, rfl, .inr ⟨ws, ha, hl.symm⟩, q _ _ (s0.drop.put fun _ => .int)⟩
  · rename_i o ts
    cases e
    match vs, hl with
    | [v], _ =>
      have s0 : Sp X.K X.mg Z Hb H ((v, .lst o ts) :: P) := s
      obtain ⟨a, ws, rfl, ha, hl, _⟩ := s0.lst
      exact wC_of call_len ⟨_, ts.length, rfl, .inl ⟨ws, .of ha, hl.symm⟩, q _ _ (s0.drop.put fun _ => .int)⟩
  · rename_i ts
    cases e
    match vs, hl with
    | [v], _ =>
      have s0 : Sp X.K X.mg Z Hb H ((v, .scr ts) :: P) := s
      obtain ⟨a, ws, rfl, ha, hl⟩ := s0.scr
      exact wC_of call_len ⟨_, ts.length, rfl, .inl ⟨ws, ha.sq, hl.symm⟩, q _ _ (s0.drop.put fun _ => .int)⟩
  · rename_i o ks ts
    cases e
    match vs, hl with
    | [v], _ =>
      have s0 : Sp X.K X.mg Z Hb H ((v, .dct o ks ts) :: P) := s
      obtain ⟨Y, F, r⟩ := s0.head
      have go : ∀ (a : Addr) (kvs : List (Key × V)), v = .ref a → Rd H a (.dK kvs) → kvs.map (·.1) = ks → wC X (.builtin "len") [v] H Q := fun a kvs ev ha hk => by
        refine wC_of call_lenR ⟨a, kvs, by rw [ev], ha, ?_⟩
        have : kvs.length = ks.length := by rw [← hk, List.length_map]
        rw [this]
        exact q _ _ (s0.drop.put fun _ => .int)
      cases r with
      | dctF h z e' t => exact go _ _ rfl h e'.1
      | dctO h e' t => exact go _ _ rfl (.inl h) e'.1
  · cases e
theorem bc_abs : BC X (.builtin "abs") dAbs := by
  intro Z Hb H P vs ds d hl s e Q q
  unfold dAbs at e
  split at e
  · cases e
    match vs, hl with
    | [v], _ =>
      have s0 : Sp X.K X.mg Z Hb H ((v, _) :: P) := s
      exact wC_of call_abs ⟨_, by rw [s0.int], q _ _ (s0.drop.put fun _ => .int)⟩
  · cases e
theorem bc_int : BC X (.type "int") dInt := by
  intro Z Hb H P vs ds d hl s e Q q
  unfold dInt at e
  split at e
  · cases e
    match vs, hl with
    | [v], _ =>
      have s0 : Sp X.K X.mg Z Hb H ((v, _) :: P) := s
      exact wC_of call_int1 (.inl ⟨_, by rw [s0.int], q _ _ (s0.drop.put fun _ => .int)⟩)
  · cases e
    match vs, hl with
    | [v], _ =>
      have s0 : Sp X.K X.mg Z Hb H ((v, _) :: P) := s
      exact wC_of call_int1 (.inr ⟨_, by rw [s0.bl], q _ _ (s0.drop.put fun _ => .int)⟩)
  · cases e
theorem bc_min2 (hc : X.calm = true) : BC X (.builtin "min") dMin2 := by
  intro Z Hb H P vs ds d hl s e Q q
  unfold dMin2 at e
  split at e
  · cases e
    match vs, hl with
    | [v, w], _ =>
      have s0 : Sp X.K X.mg Z Hb H ((v, _) :: (w, _) :: P) := s
      exact wC_of (call_min2 hc) ⟨_, _, by rw [s0.int, s0.drop.int], q _ _ (s0.drop.drop.put fun _ => .int)⟩
  · cases e
theorem bc_all (hc : X.calm = true) : BC X (.builtin "all") dAll := by
  intro Z Hb H P vs ds d hl s e Q q
  unfold dAll at e
  split at e
  · obtain ⟨bs, e1, rfl⟩ := Option.map_eq_some_iff.mp e
    match vs, hl with
    | [v], _ =>
      have s0 : Sp X.K X.mg Z Hb H ((v, _) :: P) := s
      obtain ⟨a, ws, Y, F, rfl, ha, r⟩ := s0.lst'
      exact wC_of (cr_all hc) ⟨a, bs, rfl, by rw [← bls_vals e1 r]; exact .of ha, q _ _ (s0.drop.put fun _ => .bl)⟩
  · cases e
theorem bc_tuple : BC X (.type "tuple") dTuple := by
  intro Z Hb H P vs ds d hl s e Q q
  unfold dTuple at e
  split at e
  · cases e
    match vs, hl with
    | [v], _ =>
      have s0 : Sp X.K X.mg Z Hb H ((v, _) :: P) := s
      obtain ⟨a, ws, rfl, ha, hl, s1⟩ := s0.lst
      exact wC_of call_tuple_of ⟨a, ws, rfl, .inl ⟨.of ha, fun p hp => q _ _ (s1.newT hl hp)⟩⟩
  · cases e
    match vs, hl with
    | [v], _ =>
      have s0 : Sp X.K X.mg Z Hb H ((v, _) :: P) := s
      obtain ⟨a, ws, rfl, ha, hl, s1⟩ := s0.tup
      exact wC_of call_tuple_of ⟨a, ws, rfl, .inr ⟨ha, q _ _ s0⟩⟩
  · cases e
end
end DL
set_option Elab.async false
set_option linter.all false
set_option maxRecDepth 100000
set_option maxHeartbeats 4000001
namespace DL
open PySem.Spec PySem L2 PyProof.Rows
/-- the def at f keeps the promise sp, wherever there is room, no exception is handled and no repr is under way -/
structure FnG (P : Program) (w : World) (K : PySem.W.Frag) (mg : Str → Option Value) (base : Heap) (k : Nat) (f : Addr) (fd : FuncData) (ps : List Str) (sp : L2.Sp) : Prop where
  len : ∀ (vs : List V) (H : Hp) (Q : VK) (E : XK), sp vs H Q E → vs.length = ps.length
  run : ∀ (A : Around) (outer : List PySem.Env) (s : Shared) (H : Hp) (args : Args) (us : List Value) (vs : List V) (Q : VK) (E : XK), Room k A → A.guards = some [] →
    Env0 P w K mg base A outer s H → BindsTo s fd args (ps.zip us) → Vals vs us → sp vs H Q E → codeAny (model P w) A (.call (.ref f) args) (CR CX0 outer P w H s Q E) s
theorem FnG.mono {P : Program} {w : World} {K : PySem.W.Frag} {mg : Str → Option Value} {base : Heap} {j k : Nat} {f : Addr} {fd : FuncData} {ps : List Str} {sp : L2.Sp} (F : FnG P w K mg base j f fd ps sp) (h : j ≤ k) : FnG P w K mg base k f fd ps sp :=
  ⟨F.len, fun A outer s H args us vs Q E hr => F.run A outer s H args us vs Q E (hr.mono h)⟩
section
variable {P : Program} {w : World} {K : PySem.W.Frag} {mg : Str → Option Value} {base : Heap} {k : Nat} {f : Addr} {x qual : Str} {params : Arguments} {body : List Stmt} {scope : Scope} {dvs : List V} {kws : List (Str × V)} {fd : FuncData} {N ps : List Str} {sp : L2.Sp}
/-- a def's body: X, the context in which it stands -/
theorem FnG.of (F : FunD K x qual params body scope dvs kws f fd) (S : FnScope N ps scope) (len : ∀ vs H Q E, sp vs H Q E → vs.length = ps.length)
    (hb : ∀ (cdv : Value) (A : Around) (outer : List PySem.Env) (s : Shared) (H : Hp) (vs : List V) (Q : VK) (E : XK), Room k (A.deeper (envOfC qual scope s.heap.objs.size f cdv)) → (A.deeper (envOfC qual scope s.heap.objs.size f cdv)).guards = some [] → sp vs H Q E →
      wSs (cxOf CX0 P w K mg base N qual scope f cdv A outer s H E).nox body { nx := fun _ H' => Q .non H', rt := Q } (start N vs) H) : FnG P w K mg base (k + 1) f fd ps sp := by
  (obtain ⟨oc, od, dV, kV, doc, pm, an, cdv, ct, osl, rfl, lk, hcd, _, _⟩ := F.ex)
  refine ⟨len, fun A outer s H args us vs Q E hr hg e0 hbi rv hsp => ?_⟩
  have inK : K.In s.heap := e0.mod.kin.keeps fun b o e => (e0.bs b o e).1
  have hlim : s.heap.NoLimit := e0.mod.nolimit.keeps fun b o e => (e0.bs b o e).1
  have kinds : ∀ y ∈ ps.zip us, scope.names.lookup y.1 = some .local ∨ (scope.names.lookup y.1 = some .cell ∧ ((cellsFrom (s.heap.objs.size + 1) scope.names []).lookup y.1).isSome = true) := by
    rintro ⟨n, v⟩ hy
    exact (S.par n (List.of_mem_zip hy).1).imp id fun q => ⟨q, PySem.W.cellsFrom_some _ _ _ (.inl q)⟩
  have hbind := hbi
  refine codeAny_call_function hr.depth (inK _ _ lk) rfl S.co S.gen rfl
    (PySem.W.codeRec_of inK hcd) (hbind _ _ _ _ ?_)
  refine wpAny_newFunctionEnv_cells S.kind kinds fun env he s1 x1 => ?_
  subst he
  refine ⟨hlim.keeps x1.toInCall.keep, codeAny_func ?_⟩
  have I : Inv (cxOf CX0 P w K mg base N qual scope f cdv A outer s H E) [] (start N vs) H s1 := inv_start S hr.hd e0 (len _ _ _ _ hsp) rv x1
  have run := hb cdv A outer s H vs Q E (hr.deeper _) hg hsp
  refine wpAny_mono (run [] s1 (I.wish _)) (fun fl s' hs => ?_) fun e s' hs => hs.elim
  have hs := hs.unwish
  have fin : ∀ {σ' : L2.St} {H' : Hp} {v : V} {u : Value}, Inv (cxOf CX0 P w K mg base N qual scope f cdv A outer s H E) [] σ' H' s' → RelV v u → Q v H' → CE outer P w H s Q u s' :=
    fun {σ' H' v u} J r q => ⟨v, H', J.os, J.bare, J.base, J.hok, r, q⟩
  match fl, hs with
  | .ret u, ⟨v, σ', H', J, r, q⟩ => exact fin J r q
  | .next, ⟨σ', H', J, q⟩ => exact fin (v := V.non) (u := Value.none) J rfl q
  | .brk, ⟨_, _, _, q⟩ => exact q.elim
  | .cont, ⟨_, _, _, q⟩ => exact q.elim
end
section
variable {X : Cx} {k : Nat} {f : Addr} {fd : FuncData} {ps : List Str} {sp : L2.Sp} {dvs : List V} {ds : List Value} {x m : Str} {p pos apos : Pos} {e : Expr} {es : List Expr}
/-- the callee runs -/
theorem FnG.go (F : FnG X.prog X.w X.K X.mg X.base k f fd ps sp) (hr : Room k X.A) (hg : X.A.guards = some []) {pins : List (Addr × Obj)} {σ : L2.St} {H : Hp} {s : Shared} {Q : VK} {us : List Value} {vs : List V} {args : Args} (I : Inv X pins σ H s) (hb : BindsTo s fd args (ps.zip us)) (rv : Vals vs us) (h : sp vs H Q E0) :
    codeAny (model X.prog X.w) X.A (.call (.ref f) args) (fun r s' => match r with
      | .ok (.ret u) => EP X pins σ Q u s'
      | _ => False) s := by
  refine codeAny_mono (F.run X.A X.stack s H args us vs Q E0 hr hg I.env0 hb rv h) fun r s' hq => ?_
  match r, hq with
  | .ok (.ret u), hq => exact I.after hq
end
end DL
namespace DL
open PySem.Spec PySem L2 PyProof.Rows
abbrev MF := List D → Option (D × List D)
def spD (K : PySem.W.Frag) (mg : Str → Option Value) (n : Nat) (m : MF) : L2.Sp := fun vs H Q _ => vs.length = n ∧ ∃ (Z : Addr → Prop) (Hb : Hp) (ds : List D) (r : D) (ds' : List D),
  ds.length = n ∧ Sp K mg Z Hb H (vs.zip ds) ∧ m ds = some (r, ds') ∧ ∀ v H', Sp K mg Z Hb H' ((v, r) :: vs.zip ds') → Q v H'
/-- an argument: a slot of the caller's, or a value -/
inductive AS where
  | v (i : Nat)
  | e (m : ME)
inductive AR where
  | v (i : Nat)
  | e (d : D)
def mArgs : List AS → Env → Option (List AR × Env)
  | [], δ => some ([], δ)
  | .v i :: r, δ => match δ[i]? with
    | some (some _) => match mArgs r δ with
      | some (rs, δ1) => some (.v i :: rs, δ1)
      | none => none
    | _ => none
  | .e m :: r, δ => match m δ with
    | some (d, δ1) => match mArgs r δ1 with
      | some (rs, δ2) => some (.e d :: rs, δ2)
      | none => none
    | none => none
/-- what is handed over: the trees, and which slots are lent -/
def lend : List AR → Env → Option (List (D × Option Nat) × Env)
  | [], δ => some ([], δ)
  | .v i :: r, δ => match δ[i]? with
    | some (some d) => if isFz d then match lend r δ with
        | some (ls, δ1) => some ((d, none) :: ls, δ1)
        | none => none
      else match lend r (δ.set i none) with
        | some (ls, δ1) => some ((d, some i) :: ls, δ1)
        | none => none
    | _ => none
  | .e d :: r, δ => match lend r δ with
    | some (ls, δ1) => some ((d, none) :: ls, δ1)
    | none => none
/-- what was lent comes back -/
def restore : List (D × Option Nat) → List D → Env → Env
  | (_, some i) :: ls, d :: ds, δ => restore ls ds (δ.set i (some d))
  | (_, none) :: ls, _ :: ds, δ => restore ls ds δ
  | _, _, δ => δ
def mCall (m : MF) (as : List AS) (dd : List D) : ME := fun δ => match mArgs as δ with
  | some (rs, δ1) => match lend rs δ1 with
    | some (ls, δ2) => match m (ls.map (·.1) ++ dd) with
      | some (r, ds') => if ds'.length = ls.length + dd.length then some (r, restore ls ds' δ2) else none
      | none => none
    | none => none
  | none => none
/-- the arguments' values: those of the slots, those of the temporary pairs -/
inductive AV (σ : L2.St) : List AR → List V → PL → Prop
  | nil : AV σ [] [] []
  | v {i v rs vs T} : σ[i]? = some (some v) → AV σ rs vs T → AV σ (.v i :: rs) (v :: vs) T
  | e {d v rs vs T} : AV σ rs vs T → AV σ (.e d :: rs) (v :: vs) ((v, d) :: T)
def IA (X : Cx) (es : List Expr) (as : List AS) : Prop := ∀ {Z : Addr → Prop} {Hb H : Hp} {σ : L2.St} {δ : Env} {L : PL} {rs : List AR} {δ' : Env}, Sq X Z Hb H σ δ L → mArgs as δ = some (rs, δ') →
  ∀ Q : List V → Hp → Prop, (∀ vs H' T, AV σ rs vs T → Sq X Z Hb H' σ δ' (T ++ L) → Q vs H') → wA X es σ H Q
section
variable {X : Cx} {e : Expr} {es : List Expr} {as : List AS} {m : ME}
theorem ia_nil : IA X [] [] := by
  intro Z Hb H σ δ L rs δ' s e Q q
  cases e
  exact wA_of pa_nil (q [] H [] .nil s)
theorem ia_v {x : Str} {p : Pos} (i : Nat) (hp : PE X (.Name x p) (tVar i)) (t : IA X es as) (hs : starEach (.Name x p :: es) X.env = (false, eval (.Name x p) X.env) :: starEach es X.env) : IA X (.Name x p :: es) (.v i :: as) := by
  intro Z Hb H σ δ L rs δ' s e Q q
  simp only [mArgs] at e
  split at e
  · rename_i d hd
    split at e
    · rename_i rs' δ1 e1
      cases e
      obtain ⟨v, hv⟩ := s.dom.2 i d hd
      refine wA_of (pa_cons hp pa_w hs) ⟨v, hv, t s e1 _ fun vs H1 T av s1 => q _ _ T (.v hv av) s1⟩
    · cases e
  · cases e
theorem ia_e (h : IG X e m) (t : IA X es as) (hs : starEach (e :: es) X.env = (false, eval e X.env) :: starEach es X.env) : IA X (e :: es) (.e m :: as) := by
  intro Z Hb H σ δ L rs δ' s e' Q q
  simp only [mArgs] at e'
  split at e'
  · rename_i d δ1 e1
    split at e'
    · rename_i rs' δ2 e2
      cases e'
      refine wA_of (pa_cons pe_w pa_w hs) (h s e1 _ fun v H1 s1 => t s1 e2 _ fun vs H2 T av s2 => q _ _ _ (.e av) (s2.perm ?_))
      exact List.perm_middle
    · cases e'
  · cases e'
end
theorem lend_ok {X : Cx} {Z : Addr → Prop} {Hb H : Hp} {σ : L2.St} : ∀ {rs : List AR} {vs : List V} {T : PL} {δ : Env} {L : PL} {ls : List (D × Option Nat)} {δ1 : Env}, AV σ rs vs T → Sq X Z Hb H σ δ (T ++ L) → lend rs δ = some (ls, δ1) →
    Sq X Z Hb H σ δ1 (vs.zip (ls.map (·.1)) ++ L) ∧ vs.length = ls.length ∧ (∀ (j : Nat) (i : Nat) (d : D), ls[j]? = some (d, some i) → ∃ v, vs[j]? = some v ∧ σ[i]? = some (some v) ∧ i < σ.length)
  | _, _, _, δ, L, ls, δ1, .nil, s, e => by
    cases e
    exact ⟨s, rfl, fun j i d h => by simp at h⟩
  | _, _, _, δ, L, ls, δ1, .v (i := i) (v := v) (rs := rs) (vs := vs) (T := T) hv av, s, e => by
    simp only [lend] at e
    split at e
    · rename_i d hd
      have pm := prs_get hv hd
      split at e
      · rename_i hf
        split at e
        · rename_i ls' δ2 e1
          cases e
          -- a copy goes along as a temporary pair
          have s1 : Sp X.K X.mg Z Hb H ((v, d) :: (T ++ L ++ prs σ (δ.set i none))) := s.sp.perm ((pm.append_left _).trans List.perm_middle)
          have s2 : Sq X Z Hb H σ δ (T ++ ((v, d) :: L)) := ⟨(s1.dup hf).perm (by
            have p1 : List.Perm ((v, d) :: (T ++ L ++ prs σ (δ.set i none))) (T ++ L ++ prs σ δ) := ((pm.append_left (T ++ L)).trans List.perm_middle).symm
            have p2 := p1.cons (v, d)
            refine p2.trans ?_
            (rw [List.append_assoc, List.append_assoc])
            exact List.perm_middle.symm), s.dom⟩
          obtain ⟨s3, hl, hj⟩ := lend_ok av s2 e1
          refine ⟨s3.perm ?_, by simp [hl], fun j i' d' h => ?_⟩
          · show List.Perm _ ((v, d) :: (vs.zip (ls'.map (·.1)) ++ L))
            exact List.perm_middle
          · cases j with
            | zero => simp at h
            | succ j => exact hj j i' d' (by simpa using h)
        · cases e
      · split at e
        · rename_i ls' δ2 e1
          cases e
          have s1 : Sq X Z Hb H σ (δ.set i none) (T ++ ((v, d) :: L)) := ⟨s.sp.perm (by
            have p1 : List.Perm (T ++ L ++ prs σ δ) ((v, d) :: (T ++ L ++ prs σ (δ.set i none))) := (pm.append_left (T ++ L)).trans List.perm_middle
            refine p1.trans ?_
            (rw [List.append_assoc, List.append_assoc])
            exact List.perm_middle.symm), s.dom.drop i⟩
          obtain ⟨s3, hl, hj⟩ := lend_ok av s1 e1
          refine ⟨s3.perm ?_, by simp [hl], fun j i' d' h => ?_⟩
          · show List.Perm _ ((v, d) :: (vs.zip (ls'.map (·.1)) ++ L))
            exact List.perm_middle
          · cases j with
            | zero =>
              simp at h
              obtain ⟨_, rfl⟩ := h
              exact ⟨v, rfl, hv, (List.getElem?_eq_some_iff.mp hv).1⟩
            | succ j => exact hj j i' d' (by simpa using h)
        · cases e
    · cases e
  | _, _, _, δ, L, ls, δ1, .e (d := d) (v := v) (rs := rs) (vs := vs) (T := T) av, s, e => by
    simp only [lend] at e
    split at e
    · rename_i ls' δ2 e1
      cases e
      have s1 : Sq X Z Hb H σ δ (T ++ ((v, d) :: L)) := s.perm List.perm_middle.symm
      obtain ⟨s3, hl, hj⟩ := lend_ok av s1 e1
      refine ⟨s3.perm ?_, by simp [hl], fun j i' d' h => ?_⟩
      · show List.Perm _ ((v, d) :: (vs.zip (ls'.map (·.1)) ++ L))
        exact List.perm_middle
      · cases j with
        | zero => simp at h
        | succ j => exact hj j i' d' (by simpa using h)
    · cases e
theorem restore_ok {X : Cx} {Z : Addr → Prop} {Hb H : Hp} {σ : L2.St} : ∀ {ls : List (D × Option Nat)} {vs : List V} {ds : List D} {δ : Env} {L : PL}, vs.length = ls.length → ds.length = ls.length →
    (∀ (j : Nat) (i : Nat) (d : D), ls[j]? = some (d, some i) → ∃ v, vs[j]? = some v ∧ σ[i]? = some (some v) ∧ i < σ.length) → Sq X Z Hb H σ δ (vs.zip ds ++ L) → Sq X Z Hb H σ (restore ls ds δ) L
  | [], vs, ds, δ, L, hv, hd, _, s => by
    have e1 : vs = [] := List.eq_nil_of_length_eq_zero hv
    have e2 : ds = [] := List.eq_nil_of_length_eq_zero hd
    subst e1 e2
    exact s
  | (d0, o) :: ls, [], _, _, _, hv, _, _, _ => by simp at hv
  | (d0, o) :: ls, _ :: _, [], _, _, _, hd, _, _ => by simp at hd
  | (d0, none) :: ls, v :: vs, d :: ds, δ, L, hv, hd, hj, s => by
    simp only [restore]
    have s' : Sq X Z Hb H σ δ ((v, d) :: (vs.zip ds ++ L)) := s
    exact restore_ok (by simpa using hv) (by simpa using hd) (fun j i d' h => by simpa using hj (j + 1) i d' (by simpa using h)) s'.drop
  | (d0, some i) :: ls, v :: vs, d :: ds, δ, L, hv, hd, hj, s => by
    simp only [restore]
    obtain ⟨v', e1, e2, e3⟩ := hj 0 i d0 rfl
    have e4 : v = v' := by simpa using e1
    subst e4
    refine restore_ok (by simpa using hv) (by simpa using hd) (fun j i d' h => by simpa using hj (j + 1) i d' (by simpa using h)) ?_
    -- the pair goes into its slot (what stood there is given up)
    have hset : σ.set i (some v) = σ := by
      apply List.ext_getElem?
      intro n
      rw [List.getElem?_set]
      by_cases h : i = n
      · subst h; rw [if_pos rfl, if_pos e3, e2]
      · rw [if_neg h]
    have pm := prs_set (σ := σ) (δ := δ) (i := i) (v := v) (d := d) e3 s.dom.1
    rw [hset] at pm
    refine ⟨Sp.perm (P := (v, d) :: (vs.zip ds ++ L ++ prs σ (δ.set i none))) ?_ ?_, ?_⟩
    · -- the slot's old pair is dropped
      have s0 : Sp X.K X.mg Z Hb H ((v, d) :: (vs.zip ds ++ L ++ prs σ δ)) := s.sp
      cases hδ : δ[i]? with
      | none =>
        have : δ.set i none = δ := List.set_eq_of_length_le (by simpa using hδ)
        rw [this]; exact s0
      | some x => cases x with
        | none =>
          have : δ.set i none = δ := by
            apply List.ext_getElem?
            intro n
            rw [List.getElem?_set]
            by_cases h : i = n
            · subst h
              rw [if_pos rfl, hδ, if_pos (List.getElem?_eq_some_iff.mp hδ).1]
            · rw [if_neg h]
          rw [this]; exact s0
        | some dd =>
          have p1 := prs_get e2 hδ
          have s1 : Sp X.K X.mg Z Hb H ((v, dd) :: ((v, d) :: (vs.zip ds ++ L ++ prs σ (δ.set i none)))) := s0.perm (by
            have := (p1.append_left ((v, d) :: (vs.zip ds ++ L))).trans List.perm_middle
            exact this)
          exact s1.drop
    · have := (pm.append_left (vs.zip ds ++ L)).trans List.perm_middle
      exact this.symm
    · have h := s.dom.set i v (some d)
      rw [hset] at h
      exact h
end DL
set_option Elab.async false
set_option linter.all false
set_option maxRecDepth 100000
set_option maxHeartbeats 4000001
namespace DL
open PySem.Spec PySem L2 PyProof.Rows
theorem mCall_of {m : MF} {as : List AS} {dd : List D} {δ δ' : Env} {r : D} (e : mCall m as dd δ = some (r, δ')) : ∃ rs δ1 ls δ2 ds', mArgs as δ = some (rs, δ1) ∧ lend rs δ1 = some (ls, δ2) ∧ m (ls.map (·.1) ++ dd) = some (r, ds') ∧ ds'.length = ls.length + dd.length ∧ δ' = restore ls ds' δ2 := by
  unfold mCall at e
  split at e
  · rename_i rs δ1 e1
    split at e
    · rename_i ls δ2 e2
      split at e
      · rename_i r' ds' e3
        split at e
        · rename_i hl
          cases e
          exact ⟨rs, δ1, ls, δ2, ds', e1, e2, e3, hl, rfl⟩
        · cases e
      · cases e
    · cases e
  · cases e
theorem mArgs_len : ∀ {as : List AS} {δ δ1 : Env} {rs : List AR}, mArgs as δ = some (rs, δ1) → rs.length = as.length
  | [], _, _, _, e => by cases e; rfl
  | .v i :: as, _, _, _, e => by
    simp only [mArgs] at e
    split at e
    · split at e
      · rename_i e4
        cases e
        simp [mArgs_len e4]
      · cases e
    · cases e
  | .e m :: as, _, _, _, e => by
    simp only [mArgs] at e
    split at e
    · split at e
      · rename_i e4
        cases e
        simp [mArgs_len e4]
      · cases e
    · cases e
theorem restore_take : ∀ {ls : List (D × Option Nat)} {ds : List D} {δ : Env} {n : Nat}, ls.length ≤ n → restore ls (ds.take n) δ = restore ls ds δ
  | [], ds, δ, n, _ => by simp [restore]
  | (d, o) :: ls, [], δ, n, _ => by simp
  | (d, o) :: ls, x :: ds, δ, 0, h => by simp at h
  | (d, none) :: ls, x :: ds, δ, n + 1, h => by simp only [List.take_succ_cons, restore]; exact restore_take (by simpa using h)
  | (d, some i) :: ls, x :: ds, δ, n + 1, h => by simp only [List.take_succ_cons, restore]; exact restore_take (by simpa using h)
section
variable {X : Cx} {k : Nat} {f : Addr} {fd : FuncData} {ps : List Str} {n : Nat} {m : MF} {x : Str} {p pos apos : Pos} {e : Expr} {es : List Expr} {as : List AS}
/-- the callee over the caller's state: rs the arguments' results, dd the defaults' trees (closed) -/
theorem call_run {dvs : List V} {dd : List D} {Z : Addr → Prop} {Hb H : Hp} {σ : L2.St} {δ δ2 : Env} {L T : PL} {rs : List AR} {vs : List V} {ls : List (D × Option Nat)} {r : D} {ds' : List D} (hdd : ∀ H Y, Reps X.K X.mg H Y dvs dd []) (hn : rs.length + dd.length = n)
    (av : AV σ rs vs T) (s : Sq X Z Hb H σ δ (T ++ L)) (el : lend rs δ = some (ls, δ2)) (em : m (ls.map (·.1) ++ dd) = some (r, ds')) (hl : ds'.length = ls.length + dd.length)
    (Q : VK) (q : ∀ v H', Sq X Z Hb H' σ (restore ls ds' δ2) ((v, r) :: L) → Q v H') : spD X.K X.mg n m (vs ++ dvs) H Q E0 := by
  obtain ⟨s1, hv, hj⟩ := lend_ok av s el
  have lav : rs.length = vs.length := by
    clear hj hv s1 s el em hl q hn
    induction av with
    | nil => rfl
    | v _ _ ih => simp [ih]
    | e _ ih => simp [ih]
  have ldd : dvs.length = dd.length := (hdd H fun _ => True).len
  have s2 : Sp X.K X.mg Z Hb H (((vs ++ dvs).zip (ls.map (·.1) ++ dd)) ++ (L ++ prs σ δ2)) := by
    rw [zip_append (by simp [hv])]
    have c : Sp X.K X.mg Z Hb H (dvs.zip dd ++ (vs.zip (ls.map (·.1)) ++ L ++ prs σ δ2)) := by
      have h0 := s1.sp
      obtain ⟨⟨F, rr, nd, hb⟩, b, fr⟩ := h0
      exact ⟨⟨F, Rps.append (F := []) (hdd H _).zip rr, nd, hb⟩, b, fr⟩
    refine c.perm ?_
    (rw [List.append_assoc, List.append_assoc])
    exact List.perm_append_comm_assoc _ _ _
  obtain ⟨Z', Hc, sc, back⟩ := s2.lend
  refine ⟨by rw [List.length_append]; omega, Z', Hc, ls.map (·.1) ++ dd, r, ds', by simp; omega, sc, em, fun v H' s' => q v H' ?_⟩
  have s3 := back H' _ s'
  -- the returned trees: the first of them go back, the defaults' are given up
  have hz : (vs ++ dvs).zip ds' = vs.zip (ds'.take ls.length) ++ dvs.zip (ds'.drop ls.length) := by
    conv => lhs; rw [← List.take_append_drop ls.length ds']
    exact zip_append (by simp; omega)
  rw [hz] at s3
  have s4 : Sp X.K X.mg Z Hb H' (dvs.zip (ds'.drop ls.length) ++ ((vs.zip (ds'.take ls.length) ++ ((v, r) :: L)) ++ prs σ δ2)) := s3.perm (by
    (simp only [List.cons_append, List.append_assoc])
    refine List.Perm.trans ?_ (List.perm_append_comm_assoc _ _ _)
    refine List.Perm.trans (List.perm_middle.symm.trans ?_) (List.Perm.refl _)
    (refine List.Perm.append_left _ ?_)
    exact List.perm_middle.symm)
  have s5 : Sq X Z Hb H' σ δ2 (vs.zip (ds'.take ls.length) ++ ((v, r) :: L)) := ⟨s4.dropL, s1.dom⟩
  have s6 := restore_ok (by simpa using hv) (by simp; omega) hj s5
  rw [restore_take (Nat.le_refl _)] at s6
  exact s6
def tCallG (sp : L2.Sp) (dvs : List V) (t : TA) : TE := fun σ H Q => t σ H fun vs H1 => sp (vs ++ dvs) H1 Q E0
theorem pe_callG {sp : L2.Sp} {dvs : List V} {dsv : List Value} (F : FnG X.prog X.w X.K X.mg X.base k f fd ps sp) (hr : Room k X.A) (hg : X.A.guards = some []) (hgl : Gl X x) (hm : X.mg x = some (.ref f)) (hk : PySem.W.keepIn X.K (.ref f) = true) (hb : Binds X.K fd ps dsv) (hd : Vals dvs dsv)
    (hdb : (x == ("__debug__" : Str)) = false) (he : starEach (e :: es) X.env = (false, eval e X.env) :: starEach es X.env) (hpl : (backTo pos (starEach es X.env)).any (·.1) = false) :
    PE X (.Call (.Name x p) (e :: es) [] pos) (tCallG sp dvs (wA X (e :: es))) := by
  refine ⟨fun pins s σ H Q I h => wpAny_Call_Name_kw (ld_glob I hgl hm ?_ hdb)⟩
  refine PySem.W.callWith_K (h₀ := X.base) I.ok.mod.kin hk (thn (h pos pins s I) fun us s1 ⟨vs, H1, I1, r, q⟩ => ⟨I1.kIn, ?_⟩) he hpl
  have r2 : Vals (vs ++ dvs) (us ++ dsv) := r.append hd
  have hl : (us ++ dsv).length = ps.length := by rw [← r2.length]; exact F.len _ _ _ _ q
  refine wpAny_call (codeAny_mono (F.go hr hg I1 (hb s1 us I1.kIn hl) r2 q) fun r s' hq => ?_)
  match r, hq with
  | .ok (.ret u), hq => exact hq
/-- f(e, ..), the defaults' trees behind -/
theorem ig_call (dd : List D) {dvs : List V} {dsv : List Value} (F : FnG X.prog X.w X.K X.mg X.base k f fd ps (spD X.K X.mg n m)) (hr : Room k X.A) (hg : X.A.guards = some []) (hgl : Gl X x) (hm : X.mg x = some (.ref f)) (hk : PySem.W.keepIn X.K (.ref f) = true) (hb : Binds X.K fd ps dsv) (hd : Vals dvs dsv)
    (hdd : ∀ H Y, Reps X.K X.mg H Y dvs dd []) (ha : IA X (e :: es) as) (hn : as.length + dd.length = n)
    (hdb : (x == ("__debug__" : Str)) = false) (he : starEach (e :: es) X.env = (false, eval e X.env) :: starEach es X.env) (hpl : (backTo pos (starEach es X.env)).any (·.1) = false) :
    IG X (.Call (.Name x p) (e :: es) [] pos) (mCall m as dd) := by
  intro Z Hb H σ δ L d δ' s e' Q q
  obtain ⟨rs, δ1, ls, δ2, ds', e1, e2, e3, hl, rfl⟩ := mCall_of e'
  refine wE_of (pe_callG F hr hg hgl hm hk hb hd hdb he hpl) ?_
  refine ha s e1 _ fun vs H1 T av s1 => call_run hdd ?_ av s1 e2 e3 hl Q q
  have := mArgs_len e1
  omega
end
end DL
namespace DL
open PySem.Spec PySem L2 PyProof.Rows
inductive Fl where
  | nx (δ : Env)
  | rt (d : D) (δ : Env)
  | bk (δ : Env)
  | ct (δ : Env)
abbrev MS := Env → Option Fl
def SameP (P : Nat → Bool) (σ σ' : L2.St) : Prop := ∀ i, P i = true → σ'[i]? = σ[i]?
theorem SameP.refl {P : Nat → Bool} {σ : L2.St} : SameP P σ σ := fun _ _ => rfl
theorem SameP.trans {P : Nat → Bool} {σ σ1 σ2 : L2.St} (a : SameP P σ σ1) (b : SameP P σ1 σ2) : SameP P σ σ2 := fun i h => (b i h).trans (a i h)
theorem SameP.set {P : Nat → Bool} {σ : L2.St} {i : Nat} (h : P i = false) (x : Option V) : SameP P σ (σ.set i x) := fun j hj => by
  have : i ≠ j := fun e => by subst e; rw [h] at hj; cases hj
  rw [List.getElem?_set_ne this]
def Fin (X : Cx) (P : Nat → Bool) (Z : Addr → Prop) (Hb : Hp) (σ : L2.St) (L : PL) (Dn : Ends) : Fl → Prop
  | .nx δ' => ∀ σ' H', Sq X Z Hb H' σ' δ' L → SameP P σ σ' → Dn.nx σ' H'
  | .bk δ' => ∀ σ' H', Sq X Z Hb H' σ' δ' L → SameP P σ σ' → Dn.bk σ' H'
  | .ct δ' => ∀ σ' H', Sq X Z Hb H' σ' δ' L → SameP P σ σ' → Dn.ct σ' H'
  | .rt d δ' => ∀ v σ' H', Sq X Z Hb H' σ' δ' ((v, d) :: L) → SameP P σ σ' → Dn.rt v H'
def IS (X : Cx) (P : Nat → Bool) (st : Stmt) (m : MS) : Prop := ∀ {Z : Addr → Prop} {Hb H : Hp} {σ : L2.St} {δ : Env} {L : PL} {fl : Fl}, Sq X Z Hb H σ δ L → m δ = some fl → ∀ Dn : Ends, Fin X P Z Hb σ L Dn fl → wS X st Dn σ H
def ISs (X : Cx) (P : Nat → Bool) (sts : List Stmt) (m : MS) : Prop := ∀ {Z : Addr → Prop} {Hb H : Hp} {σ : L2.St} {δ : Env} {L : PL} {fl : Fl}, Sq X Z Hb H σ δ L → m δ = some fl → ∀ Dn : Ends, Fin X P Z Hb σ L Dn fl → wSs X sts Dn σ H
def sNil : MS := fun δ => some (.nx δ)
def sCons (a b : MS) : MS := fun δ => match a δ with
  | some (.nx δ1) => b δ1
  | r => r
def sExpr (m : ME) : MS := fun δ => match m δ with
  | some (_, δ1) => some (.nx δ1)
  | none => none
def sSet (i : Nat) (m : ME) : MS := fun δ => match m δ with
  | some (d, δ1) => if i < δ1.length then some (.nx (δ1.set i (some d))) else none
  | none => none
def sRet (m : ME) : MS := fun δ => match m δ with
  | some (d, δ1) => some (.rt d δ1)
  | none => none
def sIf (t : MT) (a b : MS) : MS := fun δ => match t δ with
  | some (true, δ1) => a δ1
  | some (false, δ1) => b δ1
  | none => none
def sStuck : MS := fun _ => none
section
variable {X : Cx} {P : Nat → Bool} {st : Stmt} {sts ts us : List Stmt} {a b : MS} {e c : Expr} {m : ME} {t : MT} {pos : Pos}
theorem Fin.mono {Z : Addr → Prop} {Hb : Hp} {σ σ' : L2.St} {L : PL} {Dn : Ends} {fl : Fl} (h : Fin X P Z Hb σ L Dn fl) (hs : SameP P σ σ') : Fin X P Z Hb σ' L Dn fl := by
  cases fl with
  | nx δ => exact fun σ2 H s q => h σ2 H s (hs.trans q)
  | bk δ => exact fun σ2 H s q => h σ2 H s (hs.trans q)
  | ct δ => exact fun σ2 H s q => h σ2 H s (hs.trans q)
  | rt d δ => exact fun v σ2 H s q => h v σ2 H s (hs.trans q)
theorem iss_nil : ISs X P [] sNil := by
  intro Z Hb H σ δ L fl s e Dn f
  cases e
  exact wSs_of pss_nil (f σ H s .refl)
theorem iss_cons (h : IS X P st a) (t : ISs X P sts b) : ISs X P (st :: sts) (sCons a b) := by
  intro Z Hb H σ δ L fl s e Dn f
  refine wSs_of (pss_cons ps_w pss_w) ?_
  show wS X st { Dn with nx := wSs X sts Dn } σ H
  unfold sCons at e
  split at e
  · rename_i δ1 e1
    exact h s e1 _ fun σ' H' s' q => t s' e Dn (f.mono q)
  · rename_i hn
    refine h s e _ ?_
    cases fl with
    | nx δ => exact absurd e (hn δ)
    | bk δ => exact f
    | ct δ => exact f
    | rt d δ => exact f
theorem iss_one (h : IS X P st a) : ISs X P [st] a := by
  intro Z Hb H σ δ L fl s e Dn f
  exact wSs_of (pss_one ps_w) (h s e Dn f)
theorem is_expr (h : IG X e m) (hs : swapsWith e none pos.line X.env = pure false) : IS X P (.Expr e pos) (sExpr m) := by
  intro Z Hb H σ δ L fl s e' Dn f
  unfold sExpr at e'
  split at e'
  · rename_i d δ1 e1
    cases e'
    exact wS_of (ps_expr pe_w hs) (h s e1 _ fun v H' s' => f σ H' s'.drop .refl)
  · cases e'
theorem is_ret (h : IG X e m) : IS X P (.Return (some e) pos) (sRet m) := by
  intro Z Hb H σ δ L fl s e' Dn f
  unfold sRet at e'
  split at e'
  · rename_i d δ1 e1
    cases e'
    exact wS_of (ps_ret pe_w) (h s e1 _ fun v H' s' => f v σ H' s' .refl)
  · cases e'
theorem is_if (hc : IT X c t) (ha : ISs X P ts a) (hb : ISs X P us b) : IS X P (.If c ts us pos) (sIf t a b) := by
  intro Z Hb H σ δ L fl s e' Dn f
  refine wS_of (ps_if pt_w pss_w pss_w) ?_
  unfold sIf at e'
  split at e'
  · rename_i δ1 e1
    refine hc s e1 _ fun H1 s1 => ?_
    rw [if_pos rfl]
    exact ha s1 e' Dn f
  · rename_i δ1 e1
    refine hc s e1 _ fun H1 s1 => ?_
    (rw [if_neg Bool.false_ne_true])
    exact hb s1 e' Dn f
  · cases e'
theorem is_stuck : IS X P st sStuck := by
  intro Z Hb H σ δ L fl s e' Dn f
  cases e'
/-- a temporary pair goes into a slot -/
theorem Sq.store {Z : Addr → Prop} {Hb H : Hp} {σ : L2.St} {δ : Env} {L : PL} {v : V} {d : D} {i : Nat} (s : Sq X Z Hb H σ δ ((v, d) :: L)) (hi : i < δ.length) : Sq X Z Hb H (σ.set i (some v)) (δ.set i (some d)) L := by
  have hl := s.dom.1
  have pm := prs_set (σ := σ) (δ := δ) (i := i) (v := v) (d := d) (by omega) hl
  refine ⟨?_, s.dom.set i v _⟩
  -- what stood there is given up
  have s0 : Sp X.K X.mg Z Hb H ((v, d) :: (L ++ prs σ (δ.set i none))) := by
    have s1 : Sp X.K X.mg Z Hb H ((v, d) :: (L ++ prs σ δ)) := s.sp
    cases hδ : δ[i]? with
    | none => exact absurd hδ (by simp [hi])
    | some x => cases x with
      | none =>
        have : δ.set i none = δ := by
          apply List.ext_getElem?
          intro n
          rw [List.getElem?_set]
          by_cases h : i = n
          · subst h; rw [if_pos rfl, hδ, if_pos hi]
          · rw [if_neg h]
        rw [this]; exact s1
      | some dd =>
        obtain ⟨w, hw⟩ := s.dom.2 i dd hδ
        have p1 := prs_get hw hδ
        have s2 : Sp X.K X.mg Z Hb H ((w, dd) :: ((v, d) :: (L ++ prs σ (δ.set i none)))) := s1.perm (by
          have := (p1.append_left ((v, d) :: L)).trans List.perm_middle
          exact this)
        exact s2.drop
  exact s0.perm ((pm.append_left L).trans List.perm_middle).symm
theorem is_set {x : Str} {pos' : Pos} (i : Nat) (hP : P i = false) (hN : X.N.Nodup) (hi : X.N[i]? = some x) (hx : Loc X.env.scope x) (h : IG X e m) (hs : swapsWith e (some (.Name x pos')) pos.line X.env = pure false) (hf : X.fn x = true ∨ X.env.scope.names.lookup x = some .local) :
    IS X P (.Assign [.Name x pos'] e pos) (sSet i m) := by
  intro Z Hb H σ δ L fl s e' Dn f
  unfold sSet at e'
  split at e'
  · rename_i d δ1 e1
    split at e'
    · rename_i hl
      cases e'
      exact wS_of (ps_set hN hi hx pe_w hs hf) (h s e1 _ fun v H' s' => f _ H' (s'.store hl) (.set hP _))
    · cases e'
  · cases e'
/-- a, b = x, y -/
def sPar (is : List Nat) (r : ML) : MS := fun δ => match r δ with
  | some (ds, δ1) => if ds.length = is.length ∧ (∀ i ∈ is, i < δ1.length) then some (.nx ((is.zip ds).foldl (fun δ p => δ.set p.1 (some p.2)) δ1)) else none
  | none => none
theorem is_par3 {r : ML} {i j l : Nat} {x y z : Str} {px py pz pt : Pos} {kt k2 pt2} {ea eb ec : Expr} (hPi : P i = false) (hPj : P j = false) (hPl : P l = false)
    (hp : PS X (.Assign [.Tuple [.Name x px, .Name y py, .Name z pz] kt pt] (.Tuple [ea, eb, ec] k2 pt2) pos) (tPar3 i j l (wA X [ea, eb, ec]))) (h : IL X [ea, eb, ec] r) :
    IS X P (.Assign [.Tuple [.Name x px, .Name y py, .Name z pz] kt pt] (.Tuple [ea, eb, ec] k2 pt2) pos) (sPar [i, j, l] r) := by
  intro Z Hb H σ δ L fl s e' Dn f
  unfold sPar at e'
  split at e'
  · rename_i ds δ1 e1
    split at e'
    · rename_i hl
      obtain ⟨hl, hb⟩ := hl
      match ds, hl with
      | [d1, d2, d3], _ =>
        cases e'
        refine wS_of hp (h s e1 _ fun vs H' hv s' => ?_)
        match vs, hv with
        | [v1, v2, v3], _ =>
          have s2 : Sq X Z Hb H' (σ.set i (some v1)) (δ1.set i (some d1)) ((v2, d2) :: (v3, d3) :: L) := Sq.store (v := v1) (d := d1) s' (hb i (by simp))
          have s3 : Sq X Z Hb H' ((σ.set i (some v1)).set j (some v2)) ((δ1.set i (some d1)).set j (some d2)) ((v3, d3) :: L) := s2.store (by simpa using hb j (by simp))
          exact ⟨v1, v2, v3, rfl, f _ H' (s3.store (by simpa using hb l (by simp))) (((SameP.set hPi _).trans (SameP.set hPj _)).trans (SameP.set hPl _))⟩
    · cases e'
  · cases e'
end
/-- slots that are parameters and never stored come back; the others must have come frozen -/
def backs (P : Nat → Bool) : Nat → List D → Env → Option (List D)
  | _, [], _ => some []
  | i, d :: ds, δ => match backs P (i + 1) ds δ with
    | some r => if P i then match δ[i]? with
        | some (some d') => some (d' :: r)
        | _ => none
      else if isFz d then some (d :: r) else none
    | none => none
def mFun (np N : Nat) (P : Nat → Bool) (mb : MS) : MF := fun ds => if ds.length = np then match mb (ds.map some ++ List.replicate (N - np) none) with
  | some (.rt r δ) => match backs P 0 ds δ with
    | some bs => some (r, bs)
    | none => none
  | some (.nx δ) => match backs P 0 ds δ with
    | some bs => some (.non, bs)
    | none => none
  | _ => none else none
theorem backs_ok {X : Cx} {P : Nat → Bool} {Z : Addr → Prop} {Hb H : Hp} {σ0 σ : L2.St} : ∀ {ds : List D} {vs : List V} {i : Nat} {δ : Env} {L R : PL} {bs : List D}, vs.length = ds.length → (∀ j v, vs[j]? = some v → σ0[i + j]? = some (some v)) → SameP P σ0 σ →
    Dom σ δ → Sp X.K X.mg Z Hb H (L ++ (prs σ δ ++ ((vs.zip ds).filter fun p => isFz p.2) ++ R)) → backs P i ds δ = some bs → Sp X.K X.mg Z Hb H (L ++ (vs.zip bs ++ R))
  | [], vs, i, δ, L, R, bs, hl, _, _, _, s, e => by
    cases e
    have : vs = [] := List.eq_nil_of_length_eq_zero hl
    subst this
    have s1 : Sp X.K X.mg Z Hb H (prs σ δ ++ (L ++ R)) := s.perm (by
      simp only [List.zip_nil_left, List.filter_nil, List.append_nil]
      exact List.perm_append_comm_assoc _ _ _)
    simpa using s1.dropL
  | d :: ds, [], _, _, _, _, _, hl, _, _, _, _, _ => by simp at hl
  | d :: ds, v :: vs, i, δ, L, R, bs, hl, h0, sp, dm, s, e => by
    simp only [backs] at e
    have step : ∀ {δ' : Env} {L' : PL} {r : List D}, Dom σ δ' → Sp X.K X.mg Z Hb H (L' ++ (prs σ δ' ++ ((vs.zip ds).filter fun p => isFz p.2) ++ R)) → backs P (i + 1) ds δ' = some r → Sp X.K X.mg Z Hb H (L' ++ (vs.zip r ++ R)) :=
      fun hd hs he => backs_ok (by simpa using hl) (fun j v' h => by have := h0 (j + 1) v' (by simpa using h); rw [← this]; congr 1; omega) sp hd hs he
    split at e
    · rename_i r er
      split at e
      · rename_i hP
        split at e
        · rename_i d' hd'
          cases e
          have hv : σ[i]? = some (some v) := by rw [sp i hP]; exact h0 0 v rfl
          have pm := prs_get hv hd'
          -- the slot's own pair is taken out; backs of the rest does not ask it
          have er' : backs P (i + 1) ds (δ.set i none) = some r := by
            have : ∀ (ds : List D) (j : Nat), i < j → backs P j ds (δ.set i none) = backs P j ds δ := by
              intro ds
              induction ds with
              | nil => intro j _; rfl
              | cons x ds ih =>
                intro j hj
                simp only [backs, ih (j + 1) (by omega), List.getElem?_set_ne (show i ≠ j by omega)]
            rw [this ds (i + 1) (by omega)]; exact er
          have s1 : Sp X.K X.mg Z Hb H (((v, d') :: L) ++ (prs σ (δ.set i none) ++ ((vs.zip ds).filter fun p => isFz p.2) ++ R)) := by
            have base : Sp X.K X.mg Z Hb H (((v, d') :: L) ++ (prs σ (δ.set i none) ++ (((v :: vs).zip (d :: ds)).filter fun p => isFz p.2) ++ R)) := s.perm (by
              have q1 := pm.append_right ((((v :: vs).zip (d :: ds)).filter fun p => isFz p.2) ++ R)
              rw [← List.append_assoc] at q1
              refine (q1.append_left L).trans ?_
              (simp only [List.cons_append, List.append_assoc])
              exact List.perm_middle)
            by_cases hf : isFz d = true
            · have hz : (((v :: vs).zip (d :: ds)).filter fun p => isFz p.2) = (v, d) :: ((vs.zip ds).filter fun p => isFz p.2) := by
                simp [hf]
              rw [hz] at base
              have b2 : Sp X.K X.mg Z Hb H ((v, d) :: (((v, d') :: L) ++ (prs σ (δ.set i none) ++ ((vs.zip ds).filter fun p => isFz p.2) ++ R))) := base.perm (by
                have : List.Perm (prs σ (δ.set i none) ++ ((v, d) :: ((vs.zip ds).filter fun p => isFz p.2)) ++ R) ((v, d) :: (prs σ (δ.set i none) ++ ((vs.zip ds).filter fun p => isFz p.2) ++ R)) := by
                  (rw [List.append_assoc, List.append_assoc])
                  exact List.perm_middle
                exact (this.append_left _).trans List.perm_middle)
              exact b2.drop
            · have hz : (((v :: vs).zip (d :: ds)).filter fun p => isFz p.2) = ((vs.zip ds).filter fun p => isFz p.2) := by
                simp [hf]
              rw [hz] at base
              exact base
          have s2 := step (dm.drop i) s1 er'
          refine s2.perm ?_
          show List.Perm ((v, d') :: (L ++ (vs.zip r ++ R))) (L ++ ((v, d') :: (vs.zip r ++ R)))
          exact List.perm_middle.symm
        · cases e
      · split at e
        · rename_i hf
          cases e
          have hz : (((v :: vs).zip (d :: ds)).filter fun p => isFz p.2) = (v, d) :: ((vs.zip ds).filter fun p => isFz p.2) := by
            simp [hf]
          rw [hz] at s
          have s1 : Sp X.K X.mg Z Hb H (((v, d) :: L) ++ (prs σ δ ++ ((vs.zip ds).filter fun p => isFz p.2) ++ R)) := s.perm (by
            have : List.Perm (prs σ δ ++ ((v, d) :: ((vs.zip ds).filter fun p => isFz p.2)) ++ R) ((v, d) :: (prs σ δ ++ ((vs.zip ds).filter fun p => isFz p.2) ++ R)) := by
              (rw [List.append_assoc, List.append_assoc])
              exact List.perm_middle
            exact (this.append_left _).trans List.perm_middle)
          have s2 := step dm s1 er
          refine s2.perm ?_
          show List.Perm ((v, d) :: (L ++ (vs.zip r ++ R))) (L ++ ((v, d) :: (vs.zip r ++ R)))
          exact List.perm_middle.symm
        · cases e
    · cases e
end DL
namespace DL
open PySem.Spec PySem L2 PyProof.Rows
theorem Sp.dups {K : PySem.W.Frag} {mg : Str → Option Value} {H Hb : Hp} {Z : Addr → Prop} {Q : PL} (s : Sp K mg Z Hb H Q) : Sp K mg Z Hb H ((Q.filter fun p => isFz p.2) ++ Q) := by
  obtain ⟨⟨F, r, nd, hb⟩, b, fr⟩ := s
  refine ⟨⟨F, ?_, nd, hb⟩, b, fr⟩
  have : ∀ {Q : PL} {F : List Addr} {Y : Addr → Prop}, Rps K mg H Y Q F → Rps K mg H Y (Q.filter fun p => isFz p.2) [] := by
    intro Q F Y r
    induction r with
    | nil => exact .nil
    | @cons v d P F G q t ih =>
      by_cases hf : isFz d = true
      · have e := q.own_nil hf
        subst e
        rw [List.filter_cons_of_pos (by exact hf)]
        exact .cons (F := []) q ih
      · rw [List.filter_cons_of_neg (by exact hf)]
        exact ih
  exact Rps.append (F := []) (this r) r
theorem prs_start : ∀ {vs : List V} {ds : List D} (k j : Nat), vs.length = ds.length → prs (vs.map some ++ List.replicate k none) (ds.map some ++ List.replicate j none) = vs.zip ds
  | [], [], k, j, _ => by
    cases k with
    | zero => simp [prs]
    | succ k => cases j with
      | zero => simp [prs]
      | succ j =>
        have ih := prs_start (vs := []) (ds := []) k j rfl
        simpa [List.replicate_succ, prs] using ih
  | [], _ :: _, _, _, h => by simp at h
  | _ :: _, [], _, _, h => by simp at h
  | v :: vs, d :: ds, k, j, h => by
    have ih := prs_start (vs := vs) (ds := ds) k j (by simpa using h)
    simp [prs, ih]
section
variable {P : Program} {w : World} {K : PySem.W.Frag} {mg : Str → Option Value} {base : Heap} {k : Nat} {f : Addr} {x qual : Str} {params : Arguments} {body : List Stmt} {scope : Scope} {dvs : List V} {kws : List (Str × V)} {fd : FuncData} {N ps : List Str} {Pr : Nat → Bool} {mb : MS}
theorem fnD_of (F : FunD K x qual params body scope dvs kws f fd) (S : FnScope N ps scope)
    (hb : ∀ (cdv : Value) (A : Around) (outer : List PySem.Env) (s : Shared) (H : Hp) (E : XK), Room k (A.deeper (envOfC qual scope s.heap.objs.size f cdv)) → (A.deeper (envOfC qual scope s.heap.objs.size f cdv)).guards = some [] →
      ISs (cxOf CX0 P w K mg base N qual scope f cdv A outer s H E).nox Pr body mb) : FnG P w K mg base (k + 1) f fd ps (spD K mg ps.length (mFun ps.length N.length Pr mb)) := by
  refine FnG.of F S (fun vs H Q E h => h.1) fun cdv A outer s H vs Q E hr hg ⟨hl, Z, Hb, ds, r, ds', hld, sp, em, q⟩ => ?_
  unfold mFun at em
  rw [if_pos hld] at em
  have hN : ps.length ≤ N.length := by
    have := congrArg List.length S.pre
    rw [List.length_take] at this
    omega
  have hlv : vs.length = ds.length := by omega
  have dom : Dom (L2.start N vs) (ds.map some ++ List.replicate (N.length - ps.length) none) := by
    refine ⟨by simp [L2.start]; omega, fun i d h => ?_⟩
    unfold L2.start
    by_cases hi : i < ds.length
    · exact ⟨vs[i]'(by omega), by rw [List.getElem?_append_left (by simp; omega)]; simp [hlv, hi]⟩
    · rw [List.getElem?_append_right (by simp; omega)] at h
      simp [List.getElem?_replicate] at h
  have sq : Sq (cxOf CX0 P w K mg base N qual scope f cdv A outer s H E).nox Z Hb H (L2.start N vs) (ds.map some ++ List.replicate (N.length - ps.length) none) ((vs.zip ds).filter fun p => isFz p.2) := by
    refine ⟨?_, dom⟩
    unfold L2.start
    rw [prs_start _ _ hlv]
    exact sp.dups
  have fin : ∀ {v : V} {r0 : D} {σ' : L2.St} {H' : Hp} {δ : Env} {bs : List D}, Sq (cxOf CX0 P w K mg base N qual scope f cdv A outer s H E).nox Z Hb H' σ' δ ((v, r0) :: ((vs.zip ds).filter fun p => isFz p.2)) → SameP Pr (L2.start N vs) σ' → backs Pr 0 ds δ = some bs → Sp K mg Z Hb H' ((v, r0) :: vs.zip bs) := by
    intro v r0 σ' H' δ bs s' same eb
    have s1 : Sp K mg Z Hb H' ([(v, r0)] ++ (prs σ' δ ++ ((vs.zip ds).filter fun p => isFz p.2) ++ [])) := s'.sp.perm (by
      rw [List.append_nil]
      exact List.Perm.cons _ List.perm_append_comm)
    have := backs_ok (X := (cxOf CX0 P w K mg base N qual scope f cdv A outer s H E).nox) (L := [(v, r0)]) (R := []) hlv (fun j v' h => by
      unfold L2.start
      rw [List.getElem?_append_left (by have := (List.getElem?_eq_some_iff.mp h).1; simp; omega)]
      simp [h]) same s'.dom s1 eb
    simp only [List.append_nil] at this
    exact this
  split at em
  · rename_i r0 δ e1
    split at em
    · rename_i bs eb
      cases em
      exact hb cdv A outer s H E hr hg sq e1 _ fun v σ' H' s' same => q v H' (fin s' same eb)
    · cases em
  · rename_i δ e1
    split at em
    · rename_i bs eb
      cases em
      refine hb cdv A outer s H E hr hg sq e1 _ fun σ' H' s' same => q .non H' (fin (s'.put fun _ => .non) same eb)
    · cases em
  · cases em
end
end DL
set_option Elab.async false
set_option linter.all false
set_option maxRecDepth 100000
set_option maxHeartbeats 4000001
namespace DL
open PySem.Spec PySem L2 PyProof.Rows
/-- the iterator J yields the trees ds, one a turn, while LI stands -/
def Yields (X : Cx) (Hb : Hp) (J : It) (ds : List D) (LI : PL) : Prop := ∀ {Z : Addr → Prop} {H : Hp} {P : PL} (i : Nat), Sp X.K X.mg Z Hb H (LI ++ P) →
  (i < ds.length → J.go i H ∧ ∀ x H', J.yld i H x H' → ∃ d, ds[i]? = some d ∧ Sp X.K X.mg Z Hb H' ((x, d) :: (LI ++ P))) ∧ (ds.length ≤ i → J.stop i H)
abbrev MI := Env → Option (List D × Env)
def II (X : Cx) (tg iter : Expr) (m : MI) : Prop := ∀ {Z : Addr → Prop} {Hb H : Hp} {σ : L2.St} {δ : Env} {L : PL} {ds : List D} {δ' : Env}, Sq X Z Hb H σ δ L → m δ = some (ds, δ') →
  ∀ R : It → Hp → Prop, (∀ J H' LI, Yields X Hb J ds LI → Sq X Z Hb H' σ δ' (LI ++ L) → R J H') → wI X tg iter σ H R
/-- a value that is walked: its items, frozen -/
def itemsD : D → Option (List D)
  | .lst _ ds => some (fzs ds)
  | .scr ds => some (fzs ds)
  | _ => none
def iLst (m : ME) : MI := fun δ => match m δ with
  | some (d, δ1) => match itemsD d with
    | some ds => some (ds, δ1)
    | none => none
  | none => none
def iTup (m : ME) : MI := fun δ => match m δ with
  | some (.tup ds, δ1) => some (fzs ds, δ1)
  | _ => none
def iTxt (m : ME) : MI := fun δ => match m δ with
  | some (.str x, δ1) => some (x.cps.toList.map fun c => .str ⟨#[c]⟩, δ1)
  | _ => none
/-- a, a + 1, .. (n of them) -/
def rngD (a : Int) (n : Nat) : List D := (List.range n).map fun (i : Nat) => D.int (a + (i : Int))
def mRng1 (r : ML) : MI := fun δ => match r δ with
  | some ([.int n], δ1) => if -(2 ^ 62) ≤ n ∧ n < 2 ^ 62 then some (rngD 0 n.toNat, δ1) else none
  | _ => none
section
variable {X : Cx} {tg iter a b : Expr} {m : ME} {p pos : Pos} {r : ML}
theorem yields_lst {Hb : Hp} {a : Addr} {ds : List D} (hf : isFzs ds = true) : Yields X Hb (Itl X.K a) ds [(.ref a, .lst false ds)] := by
  intro Z H P i s
  have s0 : Sp X.K X.mg Z Hb H ((.ref a, .lst false ds) :: P) := s
  obtain ⟨Y, F, q⟩ := s0.head
  cases q with
  | @lstF _ vs _ h z t =>
    have hl := t.len
    refine ⟨fun hi => ⟨⟨vs, vs[i]'(by omega), .of h, by simp [hl, hi]⟩, fun x H' y => ?_⟩, fun hi => ⟨vs, .of h, by omega⟩⟩
    obtain ⟨e, y⟩ := y
    subst e
    have ex := y vs (.of h)
    refine ⟨ds[i], by simp [hi], s0.part (by simpa [isFz] using hf) fun Y' r' => ?_⟩
    cases r' with
    | @lstF _ vs' _ h' z' t' =>
      have e := h.symm.trans h'
      cases e
      obtain ⟨w, e1, e2⟩ := Reps.get t' (i := i) (d := ds[i]) (by simp [hi])
      rw [ex] at e1
      cases e1
      exact e2
theorem yields_scr {Hb : Hp} {a : Addr} {ds : List D} (hf : isFzs ds = true) : Yields X Hb (Itl X.K a) ds [(.ref a, .scr ds)] := by
  intro Z H P i s
  have s0 : Sp X.K X.mg Z Hb H ((.ref a, .scr ds) :: P) := s
  obtain ⟨Y, F, q⟩ := s0.head
  cases q with
  | @scr _ vs _ h t =>
    have hl := t.len
    have hq : SqL X.K H a vs := h.sq
    refine ⟨fun hi => ⟨⟨vs, vs[i]'(by omega), hq, by simp [hl, hi]⟩, fun x H' y => ?_⟩, fun hi => ⟨vs, hq, by omega⟩⟩
    obtain ⟨e, y⟩ := y
    subst e
    refine ⟨ds[i], by simp [hi], s0.part (by simpa [isFz] using hf) fun Y' r' => ?_⟩
    cases r' with
    | @scr _ vs' _ h' t' =>
      have ex := y vs' h'.sq
      obtain ⟨w, e1, e2⟩ := Reps.get t' (i := i) (d := ds[i]) (by simp [hi])
      rw [ex] at e1
      cases e1
      exact e2
theorem ii_lst (h : IG X iter m) : II X tg iter (iLst m) := by
  intro Z Hb H σ δ L ds δ' s e R q
  unfold iLst at e
  split at e
  · rename_i d δ1 e1
    split at e
    · rename_i ds0 e2
      cases e
      refine wI_of (pi_list pe_w) (h s e1 _ fun v H1 s1 => ?_)
      unfold itemsD at e2
      split at e2
      · rename_i o es
        cases e2
        have s2 := Sp.freeze s1.sp
        obtain ⟨a, vs, rfl, ha, _, _⟩ := s2.lst
        exact ⟨a, rfl, ⟨vs, .of ha⟩, q _ _ [(.ref a, .lst false (fzs es))] (yields_lst (isFzs_fzs _)) ⟨s2, s1.dom⟩⟩
      · rename_i es
        cases e2
        have s2 := Sp.freeze s1.sp
        obtain ⟨a, vs, rfl, ha, _⟩ := s2.scr
        exact ⟨a, rfl, ⟨vs, ha.sq⟩, q _ _ [(.ref a, .scr (fzs es))] (yields_scr (isFzs_fzs _)) ⟨s2, s1.dom⟩⟩
      · cases e2
    · cases e
  · cases e
theorem ii_tup (h : IG X iter m) : II X tg iter (iTup m) := by
  intro Z Hb H σ δ L ds δ' s e R q
  unfold iTup at e
  split at e
  · rename_i es δ1 e1
    cases e
    refine wI_of (pi_tup pe_w) (h s e1 _ fun v H1 s1 => ?_)
    have s2 := Sp.freeze s1.sp
    obtain ⟨a, vs, rfl, ha, _, _⟩ := s2.tup
    refine ⟨a, rfl, ⟨vs, ha⟩, q _ _ [(.ref a, .tup (fzs es))] ?_ ⟨s2, s1.dom⟩⟩
    intro Z H P i s
    have s0 : Sp X.K X.mg Z Hb H ((.ref a, .tup (fzs es)) :: P) := s
    obtain ⟨Y, F, q⟩ := s0.head
    cases q with
    | @tup _ vs _ _ h t =>
      have hl := t.len
      refine ⟨fun hi => ⟨⟨vs, vs[i]'(by omega), h, by simp [hl, hi]⟩, fun x H' y => ?_⟩, fun hi => ⟨vs, h, by omega⟩⟩
      obtain ⟨e, y⟩ := y
      subst e
      refine ⟨(fzs es)[i], by simp [hi], s0.part (isFzs_fzs es) fun Y' r' => ?_⟩
      cases r' with
      | @tup _ vs' _ _ h' t' =>
        have ex := y vs' h'
        obtain ⟨w, e1, e2⟩ := Reps.get t' (i := i) (d := (fzs es)[i]) (by simp [hi])
        rw [ex] at e1
        cases e1
        exact e2
  · cases e
theorem ii_txt (h : IG X iter m) : II X tg iter (iTxt m) := by
  intro Z Hb H σ δ L ds δ' s e R q
  unfold iTxt at e
  split at e
  · rename_i x δ1 e1
    cases e
    refine wI_of (pi_str pe_w) (h s e1 _ fun v H1 s1 => ⟨x, s1.sp.str, q _ _ [] ?_ s1.drop⟩)
    intro Z H P i s
    refine ⟨fun hi => ⟨(show i < x.cps.size by simpa using hi), fun v H' y => ?_⟩, fun hi => (show x.cps.size ≤ i by simpa using hi)⟩
    obtain ⟨e, c, e1, e2⟩ := y
    subst e e2
    refine ⟨.str ⟨#[c]⟩, ?_, s.put fun _ => .str⟩
    rw [List.getElem?_map, Array.getElem?_toList, e1]; rfl
  · cases e
theorem yields_rng {Hb : Hp} {lo : Int} {n : Nat} : Yields X Hb (Itr lo n) (rngD lo n) [] := by
  intro Z H P i s
  refine ⟨fun hi => ⟨(show i < n by simpa [rngD] using hi), fun v H' y => ?_⟩, fun hi => (show n ≤ i by simpa [rngD] using hi)⟩
  obtain ⟨e, e1⟩ := y
  subst e e1
  refine ⟨.int (lo + i), ?_, s.put fun _ => .int⟩
  unfold rngD
  rw [List.getElem?_map, List.getElem?_range (by simpa [rngD] using hi)]; rfl
theorem ii_rng1 (hg : Gl X "range") (hm : X.mg "range" = none) (ha : IL X [a] r) (hs : starEach [a] X.env = [(false, eval a X.env)]) :
    II X tg (.Call (.Name "range" p) [a] [] pos) (mRng1 r) := by
  intro Z Hb H σ δ L ds δ' s e R q
  refine wI_of (pi_range1 (ta := wA X [a]) hg hm pa_w hs) ?_
  unfold mRng1 at e
  split at e
  · rename_i n δ1 e1
    split at e
    · rename_i hb
      cases e
      refine ha s e1 _ fun vs H1 hl s1 => ?_
      match vs, hl with
      | [v], _ =>
        have s2 : Sq X Z Hb H1 σ δ' ((v, .int n) :: L) := s1
        exact ⟨n, by rw [s2.sp.int], hb.1, hb.2, q _ _ [] yields_rng s2.drop⟩
    · cases e
  · cases e
end
abbrev MG := D → Env → Option Env
/-- what a target stores lies in the slots is -/
def Only' (is : List Nat) (σ σ' : L2.St) : Prop := σ'.length = σ.length ∧ ∀ i, i ∉ is → σ'[i]? = σ[i]?
def IGt (X : Cx) (is : List Nat) (tg : Expr) (t : MG) : Prop := ∀ {Z : Addr → Prop} {Hb H : Hp} {σ : L2.St} {δ : Env} {L : PL} {v : V} {d : D} {δ' : Env}, Sq X Z Hb H σ δ ((v, d) :: L) → t d δ = some δ' →
  ∀ Q : L2.St → Hp → Prop, (∀ σ' H', Sq X Z Hb H' σ' δ' L → Only' is σ σ' → Q σ' H') → wG X tg v σ H Q
abbrev MGs := List D → Env → Option Env
def IGts (X : Cx) (is : List Nat) (ts : List Expr) (t : MGs) : Prop := ∀ {Z : Addr → Prop} {Hb H : Hp} {σ : L2.St} {δ : Env} {L : PL} {vs : List V} {ds : List D} {δ' : Env}, vs.length = ds.length → Sq X Z Hb H σ δ (vs.zip ds ++ L) → t ds δ = some δ' →
  ∀ Q : L2.St → Hp → Prop, (∀ σ' H', Sq X Z Hb H' σ' δ' L → Only' is σ σ' → Q σ' H') → wGs X ts vs σ H Q
def tName (i : Nat) : MG := fun d δ => if i < δ.length then some (δ.set i (some d)) else none
def tsNil : MGs := fun ds δ => match ds with
  | [] => some δ
  | _ => none
def tsCons (t : MG) (u : MGs) : MGs := fun ds δ => match ds with
  | d :: r => match t d δ with
    | some δ1 => u r δ1
    | none => none
  | [] => none
def tTup (u : MGs) : MG := fun d δ => match d with
  | .tup ds => u ds δ
  | _ => none
section
variable {X : Cx} {is js : List Nat} {x : Str} {pos : Pos} {t : MG} {u : MGs} {e : Expr} {es : List Expr}
theorem it_name (i : Nat) (hp : PG X (.Name x pos) (gName i)) : IGt X [i] (.Name x pos) (tName i) := by
  intro Z Hb H σ δ L v d δ' s e Q q
  unfold tName at e
  split at e
  · rename_i hi
    cases e
    refine wG_of hp (q _ _ (s.store hi) ⟨by simp, fun j hj => ?_⟩)
    have : i ≠ j := fun e => hj (by simp [e])
    rw [List.getElem?_set_ne this]
  · cases e
theorem its_nil : IGts X [] [] tsNil := by
  intro Z Hb H σ δ L vs ds δ' hl s e Q q
  unfold tsNil at e
  split at e
  · cases e
    have : vs = [] := List.eq_nil_of_length_eq_zero hl
    subst this
    exact wGs_of pgs_nil ⟨rfl, q _ _ s ⟨rfl, fun _ _ => rfl⟩⟩
  · cases e
theorem its_cons (h : IGt X is e t) (h2 : IGts X js es u) (hs : (assignEach (e :: es) X.env).map (·.2) = assign e X.env :: (assignEach es X.env).map (·.2)) : IGts X (is ++ js) (e :: es) (tsCons t u) := by
  intro Z Hb H σ δ L vs ds δ' hl s e' Q q
  unfold tsCons at e'
  split at e'
  · rename_i d r
    split at e'
    · rename_i δ1 e1
      match vs, hl with
      | v :: vs, hl =>
        refine wGs_of (pgs_cons pg_w pgs_w hs) ⟨v, vs, rfl, ?_⟩
        have s1 : Sq X Z Hb H σ δ ((v, d) :: (vs.zip r ++ L)) := s
        refine h s1 e1 _ fun σ1 H1 s2 o1 => h2 (by simpa using hl) s2 e' _ fun σ2 H2 s3 o2 => q _ _ s3 ⟨o2.1.trans o1.1, fun i hi => ?_⟩
        rw [o2.2 i (fun m => hi (List.mem_append_right _ m)), o1.2 i (fun m => hi (List.mem_append_left _ m))]
    · cases e'
  · cases e'
theorem it_tup {k : Nat} {n : Nat} (hc : X.calm = true) (h : IGts X is es u) (hn : (assignEach es X.env).length = n) (hst : (assignEach es X.env).findIdx? (·.1) = none) (hz : ∀ ds δ δ', u ds δ = some δ' → ds.length = n) : IGt X is (.Tuple es k pos) (tTup u) := by
  intro Z Hb H σ δ L v d δ' s e Q q
  unfold tTup at e
  split at e
  · rename_i ds
    refine wG_of (pg_tup hc pgs_w hn hst) ?_
    obtain ⟨a, vs, rfl, ha, hl, s1⟩ := s.sp.tup
    refine ⟨a, vs, rfl, ha, by rw [hl]; exact hz _ _ _ e, h hl ⟨by rw [List.append_assoc]; exact s1, s.dom⟩ e Q q⟩
  · cases e
theorem tsNil_len (ds : List D) (δ δ' : Env) (h : tsNil ds δ = some δ') : ds.length = 0 := by
  unfold tsNil at h; split at h
  · rfl
  · cases h
theorem tsCons_len {n : Nat} (hu : ∀ ds δ δ', u ds δ = some δ' → ds.length = n) (ds : List D) (δ δ' : Env) (h : tsCons t u ds δ = some δ') : ds.length = n + 1 := by
  unfold tsCons at h; split at h
  · split at h
    · simp [hu _ _ _ h]
    · cases h
  · cases h
end
def loopF (t : MG) (b : MS) : List D → Env → Option Fl
  | [], δ => some (.nx δ)
  | d :: r, δ => match t d δ with
    | some δ1 => match b δ1 with
      | some (.nx δ2) => loopF t b r δ2
      | some (.ct δ2) => loopF t b r δ2
      | some (.bk δ2) => some (.nx δ2)
      | some (.rt v δ2) => some (.rt v δ2)
      | none => none
    | none => none
def sFor (i : MI) (t : MG) (b : MS) : MS := fun δ => match i δ with
  | some (ds, δ1) => loopF t b ds δ1
  | none => none
theorem Only'.same {is : List Nat} {P : Nat → Bool} {σ σ' : L2.St} (h : Only' is σ σ') (hp : ∀ i ∈ is, P i = false) : SameP P σ σ' := fun i hi => h.2 i fun m => by rw [hp i m] at hi; cases hi
section
variable {X : Cx} {P : Nat → Bool} {tg iter : Expr} {body : List Stmt} {mi : MI} {t : MG} {b : MS} {is : List Nat} {pos : Pos}
theorem for_core (hpo : PassesOwn (model X.prog X.w) X.A X.env X.xe) (hc : X.calm = true) (ht : IGt X is tg t) (hb : ISs X P body b) (hP : ∀ i ∈ is, P i = false) (hs : ∀ x, foldedSetIterable iter X.env x = pure x)
    {Z : Addr → Prop} {Hb H : Hp} {σ : L2.St} {δ1 : Env} {L : PL} {ds : List D} {fl : Fl} (hi : ∀ R : It → Hp → Prop, (∀ J H' LI, Yields X Hb J ds LI → Sq X Z Hb H' σ δ1 (LI ++ L) → R J H') → wI X tg iter σ H R)
    (e : loopF t b ds δ1 = some fl) (Dn : Ends) (f : Fin X P Z Hb σ L Dn fl) : wS X (.For tg iter body [] pos) Dn σ H := by
    refine wS_of (ps_for hpo hc pi_w pg_w pss_w hs) (hi _ fun J H1 LI hy s1 => ?_)
    refine ⟨fun i m σ' H' => m = ds.length - i ∧ i ≤ ds.length ∧ SameP P σ σ' ∧ ∃ δi, Sq X Z Hb H' σ' δi (LI ++ L) ∧ loopF t b (ds.drop i) δi = some fl, ⟨ds.length, by simp, Nat.zero_le _, .refl, δ1, s1, by simpa using e⟩, ?_⟩
    rintro i m σ' H' ⟨rfl, hi', same, δi, si, el⟩
    have sp0 : Sp X.K X.mg Z Hb H' (LI ++ (L ++ prs σ' δi)) := by
      have := si.sp
      (rw [List.append_assoc] at this)
      exact this
    have hyi := hy i sp0
    by_cases hlt : i < ds.length
    · obtain ⟨go, yl⟩ := hyi.1 hlt
      have hd : ds.drop i = ds[i] :: ds.drop (i + 1) := List.drop_eq_getElem_cons hlt
      rw [hd] at el
      simp only [loopF] at el
      split at el
      · rename_i δ2 et
        refine .inr ⟨go, fun σ2 H2 => SameP P σ σ2 ∧ ∃ δ3, Sq X Z Hb H2 σ2 δ3 (LI ++ L) ∧ loopF t b (ds.drop (i + 1)) δ3 = some fl, fun σ2 H2 ⟨sm, δ3, s3, e3⟩ => ⟨ds.length - (i + 1), by omega, rfl, hlt, sm, δ3, s3, e3⟩, fun x H2 y => ?_⟩
        obtain ⟨d, ed, sy⟩ := yl x H2 y
        have ed' : d = ds[i] := by simpa [hlt] using ed.symm
        subst ed'
        have s2 : Sq X Z Hb H2 σ' δi ((x, ds[i]) :: (LI ++ L)) := ⟨by
          show Sp X.K X.mg Z Hb H2 ((x, ds[i]) :: (LI ++ L ++ prs σ' δi))
          rw [List.append_assoc]; exact sy, si.dom⟩
        refine ht s2 et _ fun σ3 H3 s3 o3 => ?_
        have sm3 := same.trans (o3.same hP)
        split at el
        · rename_i δ4 eb
          exact hb s3 eb _ fun σ4 H4 s4 sm4 => ⟨sm3.trans sm4, δ4, s4, el⟩
        · rename_i δ4 eb
          exact hb s3 eb _ fun σ4 H4 s4 sm4 => ⟨sm3.trans sm4, δ4, s4, el⟩
        · rename_i δ4 eb
          cases el
          exact hb s3 eb _ fun σ4 H4 s4 sm4 => f σ4 H4 s4.dropL (sm3.trans sm4)
        · rename_i v δ4 eb
          cases el
          exact hb s3 eb _ fun v σ4 H4 s4 sm4 => f v σ4 H4 (Sq.dropL (A := LI) (s4.perm List.perm_middle.symm)) (sm3.trans sm4)
        · cases el
      · cases el
    · have hn : i = ds.length := by omega
      have : ds.drop i = [] := List.drop_eq_nil_of_le (by omega)
      rw [this] at el
      cases el
      exact .inl ⟨hyi.2 (by omega), f σ' H' si.dropL same⟩
theorem is_for (hpo : PassesOwn (model X.prog X.w) X.A X.env X.xe) (hc : X.calm = true) (hi : II X tg iter mi) (ht : IGt X is tg t) (hb : ISs X P body b) (hP : ∀ i ∈ is, P i = false) (hs : ∀ x, foldedSetIterable iter X.env x = pure x) :
    IS X P (.For tg iter body [] pos) (sFor mi t b) := by
  intro Z Hb H σ δ L fl s e Dn f
  unfold sFor at e
  split at e
  · rename_i ds δ1 e1
    exact for_core hpo hc ht hb hP hs (fun R q => hi s e1 R q) e Dn f
  · cases e
end
end DL
set_option Elab.async false
set_option linter.all false
set_option maxRecDepth 100000
set_option maxHeartbeats 4000001
namespace DL
open PySem.Spec PySem L2 PyProof.Rows
/-- the slots of the block's own names are empty -/
def wipeE : Env → List Nat → Env
  | δ, [] => δ
  | δ, v :: vs => (wipeE δ vs).set v none
theorem wipeE_len : ∀ (δ : Env) (vs : List Nat), (wipeE δ vs).length = δ.length
  | _, [] => rfl
  | δ, v :: vs => by simp [wipeE, wipeE_len δ vs]
theorem wipeE_get : ∀ {δ : Env} {vs : List Nat} {i : Nat} {d : D}, (wipeE δ vs)[i]? = some (some d) → δ[i]? = some (some d) ∧ i ∉ vs
  | _, [], _, _, h => ⟨h, by simp⟩
  | δ, v :: vs, i, d, h => by
    simp only [wipeE] at h
    rw [List.getElem?_set] at h
    by_cases hi : v = i
    · subst hi
      rw [if_pos rfl] at h
      split at h <;> cases h
    · rw [if_neg hi] at h
      obtain ⟨h1, h2⟩ := wipeE_get h
      (exact ⟨h1, by simp only [List.mem_cons, not_or]; exact ⟨fun e => hi e.symm, h2⟩⟩)
/-- pairs of the slots that are left -/
theorem prs_wipe : ∀ (σ : L2.St) (δ : Env) (vs : List Nat), prs (wipe σ vs) (wipeE δ vs) = prs σ (wipeE δ vs)
  | σ, δ, [] => rfl
  | σ, δ, v :: vs => by
    simp only [wipe, wipeE]
    rw [prs_none]
    -- both sides over the same trees; the values part in the slots vs alone
    have : ∀ (σ σ' : L2.St) (ε : Env), σ.length = σ'.length → (∀ (i : Nat) (d : D), ε[i]? = some (some d) → σ[i]? = σ'[i]?) → prs σ ε = prs σ' ε := by
      intro σ
      induction σ with
      | nil => intro σ' ε hl _; cases σ' with
        | nil => rfl
        | cons _ _ => simp at hl
      | cons s σ ih => intro σ' ε hl h; cases σ' with
        | nil => simp at hl
        | cons s' σ' => cases ε with
          | nil => simp [prs_nil]
          | cons d ε =>
            have ih' := ih σ' ε (by simpa using hl) (fun i d hd => by simpa using h (i + 1) d (by simpa using hd))
            cases d with
            | none => cases s <;> cases s' <;> simp [prs, ih']
            | some d =>
              have := h 0 d rfl
              have e : s = s' := by simpa using this
              subst e
              cases s <;> simp [prs, ih']
    refine this _ _ _ (wipe_length σ vs) fun i d h => ?_
    rw [List.getElem?_set] at h
    by_cases hi : v = i
    · subst hi
      rw [if_pos rfl] at h
      split at h <;> cases h
    · rw [if_neg hi] at h
      obtain ⟨h1, h2⟩ := wipeE_get h
      clear h h1 this
      induction vs with
      | nil => rfl
      | cons w ws ih =>
        simp only [wipe]
        rw [List.getElem?_set_ne (show w ≠ i from fun e => h2 (by simp [e]))]
        exact ih fun m => h2 (List.mem_cons_of_mem _ m)
theorem Dom.wipe {σ : L2.St} {δ : Env} (h : Dom σ δ) (vs : List Nat) : Dom σ (wipeE δ vs) :=
  ⟨by rw [wipeE_len]; exact h.1, fun i d q => h.2 i d (wipeE_get q).1⟩
theorem wipe_get : ∀ {σ : L2.St} {vs : List Nat} {i : Nat}, i ∉ vs → (L2.wipe σ vs)[i]? = σ[i]?
  | _, [], _, _ => rfl
  | σ, v :: vs, i, h => by
    simp only [L2.wipe]
    rw [List.getElem?_set_ne (show v ≠ i from fun e => h (by simp [e]))]
    exact wipe_get fun m => h (List.mem_cons_of_mem _ m)
theorem wipe_get' : ∀ {σ : L2.St} {vs : List Nat} {i : Nat}, i ∈ vs → i < σ.length → (L2.wipe σ vs)[i]? = some none
  | σ, v :: vs, i, h, hl => by
    simp only [L2.wipe]
    rw [List.getElem?_set]
    by_cases e : v = i
    · rw [if_pos e, if_pos (by rw [wipe_length]; omega)]
    · rw [if_neg e]
      exact wipe_get' ((List.mem_cons.mp h).resolve_left fun q => e q.symm) hl
theorem wipe_only {σ σ' : L2.St} {vs is : List Nat} (h : Only' is (L2.wipe σ vs) σ') (hi : ∀ i ∈ is, i ∈ vs) : L2.wipe σ' vs = L2.wipe σ vs := by
  apply List.ext_getElem?
  intro i
  have hl : σ'.length = σ.length := h.1.trans (wipe_length σ vs)
  by_cases m : i ∈ vs
  · by_cases hb : i < σ.length
    · rw [wipe_get' m (by omega), wipe_get' m hb]
    · rw [List.getElem?_eq_none (by rw [wipe_length]; omega), List.getElem?_eq_none (by rw [wipe_length]; omega)]
  · rw [wipe_get m]
    exact (h.2 i fun q => m (hi i q))
theorem Dom.of_wipe {σ : L2.St} {δ : Env} {vs : List Nat} (h : Dom σ (wipeE δ vs)) : Dom (L2.wipe σ vs) (wipeE δ vs) := by
  refine ⟨by rw [wipe_length]; exact h.1, fun i d q => ?_⟩
  obtain ⟨v, e⟩ := h.2 i d q
  exact ⟨v, by rw [wipe_get (wipeE_get q).2]; exact e⟩
/-- the turns: what is walked, what is made so far -/
def loopC (own : List Nat) (t : MG) (c : MT) (m : ME) : List D → Env → List D → Option (List D × Env)
  | [], δ, acc => some (acc, δ)
  | d :: r, δ, acc => match t d δ with
    | some δ1 => match c δ1 with
      | some (true, δ2) => match m δ2 with
        | some (x, δ3) => loopC own t c m r (wipeE δ3 own) (acc ++ [x])
        | none => none
      | some (false, δ2) => loopC own t c m r (wipeE δ2 own) acc
      | none => none
    | none => none
def mLc (i : MI) (own : List Nat) (t : MG) (c : MT) (m : ME) : ME := fun δ => match i δ with
  | some (ds, δ1) => if ds.length ≤ sizeLine then match loopC own t c m ds (wipeE δ1 own) [] with
      | some (acc, δ2) => some (.lst true acc, δ2)
      | none => none
    else none
  | none => none
def tTrue : MT := fun δ => some (true, δ)
def wTs (X : Cx) (ifs : List Expr) : TT := fun σ H Q => ∀ pins s, Inv X pins σ H s → wpAny (model X.prog X.w) X.A
  (forIn ifs true fun c r => if r = true then do let ok ← isTrue c X.env (eval c X.env); pure (ForInStep.yield ok) else pure (ForInStep.yield r)) (TP X pins σ Q) X.xe s
def ITs (X : Cx) (ifs : List Expr) (m : MT) : Prop := ∀ {Z : Addr → Prop} {Hb H : Hp} {σ : L2.St} {δ : Env} {L : PL} {b : Bool} {δ' : Env}, Sq X Z Hb H σ δ L → m δ = some (b, δ') →
  ∀ Q : Bool → Hp → Prop, (∀ H', Sq X Z Hb H' σ δ' L → Q b H') → wTs X ifs σ H Q
theorem its0 {X : Cx} : ITs X [] tTrue := by
  intro Z Hb H σ δ L b δ' s e Q q
  cases e
  exact fun pins s' I => pts_nil.run pins s' σ H Q I (q H s)
theorem its1 {X : Cx} {c : Expr} {m : MT} (h : IT X c m) : ITs X [c] m := by
  intro Z Hb H σ δ L b δ' s e Q q
  exact fun pins s' I => (pts_one pt_w).run pins s' σ H Q I (h s e Q q)
abbrev bX (X : Cx) (scope : Scope) (s : Shared) (H : Hp) (C : Addr) (cl : List (Str × Addr)) (fp : List Addr) : Cx := X.blk s H scope (compEnvC scope cl C X.env) fp
section
variable {X : Cx} {elt tg iter : Expr} {ifs : List Expr} {scope : Scope} {own : List (Str × Nat)} {pos : Pos} {mi : MI} {t : MG} {c : MT} {m : ME} {is : List Nat}
theorem Sp.unset {K : PySem.W.Frag} {mg : Str → Option Value} {H Hb : Hp} {Z : Addr → Prop} {A : PL} {σ : L2.St} {δ : Env} (dm : Dom σ δ) (s : Sp K mg Z Hb H (A ++ prs σ δ)) (i : Nat) : Sp K mg Z Hb H (A ++ prs σ (δ.set i none)) := by
  cases hδ : δ[i]? with
  | none =>
    have : δ.set i none = δ := List.set_eq_of_length_le (by simpa using hδ)
    rw [this]; exact s
  | some x => cases x with
    | none =>
      have : δ.set i none = δ := by
        apply List.ext_getElem?
        intro n
        rw [List.getElem?_set]
        by_cases h : i = n
        · subst h; rw [if_pos rfl, hδ, if_pos (List.getElem?_eq_some_iff.mp hδ).1]
        · rw [if_neg h]
      rw [this]; exact s
    | some dd =>
      obtain ⟨w, hw⟩ := dm.2 i dd hδ
      have h2 : Sp K mg Z Hb H ((w, dd) :: (A ++ prs σ (δ.set i none))) := s.perm (((prs_get hw hδ).append_left A).trans List.perm_middle)
      exact h2.drop
theorem Sp.wipes {K : PySem.W.Frag} {mg : Str → Option Value} {H Hb : Hp} {Z : Addr → Prop} {A : PL} {σ : L2.St} {δ : Env} (dm : Dom σ δ) (s : Sp K mg Z Hb H (A ++ prs σ δ)) : ∀ vs : List Nat, Sp K mg Z Hb H (A ++ prs σ (wipeE δ vs))
  | [] => s
  | v :: vs => Sp.unset (dm.wipe vs) (Sp.wipes dm s vs) v
theorem prs_only {σ σ2 : L2.St} {δ : Env} {vs : List Nat} (ho : Only' vs σ σ2) : prs σ2 (wipeE δ vs) = prs σ (wipeE δ vs) := by
  rw [← prs_wipe σ2, ← prs_wipe σ, wipe_only (σ := σ) (is := vs) ⟨by rw [wipe_length]; exact ho.1, fun i hi => by rw [wipe_get hi]; exact ho.2 i hi⟩ (fun _ h => h)]
theorem Dom.only {σ σ2 : L2.St} {δ : Env} {vs : List Nat} (h : Dom σ2 δ) (ho : Only' vs σ σ2) : Dom σ (wipeE δ vs) := by
  refine ⟨by rw [wipeE_len, ← h.1, ho.1], fun i d q => ?_⟩
  obtain ⟨q1, q2⟩ := wipeE_get q
  obtain ⟨v, e⟩ := h.2 i d q1
  exact ⟨v, by rw [← ho.2 i q2]; exact e⟩
theorem lc_core (ht : ∀ s H C cl fp, IGt (bX X scope s H C cl fp) is tg t) (hc : ∀ s H C cl fp, ITs (bX X scope s H C cl fp) ifs c) (he : ∀ s H C cl fp, IG (bX X scope s H C cl fp) elt m)
    {vs : List Nat} (hsub : ∀ i ∈ is, i ∈ vs) {Z : Addr → Prop} {Hb H : Hp} {σ : L2.St} {δ1 δ' : Env} {L : PL} {ds accF : List D} (hz : ds.length ≤ sizeLine)
    (hi : ∀ R : It → Hp → Prop, (∀ J H' LI, Yields X Hb J ds LI → Sq X Z Hb H' σ δ1 (LI ++ L) → R J H') → wI X tg iter σ H R)
    (e2 : loopC vs t c m ds (wipeE δ1 vs) [] = some (accF, δ')) (Q : VK) (q : ∀ v H', Sq X Z Hb H' σ δ' ((v, .lst true accF) :: L) → Q v H') :
    tLc (wI X tg iter) (fun v σ H Q => ∀ s H0 C cl fp, wG (bX X scope s H0 C cl fp) tg v σ H Q) (fun σ H Q => ∀ s H0 C cl fp, wTs (bX X scope s H0 C cl fp) ifs σ H Q) (fun σ H Q => ∀ s H0 C cl fp, wE (bX X scope s H0 C cl fp) elt σ H Q) vs σ H Q := by
  refine hi _ fun J H1 LI hy s1 => fun D hD => ?_
  have dm1 : Dom σ (wipeE δ1 vs) := s1.dom.wipe vs
  refine ⟨fun i n H' => n = ds.length - i ∧ i ≤ ds.length ∧ ∃ δi acc, Sp X.K X.mg Z Hb H' (LI ++ ((.ref D, .lst true acc) :: (L ++ prs σ (wipeE δi vs)))) ∧ Dom σ (wipeE δi vs) ∧ acc.length ≤ i ∧ loopC vs t c m (ds.drop i) (wipeE δi vs) acc = some (accF, δ'), ⟨ds.length, by simp, Nat.zero_le _, δ1, [], ?_, dm1, Nat.le_refl _, by simpa using e2⟩, ?_⟩
  · have h1 := Sp.wipes s1.dom s1.sp vs
    have h2 : Sp X.K X.mg Z Hb (upd H1 D (.lst [])) ((.ref D, .lst true []) :: (LI ++ L ++ prs σ (wipeE δ1 vs))) := Sp.newL (vs := []) (ds := []) h1 rfl hD
    refine h2.perm ?_
    rw [List.append_assoc]
    exact List.perm_middle.symm
  · rintro i n H' ⟨rfl, hi', δi, acc, si, di, hacc, el⟩
    have hyi := hy i si
    by_cases hlt : i < ds.length
    · obtain ⟨go, yl⟩ := hyi.1 hlt
      have hd : ds.drop i = ds[i] :: ds.drop (i + 1) := List.drop_eq_getElem_cons hlt
      rw [hd] at el
      simp only [loopC] at el
      split at el
      · rename_i δ3 et
        refine .inr ⟨go, fun H2 => ∃ δi acc, Sp X.K X.mg Z Hb H2 (LI ++ ((.ref D, .lst true acc) :: (L ++ prs σ (wipeE δi vs)))) ∧ Dom σ (wipeE δi vs) ∧ acc.length ≤ i + 1 ∧ loopC vs t c m (ds.drop (i + 1)) (wipeE δi vs) acc = some (accF, δ'),
          fun H2 h => ⟨ds.length - (i + 1), by omega, rfl, hlt, h⟩, fun x H2 y => ?_⟩
        obtain ⟨d, ed, sy⟩ := yl x H2 y
        have ed' : d = ds[i] := by simpa [hlt] using ed.symm
        subst ed'
        have dw : Dom (L2.wipe σ vs) (wipeE δi vs) := di.of_wipe
        have sw : Sp X.K X.mg Z Hb H2 ((x, ds[i]) :: (LI ++ ((.ref D, .lst true acc) :: L)) ++ prs (L2.wipe σ vs) (wipeE δi vs)) := by
          rw [prs_wipe]
          have := sy
          simpa [List.append_assoc] using this
        intro s0 H0 C cl fp
        refine ht s0 H0 C cl fp (show Sq (bX X scope s0 H0 C cl fp) Z Hb H2 (L2.wipe σ vs) (wipeE δi vs) ((x, ds[i]) :: (LI ++ ((.ref D, .lst true acc) :: L))) from ⟨sw, dw⟩) et _ fun σ3 H3 s3 o3 => ⟨wipe_only o3 hsub, ?_⟩
        have o3' : Only' vs σ σ3 := ⟨o3.1.trans (wipe_length σ vs), fun j hj => by rw [o3.2 j fun h => hj (hsub j h), wipe_get hj]⟩
        have back : ∀ {H4 : Hp} {δ4 : Env} {A : PL}, Sp X.K X.mg Z Hb H4 (A ++ (LI ++ ((.ref D, .lst true acc) :: L)) ++ prs σ3 δ4) → Dom σ3 δ4 → Sp X.K X.mg Z Hb H4 (A ++ (LI ++ ((.ref D, .lst true acc) :: (L ++ prs σ (wipeE δ4 vs))))) := by
          intro H4 δ4 A h dm
          have h1 := Sp.wipes dm h vs
          rw [prs_only o3'] at h1
          simpa [List.append_assoc] using h1
        intro s0' H0' C' cl' fp'
        split at el
        · rename_i δ4 ec
          refine hc s0' H0' C' cl' fp' (show Sq (bX X scope s0' H0' C' cl' fp') Z Hb H3 σ3 δ3 (LI ++ ((.ref D, .lst true acc) :: L)) from ⟨s3.sp, s3.dom⟩) ec _ fun H4 s4 => ?_
          rw [if_pos rfl]
          intro s0'' H0'' C'' cl'' fp''
          split at el
          · rename_i z δ5 ee
            refine he s0'' H0'' C'' cl'' fp'' (show Sq (bX X scope s0'' H0'' C'' cl'' fp'') Z Hb H4 σ3 δ4 (LI ++ ((.ref D, .lst true acc) :: L)) from ⟨s4.sp, s4.dom⟩) ee _ fun w H5 s5 => ?_
            have s6 : Sp X.K X.mg Z Hb H5 ([(w, z)] ++ (LI ++ ((.ref D, .lst true acc) :: (L ++ prs σ (wipeE δ5 vs))))) := back (A := [(w, z)]) s5.sp s5.dom
            have s7 : Sp X.K X.mg Z Hb H5 ((.ref D, .lst true acc) :: ((w, z) :: (LI ++ (L ++ prs σ (wipeE δ5 vs))))) := s6.perm (by
              show List.Perm ((w, z) :: (LI ++ ((.ref D, .lst true acc) :: (L ++ prs σ (wipeE δ5 vs))))) _
              exact (List.perm_middle.cons _).trans (.swap _ _ _))
            obtain ⟨ws, hw, hlw, mu⟩ := s7.mutL
            refine ⟨ws, hw, by rw [hlw]; omega, δ5, acc ++ [z], ?_, s5.dom.only o3', by simp; omega, el⟩
            have s8 := mu (ws ++ [w]) (acc ++ [z]) (LI ++ (L ++ prs σ (wipeE δ5 vs))) (by simp [hlw]) (by
              rw [zip_append hlw, List.append_assoc]
              exact List.Perm.refl _)
            exact s8.perm List.perm_middle.symm
          · cases el
        · rename_i δ4 ec
          refine hc s0' H0' C' cl' fp' (show Sq (bX X scope s0' H0' C' cl' fp') Z Hb H3 σ3 δ3 (LI ++ ((.ref D, .lst true acc) :: L)) from ⟨s3.sp, s3.dom⟩) ec _ fun H4 s4 => ?_
          (rw [if_neg Bool.false_ne_true])
          exact ⟨δ4, acc, back (A := []) s4.sp s4.dom, s4.dom.only o3', by omega, el⟩
        · cases el
      · cases el
    · have hn : i = ds.length := by omega
      have : ds.drop i = [] := List.drop_eq_nil_of_le (by omega)
      rw [this] at el
      cases el
      refine .inl ⟨hyi.2 (by omega), q _ _ ⟨?_, di⟩⟩
      exact Sp.dropL (L := LI) si
/-- the reading of a comprehension over the mirrors -/
theorem lc_run (hi : II X tg iter mi) (ht : ∀ s H C cl fp, IGt (bX X scope s H C cl fp) is tg t) (hc : ∀ s H C cl fp, ITs (bX X scope s H C cl fp) ifs c) (he : ∀ s H C cl fp, IG (bX X scope s H C cl fp) elt m)
    {vs : List Nat} (hsub : ∀ i ∈ is, i ∈ vs) {Z : Addr → Prop} {Hb H : Hp} {σ : L2.St} {δ δ' : Env} {L : PL} {d : D} (s : Sq X Z Hb H σ δ L) (e : mLc mi vs t c m δ = some (d, δ')) (Q : VK) (q : ∀ v H', Sq X Z Hb H' σ δ' ((v, d) :: L) → Q v H') :
    tLc (wI X tg iter) (fun v σ H Q => ∀ s H0 C cl fp, wG (bX X scope s H0 C cl fp) tg v σ H Q) (fun σ H Q => ∀ s H0 C cl fp, wTs (bX X scope s H0 C cl fp) ifs σ H Q) (fun σ H Q => ∀ s H0 C cl fp, wE (bX X scope s H0 C cl fp) elt σ H Q) vs σ H Q := by
  unfold mLc at e
  split at e
  · rename_i ds δ1 e1
    split at e
    · rename_i hz
      split at e
      · rename_i accF δ2 e2
        cases e
        exact lc_core ht hc he hsub hz (fun R q => hi s e1 R q) e2 Q q
      · cases e
    · cases e
  · cases e
theorem ig_lc (hcl : X.calm = true) (hN : X.N.Nodup) (hi : II X tg iter mi) (ok : BlkOk X.N X.env.scope scope own) (ht : ∀ s H C cl fp, IGt (bX X scope s H C cl fp) is tg t) (hc : ∀ s H C cl fp, ITs (bX X scope s H C cl fp) ifs c) (he : ∀ s H C cl fp, IG (bX X scope s H C cl fp) elt m)
    (hsub : ∀ i ∈ is, i ∈ own.map (·.2)) (hs : ∀ x, foldedSetIterable iter X.env x = pure x) : IG X (.ListComp elt [⟨tg, iter, ifs, 0⟩] scope pos) (mLc mi (own.map (·.2)) t c m) := by
  intro Z Hb H σ δ L d δ' s e Q q
  refine wE_of (pe_lc (wi := wI X tg iter) (g := fun v σ H Q => ∀ s H0 C cl fp, wG (bX X scope s H0 C cl fp) tg v σ H Q) (tt := fun σ H Q => ∀ s H0 C cl fp, wTs (bX X scope s H0 C cl fp) ifs σ H Q) (te := fun σ H Q => ∀ s H0 C cl fp, wE (bX X scope s H0 C cl fp) elt σ H Q) hcl hN pi_w ok (fun s H C cl fp => ⟨fun pins s' σ H' v u Q I r h => h s H C cl fp pins s' u I r⟩) (fun s H C cl fp => ⟨fun pins s' σ H' Q I h => h s H C cl fp pins s' I⟩) (fun s H C cl fp => ⟨fun pins s' σ H' Q I h => h s H C cl fp pins s' I⟩) hs) ?_
  exact lc_run hi ht hc he hsub s e Q q
/-- y = [..], all of it on one line -/
theorem is_setLc {P : Nat → Bool} {i : Nat} {y : Str} {py spos : Pos} (hP : P i = false) (hcl : X.calm = true) (hN : X.N.Nodup) (hy : X.N[i]? = some y) (hyl : X.env.scope.names.lookup y = some .local)
    (hsw : swapsWith (.ListComp elt [⟨tg, iter, ifs, 0⟩] scope pos) (some (.Name y py)) spos.line X.env = pure true) (hi : II X tg iter mi) (ok : BlkOk X.N X.env.scope scope own) (ht : ∀ s H C cl fp, IGt (bX X scope s H C cl fp) is tg t) (hc : ∀ s H C cl fp, ITs (bX X scope s H C cl fp) ifs c) (he : ∀ s H C cl fp, IG (bX X scope s H C cl fp) elt m)
    (hsub : ∀ i ∈ is, i ∈ own.map (·.2)) (hs : ∀ x, foldedSetIterable iter X.env x = pure x) : IS X P (.Assign [.Name y py] (.ListComp elt [⟨tg, iter, ifs, 0⟩] scope pos) spos) (sSet i (mLc mi (own.map (·.2)) t c m)) := by
  intro Z Hb H σ δ L fl s e Dn f
  unfold sSet at e
  split at e
  · rename_i d δ1 e1
    split at e
    · rename_i hl
      cases e
      refine wS_of (ps_setLc (wi := wI X tg iter) (g := fun v σ H Q => ∀ s H0 C cl fp, wG (bX X scope s H0 C cl fp) tg v σ H Q) (tt := fun σ H Q => ∀ s H0 C cl fp, wTs (bX X scope s H0 C cl fp) ifs σ H Q) (te := fun σ H Q => ∀ s H0 C cl fp, wE (bX X scope s H0 C cl fp) elt σ H Q) hcl hN hy hyl hsw pi_w ok (fun s H C cl fp => ⟨fun pins s' σ H' v u Q I r h => h s H C cl fp pins s' u I r⟩) (fun s H C cl fp => ⟨fun pins s' σ H' Q I h => h s H C cl fp pins s' I⟩) (fun s H C cl fp => ⟨fun pins s' σ H' Q I h => h s H C cl fp pins s' I⟩) hs) ?_
      exact lc_run hi ht hc he hsub s e1 _ fun v H' s' => f _ H' (s'.store hl) (.set hP _)
    · cases e
  · cases e
end
end DL
set_option Elab.async false
set_option linter.all false
set_option maxRecDepth 100000
set_option maxHeartbeats 4000001
namespace DL
open PySem.Spec PySem L2 PyProof.Rows
def wO (X : Cx) (e : Option Expr) : TO := fun σ H Q => ∀ pins s, Inv X pins σ H s → wpAny (model X.prog X.w) X.A (evalPart e X.env) (fun u s' => ∃ o H', Inv X pins σ H' s' ∧ IsPart u o ∧ Q o H') X.xe s
theorem po_w {X : Cx} {e : Option Expr} : PO X e (wO X e) := ⟨fun pins s σ H Q I h => h pins s I⟩
theorem wO_of {X : Cx} {e : Option Expr} {t : TO} (h : PO X e t) {σ : L2.St} {H : Hp} {Q : Option Int → Hp → Prop} (q : t σ H Q) : wO X e σ H Q := fun pins s I => h.run pins s σ H Q I q
abbrev MO := Env → Option (Option Int × Env)
def IO' (X : Cx) (e : Option Expr) (m : MO) : Prop := ∀ {Z : Addr → Prop} {Hb H : Hp} {σ : L2.St} {δ : Env} {L : PL} {o : Option Int} {δ' : Env}, Sq X Z Hb H σ δ L → m δ = some (o, δ') →
  ∀ Q : Option Int → Hp → Prop, (∀ H', Sq X Z Hb H' σ δ' L → Q o H') → wO X e σ H Q
def oNone : MO := fun δ => some (none, δ)
def oSome (m : ME) : MO := fun δ => match m δ with
  | some (.int i, δ1) => some (some i, δ1)
  | _ => none
section
variable {X : Cx} {e : Expr} {m : ME}
theorem io_none : IO' X none oNone := by
  intro Z Hb H σ δ L o δ' s e Q q
  cases e
  exact wO_of po_none (q H s)
theorem io_some (h : IG X e m) : IO' X (some e) (oSome m) := by
  intro Z Hb H σ δ L o δ' s e' Q q
  unfold oSome at e'
  split at e'
  · rename_i i δ1 e1
    cases e'
    refine wO_of (po_some pe_w) (h s e1 _ fun v H' s' => ?_)
    have hv := Sp.int s'.sp
    exact ⟨i, hv, q H' s'.drop⟩
  · cases e'
end
def cutD {α : Type} (ds : List α) (lo hi : Option Int) : List α := (ds.drop (HT.sIx ds.length 0 lo)).take (HT.sIx ds.length ds.length hi - HT.sIx ds.length 0 lo)
def dSl : D → Option Int → Option Int → Option D
  | .lst _ ds, lo, hi => some (.lst true (cutD ds lo hi))
  | .tup ds, lo, hi => some (.tup (cutD ds lo hi))
  | .str z, lo, hi => if z.length ≤ sizeLine then some (.str (cutS z lo hi)) else none
  | _, _, _ => none
def mSl (a : ME) (lo hi : MO) : ME := fun δ => match a δ with
  | some (x, δ1) => match lo δ1 with
    | some (l, δ2) => match hi δ2 with
      | some (h, δ3) => match dSl x l h with
        | some d => some (d, δ3)
        | none => none
      | none => none
    | none => none
  | none => none
theorem take_zip : ∀ (n : Nat) (vs : List V) (ds : List D), (vs.take n).zip (ds.take n) = (vs.zip ds).take n
  | 0, vs, ds => by simp
  | n + 1, [], ds => by simp
  | n + 1, v :: vs, [] => by simp
  | n + 1, v :: vs, d :: ds => by simp [take_zip n vs ds]
theorem drop_zip : ∀ (n : Nat) (vs : List V) (ds : List D), (vs.drop n).zip (ds.drop n) = (vs.zip ds).drop n
  | 0, vs, ds => by simp
  | n + 1, [], ds => by simp
  | n + 1, v :: vs, [] => by simp
  | n + 1, v :: vs, d :: ds => by simp [drop_zip n vs ds]
section
variable {K : PySem.W.Frag} {mg : Str → Option Value} {H Hb : Hp} {Z : Addr → Prop} {P : PL}
theorem Sp.dropN {A : PL} (n : Nat) (s : Sp K mg Z Hb H (A ++ P)) : Sp K mg Z Hb H (A.drop n ++ P) := by
  rw [← List.take_append_drop n A, List.append_assoc] at s
  exact s.dropL
theorem Sp.takeN {A : PL} (n : Nat) (s : Sp K mg Z Hb H (A ++ P)) : Sp K mg Z Hb H (A.take n ++ P) := by
  have e : (A ++ P).Perm (A.drop n ++ (A.take n ++ P)) := by
    have h := List.take_append_drop n A
    calc (A ++ P).Perm ((A.take n ++ A.drop n) ++ P) := by rw [h]
      _ |>.Perm ((A.drop n ++ A.take n) ++ P) := List.perm_append_comm.append_right _
      _ |>.Perm (A.drop n ++ (A.take n ++ P)) := by rw [List.append_assoc]
  exact (s.perm e).dropL
theorem Sp.cut {vs : List V} {ds : List D} (hl : vs.length = ds.length) (lo hi : Option Int) (s : Sp K mg Z Hb H (vs.zip ds ++ P)) : (cutV vs lo hi).length = (cutD ds lo hi).length ∧ Sp K mg Z Hb H ((cutV vs lo hi).zip (cutD ds lo hi) ++ P) := by
  unfold cutV cutD
  rw [hl]
  refine ⟨by simp [hl], ?_⟩
  rw [take_zip, drop_zip]
  exact (s.dropN _).takeN _
end
section
variable {X : Cx} {e : Expr} {m : ME} {lo hi : Option Expr} {ml mh : MO} {p2 pos : Pos}
def rSlAll (K : PySem.W.Frag) : V → Option Int → Option Int → Hp → VK → Prop := fun x lo hi H Q => rSlL K x lo hi H Q ∨ rSlA K x lo hi H Q ∨ rSlS x lo hi H Q
theorem ig_slice (he : IG X e m) (hl : IO' X lo ml) (hu : IO' X hi mh) : IG X (.Subscript e (.Slice lo hi none p2) pos) (mSl m ml mh) := by
  intro Z Hb H σ δ L d δ' s e' Q q
  unfold mSl at e'
  split at e'
  · rename_i x δ1 e1
    split at e'
    · rename_i l δ2 e2
      split at e'
      · rename_i h δ3 e3
        split at e'
        · rename_i d0 e4
          cases e'
          refine wE_of (pe_slice (r := rSlAll X.K) (sl_list.or (sl_tupA.or sl_str)) pe_w po_w po_w) (he s e1 _ fun v H1 s1 => hl s1 e2 _ fun H2 s2 => hu s2 e3 _ fun H3 s3 => ?_)
          have sp := s3.sp
          cases x with
          | lst o ds =>
            cases e4
            obtain ⟨a, vs, rfl, ha, hlen, sp1⟩ := Sp.lst sp
            obtain ⟨c1, c2⟩ := Sp.cut hlen l h sp1
            exact .inl ⟨a, vs, rfl, .inl (.inl ha), fun p hp => q _ _ ⟨c2.newL c1 hp, s3.dom⟩⟩
          | tup ds =>
            cases e4
            obtain ⟨a, vs, rfl, ha, hlen, sp1⟩ := Sp.tup sp
            obtain ⟨c1, c2⟩ := Sp.cut hlen l h sp1
            refine .inr (.inl ⟨a, vs, rfl, ha, fun hw => ?_, fun _ p hp => q _ _ ⟨c2.newT c1 hp, s3.dom⟩⟩)
            have ec : cutD ds l h = ds := by
              unfold cutD
              rw [← hlen, hw.1, hw.2, List.drop_zero, Nat.sub_zero, hlen, List.take_length]
            rw [ec] at q
            exact q _ _ s3
          | str z =>
            simp only [dSl] at e4
            split at e4
            · rename_i hz
              cases e4
              have := Sp.str sp
              subst this
              exact .inr (.inr ⟨z, rfl, hz, q _ _ (s3.drop.put fun _ => .str)⟩)
            · cases e4
          | _ => cases e4
        · cases e'
      · cases e'
    · cases e'
  · cases e'
end
end DL
set_option Elab.async false
set_option linter.all false
set_option maxRecDepth 100000
set_option maxHeartbeats 4000001
namespace DL
open PySem.Spec PySem L2 PyProof.Rows
abbrev MPs := List (ME × ME)
def mPairs : MPs → Env → Option (List (Key × D) × Env)
  | [], δ => some ([], δ)
  | (mk, mv) :: r, δ => match mk δ with
    | some (k, δ1) => match keyD k with
      | some kk => match mv δ1 with
        | some (d, δ2) => match mPairs r δ2 with
          | some (ps, δ3) => some ((kk, d) :: ps, δ3)
          | none => none
        | none => none
      | none => none
    | none => none
def trsOf (X : Cx) : List (Option Expr) → List Expr → List (TE × TE)
  | some k :: ks, v :: vs => (wE X k, wE X v) :: trsOf X ks vs
  | _, _ => []
def IPs (X : Cx) (pos : Pos) (keys : List (Option Expr)) (values : List Expr) (ms : MPs) : Prop := PPs X pos keys values (trsOf X keys values) ∧
  ∀ {Z : Addr → Prop} {Hb H : Hp} {σ : L2.St} {δ : Env} {L : PL} {kds : List (Key × D)} {δ' : Env}, Sq X Z Hb H σ δ L → mPairs ms δ = some (kds, δ') →
    ∀ Q : List (V × V) → Hp → Prop, (∀ (kvs : List (Key × V)) H', kvs.map (·.1) = kds.map (·.1) → Sq X Z Hb H' σ δ' ((kvs.map (·.2)).zip (kds.map (·.2)) ++ L) → Q (kvs.map fun kv => (kV kv.1, kv.2)) H') → tPairs (trsOf X keys values) σ H Q
section
variable {X : Cx} {pos : Pos} {k v : Expr} {ks : List (Option Expr)} {vs : List Expr} {mk mv : ME} {ms : MPs}
theorem ips_nil : IPs X pos [] [] [] := by
  refine ⟨pps_nil, ?_⟩
  intro Z Hb H σ δ L kds δ' s e Q q
  cases e
  exact q [] H rfl s
theorem ips_cons (hk : IG X k mk) (hv : IG X v mv) (hr : IPs X pos ks vs ms) : IPs X pos (some k :: ks) (v :: vs) ((mk, mv) :: ms) := by
  refine ⟨pps_cons pe_w pe_w hr.1, ?_⟩
  intro Z Hb H σ δ L kds δ' s e Q q
  simp only [mPairs] at e
  split at e
  · rename_i kd δ1 e1
    split at e
    · rename_i kk e2
      split at e
      · rename_i d δ2 e3
        split at e
        · rename_i ps δ3 e4
          cases e
          refine hk s e1 _ fun x H1 s1 => hv s1.drop e3 _ fun y H2 s2 => hr.2 s2 e4 _ fun kvs H3 hkk s3 => ?_
          have hx : x = kV kk := Sp.key s1.sp e2
          subst hx
          refine q ((kk, y) :: kvs) H3 (by simp [hkk]) (s3.perm ?_)
          exact List.perm_middle
        · cases e
      · cases e
    · cases e
  · cases e
end
theorem mergeK_new : ∀ {more kvs : List (Key × V)}, (∀ p ∈ more, valV kvs p.1 = none) → (more.map (·.1)).Nodup → mergeK kvs more = kvs ++ more
  | [], kvs, _, _ => by simp [mergeK]
  | p :: r, kvs, h, nd => by
    have h0 := h p List.mem_cons_self
    have nd' := List.nodup_cons.mp nd
    show mergeK (putK kvs p.1 p.2) r = _
    rw [putK_new p.2 h0, mergeK_new (fun q hq => ?_) nd'.2, List.append_assoc]
    · rfl
    · rw [valV_snoc _ _ _ _ h0, if_neg fun e => nd'.1 (by show p.1 ∈ _; rw [← e]; exact List.mem_map_of_mem hq)]
      exact h q (List.mem_cons_of_mem _ hq)
def mDisp (ms : MPs) : ME := fun δ => match mPairs ms δ with
  | some (kds, δ1) => if (kds.map (·.1)).Nodup ∧ kds.length ≤ 15 then some (.dct true (kds.map (·.1)) (kds.map (·.2)), δ1) else none
  | none => none
section
variable {X : Cx} {pos : Pos} {keys : List (Option Expr)} {values : List Expr} {ms : MPs}
theorem ig_dnew : IG X (.Dict [] [] pos) (mC (.dct true [] [])) := by
  intro Z Hb H σ δ L d δ' s e Q q
  cases e
  refine wE_of pe_dnewK fun p hp => q _ _ ⟨?_, s.dom⟩
  exact Sp.newK (kvs := []) (ds := []) s.sp rfl ⟨rfl, List.nodup_nil⟩ hp
theorem ig_disp (h : IPs X pos keys values ms) (hall : keys.all (·.isSome) = true) (hl : keys.length = values.length) (h0 : keys ≠ []) (h15 : keys.length ≤ 15) : IG X (.Dict keys values pos) (mDisp ms) := by
  intro Z Hb H σ δ L d δ' s e Q q
  unfold mDisp at e
  split at e
  · rename_i kds δ1 e1
    split at e
    · rename_i hn
      cases e
      refine wE_of (pe_disp h.1 hall hl h0 h15) fun p hp => ?_
      have s1 : Sq X Z Hb (upd H p (.dK [])) σ δ ((.ref p, .dct true [] []) :: L) := ⟨Sp.newK (kvs := []) (ds := []) s.sp rfl ⟨rfl, List.nodup_nil⟩ hp, s.dom⟩
      refine h.2 s1 e1 _ fun kvs H2 hk s2 => ?_
      have hlen : kvs.length = kds.length := by have := congrArg List.length hk; simpa using this
      have s3 : Sp X.K X.mg Z Hb H2 ((.ref p, .dct true [] []) :: ((kvs.map (·.2)).zip (kds.map (·.2)) ++ (L ++ prs σ δ'))) := s2.sp.perm (by
        rw [List.append_assoc]
        exact List.perm_middle)
      obtain ⟨kvs0, ha, hk0, hl0, back⟩ := s3.mutK
      have : kvs0 = [] := List.eq_nil_of_length_eq_zero hl0
      subst this
      refine ⟨ha, kvs, rfl, by omega, ?_⟩
      have nd : (kvs.map (·.1)).Nodup := by rw [hk]; exact hn.1
      rw [mergeK_new (fun _ _ => rfl) nd, List.nil_append]
      refine q _ _ ⟨?_, s2.dom⟩
      rw [← hk]
      exact back kvs (kds.map (·.2)) _ (by simp [hlen]) nd (List.Perm.refl _)
    · cases e
  · cases e
end
end DL
set_option Elab.async false
set_option linter.all false
set_option maxRecDepth 100000
set_option maxHeartbeats 4000001
namespace DL
open PySem.Spec PySem L2 PyProof.Rows
inductive Stp where
  | sub (k : Key)
  | fld (cs : List Str) (n : Str)
def posOf {α : Type} [DecidableEq α] : List α → α → Option Nat
  | [], _ => none
  | x :: r, y => if x = y then some 0 else (posOf r y).map (· + 1)
def kids : D → List D
  | .lst _ ds => ds
  | .tup ds => ds
  | .dct _ _ ds => ds
  | .obj _ _ _ ds => ds
  | _ => []
def setKids : D → List D → D
  | .lst o _, ds => .lst o ds
  | .tup _, ds => .tup ds
  | .dct o ks _, ds => .dct o ks ds
  | .obj o c ns _, ds => .obj o c ns ds
  | d, _ => d
def ownC : D → Bool
  | .lst o _ => o
  | .dct o _ _ => o
  | .obj o _ _ _ => o
  | _ => false
def chN : D → Stp → Option Nat
  | .dct _ ks _, .sub k => posOf ks k
  | .obj _ c ns _, .fld cs n => if cs.contains c then posOf ns n else none
  | .lst _ ds, .sub (.inl i) => ixN ds.length i
  | .tup ds, .sub (.inl i) => ixN ds.length i
  | _, _ => none
/-- one step, by values -/
def Rc1 (K : PySem.W.Frag) (mg : Str → Option Value) (H : Hp) (v : V) (s : Stp) (u : V) : Prop := match s with
  | .sub k => (∃ a kvs, v = .ref a ∧ Rd H a (.dK kvs) ∧ valV kvs k = some u) ∨ ∃ a vs i, k = .inl i ∧ v = .ref a ∧ (SqL K H a vs ∨ SqT K H a vs) ∧ atI vs i = some u
  | .fld cs n => ∃ a C dx fs c, v = .ref a ∧ H a = some (.ins C dx fs) ∧ c ∈ cs ∧ mg c = some (.ref C) ∧ fs.lookup n = some u
/-- one step through what is one's own -/
def Ro1 (K : PySem.W.Frag) (mg : Str → Option Value) (H : Hp) (v : V) (s : Stp) (u : V) : Prop := match s with
  | .sub k => (∃ a kvs, v = .ref a ∧ H a = some (.dK kvs) ∧ valV kvs k = some u) ∨ ∃ a vs i, k = .inl i ∧ v = .ref a ∧ H a = some (.lst vs) ∧ atI vs i = some u
  | .fld cs n => ∃ a C dx fs c, v = .ref a ∧ H a = some (.ins C dx fs) ∧ c ∈ cs ∧ mg c = some (.ref C) ∧ fs.lookup n = some u
def Ro (K : PySem.W.Frag) (mg : Str → Option Value) (H : Hp) : V → List Stp → V → Prop
  | v, [], w => v = w
  | v, s :: p, w => ∃ u, Ro1 K mg H v s u ∧ Ro K mg H u p w
def Rc (K : PySem.W.Frag) (mg : Str → Option Value) (H : Hp) : V → List Stp → V → Prop
  | v, [], w => v = w
  | v, s :: p, w => ∃ u, Rc1 K mg H v s u ∧ Rc K mg H u p w
theorem posOf_lt {α : Type} [DecidableEq α] : ∀ {l : List α} {x : α} {j : Nat}, posOf l x = some j → j < l.length
  | [], _, _, h => by simp [posOf] at h
  | a :: r, x, j, h => by
    simp only [posOf] at h
    split at h
    · cases h; simp
    · obtain ⟨k, e, rfl⟩ := Option.map_eq_some_iff.mp h
      have := posOf_lt e
      simp; omega
theorem posOf_val : ∀ {kvs : List (Key × V)} {k : Key} {j : Nat} {u : V}, posOf (kvs.map (·.1)) k = some j → (kvs.map (·.2))[j]? = some u → valV kvs k = some u
  | [], _, _, _, h, _ => by simp [posOf] at h
  | p :: r, k, j, u, h, hu => by
    simp only [List.map_cons, posOf] at h
    split at h
    · rename_i e
      cases h
      have e' : p.1 = k := e
      rw [valV_pos e']
      simpa using hu
    · rename_i e
      obtain ⟨i, e1, rfl⟩ := Option.map_eq_some_iff.mp h
      have e' : ¬ p.1 = k := e
      rw [valV_neg e']
      exact posOf_val e1 (by simpa using hu)
theorem posOf_look : ∀ {fs : List (Str × V)} {k : Str} {j : Nat} {u : V}, posOf (fs.map (·.1)) k = some j → (fs.map (·.2))[j]? = some u → fs.lookup k = some u
  | [], _, _, _, h, _ => by simp [posOf] at h
  | p :: r, k, j, u, h, hu => by
    obtain ⟨a, b⟩ := p
    simp only [List.map_cons, posOf] at h
    split at h
    · rename_i e
      cases h
      have e' : a = k := e
      subst e'
      rw [List.lookup_cons_self]
      simpa using hu
    · rename_i e
      obtain ⟨i, e1, rfl⟩ := Option.map_eq_some_iff.mp h
      have e' : ¬ a = k := e
      rw [List.lookup_cons, show (k == a) = false from by simpa using fun h => e' h.symm]
      exact posOf_look e1 (by simpa using hu)
section
variable {K : PySem.W.Frag} {mg : Str → Option Value} {H H' Hb : Hp} {Z : Addr → Prop} {P Q Q' : PL} {v w u : V} {d t : D} {F : List Addr} {s : Stp} {j : Nat} {p q : List Stp}
theorem Rd.grow {a : Addr} {u : HO} (h : Rd H a u) (k : ∀ a o, H a = some o → H' a = some o) : Rd H' a u := Rd.keep h fun o e => k a o e
theorem SqL.grow {a : Addr} {vs : List V} (h : SqL K H a vs) (k : ∀ a o, H a = some o → H' a = some o) : SqL K H' a vs := by
  rcases h with h | h
  · exact .inl (Rd.grow h k)
  · exact .inr h
theorem Rc1.grow (h : Rc1 K mg H v s u) (k : ∀ a o, H a = some o → H' a = some o) : Rc1 K mg H' v s u := by
  cases s with
  | sub x =>
    rcases h with ⟨a, kvs, e, h, l⟩ | ⟨a, vs, i, ek, e, h, l⟩
    · exact .inl ⟨a, kvs, e, Rd.grow h k, l⟩
    · exact .inr ⟨a, vs, i, ek, e, h.imp (fun h => SqL.grow h k) (fun h => SqT.keep h fun a o e _ => k a o e), l⟩
  | fld cs n => obtain ⟨a, C, dx, fs, c, e, h, r⟩ := h; exact ⟨a, C, dx, fs, c, e, k _ _ h, r⟩
theorem Rc.grow : ∀ {p : List Stp} {v w : V}, Rc K mg H v p w → (∀ a o, H a = some o → H' a = some o) → Rc K mg H' v p w
  | [], _, _, h, _ => h
  | s :: p, v, w, ⟨u, h1, h2⟩, k => ⟨u, h1.grow k, Rc.grow h2 k⟩
theorem Rc.snoc : ∀ {p : List Stp} {v u w : V}, Rc K mg H v p u → Rc1 K mg H u s w → Rc K mg H v (p ++ [s]) w
  | [], v, u, w, e, h => by
    have e : v = u := e
    subst e
    exact ⟨w, h, rfl⟩
  | _ :: p, v, u, w, ⟨x, h1, h2⟩, h => ⟨x, h1, h2.snoc h⟩
theorem Rc.unsnoc : ∀ {p : List Stp} {v w : V}, Rc K mg H v (p ++ [s]) w → ∃ u, Rc K mg H v p u ∧ Rc1 K mg H u s w
  | [], v, w, ⟨x, h1, h2⟩ => ⟨v, rfl, by have h2 : x = w := h2; subst h2; exact h1⟩
  | _ :: p, v, w, ⟨x, h1, h2⟩ => by
    obtain ⟨u, h3, h4⟩ := Rc.unsnoc h2
    exact ⟨u, ⟨x, h1, h3⟩, h4⟩
theorem Ro1.rc (h : Ro1 K mg H v s u) : Rc1 K mg H v s u := by
  cases s with
  | sub x =>
    rcases h with ⟨a, kvs, e, h, l⟩ | ⟨a, vs, i, ek, e, h, l⟩
    · exact .inl ⟨a, kvs, e, .inl h, l⟩
    · exact .inr ⟨a, vs, i, ek, e, .inl (.inl (.inl h)), l⟩
  | fld cs n => exact h
theorem Ro.rc : ∀ {p : List Stp} {v w : V}, Ro K mg H v p w → Rc K mg H v p w
  | [], _, _, h => h
  | s :: p, v, w, ⟨u, h1, h2⟩ => ⟨u, h1.rc, h2.rc⟩
theorem Ro1.det (h : Ro1 K mg H v s u) (h' : Ro1 K mg H' v s w) (k : ∀ a o, H a = some o → H' a = some o) : u = w := by
  cases s with
  | sub x =>
    rcases h with ⟨a, kvs, e, h, l⟩ | ⟨a, vs, i, ek, e, h, l⟩ <;> rcases h' with ⟨a', kvs', e', h', l'⟩ | ⟨a', vs', i', ek', e', h', l'⟩ <;> subst e <;> cases e' <;> have z := (k _ _ h).symm.trans h' <;> cases z
    · rw [l] at l'; cases l'; rfl
    · subst ek; cases ek'; rw [l] at l'; cases l'; rfl
  | fld cs n =>
    obtain ⟨a, C, dx, fs, c, e, h, _, _, l⟩ := h
    obtain ⟨a', C', dx', fs', c', e', h', _, _, l'⟩ := h'
    subst e
    cases e'
    have z := (k _ _ h).symm.trans h'
    cases z
    rw [l] at l'; cases l'; rfl
theorem Ro.det : ∀ {p : List Stp} {v w w' : V}, Ro K mg H v p w → Ro K mg H' v p w' → (∀ a o, H a = some o → H' a = some o) → w = w'
  | [], _, _, _, h, h', _ => by
    have h1 : _ = _ := h
    have h2 : _ = _ := h'
    exact h1.symm.trans h2
  | s :: p, v, w, w', ⟨u, h1, h2⟩, ⟨u', h1', h2'⟩, k => by
    have := h1.det h1' k
    subst this
    exact h2.det h2' k
theorem Sp.conv (s : Sp K mg Z Hb H (Q ++ P)) (h : ∀ Y F, Rps K mg H Y Q F → Rps K mg H Y Q' F) : Sp K mg Z Hb H (Q' ++ P) := by
  obtain ⟨⟨F, r, nd, hb⟩, b, fr⟩ := s
  obtain ⟨F1, F2, rfl, r1, r2⟩ := r.split
  exact ⟨⟨F1 ++ F2, (h _ _ r1).append r2, nd, hb⟩, b, fr⟩
/-- an own thing opened -/
theorem Sp.open1 (s : Sp K mg Z Hb H ((v, d) :: P)) (h : ownC d = true) : ∃ (hd : D) (vs : List V), vs.length = (kids d).length ∧ Sp K mg Z Hb H ((v, hd) :: (vs.zip (kids d) ++ P)) ∧
    (∀ j st u, chN d st = some j → vs[j]? = some u → Ro1 K mg H v st u) ∧
    ∀ Z' Hb' H' P' ds', ds'.length = vs.length → Sp K mg Z' Hb' H' ((v, hd) :: (vs.zip ds' ++ P')) → Sp K mg Z' Hb' H' ((v, setKids d ds') :: P') := by
  obtain ⟨Y0, F0, r0⟩ := s.head
  cases d with
  | lst o ds =>
    cases h
    cases r0 with
    | @lstO a vs _ _ ha ts =>
      refine ⟨.raw true (.lst vs), vs, ts.len, ?_, ?_, ?_⟩
      · refine Sp.conv (Q := [(.ref a, .lst true ds)]) (Q' := (.ref a, .raw true (.lst vs)) :: vs.zip ds) s fun Y F r => ?_
        cases r with
        | cons q t => cases t; cases q with
          | lstO ha' t' =>
            have := ha.symm.trans ha'
            cases this
            simpa using Rps.cons (.rawO ha rfl trivial) t'.zip
      · intro j st u hj hu
        cases st with
        | sub k => cases k with
          | inl i => exact .inr ⟨a, vs, i, rfl, rfl, ha, by
              have hj : ixN ds.length i = some j := hj
              unfold atI; rw [ts.len, hj]; exact hu⟩
          | inr x => cases hj
        | _ => cases hj
      · intro Z' Hb' H' P' ds' hl s'
        refine Sp.conv (Q := (.ref a, .raw true (.lst vs)) :: vs.zip ds') (Q' := [(.ref a, .lst true ds')]) s' fun Y F r => ?_
        cases r with
        | cons q t => cases q with
          | rawO h' _ nm' =>
            have := Rps.cons (.lstO h' (t.unzip hl.symm)) (Rps.nil (K := K) (mg := mg) (H := H') (Z := Y))
            simpa using this
  | dct o ks ds =>
    cases h
    cases r0 with
    | @dctO a kvs _ _ _ ha hk ts =>
      obtain ⟨hk, hnd⟩ := hk
      subst hk
      refine ⟨.raw true (.dK kvs), kvs.map (·.2), ts.len, ?_, ?_, ?_⟩
      · refine Sp.conv (Q := [(.ref a, .dct true _ ds)]) (Q' := (.ref a, .raw true (.dK kvs)) :: (kvs.map (·.2)).zip ds) s fun Y F r => ?_
        cases r with
        | cons q t => cases t; cases q with
          | dctO ha' _ t' =>
            have := ha.symm.trans ha'
            cases this
            simpa using Rps.cons (.rawO ha rfl trivial) t'.zip
      · intro j st u hj hu
        cases st with
        | sub k => exact .inl ⟨a, kvs, rfl, ha, posOf_val hj hu⟩
        | _ => cases hj
      · intro Z' Hb' H' P' ds' hl s'
        refine Sp.conv (Q := (.ref a, .raw true (.dK kvs)) :: (kvs.map (·.2)).zip ds') (Q' := [(.ref a, .dct true (kvs.map (·.1)) ds')]) s' fun Y F r => ?_
        cases r with
        | cons q t => cases q with
          | rawO h' _ nm' =>
            have := Rps.cons (.dctO h' ⟨rfl, hnd⟩ (t.unzip hl.symm)) (Rps.nil (K := K) (mg := mg) (H := H') (Z := Y))
            simpa using this
  | obj o c ns ds =>
    cases h
    cases r0 with
    | @objO a C dx fs _ _ _ _ ha hc hk ts nm =>
      subst hk
      refine ⟨.raw true (.ins C dx fs), fs.map (·.2), ts.len, ?_, ?_, ?_⟩
      · refine Sp.conv (Q := [(.ref a, .obj true c _ ds)]) (Q' := (.ref a, .raw true (.ins C dx fs)) :: (fs.map (·.2)).zip ds) s fun Y F r => ?_
        cases r with
        | cons q t => cases t; cases q with
          | objO ha' _ _ t' _ =>
            have := ha.symm.trans ha'
            cases this
            simpa using Rps.cons (.rawO ha rfl nm) t'.zip
      · intro j st u hj hu
        cases st with
        | fld cs n =>
          simp only [chN] at hj
          split at hj
          · rename_i hcs
            exact ⟨a, C, dx, fs, c, rfl, ha, by simpa using hcs, hc, posOf_look hj hu⟩
          · cases hj
        | _ => cases hj
      · intro Z' Hb' H' P' ds' hl s'
        refine Sp.conv (Q := (.ref a, .raw true (.ins C dx fs)) :: (fs.map (·.2)).zip ds') (Q' := [(.ref a, .obj true c (fs.map (·.1)) ds')]) s' fun Y F r => ?_
        cases r with
        | cons q t => cases q with
          | rawO h' _ nm' =>
            have := Rps.cons (.objO h' hc rfl (t.unzip hl.symm) nm') (Rps.nil (K := K) (mg := mg) (H := H') (Z := Y))
            simpa using this
  | _ => cases h
theorem set_zip {vs : List V} {ds : List D} {j : Nat} {x : V} {e : D} (hl : vs.length = ds.length) (hj : vs[j]? = some x) : (vs.zip (ds.set j e)).Perm ((x, e) :: (vs.eraseIdx j).zip (ds.eraseIdx j)) := by
  induction vs generalizing ds j with
  | nil => simp at hj
  | cons v vs ih => cases ds with
    | nil => simp at hl
    | cons d ds => cases j with
      | zero =>
        have : v = x := by simpa using hj
        subst this
        simp
      | succ j =>
        have := ih (ds := ds) (j := j) (by simpa using hl) (by simpa using hj)
        simp only [List.set_cons_succ, List.zip_cons_cons, List.eraseIdx_cons_succ]
        exact (this.cons _).trans (.swap _ _ _)
/-- the part at a step -/
theorem Sp.child (s : Sp K mg Z Hb H ((v, d) :: P)) (h : ownC d = true) {st : Stp} (hj : chN d st = some j) {e : D} (he : (kids d)[j]? = some e) : ∃ u Z' Hc, Ro1 K mg H v st u ∧ Sp K mg Z' Hc H ((u, e) :: P) ∧
    ∀ H' e' P', Sp K mg Z' Hc H' ((u, e') :: P') → Sp K mg Z Hb H' ((v, setKids d ((kids d).set j e')) :: P') := by
  obtain ⟨hd, vs, hl, s1, rc, back⟩ := s.open1 h
  have hj' : j < vs.length := by rw [hl]; exact (List.getElem?_eq_some_iff.mp he).1
  obtain ⟨u, hu⟩ : ∃ u, vs[j]? = some u := ⟨vs[j], by simp [hj']⟩
  have hset : (kids d).set j e = kids d := by
    apply List.ext_getElem?
    intro n
    rw [List.getElem?_set]
    by_cases q : j = n
    · subst q; rw [if_pos rfl, if_pos (by rw [← hl]; exact hj'), he]
    · rw [if_neg q]
  have pm := set_zip (ds := kids d) (e := e) hl hu
  rw [hset] at pm
  have s2 : Sp K mg Z Hb H (((u, e) :: P) ++ ((v, hd) :: (vs.eraseIdx j).zip ((kids d).eraseIdx j))) := s1.perm (by
    have p1 := (pm.append_right P).cons (v, hd)
    refine p1.trans ?_
    refine List.Perm.trans (List.Perm.swap _ _ _) ?_
    refine List.Perm.cons _ ?_
    exact (List.perm_append_comm (l₁ := (v, hd) :: (vs.eraseIdx j).zip ((kids d).eraseIdx j)) (l₂ := P)))
  obtain ⟨Z', Hc, s3, lb⟩ := s2.lend
  refine ⟨u, Z', Hc, rc _ _ _ hj hu, s3, fun H' e' P' s' => ?_⟩
  have s4 := lb H' _ s'
  have pm' := set_zip (ds := kids d) (e := e') hl hu
  refine back Z Hb H' P' ((kids d).set j e') (by simp [hl]) (s4.perm ?_)
  have p1 := (pm'.append_right P').cons (v, hd)
  refine List.Perm.trans ?_ p1.symm
  refine List.Perm.trans ?_ (List.Perm.swap _ _ _)
  refine List.Perm.cons _ ?_
  exact (List.perm_append_comm (l₁ := P') (l₂ := (v, hd) :: (vs.eraseIdx j).zip ((kids d).eraseIdx j)))
end
def atO : D → List Stp → Option D
  | d, [] => some d
  | d, s :: p => if ownC d then match chN d s with
      | some j => match (kids d)[j]? with
        | some e => atO e p
        | none => none
      | none => none
    else none
def putO : D → List Stp → D → D
  | _, [], t => t
  | d, s :: p, t => match chN d s with
    | some j => match (kids d)[j]? with
      | some e => setKids d ((kids d).set j (putO e p t))
      | none => d
    | none => d
section
variable {K : PySem.W.Frag} {mg : Str → Option Value} {H H' Hb : Hp} {Z : Addr → Prop} {P : PL} {v w u : V}
/-- the own part at a path -/
theorem Sp.focus : ∀ {p : List Stp} {Z : Addr → Prop} {Hb : Hp} {v : V} {d t : D}, Sp K mg Z Hb H ((v, d) :: P) → atO d p = some t → ∃ w Z' Hc, Ro K mg H v p w ∧ Sp K mg Z' Hc H ((w, t) :: P) ∧
    ∀ H' t' P', Sp K mg Z' Hc H' ((w, t') :: P') → Sp K mg Z Hb H' ((v, putO d p t') :: P')
  | [], Z, Hb, v, d, t, s, h => by
    cases h
    exact ⟨v, Z, Hb, rfl, s, fun H' t' P' s' => s'⟩
  | st :: p, Z, Hb, v, d, t, s, h => by
    simp only [atO] at h
    split at h
    · rename_i ho
      split at h
      · rename_i j hj
        split at h
        · rename_i e he
          obtain ⟨u, Z1, H1, r1, s1, b1⟩ := s.child ho hj he
          obtain ⟨w, Z2, H2, r2, s2, b2⟩ := Sp.focus s1 h
          refine ⟨w, Z2, H2, ⟨u, r1, r2⟩, s2, fun H' t' P' s' => ?_⟩
          have := b1 H' _ P' (b2 H' t' P' s')
          simp only [putO, hj, he]
          exact this
        · cases h
      · cases h
    · cases h
/-- reading at a path: what comes is frozen -/
def walk : D → List Stp → Option (D × D)
  | d, [] => if isFz d then some (d, d) else some (fz d, fz d)
  | d, s :: p => match chN d s with
    | some j => match (kids d)[j]? with
      | some e => if ownC d then match walk e p with
          | some (t, e') => some (t, setKids d ((kids d).set j e'))
          | none => none
        else if isFz d then match walk e p with
          | some (t, _) => some (t, d)
          | none => none
        else none
      | none => none
    | none => none
theorem Rep.child {d e : D} {Y : Addr → Prop} (r : Rep K mg H Y v d []) {st : Stp} {j : Nat} (hj : chN d st = some j) (he : (kids d)[j]? = some e) : ∃ u, Rc1 K mg H v st u ∧ Rep K mg H Y u e [] := by
  cases d with
  | lst o ds =>
    cases st with
    | sub k => cases k with
      | inr x => cases hj
      | inl i =>
      have hj : ixN ds.length i = some j := hj
      cases r with
      | @lstF a vs _ ha _ ts =>
        obtain ⟨u, hu, ru⟩ := ts.get he
        exact ⟨u, .inr ⟨a, vs, i, rfl, rfl, .inl (.inl (.inl ha)), by unfold atI; rw [ts.len]; show (ixN ds.length i).bind _ = _; rw [show ixN ds.length i = some j from hj]; exact hu⟩, ru⟩
    | _ => cases hj
  | tup ds =>
    cases st with
    | sub k => cases k with
      | inr x => cases hj
      | inl i =>
      have hj : ixN ds.length i = some j := hj
      generalize e0 : ([] : List Addr) = G at r
      cases r with
      | @tup a vs _ _ ha ts =>
        subst e0
        obtain ⟨u, hu, ru⟩ := ts.get he
        exact ⟨u, .inr ⟨a, vs, i, rfl, rfl, .inr ha, by unfold atI; rw [ts.len]; show (ixN ds.length i).bind _ = _; rw [show ixN ds.length i = some j from hj]; exact hu⟩, ru⟩
    | _ => cases hj
  | dct o ks ds =>
    cases st with
    | sub k =>
      cases r with
      | @dctF a kvs _ _ ha _ hk ts =>
        obtain ⟨hk, _⟩ := hk
        subst hk
        obtain ⟨u, hu, ru⟩ := ts.get he
        exact ⟨u, .inl ⟨a, kvs, rfl, ha, posOf_val hj hu⟩, ru⟩
    | _ => cases hj
  | obj o c ns ds =>
    cases st with
    | fld cs n =>
      simp only [chN] at hj
      split at hj
      · rename_i hcs
        cases r with
        | @objF a C dx fs _ _ _ ha _ hc hk ts _ =>
          subst hk
          obtain ⟨u, hu, ru⟩ := ts.get he
          exact ⟨u, ⟨a, C, dx, fs, c, rfl, ha, by simpa using hcs, hc, posOf_look hj hu⟩, ru⟩
      · cases hj
    | _ => cases hj
  | _ => cases st <;> cases hj
theorem isFz_kids {d : D} (h : isFz d = true) : isFzs (kids d) = true := by
  cases d <;> simp_all [isFz, kids, isFzs]
theorem Rep.walk : ∀ {p : List Stp} {v : V} {d t d' : D} {Y : Addr → Prop}, Rep K mg H Y v d [] → isFz d = true → DL.walk d p = some (t, d') → d' = d ∧ isFz t = true ∧ ∃ w, Rc K mg H v p w ∧ Rep K mg H Y w t []
  | [], v, d, t, d', Y, r, hf, h => by
    simp only [DL.walk, hf, if_true] at h
    cases h
    exact ⟨rfl, hf, v, rfl, r⟩
  | st :: p, v, d, t, d', Y, r, hf, h => by
    simp only [DL.walk] at h
    split at h
    · rename_i j hj
      split at h
      · rename_i e he
        have ho : ownC d = false := by cases d <;> simp_all [isFz, ownC]
        rw [ho, hf] at h
        simp only [Bool.false_eq_true, if_false, if_true] at h
        split at h
        · rename_i t0 e' hw
          cases h
          obtain ⟨u, r1, ru⟩ := r.child hj he
          obtain ⟨_, ht, w, r2, rw'⟩ := ru.walk (isFzs_get (isFz_kids hf) he) hw
          exact ⟨rfl, ht, w, ⟨u, r1, r2⟩, rw'⟩
        · cases h
      · cases h
    · cases h
theorem Sp.walk : ∀ {p : List Stp} {Z : Addr → Prop} {Hb : Hp} {v : V} {d t d' : D}, Sp K mg Z Hb H ((v, d) :: P) → DL.walk d p = some (t, d') → ∃ w, Rc K mg H v p w ∧ Sp K mg Z Hb H ((w, t) :: (v, d') :: P)
  | [], Z, Hb, v, d, t, d', s, h => by
    simp only [DL.walk] at h
    split at h
    · rename_i hf
      cases h
      exact ⟨v, rfl, s.dup hf⟩
    · cases h
      exact ⟨v, rfl, s.freeze.dup (isFz_fz d)⟩
  | st :: p, Z, Hb, v, d, t, d', s, h => by
    have h0 := h
    simp only [DL.walk] at h
    split at h
    · rename_i j hj
      split at h
      · rename_i e he
        split at h
        · rename_i ho
          split at h
          · rename_i t0 e' hw
            cases h
            obtain ⟨u, Z1, H1, r1, s1, b1⟩ := s.child ho hj he
            obtain ⟨w, r2, s2⟩ := Sp.walk s1 hw
            exact ⟨w, ⟨u, r1.rc, r2⟩, (b1 H _ _ (s2.perm (.swap _ _ _))).perm (.swap _ _ _)⟩
          · cases h
        · split at h
          · rename_i hf
            -- all of it is frozen
            obtain ⟨⟨F, r, nd, hb⟩, b, fr⟩ := s
            cases r with
            | cons q tl =>
              have e0 := q.own_nil hf
              subst e0
              obtain ⟨e1, ht, w, rc, rw'⟩ := q.walk hf h0
              subst e1
              exact ⟨w, rc, ⟨_, .cons (F := []) rw' (.cons (F := []) q tl), nd, hb⟩, b, fr⟩
          · cases h
      · cases h
    · cases h
end
end DL
set_option Elab.async false
set_option linter.all false
set_option maxRecDepth 100000
set_option maxHeartbeats 4000001
namespace DL
open PySem.Spec PySem L2 PyProof.Rows
abbrev Grows (H H' : Hp) : Prop := ∀ a o, H a = some o → H' a = some o
section
variable {X : Cx} {Z : Addr → Prop} {Hb H H' : Hp} {σ : L2.St} {δ : Env} {L : PL} {v : V} {d : D} {i : Nat}
theorem Sq.out (s : Sq X Z Hb H σ δ L) (hv : σ[i]? = some (some v)) (hd : δ[i]? = some (some d)) : Sp X.K X.mg Z Hb H ((v, d) :: (L ++ prs σ (δ.set i none))) :=
  s.sp.perm (((prs_get hv hd).append_left L).trans List.perm_middle)
theorem Sq.back {d' : D} (dm : Dom σ δ) (hv : σ[i]? = some (some v)) (hd : δ[i]? = some (some d)) {L' : PL} (s : Sp X.K X.mg Z Hb H ((v, d') :: (L' ++ prs σ (δ.set i none)))) : Sq X Z Hb H σ (δ.set i (some d')) L' :=
  ⟨s.perm (((prs_back hv hd).append_left L').trans List.perm_middle).symm, dm.setD hd _⟩
/-- reckoned without effect; the heap grows only -/
theorem pure_run {e : Expr} (m : List Bool) {f : ME} (h : IG X e f) {d : D} {δ0 : Env} (s : Sq X Z Hb H σ δ L) (hf : f (fzE (keepM m δ)) = some (d, δ0)) (hn : noal d = true) (Q : VK) (q : ∀ v H', Grows H H' → Sq X Z Hb H' σ δ ((v, d) :: L) → Q v H') : wE X e σ H Q := by
  have s1 : Sp X.K X.mg Z Hb H (prs σ (keepM m δ) ++ (prs σ (restM m δ) ++ L)) := s.sp.perm (((prs_split m σ δ).append_left L).trans (by
    rw [← List.append_assoc (prs σ (keepM m δ))]
    exact List.perm_append_comm))
  obtain ⟨Z', sp, back⟩ := s1.pure
  have sq : Sq X Z' H H σ (fzE (keepM m δ)) [] := ⟨by rw [prs_fzE]; exact sp, s.dom.keepM m⟩
  refine h sq hf Q fun v H' s' => q v H' s'.sp.base ?_
  obtain ⟨b1, b2⟩ := back H' v d _ s'.sp
  refine ⟨(b1 hn).perm ((?_ : List.Perm _ _).cons _), s.dom⟩
  refine List.Perm.trans ?_ ((prs_split m σ δ).symm.append_left L)
  rw [← List.append_assoc]
  exact List.perm_append_comm
end
abbrev MK := Env → Option D
def IK (X : Cx) (e : Expr) (m : MK) : Prop := ∀ {Z : Addr → Prop} {Hb H : Hp} {σ : L2.St} {δ : Env} {L : PL} {d : D}, Sq X Z Hb H σ δ L → m δ = some d →
  ∀ Q : VK, (∀ v H', Grows H H' → Sq X Z Hb H' σ δ ((v, d) :: L) → Q v H') → wE X e σ H Q
def kPur (m : List Bool) (f : ME) : MK := fun δ => match f (fzE (keepM m δ)) with
  | some (d, _) => if noal d then some d else none
  | none => none
theorem ik_pur {X : Cx} {e : Expr} (m : List Bool) {f : ME} (h : IG X e f) : IK X e (kPur m f) := by
  intro Z Hb H σ δ L d s e' Q q
  unfold kPur at e'
  split at e'
  · rename_i d0 δ0 hf
    split at e'
    · rename_i hn
      cases e'
      exact pure_run m h s hf hn Q q
    · cases e'
  · cases e'
/-- a list of arguments, reckoned without effect -/
abbrev MKs := Env → Option (List D)
def IKs (X : Cx) (es : List Expr) (m : MKs) : Prop := ∀ {Z : Addr → Prop} {Hb H : Hp} {σ : L2.St} {δ : Env} {L : PL} {ds : List D}, Sq X Z Hb H σ δ L → m δ = some ds →
  ∀ Q : List V → Hp → Prop, (∀ vs H', vs.length = ds.length → Grows H H' → Sq X Z Hb H' σ δ (vs.zip ds ++ L) → Q vs H') → wA X es σ H Q
def ksNil : MKs := fun _ => some []
def ksCons (a : MK) (r : MKs) : MKs := fun δ => match a δ with
  | some d => match r δ with
    | some ds => some (d :: ds)
    | none => none
  | none => none
section
variable {X : Cx} {e : Expr} {es : List Expr} {m : MK} {r : MKs}
theorem iks_nil : IKs X [] ksNil := by
  intro Z Hb H σ δ L ds s e Q q
  cases e
  exact wA_of pa_nil (q [] H rfl (fun _ _ h => h) s)
theorem iks_cons (h : IK X e m) (t : IKs X es r) (hs : starEach (e :: es) X.env = (false, eval e X.env) :: starEach es X.env) : IKs X (e :: es) (ksCons m r) := by
  intro Z Hb H σ δ L ds s e' Q q
  unfold ksCons at e'
  split at e'
  · rename_i d e1
    split at e'
    · rename_i ds' e2
      cases e'
      refine wA_of (pa_cons pe_w pa_w hs) (h s e1 _ fun v H1 g1 s1 => t s1 e2 _ fun vs H2 hl g2 s2 => q (v :: vs) H2 (by simp [hl]) (fun a o x => g2 a o (g1 a o x)) (s2.perm ?_))
      exact List.perm_middle
    · cases e'
  · cases e'
end
abbrev MP := Env → Option (List Stp)
def IP (X : Cx) (e : Expr) (i : Nat) (m : MP) : Prop := ∀ {Z : Addr → Prop} {Hb H : Hp} {σ : L2.St} {δ : Env} {L : PL} {p : List Stp} {v w : V}, Sq X Z Hb H σ δ L → m δ = some p → σ[i]? = some (some v) → Rc X.K X.mg H v p w →
  ∀ Q : VK, (∀ H', Grows H H' → Q w H') → wE X e σ H Q
def pVar : MP := fun _ => some []
def pSub (a : MP) (b : MK) : MP := fun δ => match a δ with
  | some p => match b δ with
    | some d => match keyD d with
      | some k => some (p ++ [.sub k])
      | none => none
    | none => none
  | none => none
section
variable {X : Cx} {e b : Expr} {i : Nat} {m : MP} {k : MK} {pos : Pos}
theorem ip_var {x : Str} (i : Nat) (hp : PE X (.Name x pos) (tVar i)) : IP X (.Name x pos) i pVar := by
  intro Z Hb H σ δ L p v w s e hv hr Q q
  cases e
  have hr : v = w := hr
  subst hr
  exact wE_of hp ⟨v, hv, q H fun _ _ h => h⟩
theorem sub_run (hu : X.A.units + 1 < cLine) {u w : V} {k : Key} {H : Hp} {Q : VK} (r : Rc1 X.K X.mg H u (.sub k) w) (q : Q w H) : wX X u (kV k) H Q := by
  rcases r with ⟨a, kvs, e, h, l⟩ | ⟨a, vs, i, ek, e, h, l⟩
  · exact ix_dictW hu e (by rw [← l]; exact dgetR h) q
  · subst ek
    rcases h with h | h
    · exact wX_of ix_list ⟨a, vs, i, w, e, rfl, h, l, q⟩
    · exact wX_of ix_tup ⟨a, vs, i, w, e, rfl, h, l, q⟩
theorem ip_sub (hu : X.A.units + 65 < cLine) (h : IP X e i m) (hk : IK X b k) (hs : PlainIx b) : IP X (.Subscript e b pos) i (pSub m k) := by
  intro Z Hb H σ δ L p v w s e' hv hr Q q
  unfold pSub at e'
  split at e'
  · rename_i p0 e1
    split at e'
    · rename_i d e2
      split at e'
      · rename_i kk e3
        cases e'
        obtain ⟨u, r1, r2⟩ := hr.unsnoc
        refine wE_of (pe_ix ixr_w pe_w pe_w hs) (h s e1 hv r1 _ fun H1 g1 => ?_)
        have s1 : Sq X Z Hb H1 σ δ L := ⟨s.sp.grow g1, s.dom⟩
        refine hk s1 e2 _ fun y H2 g2 s2 => ?_
        have hy : y = kV kk := Sp.key s2.sp e3
        subst hy
        exact sub_run (by omega) (r2.grow fun a o x => g2 a o (g1 a o x)) (q H2 fun a o x => g2 a o (g1 a o x))
      · cases e'
    · cases e'
  · cases e'
/-- what stands at a place -/
def mPath (i : Nat) (m : MP) : ME := fun δ => match δ[i]? with
  | some (some d) => match m δ with
    | some p => match walk d p with
      | some (t, d') => some (t, δ.set i (some d'))
      | none => none
    | none => none
  | _ => none
theorem ig_path (h : IP X e i m) : IG X e (mPath i m) := by
  intro Z Hb H σ δ L d δ' s e' Q q
  unfold mPath at e'
  split at e'
  · rename_i d0 hd
    split at e'
    · rename_i p e1
      split at e'
      · rename_i t d' e2
        cases e'
        obtain ⟨v, hv⟩ := s.dom.2 i d0 hd
        obtain ⟨w, rc, s1⟩ := (s.out hv hd).walk e2
        refine h s e1 hv rc Q fun H1 g1 => q w H1 ?_
        have s2 := (s1.grow g1).perm (.swap _ _ _)
        exact Sq.back (L' := (w, d) :: L) s.dom hv hd s2
      · cases e'
    · cases e'
  · cases e'
end
def wSet (X : Cx) : TSet := fun o i v H Q => ∀ pins s σ ov iv u, Inv X pins σ H s → RelV o ov → RelV i iv → RelV v u → wpAny (model X.prog X.w) X.A (setItem ov iv u) (fun _ s' => ∃ H', Inv X pins σ H' s' ∧ Q H') X.xe s
theorem pset_w {X : Cx} : PSet X (wSet X) := fun pins s σ H o i v ov iv u Q I r1 r2 r3 h => h pins s σ ov iv u I r1 r2 r3
theorem wSet_of {X : Cx} {t : TSet} (h : PSet X t) {o i v : V} {H : Hp} {Q : Hp → Prop} (q : t o i v H Q) : wSet X o i v H Q := fun pins s σ ov iv u I r1 r2 r3 => h pins s σ H o i v ov iv u Q I r1 r2 r3 q
def dSetIt : D → D → D → Option D
  | .lst true ds, .int i, x => (ixN ds.length i).map fun j => .lst true (ds.set j x)
  | .dct true ks ds, y, x => match keyD y with
    | some k => if ks.length < sizeLine then match posOf ks k with
      | some j => some (.dct true ks (ds.set j x))
      | none => some (.dct true (ks ++ [k]) (ds ++ [x])) else none
    | none => none
  | _, _, _ => none
theorem posOf_none {kvs : List (Key × V)} {k : Key} (h : posOf (kvs.map (·.1)) k = none) : valV kvs k = none := by
  induction kvs with
  | nil => rfl
  | cons p r ih =>
    simp only [List.map_cons, posOf] at h
    split at h
    · cases h
    · rename_i e
      rw [valV_neg e]
      exact ih (by simpa using h)
theorem repl_id {k : Key} {x : V} : ∀ {kvs : List (Key × V)}, k ∉ kvs.map (·.1) → kvs.map (fun kv => if kv.1 = k then (kv.1, x) else kv) = kvs
  | [], _ => rfl
  | p :: r, h => by
    have h1 : ¬ p.1 = k := fun e => h (by simp [e])
    rw [List.map_cons, if_neg h1, repl_id fun m => h (List.mem_cons_of_mem _ m)]
theorem posOf_key {α : Type} [DecidableEq α] : ∀ {l : List α} {x : α} {j : Nat}, posOf l x = some j → l[j]? = some x
  | [], _, _, h => by simp [posOf] at h
  | a :: r, x, j, h => by
    simp only [posOf] at h
    split at h
    · rename_i e
      cases h
      rw [e]; rfl
    · obtain ⟨k, e, rfl⟩ := Option.map_eq_some_iff.mp h
      simpa using posOf_key e
theorem putK_at {k : Key} {x : V} : ∀ {kvs : List (Key × V)} {j : Nat}, posOf (kvs.map (·.1)) k = some j → (kvs.map (·.1)).Nodup → kvs.map (fun kv => if kv.1 = k then (kv.1, x) else kv) = kvs.set j (k, x)
  | [], _, h, _ => by simp [posOf] at h
  | p :: r, j, h, nd => by
    simp only [List.map_cons, posOf] at h
    have nd' := List.nodup_cons.mp nd
    split at h
    · rename_i e
      cases h
      rw [List.map_cons, if_pos e, repl_id (by rw [← e]; exact nd'.1), e]
      rfl
    · rename_i e
      obtain ⟨i, e1, rfl⟩ := Option.map_eq_some_iff.mp h
      rw [List.map_cons, if_neg e, putK_at e1 nd'.2]
      rfl
theorem putK_pos {k : Key} {x : V} {kvs : List (Key × V)} {j : Nat} (h : posOf (kvs.map (·.1)) k = some j) (nd : (kvs.map (·.1)).Nodup) : putK kvs k x = kvs.set j (k, x) := by
  unfold putK
  have hv : (valV kvs k).isSome = true := by
    have hj := posOf_lt h
    rw [List.length_map] at hj
    rw [posOf_val (u := kvs[j].2) h (by simp [hj])]
    rfl
  rw [valV_any, if_pos hv]
  exact putK_at h nd
section
variable {X : Cx} {Z : Addr → Prop} {Hb H : Hp} {P : PL} {v w x y : V} {t dk dv t' : D}
theorem set_perm {vs : List V} {ds : List D} {j : Nat} (hl : vs.length = ds.length) (hj : j < vs.length) : (vs.zip ds ++ ((x, dv) :: P)).Perm ((vs.set j x).zip (ds.set j dv) ++ ((vs[j], ds[j]'(by omega)) :: P)) := by
  have hu : vs[j]? = some vs[j] := by simp [hj]
  have p1 := set_zip (ds := ds) (e := ds[j]'(by omega)) hl hu
  have hset : ds.set j (ds[j]'(by omega)) = ds := by simp
  rw [hset] at p1
  have p2 := set_zip (vs := vs.set j x) (ds := ds) (x := x) (e := dv) (j := j) (by simp [hl]) (by simp [hj])
  have e1 : (vs.set j x).eraseIdx j = vs.eraseIdx j := by
    rw [List.eraseIdx_set_eq]
  rw [e1] at p2
  refine (p1.append_right _).trans ((List.Perm.trans ?_ (p2.append_right _).symm))
  refine List.Perm.trans (List.Perm.cons _ List.perm_middle) ?_
  refine List.Perm.trans (List.Perm.swap _ _ _) ?_
  exact List.Perm.cons _ List.perm_middle.symm
theorem set_run (hu : X.A.units + 1 < cLine) (s : Sp X.K X.mg Z Hb H ((w, t) :: (y, dk) :: (x, dv) :: P)) (e : dSetIt t dk dv = some t') (Q : Hp → Prop) (q : ∀ H', Sp X.K X.mg Z Hb H' ((w, t') :: P) → Q H') : wSet X w y x H Q := by
  unfold dSetIt at e
  split at e
  · rename_i ds i
    obtain ⟨j, e1, rfl⟩ := Option.map_eq_some_iff.mp e
    have s1 := s.perm (.swap _ _ _)
    have hy := s1.int
    subst hy
    obtain ⟨Y, F, r⟩ := s.head
    obtain ⟨a, rfl⟩ : ∃ a, w = .ref a := by cases r; exact ⟨_, rfl⟩
    obtain ⟨vs, ha, hl, back⟩ := s1.drop.mutL
    have hj : j < vs.length := by rw [hl]; exact (ixN_seq e1).2.1
    refine wSet_of set_list ⟨a, vs, i, j, rfl, rfl, ha, by rw [hl]; exact e1, q _ ?_⟩
    have s2 := back (vs.set j x) (ds.set j dv) _ (by simp [hl]) (set_perm hl hj)
    exact (s2.perm (.swap _ _ _)).drop
  · rename_i ks ds
    split at e
    · rename_i k ek
      have s1 := s.perm (.swap _ _ _)
      have hy := s1.key ek
      subst hy
      obtain ⟨Y, F, r⟩ := s.head
      obtain ⟨a, rfl⟩ : ∃ a, w = .ref a := by cases r; exact ⟨_, rfl⟩
      obtain ⟨kvs, ha, ⟨hk, hnd⟩, hl, back⟩ := s1.drop.mutK
      subst hk
      split at e
      · rename_i hz
        have hz' : kvs.length < sizeLine := by simpa using hz
        have go : Q (upd H a (.dK (putK kvs k x))) → wSet X (.ref a) (kV k) x H Q := by
          intro qH pins s0 σ ov iv u I r1 r2 r3
          cases r1
          exact d_setItem hu I (.k ha hz') r2 r3 fun s4 I4 => ⟨_, I4, qH⟩
        split at e
        · rename_i j e2
          cases e
          have hj : j < (kvs.map (·.2)).length := by have := posOf_lt e2; simpa using this
          refine go (q _ ?_)
          rw [putK_pos e2 hnd]
          have hkk : (kvs.set j (k, x)).map (·.1) = kvs.map (·.1) := by
            rw [List.map_set]
            apply List.ext_getElem?
            intro n
            rw [List.getElem?_set]
            by_cases hjn : j = n
            · subst hjn
              rw [if_pos rfl, if_pos (posOf_lt e2)]
              exact (posOf_key e2).symm
            · rw [if_neg hjn]
          have hvv : (kvs.set j (k, x)).map (·.2) = (kvs.map (·.2)).set j x := by rw [List.map_set]
          have s2 := back (kvs.set j (k, x)) (ds.set j dv) _ (by simp [hl]) (by rw [hkk]; exact hnd) (by rw [hvv]; exact set_perm (by simpa using hl) hj)
          rw [hkk] at s2
          exact (s2.perm (.swap _ _ _)).drop
        · rename_i e2
          cases e
          have hn := posOf_none e2
          refine go (q _ ?_)
          rw [putK_new x hn]
          have s2 := back (kvs ++ [(k, x)]) (ds ++ [dv]) P (by simp [hl]) (by
            rw [List.map_append]
            exact nd_snoc hnd (valV_not hn)) (by
            rw [List.map_append, zip_append (by simpa using hl), List.append_assoc]
            exact List.Perm.refl _)
          rw [List.map_append] at s2
          exact s2
      · cases e
    · cases e
  · cases e
end
end DL
set_option Elab.async false
set_option linter.all false
set_option maxRecDepth 100000
set_option maxHeartbeats 4000001
namespace DL
open PySem.Spec PySem L2 PyProof.Rows
def sPut (i : Nat) (m : MP) (k : MK) (e : ME) : MS := fun δ => match e δ with
  | some (dv, δ1) => match δ1[i]? with
    | some (some d) => match m δ1 with
      | some p => match k δ1 with
        | some dk => match atO d p with
          | some t => match dSetIt t dk dv with
            | some t' => some (.nx (δ1.set i (some (putO d p t'))))
            | none => none
          | none => none
        | none => none
      | none => none
    | _ => none
  | none => none
section
variable {X : Cx} {P : Nat → Bool} {o b e : Expr} {i : Nat} {m : MP} {k : MK} {v : ME} {pos pos' : Pos} {f : Str}
theorem keyRep {Z : Addr → Prop} {Hb H3 : Hp} {σ : L2.St} {δ : Env} {L : PL} {y : V} {dk : D} (s : Sq X Z Hb H3 σ δ ((y, dk) :: L)) (h : (∃ i, dk = .int i) ∨ ∃ k, keyD dk = some k) : ∀ Y, Rep X.K X.mg H3 Y y dk [] := by
  intro Y
  rcases h with ⟨j, rfl⟩ | ⟨kk, ek⟩
  · rw [Sp.int s.sp]; exact .int
  · have hy := Sp.key s.sp ek
    unfold keyD at ek
    split at ek
    · cases ek; rw [hy]; exact .int
    · cases ek; rw [hy]; exact .str
    · cases ek
theorem is_put (hu : X.A.units + 65 < cLine) (he : IG X e v) (ho : IP X o i m) (hk : IK X b k)
    (ha : ∀ v, assign (.Subscript o b pos') X.env v = (do
      let ov ← (holding [v] (eval o X.env))
      let iv ← holding [v, ov] (eval b X.env)
      standAt pos'
      (holding [v, ov, iv] (setItem ov iv v))
      release [v, ov, iv] []))
    (hs : swapsWithSole [.Subscript o b pos'] e pos.line X.env = pure false) (hw : swappedStores [.Subscript o b pos'] e X.env = pure none)
    (h1 : (assignEach [.Subscript o b pos'] X.env).map (·.2) = [assign (.Subscript o b pos') X.env]) : IS X P (.Assign [.Subscript o b pos'] e pos) (sPut i m k v) := by
  intro Z Hb H σ δ L fl s e' Dn f
  unfold sPut at e'
  split at e'
  · rename_i dv δ1 e1
    split at e'
    · rename_i d hd
      split at e'
      · rename_i p e2
        split at e'
        · rename_i dk e3
          split at e'
          · rename_i t e4
            split at e'
            · rename_i t' e5
              cases e'
              refine wS_of (ps_asg pe_w (pg_sub (t := wSet X) pe_w pe_w pset_w ha) hs hw h1) (he s e1 _ fun x H1 s1 => ?_)
              obtain ⟨vv, hv⟩ := s1.dom.2 i d hd
              obtain ⟨w, Z', Hc, rc, s2, back⟩ := (s1.out hv hd).focus e4
              refine ho s1 e2 hv rc.rc _ fun H2 g2 => ?_
              have s1' : Sq X Z Hb H2 σ δ1 ((x, dv) :: L) := ⟨s1.sp.grow g2, s1.dom⟩
              -- the key, while the part is held
              refine hk s1' e3 _ fun y H3 g3 s3 => ?_
              have hy : ∀ Y, Rep X.K X.mg H3 Y y dk [] := keyRep s3 (by
                unfold dSetIt at e5
                split at e5
                · exact .inl ⟨_, rfl⟩
                · split at e5
                  · rename_i kk ek
                    exact .inr ⟨kk, ek⟩
                  · cases e5
                · cases e5)
              have s4 : Sp X.K X.mg Z' Hc H3 ((w, t) :: (x, dv) :: (L ++ prs σ (δ1.set i none))) := (s2.grow fun a u z => g3 a u (g2 a u z))
              have s5 := (s4.put hy).perm (.swap _ _ _)
              refine set_run (by omega) s5 e5 _ fun H4 s6 => f σ H4 ?_ .refl
              exact Sq.back (L' := L) s1.dom hv hd (back H4 t' _ s6)
            · cases e'
          · cases e'
        · cases e'
      · cases e'
    · cases e'
  · cases e'
theorem lookup_put {f g : Str} {x : V} (h : g ≠ f) : ∀ fs : List (Str × V), (putF f x fs).lookup g = fs.lookup g
  | [] => by
    have : (g == f) = false := by simpa using h
    simp [putF, List.lookup, this]
  | (a, c) :: r => by
    unfold putF
    split
    · rename_i e
      have : (g == f) = false := by simpa using h
      simp only [List.lookup_cons]
      have e2 : (g == a) = false := by rw [e]; exact this
      rw [e2]
    · simp only [List.lookup_cons, lookup_put h r]
theorem NmU.put {H : Hp} {a C dx : Addr} {fs : List (Str × V)} {f : Str} {x : V} (m : NmU H (.ins C dx fs)) (ha : H a = some (.ins C dx fs)) (hf : ("names" : Str) ≠ f) : NmU (upd H a (.ins C dx (putF f x fs))) (.ins C dx (putF f x fs)) := fun t e => by
  rw [lookup_put hf] at e
  obtain ⟨o, xs, h, d⟩ := m t e
  exact ⟨o, xs, by rw [upd_ne fun q => by rw [q, ha] at h; cases h]; exact h, d⟩
end
def wM (X : Cx) (id : String) : V → List V → Hp → VK → Prop := fun x xs H Q => ∀ pins s σ v us, Inv X pins σ H s → RelV x v → Vals xs us → wpAny (model X.prog X.w) X.A (call (.builtin id) (v :: us)) (EP X pins σ Q) X.xe s
theorem mtr_w {X : Cx} {id : String} : MtR X id (wM X id) := fun pins s σ H x xs v us Q I r1 r2 h => h pins s σ v us I r1 r2
theorem wM_of {X : Cx} {id : String} {r : V → List V → Hp → VK → Prop} (h : MtM X id r) {x : V} {xs : List V} {H : Hp} {Q : VK} (q : r x xs H Q) : wM X id x xs H Q := fun pins s σ v us I r1 r2 => h pins s σ H x xs v us Q I r1 r2 q
def tyD (T : String) : D → Bool
  | .str _ => T == "str"
  | .lst _ _ => T == "list"
  | .scr _ => T == "list"
  | .dct o _ _ => o && T == "dict"
  | _ => false
theorem tyD_ok {K : PySem.W.Frag} {mg : Str → Option Value} {H Hb : Hp} {Z : Addr → Prop} {P : PL} {v : V} {d : D} {T : String} (s : Sp K mg Z Hb H ((v, d) :: P)) (h : tyD T d = true) : tyV K T v H := by
  obtain ⟨Y, F, r⟩ := s.head
  cases r with
  | str =>
    show T = "str"
    simpa [tyD] using h
  | lstF ha _ _ => exact .inl ⟨by simpa [tyD] using h, _, .of ha⟩
  | lstO ha _ => exact .inl ⟨by simpa [tyD] using h, _, .of ha⟩
  | scr ha _ => exact .inl ⟨by simpa [tyD] using h, _, ha.sq⟩
  | dctF ha _ _ _ => simp [tyD] at h
  | dctO ha _ _ => exact .inr (.inr (.inl ⟨by simpa [tyD] using h, .inl ⟨_, ha⟩⟩))
  | _ => cases h
/-- a method that changes its thing -/
def MB (X : Cx) (id : String) (g : D → List D → Option (D × D)) : Prop := ∀ {Z : Addr → Prop} {Hb H : Hp} {P : PL} {w : V} {vs : List V} {t : D} {ds : List D} {r t' : D}, vs.length = ds.length → Sp X.K X.mg Z Hb H ((w, t) :: (vs.zip ds ++ P)) → g t ds = some (r, t') →
  ∀ Q : VK, (∀ v H', Sp X.K X.mg Z Hb H' ((v, r) :: (w, t') :: P) → Q v H') → wM X id w vs H Q
/-- x.m(..): the thing stands in a slot -/
def mMeth (T : String) (g : D → List D → Option (D × D)) (i : Nat) (r : ML) : ME := fun δ => match δ[i]? with
  | some (some d) => if tyD T d then match r δ with
      | some (ds, δ1) => match δ1[i]? with
        | some (some d1) => match g d1 ds with
          | some (a, d2) => some (a, δ1.set i (some d2))
          | none => none
        | _ => none
      | none => none
    else none
  | _ => none
/-- p.m(..): at a place; the arguments have no effect -/
def mMethP (T : String) (g : D → List D → Option (D × D)) (i : Nat) (m : MP) (r : MKs) : ME := fun δ => match δ[i]? with
  | some (some d) => match m δ with
    | some p => match atO d p with
      | some t => if tyD T t then match r δ with
          | some ds => match g t ds with
            | some (a, t') => some (a, δ.set i (some (putO d p t')))
            | none => none
          | none => none
        else none
      | none => none
    | none => none
  | _ => none
/-- e.m(..): nothing changes -/
def BM (X : Cx) (id : String) (g : D → List D → Option D) : Prop := ∀ {Z : Addr → Prop} {Hb H : Hp} {P : PL} {w : V} {vs : List V} {t : D} {ds : List D} {r : D}, vs.length = ds.length → Sp X.K X.mg Z Hb H ((w, t) :: (vs.zip ds ++ P)) → g t ds = some r →
  ∀ Q : VK, (∀ v H', Sp X.K X.mg Z Hb H' ((v, r) :: P) → Q v H') → wM X id w vs H Q
def mMethV (T : String) (g : D → List D → Option D) (a : ME) (r : ML) : ME := fun δ => match a δ with
  | some (d, δ1) => if tyD T d then match r δ1 with
      | some (ds, δ2) => match g d ds with
        | some x => some (x, δ2)
        | none => none
      | none => none
    else none
  | none => none
section
variable {X : Cx} {o e : Expr} {es : List Expr} {name : Str} {apos cpos : Pos} {T id : String} {g : D → List D → Option (D × D)} {g' : D → List D → Option D} {i : Nat} {m : MP} {r : ML} {rk : MKs} {a : ME}
theorem meth_tail {Z : Addr → Prop} {Hb H1 H2 : Hp} {σ : L2.St} {δ1 : Env} {L : PL} {v : V} {vs : List V} {ds : List D} {d1 d2 x : D} (hg : MB X id g) (hv : σ[i]? = some (some v)) (hl : vs.length = ds.length) (s2 : Sq X Z Hb H2 σ δ1 (vs.zip ds ++ L)) (e3 : δ1[i]? = some (some d1)) (e4 : g d1 ds = some (x, d2))
    (Q : VK) (q : ∀ v H', Sq X Z Hb H' σ (δ1.set i (some d2)) ((v, x) :: L) → Q v H') : wM X id v vs H2 Q := by
  have s3 := s2.out hv e3
  rw [List.append_assoc] at s3
  refine hg hl s3 e4 Q fun u H3 s4 => q u H3 ?_
  exact Sq.back (L' := (u, x) :: L) s2.dom hv e3 (s4.perm (.swap _ _ _))
theorem ig_meth (pa : PlainAttrs T) (slot : Slot T name id) (hty : typeOf (.builtin id) = pure (.type "method_descriptor")) (hg : MB X id g) {x : Str} {px : Pos} (hp : PE X (.Name x px) (tVar i)) (ha : IL X (e :: es) r)
    (hbase : attributeBase (.Name x px) name X.env (eval (.Name x px) X.env) = eval (.Name x px) X.env) (hfew : ((backTo cpos (starEach (e :: es) X.env)).all (fun x => !x.1) && (backToKw cpos (keywordEach [] X.env)).all (fun x => x.1.isSome)
      && decide ((e :: es).length + ([] : List Keyword).length + (if ([] : List Keyword).isEmpty then 0 else 1) < 30)) = true)
    (hline : (apos.endLine == cpos.line) = true) (hs : starEach (e :: es) X.env = (false, eval e X.env) :: starEach es X.env) (hplain : (backTo cpos (starEach es X.env)).any (·.1) = false) :
    IG X (.Call (.Attribute (.Name x px) name apos) (e :: es) [] cpos) (mMeth T g i r) := by
  intro Z Hb H σ δ L d δ' s e' Q q
  unfold mMeth at e'
  split at e'
  · rename_i d0 hd
    split at e'
    · rename_i ht
      split at e'
      · rename_i ds δ1 e2
        split at e'
        · rename_i d1 e3
          split at e'
          · rename_i x d2 e4
            cases e'
            obtain ⟨v, hv⟩ := s.dom.2 i d0 hd
            refine wE_of (pe_bm pa slot hty mtr_w hp pa_w hbase hfew hline hs hplain) ⟨v, hv, tyD_ok (s.out hv hd) ht, ?_⟩
            exact ha s e2 _ fun vs H2 hl s2 => meth_tail (H1 := H) hg hv hl s2 e3 e4 Q q
          · cases e'
        · cases e'
      · cases e'
    · cases e'
  · cases e'
theorem ig_methP (pa : PlainAttrs T) (slot : Slot T name id) (hty : typeOf (.builtin id) = pure (.type "method_descriptor")) (hg : MB X id g) (ho : IP X o i m) (ha : IKs X (e :: es) rk)
    (hbase : attributeBase o name X.env (eval o X.env) = eval o X.env) (hfew : ((backTo cpos (starEach (e :: es) X.env)).all (fun x => !x.1) && (backToKw cpos (keywordEach [] X.env)).all (fun x => x.1.isSome)
      && decide ((e :: es).length + ([] : List Keyword).length + (if ([] : List Keyword).isEmpty then 0 else 1) < 30)) = true)
    (hline : (apos.endLine == cpos.line) = true) (hs : starEach (e :: es) X.env = (false, eval e X.env) :: starEach es X.env) (hplain : (backTo cpos (starEach es X.env)).any (·.1) = false) :
    IG X (.Call (.Attribute o name apos) (e :: es) [] cpos) (mMethP T g i m rk) := by
  intro Z Hb H σ δ L d δ' s e' Q q
  unfold mMethP at e'
  split at e'
  · rename_i d0 hd
    split at e'
    · rename_i p e1
      split at e'
      · rename_i t e2
        split at e'
        · rename_i ht
          split at e'
          · rename_i ds e3
            split at e'
            · rename_i x t' e4
              cases e'
              obtain ⟨v, hv⟩ := s.dom.2 i d0 hd
              obtain ⟨w, Z', Hc, rc, s2, back⟩ := (s.out hv hd).focus e2
              refine wE_of (pe_bm pa slot hty mtr_w pe_w pa_w hbase hfew hline hs hplain) (ho s e1 hv rc.rc _ fun H1 g1 => ⟨tyD_ok (s2.grow g1) ht, ?_⟩)
              refine ha ⟨s.sp.grow g1, s.dom⟩ e3 _ fun vs H2 hl g2 s3 => ?_
              obtain ⟨w', Z2, Hc2, rc', s4, back'⟩ := (s3.out hv hd).focus e2
              have ew := rc.det rc' fun a o z => g2 a o (g1 a o z)
              subst ew
              rw [List.append_assoc] at s4
              refine hg hl s4 e4 Q fun u H3 s5 => q u H3 ?_
              exact Sq.back (L' := (u, d) :: L) s.dom hv hd (back' H3 t' _ (s5.perm (.swap _ _ _)))
            · cases e'
          · cases e'
        · cases e'
      · cases e'
    · cases e'
  · cases e'
theorem ig_methV (pa : PlainAttrs T) (slot : Slot T name id) (hty : typeOf (.builtin id) = pure (.type "method_descriptor")) (hg : BM X id g') (ho : IG X o a) (ha : IL X (e :: es) r)
    (hbase : attributeBase o name X.env (eval o X.env) = eval o X.env) (hfew : ((backTo cpos (starEach (e :: es) X.env)).all (fun x => !x.1) && (backToKw cpos (keywordEach [] X.env)).all (fun x => x.1.isSome)
      && decide ((e :: es).length + ([] : List Keyword).length + (if ([] : List Keyword).isEmpty then 0 else 1) < 30)) = true)
    (hline : (apos.endLine == cpos.line) = true) (hs : starEach (e :: es) X.env = (false, eval e X.env) :: starEach es X.env) (hplain : (backTo cpos (starEach es X.env)).any (·.1) = false) :
    IG X (.Call (.Attribute o name apos) (e :: es) [] cpos) (mMethV T g' a r) := by
  intro Z Hb H σ δ L d δ' s e' Q q
  unfold mMethV at e'
  split at e'
  · rename_i d0 δ1 e1
    split at e'
    · rename_i ht
      split at e'
      · rename_i ds δ2 e2
        split at e'
        · rename_i x e4
          cases e'
          refine wE_of (pe_bm pa slot hty mtr_w pe_w pa_w hbase hfew hline hs hplain) (ho s e1 _ fun v H1 s1 => ⟨tyD_ok s1.sp ht, ?_⟩)
          refine ha s1 e2 _ fun vs H2 hl s2 => ?_
          have s3 : Sp X.K X.mg Z Hb H2 ((v, d0) :: (vs.zip ds ++ (L ++ prs σ δ'))) := s2.sp.perm (by
            rw [List.append_assoc]
            exact List.perm_middle)
          exact hg hl s3 e4 Q fun u H3 s4 => q u H3 ⟨s4, s2.dom⟩
        · cases e'
      · cases e'
    · cases e'
  · cases e'
end
end DL
set_option Elab.async false
set_option linter.all false
set_option maxRecDepth 100000
set_option maxHeartbeats 4000001
namespace DL
open PySem.Spec PySem L2 PyProof.Rows
section
variable {X : Cx}
def gAppend : D → List D → Option (D × D)
  | .lst true ds, [x] => if ds.length < sizeLine then some (.non, .lst true (ds ++ [x])) else none
  | _, _ => none
theorem mb_append : MB X "list.append" gAppend := by
  intro Z Hb H P w vs t ds r t' hl s e Q q
  unfold gAppend at e
  split at e
  · rename_i es x
    split at e
    · rename_i hz
      cases e
      match vs, hl with
      | [v], _ =>
        have s0 : Sp X.K X.mg Z Hb H ((w, .lst true es) :: (v, x) :: P) := s
        obtain ⟨Y, F, rr⟩ := s0.head
        obtain ⟨a, rfl⟩ : ∃ a, w = .ref a := by cases rr; exact ⟨_, rfl⟩
        obtain ⟨ws, ha, hl, back⟩ := s0.mutL
        refine wM_of mt_append ⟨a, ws, v, rfl, rfl, ha, by omega, q _ _ ?_⟩
        refine (back (ws ++ [v]) (es ++ [x]) P (by simp [hl]) ?_).put fun _ => .non
        rw [zip_append hl, List.append_assoc]
        exact List.Perm.refl _
    · cases e
  · cases e
theorem zip_out {ws : List V} {es : List D} (hl : ws.length = es.length) {j : Nat} {x : D} (hx : es[j]? = some x) : ∃ y, ws[j]? = some y ∧ (ws.zip es).Perm ((y, x) :: (ws.eraseIdx j).zip (es.eraseIdx j)) := by
  have hj := (List.getElem?_eq_some_iff.mp hx).1
  have hu : ws[j]? = some (ws[j]'(by omega)) := by simp [hl, hj]
  have p1 := set_zip (ds := es) (e := x) hl hu
  have hset : es.set j x = es := by
    apply List.ext_getElem?
    intro n
    rw [List.getElem?_set]
    by_cases q : j = n
    · subst q; rw [if_pos rfl, if_pos hj, hx]
    · rw [if_neg q]
  rw [hset] at p1
  exact ⟨_, hu, p1⟩
def gPopAt : D → List D → Option (D × D)
  | .lst true ds, [.int i] => if -(2 ^ 63) ≤ i ∧ i < 2 ^ 63 then match ixN ds.length i with
      | some j => match ds[j]? with
        | some x => some (x, .lst true (ds.eraseIdx j))
        | none => none
      | none => none
    else none
  | _, _ => none
theorem mb_popAt : MB X "list.pop" gPopAt := by
  intro Z Hb H P w vs t ds r t' hl s e Q q
  unfold gPopAt at e
  split at e
  · rename_i es i
    split at e
    · rename_i hz
      split at e
      · rename_i j hj
        split at e
        · rename_i x hx
          cases e
          match vs, hl with
          | [v], _ =>
            have s0 : Sp X.K X.mg Z Hb H ((v, .int i) :: (w, .lst true es) :: P) := s.perm (.swap _ _ _)
            have hv := s0.int
            subst hv
            have s1 := s0.drop
            obtain ⟨Y, F, rr⟩ := s1.head
            obtain ⟨a, rfl⟩ : ∃ a, w = .ref a := by cases rr; exact ⟨_, rfl⟩
            obtain ⟨ws, ha, hl, back⟩ := s1.mutL
            obtain ⟨y, hy, pm⟩ := zip_out hl hx
            refine wM_of mt_popAt ⟨a, ws, i, j, y, rfl, rfl, ha, hz.1, hz.2, by rw [hl]; exact (ixN_seq hj).1, hy, q _ _ ?_⟩
            have hj' := (List.getElem?_eq_some_iff.mp hx).1
            refine (back (ws.eraseIdx j) (es.eraseIdx j) ((y, r) :: P) (by rw [List.length_eraseIdx, List.length_eraseIdx, hl]) ?_).perm (.swap _ _ _)
            refine (pm.append_right P).trans ?_
            exact List.perm_middle.symm
        · cases e
      · cases e
    · cases e
  · cases e
def gSplit : D → List D → Option D
  | .str a, [.str b] => if (b.length == 0) = false ∧ a.length + 2 ≤ sizeLine then some (.lst true ((Txt.split a b).map .str)) else none
  | _, _ => none
theorem Sp.newStrs {K : PySem.W.Frag} {mg : Str → Option Value} {H Hb : Hp} {Z : Addr → Prop} {P : PL} {p : Addr} (s : Sp K mg Z Hb H P) (hp : H p = none) (ys : List Str) : Sp K mg Z Hb (upd H p (.lst (ys.map V.str))) ((.ref p, .lst true (ys.map D.str)) :: P) := by
  refine Sp.newL ?_ (by simp) hp
  induction ys with
  | nil => exact s
  | cons y ys ih => exact ih.put fun _ => .str
theorem bm_split : BM X "str.split" gSplit := by
  intro Z Hb H P w vs t ds r hl s e Q q
  unfold gSplit at e
  split at e
  · rename_i a b
    split at e
    · rename_i hz
      cases e
      match vs, hl with
      | [v], _ =>
        have s0 : Sp X.K X.mg Z Hb H ((w, .str a) :: (v, .str b) :: P) := s
        intro pins s' σ u us I r1 r2
        exact mt_split pins s' σ H w [v] u us Q I r1 r2 ⟨a, b, s0.str, by rw [s0.drop.str], hz.1, hz.2, fun p hp => q _ _ (s0.drop.drop.newStrs hp _)⟩
    · cases e
  · cases e
def gJoin : D → List D → Option D
  | .str a, [x] => match (match x with
      | .lst _ ds => strsOf ds
      | .tup ds => strsOf ds
      | _ => none) with
    | some ys => if (ys.map (·.length)).sum + ys.length * a.length ≤ 16777216 then some (.str (Txt.join a ys)) else none
    | none => none
  | _, _ => none
theorem bm_join : BM X "str.join" gJoin := by
  intro Z Hb H P w vs t ds r hl s e Q q
  unfold gJoin at e
  split at e
  · rename_i a x
    split at e
    · rename_i ys ey
      split at e
      · rename_i hz
        cases e
        match vs, hl with
        | [v], _ =>
          have s0 : Sp X.K X.mg Z Hb H ((w, .str a) :: (v, x) :: P) := s
          have hv : ∃ p, v = .ref p ∧ (SqL X.K H p (ys.map V.str) ∨ SqT X.K H p (ys.map V.str)) := by
            obtain ⟨Y, F, rr⟩ := s0.drop.head
            split at ey
            · cases rr with
              | lstF ha _ ts => exact ⟨_, rfl, .inl (by rw [← strs_vals ey ts]; exact .of ha)⟩
              | lstO ha ts => exact ⟨_, rfl, .inl (by rw [← strs_vals ey ts]; exact .of ha)⟩
            · cases rr with
              | tup ha ts => exact ⟨_, rfl, .inr (by rw [← strs_vals ey ts]; exact ha)⟩
            · cases ey
          obtain ⟨p, rfl, hp⟩ := hv
          intro pins s' σ u us I r1 r2
          exact mt_join pins s' σ H w [.ref p] u us Q I r1 r2 ⟨a, p, ys, s0.str, rfl, hp, hz, q _ _ (s0.drop.drop.put fun _ => .str)⟩
      · cases e
    · cases e
  · cases e
end
end DL
set_option Elab.async false
set_option linter.all false
set_option maxRecDepth 100000
set_option maxHeartbeats 4000001
namespace DL
open PySem.Spec PySem L2 PyProof.Rows
def pm {α : Type} (ord : List Nat) (l : List α) : List α := ord.filterMap fun j => l[j]?
theorem AV.append {σ : L2.St} : ∀ {rs rs' : List AR} {vs vs' : List V} {T T' : PL}, AV σ rs vs T → AV σ rs' vs' T' → AV σ (rs ++ rs') (vs ++ vs') (T ++ T')
  | _, _, _, _, _, _, .nil, h => h
  | _, _, _, _, _, _, .v hv a, h => .v hv (a.append h)
  | _, _, _, _, _, _, .e a, h => .e (a.append h)
theorem av_len {σ : L2.St} {rs : List AR} {vs : List V} {T : PL} (av : AV σ rs vs T) : rs.length = vs.length := by
  induction av with
  | nil => rfl
  | v _ _ ih => simp [ih]
  | e _ ih => simp [ih]
end DL
set_option Elab.async false
set_option linter.all false
set_option maxRecDepth 100000
set_option maxHeartbeats 4000001
namespace DL
open PySem.Spec PySem L2 PyProof.Rows
def keyPy : Key → PyData
  | .inl i => .int i
  | .inr x => .str x
mutual
def toPyR : D → Option PyData
  | .non => some .none
  | .bl b => some (.bool b)
  | .int i => some (.int i)
  | .str x => some (.str x)
  | .tup ds => (toPyRs ds).map .tuple
  | .lst _ ds => (toPyRs ds).map .list
  | .scr ds => (toPyRs ds).map .list
  | .dct _ ks vs => (toPyRs vs).map fun ps => .dict ((ks.map keyPy).zip ps)
  | _ => none
def toPyRs : List D → Option (List PyData)
  | [] => some []
  | d :: r => match toPyR d, toPyRs r with
    | some p, some q => some (p :: q)
    | _, _ => none
end
theorem toPyRs_len : ∀ {ds : List D} {ps : List PyData}, toPyRs ds = some ps → ps.length = ds.length
  | [], _, h => by cases h; rfl
  | d :: r, ps, h => by
    simp only [toPyRs] at h
    split at h
    · rename_i p q e1 e2
      cases h
      simp [toPyRs_len e2]
    · cases h
/-- the dict of modules is the written part's -/
def SysD (K : PySem.W.Frag) : Prop := ∃ o, K.lookup sysModules = some o ∧ o.cls = .type "dict"
section
variable {X : Cx} {pins : List (Addr × Obj)} {σ : L2.St} {H : Hp} {s : Shared} {Z : Addr → Prop}
theorem pairs_keys {P : Program} {w : World} : ∀ {es : List DictEntry} {kvs : List (Key × Value)}, Pairs (mixKind P w) es kvs → ReadsAll s.heap (es.map (·.key)) ((kvs.map (·.1)).map keyPy) [] ∧ es.map (·.val) = kvs.map (·.2)
  | _, _, .nil => ⟨.nil, rfl⟩
  | _, _, .cons (e := e) (kv := kv) hk hv t => by
    obtain ⟨r, q⟩ := pairs_keys t
    obtain ⟨k, x⟩ := kv
    have r1 : Reads s.heap e.key (keyPy k) [] := by
      rcases keyIs_shape (show keyIs k e.key = true from hk) with ⟨i, t, rfl, e1⟩ | ⟨x, t, rfl, e1⟩
      · rw [e1]; exact .int i t
      · rw [e1]; exact .str x t
    refine ⟨?_, ?_⟩
    · have := ReadsAll.cons r1 r
      exact this
    · have hv : e.val = x := hv
      simp only [List.map_cons, hv, q]
theorem kv_vals : ∀ {kvs : List (Key × V)} {vs : List (Key × Value)}, KV kvs vs → Vals (kvs.map (·.2)) (vs.map (·.2)) ∧ vs.map (·.1) = kvs.map (·.1)
  | _, _, .nil => ⟨.nil, rfl⟩
  | _, _, .cons h t => by
    obtain ⟨a, b⟩ := kv_vals t
    exact ⟨.cons h.2 a, by simp only [List.map_cons, b, h.1]⟩
theorem not_sys (I : Inv X pins σ H s) (hS : SysD X.K) {a : Addr} {o : Obj} (h : s.heap.get? a = some o) (hc : o.cls = .type "list") : a ≠ sysModules := fun e => by
  obtain ⟨o', h', hc'⟩ := hS
  have := I.kIn _ _ h'
  rw [← e, h] at this
  cases this
  rw [hc] at hc'
  simp at hc'
mutual
theorem Rep.reads (I : Inv X pins σ H s) (hS : SysD X.K) {v : V} {d : D} {F : List Addr} (r : Rep X.K X.mg H Z v d F) {p : PyData} (e : toPyR d = some p) {u : Value} (ru : RelV v u) : ∃ as, Reads s.heap u p as ∧ sysModules ∉ as := by
  cases r with
  | non => cases e; cases ru; exact ⟨_, .none, by simp⟩
  | bl => cases e; cases ru; exact ⟨_, .bool _, by simp⟩
  | int => cases e; obtain ⟨t, rfl⟩ := ru; exact ⟨_, .int _ t, by simp⟩
  | str => cases e; obtain ⟨t, rfl⟩ := ru; exact ⟨_, .str _ t, by simp⟩
  | tup h t =>
    simp only [toPyR, Option.map_eq_some_iff] at e
    obtain ⟨ps, e1, e2⟩ := e
    subst e2
    cases ru
    obtain ⟨its, rv, ⟨o, ho, hc, n, hd⟩, _⟩ := I.tuple h
    obtain ⟨as, q1, q2⟩ := t.readsA I hS e1 rv
    exact ⟨_, .tuple ho hc hd q1, q2⟩
  | scr h t =>
    simp only [toPyR, Option.map_eq_some_iff] at e
    obtain ⟨ps, e1, e2⟩ := e
    subst e2
    cases ru
    obtain ⟨its, rv, ⟨o, n, ho, hc, _, hd⟩, _⟩ := I.list h.sq
    obtain ⟨as, q1, q2⟩ := t.readsA I hS e1 rv
    exact ⟨_, .list ho hc hd q1, by simpa using ⟨(not_sys I hS ho hc).symm, q2⟩⟩
  | lstF h z t =>
    simp only [toPyR, Option.map_eq_some_iff] at e
    obtain ⟨ps, e1, e2⟩ := e
    subst e2
    cases ru
    obtain ⟨its, rv, ⟨o, n, ho, hc, _, hd⟩, _⟩ := I.list (.of h)
    obtain ⟨as, q1, q2⟩ := t.readsA I hS e1 rv
    exact ⟨_, .list ho hc hd q1, by simpa using ⟨(not_sys I hS ho hc).symm, q2⟩⟩
  | lstO h t =>
    simp only [toPyR, Option.map_eq_some_iff] at e
    obtain ⟨ps, e1, e2⟩ := e
    subst e2
    cases ru
    obtain ⟨its, rv, ⟨o, n, ho, hc, _, hd⟩, _⟩ := I.list (.of h)
    obtain ⟨as, q1, q2⟩ := t.readsA I hS e1 rv
    exact ⟨_, .list ho hc hd q1, by simpa using ⟨(not_sys I hS ho hc).symm, q2⟩⟩
  | dctF h z hk t =>
    simp only [toPyR, Option.map_eq_some_iff] at e
    obtain ⟨ps, e1, e2⟩ := e
    subst e2
    cases ru
    obtain ⟨_, hd, vs, kv, o, es, ep, ho, hx, hdt, _, pr, _⟩ := dk_rd I.hok h
    obtain ⟨k1, k2⟩ := pairs_keys (s := s) pr
    obtain ⟨v1, v2⟩ := kv_vals kv
    obtain ⟨as, q1, q2⟩ := t.readsA I hS e1 v1
    have lz : (vs.map (·.1)).length = ps.length := by rw [toPyRs_len e1, ← t.len, v2]; simp
    refine ⟨_, .dict (as := []) (bs := as) ho hx.1 hdt ?_ ?_, by simpa using ⟨(beq_eq_false_iff_ne.mp hd).symm, q2⟩⟩
    · rw [List.map_fst_zip (by rw [List.length_map, ← hk.1, ← v2, lz]; exact Nat.le_refl _), ← hk.1, ← v2]
      exact k1
    · rw [k2, List.map_snd_zip (by rw [List.length_map, ← hk.1, ← v2, lz]; exact Nat.le_refl _)]
      exact q1
  | dctO h hk t =>
    simp only [toPyR, Option.map_eq_some_iff] at e
    obtain ⟨ps, e1, e2⟩ := e
    subst e2
    cases ru
    obtain ⟨_, hd, vs, kv, o, es, ep, ho, hx, hdt, _, pr, _⟩ := dk_rd I.hok (.inl h)
    obtain ⟨k1, k2⟩ := pairs_keys (s := s) pr
    obtain ⟨v1, v2⟩ := kv_vals kv
    obtain ⟨as, q1, q2⟩ := t.readsA I hS e1 v1
    have lz : (vs.map (·.1)).length = ps.length := by rw [toPyRs_len e1, ← t.len, v2]; simp
    refine ⟨_, .dict (as := []) (bs := as) ho hx.1 hdt ?_ ?_, by simpa using ⟨(beq_eq_false_iff_ne.mp hd).symm, q2⟩⟩
    · rw [List.map_fst_zip (by rw [List.length_map, ← hk.1, ← v2, lz]; exact Nat.le_refl _), ← hk.1, ← v2]
      exact k1
    · rw [k2, List.map_snd_zip (by rw [List.length_map, ← hk.1, ← v2, lz]; exact Nat.le_refl _)]
      exact q1
  | ty => cases e
  | glo _ => cases e
  | objF _ _ _ _ _ _ => cases e
  | exc _ _ _ _ _ _ => cases e
  | hole => cases e
  | tab _ _ _ _ _ => cases e
  | objO _ _ _ _ _ => cases e
  | rawF _ _ _ _ => cases e
  | rawO _ _ _ => cases e
theorem Reps.readsA (I : Inv X pins σ H s) (hS : SysD X.K) {vs : List V} {ds : List D} {F : List Addr} (r : Reps X.K X.mg H Z vs ds F) {ps : List PyData} (e : toPyRs ds = some ps) {us : List Value} (ru : Vals vs us) : ∃ as, ReadsAll s.heap us ps as ∧ sysModules ∉ as := by
  cases r with
  | nil => cases e; cases ru; exact ⟨_, .nil, by simp⟩
  | cons q t =>
    simp only [toPyRs] at e
    split at e
    · rename_i p ps' e1 e2
      cases e
      cases ru with
      | cons r1 r2 =>
        obtain ⟨as, a1, a2⟩ := q.reads I hS e1 r1
        obtain ⟨bs, b1, b2⟩ := t.readsA I hS e2 r2
        exact ⟨_, .cons a1 b1, by simpa using ⟨a2, b2⟩⟩
    · cases e
end
end
def reprD (d : D) : Option Str := match toPyR d with
  | some p => if p.showable = true ∧ p.depth ≤ 64 ∧ p.shown.length ≤ sizeLine then some p.shown else none
  | none => none
def dRepr : List D → Option D
  | [d] => (reprD d).map .str
  | _ => none
theorem bc_repr {X : Cx} (hS : SysD X.K) (hg : X.A.guards = some []) (hu : X.A.units + 65 < cLine) : BC X (.builtin "repr") dRepr := by
  intro Z Hb H P vs ds r hl s e Q q
  unfold dRepr at e
  split at e
  · rename_i d
    obtain ⟨z, e1, rfl⟩ := Option.map_eq_some_iff.mp e
    unfold reprD at e1
    split at e1
    · rename_i p e2
      split at e1
      · rename_i hz
        cases e1
        obtain ⟨h1, h2, h3⟩ := hz
        match vs, hl with
        | [v], _ =>
          have s0 : Sp X.K X.mg Z Hb H ((v, d) :: P) := s
          have fin := q (.str p.shown) H (s0.drop.put fun _ => .str)
          intro pins s' σ us I rv
          obtain ⟨u, rfl, ru⟩ := vals1 rv
          obtain ⟨Y, F, rr⟩ := s0.head
          obtain ⟨as, a1, a2⟩ := rr.reads I hS e2 ru
          cases a1 with
          | none => exact PySem.P.repr_of_none ⟨.str _, H, I.tok _, ⟨_, rfl⟩, fin⟩
          | bool b => exact PySem.P.repr_of_bool ⟨.str _, H, I.tok _, ⟨_, rfl⟩, fin⟩
          | int i t => exact PySem.P.repr_of_int (by simpa [PyData.showable] using h1) ⟨.str _, H, I.tok _, ⟨_, rfl⟩, fin⟩
          | str x t => exact PySem.P.repr_of_str ⟨.str _, H, I.tok _, ⟨_, rfl⟩, fin⟩ h3
          | list b1 b2 b3 b4 => exact PySem.repr_of_reads' (Reads.list b1 b2 b3 b4) h1 (fun _ => a2) hg (by omega) (fun _ _ h => h) (fun h' u tk hk => ⟨.str _, H, I.kept (t' := tk) hk, ⟨_, rfl⟩, fin⟩) h3
          | tuple b1 b2 b3 b4 => exact PySem.repr_of_reads' (Reads.tuple b1 b2 b3 b4) h1 (fun _ => a2) hg (by omega) (fun _ _ h => h) (fun h' u tk hk => ⟨.str _, H, I.kept (t' := tk) hk, ⟨_, rfl⟩, fin⟩) h3
          | dict b1 b2 b3 b4 b5 => exact PySem.repr_of_reads' (Reads.dict b1 b2 b3 b4 b5) h1 (fun _ => a2) hg (by omega) (fun _ _ h => h) (fun h' u tk hk => ⟨.str _, H, I.kept (t' := tk) hk, ⟨_, rfl⟩, fin⟩) h3
      · cases e1
    · cases e1
  · cases e
end DL
set_option Elab.async false
set_option linter.all false
set_option maxRecDepth 100000
set_option maxHeartbeats 4000001
namespace DL
open PySem.Spec PySem L2 PyProof.Rows
def sysB (K : PySem.W.Frag) : Bool := match K.lookup sysModules with
  | some o => decide (o.cls = .type "dict")
  | none => false
theorem sysB_ok {K : PySem.W.Frag} (h : sysB K = true) : SysD K := by
  unfold sysB at h
  split at h
  · rename_i o e
    exact ⟨o, e, of_decide_eq_true h⟩
  · cases h
abbrev AlS : Type := Bool × He.AlD
theorem ints_reps {K : PySem.W.Frag} {mg : Str → Option Value} {H : Hp} {Z : Addr → Prop} : ∀ nums : List Int, Reps K mg H Z (nums.map V.int) (nums.map D.int) []
  | [] => .nil
  | i :: r => .cons (F := []) .int (ints_reps r)
end DL
set_option Elab.async false
set_option linter.all false
set_option maxRecDepth 100000
set_option maxHeartbeats 4000001
namespace DL
open PySem.Spec PySem L2 PyProof.Rows
def iAny (m : ME) : MI := fun δ => match iLst m δ with
  | some r => some r
  | none => match iTup m δ with
    | some r => some r
    | none => iTxt m δ
theorem Room.u65 {k : Nat} {A : Around} (r : Room k A) : A.units + 65 < cLine := by have := r.un; omega
/-- a def that is called: its name, its parameters, what it reckons; dd its defaults -/
structure CalF (P : Program) (w : World) (K : PySem.W.Frag) (mg : Str → Option Value) (base : Heap) (k : Nat) (x : Str) (ps : List Str) (dd : List D) (m : MF) : Prop where
  ex : ∃ (f : Addr) (fd : FuncData) (dvs : List V) (dsv : List Value), FnG P w K mg base k f fd ps (spD K mg ps.length m) ∧ mg x = some (.ref f) ∧ PySem.W.keepIn K (.ref f) = true ∧ Binds K fd ps dsv ∧ Vals dvs dsv ∧ ∀ H Y, Reps K mg H Y dvs dd []
/-- a constant of the module -/
def GlD (K : PySem.W.Frag) (mg : Str → Option Value) (x : Str) (d : D) : Prop := ∃ (u : Value) (v : V), mg x = some u ∧ RelV v u ∧ ∀ H Y, Rep K mg H Y v d []
section
variable {X : Cx} {x : Str} {p pos : Pos} {e : Expr} {es : List Expr} {as bs : List AS} {k : Nat} {ps ks : List Str} {m : MF} {ord inv : List Nat} {kws : List Keyword} {dd : List D}
theorem ii_any {tg iter : Expr} {mi : ME} (h : IG X iter mi) : II X tg iter (iAny mi) := by
  intro Z Hb H σ δ L ds δ' s e R q
  unfold iAny at e
  split at e
  · rename_i r e1
    cases e
    exact ii_lst h s e1 R q
  · split at e
    · rename_i r e1
      cases e
      exact ii_tup h s e1 R q
    · exact ii_txt h s e R q
theorem x_var (i : Nat) (hN : X.N[i]? = some x := by rfl) (hv : Vis X.env.scope x := by first | exact Or.inl rfl | exact Or.inr (Or.inl rfl) | exact Or.inr (Or.inr rfl)) (hd : (x == ("__debug__" : Str)) = false := by decide)
    (hcd : (x == ("__classdict__" : Str)) = false := by decide) : IG X (.Name x pos) (mVar i) := ig_var i (pe_var hN hv hd hcd)
theorem x_mv (i : Nat) (hN : X.N[i]? = some x := by rfl) (hv : Vis X.env.scope x := by first | exact Or.inl rfl | exact Or.inr (Or.inl rfl) | exact Or.inr (Or.inr rfl)) (hd : (x == ("__debug__" : Str)) = false := by decide)
    (hcd : (x == ("__classdict__" : Str)) = false := by decide) : IG X (.Name x pos) (mMv i) := ig_mv i (pe_var hN hv hd hcd)
theorem x_gl {d : D} (g : GlD X.K X.mg x d) (hg : Gl X x := by rfl) (hdb : (x == ("__debug__" : Str)) = false := by decide) : IG X (.Name x pos) (mC d) := by
  obtain ⟨u, v, h1, h2, h3⟩ := g
  exact ig_glob hg h1 h2 h3 hdb
theorem x_ty (t : BT) (hm : X.mg x = none) (hv : bootBuiltins x = some (.type t.name)) (hg : Gl X x := by rfl) (hn : x ≠ "__name__" := by decide) (hdb : (x == ("__debug__" : Str)) = false := by decide) : IG X (.Name x pos) (mC (.ty t)) := ig_ty t hg hm hv hn hdb
theorem x_blt {g : List D → Option D} {id : String} {r : ML} (hb : BC X (.builtin id) g) (hm : X.mg x = none) (hv : bootBuiltins x = some (.builtin id)) (ha : IL X (e :: es) r) (hg : Gl X x := by rfl) (hn : x ≠ "__name__" := by decide) (hdb : (x == ("__debug__" : Str)) = false := by decide)
    (he : starEach (e :: es) X.env = (false, eval e X.env) :: starEach es X.env := by rfl) (hpl : (backTo pos (starEach es X.env)).any (·.1) = false := by rfl) : IG X (.Call (.Name x p) (e :: es) [] pos) (mCallB g r) := ig_callB hb hg hm hv ha hn hdb he hpl
theorem x_bty {g : List D → Option D} {id : String} {r : ML} (hb : BC X (.type id) g) (hm : X.mg x = none) (hv : bootBuiltins x = some (.type id)) (ha : IL X (e :: es) r) (hg : Gl X x := by rfl) (hn : x ≠ "__name__" := by decide) (hdb : (x == ("__debug__" : Str)) = false := by decide)
    (he : starEach (e :: es) X.env = (false, eval e X.env) :: starEach es X.env := by rfl) (hpl : (backTo pos (starEach es X.env)).any (·.1) = false := by rfl) : IG X (.Call (.Name x p) (e :: es) [] pos) (mCallB g r) := ig_callTy hb hg hm hv ha hn hdb he hpl
theorem x_call (c : CalF X.prog X.w X.K X.mg X.base k x ps dd m) (hr : Room k X.A) (hg : X.A.guards = some []) (ha : IA X (e :: es) as) (hn : as.length + dd.length = ps.length := by rfl) (hgl : Gl X x := by rfl) (hdb : (x == ("__debug__" : Str)) = false := by decide)
    (he : starEach (e :: es) X.env = (false, eval e X.env) :: starEach es X.env := by rfl) (hpl : (backTo pos (starEach es X.env)).any (·.1) = false := by rfl) : IG X (.Call (.Name x p) (e :: es) [] pos) (mCall m as dd) := by
  obtain ⟨f, fd, dvs, dsv, F, hm, hk, hb, hd, hdd⟩ := c.ex
  exact ig_call dd F hr hg hgl hm hk hb hd hdd ha hn hdb he hpl
theorem x_a0 : IA X [] [] := ia_nil
theorem x_av (i : Nat) (t : IA X es as) (hN : X.N[i]? = some x := by rfl) (hv : Vis X.env.scope x := by first | exact Or.inl rfl | exact Or.inr (Or.inl rfl) | exact Or.inr (Or.inr rfl)) (hd : (x == ("__debug__" : Str)) = false := by decide)
    (hcd : (x == ("__classdict__" : Str)) = false := by decide) (hs : starEach (.Name x p :: es) X.env = (false, eval (.Name x p) X.env) :: starEach es X.env := by rfl) : IA X (.Name x p :: es) (.v i :: as) := ia_v i (pe_var hN hv hd hcd) t hs
theorem x_ae {me : ME} (h : IG X e me) (t : IA X es as) (hs : starEach (e :: es) X.env = (false, eval e X.env) :: starEach es X.env := by rfl) : IA X (e :: es) (.e me :: as) := ia_e h t hs
theorem x_lc {me : ME} {r : ML} (h : IG X e me) (t : IL X es r) (hs : starEach (e :: es) X.env = (false, eval e X.env) :: starEach es X.env := by rfl) : IL X (e :: es) (mCons me r) := il_cons h t hs
theorem x_pv (i : Nat) (hN : X.N[i]? = some x := by rfl) (hv : Vis X.env.scope x := by first | exact Or.inl rfl | exact Or.inr (Or.inl rfl) | exact Or.inr (Or.inr rfl)) (hd : (x == ("__debug__" : Str)) = false := by decide)
    (hcd : (x == ("__classdict__" : Str)) = false := by decide) : IP X (.Name x pos) i pVar := ip_var i (pe_var hN hv hd hcd)
theorem x_psub {b : Expr} {i : Nat} {mp : MP} {mk : MK} (hu : X.A.units + 65 < cLine) (h : IP X e i mp) (hk : IK X b mk) (hs : PlainIx b := by intro _ _; rfl) : IP X (.Subscript e b pos) i (pSub mp mk) := ip_sub hu h hk hs
theorem x_ix {a b : Expr} {ma mb : ME} (hu : X.A.units + 65 < cLine) (ha : IG X a ma) (hb : IG X b mb) (hs : PlainIx b := by intro _ _; rfl) : IG X (.Subscript a b pos) (mBin dIx ma mb) := ig_ix hu ha hb hs
theorem x_cmp {a b : Expr} {ma mb : ME} {op : CmpOp} {g : D → D → Option D} (ho : BR X (compareOp op) g) (ha : IG X a ma) (hb : IG X b mb) (hm : behindInMarks op b = false := by first | exact nobehind _ (by decide) (by decide) | rfl) : IG X (.Compare a [op] [b] pos) (mBin g ma mb) := ig_cmp ho ha hb hm
theorem x_tcmp {a b : Expr} {ma mb : ME} {op : CmpOp} {g : D → D → Option D} (ho : BR X (compareOp op) g) (ha : IG X a ma) (hb : IG X b mb) (hm : behindInMarks op b = false := by first | exact nobehind _ (by decide) (by decide) | rfl) : IT X (.Compare a [op] [b] pos) (toT (mBin g ma mb)) := it_cmp ho ha hb hm
theorem x_chain {a b c : Expr} {ma mb mc : ME} {op op' : CmpOp} {g g' : D → D → Option D} (ho : BR X (compareOp op) g) (ho' : BR X (compareOp op') g') (ha : IG X a ma) (hb : IG X b mb) (hc : IG X c mc) (hm : lastMarks [op, op'] [b, c] = false := by with_unfolding_all rfl) : IG X (.Compare a [op, op'] [b, c] pos) (mChain g g' ma mb mc) := ig_chain ho ho' ha hb hc hm
theorem x_tchain {a b c : Expr} {ma mb mc : ME} {op op' : CmpOp} {g g' : D → D → Option D} (ho : BR X (compareOp op) g) (ho' : BR X (compareOp op') g') (ha : IG X a ma) (hb : IG X b mb) (hc : IG X c mc) (hm : lastMarks [op, op'] [b, c] = false := by with_unfolding_all rfl) : IT X (.Compare a [op, op'] [b, c] pos) (toT (mChain g g' ma mb mc)) := it_chain ho ho' ha hb hc hm
theorem x_val {a : Expr} {ma : ME} (ha : IG X a ma) (he : ∀ whole, isTrue a X.env whole = (do let v ← whole; standAt a.pos; holding [v] (truthy v)) := by intro _; rfl) : IT X a (mTru ma) := it_val ha he
variable {P : Nat → Bool}
theorem x_set {pos' : Pos} {me : ME} (i : Nat) (nd : X.N.Nodup) (h : IG X e me) (hP : P i = false := by rfl) (hi : X.N[i]? = some x := by rfl) (hx : Loc X.env.scope x := by first | exact Or.inl rfl | exact Or.inr rfl) (hs : swapsWith e (some (.Name x pos')) pos.line X.env = pure false := by rfl) (hf : X.fn x = true ∨ X.env.scope.names.lookup x = some .local := by first | exact .inl rfl | exact .inr rfl) :
    IS X P (.Assign [.Name x pos'] e pos) (sSet i me) := is_set i hP nd hi hx h hs hf
theorem x_expr {me : ME} (h : IG X e me) (hs : swapsWith e none pos.line X.env = pure false := by rfl) : IS X P (.Expr e pos) (sExpr me) := is_expr h hs
theorem x_put {o b : Expr} {i : Nat} {mp : MP} {mk : MK} {me : ME} {pos' : Pos} (hu : X.A.units + 65 < cLine) (he : IG X e me) (ho : IP X o i mp) (hk : IK X b mk)
    (ha : ∀ v, assign (.Subscript o b pos') X.env v = (do
      let ov ← (holding [v] (eval o X.env))
      let iv ← holding [v, ov] (eval b X.env)
      standAt pos'
      (holding [v, ov, iv] (setItem ov iv v))
      release [v, ov, iv] []) := by intro _; rfl)
    (hs : swapsWithSole [.Subscript o b pos'] e pos.line X.env = pure false := by rfl) (hw : swappedStores [.Subscript o b pos'] e X.env = pure none := by rfl)
    (h1 : (assignEach [.Subscript o b pos'] X.env).map (·.2) = [assign (.Subscript o b pos') X.env] := by rfl) : IS X P (.Assign [.Subscript o b pos'] e pos) (sPut i mp mk me) := is_put hu he ho hk ha hs hw h1
theorem x_for {tg iter : Expr} {body : List Stmt} {mi : MI} {t : MG} {b : MS} {is : List Nat} (hpo : PassesOwn (model X.prog X.w) X.A X.env X.xe) (hi : II X tg iter mi) (ht : IGt X is tg t) (hb : ISs X P body b) (hc : X.calm = true := by rfl) (hP : ∀ i ∈ is, P i = false := by decide) (hs : ∀ x, foldedSetIterable iter X.env x = pure x := by intro _; rfl) :
    IS X P (.For tg iter body [] pos) (sFor mi t b) := is_for hpo hc hi ht hb hP hs
theorem x_tg (i : Nat) (nd : X.N.Nodup) (hi : X.N[i]? = some x := by rfl) (hx : Loc X.env.scope x := by first | exact Or.inl rfl | exact Or.inr rfl) (hf : X.fn x = true ∨ X.env.scope.names.lookup x = some .local := by first | exact .inl rfl | exact .inr rfl) : IGt X [i] (.Name x pos) (tName i) := it_name i (pg_name nd hi hx hf)
theorem x_rng1 {a : Expr} {r : ML} {tg : Expr} (hm : X.mg "range" = none) (ha : IL X [a] r) (hg : Gl X "range" := by rfl) (hs : starEach [a] X.env = [(false, eval a X.env)] := by rfl) : II X tg (.Call (.Name "range" p) [a] [] pos) (mRng1 r) := ii_rng1 hg hm ha hs
theorem x_lcomp {elt tg iter : Expr} {ifs : List Expr} {scope : Scope} {own : List (Str × Nat)} {mi : MI} {t : MG} {c : MT} {me : ME} {is : List Nat} (nd : X.N.Nodup) (hi : II X tg iter mi) (ok : BlkOk X.N X.env.scope scope own) (ht : ∀ s H C cl fp, IGt (bX X scope s H C cl fp) is tg t) (hc : ∀ s H C cl fp, ITs (bX X scope s H C cl fp) ifs c) (he : ∀ s H C cl fp, IG (bX X scope s H C cl fp) elt me)
    (hcl : X.calm = true := by rfl) (hsub : ∀ i ∈ is, i ∈ own.map (·.2) := by decide) (hs : ∀ x, foldedSetIterable iter X.env x = pure x := by intro _; rfl) : IG X (.ListComp elt [⟨tg, iter, ifs, 0⟩] scope pos) (mLc mi (own.map (·.2)) t c me) := ig_lc hcl nd hi ok ht hc he hsub hs
def kC (d : D) : MK := fun _ => some d
theorem ik_str {i j pos} : IK X (.Constant (.str i) j pos) (kC (.str i)) := by
  intro Z Hb H σ δ L d s e' Q q
  cases e'
  exact wE_of pe_str (q _ _ (fun _ _ h => h) (s.put fun _ => .str))
theorem ik_int {i j pos} : IK X (.Constant (.int i) j pos) (kC (.int i)) := by
  intro Z Hb H σ δ L d s e' Q q
  cases e'
  exact wE_of pe_int (q _ _ (fun _ _ h => h) (s.put fun _ => .int))
theorem lt64 {a c : Nat} (h : a + 65 < c) : a + 64 < c := by omega
variable {o : Expr} {name : Str} {apos cpos : Pos} {T id : String} {g : D → List D → Option (D × D)} {g' : D → List D → Option D} {i : Nat} {mp : MP} {r : ML} {rk : MKs} {a : ME}
theorem x_methP (pa : PlainAttrs T) (slot : Slot T name id) (hty : typeOf (.builtin id) = pure (.type "method_descriptor")) (hg : MB X id g) (ho : IP X o i mp) (ha : IKs X (e :: es) rk) (hbase : attributeBase o name X.env (eval o X.env) = eval o X.env := by rfl) (hfew : ((backTo cpos (starEach (e :: es) X.env)).all (fun x => !x.1) && (backToKw cpos (keywordEach [] X.env)).all (fun x => x.1.isSome) && decide ((e :: es).length + ([] : List Keyword).length + (if ([] : List Keyword).isEmpty then 0 else 1) < 30)) = true := by rfl) (hline : (apos.endLine == cpos.line) = true := by rfl) (hs : starEach (e :: es) X.env = (false, eval e X.env) :: starEach es X.env := by rfl) (hplain : (backTo cpos (starEach es X.env)).any (·.1) = false := by rfl) :
    IG X (.Call (.Attribute o name apos) (e :: es) [] cpos) (mMethP T g i mp rk) := ig_methP pa slot hty hg ho ha hbase hfew hline hs hplain
theorem x_methV (pa : PlainAttrs T) (slot : Slot T name id) (hty : typeOf (.builtin id) = pure (.type "method_descriptor")) (hg : BM X id g') (ho : IG X o a) (ha : IL X (e :: es) r) (hbase : attributeBase o name X.env (eval o X.env) = eval o X.env := by rfl) (hfew : ((backTo cpos (starEach (e :: es) X.env)).all (fun x => !x.1) && (backToKw cpos (keywordEach [] X.env)).all (fun x => x.1.isSome) && decide ((e :: es).length + ([] : List Keyword).length + (if ([] : List Keyword).isEmpty then 0 else 1) < 30)) = true := by rfl) (hline : (apos.endLine == cpos.line) = true := by rfl) (hs : starEach (e :: es) X.env = (false, eval e X.env) :: starEach es X.env := by rfl) (hplain : (backTo cpos (starEach es X.env)).any (·.1) = false := by rfl) :
    IG X (.Call (.Attribute o name apos) (e :: es) [] cpos) (mMethV T g' a r) := ig_methV pa slot hty hg ho ha hbase hfew hline hs hplain
theorem x_meth {x : Str} {px : Pos} (i : Nat) (pa : PlainAttrs T) (slot : Slot T name id) (hty : typeOf (.builtin id) = pure (.type "method_descriptor")) (hg : MB X id g) (ha : IL X (e :: es) r) (hN : X.N[i]? = some x := by rfl) (hv : Vis X.env.scope x := by first | exact Or.inl rfl | exact Or.inr (Or.inl rfl) | exact Or.inr (Or.inr rfl)) (hd : (x == ("__debug__" : Str)) = false := by decide)
    (hcd : (x == ("__classdict__" : Str)) = false := by decide)
    (hbase : attributeBase (.Name x px) name X.env (eval (.Name x px) X.env) = eval (.Name x px) X.env := by rfl) (hfew : ((backTo cpos (starEach (e :: es) X.env)).all (fun x => !x.1) && (backToKw cpos (keywordEach [] X.env)).all (fun x => x.1.isSome) && decide ((e :: es).length + ([] : List Keyword).length + (if ([] : List Keyword).isEmpty then 0 else 1) < 30)) = true := by rfl) (hline : (apos.endLine == cpos.line) = true := by rfl) (hs : starEach (e :: es) X.env = (false, eval e X.env) :: starEach es X.env := by rfl) (hplain : (backTo cpos (starEach es X.env)).any (·.1) = false := by rfl) :
    IG X (.Call (.Attribute (.Name x px) name apos) (e :: es) [] cpos) (mMeth T g i r) := ig_meth pa slot hty hg (pe_var hN hv hd hcd) ha hbase hfew hline hs hplain
end
section
variable {P : Program} {w : World} {K : PySem.W.Frag} {mg : Str → Option Value} {base : Heap} {k : Nat} {x y qual : Str} {params : Arguments} {body : List Stmt} {scope : Scope} {kws : List (Str × V)} {f : Addr} {fd : FuncData} {ps ks : List Str} {m : MF} {ord : List Nat} {n : Nat}
theorem calF_of (F : FunD K x qual params body scope [] kws f fd) (G : FnG P w K mg base k f fd ps (spD K mg ps.length m)) (gm : mg y = some (.ref f))
    (h : ∀ (kV doc pm : Value) (an : Option Addr) (cdv ct : Value) (us : List Value), us.length = ps.length → bindArgs (PySem.W.fnOf x qual params body scope .none kV doc pm an cdv ct) ⟨us, []⟩ = pure (ps.zip us)) : CalF P w K mg base k y ps [] m :=
  ⟨f, fd, [], [], G, gm, F.kp, F.bindsN h, .nil, fun _ _ => .nil⟩
theorem gl_int {h : Heap} {i : Int} (X : K.In h) (G : h.Ns mainGlobals mg) (c : (He.Fa.int x i).ok K = true) : GlD K mg x (.int i) := by
  obtain ⟨t, e⟩ := He.int_ok X G c
  exact ⟨_, .int i, e, ⟨t, rfl⟩, fun _ _ => .int⟩
theorem gl_str {h : Heap} {z : Str} (X : K.In h) (G : h.Ns mainGlobals mg) (c : (He.Fa.str x z).ok K = true) : GlD K mg x (.str z) := by
  obtain ⟨t, e⟩ := He.str_ok X G c
  exact ⟨_, .str z, e, ⟨t, rfl⟩, fun _ _ => .str⟩
def dvD : He.Dv → Option D
  | .non => some .non
  | .bl b => some (.bl b)
  | .int i => some (.int i)
  | .str z => some (.str z)
  | _ => none
def dvDs : List He.Dv → Option (List D)
  | [] => some []
  | d :: r => match dvD d, dvDs r with
    | some a, some b => some (a :: b)
    | _, _ => none
theorem dv_rep {H : Hp} {Y : Addr → Prop} {v : He.Dv} {d : D} (e : dvD v = some d) : Rep K mg H Y (He.Dv.v K v) d [] := by
  cases v <;> cases e
  · exact .non
  · exact .bl
  · exact .int
  · exact .str
theorem dv_reps {H : Hp} {Y : Addr → Prop} : ∀ {vs : List He.Dv} {ds : List D}, dvDs vs = some ds → Reps K mg H Y (vs.map (He.Dv.v K)) ds []
  | [], _, e => by cases e; exact .nil
  | v :: vs, ds, e => by
    simp only [dvDs] at e
    split at e
    · rename_i a b e1 e2
      cases e
      exact .cons (F := []) (dv_rep e1) (dv_reps e2)
    · cases e
theorem gl_tup {h : Heap} {vs : List He.Dv} {ds : List D} (X : K.In h) (G : h.Ns mainGlobals mg) (c : (He.Fa.glo x).ok K = true) (c2 : He.tupB K x vs = true) (e : dvDs vs = some ds) : GlD K mg x (.tup ds) :=
  ⟨_, .ref (He.ga K x), He.glo_ok X G c, rfl, fun H Y => .tup (He.tupB_ok c2 H) (dv_reps e)⟩
end
end DL
set_option Elab.async false
set_option linter.all false
set_option maxRecDepth 100000
set_option maxHeartbeats 4000001
namespace DL
open PySem.Spec PySem L2 PyProof.Rows
theorem loopF_ind {t : MG} {b : MS} {J : List D → Env → Prop} (step : ∀ d r δ, J (d :: r) δ → ∃ δ1 δ2, t d δ = some δ1 ∧ b δ1 = some (.nx δ2) ∧ J r δ2) : ∀ ds δ, J ds δ → ∃ δ', loopF t b ds δ = some (.nx δ') ∧ J [] δ'
  | [], δ, h => ⟨δ, rfl, h⟩
  | d :: r, δ, h => by
    obtain ⟨δ1, δ2, e1, e2, h2⟩ := step d r δ h
    obtain ⟨δ', e3, h3⟩ := loopF_ind step r δ2 h2
    exact ⟨δ', by simp only [loopF, e1, e2, e3], h3⟩
theorem loopC_ind {own : List Nat} {t : MG} {c : MT} {m : ME} {J : List D → Env → List D → Prop} (step : ∀ d r δ acc, J (d :: r) δ acc → ∃ δ1 δ2, t d δ = some δ1 ∧ ((c δ1 = some (false, δ2) ∧ J r (wipeE δ2 own) acc) ∨ (c δ1 = some (true, δ2) ∧ ∃ x δ3, m δ2 = some (x, δ3) ∧ J r (wipeE δ3 own) (acc ++ [x])))) :
    ∀ ds δ acc, J ds δ acc → ∃ δ' acc', loopC own t c m ds δ acc = some (acc', δ') ∧ J [] δ' acc'
  | [], δ, acc, h => ⟨δ, acc, rfl, h⟩
  | d :: r, δ, acc, h => by
    obtain ⟨δ1, δ2, e1, h1⟩ := step d r δ acc h
    rcases h1 with ⟨e2, h2⟩ | ⟨e2, x, δ3, e3, h2⟩
    · obtain ⟨δ', acc', e4, h3⟩ := loopC_ind step r _ _ h2
      exact ⟨δ', acc', by simp only [loopC, e1, e2, e4], h3⟩
    · obtain ⟨δ', acc', e4, h3⟩ := loopC_ind step r _ _ h2
      exact ⟨δ', acc', by simp only [loopC, e1, e2, e3, e4], h3⟩
theorem fzs_ints : ∀ C : List Int, fzs (C.map D.int) = C.map D.int
  | [] => rfl
  | c :: r => by simp only [List.map_cons, fzs, fz, fzs_ints r]
theorem isFzs_ints : ∀ C : List Int, isFzs (C.map D.int) = true
  | [] => rfl
  | c :: r => by simp only [List.map_cons, isFzs, isFz, isFzs_ints r, Bool.and_self]
/-- the draws' state -/
structure Dr where
  L : List Int
  o : Bool
  C : List Int
  r : Int
  t : Int
def Dr.ks : List Key := [.inr "large", .inr "cells", .inr "rest", .inr "turn"]
def Dr.d (s : Dr) : D := .dct true Dr.ks [.lst true (s.L.map D.int), .lst s.o (s.C.map D.int), .int s.r, .int s.t]
structure Dr.Ok (b : Nat) (s : Dr) : Prop where
  L : ∀ x ∈ s.L, 0 ≤ x
  C : ∀ x ∈ s.C, 0 ≤ x
  r : 0 ≤ s.r
  t0 : 0 ≤ s.t
  t : s.t ≤ b
  ls : s.L.length ≤ 1000
  cs : s.C.length ≤ 1000
theorem Dr.own (s : Dr) : isFz s.d = false := rfl
theorem ch_large (s : Dr) : chN s.d (.sub (.inr "large")) = some 0 := by kernel_rfl
theorem ch_cells (s : Dr) : chN s.d (.sub (.inr "cells")) = some 1 := by kernel_rfl
theorem ch_rest (s : Dr) : chN s.d (.sub (.inr "rest")) = some 2 := by kernel_rfl
theorem ch_turn (s : Dr) : chN s.d (.sub (.inr "turn")) = some 3 := by kernel_rfl
theorem walk1 {d e t e' : D} {st : Stp} {j : Nat} (ho : ownC d = true) (hj : chN d st = some j) (he : (kids d)[j]? = some e) (hw : walk e [] = some (t, e')) : walk d [st] = some (t, setKids d ((kids d).set j e')) := by
  rw [walk]
  simp only [hj, he, ho, if_true, hw]
theorem walk_ints (o : Bool) (C : List Int) : walk (.lst o (C.map D.int)) [] = some (.lst false (C.map D.int), .lst false (C.map D.int)) := by
  cases o
  · have h : isFz (.lst false (C.map D.int)) = true := by simp only [isFz, isFzs_ints]; rfl
    rw [walk, if_pos h]
  · rw [walk, if_neg (by simp [isFz])]
    simp only [fz, fzs_ints]
theorem walk_rest (s : Dr) : walk s.d [.sub (.inr "rest")] = some (.int s.r, s.d) := walk1 rfl (ch_rest s) rfl rfl
theorem walk_turn (s : Dr) : walk s.d [.sub (.inr "turn")] = some (.int s.t, s.d) := walk1 rfl (ch_turn s) rfl rfl
theorem walk_cells (s : Dr) : walk s.d [.sub (.inr "cells")] = some (.lst false (s.C.map D.int), ({ s with o := false } : Dr).d) := walk1 rfl (ch_cells s) rfl (walk_ints _ _)
theorem set_rest (s : Dr) (i : Int) : dSetIt s.d (.str "rest") (.int i) = some ({ s with r := i } : Dr).d := by kernel_rfl
theorem set_turn (s : Dr) (i : Int) : dSetIt s.d (.str "turn") (.int i) = some ({ s with t := i } : Dr).d := by kernel_rfl
theorem at_large (s : Dr) : atO s.d [.sub (.inr "large")] = some (.lst true (s.L.map D.int)) := by
  simp only [atO, ch_large]
  rfl
theorem put_large (s : Dr) (L : List Int) : putO s.d [.sub (.inr "large")] (.lst true (L.map D.int)) = ({ s with L := L } : Dr).d := by
  simp only [putO, ch_large]
  rfl
theorem dMul_r {i j : Int} (h : -(2 ^ 64) < j ∧ j < 2 ^ 64) : dMul (.int i) (.int j) = some (.int (i * j)) := if_pos (.inr h)
theorem dMul_l {i j : Int} (h : -(2 ^ 64) < i ∧ i < 2 ^ 64) : dMul (.int i) (.int j) = some (.int (i * j)) := if_pos (.inl h)
theorem dMod_p {i j : Int} (h : 0 < j) : dMod (.int i) (.int j) = some (.int (i % j)) := by
  simp only [dMod]
  rw [if_pos (by omega), Int.fmod_eq_emod_of_nonneg _ (by omega)]
theorem dFdiv_p {i j : Int} (h : 0 < j) (h2 : j < 1073741824) : dFdiv (.int i) (.int j) = some (.int (i / j)) := by
  simp only [dFdiv]
  rw [if_pos (by omega), Int.fdiv_eq_ediv_of_nonneg _ (by omega)]
theorem dPow_p {i : Int} {j : Nat} (h : 0 ≤ i ∧ i < 2 ^ 64) (hj : j ≤ 1000000) : dPow (.int i) (.int j) = some (.int (i ^ j)) := by
  simp only [dPow]
  rw [if_pos (by omega)]
  simp
theorem ev_var {i : Nat} {δ : DL.Env} {d : D} (h : δ[i]? = some (some d)) (hf : isFz d = true) : mVar i δ = some (d, δ) := by
  unfold mVar
  rw [h]
  exact if_pos hf
theorem ev_int {i : Nat} {δ : DL.Env} {x : Int} (h : δ[i]? = some (some (.int x))) : mVar i δ = some (.int x, δ) := ev_var h rfl
theorem ev_bin {g : D → D → Option D} {a b : ME} {δ δ1 δ2 : DL.Env} {x y d : D} (h1 : a δ = some (x, δ1)) (h2 : b δ1 = some (y, δ2)) (h3 : g x y = some d) : mBin g a b δ = some (d, δ2) := by
  unfold mBin
  rw [h1]
  simp only [h2, h3]
theorem ev_cons {a : ME} {r : ML} {δ δ1 δ2 : DL.Env} {x : D} {xs : List D} (h1 : a δ = some (x, δ1)) (h2 : r δ1 = some (xs, δ2)) : mCons a r δ = some (x :: xs, δ2) := by
  unfold mCons
  rw [h1]
  simp only [h2]
theorem ev_callB {g : List D → Option D} {r : ML} {δ δ1 : DL.Env} {xs : List D} {d : D} (h1 : r δ = some (xs, δ1)) (h2 : g xs = some d) : mCallB g r δ = some (d, δ1) := by
  unfold mCallB
  rw [h1]
  simp only [h2]
theorem ev_call1 {g : List D → Option D} {a : ME} {δ δ1 : DL.Env} {x d : D} (h1 : a δ = some (x, δ1)) (h2 : g [x] = some d) : mCallB g (mCons a mNil) δ = some (d, δ1) := ev_callB (ev_cons h1 rfl) h2
theorem ev_tup {r : ML} {δ δ1 : DL.Env} {xs : List D} (h1 : r δ = some (xs, δ1)) (hz : xs.length ≤ sizeLine) : mTup r δ = some (.tup xs, δ1) := by
  unfold mTup
  rw [h1]
  exact if_pos hz
theorem ev_seq {a b : MS} {δ δ1 : DL.Env} (h : a δ = some (.nx δ1)) : sCons a b δ = b δ1 := by
  unfold sCons
  rw [h]
theorem ev_set {i : Nat} {m : ME} {δ δ1 : DL.Env} {d : D} (h : m δ = some (d, δ1)) (hi : i < δ1.length) : sSet i m δ = some (.nx (δ1.set i (some d))) := by
  unfold sSet
  rw [h]
  exact if_pos hi
theorem ev_ret {m : ME} {δ δ1 : DL.Env} {d : D} (h : m δ = some (d, δ1)) : sRet m δ = some (.rt d δ1) := by
  unfold sRet
  rw [h]
theorem ev_if1 {t : MT} {a b : MS} {δ δ1 : DL.Env} (h : t δ = some (true, δ1)) : sIf t a b δ = a δ1 := by
  unfold sIf
  rw [h]
theorem ev_if0 {t : MT} {a b : MS} {δ δ1 : DL.Env} (h : t δ = some (false, δ1)) : sIf t a b δ = b δ1 := by
  unfold sIf
  rw [h]
theorem ev_toT {m : ME} {δ δ1 : DL.Env} {b : Bool} (h : m δ = some (.bl b, δ1)) : toT m δ = some (b, δ1) := by
  unfold toT
  rw [h]
theorem ev_ints {m : ME} {δ δ1 : DL.Env} {o : Bool} {C : List Int} (h : m δ = some (.lst o (C.map D.int), δ1)) : iAny m δ = some (C.map D.int, δ1) := by
  have e : iLst m δ = some (C.map D.int, δ1) := by
    unfold iLst
    rw [h]
    simp only [itemsD, fzs_ints]
  unfold iAny
  rw [e]
theorem ev_for {i : MI} {t : MG} {b : MS} {δ δ1 : DL.Env} {ds : List D} (h : i δ = some (ds, δ1)) : sFor i t b δ = loopF t b ds δ1 := by
  unfold sFor
  rw [h]
theorem toPys_ints : ∀ L : List Int, toPys (L.map D.int) = some (L.map PyData.int)
  | [] => rfl
  | x :: r => by simp only [List.map_cons, toPys, toPy, toPys_ints r]
theorem canLay_ints : ∀ L : List Int, PyData.canLayAll0 (L.map PyData.int) = true
  | [] => rfl
  | x :: r => by simp only [List.map_cons, PyData.canLayAll0, PyData.canLay0, canLay_ints r]; rfl
theorem depth_ints : ∀ L : List Int, PyData.depthAll (L.map PyData.int) = 0
  | [] => rfl
  | x :: r => by simp only [List.map_cons, PyData.depthAll, PyData.depth, depth_ints r]; rfl
theorem shaped_ints (L : List Int) : SeqAt.shaped (.list (L.map PyData.int)) = true := by
  unfold SeqAt.shaped
  simp only [PyData.canLay0, canLay_ints, PyData.depth, depth_ints]
  decide
theorem dNe_ints {o o' : Bool} (L : List Int) : dNe (.lst o (L.map D.int)) (.lst o' []) = some (.bl (!L.isEmpty)) := by
  have e : pyEq (.lst o (L.map D.int)) (.lst o' []) = some L.isEmpty := by
    unfold pyEq
    simp only [toPy, toPys_ints, toPys, Option.map_some, shaped_ints]
    have : SeqAt.shaped (.list []) = true := shaped_ints []
    rw [this]
    cases L <;> rfl
  show (pyEq (.lst o (L.map D.int)) (.lst o' [])).map (fun b => D.bl !b) = _
  rw [e]
  rfl
theorem fz_dr (s : Dr) : fz s.d = .dct false Dr.ks [.lst false (s.L.map D.int), .lst false (s.C.map D.int), .int s.r, .int s.t] := by
  simp only [Dr.d, fz, fzs, fzs_ints]
theorem path_largeF (s : Dr) (r : DL.Env) : mPath 0 (pSub pVar (kC (.str "large"))) (some (fz s.d) :: r) = some (.lst false (s.L.map D.int), some (fz s.d) :: r) := by
  have hw : walk (fz s.d) [.sub (.inr "large")] = some (.lst false (s.L.map D.int), fz s.d) := by
    have hf : isFz (fz s.d) = true := isFz_fz _
    rw [fz_dr] at hf ⊢
    have hj : chN (.dct false Dr.ks [.lst false (s.L.map D.int), .lst false (s.C.map D.int), .int s.r, .int s.t]) (.sub (.inr "large")) = some 0 := by kernel_rfl
    rw [walk]
    simp only [hj]
    show (if false = true then _ else if isFz _ = true then _ else _) = _
    rw [if_neg (by decide), if_pos hf]
    show (match walk (.lst false (s.L.map D.int)) [] with | some (t, _) => some (t, _) | none => none) = _
    rw [walk_ints]
  show (match walk (fz s.d) [.sub (.inr "large")] with | some (t, d') => some (t, (some (fz s.d) :: r).set 0 (some d')) | none => none) = _
  rw [hw]
  rfl
theorem ev_large (s : Dr) (r : DL.Env) : purT [true] (toT (mBin dNe (mPath 0 (pSub pVar (kC (.str "large")))) (mLst mNil))) (some s.d :: r) = some (!s.L.isEmpty, some s.d :: r) := by
  unfold purT
  have e : (toT (mBin dNe (mPath 0 (pSub pVar (kC (.str "large")))) (mLst mNil))) (fzE (keepM [true] (some s.d :: r))) = some (!s.L.isEmpty, some (fz s.d) :: fzE (keepM [] r)) :=
    ev_toT (ev_bin (path_largeF s _) (y := .lst true []) rfl (dNe_ints _))
  rw [e]
theorem ev_callv0 {m : MF} {d d' r : D} {δ : DL.Env} (hf : isFz d = false) (h : m [d] = some (r, [d'])) : mCall m [.v 0] [] (some d :: δ) = some (r, some d' :: δ) := by
  simp [mCall, mArgs, lend, restore, hf, h]
/-- a def of the state and a value -/
theorem ev_callv0e {m : MF} {a : ME} {d d1 d' x x' r : D} {δ δ1 : DL.Env} (ha : a (some d :: δ) = some (x, some d1 :: δ1)) (hf : isFz d1 = false) (h : m [d1, x] = some (r, [d', x'])) : mCall m [.v 0, .e a] [] (some d :: δ) = some (r, some d' :: δ1) := by
  simp [mCall, mArgs, lend, restore, hf, h, ha]
theorem ev_if_e {t : MT} {a b : ME} {δ δ1 : DL.Env} {k : Bool} (h : t δ = some (k, δ1)) : mIf t a b δ = if k = true then a δ1 else b δ1 := by
  unfold mIf
  rw [h]
  cases k <;> rfl
theorem ev_pop0 (s : Dr) {x : Int} {L : List Int} (hL : s.L = x :: L) (r : DL.Env) : mMethP "list" gPopAt 0 (pSub pVar (kC (.str "large"))) (ksCons (kC (.int 0)) ksNil) (some s.d :: r) = some (.int x, some ({ s with L := L } : Dr).d :: r) := by
  show (match atO s.d [.sub (.inr "large")] with | some t => (if tyD "list" t = true then (match gPopAt t [.int 0] with | some (a, t') => some (a, (some s.d :: r).set 0 (some (putO s.d [.sub (.inr "large")] t'))) | none => none) else none) | none => none) = _
  rw [at_large, hL]
  have e : gPopAt (.lst true ((x :: L).map D.int)) [.int 0] = some (.int x, .lst true (L.map D.int)) := by
    simp only [gPopAt]
    rw [if_pos (show -(2 ^ 63 : Int) ≤ 0 ∧ (0 : Int) < 2 ^ 63 by decide)]
    have : ixN ((x :: L).map D.int).length 0 = some 0 := by
      unfold ixN
      simp
    simp only [this]
    rfl
  show (if true = true then (match gPopAt (.lst true ((x :: L).map D.int)) [.int 0] with | some (a, t') => some (a, (some s.d :: r).set 0 (some (putO s.d [.sub (.inr "large")] t'))) | none => none) else none) = _
  rw [if_pos rfl, e]
  show some (D.int x, some (putO s.d [.sub (.inr "large")] (.lst true (L.map D.int))) :: r) = _
  rw [put_large]
theorem ev_varf {i : Nat} {δ : DL.Env} {d : D} (h : δ[i]? = some (some d)) : mVar i δ = some (fz d, δ.set i (some (fz d))) := by
  unfold mVar
  rw [h]
  by_cases hf : isFz d = true
  · have e : δ.set i (some (fz d)) = δ := by
      rw [fz_isFz d hf]
      apply List.ext_getElem?
      intro n
      rw [List.getElem?_set]
      by_cases q : i = n
      · subst q
        rw [if_pos rfl, if_pos (List.getElem?_eq_some_iff.mp h).1, h]
      · rw [if_neg q]
    rw [e, fz_isFz d hf]
    exact if_pos hf
  · exact if_neg hf
theorem Dr.Ok.mono {s : Dr} {b c : Nat} (h : s.Ok b) (hc : b ≤ c) : s.Ok c := ⟨h.L, h.C, h.r, h.t0, by have := h.t; omega, h.ls, h.cs⟩
theorem atI_nat {α : Type} {ds : List α} {v : Int} {d : α} (h0 : 0 ≤ v) (h : ds[v.toNat]? = some d) : atI ds v = some d := by
  have hl := (List.getElem?_eq_some_iff.mp h).1
  unfold atI ixN
  rw [if_pos h0, if_pos (by omega)]
  exact h
theorem ev_rng {a : ME} {δ δ1 : DL.Env} {n : Int} (h : a δ = some (.int n, δ1)) (h0 : 0 ≤ n) (h1 : n < 2 ^ 62) : mRng1 (mCons a mNil) δ = some (rngD 0 n.toNat, δ1) := by
  unfold mRng1
  rw [ev_cons h rfl]
  exact if_pos ⟨by omega, h1⟩
theorem ev_lc {i : MI} {own : List Nat} {t : MG} {c : MT} {m : ME} {δ δ1 δ2 : DL.Env} {ds acc : List D} (h : i δ = some (ds, δ1)) (hl : ds.length ≤ sizeLine) (h2 : loopC own t c m ds (wipeE δ1 own) [] = some (acc, δ2)) : mLc i own t c m δ = some (.lst true acc, δ2) := by
  unfold mLc
  rw [h]
  simp only [hl, if_true, h2]
theorem rng_len (a : Int) (n : Nat) : (rngD a n).length = n := by unfold rngD; simp
theorem fzs_get {ds : List D} {j : Nat} {d : D} (h : ds[j]? = some d) : (fzs ds)[j]? = some (fz d) := by rw [fzs_map, List.getElem?_map, h]; rfl
theorem fz_fz (d : D) : fz (fz d) = fz d := fz_isFz _ (isFz_fz d)
/-- a short word of small letters -/
structure Lab (z : Str) : Prop where
  a : 1 ≤ z.length
  b : z.length ≤ 6
  c : ∀ c ∈ z.cps.toList, 97 ≤ c ∧ c ≤ 122
theorem strs_strs : ∀ ys : List Str, strsOf (ys.map D.str) = some ys
  | [] => rfl
  | y :: r => by simp only [List.map_cons, strsOf, strs_strs r]; rfl
theorem join_signs : ∀ cs : List Nat, (Txt.join "" (cs.map fun c => (⟨#[c]⟩ : Str))).cps.toList = cs
  | [] => rfl
  | [c] => by rw [TL.join_eq]; rfl
  | c :: d :: r => by
    have ih := join_signs (d :: r)
    rw [TL.join_eq] at ih ⊢
    have e := TL.tl_join "" ((c :: d :: r).map fun c => (⟨#[c]⟩ : Str))
    have e2 := TL.tl_join "" ((d :: r).map fun c => (⟨#[c]⟩ : Str))
    have e3 : TL.joinL (TL.tl "") ((((c :: d :: r).map fun c => (⟨#[c]⟩ : Str))).map TL.tl) = [c] ++ ((TL.tl "") ++ TL.joinL (TL.tl "") (((d :: r).map fun c => (⟨#[c]⟩ : Str)).map TL.tl)) := rfl
    have e4 : TL.tl "" = [] := rfl
    show TL.tl _ = _
    rw [e, e3, ← e2, e4]
    show [c] ++ ([] ++ TL.tl _) = _
    rw [show TL.tl (Str.join "" ((d :: r).map fun c => (⟨#[c]⟩ : Str))) = d :: r from ih]
    rfl
theorem sum_ones (cs : List Nat) : ((cs.map fun c => (⟨#[c]⟩ : Str)).map (·.length)).sum = cs.length := by
  induction cs with
  | nil => rfl
  | cons c r ih => simp only [List.map_cons, List.sum_cons, ih, List.length_cons]; show 1 + _ = _; omega
theorem ev_methV {T : String} {g : D → List D → Option D} {a : ME} {r : ML} {δ δ1 δ2 : DL.Env} {d x : D} {ds : List D} (ha : a δ = some (d, δ1)) (ht : tyD T d = true) (hr : r δ1 = some (ds, δ2)) (hg : g d ds = some x) : mMethV T g a r δ = some (x, δ2) := by
  unfold mMethV
  rw [ha]
  simp only [ht, if_true, hr, hg]
theorem tyD_str (z : Str) : tyD "str" (.str z) = true := by simp [tyD]
theorem ev_stop {a b : MS} {δ δ1 : DL.Env} {d : D} (h : a δ = some (.rt d δ1)) : sCons a b δ = some (.rt d δ1) := by
  unfold sCons
  rw [h]
theorem ev_par3 {r : ML} {δ δ1 : DL.Env} {i j k : Nat} {a b c : D} (h : r δ = some ([a, b, c], δ1)) (hi : i < δ1.length) (hj : j < δ1.length) (hk : k < δ1.length) : sPar [i, j, k] r δ = some (.nx (((δ1.set i (some a)).set j (some b)).set k (some c))) := by
  unfold sPar
  rw [h]
  refine if_pos ⟨rfl, fun x hx => ?_⟩
  simp at hx
  rcases hx with rfl | rfl | rfl <;> assumption
theorem ev_mv {i : Nat} {δ : DL.Env} {d : D} (h : δ[i]? = some (some d)) : mMv i δ = some (d, δ.set i none) := by
  unfold mMv
  rw [h]
theorem ev_calle1 {m : MF} {a : ME} {x x' r : D} {δ : DL.Env} (ha : a δ = some (x, δ)) (h : m [x] = some (r, [x'])) : mCall m [.e a] [] δ = some (r, δ) := by
  simp [mCall, mArgs, lend, restore, ha, h]
theorem ev_calle2 {m : MF} {a b : ME} {x x' y y' r : D} {δ : DL.Env} (ha : a δ = some (x, δ)) (hb : b δ = some (y, δ)) (h : m [x, y] = some (r, [x', y'])) : mCall m [.e a, .e b] [] δ = some (r, δ) := by
  simp [mCall, mArgs, lend, restore, ha, hb, h]
theorem ev_at {ds : List D} {d : D} {k : Nat} {δ : DL.Env} (hf : isFzs ds = true) (hk : ds[k]? = some d) : mPath 0 (pSub pVar (kC (.int k))) (some (.tup ds) :: δ) = some (d, some (.tup ds) :: δ) := by
  have hl := (List.getElem?_eq_some_iff.mp hk).1
  have hd : isFz d = true := isFzs_get hf hk
  have hw : walk (D.tup ds) [.sub (.inl (k : Int))] = some (d, D.tup ds) := by
    have hj : chN (D.tup ds) (.sub (.inl (k : Int))) = some k := by
      show ixN ds.length (k : Int) = some k
      unfold ixN
      (rw [if_pos (by omega), if_pos (by omega)])
      simp
    have hw0 : walk d [] = some (d, d) := by rw [walk, if_pos hd]
    rw [walk]
    simp only [hj]
    show (match ds[k]? with | some e => (if false = true then _ else if isFz (D.tup ds) = true then _ else _) | none => none) = _
    rw [hk]
    show (if false = true then _ else if isFzs ds = true then (match walk d [] with | some (t, _) => some (t, D.tup ds) | none => none) else none) = _
    rw [if_neg (by decide), if_pos hf, hw0]
  show (match walk (D.tup ds) [.sub (.inl (k : Int))] with | some (t, d') => some (t, (some (D.tup ds) :: δ).set 0 (some d')) | none => none) = _
  rw [hw]
  rfl
theorem ev_and1 {a b : ME} {δ δ1 : DL.Env} (h : a δ = some (.bl true, δ1)) : mAnd a b δ = b δ1 := by
  unfold mAnd
  rw [h]
  rfl
theorem ev_and0 {a b : ME} {δ δ1 : DL.Env} (h : a δ = some (.bl false, δ1)) : mAnd a b δ = some (.bl false, δ1) := by
  unfold mAnd
  rw [h]
  rfl
theorem ev_and {a b : ME} {δ : DL.Env} {p q : Bool} (h : a δ = some (.bl p, δ)) (h2 : p = true → b δ = some (.bl q, δ)) : mAnd a b δ = some (.bl (p && q), δ) := by
  cases p
  · exact ev_and0 h
  · rw [ev_and1 h, h2 rfl]; rfl
theorem ev_not {a : ME} {δ δ1 : DL.Env} {p : Bool} (h : a δ = some (.bl p, δ1)) : mNot a δ = some (.bl !p, δ1) := by
  unfold mNot
  rw [h]
  rfl
theorem ev_or2 {a b : MT} {δ : DL.Env} {p q : Bool} (h : a δ = some (p, δ)) (h2 : p = false → b δ = some (q, δ)) : tOr2 a b δ = some (p || q, δ) := by
  unfold tOr2
  rw [h]
  cases p
  · simp only [h2 rfl, Bool.false_or]
  · rfl
theorem ev_not1 {a : MT} {δ δ1 : DL.Env} {p : Bool} (h : a δ = some (p, δ1)) : tNot1 a δ = some (!p, δ1) := by
  unfold tNot1
  rw [h]
theorem ev_tru {a : ME} {δ δ1 : DL.Env} {p : Bool} (h : a δ = some (.bl p, δ1)) : mTru a δ = some (p, δ1) := by
  unfold mTru
  rw [h]
  rfl
theorem ev_chain {g g' : D → D → Option D} {a b c : ME} {δ : DL.Env} {x y z : D} {p q : Bool} (h1 : a δ = some (x, δ)) (h2 : b δ = some (y, δ)) (h3 : c δ = some (z, δ)) (hf : isFz y = true) (e1 : g x y = some (.bl p)) (e2 : g' y z = some (.bl q)) : mChain g g' a b c δ = some (.bl (p && q), δ) := by
  unfold mChain
  rw [h1]
  simp only [h2, hf, if_true, e1]
  cases p
  · rfl
  · simp only [h3, e2]
    rfl
theorem loopC_map {own : List Nat} {t : MG} {m : ME} {f : D → D} {δ0 : DL.Env} : ∀ {ds acc : List D}, (∀ d ∈ ds, ∃ δ1 δ2, t d δ0 = some δ1 ∧ m δ1 = some (f d, δ2) ∧ wipeE δ2 own = δ0) → loopC own t tTrue m ds δ0 acc = some (acc ++ ds.map f, δ0)
  | [], acc, _ => by simp [loopC]
  | d :: r, acc, h => by
    obtain ⟨δ1, δ2, e1, e2, e3⟩ := h d List.mem_cons_self
    have ih := loopC_map (acc := acc ++ [f d]) (fun x hx => h x (List.mem_cons_of_mem _ hx))
    have e0 : tTrue δ1 = some (true, δ1) := rfl
    simp only [loopC, e1, e0, e2, e3, ih]
    simp
theorem loopC_filter {own : List Nat} {t : MG} {c : MT} {m : ME} {p : D → Bool} {δ0 : DL.Env} : ∀ {ds acc : List D}, (∀ d ∈ ds, ∃ δ1, t d δ0 = some δ1 ∧ c δ1 = some (p d, δ1) ∧ wipeE δ1 own = δ0 ∧ ∃ δ2, m δ1 = some (d, δ2) ∧ wipeE δ2 own = δ0) → loopC own t c m ds δ0 acc = some (acc ++ ds.filter p, δ0)
  | [], acc, _ => by simp [loopC]
  | d :: r, acc, h => by
    obtain ⟨δ1, e1, e2, e3, δ2, e4, e5⟩ := h d List.mem_cons_self
    cases hp : p d with
    | true =>
      rw [hp] at e2
      have ih := loopC_filter (acc := acc ++ [d]) (fun x hx => h x (List.mem_cons_of_mem _ hx))
      simp only [loopC, e1, e2, e4, e5, ih]
      simp [List.filter_cons, hp]
    | false =>
      rw [hp] at e2
      have ih := loopC_filter (acc := acc) (fun x hx => h x (List.mem_cons_of_mem _ hx))
      simp only [loopC, e1, e2, e3, ih]
      simp [List.filter_cons, hp]
theorem bls_of (f : D → Bool) : ∀ ds : List D, blsOf (ds.map fun d => D.bl (f d)) = some (ds.map f)
  | [] => rfl
  | d :: r => by simp only [List.map_cons, blsOf, bls_of f r]; rfl
theorem any_tup {m : ME} {δ δ1 : DL.Env} {ws : List D} (h : m δ = some (.tup ws, δ1)) (hf : isFzs ws = true) : iAny m δ = some (ws, δ1) := by
  have e : iLst m δ = none := by
    unfold iLst
    rw [h]
    rfl
  have e2 : iTup m δ = some (ws, δ1) := by
    unfold iTup
    rw [h]
    simp only [fzs_isFzs ws hf]
  unfold iAny
  rw [e]
  simp only [e2]
end DL
set_option Elab.async false
set_option linter.all false
set_option maxRecDepth 100000
set_option maxHeartbeats 4000001
namespace DL
open PySem.Spec PySem L2 PyProof.Rows
def sAsg (m : ME) (t : MG) : MS := fun δ => match m δ with
  | some (d, δ1) => match t d δ1 with
    | some δ2 => some (.nx δ2)
    | none => none
  | none => none
theorem is_asg {X : Cx} {P : Nat → Bool} {tg e : Expr} {pos : Pos} {is : List Nat} {m : ME} {t : MG} (he : IG X e m) (ht : IGt X is tg t) (hP : ∀ i ∈ is, P i = false) (hs : swapsWithSole [tg] e pos.line X.env = pure false) (hw : swappedStores [tg] e X.env = pure none)
    (h1 : (assignEach [tg] X.env).map (·.2) = [assign tg X.env]) : IS X P (.Assign [tg] e pos) (sAsg m t) := by
  intro Z Hb H σ δ L fl s e' Dn f
  unfold sAsg at e'
  split at e'
  · rename_i d δ1 e1
    split at e'
    · rename_i δ2 e2
      cases e'
      exact wS_of (ps_asg pe_w pg_w hs hw h1) (he s e1 _ fun v H1 s1 => ht s1 e2 _ fun σ' H' s' ho => f σ' H' s' (ho.same hP))
    · cases e'
  · cases e'
def dStr : List D → Option D
  | [.str z] => some (.str z)
  | [.int i] => if i.natAbs.log2 < 1920 then some (.str (toString i)) else none
  | _ => none
theorem bc_str {X : Cx} : BC X (.type "str") dStr := by
  intro Z Hb H P vs ds d hl s e Q q
  unfold dStr at e
  split at e
  · rename_i z
    cases e
    match vs, hl with
    | [v], _ =>
      have s0 : Sp X.K X.mg Z Hb H ((v, .str z) :: P) := s
      exact wC_of SkE.call_str_str ⟨z, by rw [s0.str], q _ _ (s0.drop.put fun _ => .str)⟩
  · rename_i i
    split at e
    · rename_i hz
      cases e
      match vs, hl with
      | [v], _ =>
        have s0 : Sp X.K X.mg Z Hb H ((v, .int i) :: P) := s
        exact wC_of call_str_int ⟨i, by rw [s0.int], hz, q _ _ (s0.drop.put fun _ => .str)⟩
    · cases e
  · cases e
/-- enumerate of a list -/
def enumF : Nat → List D → List D
  | _, [] => []
  | k, d :: r => .tup [.int (k : Int), d] :: enumF (k + 1) r
theorem enum_len : ∀ (k : Nat) (ds : List D), (enumF k ds).length = ds.length
  | _, [] => rfl
  | k, d :: r => by simp [enumF, enum_len (k + 1) r]
theorem enum_get : ∀ {ds : List D} {k i : Nat} {d : D}, ds[i]? = some d → (enumF k ds)[i]? = some (.tup [.int ((k + i : Nat) : Int), d])
  | [], _, _, _, h => by simp at h
  | x :: r, k, 0, d, h => by
    have : x = d := by simpa using h
    subst this
    rfl
  | x :: r, k, i + 1, d, h => by
    have ih := enum_get (ds := r) (k := k + 1) (i := i) (d := d) (by simpa using h)
    show (enumF (k + 1) r)[i]? = _
    rw [ih]
    congr 4
    omega
/-- int(i), int(b), int(text) -/
def dInt2 : List D → Option D
  | [.str z] => match PySem.intText? z with
    | some n => if z.length ≤ 640 then some (.int n) else none
    | none => none
  | ds => dInt ds
theorem bc_int2 {X : Cx} : BC X (.type "int") dInt2 := by
  intro Z Hb H P vs ds d hl s e Q q
  unfold dInt2 at e
  split at e
  · rename_i z
    split at e
    · rename_i n hn
      split at e
      · rename_i hz
        cases e
        match vs, hl with
        | [v], _ =>
          have s0 : Sp X.K X.mg Z Hb H ((v, .str z) :: P) := s
          exact wC_of call_int_str ⟨z, n, by rw [s0.str], hn, hz, q _ _ (s0.drop.put fun _ => .int)⟩
      · cases e
    · cases e
  · exact bc_int hl s e Q q
/-- one mirror, or another -/
def mAlt (a b : ME) : ME := fun δ => match a δ with
  | some r => some r
  | none => b δ
theorem ig_alt {X : Cx} {e : Expr} {a b : ME} (ha : IG X e a) (hb : IG X e b) : IG X e (mAlt a b) := by
  intro Z Hb H σ δ L d δ' s e' Q q
  unfold mAlt at e'
  split at e'
  · rename_i r e1
    cases e'
    exact ha s e1 Q q
  · exact hb s e' Q q
end DL
set_option Elab.async false
set_option linter.all false
set_option maxRecDepth 100000
set_option maxHeartbeats 4000001
namespace DL
open PySem.Spec PySem L2 PyProof.Rows
theorem Sp.ins {K : PySem.W.Frag} {mg : Str → Option Value} {H Hb : Hp} {Z : Addr → Prop} {P : PL} {v : V} {o : Bool} {c : Str} {ns : List Str} {vs : List D} (s : Sp K mg Z Hb H ((v, .obj o c ns vs) :: P)) :
    ∃ a C dx fs, v = .ref a ∧ H a = some (.ins C dx fs) ∧ mg c = some (.ref C) ∧ fs.map (·.1) = ns := by
  obtain ⟨Y, F, r⟩ := s.head
  cases r with
  | objF h z hc e t _ => exact ⟨_, _, _, _, rfl, h, hc, e⟩
  | objO h hc e t _ => exact ⟨_, _, _, _, rfl, h, hc, e⟩
end DL
set_option Elab.async false
set_option linter.all false
set_option maxRecDepth 100000
set_option maxHeartbeats 4000001
namespace DL
open PySem.Spec PySem L2 PyProof.Rows
def BTs : List BT := [.int, .bool, .str, .tup, .lst, .dct]
def Tns : List String := ["NoneType", "bool", "int", "str", "tuple", "list", "dict"]
/-- own classes, each with those above it -/
abbrev CT := List (Str × List Str)
structure ClsI (K : PySem.W.Frag) (C : Addr) : Prop where
  cl : Cls K C
  ha : PySem.W.findIn K (.ref C) "__class__" = some (some (.builtin "object.__class__"))
  hn : PySem.W.specialIn K (.builtin "object.__class__") "__get__" = some (some (.builtin "getset_descriptor.__get__"))
  ht : PySem.W.takesIn K (.builtin "object.__class__") = some true
  hm : PySem.W.mroIn K C (.type "object") = some true
structure ClsT (K : PySem.W.Frag) (mg : Str → Option Value) (cs : CT) : Prop where
  one : ∀ c bs, cs.lookup c = some bs → ∃ C, mg c = some (.ref C) ∧ ClsI K C ∧ (∀ t : BT, PySem.W.kitOne K (.ref C) (.type t.name) = some false) ∧ ∀ T ∈ Tns, PySem.W.kitOne K (.type T) (.ref C) = some false
  two : ∀ c bs x bx C C', cs.lookup c = some bs → cs.lookup x = some bx → mg c = some (.ref C) → mg x = some (.ref C') → PySem.W.kitOne K (.ref C) (.ref C') = some (decide (c = x) || bs.contains x)
def clsTB (K : PySem.W.Frag) (cs : CT) : Bool := cs.all fun p =>
  (He.Fa.cls p.1).ok K && (decide (PySem.W.findIn K (.ref (He.ga K p.1)) "__class__" = some (some (.builtin "object.__class__"))) && (decide (PySem.W.specialIn K (.builtin "object.__class__") "__get__" = some (some (.builtin "getset_descriptor.__get__"))) &&
    (decide (PySem.W.takesIn K (.builtin "object.__class__") = some true) && (decide (PySem.W.mroIn K (He.ga K p.1) (.type "object") = some true) && (BTs.all (fun t => decide (PySem.W.kitOne K (.ref (He.ga K p.1)) (.type t.name) = some false)) &&
    (Tns.all (fun T => decide (PySem.W.kitOne K (.type T) (.ref (He.ga K p.1)) = some false)) && cs.all fun q => decide (PySem.W.kitOne K (.ref (He.ga K p.1)) (.ref (He.ga K q.1)) = some (decide (p.1 = q.1) || p.2.contains q.1))))))))
theorem lookup_mem {α β : Type} [BEq α] [LawfulBEq α] : ∀ {l : List (α × β)} {a : α} {b : β}, l.lookup a = some b → (a, b) ∈ l
  | [], _, _, h => by simp at h
  | (x, y) :: r, a, b, h => by
    rw [List.lookup_cons] at h
    split at h
    · rename_i e
      cases h
      have : a = x := by simpa using e
      subst this
      exact List.mem_cons_self
    · exact List.mem_cons_of_mem _ (lookup_mem h)
theorem clsT_of {K : PySem.W.Frag} {h : Heap} {mg : Str → Option Value} {cs : CT} (X : K.In h) (G : h.Ns mainGlobals mg) (c : clsTB K cs = true) (hg : ∀ p ∈ cs, mg p.1 = some (.ref (He.ga K p.1))) : ClsT K mg cs := by
  have all : ∀ p ∈ cs, _ := fun p hp => List.all_eq_true.mp c p hp
  refine ⟨fun c bs hl => ?_, fun c bs x bx C C' hl hx hC hC' => ?_⟩
  · have hp := lookup_mem hl
    have a := all _ hp
    simp only [Bool.and_eq_true, decide_eq_true_eq] at a
    obtain ⟨a1, a2, a3, a4, a5, a6, a7, a8⟩ := a
    refine ⟨_, hg _ hp, ⟨He.cls_ok a1, a2, a3, a4, a5⟩, fun t => ?_, fun T hT => ?_⟩
    · have := List.all_eq_true.mp a6 t (by cases t <;> decide)
      exact of_decide_eq_true this
    · exact of_decide_eq_true (List.all_eq_true.mp a7 T hT)
  · have hp := lookup_mem hl
    have hq := lookup_mem hx
    have a := all _ hp
    simp only [Bool.and_eq_true, decide_eq_true_eq] at a
    obtain ⟨a1, a2, a3, a4, a5, a6, a7, a8⟩ := a
    have e1 := (hg _ hp).symm.trans hC
    have e2 := (hg _ hq).symm.trans hC'
    cases e1
    cases e2
    exact of_decide_eq_true (List.all_eq_true.mp a8 _ hq)
def inT (cs : CT) (c : Str) : Bool := (cs.lookup c).isSome
def subT (cs : CT) (c x : Str) : Bool := decide (c = x) || ((cs.lookup c).getD []).contains x
def dIsO (cs : CT) : List D → Option D
  | [.obj _ c _ _, .glo x] => if inT cs c && inT cs x then some (.bl (subT cs c x)) else none
  | [d, .glo x] => if inT cs x && (isOf .int d).isSome then some (.bl false) else none
  | [.obj _ c _ _, .ty _] => if inT cs c then some (.bl false) else none
  | [.obj _ c _ _, .tup ts] => match tysOf ts with
    | some (_ :: _) => if inT cs c then some (.bl false) else none
    | _ => none
  | ds => dIsi ds
section
variable {K : PySem.W.Frag} {mg : Str → Option Value} {H Hb : Hp} {Z : Addr → Prop}
theorem Rep.tyx {v : V} {d : D} {F : List Addr} (r : Rep K mg H Z v d F) (h0 : isOf .int d ≠ none) : ∃ T ∈ Tns, TyX K H v (.type T) := by
  cases r with
  | non => exact ⟨"NoneType", by decide, .base .non⟩
  | bl => exact ⟨"bool", by decide, .base (.bl _)⟩
  | int => exact ⟨"int", by decide, .base (.int _)⟩
  | str => exact ⟨"str", by decide, .base (.str _)⟩
  | ty => exact absurd rfl h0
  | glo _ => exact absurd rfl h0
  | tup h _ => exact ⟨"tuple", by decide, tyx_tup h⟩
  | scr h _ => exact ⟨"list", by decide, tyx_scr h⟩
  | lstF h _ _ => exact ⟨"list", by decide, .base (.lst h)⟩
  | lstO h _ => exact ⟨"list", by decide, .base (.lst h)⟩
  | dctF h _ _ _ =>
    refine ⟨"dict", by decide, ?_⟩
    rcases h with h | ⟨o, h⟩
    · exact .base (.dK h)
    · exact .fDict h
  | dctO h _ _ => exact ⟨"dict", by decide, .base (.dK h)⟩
  | objF _ _ _ _ _ _ => exact absurd rfl h0
  | exc _ _ _ _ _ _ => exact absurd rfl h0
  | hole => exact absurd rfl h0
  | tab _ _ _ _ _ => exact absurd rfl h0
  | objO _ _ _ _ _ => exact absurd rfl h0
  | rawF _ _ _ _ => exact absurd rfl h0
  | rawO _ _ _ => exact absurd rfl h0
theorem Sp.gloA {P : PL} {v : V} {x : Str} (s : Sp K mg Z Hb H ((v, .glo x) :: P)) : ∃ a, v = .ref a ∧ mg x = some (.ref a) := by
  obtain ⟨Y, F, r⟩ := s.head
  cases r with
  | glo h => exact ⟨_, rfl, h⟩
theorem kit_none {c : Value} (hc : ∀ t : BT, PySem.W.kitOne K c (.type t.name) = some false) : ∀ bs : List BT, PySem.W.kitAny K c (bs.map fun t => Value.type t.name) = some false
  | [] => rfl
  | t :: bs => kitAny_cons (hc t) (fun _ => kit_none hc bs) (fun h => by cases h)
end
theorem bc_isO {X : Cx} {cs : CT} (T : ClsT X.K X.mg cs) : BC X (.builtin "isinstance") (dIsO cs) := by
  intro Z Hb H P vs ds d hl s e Q q
  unfold dIsO at e
  split at e
  · rename_i o c ns ws x
    split at e
    · rename_i hin
      cases e
      have hin := Bool.and_eq_true_iff.mp hin
      obtain ⟨bs, hb⟩ := Option.isSome_iff_exists.mp (show (cs.lookup c).isSome = true from hin.1)
      obtain ⟨bx, hx⟩ := Option.isSome_iff_exists.mp (show (cs.lookup x).isSome = true from hin.2)
      match vs, hl with
      | [v, w], _ =>
        have s0 : Sp X.K X.mg Z Hb H ((v, .obj o c ns ws) :: (w, .glo x) :: P) := s
        obtain ⟨a, C, dx, fs, rfl, hA, hC, hfs⟩ := s0.ins
        obtain ⟨C', rfl, hC'⟩ := s0.drop.gloA
        obtain ⟨C1, hC1, ti, _, _⟩ := T.one c bs hb
        rw [hC] at hC1
        cases hC1
        have k := T.two c bs x bx C C' hb hx hC hC'
        have e3 : subT cs c x = (decide (c = x) || bs.contains x) := by unfold subT; rw [hb]; rfl
        rw [e3] at q
        exact wC_of call_isi ⟨.ref a, .ref C', .ref C, .ref C', _, rfl, .own C', .base (.ins hA ti.cl ti.ha ti.hn ti.ht ti.hm), k, q _ _ (s0.drop.drop.put fun _ => .bl)⟩
    · cases e
  · rename_i d0 x _
    split at e
    · rename_i hin
      cases e
      have hin := Bool.and_eq_true_iff.mp hin
      obtain ⟨bx, hx⟩ := Option.isSome_iff_exists.mp (show (cs.lookup x).isSome = true from hin.1)
      match vs, hl with
      | [v, w], _ =>
        have s0 : Sp X.K X.mg Z Hb H ((v, d0) :: (w, .glo x) :: P) := s
        obtain ⟨C', rfl, hC'⟩ := s0.drop.gloA
        obtain ⟨Y, F, r⟩ := s0.head
        obtain ⟨Tn, hT, ty⟩ := r.tyx (by
          intro h
          have h2 := hin.2
          rw [h] at h2
          cases h2)
        obtain ⟨C1, hC1, _, _, kt⟩ := T.one x bx hx
        rw [hC'] at hC1
        cases hC1
        exact wC_of call_isi ⟨v, .ref C', .type Tn, .ref C', _, rfl, .own C', ty, kt Tn hT, q _ _ (s0.drop.drop.put fun _ => .bl)⟩
    · cases e
  · rename_i o c ns ws t
    split at e
    · rename_i hin
      cases e
      obtain ⟨bs, hb⟩ := Option.isSome_iff_exists.mp (show (cs.lookup c).isSome = true from hin)
      match vs, hl with
      | [v, w], _ =>
        have s0 : Sp X.K X.mg Z Hb H ((v, .obj o c ns ws) :: (w, .ty t) :: P) := s
        obtain ⟨a, C, dx, fs, rfl, hA, hC, hfs⟩ := s0.ins
        have ew := s0.drop.ty
        obtain ⟨C1, hC1, ti, kt, _⟩ := T.one c bs hb
        rw [hC] at hC1
        cases hC1
        exact wC_of call_isi ⟨.ref a, w, .ref C, .type t.name, _, rfl, by rw [ew]; exact .ty _, .base (.ins hA ti.cl ti.ha ti.hn ti.ht ti.hm), kt t, q _ _ (s0.drop.drop.put fun _ => .bl)⟩
    · cases e
  · rename_i o c ns ws ts
    split at e
    · rename_i t0 bs0 e0
      split at e
      · rename_i hin
        cases e
        obtain ⟨bs, hb⟩ := Option.isSome_iff_exists.mp (show (cs.lookup c).isSome = true from hin)
        match vs, hl with
        | [v, w], _ =>
          have s0 : Sp X.K X.mg Z Hb H ((v, .obj o c ns ws) :: (w, .tup ts) :: P) := s
          obtain ⟨a, C, dx, fs, rfl, hA, hC, hfs⟩ := s0.ins
          obtain ⟨C1, hC1, ti, kt, _⟩ := T.one c bs hb
          rw [hC] at hC1
          cases hC1
          have fin : Sp X.K X.mg Z Hb H ((V.bl false, D.bl false) :: P) := s0.drop.drop.put fun _ => .bl
          obtain ⟨Y', F', r'⟩ := s0.drop.head
          cases r' with
          | @tup a2 cs' _ _ h' t' =>
            have hp := cls_all e0 t'
            exact wC_of call_isiS ⟨.ref a, a2, cs', .ref C, _, _, rfl, h', hp, .base (.ins hA ti.cl ti.ha ti.hn ti.ht ti.hm), kit_none kt _, q _ _ fin⟩
      · cases e
    · cases e
  · exact bc_isi hl s e Q q
end DL
set_option Elab.async false
set_option linter.all false
set_option maxRecDepth 100000
set_option maxHeartbeats 4000001
namespace DL
open PySem.Spec PySem L2 PyProof.Rows
/-- k: a list, else a tuple -/
def itN (k : Bool) : String := cond k "list_iterator" "tuple_iterator"
def IsIt (k : Bool) (h : Heap) (it a : Addr) (i : Nat) : Prop := cond k (h.IsListIter it a i) (h.IsTupleIter it a i)
def IsSq (k : Bool) (h : Heap) (a : Addr) (items : Array Value) : Prop := cond k (h.IsList a items) (h.IsTuple a items)
def SqK (k : Bool) (K : PySem.W.Frag) (H : Hp) (a : Addr) (xs : List V) : Prop := cond k (SqL K H a xs) (SqT K H a xs)
section
variable {prog : Program} {w : World} {A : Around} {E : Value → Shared → Prop} {s : Shared} {k : Bool} {h h' : Heap} {it a : Addr} {i : Nat} {items : Array Value}
theorem drawsK (hh : A.handled = none) (k : Bool) (it a : Addr) (hne : a ≠ it) (items : Array Value) : Draws prog w A it [it, a] items.size (fun i v => items[i]? = some v) (fun i h => IsIt k h it a i ∧ IsSq k h a items) := by
  cases k
  · exact Draws.tuple hh it a hne items
  · exact Draws.list hh it a hne items
theorem IsIt.ob (x : IsIt k h it a i) : ∃ o, h.get? it = some o ∧ ∀ v, o.data ≠ .cell v := by
  cases k
  · obtain ⟨o, e, _, d⟩ := (show h.IsTupleIter it a i from x)
    exact ⟨o, e, fun v q => by rw [d] at q; cases q⟩
  · obtain ⟨o, e, _, d⟩ := (show h.IsListIter it a i from x)
    exact ⟨o, e, fun v q => by rw [d] at q; cases q⟩
theorem IsIt.lt (x : IsIt k h it a i) : it < h.objs.size := by
  obtain ⟨o, e, _⟩ := x.ob
  exact Heap.lt_size e
theorem IsIt.keep (x : IsIt k h it a i) (e : ∀ o, h.get? it = some o → h'.get? it = some o) : IsIt k h' it a i := by
  cases k
  · exact Heap.IsTupleIter.at (show h.IsTupleIter it a i from x) e
  · exact Heap.IsListIter.at (show h.IsListIter it a i from x) e
theorem IsSq.keep (x : IsSq k h a items) (e : ∀ o, h.get? a = some o → h'.get? a = some o) : IsSq k h' a items := by
  cases k
  · exact Heap.IsTuple.at (show h.IsTuple a items from x) e
  · exact Heap.IsList.at (show h.IsList a items from x) e
theorem IsSq.lt (x : IsSq k h a items) : a < h.objs.size := by
  cases k
  · obtain ⟨o, e, _⟩ := (show h.IsTuple a items from x)
    exact Heap.lt_size e
  · obtain ⟨o, e, _⟩ := (show h.IsList a items from x)
    exact Heap.lt_size e
end
def lays (h : Heap) : List Obj → Heap
  | [] => h
  | o :: os => lays (h.push o) os
theorem lays_size : ∀ (os : List Obj) (h : Heap), (lays h os).objs.size = h.objs.size + os.length
  | [], _ => rfl
  | o :: os, h => by rw [lays, lays_size os, Heap.size_push, List.length_cons, Nat.add_assoc, Nat.add_comm 1]
theorem lays_old {b : Addr} {o : Obj} : ∀ (os : List Obj) (h : Heap), h.get? b = some o → (lays h os).get? b = some o
  | [], _, e => e
  | u :: os, _, e => lays_old os _ (Heap.get?_push_of_some u e)
theorem lays_at (os : List Obj) : ∀ (h : Heap) (i : Nat) (o : Obj), os[i]? = some o → o.isFreed = false → (lays h os).get? (h.objs.size + i) = some o := by
  induction os with
  | nil => intro h i o e; exact nomatch e
  | cons u os ih =>
    intro h i o e f
    cases i with
    | zero =>
      cases (Option.some.inj e : u = o)
      exact lays_old os _ (Heap.get?_push_size h f)
    | succ i =>
      have z := ih (h.push u) i o e f
      rw [Heap.size_push, Nat.add_assoc, Nat.add_comm 1 i] at z
      exact z
/-- an iterator over l, of a list or of a tuple, ahead of its first item -/
abbrev itO (k : Bool) (l : Addr) : Obj := { cls := .type (itN k), data := .fields #[.ref l, .int 0 0] }
abbrev enumO (it : Addr) : Obj := { cls := .type "enumerate", data := .fields #[.none, .bool false, .ref it, rawInt 0, .none, .none] }
theorem meets_enumT (l : Addr) (items : Array Value) (n : Nat) (dct : Option Addr) (sl : Array (Option Value)) : Meets (Builtin.«enumerate.__new__» ⟨[.type "enumerate", .ref l], []⟩)
    (fun _ R s => s.heap.get? l = some { cls := .type "tuple", dict := dct, data := .seq items n, slots := sl } ∧ R (.ok (.ret (.ref (s.heap.push (itO false l)).objs.size))) { s with heap := lays s.heap [itO false l, enumO s.heap.objs.size] }) := by
  apply Meets.of_wp
  rintro prog w A R ⟨hp, g, d, tk, os⟩ ⟨hl, h⟩
  have own := sub_enumerate
  have seq : Heap.IsTuple (Shared.heap ⟨hp, g, d, tk, os⟩) l items := ⟨_, hl, rfl, n, rfl⟩
  (wp_walk using AutoSeq1.wpAny_loadPart' hl)
  apply wpAny_stack_any
  intro st
  apply wpAny_pure
  split
  · rename_i c _ _ _ _ _
    rcases Bool.eq_false_or_eq_true (c == Value.type "enumerate") with e | e <;> rw [e] <;> (wp_walk using AutoSeq1.wpAny_loadPart' hl, wpAny_pyIter_tuple seq) <;> exact ⟨_, rfl, h⟩
  · (wp_walk using AutoSeq1.wpAny_loadPart' hl, wpAny_pyIter_tuple seq)
    exact ⟨_, rfl, h⟩
section
variable {prog : Program} {w : World} {A : Around} {E : Value → Shared → Prop} {s : Shared}
theorem it_laid (k : Bool) {h : Heap} {i : Nat} {l : Addr} {os : List Obj} (e : os[i]? = some (itO k l)) : IsIt k (lays h os) (h.objs.size + i) l 0 := by
  have z := lays_at os h i _ e rfl
  cases k <;> exact ⟨_, z, rfl, rfl⟩
theorem call_enumK {k : Bool} {l : Addr} {items : Array Value} {Q : Value → Shared → Prop} (seq : IsSq k s.heap l items)
    (h : ∀ h', IsEnum h' (s.heap.objs.size + 1) s.heap.objs.size 0 .none → IsIt k h' s.heap.objs.size l 0 → h'.objs.size = s.heap.objs.size + 2 → (∀ b o, s.heap.get? b = some o → h'.get? b = some o) → Q (.ref (s.heap.objs.size + 1)) { s with heap := h' }) :
    wpAny (model prog w) A (call (Value.type "enumerate") [Value.ref l]) Q E s := by
  match k, seq, h with
  | true, seq, h => exact call_enumerate_list seq h
  | false, seq, h =>
    have e1 : (lays s.heap [itO false l, enumO s.heap.objs.size]).get? (s.heap.objs.size + 1) = some (enumO s.heap.objs.size) := lays_at _ _ 1 _ rfl rfl
    have q := h _ e1 (it_laid false (i := 0) rfl) (lays_size _ _) fun b o => lays_old _ _
    obtain ⟨⟨_, dct, _, sl⟩, hl, rfl, n, rfl⟩ := seq
    apply callType_new F.called_enumerate (by decide) (F.typeCall_enumerate_1 _) (F.newCall_enumerate_1 _) (fun obj => F.args_object_init_2 obj _) F.entry_enumerate_new (meets_enumT l items n dct sl)
    refine ⟨hl, ?_⟩
    rw [Heap.size_push]
    exact ⟨⟨_, e1, rfl⟩, q⟩
end
theorem sqK_seq {X : Cx} {pins : List (Addr × Obj)} {σ : L2.St} {H : Hp} {s : Shared} {k : Bool} {a : Addr} {xs : List V} (I : Inv X pins σ H s) (h : SqK k X.K H a xs) : ∃ its, Vals xs its ∧ IsSq k s.heap a its.toArray := by
  cases k
  · obtain ⟨its, rv, p, _⟩ := I.tuple (show SqT X.K H a xs from h)
    exact ⟨its, rv, p⟩
  · obtain ⟨its, rv, p, _⟩ := I.list (show SqL X.K H a xs from h)
    exact ⟨its, rv, p.isList⟩
theorem sqK_inj {X : Cx} {pins : List (Addr × Obj)} {σ : L2.St} {H : Hp} {s : Shared} {k : Bool} {a : Addr} {xs ys : List V} (I : Inv X pins σ H s) (h : SqK k X.K H a xs) (h2 : SqK k X.K H a ys) : xs = ys := by
  cases k
  · exact I.tuple_inj (show SqT X.K H a xs from h) (show SqT X.K H a ys from h2)
  · exact I.list_inj (show SqL X.K H a xs from h) (show SqL X.K H a ys from h2)
theorem dk {X : Cx} {pins : List (Addr × Obj)} {σ : L2.St} {H : Hp} {s : Shared} (I : Inv X pins σ H s) (hc : X.calm = true) (k : Bool) (it a : Addr) (hne : a ≠ it) (items : Array Value) : Draws X.prog X.w X.A.in1 it [it, a] items.size (fun i v => items[i]? = some v) (fun i h => IsIt k h it a i ∧ IsSq k h a items) :=
  drawsK (show X.A.in1.handled = none from I.ok.hd hc) k it a hne items
theorem le2 (n b : Nat) (h : b = n + 1 ∨ b = n) : n ≤ b := by omega
theorem le5 (n c : Nat) (h : c = n + 4 ∨ c = n + 2 ∨ c = n + 3 ∨ c = n ∨ c = n + 1) : n ≤ c := by omega
section
variable {X : Cx} {pins : List (Addr × Obj)} {σ : L2.St} {H : Hp} {s : Shared} {h' : Heap} {tk : Nat} {ch : List Addr}
/-- a turn that lays one new pair behind the heap's end and touches ch besides -/
theorem pairLaid {x y : V} {u v : Value} (I : Inv X pins σ H s) (fp : ∀ b ∈ ch, FpOk X pins H b) (old : ∀ b ∈ ch, b < s.heap.objs.size) (rx : RelV x u) (ry : RelV y v)
    (at_ : h'.get? s.heap.objs.size = some { cls := .type "tuple", data := .seq #[u, v] }) (same : ∀ b o, b ∉ ch → s.heap.get? b = some o → h'.get? b = some o) :
    Inv X pins σ (upd H s.heap.objs.size (.tup [x, y])) { s with heap := h', toks := tk } ∧ ∀ b ∈ ch, upd H s.heap.objs.size (.tup [x, y]) b = none := by
  constructor
  · apply I.turnedNew same fp (Nat.le_refl _)
    exact ⟨(by decide : 2 ≤ sizeLine), [u, v], Paired.cons rx (Paired.cons ry Paired.nil), ⟨_, at_, rfl, 0, rfl⟩⟩
  · intro b m
    rw [upd_ne (fun e => Nat.lt_irrefl _ (e ▸ old b m)), (fp b m).1]
/-- the item that a sequence's iterator hands out -/
theorem handed {xs : List V} {its : List Value} {x : V} {i : Nat} (rv : Vals xs its) (e : xs[i]? = some x) : i < its.toArray.size ∧ ∀ u, its.toArray[i]? = some u → RelV x u := by
  have ⟨u, at_, r⟩ := rv.get e
  have lt := (List.getElem?_eq_some_iff.mp at_).1
  refine ⟨by rw [List.size_toArray]; exact lt, fun v q => ?_⟩
  rw [List.getElem?_toArray, at_] at q
  injection q with q
  exact q ▸ r
theorem lt_of_at {xs : List V} {x : V} {i n : Nat} (l : xs.length = n) (e : xs[i]? = some x) : i + 1 ≤ n := l ▸ (List.getElem?_eq_some_iff.mp e).1
end
/-- the sequence at a (n long) as it stands at each turn, each item in a new pair -/
def IteK (k : Bool) (n : Nat) (K : PySem.W.Frag) (a : Addr) : It :=
  ⟨fun i H => ∃ (xs : List V) (x : V), SqK k K H a xs ∧ xs.length = n ∧ xs[i]? = some x, fun i H v H' => ∃ T x, v = .ref T ∧ H T = none ∧ H' = upd H T (.tup [.int (i : Nat), x]) ∧ ∀ xs, SqK k K H a xs → xs[i]? = some x, fun i H => ∃ xs : List V, SqK k K H a xs ∧ xs.length = n ∧ n ≤ i⟩
theorem turn_enumK {P : Program} {w : World} {K : PySem.W.Frag} {elts : List Expr} {kk : Nat} {tpos : Pos} (k : Bool) (n : Nat) (a e it : Addr) :
    Turn P w K (.Tuple elts kk tpos) (IteK k n K a) [e, it] e (fun i h => (∃ old, IsEnum h e it ((i : Nat) : Int) old) ∧ IsIt k h it a i ∧ e ≠ it ∧ a ≠ e ∧ a ≠ it ∧ i ≤ n) where
  mem := List.mem_cons_self
  self := by
    rintro A i s Q E ⟨⟨_, en⟩, _⟩ q
    exact wpAny_pyIter_enum en q
  obj := by
    rintro i h ⟨⟨_, en⟩, ti, _⟩
    exact List.forall_mem_cons.mpr ⟨⟨_, en, by simp⟩, List.forall_mem_cons.mpr ⟨ti.ob, nofun⟩⟩
  keep := by
    rintro i h h' ⟨⟨old, en⟩, ti, rest⟩ stay
    exact ⟨⟨old, stay e (.head _) _ en⟩, ti.keep (stay it (.tail _ (.head _))), rest⟩
  done := by
    rintro X rfl rfl rfl calm i pins s σ H E inv fp ⟨⟨old, en⟩, ti, ei, ae, ai, le⟩ ⟨xs, sq, len, over⟩
    have ⟨its, rv, isq⟩ := sqK_seq inv sq
    have sz : its.toArray.size = i := by rw [List.size_toArray, ← rv.length]; omega
    have st : IsIt k s.heap it a its.toArray.size ∧ IsSq k s.heap a its.toArray := by rw [sz]; exact ⟨ti, isq⟩
    exact wpAny_pyNext_enum_endD (dk inv calm k it a ai its.toArray) en st fun h' only => ⟨rfl, inv.turnedL (ch := [e, it]) (fun b o nb q => only b o (fun z => nb (z ▸ .tail _ (.head _))) q) fp⟩
  item := by
    rintro X rfl rfl rfl calm i pins s σ H E inv fp ⟨⟨old, en⟩, ti, ei, ae, ai, le⟩ ⟨xs, x, sq, len, at_i⟩
    have ⟨its, rv, isq⟩ := sqK_seq inv sq
    have ⟨lt, rel⟩ := handed rv at_i
    apply wpAny_pyNext_enum_itemD (dk inv calm k it a ai its.toArray) en ⟨ti, isq⟩ lt ei (by simp [ei, ae.symm])
    intro u h1 tk hu ho st1 pair _ k1
    refine ⟨_, rfl, wpAny_letOwnedTupleGo_enum (s := { s with heap := h1, toks := tk + 1 }) ho fun h2 en2 sb => ?_⟩
    have below : ∀ b ∈ [e, it], b < s.heap.objs.size := List.forall_mem_cons.mpr ⟨Heap.lt_size en, List.forall_mem_cons.mpr ⟨ti.lt, nofun⟩⟩
    have laid := pairLaid (tk := tk + 1) (h' := h2) (x := .int (i : Nat)) (y := x) inv fp below ⟨tk, rfl⟩ (rel u hu) ((sb.2 _ (fun z => Nat.lt_irrefl _ (z ▸ below e (.head _)))).trans pair) fun b o nb q =>
      (sb.2 b fun z => nb (z ▸ .head _)).trans (k1 b o (fun z => nb (z ▸ .head _)) (fun z => nb (z ▸ .tail _ (.head _))) q)
    exact ⟨V.ref s.heap.objs.size, _, laid.1, rfl, ⟨_, _, rfl, inv.hok.fresh (Nat.le_refl _), rfl, fun ys sy => sqK_inj inv sq sy ▸ at_i⟩,
      ⟨⟨_, (Int.natCast_succ i).symm ▸ en2⟩, st1.1.keep fun o q => (sb.2 it ei.symm).trans q, ei, ae, ai, lt_of_at len at_i⟩, laid.2⟩
def iEnumK (K : PySem.W.Frag) (ta : TA) : TI := fun σ H R => ta σ H fun vs H1 => ∃ k a xs, vs = [.ref a] ∧ SqK k K H1 a xs ∧ R (IteK k xs.length K a) H1
theorem pi_enumK {X : Cx} {e : Expr} {ta : TA} {p pos tpos : Pos} {elts : List Expr} {kk : Nat} (hg : Gl X "enumerate") (hm : X.mg "enumerate" = none) (ha : PA X [e] ta) (hs : starEach [e] X.env = [(false, eval e X.env)]) :
    PI X (.Tuple elts kk tpos) (.Call (.Name "enumerate" p) [e] [] pos) (iEnumK X.K ta) := by
  constructor
  intro pins s σ H R inv way
  refine Call_ (ld_blt inv hg hm boot_enumerate ?_)
  refine PyProof.Rows.callWith_type1 (thn (ha.run pos pins s σ H _ inv way) ?_) hs rfl
  rintro us s1 ⟨vs, H1, inv1, rel, k, a, xs, rfl, sq, go⟩
  have ⟨v, ev, rv⟩ := vals1 rel
  subst ev
  cases rv
  have ⟨its, vals, isq⟩ := sqK_seq inv1 sq
  apply call_enumK isq
  intro h' en ti _ kept
  apply wpAny_pyIter_enum en
  have lt := isq.lt
  have new : ∀ b, b ∈ [s1.heap.objs.size + 1, s1.heap.objs.size] → FpOk X pins H1 b := fun b m =>
    have le := le2 s1.heap.objs.size b (by simpa using m)
    inv1.fpOk le (inv1.hok.fresh le)
  exact ⟨_, _, _, _, H1, rfl, inv1.kept (t' := s1.toks) kept, turn_enumK k xs.length a _ _, ⟨⟨_, en⟩, ti, Nat.succ_ne_self _, Nat.ne_of_lt (Nat.lt_succ_of_lt lt), Nat.ne_of_lt lt, Nat.zero_le _⟩, new, go⟩
end DL
set_option Elab.async false
set_option linter.all false
set_option maxRecDepth 100000
set_option maxHeartbeats 4000001
namespace DL
open PySem.Spec PySem L2 PyProof.Rows
section
variable {K : PySem.W.Frag} {mg : Str → Option Value} {H : Hp} {Z : Addr → Prop} {a : Addr} {od : Obj} {kvs : List (Key × V)}
theorem SqT.lock {b : Addr} {vs : List V} (ha : H a = some (.dK kvs)) (h : SqT K H b vs) : SqT K (upd H a (.frz od (.dK kvs))) b vs := by
  refine SqT.keep h fun c o e p => ?_
  rw [upd_ne fun z => by subst z; rw [ha] at e; cases e; cases p]
  exact e
theorem SqL.lock {b : Addr} {vs : List V} (ha : H a = some (.dK kvs)) (h : SqL K H b vs) : SqL K (upd H a (.frz od (.dK kvs))) b vs := by
  rcases h with (h | ⟨o, h⟩) | h
  · exact .inl (.inl (by rw [upd_ne fun z => by subst z; rw [ha] at h; cases h]; exact h))
  · exact .inl (.inr ⟨o, by rw [upd_ne fun z => by subst z; rw [ha] at h; cases h]; exact h⟩)
  · exact .inr h
theorem Rd.lock {b : Addr} {u : HO} (ha : H a = some (.dK kvs)) (h : Rd H b u) : Rd (upd H a (.frz od (.dK kvs))) b u := by
  by_cases e : b = a
  · subst e
    rcases h with h | ⟨o, h⟩
    · rw [ha] at h; cases h
      exact .inr ⟨od, upd_same⟩
    · rw [ha] at h; cases h
  · rcases h with h | ⟨o, h⟩
    · exact .inl (by rw [upd_ne e]; exact h)
    · exact .inr ⟨o, by rw [upd_ne e]; exact h⟩
theorem neA {b : Addr} {u : HO} (ha : H a = some (.dK kvs)) (h : H b = some u) (hu : ∀ k, u ≠ .dK k) : upd H a (.frz od (.dK kvs)) b = some u := by
  rw [upd_ne fun z => by subst z; rw [ha] at h; cases h; exact hu _ rfl]
  exact h
theorem PlT.lock {t : Addr} (ha : H a = some (.dK kvs)) (h : PlT H t) : PlT (upd H a (.frz od (.dK kvs))) t := by
  obtain ⟨o, xs, e, d⟩ := h
  exact ⟨o, xs, neA ha e (fun k q => nomatch q), d⟩
mutual
theorem Rep.lock {v : V} {d : D} {F : List Addr} (ha : H a = some (.dK kvs)) (r : Rep K mg H Z v d F) (hF : a ∉ F) : Rep K mg (upd H a (.frz od (.dK kvs))) Z v d F := by
  cases r with
  | non => exact .non
  | bl => exact .bl
  | int => exact .int
  | str => exact .str
  | ty => exact .ty
  | glo h => exact .glo h
  | tup h t => exact .tup (SqT.lock ha h) (t.lock ha hF)
  | scr h t =>
    refine .scr ?_ (t.lock ha hF)
    rcases h with ⟨o, h⟩ | h
    · exact .inl ⟨o, neA ha h fun k q => nomatch q⟩
    · exact .inr h
  | rawF h p z m => exact .rawF (Rd.lock ha h) p z (m.imp fun t q => PlT.lock ha q)
  | rawO h p m => exact .rawO (by rw [upd_ne fun e => hF (by rw [← e]; exact List.mem_cons_self)]; exact h) p (m.imp fun t q => PlT.lock ha q)
  | lstF h z t => exact .lstF (neA ha h fun k q => nomatch q) z (t.lock ha hF)
  | lstO h t => exact .lstO (neA ha h fun k q => nomatch q) (t.lock ha fun m => hF (List.mem_cons_of_mem _ m))
  | dctF h z e t => exact .dctF (Rd.lock ha h) z e (t.lock ha hF)
  | dctO h e t => exact .dctO (by rw [upd_ne fun e => hF (by rw [← e]; exact List.mem_cons_self)]; exact h) e (t.lock ha fun m => hF (List.mem_cons_of_mem _ m))
  | objF h z c e t m => exact .objF (neA ha h fun k q => nomatch q) z c e (t.lock ha hF) (m.imp fun t q => PlT.lock ha q)
  | exc h z c e n t => exact .exc (neA ha h fun k q => nomatch q) z c (e.imp id fun ⟨dd, q, nz, r, y⟩ => ⟨dd, q, nz, neA ha r (fun k q => nomatch q), y⟩) n (t.lock ha hF)
  | hole => exact .hole
  | tab b h i j l => exact .tab b (neA ha h fun k q => nomatch q) i j fun c hc => neA ha (l c hc) fun k q => by unfold LamX.CodeO at q; nomatch q
  | objO h c e t m => exact .objO (neA ha h fun k q => nomatch q) c e (t.lock ha fun m => hF (List.mem_cons_of_mem _ m)) (m.imp fun t q => PlT.lock ha q)
theorem Reps.lock {vs : List V} {ds : List D} {F : List Addr} (ha : H a = some (.dK kvs)) (r : Reps K mg H Z vs ds F) (hF : a ∉ F) : Reps K mg (upd H a (.frz od (.dK kvs))) Z vs ds F := by
  cases r with
  | nil => exact .nil
  | cons q t => exact .cons (q.lock ha fun m => hF (List.mem_append_left _ m)) (t.lock ha fun m => hF (List.mem_append_right _ m))
end
theorem neU {b : Addr} {u : HO} (ha : H a = some (.frz od (.dK kvs))) (h : H b = some u) (hu : u ≠ .frz od (.dK kvs)) : upd H a (.dK kvs) b = some u := by
  rw [upd_ne fun z => by subst z; rw [ha] at h; cases h; exact hu rfl]
  exact h
theorem Rd.unlock {b : Addr} {u : HO} (ha : H a = some (.frz od (.dK kvs))) (h : Rd H b u) (p : pers u = false) : Rd (upd H a (.dK kvs)) b u := by
  by_cases e : b = a
  · subst e
    rcases h with h | ⟨o, h⟩
    · rw [ha] at h; cases h; cases p
    · rw [ha] at h; cases h
      exact .inl upd_same
  · rcases h with h | ⟨o, h⟩
    · exact .inl (by rw [upd_ne e]; exact h)
    · exact .inr ⟨o, by rw [upd_ne e]; exact h⟩
theorem SqT.unlock {b : Addr} {vs : List V} (ha : H a = some (.frz od (.dK kvs))) (h : SqT K H b vs) : SqT K (upd H a (.dK kvs)) b vs := by
  rcases h with (h | ⟨o, h⟩) | h
  · exact .inl (.inl (neU ha h fun q => nomatch q))
  · exact .inl (.inr ⟨o, neU ha h fun q => nomatch q⟩)
  · exact .inr h
theorem PlT.unlock {t : Addr} (ha : H a = some (.frz od (.dK kvs))) (h : PlT H t) : PlT (upd H a (.dK kvs)) t := by
  obtain ⟨o, xs, e, d⟩ := h
  exact ⟨o, xs, neU ha e (fun q => nomatch q), d⟩
mutual
theorem Rep.unlock {v : V} {d : D} {F : List Addr} (ha : H a = some (.frz od (.dK kvs))) (r : Rep K mg H Z v d F) : Rep K mg (upd H a (.dK kvs)) Z v d F := by
  cases r with
  | non => exact .non
  | bl => exact .bl
  | int => exact .int
  | str => exact .str
  | ty => exact .ty
  | glo h => exact .glo h
  | tup h t => exact .tup (SqT.unlock ha h) (t.unlock ha)
  | scr h t =>
    refine .scr ?_ (t.unlock ha)
    rcases h with ⟨o, h⟩ | h
    · exact .inl ⟨o, neU ha h fun q => nomatch q⟩
    · exact .inr h
  | rawF h p z m => exact .rawF (Rd.unlock ha h p) p z (m.imp fun t q => PlT.unlock ha q)
  | rawO h p m => exact .rawO (neU ha h fun q => by rw [q] at p; cases p) p (m.imp fun t q => PlT.unlock ha q)
  | lstF h z t => exact .lstF (neU ha h fun q => nomatch q) z (t.unlock ha)
  | lstO h t => exact .lstO (neU ha h fun q => nomatch q) (t.unlock ha)
  | dctF h z e t => exact .dctF (Rd.unlock ha h rfl) z e (t.unlock ha)
  | dctO h e t => exact .dctO (neU ha h fun q => nomatch q) e (t.unlock ha)
  | objF h z c e t m => exact .objF (neU ha h fun q => nomatch q) z c e (t.unlock ha) (m.imp fun t q => PlT.unlock ha q)
  | exc h z c e n t => exact .exc (neU ha h fun q => nomatch q) z c (e.imp id fun ⟨dd, q, nz, r, y⟩ => ⟨dd, q, nz, neU ha r (fun q => nomatch q), y⟩) n (t.unlock ha)
  | hole => exact .hole
  | tab b h i j l => exact .tab b (neU ha h fun q => nomatch q) i j fun c hc => neU ha (l c hc) fun q => by unfold LamX.CodeO at q; nomatch q
  | objO h c e t m => exact .objO (neU ha h fun q => nomatch q) c e (t.unlock ha) (m.imp fun t q => PlT.unlock ha q)
theorem Reps.unlock {vs : List V} {ds : List D} {F : List Addr} (ha : H a = some (.frz od (.dK kvs))) (r : Reps K mg H Z vs ds F) : Reps K mg (upd H a (.dK kvs)) Z vs ds F := by
  cases r with
  | nil => exact .nil
  | cons q t => exact .cons (q.unlock ha) (t.unlock ha)
end
theorem Rps.lock {P : PL} {F : List Addr} (ha : H a = some (.dK kvs)) (r : Rps K mg H Z P F) (hF : a ∉ F) : Rps K mg (upd H a (.frz od (.dK kvs))) Z P F := by
  induction r with
  | nil => exact .nil
  | cons h _ ih => exact .cons (h.lock ha fun m => hF (List.mem_append_left _ m)) (ih fun m => hF (List.mem_append_right _ m))
theorem Rps.unlock {P : PL} {F : List Addr} (ha : H a = some (.frz od (.dK kvs))) (r : Rps K mg H Z P F) : Rps K mg (upd H a (.dK kvs)) Z P F := by
  induction r with
  | nil => exact .nil
  | cons h _ ih => exact .cons (h.unlock ha) ih
/-- the ground with the locked dict -/
def pin (Hb : Hp) (a : Addr) (o : HO) : Hp := fun x => if x = a then some o else Hb x
variable {Hb : Hp} {P : PL} {v : V} {ks : List Key} {ds : List D}
theorem Sp.lock (s : Sp K mg Z Hb H ((.ref a, .dct false ks ds) :: P)) (ha : H a = some (.dK kvs)) : Sp K mg Z (pin Hb a (.frz od (.dK kvs))) (upd H a (.frz od (.dK kvs))) ((.ref a, .dct false ks ds) :: P) := by
  obtain ⟨⟨F, r, nd, hb⟩, b, fr⟩ := s
  have hF : a ∉ F := by
    cases r with
    | cons q t => cases q with
      | dctF h z e t' => simpa using z.2
  refine ⟨⟨F, r.lock ha hF, nd, fun x m => ?_⟩, fun x o e => ?_, fun x e => ?_⟩
  · have ne : x ≠ a := fun e => hF (e ▸ m)
    show (if x = a then _ else Hb x) = none
    rw [if_neg ne]
    exact hb x m
  · by_cases e' : x = a
    · subst e'
      have : some (HO.frz od (.dK kvs)) = some o := (if_pos rfl).symm.trans e
      rw [upd_same]
      exact this
    · rw [upd_ne e']
      exact b x o ((if_neg e').symm.trans e)
  · by_cases e' : x = a
    · subst e'
      have : some (HO.frz od (.dK kvs)) = none := (if_pos rfl).symm.trans e
      cases this
    · exact fr x ((if_neg e').symm.trans e)
theorem Sp.pinned {o : HO} (s : Sp K mg Z (pin Hb a o) H P) : H a = some o := s.base a o (if_pos rfl)
theorem Sp.unlock {H0 : Hp} {P0 : PL} (s0 : Sp K mg Z Hb H0 P0) (h0 : H0 a = some (.dK kvs)) (s : Sp K mg Z (pin Hb a (.frz od (.dK kvs))) H P) : Sp K mg Z Hb (upd H a (.dK kvs)) P := by
  have ha := s.pinned
  obtain ⟨⟨F, r, nd, hb⟩, b, fr⟩ := s
  refine ⟨⟨F, r.unlock ha, nd, fun x m => ?_⟩, fun x o e => ?_, s0.fresh⟩
  · have h := hb x m
    by_cases e' : x = a
    · have : some (HO.frz od (.dK kvs)) = none := (if_pos e').symm.trans h
      cases this
    · exact (if_neg e').symm.trans h
  · by_cases e' : x = a
    · subst e'
      rw [upd_same, ← h0]
      exact s0.base _ _ e
    · rw [upd_ne e']
      exact b x o ((if_neg e').trans e)
/-- it was locked before -/
theorem Sp.pin1 (s : Sp K mg Z Hb H ((.ref a, .dct false ks ds) :: P)) (ha : H a = some (.frz od (.dK kvs))) : Sp K mg Z (pin Hb a (.frz od (.dK kvs))) H ((.ref a, .dct false ks ds) :: P) := by
  obtain ⟨⟨F, r, nd, hb⟩, b, fr⟩ := s
  have hF : a ∉ F := by
    cases r with
    | cons q t => cases q with
      | dctF h z e t' => simpa using z.2
  refine ⟨⟨F, r, nd, fun x m => ?_⟩, fun x o e => ?_, fun x e => ?_⟩
  · have ne : x ≠ a := fun e => hF (e ▸ m)
    exact (if_neg ne).trans (hb x m)
  · by_cases e' : x = a
    · subst e'
      have : some (HO.frz od (.dK kvs)) = some o := (if_pos rfl).symm.trans e
      rw [ha]
      exact this
    · exact b x o ((if_neg e').symm.trans e)
  · by_cases e' : x = a
    · subst e'
      have : some (HO.frz od (.dK kvs)) = none := (if_pos rfl).symm.trans e
      cases this
    · exact fr x ((if_neg e').symm.trans e)
theorem Sp.unpin {H0 : Hp} {P0 : PL} (s0 : Sp K mg Z Hb H0 P0) (h0 : H0 a = some (.frz od (.dK kvs))) (s : Sp K mg Z (pin Hb a (.frz od (.dK kvs))) H P) : Sp K mg Z Hb H P := by
  have ha := s.pinned
  obtain ⟨⟨F, r, nd, hb⟩, b, fr⟩ := s
  refine ⟨⟨F, r, nd, fun x m => ?_⟩, fun x o e => ?_, s0.fresh⟩
  · have h := hb x m
    by_cases e' : x = a
    · have : some (HO.frz od (.dK kvs)) = none := (if_pos e').symm.trans h
      cases this
    · exact (if_neg e').symm.trans h
  · by_cases e' : x = a
    · subst e'
      rw [ha, ← h0]
      exact s0.base _ _ e
    · exact b x o ((if_neg e').trans e)
theorem Rc1.lock {st : Stp} {u w : V} (ha : H a = some (.dK kvs)) (h : Rc1 K mg H u st w) : Rc1 K mg (upd H a (.frz od (.dK kvs))) u st w := by
  cases st with
  | sub x =>
    rcases h with ⟨b, k2, e, h, l⟩ | ⟨b, vs, i, ek, e, h, l⟩
    · exact .inl ⟨b, k2, e, Rd.lock ha h, l⟩
    · exact .inr ⟨b, vs, i, ek, e, h.imp (SqL.lock ha) (SqT.lock ha), l⟩
  | fld cs n =>
    obtain ⟨b, C, dx, fs, c, e, h, r⟩ := h
    exact ⟨b, C, dx, fs, c, e, neA (od := od) ha h (fun k q => nomatch q), r⟩
theorem Rc.lock : ∀ {p : List Stp} {u w : V}, H a = some (.dK kvs) → Rc K mg H u p w → Rc K mg (upd H a (.frz od (.dK kvs))) u p w
  | [], _, _, _, h => h
  | s :: p, u, w, ha, ⟨x, h1, h2⟩ => ⟨x, h1.lock ha, Rc.lock ha h2⟩
end
def keyT : Key → D
  | .inl i => .int i
  | .inr z => .str z
theorem keyT_rep {K : PySem.W.Frag} {mg : Str → Option Value} {H : Hp} {Y : Addr → Prop} (k : Key) : Rep K mg H Y (kV k) (keyT k) [] := by
  cases k
  · exact .int
  · exact .str
theorem yields_key {X : Cx} {Hb : Hp} {a : Addr} {od : Obj} {kvs : List (Key × V)} : Yields X (pin Hb a (.frz od (.dK kvs))) (Itk a od kvs) ((kvs.map (·.1)).map keyT) [] := by
  intro Z H P i s
  have ha := s.pinned
  refine ⟨fun hi => ⟨⟨ha, by simpa using hi⟩, fun x H' y => ?_⟩, fun hi => ⟨ha, by simpa using hi⟩⟩
  obtain ⟨rfl, k, v, hk, rfl⟩ := y
  refine ⟨keyT k, ?_, s.put fun _ => keyT_rep k⟩
  rw [List.getElem?_map, List.getElem?_map, hk]
  rfl
/-- the keys of the dict at a place -/
def keysAt (i : Nat) (mp : MP) : MI := fun δ => match mPath i mp δ with
  | some (.dct _ ks _, δ1) => some (ks.map keyT, δ1)
  | _ => none
section
variable {X : Cx} {P : Nat → Bool} {tg iter elt : Expr} {ifs : List Expr} {body : List Stmt} {t : MG} {b : MS} {is : List Nat} {pos : Pos} {i : Nat} {mp : MP}
/-- the walk over a locked dict -/
theorem keys_wI {Z : Addr → Prop} {Hb H : Hp} {σ : L2.St} {δ δ1 : Env} {L : PL} {a : Addr} {od : Obj} {kvs : List (Key × V)} {v : V} {p : List Stp} (ho : IP X iter i mp)
    (s : Sq X Z (pin Hb a (.frz od (.dK kvs))) H σ δ L) (s1 : Sq X Z (pin Hb a (.frz od (.dK kvs))) H σ δ1 L) (e1 : mp δ = some p) (hv : σ[i]? = some (some v)) (rc : Rc X.K X.mg H v p (.ref a)) (R : It → Hp → Prop)
    (q : ∀ J H' LI, Yields X (pin Hb a (.frz od (.dK kvs))) J ((kvs.map (·.1)).map keyT) LI → Sq X Z (pin Hb a (.frz od (.dK kvs))) H' σ δ1 (LI ++ L) → R J H') : wI X tg iter σ H R := by
  refine wI_of (pi_keys pe_w) (ho s e1 hv rc _ fun H1 g1 => ?_)
  have s2 : Sq X Z (pin Hb a (.frz od (.dK kvs))) H1 σ δ1 L := ⟨s1.sp.grow g1, s1.dom⟩
  exact ⟨a, od, rfl, .inl ⟨kvs, s2.sp.pinned, q _ _ [] yields_key s2⟩⟩
theorem walk_fz : ∀ {p : List Stp} {d t d' : D}, walk d p = some (t, d') → isFz t = true := by
  intro p
  induction p with
  | nil =>
    intro d t d' e
    unfold walk at e
    split at e
    · rename_i h; cases e; exact h
    · cases e; exact isFz_fz d
  | cons st p ih =>
    intro d t d' e
    unfold walk at e
    split at e
    · split at e
      · split at e
        · split at e
          · rename_i e2
            cases e
            exact ih e2
          · cases e
        · split at e
          · split at e
            · rename_i e2
              cases e
              exact ih e2
            · cases e
          · cases e
      · cases e
    · cases e
/-- the dict at a place: found, frozen -/
theorem keysAt_of {δ δ1 : Env} {ds : List D} (e : keysAt i mp δ = some (ds, δ1)) : ∃ d0 p d' ks vs, δ[i]? = some (some d0) ∧ mp δ = some p ∧ walk d0 p = some (.dct false ks vs, d') ∧ δ1 = δ.set i (some d') ∧ ds = ks.map keyT := by
  unfold keysAt at e
  split at e
  · rename_i o ks vs δ2 e1
    cases e
    unfold mPath at e1
    split at e1
    · rename_i d0 hd
      split at e1
      · rename_i p e2
        split at e1
        · rename_i t d' e3
          cases e1
          have hz := walk_fz e3
          have : o = false := by
            simp only [isFz, Bool.and_eq_true, Bool.not_eq_true'] at hz
            exact hz.1
          subst this
          exact ⟨d0, p, d', ks, vs, hd, e2, e3, rfl, rfl⟩
        · cases e1
      · cases e1
    · cases e1
  · cases e
theorem Sp.dctF {K : PySem.W.Frag} {mg : Str → Option Value} {H Hb : Hp} {Z : Addr → Prop} {P : PL} {w : V} {ks : List Key} {vs : List D} (s : Sp K mg Z Hb H ((w, .dct false ks vs) :: P)) : ∃ a kvs, w = .ref a ∧ Rd H a (.dK kvs) ∧ kvs.map (·.1) = ks := by
  obtain ⟨Y, F, r⟩ := s.head
  cases r with
  | dctF h z e t => exact ⟨_, _, rfl, h, e.1⟩
theorem Fin.unlock {Z : Addr → Prop} {Hb H : Hp} {σ : L2.St} {L P0 : PL} {Dn : Ends} {fl : Fl} {a : Addr} {od : Obj} {kvs : List (Key × V)} (s0 : Sp X.K X.mg Z Hb H P0) (ha : H a = some (.dK kvs)) (f : Fin X P Z Hb σ L Dn fl) :
    Fin X P Z (pin Hb a (.frz od (.dK kvs))) σ L ⟨fun σ' H' => H' a = some (.frz od (.dK kvs)) ∧ Dn.nx σ' (upd H' a (.dK kvs)), fun v H' => H' a = some (.frz od (.dK kvs)) ∧ Dn.rt v (upd H' a (.dK kvs)), fun σ' H' => H' a = some (.frz od (.dK kvs)) ∧ Dn.bk σ' (upd H' a (.dK kvs)), fun σ' H' => H' a = some (.frz od (.dK kvs)) ∧ Dn.ct σ' (upd H' a (.dK kvs))⟩ fl := by
  cases fl with
  | nx δ' => exact fun σ' H' s' sm => ⟨s'.sp.pinned, f σ' _ ⟨s0.unlock ha s'.sp, s'.dom⟩ sm⟩
  | bk δ' => exact fun σ' H' s' sm => ⟨s'.sp.pinned, f σ' _ ⟨s0.unlock ha s'.sp, s'.dom⟩ sm⟩
  | ct δ' => exact fun σ' H' s' sm => ⟨s'.sp.pinned, f σ' _ ⟨s0.unlock ha s'.sp, s'.dom⟩ sm⟩
  | rt d δ' => exact fun v σ' H' s' sm => ⟨Sp.pinned s'.sp, f v σ' _ ⟨s0.unlock ha s'.sp, s'.dom⟩ sm⟩
theorem Fin.unpin {Z : Addr → Prop} {Hb H : Hp} {σ : L2.St} {L P0 : PL} {Dn : Ends} {fl : Fl} {a : Addr} {od : Obj} {kvs : List (Key × V)} (s0 : Sp X.K X.mg Z Hb H P0) (ha : H a = some (.frz od (.dK kvs))) (f : Fin X P Z Hb σ L Dn fl) :
    Fin X P Z (pin Hb a (.frz od (.dK kvs))) σ L Dn fl := by
  cases fl with
  | nx δ' => exact fun σ' H' s' sm => f σ' _ ⟨s0.unpin ha s'.sp, s'.dom⟩ sm
  | bk δ' => exact fun σ' H' s' sm => f σ' _ ⟨s0.unpin ha s'.sp, s'.dom⟩ sm
  | ct δ' => exact fun σ' H' s' sm => f σ' _ ⟨s0.unpin ha s'.sp, s'.dom⟩ sm
  | rt d δ' => exact fun v σ' H' s' sm => f v σ' _ ⟨s0.unpin ha s'.sp, s'.dom⟩ sm
theorem is_forK (hpo : PassesOwn (model X.prog X.w) X.A X.env X.xe) (hc : X.calm = true) (ho : IP X iter i mp) (hm : ∀ δ δ', mp δ = mp δ') (ht : IGt X is tg t) (hb : ISs X P body b) (hP : ∀ i ∈ is, P i = false) (hs : ∀ x, foldedSetIterable iter X.env x = pure x) :
    IS X P (.For tg iter body [] pos) (sFor (keysAt i mp) t b) := by
  intro Z Hb H σ δ L fl s e Dn f
  unfold sFor at e
  split at e
  · rename_i ds δ1 e1
    obtain ⟨d0, p, d', ks, vs, hd, e2, e3, rfl, rfl⟩ := keysAt_of e1
    obtain ⟨v, hv⟩ := s.dom.2 i d0 hd
    obtain ⟨w, rc, s1⟩ := (s.out hv hd).walk e3
    obtain ⟨a, kvs, rfl, rd, rfl⟩ := s1.dctF
    rw [hm δ (δ.set i (some d'))] at e2
    have back : ∀ {Hb' H' : Hp} {D0 : D}, Sp X.K X.mg Z Hb' H' ((.ref a, D0) :: (v, d') :: (L ++ prs σ (δ.set i none))) → Sq X Z Hb' H' σ (δ.set i (some d')) L := fun s2 => Sq.back (L' := L) s.dom hv hd s2.drop
    rcases rd with ha | ⟨od, ha⟩
    · refine wS_of (ps_lock ps_w) ⟨a, .dK kvs, ha, trivial, fun od => ?_⟩
      have s3 := back (s1.lock (od := od) ha)
      exact for_core hpo hc ht hb hP hs (fun R q => keys_wI ho s3 s3 e2 hv (rc.lock ha) R q) e _ (f.unlock s1 ha)
    · have s3 := back (s1.pin1 ha)
      exact for_core hpo hc ht hb hP hs (fun R q => keys_wI ho s3 s3 e2 hv rc R q) e _ (f.unpin s1 ha)
  · cases e
end
section
variable {X : Cx} {elt tg iter : Expr} {ifs : List Expr} {scope : Scope} {own : List (Str × Nat)} {pos : Pos} {t : MG} {c : MT} {m : ME} {is : List Nat} {i : Nat} {mp : MP}
theorem lcK_run (ho : IP X iter i mp) (hm : ∀ δ δ', mp δ = mp δ') (ht : ∀ s H C cl fp, IGt (bX X scope s H C cl fp) is tg t) (hc : ∀ s H C cl fp, ITs (bX X scope s H C cl fp) ifs c) (he : ∀ s H C cl fp, IG (bX X scope s H C cl fp) elt m)
    {vs : List Nat} (hsub : ∀ i ∈ is, i ∈ vs) {Z : Addr → Prop} {Hb H : Hp} {σ : L2.St} {δ δ' : Env} {L : PL} {d : D} (s : Sq X Z Hb H σ δ L) (e : mLc (keysAt i mp) vs t c m δ = some (d, δ')) :
    ∃ a kvs, (H a = some (.dK kvs) ∧ ∀ od (Q : VK), (∀ v H', Sq X Z Hb (upd H' a (.dK kvs)) σ δ' ((v, d) :: L) → H' a = some (.frz od (.dK kvs)) → Q v H') → tLc (wI X tg iter) (fun v σ H Q => ∀ s H0 C cl fp, wG (bX X scope s H0 C cl fp) tg v σ H Q) (fun σ H Q => ∀ s H0 C cl fp, wTs (bX X scope s H0 C cl fp) ifs σ H Q) (fun σ H Q => ∀ s H0 C cl fp, wE (bX X scope s H0 C cl fp) elt σ H Q) vs σ (upd H a (.frz od (.dK kvs))) Q) ∨
      ((∃ od, H a = some (.frz od (.dK kvs))) ∧ ∀ (Q : VK), (∀ v H', Sq X Z Hb H' σ δ' ((v, d) :: L) → Q v H') → tLc (wI X tg iter) (fun v σ H Q => ∀ s H0 C cl fp, wG (bX X scope s H0 C cl fp) tg v σ H Q) (fun σ H Q => ∀ s H0 C cl fp, wTs (bX X scope s H0 C cl fp) ifs σ H Q) (fun σ H Q => ∀ s H0 C cl fp, wE (bX X scope s H0 C cl fp) elt σ H Q) vs σ H Q) := by
  unfold mLc at e
  split at e
  · rename_i ds δ1 e1
    split at e
    · rename_i hz
      split at e
      · rename_i accF δ2 e4
        cases e
        obtain ⟨d0, p, d', ks, ws, hd, e2, e3, rfl, rfl⟩ := keysAt_of e1
        obtain ⟨v, hv⟩ := s.dom.2 i d0 hd
        obtain ⟨w, rc, s1⟩ := (s.out hv hd).walk e3
        obtain ⟨a, kvs, rfl, rd, rfl⟩ := s1.dctF
        rw [hm δ (δ.set i (some d'))] at e2
        have back : ∀ {Hb' H' : Hp} {D0 : D}, Sp X.K X.mg Z Hb' H' ((.ref a, D0) :: (v, d') :: (L ++ prs σ (δ.set i none))) → Sq X Z Hb' H' σ (δ.set i (some d')) L := fun s2 => Sq.back (L' := L) s.dom hv hd s2.drop
        rcases rd with ha | ⟨od, ha⟩
        · refine ⟨a, kvs, .inl ⟨ha, fun od Q q => ?_⟩⟩
          have s3 := back (s1.lock (od := od) ha)
          exact lc_core ht hc he hsub hz (fun R q => keys_wI ho s3 s3 e2 hv (rc.lock ha) R q) e4 Q fun v H' s' => q v H' ⟨s1.unlock ha s'.sp, s'.dom⟩ s'.sp.pinned
        · refine ⟨a, kvs, .inr ⟨⟨od, ha⟩, fun Q q => ?_⟩⟩
          have s3 := back (s1.pin1 ha)
          exact lc_core ht hc he hsub hz (fun R q => keys_wI ho s3 s3 e2 hv rc R q) e4 Q fun v H' s' => q v H' ⟨s1.unpin ha s'.sp, s'.dom⟩
      · cases e
    · cases e
  · cases e
theorem ig_lcK (hcl : X.calm = true) (hN : X.N.Nodup) (ho : IP X iter i mp) (hm : ∀ δ δ', mp δ = mp δ') (ok : BlkOk X.N X.env.scope scope own) (ht : ∀ s H C cl fp, IGt (bX X scope s H C cl fp) is tg t) (hc : ∀ s H C cl fp, ITs (bX X scope s H C cl fp) ifs c) (he : ∀ s H C cl fp, IG (bX X scope s H C cl fp) elt m)
    (hsub : ∀ i ∈ is, i ∈ own.map (·.2)) (hs : ∀ x, foldedSetIterable iter X.env x = pure x) : IG X (.ListComp elt [⟨tg, iter, ifs, 0⟩] scope pos) (mLc (keysAt i mp) (own.map (·.2)) t c m) := by
  intro Z Hb H σ δ L d δ' s e Q q
  have rule := pe_lc (pos := pos) (wi := wI X tg iter) (g := fun v σ H Q => ∀ s H0 C cl fp, wG (bX X scope s H0 C cl fp) tg v σ H Q) (tt := fun σ H Q => ∀ s H0 C cl fp, wTs (bX X scope s H0 C cl fp) ifs σ H Q) (te := fun σ H Q => ∀ s H0 C cl fp, wE (bX X scope s H0 C cl fp) elt σ H Q) hcl hN pi_w ok (fun s H C cl fp => ⟨fun pins s' σ H' v u Q I r h => h s H C cl fp pins s' u I r⟩) (fun s H C cl fp => ⟨fun pins s' σ H' Q I h => h s H C cl fp pins s' I⟩) (fun s H C cl fp => ⟨fun pins s' σ H' Q I h => h s H C cl fp pins s' I⟩) hs
  rcases lcK_run ho hm ht hc he hsub s e with ⟨a, kvs, ⟨ha, run⟩ | ⟨⟨od, ha⟩, run⟩⟩
  · exact wE_of (pe_lock rule) ⟨a, .dK kvs, ha, trivial, fun od => run od _ fun v H' s' h' => ⟨h', q v _ s'⟩⟩
  · exact wE_of rule (run Q q)
theorem is_setLcK {P : Nat → Bool} {j : Nat} {y : Str} {py spos : Pos} (hP : P j = false) (hcl : X.calm = true) (hN : X.N.Nodup) (hy : X.N[j]? = some y) (hyl : X.env.scope.names.lookup y = some .local)
    (hsw : swapsWith (.ListComp elt [⟨tg, iter, ifs, 0⟩] scope pos) (some (.Name y py)) spos.line X.env = pure true) (ho : IP X iter i mp) (hm : ∀ δ δ', mp δ = mp δ') (ok : BlkOk X.N X.env.scope scope own) (ht : ∀ s H C cl fp, IGt (bX X scope s H C cl fp) is tg t) (hc : ∀ s H C cl fp, ITs (bX X scope s H C cl fp) ifs c) (he : ∀ s H C cl fp, IG (bX X scope s H C cl fp) elt m)
    (hsub : ∀ i ∈ is, i ∈ own.map (·.2)) (hs : ∀ x, foldedSetIterable iter X.env x = pure x) : IS X P (.Assign [.Name y py] (.ListComp elt [⟨tg, iter, ifs, 0⟩] scope pos) spos) (sSet j (mLc (keysAt i mp) (own.map (·.2)) t c m)) := by
  intro Z Hb H σ δ L fl s e Dn f
  unfold sSet at e
  split at e
  · rename_i d δ1 e1
    split at e
    · rename_i hl
      cases e
      have rule := ps_setLc (pos := pos) (spos := spos) (py := py) (wi := wI X tg iter) (g := fun v σ H Q => ∀ s H0 C cl fp, wG (bX X scope s H0 C cl fp) tg v σ H Q) (tt := fun σ H Q => ∀ s H0 C cl fp, wTs (bX X scope s H0 C cl fp) ifs σ H Q) (te := fun σ H Q => ∀ s H0 C cl fp, wE (bX X scope s H0 C cl fp) elt σ H Q) hcl hN hy hyl hsw pi_w ok (fun s H C cl fp => ⟨fun pins s' σ H' v u Q I r h => h s H C cl fp pins s' u I r⟩) (fun s H C cl fp => ⟨fun pins s' σ H' Q I h => h s H C cl fp pins s' I⟩) (fun s H C cl fp => ⟨fun pins s' σ H' Q I h => h s H C cl fp pins s' I⟩) hs
      rcases lcK_run ho hm ht hc he hsub s e1 with ⟨a, kvs, ⟨ha, run⟩ | ⟨⟨od, ha⟩, run⟩⟩
      · exact wS_of (ps_lock rule) ⟨a, .dK kvs, ha, trivial, fun od => run od _ fun v H' s' h' => ⟨h', f _ _ (s'.store hl) (.set hP _)⟩⟩
      · exact wS_of rule (run _ fun v H' s' => f _ _ (s'.store hl) (.set hP _))
    · cases e
  · cases e
end
end DL
set_option Elab.async false
set_option linter.all false
set_option maxRecDepth 100000
set_option maxHeartbeats 4000001
namespace DL
open PySem.Spec PySem L2 PyProof.Rows
def kindD : D → Bool
  | .tup _ => false
  | _ => true
def seqD : D → Option (List D)
  | .lst _ ds => some ds
  | .tup ds => some ds
  | .scr ds => some ds
  | _ => none
theorem seqD_fz {d : D} {ds : List D} (e : seqD d = some ds) : seqD (fz d) = some (fzs ds) := by
  cases d <;> cases e <;> rfl
section
variable {K : PySem.W.Frag} {mg : Str → Option Value} {H Hb : Hp} {Z : Addr → Prop} {P : PL} {v : V} {d : D} {ds : List D}
theorem Sp.seq1 (s : Sp K mg Z Hb H ((v, d) :: P)) (hf : isFz d = true) (e : seqD d = some ds) : ∃ a xs, v = .ref a ∧ SqK (kindD d) K H a xs ∧ xs.length = ds.length ∧ isFzs ds = true ∧
    ∀ (i : Nat) (w : V) (dd : D), (∀ ys : List V, SqK (kindD d) K H a ys → ys[i]? = some w) → ds[i]? = some dd → Sp K mg Z Hb H ((w, dd) :: (v, d) :: P) := by
  obtain ⟨Y, F, q⟩ := s.head
  cases d with
  | lst o es =>
    cases e
    have hf' : o = false ∧ isFzs ds = true := by simpa [isFz] using hf
    obtain ⟨rfl, hz⟩ := hf'
    cases q with
    | @lstF a vs _ h z t =>
      refine ⟨a, vs, rfl, SqL.of h, t.len, hz, fun i w dd hw hd => s.part hf fun Y' r' => ?_⟩
      cases r' with
      | @lstF _ vs' _ h' z' t' =>
        obtain ⟨u, e1, e2⟩ := Reps.get t' (i := i) hd
        rw [hw vs' (SqL.of h')] at e1
        cases e1
        exact e2
  | tup es =>
    cases e
    have hz : isFzs ds = true := hf
    cases q with
    | @tup a vs _ _ h t =>
      refine ⟨a, vs, rfl, h, t.len, hz, fun i w dd hw hd => s.part hf fun Y' r' => ?_⟩
      cases r' with
      | @tup _ vs' _ _ h' t' =>
        obtain ⟨u, e1, e2⟩ := Reps.get t' (i := i) hd
        rw [hw vs' h'] at e1
        cases e1
        exact e2
  | scr es =>
    cases e
    have hz : isFzs ds = true := hf
    cases q with
    | @scr a vs _ h t =>
      refine ⟨a, vs, rfl, h.sq, t.len, hz, fun i w dd hw hd => s.part hf fun Y' r' => ?_⟩
      cases r' with
      | @scr _ vs' _ h' t' =>
        obtain ⟨u, e1, e2⟩ := Reps.get t' (i := i) hd
        rw [hw vs' h'.sq] at e1
        cases e1
        exact e2
  | _ => cases e
end
theorem yields_enumK {X : Cx} {Hb : Hp} {a : Addr} {d : D} {ds : List D} (hf : isFz d = true) (e : seqD d = some ds) : Yields X Hb (IteK (kindD d) ds.length X.K a) (enumF 0 ds) [(.ref a, d)] := by
  intro Z H P i s
  have s0 : Sp X.K X.mg Z Hb H ((.ref a, d) :: P) := s
  obtain ⟨a', xs, ea, hx, hl, hz, at_⟩ := s0.seq1 hf e
  cases ea
  rw [enum_len]
  refine ⟨fun hi => ⟨⟨xs, xs[i]'(by omega), hx, hl, by simp [hl, hi]⟩, fun x H' y => ?_⟩, fun hi => ⟨xs, hx, hl, hi⟩⟩
  obtain ⟨T, w, rfl, hT, rfl, hw⟩ := y
  obtain ⟨dd, hd⟩ : ∃ dd, ds[i]? = some dd := ⟨ds[i], by simp [hi]⟩
  refine ⟨.tup [.int (i : Int), dd], ?_, ?_⟩
  · have h := enum_get (k := 0) hd
    rw [Nat.zero_add] at h
    exact h
  · have s1 := at_ i w dd hw hd
    have s2 : Sp X.K X.mg Z Hb H ([V.int (i : Nat), w].zip [D.int (i : Int), dd] ++ ((.ref a, d) :: P)) := s1.put fun _ => .int
    exact s2.newT rfl hT
def iEnum2 (r : ML) : MI := fun δ => match r δ with
  | some ([d], δ1) => match seqD d with
    | some ds => some (enumF 0 (fzs ds), δ1)
    | none => none
  | _ => none
theorem ii_enum2 {X : Cx} {e : Expr} {r : ML} {p pos tpos : Pos} {elts : List Expr} {kk : Nat} (hg : Gl X "enumerate") (hm : X.mg "enumerate" = none) (ha : IL X [e] r) (hs : starEach [e] X.env = [(false, eval e X.env)]) : II X (.Tuple elts kk tpos) (.Call (.Name "enumerate" p) [e] [] pos) (iEnum2 r) := by
  intro Z Hb H σ δ L ds δ' s e' R q
  unfold iEnum2 at e'
  split at e'
  · rename_i d δ1 e1
    split at e'
    · rename_i es e2
      cases e'
      refine wI_of (pi_enumK hg hm pa_w hs) (ha s e1 _ fun vs H1 hl s1 => ?_)
      match vs, hl with
      | [v], _ =>
        have s2 : Sp X.K X.mg Z Hb H1 ((v, d) :: (L ++ prs σ δ')) := s1.sp
        have s3 := s2.freeze
        obtain ⟨a, xs, rfl, hx, hl, hz, _⟩ := s3.seq1 (isFz_fz d) (seqD_fz e2)
        refine ⟨kindD (fz d), a, xs, rfl, hx, ?_⟩
        rw [hl]
        exact q _ _ [(.ref a, fz d)] (yields_enumK (isFz_fz d) (seqD_fz e2)) ⟨s3, s1.dom⟩
    · cases e'
  · cases e'
end DL
namespace DL
open PySem.Spec PySem L2 PyProof.Rows
end DL
set_option Elab.async false
set_option linter.all false
set_option maxRecDepth 100000
set_option maxHeartbeats 4000001
namespace DL
open PySem.Spec PySem L2 PyProof.Rows
end DL
set_option Elab.async false
set_option linter.all false
set_option maxRecDepth 100000
set_option maxHeartbeats 4000001
namespace DL
open PySem.Spec PySem L2 PyProof.Rows
section
variable {K : PySem.W.Frag} {mg : Str → Option Value} {c f : Str} {cs : List Str}
theorem gl_cls {a : Addr} (h : mg c = some (.ref a)) : GlD K mg c (.glo c) := ⟨.ref a, .ref a, h, rfl, fun _ _ => .glo h⟩
end
def iAlt (a b : MI) : MI := fun δ => match a δ with
  | some r => some r
  | none => b δ
section
variable {X : Cx} {x : Str} {p pos : Pos} {e : Expr} {es : List Expr} {as : List AS} {k : Nat} {ps : List Str} {m : MF} {dd : List D}
theorem x_enum2 {r : ML} {tpos : Pos} {elts : List Expr} {kk : Nat} (hm : X.mg "enumerate" = none) (ha : IL X [e] r) (hg : Gl X "enumerate" := by rfl) (hs : starEach [e] X.env = [(false, eval e X.env)] := by rfl) : II X (.Tuple elts kk tpos) (.Call (.Name "enumerate" p) [e] [] pos) (iEnum2 r) := ii_enum2 hg hm ha hs
end
section
variable {X : Cx} {P : Nat → Bool} {tg iter elt : Expr} {ifs : List Expr} {body : List Stmt} {mi : MI} {t : MG} {b : MS} {c : MT} {m : ME} {is : List Nat} {pos : Pos} {i : Nat} {mp : MP} {scope : Scope} {own : List (Str × Nat)}
/-- a list, or else the dict at a place -/
theorem x_forA (hpo : PassesOwn (model X.prog X.w) X.A X.env X.xe) (hi : II X tg iter mi) (ho : IP X iter i mp) (ht : IGt X is tg t) (hb : ISs X P body b) (hm : ∀ δ δ', mp δ = mp δ' := by intro _ _; rfl) (hc : X.calm = true := by rfl) (hP : ∀ i ∈ is, P i = false := by decide) (hs : ∀ x, foldedSetIterable iter X.env x = pure x := by intro _; rfl) :
    IS X P (.For tg iter body [] pos) (sFor (iAlt mi (keysAt i mp)) t b) := by
  intro Z Hb H σ δ L fl s e Dn f
  cases h : mi δ with
  | some r => exact is_for hpo hc hi ht hb hP hs s (by simpa [sFor, iAlt, h] using e) Dn f
  | none => exact is_forK hpo hc ho hm ht hb hP hs s (by simpa [sFor, iAlt, h] using e) Dn f
theorem x_lcompA (nd : X.N.Nodup) (hi : II X tg iter mi) (ho : IP X iter i mp) (ok : BlkOk X.N X.env.scope scope own) (ht : ∀ s H C cl fp, IGt (bX X scope s H C cl fp) is tg t) (hc : ∀ s H C cl fp, ITs (bX X scope s H C cl fp) ifs c) (he : ∀ s H C cl fp, IG (bX X scope s H C cl fp) elt m)
    (hm : ∀ δ δ', mp δ = mp δ' := by intro _ _; rfl) (hcl : X.calm = true := by rfl) (hsub : ∀ i ∈ is, i ∈ own.map (·.2) := by decide) (hs : ∀ x, foldedSetIterable iter X.env x = pure x := by intro _; rfl) : IG X (.ListComp elt [⟨tg, iter, ifs, 0⟩] scope pos) (mLc (iAlt mi (keysAt i mp)) (own.map (·.2)) t c m) := by
  intro Z Hb H σ δ L d δ' s e Q q
  cases h : mi δ with
  | some r => exact ig_lc hcl nd hi ok ht hc he hsub hs s (by simpa [mLc, iAlt, h] using e) Q q
  | none => exact ig_lcK hcl nd ho hm ok ht hc he hsub hs s (by simpa [mLc, iAlt, h] using e) Q q
theorem x_setLcA {j : Nat} {y : Str} {py spos : Pos} (nd : X.N.Nodup) (hi : II X tg iter mi) (ho : IP X iter i mp) (ok : BlkOk X.N X.env.scope scope own) (ht : ∀ s H C cl fp, IGt (bX X scope s H C cl fp) is tg t) (hc : ∀ s H C cl fp, ITs (bX X scope s H C cl fp) ifs c) (he : ∀ s H C cl fp, IG (bX X scope s H C cl fp) elt m)
    (hm : ∀ δ δ', mp δ = mp δ' := by intro _ _; rfl) (hP : P j = false := by rfl) (hcl : X.calm = true := by rfl) (hy : X.N[j]? = some y := by rfl) (hyl : X.env.scope.names.lookup y = some .local := by rfl) (hsw : swapsWith (.ListComp elt [⟨tg, iter, ifs, 0⟩] scope pos) (some (.Name y py)) spos.line X.env = pure true := by exact sw_true rfl rfl rfl (by decide))
    (hsub : ∀ i ∈ is, i ∈ own.map (·.2) := by decide) (hs : ∀ x, foldedSetIterable iter X.env x = pure x := by intro _; rfl) : IS X P (.Assign [.Name y py] (.ListComp elt [⟨tg, iter, ifs, 0⟩] scope pos) spos) (sSet j (mLc (iAlt mi (keysAt i mp)) (own.map (·.2)) t c m)) := by
  intro Z Hb H σ δ L fl s e Dn f
  cases h : mi δ with
  | some r => exact is_setLc hP hcl nd hy hyl hsw hi ok ht hc he hsub hs s (by simpa [sSet, mLc, iAlt, h] using e) Dn f
  | none => exact is_setLcK hP hcl nd hy hyl hsw ho hm ok ht hc he hsub hs s (by simpa [sSet, mLc, iAlt, h] using e) Dn f
variable {tg1 iter1 : Expr} {ifs1 : List Expr} {mi1 : MI} {t1 : MG} {c1 : MT} {is1 : List Nat}
end
def bodyOf : Stmt → List Stmt
  | .ClassDef _ _ _ body _ _ _ _ _ _ _ => body
  | _ => []
/-- given up: from here on nobody changes it -/
def mFz (a : ME) : ME := fun δ => match a δ with
  | some (d, δ1) => some (fz d, δ1)
  | none => none
theorem ig_fz {X : Cx} {e : Expr} {a : ME} (h : IG X e a) : IG X e (mFz a) := by
  intro Z Hb H σ δ L d δ' s e' Q q
  unfold mFz at e'
  split at e'
  · rename_i d1 δ1 e1
    cases e'
    exact h s e1 Q fun v H1 s1 => q v H1 ⟨Sp.freeze s1.sp, s1.dom⟩
  · cases e'
end DL
set_option Elab.async false
set_option linter.all false
set_option maxRecDepth 100000
set_option maxHeartbeats 4000001
namespace DL
open PySem.Spec PySem L2 PyProof.Rows
end DL
set_option Elab.async false
set_option linter.all false
set_option maxRecDepth 100000
set_option maxHeartbeats 4000001
namespace DL
open PySem.Spec PySem L2 PyProof.Rows
end DL
set_option Elab.async false
set_option linter.all false
set_option maxRecDepth 100000
set_option maxHeartbeats 4000001
namespace DL
open PySem.Spec PySem L2 PyProof.Rows
def TyAt (X : Cx) (T : String) (x : V) (H : Hp) : Prop := ∀ (pins : List (Addr × Obj)) (σ : L2.St) (s : Shared) (v : Value), Inv X pins σ H s → RelV x v → s.TypeIs v T ∧ ∀ a, v = .ref a → ∃ ob, s.heap.get? a = some ob ∧ ob.dict = none
end DL
set_option Elab.async false
set_option linter.all false
set_option maxRecDepth 100000
set_option maxHeartbeats 4000001
namespace DL
open PySem.Spec PySem L2 PyProof.Rows
end DL
set_option Elab.async false
set_option linter.all false
set_option maxRecDepth 100000
set_option maxHeartbeats 4000001
namespace DL
open PySem.Spec PySem L2 PyProof.Rows
theorem PlT.grow {H H' : Hp} {t : Addr} (h : PlT H t) (g : Grows H H') : PlT H' t := let ⟨o, xs, e, d⟩ := h; ⟨o, xs, g _ _ e, d⟩
section
variable {X : Cx} {P : Nat → Bool} {o e : Expr} {i : Nat} {m : MP} {v a : ME} {pos pos' p : Pos}
theorem PlT.ty {H : Hp} {t : Addr} (h : PlT H t) : TyAt X "tuple" (.ref t) H := by
  intro pins σ s u I r
  cases r
  obtain ⟨o, xs, e, d⟩ := h
  obtain ⟨h1, hz, its, r', o', h2, hc, n, hd⟩ := (show ObjOk X.prog X.w H s.heap t (.frz o (.tup xs)) from I.hok t _ e)
  rw [h1] at h2
  cases h2
  exact ⟨⟨o, h1, hc⟩, fun b eb => by cases eb; exact ⟨o, h1, d⟩⟩
end
end DL
set_option Elab.async false
set_option linter.all false
set_option maxRecDepth 100000
set_option maxHeartbeats 4000001
namespace DL
open PySem.Spec PySem L2 PyProof.Rows
end DL
set_option Elab.async false
set_option linter.all false
set_option maxRecDepth 100000
set_option maxHeartbeats 4000001
namespace DLZ
open PySem PySem.Calls PyProof.Rows PyProof.V PySem.Spec PySem.W
/-- a zip whose pair was handed out and is kept -/
abbrev ZipO (h : Heap) (z TI TO a : Addr) (f : Bool) : Prop := h.get? z = some { cls := .type "zip", data := .fields #[rawInt a, .bool f, .bool false, .ref TI, .ref TO] }
end DLZ
set_option Elab.async false
set_option linter.all false
set_option maxRecDepth 100000
set_option maxHeartbeats 4000001
namespace DLZ
open PySem PySem.Calls PyProof.Rows PyProof.V PySem.Spec PySem.W
def ZSt (h : Heap) (z TI TO i1 i2 S : Addr) (i : Nat) : Prop :=
  (IsZip h z TI TO .none ∧ ∃ x y, IsTupOf2 h TO x y) ∨ ∃ a f oa, ZipO h z TI TO a f ∧ h.get? a = some oa ∧ a ≠ z ∧ a ≠ S ∧ a ≠ i1 ∧ a ≠ i2
theorem ZSt.keep {h h' : Heap} {z TI TO i1 i2 S : Addr} {i j : Nat} (x : ZSt h z TI TO i1 i2 S i) (hk : ∀ b o, b ≠ S → h.get? b = some o → h'.get? b = some o) (hz : z ≠ S) (hT : TO ≠ S) : ZSt h' z TI TO i1 i2 S j := by
  rcases x with ⟨h1, x, y, h2⟩ | ⟨a, f, oa, h1, h2, h3, h4, h5, h6⟩
  · exact .inl ⟨hk _ _ hz h1, x, y, hk _ _ hT h2⟩
  · exact .inr ⟨a, f, oa, hk _ _ hz h1, hk _ _ h4 h2, h3, h4, h5, h6⟩
section
variable {prog : Program} {w : World} {A : Around} {s : Shared} {R : Result → Shared → Prop} {z TI TO i1 i2 S : Addr} {fp1 fp2 : List Addr} {n1 n2 : Nat} {P1 P2 : Nat → Value → Prop} {St1 St2 : Nat → Heap → Prop}
/-- the pairs that were made -/
structure ZG (P1 P2 : Nat → Value → Prop) (S : Addr) (h : Heap) (as : List Addr) : Prop where
  rise : as.Pairwise (· < ·)
  above : ∀ a ∈ as, S < a
  pairs : ∀ (j : Nat) (a : Addr), as[j]? = some a → ∃ x y, P1 j x ∧ P2 j y ∧ IsTupOf2 h a x y
namespace ZG
variable {h h' : Heap} {as : List Addr}
theorem lt (g : ZG P1 P2 S h as) : ∀ a ∈ as, a < h.objs.size := fun a m =>
  let ⟨j, e⟩ := List.getElem?_of_mem m
  let ⟨_, _, _, _, t⟩ := g.pairs j a e
  Heap.lt_size t
theorem keep (g : ZG P1 P2 S h as) (k : ∀ b o, S < b → h.get? b = some o → h'.get? b = some o) : ZG P1 P2 S h' as where
  rise := g.rise
  above := g.above
  pairs := fun j a e =>
    let ⟨x, y, p, q, t⟩ := g.pairs j a e
    ⟨x, y, p, q, k a _ (g.above a (List.mem_of_getElem? e)) t⟩
theorem snoc (g : ZG P1 P2 S h as) {n : Addr} {x y : Value} (sn : S < n) (lt : ∀ a ∈ as, a < n) (p : P1 as.length x) (q : P2 as.length y) (t : IsTupOf2 h n x y) : ZG P1 P2 S h (as ++ [n]) where
  rise := by simpa [List.pairwise_append, g.rise] using lt
  above := by
    intro a m
    simp only [List.mem_append, List.mem_singleton] at m
    exact m.elim (g.above a) fun e => e ▸ sn
  pairs := by
    intro j a e
    by_cases l : j < as.length
    · exact g.pairs j a (by rwa [List.getElem?_append_left l] at e)
    · rw [List.getElem?_append_right (Nat.le_of_not_lt l), List.getElem?_singleton] at e
      split at e
      · rename_i z
        injection e with e
        subst e
        obtain rfl : j = as.length := by omega
        exact ⟨x, y, p, q, t⟩
      · exact nomatch e
end ZG
/-- where the loop stands after i pairs: S, the list that grows; what lies below B is as it was in h₀ -/
structure Gather (P1 P2 : Nat → Value → Prop) (St1 St2 : Nat → Heap → Prop) (z TI TO i1 i2 S B : Addr) (h₀ h : Heap) (i : Nat) (c : Nat) (acc : Array Value) (as : List Addr) : Prop where
  zip : ZSt h z TI TO i1 i2 S i
  ti : IsTupOf2 h TI (.ref i1) (.ref i2)
  one : St1 i h
  two : St2 i h
  low : ∀ b o, b < B → h₀.get? b = some o → h.get? b = some o
  at_ : h.get? S = some { cls := .type "list", data := .seq acc c }
  accs : acc.toList = as.map Value.ref
  len : as.length = i
  made : ZG P1 P2 S h as
/-- the places of the zip's parts -/
structure Low (z TI TO i1 i2 S B : Addr) (fp1 fp2 : List Addr) : Prop where
  z : B ≤ z ∧ z < S
  ti : TI < S
  to : B ≤ TO ∧ TO < S
  i1 : B ≤ i1 ∧ i1 < S
  i2 : B ≤ i2 ∧ i2 < S
  f1 : S ∉ fp1
  f2 : S ∉ fp2
section
variable {h₀ h h' : Heap} {i c : Nat} {acc : Array Value} {as : List Addr} {B : Addr}
/-- what a turn leaves alone, for addresses on S's side and on B's -/
theorem Low.off (L : Low z TI TO i1 i2 S B fp1 fp2) {b : Addr} (hb : b < B ∨ S ≤ b) : b ≠ z ∧ b ≠ TO ∧ b ≠ i1 ∧ b ≠ i2 := by
  have ⟨⟨a1, a2⟩, _, ⟨b1, b2⟩, ⟨c1, c2⟩, ⟨d1, d2⟩, _, _⟩ := L
  refine ⟨?_, ?_, ?_, ?_⟩ <;> rintro rfl <;> rcases hb with hb | hb
  all_goals first
    | exact Nat.lt_irrefl _ (Nat.lt_of_lt_of_le hb (by assumption))
    | exact Nat.lt_irrefl _ (Nat.lt_of_lt_of_le (by assumption) hb)
theorem Gather.push (g : Gather P1 P2 St1 St2 z TI TO i1 i2 S B h₀ h i c acc as) (L : Low z TI TO i1 i2 S B fp1 fp2) (Z : ZipSep2 z TI TO i1 i2 fp1 fp2) (D1 : Draws prog w A i1 fp1 n1 P1 St1) (D2 : Draws prog w A i2 fp2 n2 P2 St2)
    {x y : Value} (p : P1 i x) (q : P2 i y) (zip : ZSt h' z TI TO i1 i2 S (i + 1)) (one : St1 (i + 1) h') (two : St2 (i + 1) h') (t : IsTupOf2 h' h.objs.size x y)
    (k : ∀ c o, c ≠ z → c ≠ TO → c ≠ i1 → c ≠ i2 → h.get? c = some o → h'.get? c = some o) :
    ∃ c', Gather P1 P2 St1 St2 z TI TO i1 i2 S B h₀ (h'.update S (Obj.mapSeq (·.push (Value.ref h.objs.size)))) (i + 1) c' (acc.push (Value.ref h.objs.size)) (as ++ [h.objs.size]) := by
  have sn : S < h.objs.size := Heap.lt_size g.at_
  have kk : ∀ b o, b < B ∨ S ≤ b → h.get? b = some o → h'.get? b = some o := fun b o hb e =>
    let ⟨q1, q2, q3, q4⟩ := L.off hb
    k b o q1 q2 q3 q4 e
  have up : ∀ b o, b ≠ S → h'.get? b = some o → (h'.update S (Obj.mapSeq (·.push (Value.ref h.objs.size)))).get? b = some o := fun b o ne e => by
    rw [Heap.get?_update_other _ _ ne.symm, e]
  have bS : B ≤ S := Nat.le_of_lt (Nat.lt_of_le_of_lt L.z.1 L.z.2)
  exact ⟨_, {
    zip := zip.keep up (Nat.ne_of_lt L.z.2) (Nat.ne_of_lt L.to.2)
    ti := up _ _ (Nat.ne_of_lt L.ti) (k TI _ Z.TIz Z.TITO Z.TIi1 Z.TIi2 g.ti)
    one := D1.frame _ _ _ one fun b m o => up b o fun e => L.f1 (e ▸ m)
    two := D2.frame _ _ _ two fun b m o => up b o fun e => L.f2 (e ▸ m)
    low := fun b o hb e => up b o (Nat.ne_of_lt (Nat.lt_of_lt_of_le hb bS)) (kk b o (.inl hb) (g.low b o hb e))
    at_ := Heap.get?_update_self _ (kk S _ (.inr (Nat.le_refl _)) g.at_) rfl
    accs := by simp [g.accs]
    len := by simp [g.len]
    made := (g.made.keep fun b o hb e => up b o (Nat.ne_of_gt hb) (kk b o (.inr (Nat.le_of_lt hb)) e)).snoc sn g.made.lt (g.len.symm ▸ p) (g.len.symm ▸ q) (up _ _ (Nat.ne_of_gt sn) t) }⟩
end
end
end DLZ
set_option Elab.async false
set_option linter.all false
set_option maxRecDepth 100000
set_option maxHeartbeats 4000001
namespace DL
open PySem PySem.Spec PyProof.Rows L2 DLZ
/-- the heap grew, and what was told of it stays told: what is told anew is to be shown, no more -/
theorem grown {X : Cx} {pins : List (Addr × Obj)} {σ : L2.St} {H H' : Hp} {s : Shared} {h' : Heap} {tk : Nat} (I : Inv X pins σ H s) (k : ∀ b o, s.heap.get? b = some o → h'.get? b = some o) (g : ∀ b o, H b = some o → H' b = some o)
    (f : ∀ b o, s.heap.get? b = some o → H b = none → H' b = none) (new : ∀ b o, H b = none → H' b = some o → ObjOk X.prog X.w H' h' b o) : Inv X pins σ H' { s with heap := h', toks := tk } := by
  apply I.un
  · exact {
      keep := fun b o e _ _ _ => k b o e
      slot := fun b o e _ _ _ => ⟨o.slots, k b o e⟩
      free := fun b o e n _ => f b o e n
      there := fun b o e _ => ⟨o, k b o e⟩
      tups := fun b _ => g b _
      frzs := fun b _ _ => g b _
      tbls := fun b ps e => ⟨#[], by simpa using g b _ e⟩ }
  · intro b o e
    cases m : H b with
    | none => exact new b o m e
    | some x =>
      obtain rfl : x = o := Option.some.inj ((g b x m).symm.trans e)
      exact (I.hok b x m).stay (fun d v _ => k d v) (fun d => g d _) (fun d xs => g d _)
end DL
set_option Elab.async false
set_option linter.all false
set_option maxRecDepth 100000
set_option maxHeartbeats 4000001
namespace DL
open PySem PySem.Spec PyProof.Rows L2 DLZ
end DL
set_option Elab.async false
set_option linter.all false
set_option maxRecDepth 100000
set_option maxHeartbeats 4000001
namespace DL
open PySem.Spec PySem L2 PyProof.Rows
end DL
set_option Elab.async false
set_option linter.all false
set_option maxRecDepth 100000
set_option maxHeartbeats 4000001
namespace DL
open PySem.Spec PySem L2 PyProof.Rows
theorem exV_ok {P : Program} {w : World} {H : Hp} {h : Heap} {a : Addr} {cls : Value} {d : Option Addr} {oe : Obj} {vs : Array Value} (e : h.get? a = some oe) (z : Zc cls d oe) (f : oe.data = .fields vs) : ObjOk P w H h a (ExV cls d a) := ⟨⟨oe, vs, e, z, f⟩, ⟨oe, e⟩, fun _ _ ⟨o, v, q, r⟩ k => ⟨o, v, k o q, r⟩⟩
theorem track {X : Cx} {pins : List (Addr × Obj)} {σ : L2.St} {H : Hp} {s : Shared} {a : Addr} {cls : Value} {d : Option Addr} {oe : Obj} {vs : Array Value} (I : Inv X pins σ H s) (e : s.heap.get? a = some oe) (z : Zc cls d oe) (f : oe.data = .fields vs) (hn : H a = none)
    (nL : a ≠ X.env.locals) (n0 : X.s_0.heap.get? a = none) (np : ∀ p ∈ X.pn ++ pins, p.1 ≠ a) : Inv X pins σ (upd H a (ExV cls d a)) s := by
  have ne : ∀ {b : Addr} {o : HO}, H b = some o → b ≠ a := fun {b o} q r => by rw [r, hn] at q; cases q
  refine ⟨I.ok, I.os, I.bare, ⟨I.base.keep, I.base.slot, fun b o q r x => ?_, I.base.there, fun b xs q => ?_, fun b o u q => ?_, fun b ps q => ?_⟩, I.loc, I.cell, ?_, fun x c q => ?_, fun p hp => ?_, ?_, I.len⟩
  · rw [upd_ne fun r => by rw [r, n0] at q; cases q]
    exact I.base.free b o q r x
  · have := I.base.tups b xs q
    rw [upd_ne (ne this)]; exact this
  · have := I.base.frzs b o u q
    rw [upd_ne (ne this)]; exact this
  · obtain ⟨more, this⟩ := I.base.tbls b ps q
    exact ⟨more, by rw [upd_ne (ne this)]; exact this⟩
  · rw [upd_ne fun r => nL r.symm]; exact I.free
  · rw [upd_ne fun r => ?_]
    · exact I.freeC x c q
    · obtain ⟨v, oc, ho, hd⟩ := I.cell x c q
      rw [r, e] at ho
      cases ho
      rw [f] at hd
      cases hd
  · obtain ⟨p1, p2, p3⟩ := I.pin p hp
    exact ⟨p1, by rw [upd_ne (np p hp)]; exact p2, p3⟩
  · exact I.hok.laidN (fun _ _ q => q) hn (exV_ok e z f)
/-- the wish of a clause whose exception is kept -/
def wKeep (K : PySem.W.Frag) (c : Value) (i : Nat) (ts : Addr → Value → Option Addr → TS) (Wout : WX) (D : Ends) : WX := fun cls d σ H =>
  ∃ b, PySem.W.exmOne K cls c = some b ∧ (b = true → ∀ a, H a = none → ts a cls d { nx := fun σ' H' => D.nx (σ'.set i none) (upd H' a (ExV cls d a)), rt := fun _ _ => False, bk := fun _ _ => False, ct := fun _ _ => False } (σ.set i (some (.ref a))) H) ∧
    (b = false → Wout cls d σ H)
section
variable {X : Cx} {x n : Str} {c : Value} {i : Nat} {body su : List Stmt} {st0 : Stmt} {q1 q2 q3 : Pos} {tb : WX → TS} {ts : Addr → Value → Option Addr → TS} {Wout : WX}
/-- where an exception stands that was caught: not a frame, not there at the start, no pin -/
theorem caught_apart {pins : List (Addr × Obj)} {σ : L2.St} {H : Hp} {sI s : Shared} {a : Addr} {B : Heap} {oe : Obj} {vs : Array Value} (hs : X.stack = X.env :: X.outer) (hf : X.env.frame = some X.env.locals) (J : Inv X pins σ H sI)
    (nb : ∀ b o, sI.heap.get? b = some o → b ∉ frs X.stack → B.get? b = some o) (bn : B.get? a = none) (ff : s.heap.FunFrames B (X.env :: X.outer)) (e : s.heap.get? a = some oe) (d : oe.data = .fields vs) : a ≠ X.env.locals ∧ a ∉ X.fs ∧ (X.ex = [] → X.s_0.heap.get? a = none) ∧ ∀ p ∈ X.pn ++ pins, p.1 ≠ a := by
  have away : a ∉ frs (X.env :: X.outer) := by
    intro m
    obtain ⟨_, o2, e2, no⟩ := ff.mem m
    rw [e] at e2
    cases e2
    exact no _ d
  have a1 : a ≠ X.env.locals := by
    intro z
    exact away (List.mem_filterMap.mpr ⟨X.env, List.mem_cons_self, by rw [hf, z]⟩)
  have a2 : a ∉ X.fs := by
    intro m
    obtain ⟨en, m1, m2⟩ := List.mem_filterMap.mp m
    exact away (List.mem_filterMap.mpr ⟨en, List.mem_cons_of_mem _ m1, m2⟩)
  have new : ∀ o, sI.heap.get? a ≠ some o := by
    intro o q
    have := nb a o q (by rw [hs]; exact away)
    rw [bn] at this
    cases this
  refine ⟨a1, a2, fun hx => ?_, fun p hp z => new _ (by rw [← z]; exact (J.pin p hp).1)⟩
  cases q : X.s_0.heap.get? a with
  | none => rfl
  | some o =>
    obtain ⟨o2, q2⟩ := J.base.there a o q (by rw [hx]; simp)
    exact absurd q2 (new o2)
theorem ps_try_keep {np : Pos} (hs : X.stack = X.env :: X.outer) (hf : X.env.frame = some X.env.locals) (hex : X.ex = []) (hN : X.N.Nodup) (hi : X.N[i]? = some n) (hln : X.env.kindOf n = some .local) (hc : Names X x c) (tk : Takes X Wout)
    (hb : ∀ (W : WX) (pn : List (Addr × Obj)) (xe : Value → Shared → Prop), Takes (X.tr pn xe) W → PassesOwn (model X.prog X.w) X.A X.env xe → PSs (X.tr pn xe) body (tb W))
    (hsu : ∀ (a : Addr) (oe : Obj) (cls : Value) (d : Option Addr) (pn : List (Addr × Obj)), Zc cls d oe → (∃ vs, oe.data = .fields vs) → PSs (X.suite a ((a, oe) :: pn)) (st0 :: su) (ts a cls d)) :
    PS X (.Try body [.ExceptHandler (some (.Name x np)) (some n) (st0 :: su) q1] [] [] q2) (fun D σ H => tb (wKeep X.K c i ts Wout D) D σ H) := by
  constructor
  intro pins s σ H D I h
  have ok := I.ok
  have fr2 : X.A.frames = some (X.env :: X.outer) := by rw [ok.frames, hs]
  refine wpAny_Try_except (wpAny_mono ((hb (wKeep X.K c i ts Wout D) (X.pn ++ pins) (fun e t1 => wpAny (model X.prog X.w) X.A (noteFrame e X.env) (fun _ t2 => wpAny (model X.prog X.w) X.A (setFlight e none) (fun _ t3 => wpAny (model X.prog X.w) X.A (handleBy e X.env [.ExceptHandler (some (.Name x np)) (some n) (st0 :: su) q1]) (SP X pins D) X.xe t3) X.xe t2) X.xe t1) (fun u t1 ex => ?_) PassesOwn.looking).run [] s σ H D (I.toTry _) h) (fun f t1 r => ?_) (fun _ _ z => z))
  · obtain ⟨a, B, sI, pq, σ1, H1, cls, d, rfl, J0, nb, up, sky, na, os, ag, b, k1, ky, kn⟩ := ex
    have J : Inv X pins σ1 H1 sI := J0.ofTry ok
    have sky2 : Sky B (X.env :: X.outer) a (Zc cls d) X.env.locals t1.heap := by rw [← hs]; exact sky
    have nb2 : ∀ b o, sI.heap.get? b = some o → b ∉ frs X.stack → B.get? b = some o := nb
    show wpAny (model X.prog X.w) X.A (noteFrame (.ref a) X.env) _ _ _
    refine Sky.land Zc.steady fr2 hf sky2 fun h3 fl up3 => ?_
    obtain ⟨oe3, vs3, he3, hz3, hd3⟩ := fl.there
    obtain ⟨a1, a2, _, _⟩ := caught_apart (s := { t1 with heap := h3 }) hs hf J nb2 fl.2.1 fl.2.2.1 he3 hd3
    have J3 : Inv X pins σ1 H1 { t1 with heap := h3 } := J.landed nb2 fl.1 (up.trans up3) os ag
    have S3 := J3.suite he3 hd3 na a1 a2
    refine wpAny_handleBy_cons (codeAny_handlers_test ?_) (by intro q; cases q)
    have look : PySem.W.Looks (model X.prog X.w) h3 (typeOf (.ref a)) cls := fun A Q E s k q => wpAny_typeOf_ref (k _ _ he3) (by rw [hz3.1]; exact q)
    have named : ∀ {Q : Value → Shared → Prop} {E : Value → Shared → Prop}, Q c { t1 with heap := h3 } → wpAny (model X.prog X.w) (X.A.mark (some (.ref a))) (eval (.Name x np) X.env) Q E { t1 with heap := h3 } := by
      intro Q E q
      obtain ⟨g1, g2, m | ⟨m, v, w⟩⟩ := hc
      · exact ld_glob (X := X.suite a ((a, oe3) :: (X.pn ++ pins))) S3 g1 m q g2
      · exact ld_blt (X := X.suite a ((a, oe3) :: (X.pn ++ pins))) S3 g1 m v q w g2
    have LM := PySem.W.exm_one (M := model X.prog X.w) J3.kIn look k1
    refine named (LM.here ?_)
    cases b with
    | false =>
      show wpAny _ X.A (handleBy (.ref a) X.env []) _ _ _
      refine wpAny_handleBy_nil ?_
      obtain ⟨_, _, _, oe, vs, T, oT, tl, he, hz, hd, h1, _⟩ := id fl
      unfold PySem.passOn
      refine wpAny_bind (wpAny_field he hd h1 ?_)
      rw [if_neg (by simp)]
      have out : wpAny (model X.prog X.w) X.A (setFlight (.ref a) X.env.frame) (fun _ s4 => wpAny (model X.prog X.w) X.A (throw (.ref a) : Sem Flow) (SP X pins D) X.xe s4) X.xe { t1 with heap := h3 } := by
        rw [hf]
        refine HandSPX.setFlight_upZ fl fun h4 hh up4 => wpAny_throw (tk _ _ ⟨a, B, sI, pins, σ1, H1, cls, d, rfl, J, nb2, (up.trans up3).trans up4, .inr (.inr ?_), na, os, ag, kn rfl⟩)
        rw [hs]
        exact hh
      first
        | exact wpAny_bind (wpAny_pure (wpAny_bind out))
        | exact wpAny_bind out
    | true =>
      refine codeAny_handlers_suite_as (HandSPX.lands_againZ fl fun h4 fl4 up4 => ?_)
      obtain ⟨oe4, vs4, he4, hz4, hd4⟩ := fl4.there
      have J4 : Inv X pins σ1 H1 { t1 with heap := h4 } := J.landed nb2 fl4.1 ((up.trans up3).trans up4) os ag
      obtain ⟨_, _, b3, b4⟩ := caught_apart (s := { t1 with heap := h4 }) hs hf J nb2 fl4.2.1 fl4.2.2.1 he4 hd4
      refine store_ok (X := X.suite a ((a, oe4) :: (X.pn ++ pins))) (v := .ref a) (J4.suite he4 hd4 na a1 a2) hN hi (.inl hln) rfl (fun s5 S5 => ?_) (.inr hln)
      refine wpAny_mono ((hsu a oe4 cls d (X.pn ++ pins) hz4 ⟨_, hd4⟩).run [] s5 _ H1 _ S5 (ky rfl a na)) (fun f s6 r => ?_) (fun _ _ z => z.elim)
      cases f with
      | next =>
        obtain ⟨σ6, H6, S6, q6⟩ := r
        have pa := S6.pin (a, oe4) (by simp)
        have T6 : Inv X pins σ6 (upd H6 a (ExV cls d a)) s6 := track (S6.unsuite ok) pa.1 hz4 hd4 pa.2.1 a1 (b3 hex) b4
        exact gone_ok T6 hN hi hln fun s7 J7 => ⟨_, _, J7, q6⟩
      | brk => obtain ⟨_, _, _, z⟩ := r; exact z.elim
      | cont => obtain ⟨_, _, _, z⟩ := r; exact z.elim
      | ret u => obtain ⟨_, _, _, _, _, z⟩ := r; exact z.elim
  · cases f with
    | next => obtain ⟨σ', H', J', q⟩ := r; exact wpAny_execs_nil ⟨σ', H', J'.ofTry ok, q⟩
    | brk => obtain ⟨σ', H', J', q⟩ := r; exact ⟨σ', H', J'.ofTry ok, q⟩
    | cont => obtain ⟨σ', H', J', q⟩ := r; exact ⟨σ', H', J'.ofTry ok, q⟩
    | ret u => obtain ⟨v, σ', H', J', rr, q⟩ := r; exact ⟨v, σ', H', J'.ofTry ok, rr, q⟩
end
end DL
set_option Elab.async false
set_option linter.all false
set_option maxRecDepth 100000
set_option maxHeartbeats 4000001
namespace DL
open PySem.Spec PySem L2 PyProof.Rows LamX
/-- what it makes of a lambda's reading: None, or the exception, kept -/
def TTc (K : PySem.W.Frag) (CS : Addr) : (XK → Hp → VK → Prop) → Hp → VK → Prop := fun tl H Q =>
  tl (fun cls d H' => ∃ b, PySem.W.exmOne K cls (.ref CS) = some b ∧ (b = true → ∀ a, H' a = none → Q (.ref a) (upd H' a (ExV cls d a))) ∧ (b = false → False)) H fun _ H' => ∃ v, (some (some V.non) : Option (Option V)) = some (some v) ∧ Q v H'
theorem caught_gives {X : Cx} {x a r n e q : Str} {sg : Scope} {g CS : Addr} {cdg : Value} {j : Nat} {p0 p1 p2 p3 p4 p5 p6 p7 p8 p9 p10 p11 p12 p13 : Pos} (hge : sg.names.lookup e = some .globalImplicit) (hme : X.mg e = some (.ref CS)) (hde : (e == ("__debug__" : Str)) = false)
    (hr : sg.names.lookup r = some .local) (hn : sg.names.lookup n = some .local) (hnd : [a, r, n].Nodup) (hr1 : (r == ("__debug__" : Str)) = false) (hr2 : (r == ("__classdict__" : Str)) = false) (hn1 : (n == ("__debug__" : Str)) = false) (hn2 : (n == ("__classdict__" : Str)) = false) :
    GivesTo X [a, r, n] x sg g cdg [.Assign [.Name r p0] (.Constant .none j p1) p2, .Try [.Expr (.Call (.Name a p3) [] [] p4) p5] [.ExceptHandler (some (.Name e p6)) (some n) [.Assign [.Name r p7] (.Name n p8) p9] p10] [] [] p11, .Return (some (.Name r p12)) p13] a q (TTc X.K CS) := by
  intro f c' s H Q tl act hc h
  have hgl : Gl (cxOf C8.CX0 X.prog X.w X.K X.mg X.base [a, r, n] x sg g cdg X.A X.stack s H C8.E0).nox e := hge
  refine ⟨_, pss_cons (ps_set (X := (cxOf C8.CX0 X.prog X.w X.K X.mg X.base [a, r, n] x sg g cdg X.A X.stack s H C8.E0).nox) (i := 1) hnd rfl (.inl hr) pe_non (hf := .inr hr)) (pss_cons (ps_try_keep (X := (cxOf C8.CX0 X.prog X.w X.K X.mg X.base [a, r, n] x sg g cdg X.A X.stack s H C8.E0).nox) (c := .ref CS) (i := 2)
      (tb := fun W D σ H => ∃ Ech : XK, (∀ (cls : Value) (d : Option Addr) (σ' : L2.St) (H' : Hp), Ech cls d H' → σ'.length = 3 → W cls d σ' H') ∧ σ[0]? = some (some (.ref f)) ∧ H c' = some (CodeO c' q) ∧ tl Ech H fun _ H' => D.nx σ H')
      rfl rfl rfl hnd rfl hn ⟨hgl, hde, .inl hme⟩ takes0 (fun W pn xe tk _ => ?_) (fun b oe cls d pn _ _ => pss_one (ps_set (i := 1) hnd rfl (.inl hr) (pe_var (i := 2) rfl (.inl hn) hn1 hn2) (hf := .inr hr)))) (pss_one (ps_ret (pe_var (i := 1) rfl (.inl hr) hr1 hr2)))), ?_⟩
  · refine ⟨fun pins s' σ H' D I h' => ?_⟩
    obtain ⟨Ech, hW, h1, h2, h3⟩ := h'
    have tk2 : Takes ((cxOf C8.CX0 X.prog X.w X.K X.mg X.base [a, r, n] x sg g cdg X.A X.stack s H C8.E0).tr pn xe) (fun c d σ H => σ.length = 3 → W c d σ H) := fun u s2 y => by
      obtain ⟨b, B, sI, pq, σ1, H1, cls, d, e1, J, e2, e3, e4, e5, e6, e7, e8⟩ := y
      exact tk u s2 ⟨b, B, sI, pq, σ1, H1, cls, d, e1, J, e2, e3, e4, e5, e6, e7, e8 J.len⟩
    have hp := act (fun c d σ H => σ.length = 3 → W c d σ H) pn xe Ech p3 p4 tk2 hW
    exact (pss_one (ps_expr (pos := p5) hp)).run pins s' σ H' D I ⟨h1, h2, h3⟩
  · refine ⟨fun cls d H' => ∃ b, PySem.W.exmOne X.K cls (.ref CS) = some b ∧ (b = true → ∀ a, H' a = none → Q (.ref a) (upd H' a (ExV cls d a))) ∧ (b = false → False), fun cls d σ' H' ⟨b, e1, e2, e3⟩ hl => ⟨b, e1, fun hb a ha => ?_, fun hb => e3 hb⟩, rfl, hc, h⟩
    match σ', hl with
    | [y0, y1, y2], _ => exact ⟨_, rfl, _, rfl, e2 hb a ha⟩
end DL
set_option Elab.async false
set_option linter.all false
set_option maxRecDepth 100000
set_option maxHeartbeats 4000001
namespace DL
open PySem.Spec PySem L2 PyProof.Rows
/-- an exception of the class c, its attributes -/
structure Ex where
  c : Str
  ns : List Str
  ds : List D
abbrev MX := DL.Env → Option Ex
/-- the weakest wish of a context -/
def Wx (X : Cx) : WX := fun cls d σ H => ∀ (s' : Shared) (a : Addr) (B : Heap) (sI : Shared) (pins : List (Addr × Obj)), Inv X pins σ H sI → (∀ b o, sI.heap.get? b = some o → b ∉ frs X.stack → B.get? b = some o) → sI.heap.UpToSlots s'.heap →
  Sky B X.stack a (Zc cls d) X.env.locals s'.heap → H a = none → s'.os = sI.os → AllBare s'.gens → X.xe (.ref a) s'
theorem takes_wx {X : Cx} : Takes X (Wx X) := fun u s' z => by
  obtain ⟨a, B, sI, pins, σ, H, cls, d, e, I, nb, up, sky, na, os, ag, w⟩ := z
  rw [e]
  exact w s' a B sI pins I nb up sky na os ag
theorem wx_of {X : Cx} {W : WX} {cls : Value} {d : Option Addr} {σ : L2.St} {H : Hp} (tk : Takes X W) (h : W cls d σ H) : Wx X cls d σ H := fun s' a B sI pins I nb up sky na os ag => tk _ s' ⟨a, B, sI, pins, σ, H, cls, d, rfl, I, nb, up, sky, na, os, ag, h⟩
/-- what is known where it is raised; L stands as it stood -/
def EOk (K : PySem.W.Frag) (mg : Str → Option Value) (Z : Addr → Prop) (Hb H : Hp) (L : PL) (ex : Ex) (cls : Value) (d : Option Addr) : Prop :=
  ∃ C, cls = .ref C ∧ mg ex.c = some (.ref C) ∧ ((d = none ∧ ex.ns = [] ∧ ex.ds = [] ∧ Sp K mg Z Hb H L) ∨
    ∃ (dd : Addr) (vs : List V), d = some dd ∧ ex.ns ≠ [] ∧ vs.length = ex.ns.length ∧ ex.ds.length = ex.ns.length ∧ isFzs ex.ds = true ∧ Sp K mg Z Hb H ((.ref dd, .raw true (.xd (ex.ns.zip vs))) :: (vs.zip ex.ds ++ L)))
theorem EOk.imp {K : PySem.W.Frag} {mg : Str → Option Value} {Z Z' : Addr → Prop} {Hb Hb' H : Hp} {L L' : PL} {ex : Ex} {cls : Value} {d : Option Addr} (h : EOk K mg Z Hb H L ex cls d) (k : ∀ P, Sp K mg Z Hb H (P ++ L) → Sp K mg Z' Hb' H (P ++ L')) : EOk K mg Z' Hb' H L' ex cls d := by
  obtain ⟨C, e1, e2, ⟨e3, e4, e5, s⟩ | ⟨dd, vs, e3, e0, e4, e5, e6, s⟩⟩ := h
  · exact ⟨C, e1, e2, .inl ⟨e3, e4, e5, k [] s⟩⟩
  · exact ⟨C, e1, e2, .inr ⟨dd, vs, e3, e0, e4, e5, e6, k ((.ref dd, .raw true (.xd (ex.ns.zip vs))) :: vs.zip ex.ds) s⟩⟩
theorem EOk.dropL {K : PySem.W.Frag} {mg : Str → Option Value} {Z : Addr → Prop} {Hb H : Hp} {A L : PL} {ex : Ex} {cls : Value} {d : Option Addr} (h : EOk K mg Z Hb H (A ++ L) ex cls d) : EOk K mg Z Hb H L ex cls d := h.imp fun P s => by
  refine Sp.dropL (L := A) (s.perm ?_)
  exact List.perm_append_comm_assoc _ _ _
theorem EOk.nil {K : PySem.W.Frag} {mg : Str → Option Value} {Z : Addr → Prop} {Hb H : Hp} {L : PL} {ex : Ex} {cls : Value} {d : Option Addr} (h : EOk K mg Z Hb H L ex cls d) : EOk K mg Z Hb H [] ex cls d := EOk.dropL (A := L) (by rw [List.append_nil]; exact h)
/-- a statement raises by x -/
def XS (X : Cx) (st : Stmt) (x : MX) : Prop := ∀ {Z : Addr → Prop} {Hb H : Hp} {σ : L2.St} {δ : DL.Env} {L : PL} {ex : Ex}, Sq X Z Hb H σ δ L → x δ = some ex → (∀ cls d σ' H', EOk X.K X.mg Z Hb H' L ex cls d → Wx X cls d σ' H') → ∀ Dn : Ends, wS X st Dn σ H
def XSs (X : Cx) (sts : List Stmt) (x : MX) : Prop := ∀ {Z : Addr → Prop} {Hb H : Hp} {σ : L2.St} {δ : DL.Env} {L : PL} {ex : Ex}, Sq X Z Hb H σ δ L → x δ = some ex → (∀ cls d σ' H', EOk X.K X.mg Z Hb H' L ex cls d → Wx X cls d σ' H') → ∀ Dn : Ends, wSs X sts Dn σ H
/-- an expression raises by x -/
def XE' (X : Cx) (e : Expr) (x : MX) : Prop := ∀ {Z : Addr → Prop} {Hb H : Hp} {σ : L2.St} {δ : DL.Env} {L : PL} {ex : Ex}, Sq X Z Hb H σ δ L → x δ = some ex → (∀ cls d σ' H', EOk X.K X.mg Z Hb H' L ex cls d → Wx X cls d σ' H') → ∀ Q : VK, wE X e σ H Q
def xNo : MX := fun _ => none
def xCons (xa : MX) (a : MS) (xb : MX) : MX := fun δ => match xa δ with
  | some e => some e
  | none => match a δ with
    | some (.nx δ1) => xb δ1
    | _ => none
def xIf (t : MT) (xa xb : MX) : MX := fun δ => match t δ with
  | some (true, δ1) => xa δ1
  | some (false, δ1) => xb δ1
  | none => none
section
variable {X : Cx} {P : Nat → Bool} {st : Stmt} {sts ts us : List Stmt} {a b : MS} {xa xb : MX} {e c : Expr} {m : ME} {t : MT} {pos : Pos}
theorem xs_no : XS X st xNo := fun {_ _ _ _ _ _ _} _ e => by cases e
theorem xss_no : XSs X sts xNo := fun {_ _ _ _ _ _ _} _ e => by cases e
theorem xss_cons (h : IS X P st a) (hx : XS X st xa) (k : XSs X sts xb) : XSs X (st :: sts) (xCons xa a xb) := by
  intro Z Hb H σ δ L ex s e q Dn
  refine wSs_of (pss_cons ps_w pss_w) ?_
  show wS X st { Dn with nx := wSs X sts Dn } σ H
  unfold xCons at e
  split at e
  · rename_i e0 e1
    cases e
    exact hx s e1 q _
  · split at e
    · rename_i δ1 e1
      exact h s e1 { Dn with nx := wSs X sts Dn } fun σ' H' s' _ => k s' e q Dn
    · cases e
theorem xss_one (hx : XS X st xa) : XSs X [st] xa := by
  intro Z Hb H σ δ L ex s e q Dn
  exact wSs_of (pss_one ps_w) (hx s e q Dn)
theorem xs_if (hc : IT X c t) (ha : XSs X ts xa) (hb : XSs X us xb) : XS X (.If c ts us pos) (xIf t xa xb) := by
  intro Z Hb H σ δ L ex s e q Dn
  refine wS_of (ps_if pt_w pss_w pss_w) ?_
  unfold xIf at e
  split at e
  · rename_i δ1 e1
    refine hc s e1 _ fun H1 s1 => ?_
    rw [if_pos rfl]
    exact ha s1 e q Dn
  · rename_i δ1 e1
    refine hc s e1 _ fun H1 s1 => ?_
    (rw [if_neg Bool.false_ne_true])
    exact hb s1 e q Dn
  · cases e
end
def spX (K : PySem.W.Frag) (mg : Str → Option Value) (n : Nat) (m : MF) (x : List D → Option Ex) : L2.Sp := fun vs H Q E => vs.length = n ∧ ∃ (Z : Addr → Prop) (Hb : Hp) (ds : List D), ds.length = n ∧ Sp K mg Z Hb H (vs.zip ds) ∧
  ((∃ (r : D) (ds' : List D), m ds = some (r, ds') ∧ ∀ v H', Sp K mg Z Hb H' ((v, r) :: vs.zip ds') → Q v H') ∨ ∃ ex, x ds = some ex ∧ ∀ cls d H', EOk K mg Z Hb H' [] ex cls d → E cls d H')
structure FnX (P : Program) (w : World) (K : PySem.W.Frag) (mg : Str → Option Value) (base : Heap) (k : Nat) (f : Addr) (fd : FuncData) (ps : List Str) (sp : L2.Sp) : Prop where
  len : ∀ (vs : List V) (H : Hp) (Q : VK) (E : XK), sp vs H Q E → vs.length = ps.length
  run : ∀ (A : Around) (outer : List PySem.Env) (s : Shared) (H : Hp) (args : Args) (us : List Value) (vs : List V) (Q : VK) (E : XK), Room k A → A.guards = some [] →
    Env0 P w K mg base A outer s H → BindsTo s fd args (ps.zip us) → Vals vs us → sp vs H Q E → codeAny (model P w) A (.call (.ref f) args) (CR (L2.CX P w) outer P w H s Q E) s
theorem FnX.mono {P : Program} {w : World} {K : PySem.W.Frag} {mg : Str → Option Value} {base : Heap} {j k : Nat} {f : Addr} {fd : FuncData} {ps : List Str} {sp : L2.Sp} (F : FnX P w K mg base j f fd ps sp) (h : j ≤ k) : FnX P w K mg base k f fd ps sp :=
  ⟨F.len, fun A outer s H args us vs Q E hr => F.run A outer s H args us vs Q E (hr.mono h)⟩
def xFun (np N : Nat) (x : MX) : List D → Option Ex := fun ds => if ds.length = np then x (ds.map some ++ List.replicate (N - np) none) else none
section
variable {P : Program} {w : World} {K : PySem.W.Frag} {mg : Str → Option Value} {base : Heap} {k : Nat} {f : Addr} {x qual : Str} {params : Arguments} {body : List Stmt} {scope : Scope} {dvs : List V} {kws : List (Str × V)} {fd : FuncData} {N ps : List Str} {sp : L2.Sp} {Pr : Nat → Bool} {mb : MS} {xb : MX}
theorem FnX.of (F : FunD K x qual params body scope dvs kws f fd) (S : FnScope N ps scope) (len : ∀ vs H Q E, sp vs H Q E → vs.length = ps.length)
    (hb : ∀ (cdv : Value) (A : Around) (outer : List PySem.Env) (s : Shared) (H : Hp) (vs : List V) (Q : VK) (E : XK), Room k (A.deeper (envOfC qual scope s.heap.objs.size f cdv)) → (A.deeper (envOfC qual scope s.heap.objs.size f cdv)).guards = some [] → sp vs H Q E →
      wSs (cxOf (L2.CX P w) P w K mg base N qual scope f cdv A outer s H E) body { nx := fun _ H' => Q .non H', rt := Q } (start N vs) H) : FnX P w K mg base (k + 1) f fd ps sp := by
  obtain ⟨oc, od, dV, kV, doc, pm, an, cdv, ct, osl, rfl, lk, hcd, _, _⟩ := F.ex
  refine ⟨len, fun A outer s H args us vs Q E hr hg e0 hbi rv hsp => ?_⟩
  have inK : K.In s.heap := e0.mod.kin.keeps fun b o e => (e0.bs b o e).1
  have noL : s.heap.NoLimit := e0.mod.nolimit.keeps fun b o e => (e0.bs b o e).1
  have kinds : ∀ y ∈ ps.zip us, scope.names.lookup y.1 = some .local ∨ (scope.names.lookup y.1 = some .cell ∧ ((cellsFrom (s.heap.objs.size + 1) scope.names []).lookup y.1).isSome = true) := by
    rintro ⟨n, v⟩ hy
    exact (S.par n (List.of_mem_zip hy).1).imp id fun q => ⟨q, PySem.W.cellsFrom_some _ _ _ (.inl q)⟩
  have bnd := hbi
  refine codeAny_call_function hr.depth (inK _ _ lk) rfl S.co S.gen rfl (PySem.W.codeRec_of inK hcd) (bnd _ _ _ _ ?_)
  refine wpAny_newFunctionEnv_cells S.kind kinds fun env he s1 x1 => ?_
  subst he
  refine ⟨noL.keeps x1.toInCall.keep, codeAny_func ?_⟩
  have I : Inv (cxOf (L2.CX P w) P w K mg base N qual scope f cdv A outer s H E) [] (start N vs) H s1 := inv_start S hr.hd e0 (len _ _ _ _ hsp) rv x1
  have run := hb cdv A outer s H vs Q E (hr.deeper _) hg hsp
  refine wpAny_mono (run [] s1 I) (fun fl s' hs => ?_) fun e s' hs => hs
  have fin : ∀ {σ' : L2.St} {H' : Hp} {v : V} {u : Value}, Inv (cxOf (L2.CX P w) P w K mg base N qual scope f cdv A outer s H E) [] σ' H' s' → RelV v u → Q v H' → CE outer P w H s Q u s' :=
    fun {σ' H' v u} J r q => ⟨v, H', J.os, J.bare, J.base, J.hok, r, q⟩
  match fl, hs with
  | .ret u, ⟨v, σ', H', J, r, q⟩ => exact fin J r q
  | .next, ⟨σ', H', J, q⟩ => exact fin (v := V.non) (u := Value.none) J rfl q
  | .brk, ⟨_, _, _, q⟩ => exact q.elim
  | .cont, ⟨_, _, _, q⟩ => exact q.elim
end
end DL
set_option Elab.async false
set_option linter.all false
set_option maxRecDepth 100000
set_option maxHeartbeats 4000001
namespace DL
open PySem.Spec PySem L2 PyProof.Rows
section
variable {P : Program} {w : World} {K : PySem.W.Frag} {mg : Str → Option Value} {base : Heap} {k : Nat} {f : Addr} {x qual : Str} {params : Arguments} {body : List Stmt} {scope : Scope} {dvs : List V} {kws : List (Str × V)} {fd : FuncData} {N ps : List Str} {Pr : Nat → Bool} {mb : MS} {xb : MX}
theorem fnX_of (F : FunD K x qual params body scope dvs kws f fd) (S : FnScope N ps scope)
    (hb : ∀ (cdv : Value) (A : Around) (outer : List PySem.Env) (s : Shared) (H : Hp) (E : XK), Room k (A.deeper (envOfC qual scope s.heap.objs.size f cdv)) → (A.deeper (envOfC qual scope s.heap.objs.size f cdv)).guards = some [] →
      ISs (cxOf (L2.CX P w) P w K mg base N qual scope f cdv A outer s H E) Pr body mb ∧ XSs (cxOf (L2.CX P w) P w K mg base N qual scope f cdv A outer s H E) body xb) : FnX P w K mg base (k + 1) f fd ps (spX K mg ps.length (mFun ps.length N.length Pr mb) (xFun ps.length N.length xb)) := by
  refine FnX.of F S (fun vs H Q E h => h.1) fun cdv A outer s H vs Q E hr hg ⟨hl, Z, Hb, ds, hld, sp, alt⟩ => ?_
  have hN : ps.length ≤ N.length := by
    have := congrArg List.length S.pre
    rw [List.length_take] at this
    omega
  have hlv : vs.length = ds.length := by omega
  have dom : Dom (L2.start N vs) (ds.map some ++ List.replicate (N.length - ps.length) none) := by
    refine ⟨by simp [L2.start]; omega, fun i d h => ?_⟩
    unfold L2.start
    by_cases hi : i < ds.length
    · exact ⟨vs[i]'(by omega), by rw [List.getElem?_append_left (by simp; omega)]; simp [hlv, hi]⟩
    · rw [List.getElem?_append_right (by simp; omega)] at h
      simp [List.getElem?_replicate] at h
  have sq : Sq (cxOf (L2.CX P w) P w K mg base N qual scope f cdv A outer s H E) Z Hb H (L2.start N vs) (ds.map some ++ List.replicate (N.length - ps.length) none) ((vs.zip ds).filter fun p => isFz p.2) := by
    refine ⟨?_, dom⟩
    unfold L2.start
    rw [prs_start _ _ hlv]
    exact sp.dups
  obtain ⟨hn, hx⟩ := hb cdv A outer s H E hr hg
  rcases alt with ⟨r, ds', em, q⟩ | ⟨ex, ex1, q⟩
  · unfold mFun at em
    rw [if_pos hld] at em
    have fin : ∀ {v : V} {r0 : D} {σ' : L2.St} {H' : Hp} {δ : DL.Env} {bs : List D}, Sq (cxOf (L2.CX P w) P w K mg base N qual scope f cdv A outer s H E) Z Hb H' σ' δ ((v, r0) :: ((vs.zip ds).filter fun p => isFz p.2)) → SameP Pr (L2.start N vs) σ' → backs Pr 0 ds δ = some bs → Sp K mg Z Hb H' ((v, r0) :: vs.zip bs) := by
      intro v r0 σ' H' δ bs s' same eb
      have s1 : Sp K mg Z Hb H' ([(v, r0)] ++ (prs σ' δ ++ ((vs.zip ds).filter fun p => isFz p.2) ++ [])) := s'.sp.perm (by
        rw [List.append_nil]
        exact List.Perm.cons _ List.perm_append_comm)
      have := backs_ok (X := (cxOf (L2.CX P w) P w K mg base N qual scope f cdv A outer s H E)) (L := [(v, r0)]) (R := []) hlv (fun j v' h => by
        unfold L2.start
        rw [List.getElem?_append_left (by have := (List.getElem?_eq_some_iff.mp h).1; simp; omega)]
        simp [h]) same s'.dom s1 eb
      simp only [List.append_nil] at this
      exact this
    split at em
    · rename_i r0 δ e1
      split at em
      · rename_i bs eb
        cases em
        exact hn sq e1 _ fun v σ' H' s' same => q v H' (fin s' same eb)
      · cases em
    · rename_i δ e1
      split at em
      · rename_i bs eb
        cases em
        refine hn sq e1 _ fun σ' H' s' same => q .non H' (fin (s'.put fun _ => .non) same eb)
      · cases em
    · cases em
  · unfold xFun at ex1
    rw [if_pos hld] at ex1
    exact hx sq ex1 (fun cls d σ' H' ok => wx_of (W := fun cls d _ H => E cls d H) (takes_of rfl rfl rfl rfl) (q cls d H' ok.nil)) _
end
def xCall (x : List D → Option Ex) (as : List AS) (dd : List D) : MX := fun δ => match mArgs as δ with
  | some (rs, δ1) => match lend rs δ1 with
    | some (ls, _) => x (ls.map (·.1) ++ dd)
    | none => none
  | none => none
theorem xCall_of {x : List D → Option Ex} {as : List AS} {dd : List D} {δ : DL.Env} {ex : Ex} (e : xCall x as dd δ = some ex) : ∃ rs δ1 ls δ2, mArgs as δ = some (rs, δ1) ∧ lend rs δ1 = some (ls, δ2) ∧ x (ls.map (·.1) ++ dd) = some ex := by
  unfold xCall at e
  split at e
  · rename_i rs δ1 e1
    split at e
    · rename_i ls δ2 e2
      exact ⟨rs, δ1, ls, δ2, e1, e2, e⟩
    · cases e
  · cases e
section
variable {X : Cx} {k : Nat} {f : Addr} {fd : FuncData} {ps ks : List Str} {n : Nat} {m : MF} {xm : List D → Option Ex} {x : Str} {p pos : Pos} {e : Expr} {es : List Expr} {kws : List Keyword} {as bs : List AS} {ord inv : List Nat} {sp : L2.Sp}
theorem FnX.go (F : FnX X.prog X.w X.K X.mg X.base k f fd ps sp) (hr : Room k X.A) (hg : X.A.guards = some []) {pins : List (Addr × Obj)} {σ : L2.St} {H : Hp} {s : Shared} {Q : VK} {us : List Value} {vs : List V} {args : Args} (I : Inv X pins σ H s) (hb : BindsTo s fd args (ps.zip us)) (rv : Vals vs us) (h : sp vs H Q (WE (Wx X) σ)) :
    wpAny (model X.prog X.w) X.A (PySem.call (.ref f) args.pos args.kw) (EP X pins σ Q) X.xe s := by
  refine wpAny_call (codeAny_mono (F.run X.A X.stack s H args us vs Q (WE (Wx X) σ) hr hg I.env0 hb rv h) fun r s' hq => ?_)
  match r, hq with
  | .ok (.ret u), hq => exact I.after hq
  | .error e, hq => exact passAt takes_wx σ pins H s e s' I hq
theorem call_runX {dvs : List V} {dd : List D} {Z : Addr → Prop} {Hb H : Hp} {σ : L2.St} {δ δ2 : DL.Env} {L T : PL} {rs : List AR} {vs : List V} {ls : List (D × Option Nat)} {ex : Ex} (hdd : ∀ H Y, Reps X.K X.mg H Y dvs dd []) (hn : rs.length + dd.length = n)
    (av : AV σ rs vs T) (s : Sq X Z Hb H σ δ (T ++ L)) (el : lend rs δ = some (ls, δ2)) (em : xm (ls.map (·.1) ++ dd) = some ex)
    (Q : VK) (E : XK) (q : ∀ cls d H', EOk X.K X.mg Z Hb H' L ex cls d → E cls d H') : spX X.K X.mg n m xm (vs ++ dvs) H Q E := by
  obtain ⟨s1, hv, hj⟩ := lend_ok av s el
  have lav : rs.length = vs.length := av_len av
  have ldd : dvs.length = dd.length := (hdd H fun _ => True).len
  have s2 : Sp X.K X.mg Z Hb H (((vs ++ dvs).zip (ls.map (·.1) ++ dd)) ++ (L ++ prs σ δ2)) := by
    rw [zip_append (by simp [hv])]
    have c : Sp X.K X.mg Z Hb H (dvs.zip dd ++ (vs.zip (ls.map (·.1)) ++ L ++ prs σ δ2)) := by
      have h0 := s1.sp
      obtain ⟨⟨F, rr, nd, hb⟩, b, fr⟩ := h0
      exact ⟨⟨F, Rps.append (F := []) (hdd H _).zip rr, nd, hb⟩, b, fr⟩
    refine c.perm ?_
    (rw [List.append_assoc, List.append_assoc])
    exact List.perm_append_comm_assoc _ _ _
  obtain ⟨Z', Hc, sc, back⟩ := s2.lend
  refine ⟨by rw [List.length_append]; omega, Z', Hc, ls.map (·.1) ++ dd, by simp; omega, sc, .inr ⟨ex, em, fun cls d H' ok => q cls d H' ?_⟩⟩
  refine ok.imp fun P s' => ?_
  have s3 := back H' _ s'
  rw [List.append_nil, ← List.append_assoc] at s3
  exact Sp.dropL (L := prs σ δ2) (s3.perm List.perm_append_comm)
/-- f(e, ..) raises -/
theorem xe_call (dd : List D) {dvs : List V} {dsv : List Value} (F : FnX X.prog X.w X.K X.mg X.base k f fd ps (spX X.K X.mg n m xm)) (hr : Room k X.A) (hg : X.A.guards = some []) (hgl : Gl X x) (hm : X.mg x = some (.ref f)) (hk : PySem.W.keepIn X.K (.ref f) = true) (hb : Binds X.K fd ps dsv) (hd : Vals dvs dsv)
    (hdd : ∀ H Y, Reps X.K X.mg H Y dvs dd []) (ha : IA X (e :: es) as) (hn : as.length + dd.length = n)
    (hdb : (x == ("__debug__" : Str)) = false) (he : starEach (e :: es) X.env = (false, eval e X.env) :: starEach es X.env) (hpl : (backTo pos (starEach es X.env)).any (·.1) = false) :
    XE' X (.Call (.Name x p) (e :: es) [] pos) (xCall xm as dd) := by
  intro Z Hb H σ δ L ex s e' q Q
  obtain ⟨rs, δ1, ls, δ2, e1, e2, e3⟩ := xCall_of e'
  have W := ha s e1 (fun vs H1 => spX X.K X.mg n m xm (vs ++ dvs) H1 Q (WE (Wx X) σ)) fun vs H1 T av s1 => call_runX hdd (by have := mArgs_len e1; omega) av s1 e2 e3 Q _ fun cls d H' ok => q cls d σ H' ok
  intro pins s0 I
  refine wpAny_Call_Name_kw (ld_glob I hgl hm ?_ hdb)
  refine PySem.W.callWith_K (h₀ := X.base) I.ok.mod.kin hk (thn (W pos pins s0 I) fun us s1 ⟨vs, H1, I1, r, q1⟩ => ⟨I1.kIn, ?_⟩) he hpl
  have r2 : Vals (vs ++ dvs) (us ++ dsv) := r.append hd
  have hl : (us ++ dsv).length = ps.length := by rw [← r2.length]; exact F.len _ _ _ _ q1
  exact F.go hr hg I1 (hb s1 us I1.kIn hl) r2 q1
end
end DL
set_option Elab.async false
set_option linter.all false
set_option maxRecDepth 100000
set_option maxHeartbeats 4000001
namespace DL
open PySem.Spec PySem L2 PyProof.Rows LamX
section
variable {K : PySem.W.Frag} {mg : Str → Option Value} {H Hb : Hp} {Z : Addr → Prop} {P : PL}
/-- the table grows by a new code object -/
theorem Sp.tabbed {T c1 : Addr} {g q : Str} {ps more : Array Value} (s : Sp K mg Z Hb H ((.ref T, .tab g q) :: P)) (hT : H T = some (.tbl ps)) (hc : H c1 = none) (hk : TriplesOk (ps ++ more).toList)
    (hm : ∀ (pos : Pos) (cv : Value), codeAmong pos (ps ++ more).toList = some cv → codeAmong pos ps.toList = some cv ∨ cv = .ref c1) : Sp K mg Z Hb (upd (upd H T (.tbl (ps ++ more))) c1 (CodeO c1 q)) ((.ref T, .tab g q) :: P) := by
  have hu := s.untr hc
  obtain ⟨⟨F, r, nd, hb⟩, b, fr⟩ := s
  cases r with
  | @cons _ _ _ F1 F2 r1 r2 =>
    cases r1 with
    | @tab _ _ _ ps0 cs b0 h0 i0 j0 l0 =>
      rw [hT] at h0
      cases h0
      have nTc : T ≠ c1 := fun e => by rw [e, hc] at hT; cases hT
      have at_ : ∀ x, x ≠ T → x ≠ c1 → upd (upd H T (.tbl (ps ++ more))) c1 (CodeO c1 q) x = H x := fun x h1 h2 => by rw [upd_ne h2, upd_ne h1]
      have old : ∀ x o, H x = some o → x ≠ c1 := fun x o e z => by rw [z, hc] at e; cases e
      have nd2 := List.nodup_append.mp nd
      have inF2 : ∀ x ∈ F2, x ≠ T ∧ x ≠ c1 := fun x hx => ⟨fun e => nd2.2.2 T List.mem_cons_self x hx e.symm, by
        obtain ⟨o, e, _⟩ := r2.own_at hx
        exact old x o e⟩
      have inCs : ∀ x ∈ cs, x ≠ T ∧ x ≠ c1 := fun x hx => ⟨fun e => (List.nodup_cons.mp nd2.1).1 (by rw [← e]; exact hx), old x _ (l0 x hx)⟩
      refine ⟨⟨(T :: c1 :: cs) ++ F2, .cons (.tab b0 ?_ hk (fun pos cv h => ?_) fun x hx => ?_) (Rps.keep (r2.other (Z' := fun a => Z a ∧ a ∉ (T :: c1 :: cs) ++ F2) fun x o e z => ⟨z.1, fun m => ?_⟩) fun x o e z => ?_), ?_, fun x hx => ?_⟩, fun x o e => ?_, fr⟩
      · rw [upd_ne nTc, upd_same]
      · rcases hm pos cv h with h | h
        · obtain ⟨x, hx, e⟩ := j0 pos cv h
          exact ⟨x, List.mem_cons_of_mem _ hx, e⟩
        · exact ⟨c1, List.mem_cons_self, h⟩
      · rcases List.mem_cons.mp hx with rfl | hx
        · exact upd_same
        · rw [at_ x (inCs x hx).1 (inCs x hx).2]
          exact l0 x hx
      · rcases List.mem_append.mp m with m | m
        · rcases List.mem_cons.mp m with rfl | m
          · exact z.2 (List.mem_append_left _ List.mem_cons_self)
          · rcases List.mem_cons.mp m with rfl | m
            · exact old _ o e rfl
            · exact z.2 (List.mem_append_left _ (List.mem_cons_of_mem _ m))
        · exact z.2 (List.mem_append_right _ m)
      · by_cases hx : x = T
        · subst hx
          rw [hT] at e
          cases e
          rcases z with z | z | z
          · exact absurd (List.mem_append_left _ List.mem_cons_self) z.2
          · exact absurd rfl (inF2 _ z).1
          · cases z
        · rw [at_ x hx (old x o e)]
          exact e
      · refine List.nodup_append.mpr ⟨List.nodup_cons.mpr ⟨fun m => ?_, List.nodup_cons.mpr ⟨fun m => (inCs _ m).2 rfl, (List.nodup_cons.mp nd2.1).2⟩⟩, nd2.2.1, fun x hx y hy e => ?_⟩
        · rcases List.mem_cons.mp m with e | m
          · exact nTc e
          · exact (List.nodup_cons.mp nd2.1).1 m
        · subst e
          rcases List.mem_cons.mp hx with rfl | hx
          · exact (inF2 _ hy).1 rfl
          · rcases List.mem_cons.mp hx with rfl | hx
            · exact (inF2 _ hy).2 rfl
            · exact nd2.2.2 x (List.mem_cons_of_mem _ hx) x hy rfl
      · obtain hx | hx := List.mem_append.mp hx
        · obtain rfl | hx := List.mem_cons.mp hx
          · exact hb _ (List.mem_append_left _ List.mem_cons_self)
          · rcases List.mem_cons.mp hx with rfl | hx
            · exact hu
            · exact hb _ (List.mem_append_left _ (List.mem_cons_of_mem _ hx))
        · exact hb _ (List.mem_append_right _ hx)
      · have e2 := b x o e
        rw [at_ x (fun z => ?_) (old x o e2)]
        · exact e2
        · have := hb T (List.mem_append_left _ List.mem_cons_self)
          rw [z, this] at e
          cases e
/-- what the table's pair says -/
theorem Sp.tabs {v : V} {g q : Str} (s : Sp K mg Z Hb H ((v, .tab g q) :: P)) : ∃ T ps, v = .ref T ∧ TabK K mg g T ∧ H T = some (.tbl ps) ∧ TriplesOk ps.toList ∧ ∀ (pos : Pos) (cv : Value), codeAmong pos ps.toList = some cv → ∃ c, cv = .ref c ∧ H c = some (CodeO c q) := by
  obtain ⟨Y, F, r⟩ := s.head
  cases r with
  | @tab T _ _ ps cs b h i j l => exact ⟨T, ps, rfl, b, h, i, fun pos cv e => let ⟨c, hc, e2⟩ := j pos cv e; ⟨c, e2, l c hc⟩⟩
end
section
variable {X : Cx} {pins : List (Addr × Obj)} {H : Hp} {σ : L2.St} {s : Shared}
/-- what is laid at the heap's end is no frame's -/
theorem no_frame (I : Inv X pins σ H s) {f : Addr} (h : s.heap.objs.size ≤ f) : f ∉ frs X.stack := fun z =>
  (List.mem_cons.mp (I.stkSub f z)).elim (fun e => Nat.not_lt.mpr h (by rw [e]; exact I.lt)) (I.nofs h)
/-- how the table and the tracked addresses may have become: nothing new, or a code object more -/
def Coded (H H1 : Hp) (T c1 : Addr) (q : Str) (ps : Array Value) : Prop :=
  H1 = H ∨ (H c1 = none ∧ ∃ more : Array Value, H1 = upd (upd H T (.tbl (ps ++ more))) c1 (CodeO c1 q) ∧ TriplesOk (ps ++ more).toList ∧ ∀ (pos : Pos) (cv : Value), codeAmong pos (ps ++ more).toList = some cv → codeAmong pos ps.toList = some cv ∨ cv = .ref c1)
theorem Coded.more {T c1 : Addr} {q : Str} {ps : Array Value} {pos : Pos} (hc : H c1 = none) (hk : TriplesOk ps.toList) : Coded H (upd (upd H T (.tbl (ps ++ #[rawInt pos.line, rawInt pos.col, .ref c1]))) c1 (CodeO c1 q)) T c1 q ps := by
  have l : (ps ++ #[rawInt pos.line, rawInt pos.col, Value.ref c1]).toList = ps.toList ++ [rawInt pos.line, rawInt pos.col, .ref c1] := by simp
  refine .inr ⟨hc, _, rfl, ?_, ?_⟩
  · rw [l]
    exact PySem.TriplesOk_snoc _ _ _ _ hk
  · intro p cv e
    rw [l] at e
    exact among_app _ hk e
/-- the lambda is made: what the heap has become is told -/
theorem lam_makeD {c T : Addr} {params : Arguments} {body : Expr} {scope : Scope} {pos : Pos} {q : Str} {ps : Array Value} {E : Value → Shared → Prop} {Q : Value → Shared → Prop} (I : Inv X pins σ H s) (TB : TabB X.base X.mg c T) (hcode : X.env.code = .ref c) (hq : q = X.env.qual ++ "<lambda>")
    (hT : H T = some (.tbl ps)) (hk : TriplesOk ps.toList) (ha : ∀ (pos : Pos) (cv : Value), codeAmong pos ps.toList = some cv → ∃ c, cv = .ref c ∧ H c = some (CodeO c q)) (hdef : defaultsOf params X.env = ([], [])) (hfree : ∀ y ∈ scope.names, y.2 = .free → ∃ c, X.env.cells.lookup y.1 = some c)
    (h : ∀ (f c1 : Addr) (pm ctv : Value) (H1 : Hp) (s1 : Shared), Inv X pins σ H1 s1 → Coded H H1 T c1 q ps →
      s1.heap.get? f = some (PySem.W.kla_obj "<lambda>" q params body scope (cloFrom X.env.cells scope.names []) pm c1 ctv) → H1 f = none → f ∉ frs X.stack → H1 c1 = some (CodeO c1 q) → Q (.ref f) s1) :
    wpAny (model X.prog X.w) X.A (eval (.Lambda params body scope pos) X.env) Q E s := by
  cases hq
  apply PySem.W.kla_eval hdef
  have atT := I.hok T _ hT
  have clo : closureFor scope X.env = pure (cloFrom X.env.cells scope.names []) := closure_ok hfree
  match hc : codeAmong pos ps.toList with
  | some cv =>
    obtain ⟨c1, rfl, hco⟩ := ha pos cv hc
    exact PySem.W.kla_makeFunctionHit (P := T) (mg := X.mg) clo I.ok.glob (I.mod.glob.keeps I.bk) hcode (TB.code.keeps I.bk) atT hk hc (TB.bm.keeps I.bk) fun ctv h' tk old sz =>
      h _ c1 _ ctv H _ (I.kept fun b o e => Heap.get?_push_of_some _ (old b o e)) (.inl rfl) (Heap.get?_push_size _ rfl) (I.hok.fresh sz) (no_frame I sz) hco
  | none =>
    apply PySem.W.kla_makeFunction (P := T) (mg := X.mg) clo I.ok.glob (I.mod.glob.keeps I.bk) hcode (TB.code.keeps I.bk) atT hk hc TB.gP (TB.bm.keeps I.bk)
    rintro c1 ctv h' tk old ge lt ⟨_, oc, vs, t, ⟨⟩, e1, e2, e3⟩ grown
    have le : s.heap.objs.size ≤ h'.objs.size := Nat.le_of_lt (Nat.lt_of_le_of_lt ge lt)
    have J := inv_table (t' := tk) (q := X.env.qual ++ "<lambda>") I hT (fun b o n e => Heap.get?_push_of_some (PySem.W.kla_obj "<lambda>" (X.env.qual ++ "<lambda>") params body scope (cloFrom X.env.cells scope.names []) ((X.mg "__name__").getD .none) c1 ctv) (old b o n e)) (Heap.get?_push_of_some _ grown) ge ⟨oc, vs, t, Heap.get?_push_of_some _ e1, e2, e3⟩
    apply h _ c1 _ ctv _ _ J (.more (I.hok.fresh ge) hk) (Heap.get?_push_size _ rfl) _ (no_frame I le) upd_same
    rw [upd_ne (Nat.ne_of_gt lt), upd_ne (Nat.ne_of_gt (Nat.lt_of_lt_of_le (Heap.lt_size atT) le))]
    exact I.hok.fresh le
end
end DL
set_option Elab.async false
set_option linter.all false
set_option maxRecDepth 100000
set_option maxHeartbeats 4000001
namespace DL
open PySem.Spec PySem L2 PyProof.Rows LamX
section
variable {X : Cx} {pins : List (Addr × Obj)} {σ : L2.St} {H H2 : Hp} {s s2 : Shared}
/-- the lambda runs: called from around A, over the stack es, in a heap that grew out of the one in which the lambda was made -/
theorem lam_run {A : Around} {es : List PySem.Env} {f c1 : Addr} {pm ctv : Value} {params : Arguments} {body : Expr} {scope : Scope} {k : Nat} {E : XK} {Q : VK} {tb : TE} (I : Inv X pins σ H s) (L : LamS X.env.scope scope)
    (lam : s2.heap.get? f = some (PySem.W.kla_obj "<lambda>" (X.env.qual ++ "<lambda>") params body scope (cloFrom X.env.cells scope.names []) pm c1 ctv)) (code : H2 c1 = some (CodeO c1 (X.env.qual ++ "<lambda>"))) (E1 : Env0 X.prog X.w X.K X.mg X.base A es s2 H2) (un : Un (frs X.stack) [] H H2 s.heap s2.heap)
    (none : bindArgs (PySem.W.kla_fn "<lambda>" (X.env.qual ++ "<lambda>") params body scope (cloFrom X.env.cells scope.names []) pm (.ref c1) ctv) ⟨[], []⟩ = pure []) (room : Room (k + 1) A)
    (hbody : PE (lamCx X A es s2 H2 E scope f c1) body tb) (q : tb σ H2 Q) : codeAny (model X.prog X.w) A (.call (.ref f) ⟨[], []⟩) (CR (L2.CX X.prog X.w) es X.prog X.w H2 s2 Q E) s2 := by
  obtain ⟨⟨oc, vs, t, e1, e2, e3⟩, _⟩ := E1.hok c1 _ code
  apply PySem.W.kla_callFunE room.depth lam rfl L.co L.gen rfl ⟨c1, oc, vs, t, rfl, e1, e2, e3⟩
  rw [none]
  apply wpAny_pure
  apply wpAny_newFunctionEnv (fun y m => (L.own y m).2) (fun _ m => absurd m List.not_mem_nil) _ L.kind
  intro h1 at_ but
  have old : ∀ b o, s2.heap.get? b = some o → h1.get? b = some o := fun b o e => but.extBut b o (Nat.ne_of_lt (Heap.lt_size e)) (Heap.get?_push_of_some _ e)
  refine ⟨(E1.mod.nolimit.keeps fun b o e => (E1.bs b o e).1).fresh _ but, ?_⟩
  apply PySem.W.kla_codeExpr
  have J : Inv (lamCx X A es s2 H2 E scope f c1) [] σ H2 { s2 with heap := h1, toks := s2.toks + 0 } := lam_start2 I L E1 room.hd un at_ old
  exact wpAny_mono (hbody.run [] _ σ H2 Q J q) (fun v t ⟨w, H3, J3, r, z⟩ => ⟨w, H3, J3.os, J3.bare, J3.base, J3.hok, r, z⟩) fun _ _ z => z
end
theorem Sp.exc0 {K : PySem.W.Frag} {mg : Str → Option Value} {H Hb : Hp} {Z : Addr → Prop} {P : PL} {a C : Addr} {c : Str} (s : Sp K mg Z Hb H P) (ha : H a = none) (hc : mg c = some (.ref C)) : Sp K mg Z Hb (upd H a (ExV (.ref C) none a)) ((.ref a, .exc c [] []) :: P) := by
  have s1 : Sp K mg Z Hb (upd H a (ExV (.ref C) none a)) ((.ref a, .raw true (ExV (.ref C) none a)) :: P) := Sp.new (Q := []) s ha fun Y F r => by
    cases r
    exact ⟨[a], .rawO upd_same rfl trivial, .inr rfl⟩
  have s2 : Sp K mg Z Hb (upd H a (ExV (.ref C) none a)) ((.ref a, .raw false (ExV (.ref C) none a)) :: P) := s1.freeze
  have s3 := s2.part (w := .ref a) (t := .exc c [] []) rfl fun Y r => by
    cases r with
    | rawF h p z m => exact .exc (fs := []) upd_same z hc (.inl ⟨rfl, rfl⟩) rfl .nil
  exact (s3.perm (List.Perm.swap _ _ _)).drop
end DL
set_option Elab.async false
set_option linter.all false
set_option maxRecDepth 100000
set_option maxHeartbeats 4000001
namespace DL
open PySem.Spec PySem L2 PyProof.Rows
def BMv : List Value := [.type "ValueError", .type "Exception", .type "BaseException", .type "object"]
def excOneB (K : PySem.W.Frag) (C : Addr) : Bool := PySem.W.excIn K C BMv "ValueError.__new__" && (PySem.W.keepIn K (.ref C) && (decide (PySem.W.subIn K (.ref C) (.type "BaseException") = some true) && (decide (PySem.W.typeIn K (.ref C) = some (.type "type")) &&
  (decide (PySem.W.findIn K (.ref C) "__getattribute__" = some (some (.builtin "BaseException.__getattribute__"))) && (decide (PySem.W.findIn K (.ref C) "__getattr__" = some none) && (PySem.W.hasDictIn K C && (decide (PySem.W.findIn K (.ref C) "__class__" = some (some (.builtin "object.__class__"))) &&
  (decide (PySem.W.specialIn K (.builtin "object.__class__") "__get__" = some (some (.builtin "getset_descriptor.__get__"))) && (decide (PySem.W.takesIn K (.builtin "object.__class__") = some true) && (decide (PySem.W.mroIn K C (.type "object") = some true) && Tns.all fun T => decide (PySem.W.kitOne K (.type T) (.ref C) = some false)))))))))))
structure ExOne (K : PySem.W.Frag) (C : Addr) : Prop where
  ei : PySem.W.excIn K C BMv "ValueError.__new__" = true
  kp : PySem.W.keepIn K (Value.ref C) = true
  sb : PySem.W.subIn K (.ref C) (.type "BaseException") = some true
  ty : PySem.W.typeIn K (.ref C) = some (.type "type")
  ec : ExcC K C
  tn : ∀ T ∈ Tns, PySem.W.kitOne K (.type T) (.ref C) = some false
theorem exOne_of {K : PySem.W.Frag} {C : Addr} (h : excOneB K C = true) : ExOne K C := by
  unfold excOneB at h
  simp only [decide_eq_true_eq, Bool.and_eq_true] at h
  obtain ⟨h1, h2, h3, h4, h5, h6, h7, h8, h9, h10, h11, h12⟩ := h
  exact ⟨h1, h2, h3, h4, ⟨h5, h6, h3, h7, h8, h9, h10, h11⟩, fun T hT => of_decide_eq_true (List.all_eq_true.mp h12 T hT)⟩
end DL
set_option Elab.async false
set_option linter.all false
set_option maxRecDepth 100000
set_option maxHeartbeats 4000001
namespace DL
open PySem.Spec PySem L2 PyProof.Rows LamX
theorem Inv.blind {X : Cx} {pins : List (Addr × Obj)} {σ : L2.St} {H : Hp} {s : Shared} {t : Nat} {y : Str} {v : V} (I : Inv X pins σ H s) (hN : X.N[t]? = some y) (hy : ¬ Vis X.env.scope y) : Inv X pins (σ.set t (some v)) H s := by
  refine ⟨I.ok, I.os, I.bare, I.base, ?_, I.cell, I.free, I.freeC, I.pin, I.hok, by rw [List.length_set, I.len]⟩
  obtain ⟨m, hm, hl⟩ := I.loc
  refine ⟨m, hm, fun i x v' hx hv hvis => ?_⟩
  by_cases h : t = i
  · subst h
    rw [hN] at hx
    cases hx
    exact absurd hvis hy
  · rw [List.getElem?_set_ne h] at hv
    exact hl i x v' hx hv hvis
section
variable {P : Program} {w : World} {K : PySem.W.Frag} {mg : Str → Option Value} {base : Heap} {k : Nat} {f : Addr} {x qual : Str} {params : Arguments} {body : List Stmt} {scope : Scope} {dvs : List V} {kws : List (Str × V)} {fd : FuncData} {N ps : List Str} {Pr : Nat → Bool} {mb : MS}
theorem FnG.ofT (F : FunD K x qual params body scope dvs kws f fd) (S : FnScope N ps scope) (len : ∀ vs H Q E, sp vs H Q E → vs.length = ps.length)
    (hb : ∀ (cdv : Value) (A : Around) (outer : List PySem.Env) (s : Shared) (H : Hp) (vs : List V) (Q : VK) (E : XK), fd.code = cdv → PySem.W.codeIn K cdv qual = true → Room k (A.deeper (envOfC qual scope s.heap.objs.size f cdv)) → (A.deeper (envOfC qual scope s.heap.objs.size f cdv)).guards = some [] → sp vs H Q E →
      wSs (cxOf CX0 P w K mg base N qual scope f cdv A outer s H E).nox body { nx := fun _ H' => Q .non H', rt := Q } (start N vs) H) : FnG P w K mg base (k + 1) f fd ps sp := by
  (obtain ⟨oc, od, dV, kV, doc, pm, an, cdv, ct, osl, rfl, lk, hcd, _, _⟩ := F.ex)
  refine ⟨len, fun A outer s H args us vs Q E hr hg e0 hbi rv hsp => ?_⟩
  have inK : K.In s.heap := e0.mod.kin.keeps fun b o e => (e0.bs b o e).1
  have hlim : s.heap.NoLimit := e0.mod.nolimit.keeps fun b o e => (e0.bs b o e).1
  have kinds : ∀ y ∈ ps.zip us, scope.names.lookup y.1 = some .local ∨ (scope.names.lookup y.1 = some .cell ∧ ((cellsFrom (s.heap.objs.size + 1) scope.names []).lookup y.1).isSome = true) := by
    rintro ⟨n, v⟩ hy
    exact (S.par n (List.of_mem_zip hy).1).imp id fun q => ⟨q, PySem.W.cellsFrom_some _ _ _ (.inl q)⟩
  have hbind := hbi
  refine codeAny_call_function hr.depth (inK _ _ lk) rfl S.co S.gen rfl
    (PySem.W.codeRec_of inK hcd) (hbind _ _ _ _ ?_)
  refine wpAny_newFunctionEnv_cells S.kind kinds fun env he s1 x1 => ?_
  subst he
  refine ⟨hlim.keeps x1.toInCall.keep, codeAny_func ?_⟩
  have I : Inv (cxOf CX0 P w K mg base N qual scope f cdv A outer s H E) [] (start N vs) H s1 := inv_start S hr.hd e0 (len _ _ _ _ hsp) rv x1
  have run := hb cdv A outer s H vs Q E rfl hcd (hr.deeper _) hg hsp
  refine wpAny_mono (run [] s1 (I.wish _)) (fun fl s' hs => ?_) fun e s' hs => hs.elim
  have hs := hs.unwish
  have fin : ∀ {σ' : L2.St} {H' : Hp} {v : V} {u : Value}, Inv (cxOf CX0 P w K mg base N qual scope f cdv A outer s H E) [] σ' H' s' → RelV v u → Q v H' → CE outer P w H s Q u s' :=
    fun {σ' H' v u} J r q => ⟨v, H', J.os, J.bare, J.base, J.hok, r, q⟩
  match fl, hs with
  | .ret u, ⟨v, σ', H', J, r, q⟩ => exact fin J r q
  | .next, ⟨σ', H', J, q⟩ => exact fin (v := V.non) (u := Value.none) J rfl q
  | .brk, ⟨_, _, _, q⟩ => exact q.elim
  | .cont, ⟨_, _, _, q⟩ => exact q.elim
end
end DL
set_option Elab.async false
set_option linter.all false
set_option maxRecDepth 100000
set_option maxHeartbeats 4000001
namespace DL
open PySem.Spec PySem L2 PyProof.Rows LamX
theorem codeHd_fields {K : PySem.W.Frag} {c T : Addr} (h : PySem.W.codeHdIn K c T = true) : ∃ (o : Obj) (vs : Array Value), K.lookup c = some o ∧ o.data = .fields vs ∧ vs[11]? = some (.ref T) := by
  unfold PySem.W.codeHdIn at h
  split at h
  · rename_i vs _ hk
    simp only [Bool.and_eq_true] at h
    obtain ⟨⟨⟨⟨⟨e1, _⟩, _⟩, _⟩, _⟩, _⟩ := h
    split at e1
    · rename_i P' h11
      have hP : P' = T := beq_iff_eq.mp e1
      subst hP
      exact ⟨_, vs, hk, rfl, h11⟩
    · cases e1
  · cases h
/-- the tracked heap at the law's door: the table at T, the script at a where the head does not hold it -/
def doorH (K : PySem.W.Frag) (T a : Addr) (oA : Obj) (xs : List V) : Hp := fun b =>
  if b = T then some (.tbl #[]) else if b = a then (if (K.lookup a).isNone then some (.frz oA (.lst xs)) else none) else none
section
variable {K : PySem.W.Frag} {T a : Addr} {oA : Obj} {xs : List V}
theorem door_T : doorH K T a oA xs T = some (.tbl #[]) := by simp [doorH]
theorem door_no {b : Addr} (h1 : b ≠ T) (h2 : b = a → K.lookup a ≠ none) : doorH K T a oA xs b = none := by
  unfold doorH
  rw [if_neg h1]
  split
  · rename_i e
    have h3 := h2 e
    cases hk : K.lookup a
    · exact absurd hk h3
    · simp
  · rfl
theorem door_cases (b : Addr) : (b = T ∧ doorH K T a oA xs b = some (.tbl #[])) ∨ (b ≠ T ∧ b = a ∧ K.lookup a = none ∧ doorH K T a oA xs b = some (.frz oA (.lst xs))) ∨ (b ≠ T ∧ (b = a → K.lookup a ≠ none) ∧ doorH K T a oA xs b = none) := by
  by_cases h1 : b = T
  · left; refine ⟨h1, ?_⟩; subst h1; exact door_T
  · right
    by_cases h2 : b = a ∧ K.lookup a = none
    · left; refine ⟨h1, h2.1, h2.2, ?_⟩; simp [doorH, h1, h2.1, h2.2, show ¬ a = T by rw [← h2.1]; exact h1]
    · right; exact ⟨h1, fun e z => h2 ⟨e, z⟩, door_no h1 fun e z => h2 ⟨e, z⟩⟩
end
/-- what the heap at the law's door is known to hold -/
structure Door (K : PySem.W.Frag) (h : Heap) (T a : Addr) (oA : Obj) : Prop where
  kin : K.In h
  tab : h.get? T = some { cls := .none, data := .fields #[] }
  out : K.lookup T = none
  scr : h.get? a = some oA
namespace Door
variable {K : PySem.W.Frag} {h : Heap} {T a : Addr} {oA : Obj} {xs : List V}
/-- what is neither the table nor the script is seen beyond the hiding -/
theorem see (d : Door K h T a oA) {b : Addr} {o : Obj} (e : h.get? b = some o) (h1 : o.data ≠ .fields #[]) (h2 : o.data ≠ oA.data) : (hidT h (doorH K T a oA xs)).get? b = some o := by
  refine hidT_get e (door_no ?_ ?_)
  · rintro rfl; rw [d.tab] at e; injection e with q; exact h1 (by rw [← q])
  · rintro rfl; rw [d.scr] at e; injection e with q; exact absurd (by rw [← q]) h2
theorem ns (d : Door K h T a oA) (hs : ∃ vs n, oA.data = .seq vs n) {b : Addr} {m : Str → Option Value} (n : h.Ns b m) : (hidT h (doorH K T a oA xs)).Ns b m := by
  have ⟨o, es, ep, e, dd, r⟩ := n
  exact ⟨o, es, ep, d.see e (by rw [dd]; simp) (by rw [dd]; rcases hs with ⟨vs, n0, q⟩; rw [q]; simp), dd, r⟩
theorem kin2 (d : Door K h T a oA) : K.In (hidT h (doorH K T a oA xs)) := by
  intro b o e
  refine hidT_get (d.kin b o e) (door_no ?_ ?_)
  · rintro rfl; rw [d.out] at e; exact nomatch e
  · rintro rfl z; rw [z] at e; exact nomatch e
end Door
namespace Door
variable {K : PySem.W.Frag} {h : Heap} {T a c : Addr} {oA : Obj} {xs : List V} {mg : Str → Option Value}
theorem tabB (d : Door K h T a oA) (hs : ∃ vs n, oA.data = .seq vs n) (hns : h.Ns mainGlobals mg) (C : PySem.W.CodeHd h c T)
    (hbm : ∃ (bm : Addr) (ob : Obj), mg "__builtins__" = some (.ref bm) ∧ bm ≠ builtinsNs ∧ h.get? bm = some ob ∧ ob.cls = .type "module" ∧ ob.dict = some builtinsNs ∧ ob.data = .plain) : TabB (hidT h (doorH K T a oA xs)) mg c T := by
  obtain ⟨ws, n0, sA⟩ := hs
  have gT : mainGlobals ≠ T := fun z => by
    have ⟨o, _, _, e, dd, _⟩ := hns
    rw [z, d.tab] at e
    injection e with q
    rw [← q] at dd
    exact nomatch dd
  have ⟨oc, us, file, tf, flags, tg, inF, text, tt, e1, x1, x2, x3, xs'⟩ := C
  have c2 : PySem.W.CodeHd (hidT h (doorH K T a oA xs)) c T := by
    refine ⟨oc, us, file, tf, flags, tg, inF, text, tt, d.see e1 (fun z => ?_) (fun z => ?_), x1, x2, x3, xs'⟩
    · have : us = #[] := by rw [x2] at z; exact Data.fields.inj z
      rw [this] at x3
      exact nomatch x3
    · rw [x2, sA] at z
      exact nomatch z
  have ⟨bm, ob, y1, y2, y3, y4, y5, y6⟩ := hbm
  have yy : bm ≠ mainGlobals ∧ bm ≠ T := by
    constructor <;> rintro rfl
    · have ⟨_, _, _, e, dd, _⟩ := hns
      rw [y3] at e
      injection e with q
      rw [← q, y6] at dd
      exact nomatch dd
    · rw [d.tab] at y3
      injection y3 with q
      rw [← q] at y6
      exact nomatch y6
  exact ⟨c2, ⟨bm, ob, y1, y2, yy.1, yy.2, d.see y3 (by rw [y6]; simp) (by rw [y6, sA]; simp), y4, y5, y6⟩, gT⟩
/-- what the call leaves of the heap -/
theorem old {h' : Heap} {P : Program} {w : World} {H' : Hp} (d : Door K h T a oA) (C : PySem.W.CodeHd h c T) (un : Un [] [] (doorH K T a oA xs) H' h h') (ok' : HOk P w H' h') : OldK h h' := by
  have stays : ∀ b o, b ≠ T → h.get? b = some o → h'.get? b = some o := by
    intro b o hb e
    rcases door_cases (K := K) (T := T) (a := a) (oA := oA) (xs := xs) b with z | ⟨_, e2, _, e4⟩ | z
    · exact absurd z.1 hb
    · have q := (ok' b _ (un.frzs b _ _ e4)).1
      rw [e2, d.scr] at e
      rw [q, ← e]
    · exact un.keep b o e z.2.2 (List.not_mem_nil) (List.not_mem_nil)
  obtain ⟨m, em⟩ := un.tbls T _ door_T
  have at' : h'.get? T = some { cls := .none, data := .fields (#[] ++ m) } := ok' T _ em
  constructor
  · intro b o e
    by_cases hb : b = T
    · subst hb
      rw [d.tab] at e
      injection e with q
      subst q
      exact .inr (.inl ⟨(C.tab d.tab).isCodeTable, rfl, _, m, rfl, at'⟩)
    · exact .inl (stays b o hb e)
  · intro b o e
    by_cases hb : b = T
    · exact ⟨_, hb ▸ at'⟩
    · exact ⟨o, stays b o hb e⟩
end Door
end DL
set_option Elab.async false
set_option linter.all false
set_option maxRecDepth 100000
set_option maxHeartbeats 4000001
namespace DL
open PySem.Spec PySem L2 PyProof.Rows LamX
structure CalXF (P : Program) (w : World) (K : PySem.W.Frag) (mg : Str → Option Value) (base : Heap) (k : Nat) (x : Str) (ps : List Str) (m : MF) (xm : List D → Option Ex) : Prop where
  ex : ∃ (f : Addr) (fd : FuncData), FnX P w K mg base k f fd ps (spX K mg ps.length m xm) ∧ mg x = some (.ref f) ∧ PySem.W.keepIn K (.ref f) = true ∧ Binds K fd ps []
theorem calXF_of {P : Program} {w : World} {K : PySem.W.Frag} {mg : Str → Option Value} {base : Heap} {k : Nat} {f : Addr} {x y qual : Str} {params : Arguments} {body : List Stmt} {scope : Scope} {kws : List (Str × V)} {fd : FuncData} {ps : List Str} {m : MF} {xm : List D → Option Ex}
    (F : FunD K x qual params body scope [] kws f fd) (G : FnX P w K mg base k f fd ps (spX K mg ps.length m xm)) (gm : mg y = some (.ref f))
    (h : ∀ (kV doc pm : Value) (an : Option Addr) (cdv ct : Value) (us : List Value), us.length = ps.length → bindArgs (PySem.W.fnOf x qual params body scope .none kV doc pm an cdv ct) ⟨us, []⟩ = pure (ps.zip us)) : CalXF P w K mg base k y ps m xm :=
  ⟨f, fd, G, gm, F.kp, F.bindsN h⟩
section
variable {X : Cx} {x : Str} {p pos : Pos} {e : Expr} {es : List Expr} {as bs : List AS} {k : Nat} {ps ks : List Str} {m : MF} {xm : List D → Option Ex} {ord inv : List Nat} {kws : List Keyword}
theorem xx_call (c : CalXF X.prog X.w X.K X.mg X.base k x ps m xm) (hr : Room k X.A) (hg : X.A.guards = some []) (ha : IA X (e :: es) as) (hn : as.length + ([] : List D).length = ps.length := by rfl) (hgl : Gl X x := by rfl) (hdb : (x == ("__debug__" : Str)) = false := by decide)
    (he : starEach (e :: es) X.env = (false, eval e X.env) :: starEach es X.env := by rfl) (hpl : (backTo pos (starEach es X.env)).any (·.1) = false := by rfl) : XE' X (.Call (.Name x p) (e :: es) [] pos) (xCall xm as []) := by
  obtain ⟨f, fd, F, hm, hk, hb⟩ := c.ex
  exact xe_call [] F hr hg hgl hm hk hb .nil (fun _ _ => .nil) ha hn hdb he hpl
end
structure CatchD (K : PySem.W.Frag) (mg : Str → Option Value) (x base : Str) : Prop where
  ex : ∃ (g CS : Addr) (pg : Arguments) (bg : List Stmt) (sg : Scope) (fd : FuncData) (a : Str) (Ng : List Str), FunD K x x pg bg sg [] [] g fd ∧ mg x = some (.ref g) ∧ Binds K fd [a] [] ∧ FnScope Ng [a] sg ∧ Ng[0]? = some a ∧ Vis sg a ∧ mg base = some (.ref CS) ∧
    (a == ("__debug__" : Str)) = false ∧ (a == ("__classdict__" : Str)) = false ∧ ∀ (X : Cx) (q : Str) (cdv : Value), X.K = K → X.mg = mg → GivesTo X Ng x sg g cdv bg a q (TTc X.K CS)
theorem catch_of {K : PySem.W.Frag} {mg : Str → Option Value} {x base a r n : Str} {sg : Scope} {g CS : Addr} {pg : Arguments} {fd : FuncData} {j : Nat} {p0 p1 p2 p3 p4 p5 p6 p7 p8 p9 p10 p11 p12 p13 : Pos}
    (F : FunD K x x pg [.Assign [.Name r p0] (.Constant .none j p1) p2, .Try [.Expr (.Call (.Name a p3) [] [] p4) p5] [.ExceptHandler (some (.Name base p6)) (some n) [.Assign [.Name r p7] (.Name n p8) p9] p10] [] [] p11, .Return (some (.Name r p12)) p13] sg [] [] g fd)
    (gm : mg x = some (.ref g)) (gb : mg base = some (.ref CS)) (S : FnScope [a, r, n] [a] sg)
    (h : ∀ (kV doc pm : Value) (an : Option Addr) (cdv ct : Value) (us : List Value), us.length = 1 → bindArgs (PySem.W.fnOf x x pg [.Assign [.Name r p0] (.Constant .none j p1) p2, .Try [.Expr (.Call (.Name a p3) [] [] p4) p5] [.ExceptHandler (some (.Name base p6)) (some n) [.Assign [.Name r p7] (.Name n p8) p9] p10] [] [] p11, .Return (some (.Name r p12)) p13] sg .none kV doc pm an cdv ct) ⟨us, []⟩ = pure ([a].zip us))
    (hge : sg.names.lookup base = some .globalImplicit) (hde : (base == ("__debug__" : Str)) = false) (hr : sg.names.lookup r = some .local) (hn : sg.names.lookup n = some .local) (hv : Vis sg a) (hr1 : (r == ("__debug__" : Str)) = false) (hr2 : (r == ("__classdict__" : Str)) = false) (hn1 : (n == ("__debug__" : Str)) = false) (hn2 : (n == ("__classdict__" : Str)) = false)
    (ha1 : (a == ("__debug__" : Str)) = false) (ha2 : (a == ("__classdict__" : Str)) = false) : CatchD K mg x base :=
  ⟨g, CS, _, _, sg, fd, a, [a, r, n], F, gm, F.bindsN h, S, rfl, hv, gb, ha1, ha2, fun X q cdv eK eM => by
    subst eK eM
    exact caught_gives hge gb hde hr hn S.nd hr1 hr2 hn1 hn2⟩
end DL
set_option Elab.async false
set_option linter.all false
set_option maxRecDepth 100000
set_option maxHeartbeats 4000001
namespace DL
open PySem.Spec PySem L2 PyProof.Rows
/-- the base's own __init__, the new exception ahead of the arguments -/
theorem init_base {X : Cx} {pins : List (Addr × Obj)} {σ : L2.St} {Q : VK} {us : List Value} {s1 : Shared} (z : ∃ vs H1, Inv X pins σ H1 s1 ∧ Vals vs us ∧ ∃ a C ws, vs = .ref a :: ws ∧ ws.length ≤ 1000 ∧ OexC X.K C ∧ H1 a = some (exo a C none) ∧ Q .non H1) :
    wpAny (model X.prog X.w) X.A (call (.builtin "ValueError.__init__") us) (EP X pins σ Q) X.xe s1 := by
  obtain ⟨_, H1, I1, r, a, C, ws, rfl, l, T, ea, q⟩ := z
  rcases r with _ | ⟨rfl, r⟩
  exact oinit_ok T I1 ea (by rw [← Paired.length r]; exact Nat.le_trans l (by decide +kernel)) fun t J => ⟨.non, H1, J, rfl, q⟩
/-- B.__init__(self, ..), B an own class without an __init__ of its own -/
theorem pe_beinit {X : Cx} {x : Str} {B : Addr} {e : Expr} {es : List Expr} {ta : TA} {p1 p2 pos : Pos} {pl : Sem Bool} (hg : Gl X x) (hm : X.mg x = some (.ref B)) (hga : PySem.W.specialIn X.K (.ref B) "__getattribute__" = some (some (.builtin "type.__getattribute__")))
    (vB : PySem.W.findCls X.K (.ref B) (.type "type") "__init__" = some (.val (.builtin "ValueError.__init__"))) (tB : PySem.W.typeIn X.K (.ref B) = some (.type "type")) (rB : PySem.W.readsIn X.K B (.type "type") = true) (ha : PA X (e :: es) ta) (hdb : (x == ("__debug__" : Str)) = false)
    (hc : eval (.Call (.Attribute (.Name x p1) "__init__" p2) (e :: es) [] pos) X.env = (do
      let ov ← eval (.Name x p1) X.env
      standAt p2.atName
      let (f, first) ← holding [ov] (getMethod ov "__init__" pl)
      callWith pos f first (backTo pos (starEach (e :: es) X.env)) (backToKw pos (keywordEach [] X.env))))
    (he : starEach (e :: es) X.env = (false, eval e X.env) :: starEach es X.env) (hpl : (backTo pos (starEach es X.env)).any (·.1) = false) :
    PE X (.Call (.Attribute (.Name x p1) "__init__" p2) (e :: es) [] pos) (tVeI X.K ta) := by
  constructor
  intro pins s σ H Q I h
  obtain ⟨m, fr⟩ := I.fr
  have rest : ∀ us s1, (∃ vs H1, Inv X pins σ H1 s1 ∧ Vals vs us ∧ _) → _ := fun us s1 z => init_base (Q := Q) z
  apply PySem.W.methodCall_KW _ hc
  apply ld_glob I hg hm _ hdb
  apply PySem.W.method_of_cls fr I.ok.mod.kin hga
  apply PySem.W.cls_val fr I.ok.mod.kin tB rB vB (by decide +kernel)
  apply PyProof.Rows.callWith_method1 _ he hpl
  exact wpAny_mono (ha.run pos pins _ σ H _ (I.tok _) h) rest fun _ _ z => z
/-- what the written part says of the class above -/
structure BasC (K : PySem.W.Frag) (mg : Str → Option Value) (x : Str) (B : Addr) : Prop where
  m : mg x = some (.ref B)
  g : PySem.W.specialIn K (.ref B) "__getattribute__" = some (some (.builtin "type.__getattribute__"))
  v : PySem.W.findCls K (.ref B) (.type "type") "__init__" = some (.val (.builtin "ValueError.__init__"))
  t : PySem.W.typeIn K (.ref B) = some (.type "type")
  r : PySem.W.readsIn K B (.type "type") = true
/-- __init__(self, g): B.__init__(self, '..'); self.f = g -/
def spI (C : Addr) (f : Str) : L2.Sp := fun vs H Q _ => ∃ a v, vs = [.ref a, v] ∧ H a = some (exo a C none) ∧ ∀ d, H d = none → d ≠ a → Q .non (upd (upd H d (exd d [(f, v)])) a (exo a C (some d)))
theorem init1_ok {CX : CXT} {P : Program} {w : World} {K : PySem.W.Frag} {mg : Str → Option Value} {base : Heap} {k : Nat} {fI C B : Addr} {qual : Str} {params : Arguments} {scope : Scope} {kws : List (Str × V)} {fd : FuncData} {x f g z self : Str} {j : Nat} {p1 p2 p3 p4 p5 p6 p7 p8 p9 p10 : Pos}
    (F : FunD K "__init__" qual params [.Expr (.Call (.Attribute (.Name x p1) "__init__" p2) [.Name self p3, .Constant (.str z) j p4] [] p5) p6, .Assign [.Attribute (.Name self p7) f p8] (.Name g p9) p10] scope [] kws fI fd) (S : FnScope [self, g] [self, g] scope)
    (Bc : BasC K mg x B) (T : OexC K C) (hf : PySem.W.findIn K (.ref C) f = some none) (hg : scope.names.lookup x = some .globalImplicit) (h1 : scope.names.lookup self = some .local) (h2 : scope.names.lookup g = some .local)
    (hd : (x == ("__debug__" : Str)) = false) (d1 : (self == ("__debug__" : Str)) = false) (d2 : (self == ("__classdict__" : Str)) = false) (d3 : (g == ("__debug__" : Str)) = false) (d4 : (g == ("__classdict__" : Str)) = false)
    (hc : ∀ env : PySem.Env, ∃ pl : Sem Bool, eval (.Call (.Attribute (.Name x p1) "__init__" p2) [.Name self p3, .Constant (.str z) j p4] [] p5) env = (do
      let ov ← eval (.Name x p1) env
      standAt p2.atName
      let (f, first) ← holding [ov] (getMethod ov "__init__" pl)
      callWith p5 f first (backTo p5 (starEach [.Name self p3, .Constant (.str z) j p4] env)) (backToKw p5 (keywordEach [] env))))
    (hs : ∀ env : PySem.Env, swapsWith (.Name g p9) (some (.Attribute (.Name self p7) f p8)) p10.line env = pure false)
    (hs2 : ∀ env : PySem.Env, swapsWith (.Call (.Attribute (.Name x p1) "__init__" p2) [.Name self p3, .Constant (.str z) j p4] [] p5) none p6.line env = pure false) : FnOk P w K mg base CX (k + 1) fI fd [self, g] (spI C f) := by
  refine F.ok (N := [self, g]) S (fun vs H Q E h => by obtain ⟨a, v, rfl, _⟩ := h; rfl) fun cdv A outer s H vs Q E hr ⟨a, v, ev, ea, q⟩ => ?_
  subst ev
  obtain ⟨pl, hpl⟩ := hc (cxOf CX P w K mg base [self, g] qual scope fI cdv A outer s H E).env
  have eB := pe_beinit (X := cxOf CX P w K mg base [self, g] qual scope fI cdv A outer s H E) (x := x) (B := B) (e := .Name self p3) (es := [.Constant (.str z) j p4]) (p1 := p1) (p2 := p2) (pos := p5) (pl := pl) hg Bc.m Bc.g Bc.v Bc.t Bc.r (pa_cons (pe_var (i := 0) rfl (.inl h1) d1 d2) (pa_cons pe_str pa_nil)) hd hpl rfl rfl
  refine ⟨_, pss_cons (ps_expr eB (hs2 _)) (pss_one (ps_ost (pe_var (i := 0) rfl (.inl h1) d1 d2) (pe_var (i := 1) rfl (.inl h2) d3 d4) (hs _))), ?_⟩
  refine ⟨.ref a, rfl, a, C, [.str z], rfl, (show 1 ≤ 1000 by decide), T, ea, ?_⟩
  exact ⟨v, rfl, .ref a, rfl, a, C, rfl, T, hf, .inl ⟨ea, fun dx n ne => q dx n ne⟩⟩
def xRaise1 (c f : Str) (m : ME) : MX := fun δ => match m δ with
  | some (d, _) => some ⟨c, [f], [fz d]⟩
  | none => none
theorem heap_mk {H1 : Hp} {a d C : Addr} {f : Str} {v : V} (ha : H1 a = none) (hne : d ≠ a) : upd (del (upd (upd (upd H1 a (exo a C none)) d (exd d [(f, v)])) a (exo a C (some d))) a) d (.xd [(f, v)]) = upd H1 d (.xd [(f, v)]) := by
  funext b
  by_cases hb : b = d
  · subst hb
    rw [upd_same, upd_same]
  · rw [upd_ne hb, upd_ne hb]
    by_cases hba : b = a
    · subst hba
      rw [del_same, ha]
    · rw [del_ne hba, upd_ne hba, upd_ne hb, upd_ne hba]
theorem xs_raise1 {X : Cx} {C fI : Addr} {k : Nat} {fd : FuncData} {x f self g : Str} {e : Expr} {m : ME} {p p3 pos : Pos} (hcl : X.calm = true) (T : OexC X.K C) (iC : PySem.W.findIn X.K (.ref C) "__init__" = some (some (.ref fI))) (tI : PySem.W.typeIn X.K (.ref fI) = some (.type "function"))
    (F1 : FnOk X.prog X.w X.K X.mg X.base C8.CX0 k fI fd [self, g] (spI C f)) (hr : Room (k + 1) X.A) (hb : Binds X.K fd [self, g] []) (hg : Gl X x) (hm : X.mg x = some (.ref C)) (he : IG X e m)
    (hdb : (x == ("__debug__" : Str)) = false) (hse : starEach [e] X.env = (false, eval e X.env) :: starEach [] X.env) : XS X (.Raise (some (.Call (.Name x p) [e] [] p3)) none pos) (xRaise1 x f m) := by
  intro Z Hb H σ δ L ex s e' q Dn
  unfold xRaise1 at e'
  split at e'
  · rename_i d δ1 e1
    cases e'
    refine wS_of (ps_raise hcl takes_wx (pmk_oex (dvs := []) (ds := []) T iC tI F1 hr hb .nil pass0 hg hm (pa_cons pe_w pa_nil hse) hdb hse rfl)) ?_
    refine he s e1 _ fun v H1 s1 => ?_
    refine ⟨(show 1 ≤ 1000 by decide), fun a ha => ?_⟩
    refine ⟨a, v, rfl, upd_same, fun dx hn hne => ?_⟩
    have hn1 : H1 dx = none := by rw [upd_ne hne] at hn; exact hn
    refine ⟨rfl, dx, [(f, v)], upd_same, by rw [upd_ne hne, upd_same], hn1, ?_⟩
    rw [heap_mk ha hne]
    refine q _ _ σ _ ⟨C, rfl, hm, .inr ⟨dx, [v], rfl, by simp, rfl, rfl, ?_, ?_⟩⟩
    · show (isFz (fz d) && true) = true
      rw [isFz_fz]; rfl
    · have s2 : Sp X.K X.mg Z Hb H1 ((v, fz d) :: (L ++ prs σ δ1)) := Sp.freeze s1.sp
      have s3 : Sp X.K X.mg Z Hb (upd H1 dx (.xd [(f, v)])) ((.ref dx, .raw true (.xd [(f, v)])) :: ((v, fz d) :: (L ++ prs σ δ1))) := Sp.new (Q := []) s2 hn1 fun Y F r => by
        cases r
        exact ⟨[dx], .rawO upd_same rfl trivial, .inr rfl⟩
      refine Sp.dropL (L := prs σ δ1) (s3.perm ?_)
      show ((V.ref dx, D.raw true (.xd [(f, v)])) :: (v, fz d) :: (L ++ prs σ δ1)).Perm (prs σ δ1 ++ ((V.ref dx, D.raw true (.xd [(f, v)])) :: (v, fz d) :: L))
      exact List.perm_append_comm (l₁ := (V.ref dx, D.raw true (.xd [(f, v)])) :: (v, fz d) :: L) (l₂ := prs σ δ1)
  · cases e'
theorem Sp.excF {K : PySem.W.Frag} {mg : Str → Option Value} {H Hb : Hp} {Z : Addr → Prop} {P : PL} {a C dd : Addr} {c : Str} {ns : List Str} {vs : List V} {ds : List D} (s : Sp K mg Z Hb H ((.ref dd, .raw true (.xd (ns.zip vs))) :: (vs.zip ds ++ P))) (ha : H a = none) (hc : mg c = some (.ref C)) (hne : ns ≠ []) (hl : vs.length = ns.length) (hd : ds.length = ns.length) (hf : isFzs ds = true) :
    Sp K mg Z Hb (upd H a (ExV (.ref C) (some dd) a)) ((.ref a, .exc c ns ds) :: P) := by
  have hdd : H dd = some (.xd (ns.zip vs)) := by
    obtain ⟨Y, F, r⟩ := s.head
    cases r with
    | rawO h _ _ => exact h
  have nda : dd ≠ a := fun e => by rw [e, ha] at hdd; cases hdd
  have hdd2 : upd H a (ExV (.ref C) (some dd) a) dd = some (.xd (ns.zip vs)) := by rw [upd_ne nda]; exact hdd
  have s1 : Sp K mg Z Hb H ((.ref dd, .raw false (.xd (ns.zip vs))) :: (vs.zip ds ++ P)) := s.freeze
  have s2 : Sp K mg Z Hb (upd H a (ExV (.ref C) (some dd) a)) ((.ref a, .raw true (ExV (.ref C) (some dd) a)) :: ((.ref dd, .raw false (.xd (ns.zip vs))) :: (vs.zip ds ++ P))) := Sp.new (Q := []) s1 ha fun Y F r => by
    cases r
    exact ⟨[a], .rawO upd_same rfl trivial, .inr rfl⟩
  have s3 : Sp K mg Z Hb (upd H a (ExV (.ref C) (some dd) a)) ((.ref a, .raw false (ExV (.ref C) (some dd) a)) :: ((.ref dd, .raw false (.xd (ns.zip vs))) :: (vs.zip ds ++ P))) := s2.freeze
  refine Sp.conv (Q := (.ref a, .raw false (ExV (.ref C) (some dd) a)) :: (.ref dd, .raw false (.xd (ns.zip vs))) :: vs.zip ds) (Q' := [(.ref a, .exc c ns ds)]) s3 fun Y F r => ?_
  cases r with
  | cons q t => cases q with
    | rawF _ _ z _ => cases t with
      | cons q2 t2 => cases q2 with
        | rawF _ _ z2 _ =>
          have u := t2.unzip (by omega)
          have e := u.own_nil hf
          subst e
          have hfs : (ns.zip vs).map (·.1) = ns := List.map_fst_zip (by omega)
          have hsn : (ns.zip vs).map (·.2) = vs := List.map_snd_zip (by omega)
          have r0 : Rep K mg (upd H a (ExV (.ref C) (some dd) a)) Y (.ref a) (.exc c ns ds) [] := .exc (fs := ns.zip vs) upd_same z hc (.inr ⟨dd, rfl, fun e => hne (by rw [← hfs, e]; rfl), hdd2, z2⟩) hfs (by rw [hsn]; exact u)
          simpa using Rps.cons r0 (Rps.nil (K := K) (mg := mg) (Z := Y))
end DL
set_option Elab.async false
set_option linter.all false
set_option maxRecDepth 100000
set_option maxHeartbeats 4000001
namespace DL
open PySem.Spec PySem L2 PyProof.Rows LamX
end DL
set_option Elab.async false
set_option linter.all false
set_option maxRecDepth 100000
set_option maxHeartbeats 4000001
namespace DL
open PySem.Spec PySem L2 PyProof.Rows
section
variable {prog : Program} {w : World} {A : Around} {E : Value → Shared → Prop} {s : Shared} {K : PySem.W.Frag} {x D : Addr} {ox : Obj} {od : Option Obj}
theorem class_found (C : ExcC K D) : PySem.W.findObj K D od "__class__" = some (.bind (.builtin "getset_descriptor.__get__") (.builtin "object.__class__")) := by
  obtain ⟨cd, e, _⟩ := PySem.W.any_some C.hd
  simp only [PySem.W.findObj, e, C.ha, C.hn, C.ht, Option.bind_some]
/-- the base's own look at the class: what its descriptor hands out -/
theorem class_looked {Q : Value → Shared → Prop} {t : Tok} (C : ExcC K D) (X : K.In s.heap) (I : PySem.W.InstAt s.heap x ox D od) (q : Q (.ref D) s) :
    wpAny (model prog w) A (call (.builtin "BaseException.__getattribute__") [.ref x, .str "__class__" t]) Q E s := by
  obtain ⟨hp, g, d, tk, os⟩ := s
  have ty := I.type (M := model prog w)
  have sub : PySem.W.Looks (model prog w) hp (isInstance (.ref x) (.type "BaseException")) true := ty.andThen (PySem.W.looks_subIn X C.hs)
  apply wpAny_call
  apply codeAny_call_builtin PySem.F.excAttr_ValueError.ga.plain PySem.F.entry_bexc_ga
  apply @PySem.W.check_slot (model prog w) _ _ ⟨hp, g, d, tk, os⟩ "BaseException.__getattribute__" "BaseException" "__getattribute__" (.ref x) [.str "__class__" t] [] _ (by decide +kernel) (by decide +kernel) sub (PySem.F.args_bexc_ga _ _)
  unfold Builtin.«object.__getattribute__»
  apply wpAny_bind
  apply wpAny_of_eq (a := ((Value.ref x : Value), [Value.str "__class__" t])) (by first | rfl | (simp only [slotArgs]; rfl))
  apply wpAny_bind
  apply wpAny_pure
  apply wpAny_bind
  apply ty.at
  apply wpAny_bind
  apply (PySem.W.looks_find (M := model prog w) X I (class_found C)).at
  apply wpAny_bind
  apply wpAny_holding
  apply wpAny_call
  apply PySem.W.class_get (s := ⟨hp, g, d, tk, os⟩) (ox := ox) (od := od) X I C.hm
  apply wpAny_pure
  exact q
theorem class_asked {Q : Option Value → Shared → Prop} (C : ExcC K D) (X : K.In s.heap) (I : PySem.W.InstAt s.heap x ox D od) (q : Q (some (.ref D)) { s with toks := s.toks + 1 }) : wpAny (model prog w) A (getAttr? (.ref x) "__class__") Q E s := by
  have other : (Value.builtin "BaseException.__getattribute__" == Value.builtin "object.__getattribute__") = false := by decide +kernel
  unfold getAttr? getAttrBy? getAttrBy
  apply wpAny_bind
  apply wpAny_mkText
  apply wpAny_bind
  apply wpAny_attempt
  apply wpAny_holding
  apply wpAny_bind
  apply (I.type (M := model prog w)).at
  apply wpAny_bind
  apply (PySem.W.looks_findIn (M := model prog w) X C.hg).at
  change wpAny _ _ (if (true && Value.builtin "BaseException.__getattribute__" == Value.builtin "object.__getattribute__") = true then _ else _) _ _ _
  simp only [other, Bool.and_false, Bool.false_eq_true, ↓reduceIte]
  unfold getAttrByItsOwn hookBefore
  apply wpAny_bind
  rw [if_pos (show onTheHeap (Value.ref D) = true from rfl)]
  apply (PySem.W.looks_findIn (M := model prog w) X C.hk).at
  apply wpAny_bind
  apply wpAny_attempt
  apply wpAny_holding
  unfold callGetattribute
  rw [show (false && onTheHeap (Value.builtin "BaseException.__getattribute__")) = false from rfl]
  simp only [Bool.false_eq_true, ↓reduceIte]
  unfold boundAndCalled
  rw [PySem.F.excAttr_ValueError.ga.bind (.ref x)]
  apply wpAny_bind
  apply wpAny_pure
  refine class_looked (s := { s with toks := s.toks + 1 }) C X I ?_
  apply PySem.W.handed_on rfl
  exact wpAny_pure q
theorem cls_there (C : ExcC K D) : ∃ c d cd sl, K.lookup D = some ⟨c, d, .cls cd, sl⟩ := by
  obtain ⟨cd, e, _⟩ := PySem.W.any_some C.hd
  simp only [PySem.W.clsIn] at e
  split at e
  · exact ⟨_, _, _, _, by assumption⟩
  · exact nomatch e
theorem kitX_exc (C : ExcC K D) : PySem.W.KitX K (.ref x) (.ref D) (fun h => PySem.W.InstAt h x ox D od) where
  ty := fun _ _ _ => PySem.W.InstAt.type
  it := fun _ _ X _ _ _ _ _ k q => by
    obtain ⟨_, _, _, _, e⟩ := cls_there C
    unfold isType loadHead
    apply wpAny_bind
    apply wpAny_loadPart (k _ _ (X _ _ e))
    exact wpAny_pure q
  ne := fun h tp _ _ _ _ X at_ => by
    obtain ⟨_, _, _, _, e⟩ := cls_there C
    rw [beq_eq_false_iff_ne]
    intro z
    cases z
    cases (X _ _ e).symm.trans at_
  ca := fun X I q => class_asked C X I q
end
/-- an exception that is kept, as the heap holds it -/
theorem exV_inst {P : Program} {w : World} {H : Hp} {h : Heap} {a D : Addr} {d : Option Addr} {fs : List (Str × V)} (hok : HOk P w H h) (e : H a = some (ExV (.ref D) d a)) (alt : (d = none ∧ fs = []) ∨ ∃ dd, d = some dd ∧ H dd = some (.xd fs)) :
    ∃ ox od, PySem.W.InstAt h a ox D od ∧ (∀ name v, fs.lookup name = some v → ∃ o u, od = some o ∧ PySem.W.lookIn name o = some (some u) ∧ RelV v u) := by
  obtain ⟨⟨ox, vs, at_, ⟨z1, z2⟩, z3⟩, _⟩ := hok a _ e
  have no : PySem.W.notCls ox = true := by unfold PySem.W.notCls; rw [z3]
  rcases alt with ⟨rfl, rfl⟩ | ⟨dd, rfl, ed⟩
  · exact ⟨ox, none, ⟨at_, z1, no, by rw [z2]; trivial⟩, fun name v q => nomatch q⟩
  · obtain ⟨m, ns, rel⟩ := (show ObjOk P w H h dd (.xd fs) from hok dd _ ed)
    obtain ⟨o, ho, look⟩ := lookIn_ns ns
    refine ⟨ox, some o, ⟨at_, z1, no, by rw [z2]; exact ho⟩, fun name v q => ?_⟩
    obtain ⟨u, eu, ru⟩ := RelO.some_of (v := v) (o := m name) (q ▸ rel name)
    exact ⟨o, u, rfl, by rw [look, eu], ru⟩
/-- isinstance(e, c), e an exception that is kept -/
def rIsF (K : PySem.W.Frag) : List V → Hp → VK → Prop := fun xs H Q => ∃ (a D : Addr) (d : Option Addr) (fs : List (Str × V)) (c : V) (cv : Value) (b : Bool), xs = [.ref a, c] ∧ H a = some (ExV (.ref D) d a) ∧ ((d = none ∧ fs = []) ∨ ∃ dd, d = some dd ∧ H dd = some (.xd fs)) ∧ ExcC K D ∧ ClsV c cv ∧
  PySem.W.kitOne K (.ref D) cv = some b ∧ Q (.bl b) H
theorem call_isF {X : Cx} : CallR X (.builtin "isinstance") (rIsF X.K) := by
  rintro pins s σ H _ us Q I r ⟨a, D, d, fs, c, cv, b, rfl, ha, alt, C, hc, e, q⟩
  rcases r with _ | ⟨rfl, _ | ⟨rt, _ | _⟩⟩
  cases hc.eq rt
  obtain ⟨ox, od, J, _⟩ := exV_inst I.hok ha alt
  exact PySem.W.kia_one (kitX_exc C) I.kIn J e nofun fun tk => ⟨.bl b, H, I.tok tk, rfl, q⟩
end DL
set_option Elab.async false
set_option linter.all false
set_option maxRecDepth 100000
set_option maxHeartbeats 4000001
namespace DL
open PySem.Spec PySem PyProof.Rows PySem.HandSPX
end DL
set_option Elab.async false
set_option linter.all false
set_option maxRecDepth 100000
set_option maxHeartbeats 4000001
namespace DL
open PySem.Spec PySem L2 PyProof.Rows
end DL
set_option Elab.async false
set_option linter.all false
set_option maxRecDepth 100000
set_option maxHeartbeats 4000001
namespace DL
open PySem.Spec PySem L2 PyProof.Rows
section
variable {α β : Type} {i : MI} {own : List Nat} {t : MG} {c : MT} {m : ME} {b : MS} {δ δ1 : DL.Env}
theorem loopC_typ (g : α → D) (p : α → Bool) (f : α → D) : ∀ (xs : List α) (acc : List D), (∀ x ∈ xs, ∃ δa, t (g x) δ1 = some δa ∧ wipeE δa own = δ1 ∧ c δa = some (p x, δa) ∧ (p x = true → m δa = some (f x, δa))) →
    loopC own t c m (xs.map g) δ1 acc = some (acc ++ (xs.filter p).map f, δ1)
  | [], acc, h => by simp [loopC]
  | x :: xs, acc, h => by
    obtain ⟨δa, h1, h2, h3, h4⟩ := h x List.mem_cons_self
    have ih := loopC_typ g p f xs
    have hr : ∀ y ∈ xs, _ := fun y hy => h y (List.mem_cons_of_mem _ hy)
    rw [List.map_cons]
    simp only [loopC, h1, h3]
    cases hp : p x with
    | false =>
      simp only [h2]
      rw [ih acc hr, List.filter_cons, hp]
      simp
    | true =>
      simp only [h4 hp, h2]
      rw [ih _ hr, List.filter_cons, hp]
      simp
theorem lc_typ (xs : List α) (g : α → D) (p : α → Bool) (f : α → D) (hi : i δ = some (xs.map g, δ1)) (hw : wipeE δ1 own = δ1) (hl : xs.length ≤ sizeLine)
    (h : ∀ x ∈ xs, ∃ δa, t (g x) δ1 = some δa ∧ wipeE δa own = δ1 ∧ c δa = some (p x, δa) ∧ (p x = true → m δa = some (f x, δa))) :
    mLc i own t c m δ = some (.lst true ((xs.filter p).map f), δ1) := by
  unfold mLc
  rw [hi]
  simp only [List.length_map, hl, if_true, hw, loopC_typ g p f xs [] h, List.nil_append]
theorem lc_map (xs : List α) (g : α → D) (f : α → D) (hi : i δ = some (xs.map g, δ1)) (hw : wipeE δ1 own = δ1) (hl : xs.length ≤ sizeLine)
    (h : ∀ x ∈ xs, ∃ δa, t (g x) δ1 = some δa ∧ wipeE δa own = δ1 ∧ m δa = some (f x, δa)) :
    mLc i own t tTrue m δ = some (.lst true (xs.map f), δ1) := by
  have := lc_typ (c := tTrue) (m := m) xs g (fun _ => true) f hi hw hl fun x hx => by
    obtain ⟨δa, h1, h2, h3⟩ := h x hx
    exact ⟨δa, h1, h2, rfl, fun _ => h3⟩
  rw [this, List.filter_eq_self.mpr fun _ _ => rfl]
theorem bls_map (xs : List α) (q : α → Bool) : blsOf (xs.map fun x => D.bl (q x)) = some (xs.map q) := by
  induction xs with
  | nil => rfl
  | cons x xs ih => simp only [List.map_cons, blsOf, ih, Option.map_some]
theorem all_typ (xs : List α) (g : α → D) (q : α → Bool) (hi : i δ = some (xs.map g, δ1)) (hw : wipeE δ1 own = δ1) (hl : xs.length ≤ sizeLine)
    (h : ∀ x ∈ xs, ∃ δa, t (g x) δ1 = some δa ∧ wipeE δa own = δ1 ∧ m δa = some (.bl (q x), δa)) :
    mCallB dAll (mCons (mLc i own t tTrue m) mNil) δ = some (.bl (xs.all q), δ1) := by
  refine ev_call1 (lc_map xs g (fun x => .bl (q x)) hi hw hl h) ?_
  simp only [dAll, bls_map, Option.map_some, List.all_map]
  rfl
theorem enumF_typ (g : α → D) : ∀ (xs : List α) (k : Nat), enumF k (xs.map g) = (xs.zipIdx k).map fun p => D.tup [.int p.2, g p.1]
  | [], k => rfl
  | x :: xs, k => by simp only [List.map_cons, enumF, enumF_typ g xs (k + 1), List.zipIdx_cons]
theorem fzs_typ (g : α → D) (hg : ∀ x, isFz (g x) = true) (xs : List α) : fzs (xs.map g) = xs.map g := fzs_isFzs _ (isFzs_iff.mpr fun d hd => by
  obtain ⟨x, _, rfl⟩ := List.mem_map.mp hd
  exact hg x)
theorem isFzs_typ (g : α → D) (hg : ∀ x, isFz (g x) = true) (xs : List α) : isFzs (xs.map g) = true := isFzs_iff.mpr fun d hd => by
  obtain ⟨x, _, rfl⟩ := List.mem_map.mp hd
  exact hg x
theorem fzs_strs (xs : List Str) : fzs (xs.map D.str) = xs.map D.str := fzs_typ _ (fun _ => rfl) xs
theorem isFzs_strs (xs : List Str) : isFzs (xs.map D.str) = true := isFzs_typ _ (fun _ => rfl) xs
theorem iAny_tup {a : ME} {ds : List D} (h : a δ = some (.tup ds, δ1)) (hf : isFzs ds = true) : iAny a δ = some (ds, δ1) := by
  unfold iAny iLst iTup
  rw [h]
  simp only [itemsD, fzs_isFzs ds hf]
theorem iAny_lst {a : ME} {o : Bool} {ds : List D} (h : a δ = some (.lst o ds, δ1)) : iAny a δ = some (fzs ds, δ1) := by
  unfold iAny iLst
  rw [h]
  rfl
end
theorem toPys_strs : ∀ L : List Str, toPys (L.map D.str) = some (L.map PyData.str)
  | [] => rfl
  | x :: r => by simp only [List.map_cons, toPys, toPy, toPys_strs r]
theorem canLay_strs : ∀ L : List Str, (∀ x ∈ L, PyData.strOk x = true) → PyData.canLayAll0 (L.map PyData.str) = true
  | [], _ => rfl
  | x :: r, h => by simp only [List.map_cons, PyData.canLayAll0, PyData.canLay0, h x List.mem_cons_self, canLay_strs r fun y hy => h y (List.mem_cons_of_mem _ hy), Bool.and_self]
theorem depth_strs : ∀ L : List Str, PyData.depthAll (L.map PyData.str) = 0
  | [] => rfl
  | x :: r => by simp only [List.map_cons, PyData.depthAll, PyData.depth, depth_strs r]; rfl
theorem shaped_strs (L : List Str) (h : ∀ x ∈ L, PyData.strOk x = true) : SeqAt.shaped (.list (L.map PyData.str)) = true ∧ SeqAt.shaped (.tuple (L.map PyData.str)) = true := by
  constructor
  · unfold SeqAt.shaped
    simp only [PyData.canLay0, canLay_strs L h, PyData.depth, depth_strs]
    decide
  · unfold SeqAt.shaped
    simp only [PyData.canLay0, canLay_strs L h, PyData.depth, depth_strs]
    decide
theorem str_ext {x y : Str} (h : x.cps.toList = y.cps.toList) : x = y := by
  obtain ⟨a⟩ := x
  obtain ⟨b⟩ := y
  have : a = b := Array.toList_inj.mp h
  rw [this]
theorem Lab.ok {z : Str} (h : Lab z) : PyData.strOk z = true := by
  have e : z.cps.all (fun c => decide (c < 0x110000)) = true := by
    rw [← Array.all_toList]
    exact List.all_eq_true.mpr fun c hc => decide_eq_true (by have := h.c c hc; omega)
  first | exact e | (unfold PyData.strOk; exact e) | (unfold PyData.strOk Str.ok; exact e)
/-- a def of frozen things -/
theorem fin_rt {np N : Nat} {P : Nat → Bool} {b : MS} {ds : List D} {r : D} {δ : DL.Env} (hl : ds.length = np) (hP : ∀ j, j < np → P j = true) (h : b (ds.map some ++ List.replicate (N - np) none) = some (.rt r (ds.map some ++ δ))) : mFun np N P b ds = some (r, ds) := by
  have hb : ∀ (es : List D) (k : Nat) (γ : DL.Env), (∀ (j : Nat) (d : D), es[j]? = some d → γ[k + j]? = some (some d)) → (∀ j, k ≤ j → j < k + es.length → P j = true) → backs P k es γ = some es := by
    intro es
    induction es with
    | nil => intro k γ _ _; simp [backs]
    | cons d es ih =>
      intro k γ hg hk
      have h0 := hg 0 d rfl
      have := ih (k + 1) γ (fun j e he => by
        have := hg (j + 1) e (by simpa using he)
        rwa [show k + (j + 1) = k + 1 + j from by omega] at this) fun j h1 h2 => hk j (by omega) (by simp at h2 ⊢; omega)
      rw [Nat.add_zero] at h0
      simp [backs, hk k (by omega) (by simp), this, h0]
  unfold mFun
  rw [if_pos hl, h]
  simp only
  rw [hb ds 0 _ (fun j d he => ?_) fun j _ hj => hP j (by omega)]
  have hj := (List.getElem?_eq_some_iff.mp he).1
  rw [Nat.zero_add, List.getElem?_append_left (by simpa using hj), List.getElem?_map, he]
  rfl
theorem ownC_fz {d : D} (h : isFz d = true) : ownC d = false := by
  cases d with
  | lst o ds => cases o <;> simp_all [isFz, ownC]
  | dct o ks vs => cases o <;> simp_all [isFz, ownC]
  | obj o c ns vs => cases o <;> simp_all [isFz, ownC]
  | _ => rfl
theorem walk_nilF {d : D} (h : isFz d = true) : walk d [] = some (d, d) := by rw [walk, if_pos h]
theorem walkF {d e t e' : D} {st : Stp} {p : List Stp} {j : Nat} (hf : isFz d = true) (hj : chN d st = some j) (he : (kids d)[j]? = some e) (hw : walk e p = some (t, e')) : walk d (st :: p) = some (t, d) := by
  rw [walk]
  simp only [hj, he, ownC_fz hf, hf, hw]
  rfl
theorem ev_path {i : Nat} {mp : MP} {δ : DL.Env} {d t d' : D} {p : List Stp} (hd : δ[i]? = some (some d)) (hp : mp δ = some p) (hw : walk d p = some (t, d')) : mPath i mp δ = some (t, δ.set i (some d')) := by
  unfold mPath
  simp only [hd, hp, hw]
theorem ev_pathF {i : Nat} {mp : MP} {δ : DL.Env} {d t : D} {p : List Stp} (hd : δ[i]? = some (some d)) (hp : mp δ = some p) (hw : walk d p = some (t, d)) : mPath i mp δ = some (t, δ) := by
  rw [ev_path hd hp hw]
  congr 2
  apply List.ext_getElem?
  intro n
  rw [List.getElem?_set]
  split
  · rename_i e
    subst e
    rw [if_pos (List.getElem?_eq_some_iff.mp hd).1, hd]
  · rfl
theorem ev_altE {a b : ME} {δ : DL.Env} {r : D × DL.Env} (h : a δ = some r) : mAlt a b δ = some r := by
  unfold mAlt
  rw [h]
theorem ev_altI {a b : MI} {δ : DL.Env} {r : List D × DL.Env} (h : a δ = some r) : iAlt a b δ = some r := by
  unfold iAlt
  rw [h]
theorem ev_fz {a : ME} {δ δ1 : DL.Env} {d : D} (h : a δ = some (d, δ1)) : mFz a δ = some (fz d, δ1) := by
  unfold mFz
  rw [h]
theorem ev_expr {m : ME} {δ δ1 : DL.Env} {d : D} (h : m δ = some (d, δ1)) : sExpr m δ = some (.nx δ1) := by
  unfold sExpr
  rw [h]
theorem add_str {a b : Str} (h : a.length + b.length ≤ sizeLine) : dAdd (.str a) (.str b) = some (.str (a ++ b)) := by
  unfold dAdd
  exact if_pos h
theorem add_tup {a b : List D} (h : a.length + b.length ≤ sizeLine) : dAdd (.tup a) (.tup b) = some (.tup (a ++ b)) := by
  unfold dAdd
  exact if_pos h
theorem gAppend_ok {ds : List D} {x : D} (h : ds.length < sizeLine) : gAppend (.lst true ds) [x] = some (.non, .lst true (ds ++ [x])) := by
  unfold gAppend
  exact if_pos h
/-- a tuple of texts -/
def tpS (xs : List Str) : D := .tup (xs.map D.str)
theorem fz_tps (xs : List Str) : isFz (tpS xs) = true := by simp only [tpS, isFz, isFzs_strs]
theorem ev_and2 {a b : MT} {δ : DL.Env} {p q : Bool} (h : a δ = some (p, δ)) (h2 : p = true → b δ = some (q, δ)) : tAnd2 a b δ = some (p && q, δ) := by
  unfold tAnd2
  rw [h]
  cases p
  · rfl
  · simp only [h2 rfl, Bool.true_and]
theorem ev_some {m : ME} {δ δ1 : DL.Env} {i : Int} (h : m δ = some (.int i, δ1)) : oSome m δ = some (some i, δ1) := by
  unfold oSome
  rw [h]
theorem ev_lst {r : ML} {δ δ1 : DL.Env} {xs : List D} (h1 : r δ = some (xs, δ1)) (hz : xs.length ≤ sizeLine) : mLst r δ = some (.lst true xs, δ1) := by
  unfold mLst
  rw [h1]
  exact if_pos hz
theorem ev_cve {m : MF} {a : ME} {i : Nat} {d d1 d' x x' r : D} {δ δ1 : DL.Env} (h0 : δ[i]? = some (some d)) (ha : a δ = some (x, δ1)) (h1 : δ1[i]? = some (some d1)) (hf : isFz d1 = false) (h : m [d1, x] = some (r, [d', x'])) : mCall m [.v i, .e a] [] δ = some (r, δ1.set i (some d')) := by
  simp [mCall, mArgs, lend, restore, h0, ha, h1, hf, h]
theorem ev_ce1 {m : MF} {a : ME} {x x' r : D} {δ δ1 : DL.Env} (ha : a δ = some (x, δ1)) (h : m [x] = some (r, [x'])) : mCall m [.e a] [] δ = some (r, δ1) := by
  simp [mCall, mArgs, lend, restore, ha, h]
theorem ev_cv {m : MF} {i : Nat} {d d' r : D} {δ : DL.Env} (h0 : δ[i]? = some (some d)) (hf : isFz d = false) (h : m [d] = some (r, [d'])) : mCall m [.v i] [] δ = some (r, δ.set i (some d')) := by
  simp [mCall, mArgs, lend, restore, h0, hf, h]
theorem cut_from {α : Type} (ds : List α) (k : Nat) : DL.cutD ds (some (k : Int)) none = ds.drop k := by
  unfold DL.cutD
  rw [HT.sIx_none, HT.sIx_nat]
  rcases Nat.le_total k ds.length with h | h
  · rw [Nat.min_eq_left h, List.take_of_length_le (by rw [List.length_drop]; exact Nat.le_refl _)]
  · rw [Nat.min_eq_right h, List.drop_of_length_le (Nat.le_refl _), List.drop_of_length_le h]
    simp
theorem cut_to {α : Type} (ds : List α) (k : Nat) : DL.cutD ds none (some (k : Int)) = ds.take k := by
  unfold DL.cutD
  rw [HT.sIx_none, HT.sIx_nat]
  simp
end DL
set_option Elab.async false
set_option linter.all false
set_option maxRecDepth 100000
set_option maxHeartbeats 4000001
namespace DL
open PySem.Spec PySem L2 PyProof.Rows
structure Bd (n : Nat) (y : Str) : Prop where
  ok : ∀ c ∈ y.cps.toList, c < 0x110000
  len : y.length ≤ n
theorem Bd.mono {n m : Nat} {y : Str} (h : Bd n y) (hm : n ≤ m) : Bd m y := ⟨h.ok, Nat.le_trans h.len hm⟩
theorem cps_app (x y : Str) : (x ++ y).cps.toList = x.cps.toList ++ y.cps.toList := TL.tl_append x y
theorem Bd.app {n m : Nat} {x y : Str} (h : Bd n x) (k : Bd m y) : Bd (n + m) (x ++ y) := by
  refine ⟨fun c hc => ?_, by rw [strLen_append]; exact Nat.add_le_add h.len k.len⟩
  rw [cps_app] at hc
  (rcases List.mem_append.mp hc with hc | hc)
  · exact h.ok c hc
  · exact k.ok c hc
theorem bd_lit {y : Str} (h : (y.cps.toList.all fun c => decide (c < 0x110000)) = true) : Bd y.length y := ⟨fun c hc => by simpa using List.all_eq_true.mp h c hc, Nat.le_refl _⟩
theorem bd_cs : Bd 2 (Str.ofString ", ") := (bd_lit (by decide +kernel)).mono (by decide +kernel)
theorem Bd.join {n : Nat} : ∀ {ts : List Str}, (∀ t ∈ ts, Bd n t) → Bd (ts.length * (n + 2)) (Str.join ", " ts)
  | [], _ => ⟨fun c hc => (by cases hc), Nat.zero_le _⟩
  | [x], h => (h x List.mem_cons_self).mono (by simp)
  | x :: y :: r, h => by
    have ih := Bd.join (ts := y :: r) fun t ht => h t (List.mem_cons_of_mem _ ht)
    have e : Str.join ", " (x :: y :: r) = x ++ Str.ofString ", " ++ Str.join ", " (y :: r) := rfl
    rw [e]
    refine (((h x List.mem_cons_self).app bd_cs).app ih).mono ?_
    simp only [List.length_cons, Nat.add_mul]
    omega
theorem Bd.tuple {n : Nat} {ts : List Str} (h : ∀ t ∈ ts, Bd n t) : Bd (ts.length * (n + 2) + 3) (tupleText ts) := by
  have a : Bd 1 (Str.ofString "(") := (bd_lit (by decide +kernel)).mono (by decide +kernel)
  have b : ∀ k : Bool, Bd 2 (Str.ofString (if k then ",)" else ")")) := fun k => by cases k <;> exact (bd_lit (by decide +kernel)).mono (by decide +kernel)
  exact (((a.app (Bd.join h)).app (b (ts.length == 1)))).mono (by omega)
theorem textFrom_bd {n : Nat} : ∀ {ts : List Str} {k m : Nat} {acc : Str}, Bd m acc → (∀ t ∈ ts, Bd n t) → Bd (m + ts.length * (n + 2)) (textFrom k acc ts)
  | [], k, m, acc, h, _ => h.mono (by omega)
  | t :: ts, k, m, acc, h, ht => by
    have b : Bd 2 (Str.ofString (if k > 0 then ", " else "")) := by
      by_cases hk : k > 0
      · rw [if_pos hk]; exact bd_cs
      · rw [if_neg hk]; exact (bd_lit (by decide +kernel)).mono (by decide +kernel)
    have := textFrom_bd (k := k + 1) ((h.app b).app (ht t List.mem_cons_self)) fun x hx => ht x (List.mem_cons_of_mem _ hx)
    refine Bd.mono this ?_
    simp only [List.length_cons, Nat.add_mul]
    omega
theorem Bd.list {n : Nat} {ts : List Str} (h : ∀ t ∈ ts, Bd n t) : Bd (ts.length * (n + 2) + 3) (listText ts) := by
  have a : Bd 1 (Str.ofString "[") := (bd_lit (by decide +kernel)).mono (by decide +kernel)
  have b : Bd 1 (Str.ofString "]") := (bd_lit (by decide +kernel)).mono (by decide +kernel)
  exact ((textFrom_bd (k := 0) a h).app b).mono (by omega)
theorem text_first : ∀ (ts : List Str) (k : Nat) (acc : Str) (c : Nat), acc.cps.toList.head? = some c → (textFrom k acc ts).cps.toList.head? = some c
  | [], k, acc, c, h => h
  | t :: ts, k, acc, c, h => by
    refine text_first ts (k + 1) _ c ?_
    rw [cps_app, cps_app, List.append_assoc, List.head?_append, h]; rfl
/-- signs that repr shows as they are -/
def PLAIN : List Nat := (List.range' 32 95).filter fun c => c != 39 && c != 92
def Pl (z : Str) : Prop := ∀ c ∈ z.cps.toList, c ∈ PLAIN
theorem plain_lt : ∀ c ∈ PLAIN, c < 0x110000 := by decide +kernel
theorem repr_word {z : Str} (hc : Pl z) : (reprText z).cps.toList = 39 :: (z.cps.toList ++ [39]) := by
  have q : reprQuote z = 39 := by
    have : z.cps.contains 39 = false := by
      rw [← Bool.not_eq_true, Array.contains_iff_mem, ← Array.mem_toList_iff]
      intro m
      exact absurd (hc 39 m) (by decide +kernel)
    unfold reprQuote
    rw [this]; rfl
  have hr : ∀ c ∈ PLAIN, Builtin.Str.reprChar 39 c = [c] := by decide +kernel
  have fold : ∀ (l : List Nat) (acc : Array Nat), (∀ c ∈ l, c ∈ PLAIN) → (l.foldl (fun out c => out ++ (Builtin.Str.reprChar 39 c).toArray) acc).toList = acc.toList ++ l := by
    intro l
    induction l with
    | nil => intro acc _; simp
    | cons c l ih =>
      intro acc hl
      rw [List.foldl_cons, ih _ fun x hx => hl x (List.mem_cons_of_mem _ hx), hr c (hl c List.mem_cons_self)]
      simp
  unfold reprText
  rw [q]
  simp only [Array.toList_push, ← Array.foldl_toList]
  rw [fold _ _ hc]
  rfl
structure Sh (n k : Nat) (d : D) (p : PyData) : Prop where
  py : toPyR d = some p
  sh : p.showable = true
  dp : p.depth ≤ k
  bd : Bd n p.shown
theorem Sh.mono {n m k j : Nat} {d : D} {p : PyData} (h : Sh n k d p) (hn : n ≤ m) (hk : k ≤ j) : Sh m j d p := ⟨h.py, h.sh, Nat.le_trans h.dp hk, h.bd.mono hn⟩
theorem str_sh {z : Str} {n : Nat} (h : Pl z) (hn : z.length + 2 ≤ n) : ∃ p, Sh n 0 (.str z) p := by
  refine ⟨.str z, ⟨rfl, rfl, Nat.le_refl _, ⟨fun c hc' => ?_, ?_⟩⟩⟩
  · have : c ∈ 39 :: (z.cps.toList ++ [39]) := by rw [← repr_word h]; exact hc'
    rcases List.mem_cons.mp this with e | e
    · rw [e]; decide
    · rcases List.mem_append.mp e with e | e
      · exact plain_lt c (h c e)
      · rw [List.mem_singleton.mp e]; decide
  · show (reprText z).cps.size ≤ n
    rw [← Array.length_toList, repr_word h, List.length_cons, List.length_append, Array.length_toList]
    have : z.cps.size = z.length := rfl
    simp; omega
theorem seq_sh {n k : Nat} : ∀ {ds : List D}, (∀ d ∈ ds, ∃ p, Sh n k d p) → ∃ ps, toPyRs ds = some ps ∧ PyData.showableAll ps = true ∧ PyData.depthAll ps ≤ k ∧ (PyData.shownAll ps).length = ds.length ∧ ∀ t ∈ PyData.shownAll ps, Bd n t
  | [], _ => ⟨[], rfl, rfl, Nat.zero_le _, rfl, fun t ht => by cases ht⟩
  | d :: r, h => by
    obtain ⟨p, hp⟩ := h d List.mem_cons_self
    obtain ⟨ps, a, b, c, e, f⟩ := seq_sh (ds := r) fun x hx => h x (List.mem_cons_of_mem _ hx)
    refine ⟨p :: ps, ?_, ?_, ?_, ?_, ?_⟩
    · simp only [toPyRs, hp.py, a]
    · simp only [PyData.showableAll, hp.sh, b]; rfl
    · simp only [PyData.depthAll]
      exact Nat.max_le.mpr ⟨hp.dp, c⟩
    · simp only [PyData.shownAll, List.length_cons, e]
    · intro t ht
      simp only [PyData.shownAll] at ht
      rcases List.mem_cons.mp ht with e | e
      · rw [e]; exact hp.bd
      · exact f t e
theorem tup_sh {n k l : Nat} {ds : List D} (h : ∀ d ∈ ds, ∃ p, Sh n k d p) (hl : ds.length ≤ l) : ∃ p, Sh (l * (n + 2) + 3) (k + 1) (.tup ds) p ∧ p.shown.cps.toList.head? ≠ some 39 := by
  obtain ⟨ps, a, b, c, e, f⟩ := seq_sh h
  refine ⟨.tuple ps, ⟨by simp only [toPyR, a]; rfl, by simpa [PyData.showable] using b, by simp only [PyData.depth]; omega, ?_⟩, ?_⟩
  · show Bd _ (tupleText (PyData.shownAll ps))
    refine (Bd.tuple f).mono ?_
    rw [e]
    have := Nat.mul_le_mul_right (n + 2) hl
    omega
  · show (tupleText (PyData.shownAll ps)).cps.toList.head? ≠ some 39
    unfold tupleText
    rw [cps_app, cps_app, List.append_assoc, List.head?_append, show (Str.ofString "(").cps.toList.head? = some 40 by decide +kernel]
    show (some 40 : Option Nat) ≠ some 39
    decide
theorem lst_sh {n k l : Nat} {o : Bool} {ds : List D} (h : ∀ d ∈ ds, ∃ p, Sh n k d p) (hl : ds.length ≤ l) : ∃ p, Sh (l * (n + 2) + 3) (k + 1) (.lst o ds) p ∧ p.shown.cps.toList.head? ≠ some 39 := by
  obtain ⟨ps, a, b, c, e, f⟩ := seq_sh h
  refine ⟨.list ps, ⟨by simp only [toPyR, a]; rfl, by simpa [PyData.showable] using b, by simp only [PyData.depth]; omega, ?_⟩, ?_⟩
  · show Bd _ (listText (PyData.shownAll ps))
    refine (Bd.list f).mono ?_
    rw [e]
    have := Nat.mul_le_mul_right (n + 2) hl
    omega
  · show (listText (PyData.shownAll ps)).cps.toList.head? ≠ some 39
    unfold listText
    rw [cps_app, List.head?_append, text_first _ 0 (Str.ofString "[") 91 (by decide +kernel)]
    decide
theorem repr_of {n k : Nat} {d : D} {p : PyData} (h : Sh n k d p) (hn : n ≤ 100000) (hk : k ≤ 64) : reprD d = some p.shown := by
  unfold reprD
  simp only [h.py]
  exact if_pos ⟨h.sh, Nat.le_trans h.dp hk, Nat.le_trans h.bd.len (Nat.le_trans hn (by decide))⟩
end DL
set_option Elab.async false
set_option linter.all false
set_option maxRecDepth 100000
set_option maxHeartbeats 4000001
namespace DL
open PySem.Spec PySem L2 PyProof.Rows
end DL
namespace DL
open PySem.Spec PySem L2 PyProof.Rows
theorem gT {o p : Option (Bool × DL.Env)} (h : o = p) : o = p := h
theorem gP {o p : Option (List Stp)} (h : o = p) : o = p := h
end DL
namespace DL
end DL
namespace DL
open PySem.Spec PySem L2 PyProof.Rows
end DL
set_option Elab.async false
set_option linter.all false
set_option maxRecDepth 100000
set_option maxHeartbeats 4000001
namespace DL
open PySem.Spec PySem L2 PyProof.Rows
section
variable {K : PySem.W.Frag} {mg : Str → Option Value}
/-- the class object of an own exception over ValueError whose __init__ is its own -/
def excObjB (K : PySem.W.Frag) (C : Addr) : Bool := match K.lookup C with
  | some ⟨.type "type", _, .cls cd, sl⟩ => (match cd.mro, sl.toList with
    | .ref C1 :: bm, [_, _, _, _, some (.builtin n), _] => decide (C1 = C) && (decide (n = "ValueError.__new__") && (!cd.hasDel && (cd.hasDict && PySem.HandSPX.refsVE bm)))
    | _, _ => false)
  | _ => false
theorem excObj_of {C : Addr} (h : excObjB K C = true) : ∃ nm q N bs bm sn sub ab col dd k0 k1 k2 k3 k5, K.lookup C = some (excClassObj nm q C N bs bm true sn sub ab col dd k0 k1 k2 k3 k5 "ValueError.__new__") ∧ PySem.HandSPX.refsVE bm = true := by
  unfold excObjB at h
  split at h
  · rename_i dd cd sl e
    rcases cd with ⟨nm, bs, mro, N, q, hd, sn, sub, ab, col, del⟩
    rcases sl with ⟨sl⟩
    dsimp only at h
    split at h
    · simp only [decide_eq_true_eq, Bool.and_eq_true, Bool.not_eq_true'] at h
      obtain ⟨rfl, rfl, rfl, rfl, r⟩ := h
      exact ⟨_, _, _, _, _, _, _, _, _, _, _, _, _, _, _, e, r⟩
    · exact nomatch h
  · exact nomatch h
def oexB (K : PySem.W.Frag) (C : Addr) : Bool := excObjB K C && (decide (PySem.W.findIn K (.ref C) "__setattr__" = some (some (.builtin "object.__setattr__"))) && (decide (PySem.W.subIn K (.ref C) (.type "BaseException") = some true) && (decide (PySem.W.typeIn K (.ref C) = some (.type "type")) && PySem.W.keepIn K (.ref C))))
theorem oex_of {C : Addr} (h : oexB K C = true) : OexC K C := by
  simp only [oexB, decide_eq_true_eq, Bool.and_eq_true] at h
  exact ⟨excObj_of h.1, h.2.1, h.2.2.1, h.2.2.2.1, h.2.2.2.2⟩
/-- an exception class whose __init__ takes one argument and keeps it as f -/
structure OneF (K : PySem.W.Frag) (C fI : Addr) (f : Str) : Prop where
  ox : OexC K C
  init : PySem.W.findIn K (.ref C) "__init__" = some (some (.ref fI))
  fn : PySem.W.typeIn K (.ref fI) = some (.type "function")
  no : PySem.W.findIn K (.ref C) f = some none
def oneFB (K : PySem.W.Frag) (c f : Str) : Bool := oexB K (He.ga K c) && (decide (PySem.W.findIn K (.ref (He.ga K c)) "__init__" = some (some (.ref (He.ma K (He.ga K c) "__init__")))) && (decide (PySem.W.typeIn K (.ref (He.ma K (He.ga K c) "__init__")) = some (.type "function")) && decide (PySem.W.findIn K (.ref (He.ga K c)) f = some none)))
theorem oneF_of {c f : Str} (h : oneFB K c f = true) : OneF K (He.ga K c) (He.ma K (He.ga K c) "__init__") f := by
  simp only [oneFB, decide_eq_true_eq, Bool.and_eq_true] at h
  exact ⟨oex_of h.1, h.2.1, h.2.2.1, h.2.2.2⟩
/-- what isinstance asks of an exception class -/
def excQB (K : PySem.W.Frag) (C : Addr) : Bool := decide (PySem.W.findIn K (.ref C) "__getattribute__" = some (some (.builtin "BaseException.__getattribute__"))) && (decide (PySem.W.findIn K (.ref C) "__getattr__" = some none) && (decide (PySem.W.subIn K (.ref C) (.type "BaseException") = some true) && (PySem.W.hasDictIn K C &&
  (decide (PySem.W.findIn K (.ref C) "__class__" = some (some (.builtin "object.__class__"))) && (decide (PySem.W.specialIn K (.builtin "object.__class__") "__get__" = some (some (.builtin "getset_descriptor.__get__"))) && (decide (PySem.W.takesIn K (.builtin "object.__class__") = some true) && (decide (PySem.W.mroIn K C (.type "object") = some true) &&
  (decide (PySem.W.kitOne K (.ref C) (.type "ValueError") = some true) && Tns.all fun T => decide (PySem.W.kitOne K (.type T) (.ref C) = some false)))))))))
structure ExcQ (K : PySem.W.Frag) (C : Addr) : Prop where
  ec : ExcC K C
  ve : PySem.W.kitOne K (.ref C) (.type "ValueError") = some true
  tn : ∀ T ∈ Tns, PySem.W.kitOne K (.type T) (.ref C) = some false
theorem excQ_of {C : Addr} (h : excQB K C = true) : ExcQ K C := by
  simp only [excQB, decide_eq_true_eq, Bool.and_eq_true] at h
  obtain ⟨a1, a2, a3, a4, a5, a6, a7, a8, a9, a10⟩ := h
  exact ⟨⟨a1, a2, a3, a4, a5, a6, a7, a8⟩, a9, fun T m => of_decide_eq_true (List.all_eq_true.mp a10 T m)⟩
/-- the table of the exception classes: each with those above it -/
def excAB (K : PySem.W.Frag) (es : CT) : Bool := es.all fun p => excQB K (He.ga K p.1) && es.all fun q => decide (PySem.W.kitOne K (.ref (He.ga K p.1)) (.ref (He.ga K q.1)) = some (decide (p.1 = q.1) || p.2.contains q.1))
structure ExA (K : PySem.W.Frag) (mg : Str → Option Value) (es : CT) : Prop where
  one : ∀ c bs, es.lookup c = some bs → ∃ C, mg c = some (.ref C) ∧ ExcQ K C
  two : ∀ c bs x bx C C', es.lookup c = some bs → es.lookup x = some bx → mg c = some (.ref C) → mg x = some (.ref C') → PySem.W.kitOne K (.ref C) (.ref C') = some (decide (c = x) || bs.contains x)
theorem exA_of {es : CT} (c : excAB K es = true) (hg : ∀ p ∈ es, mg p.1 = some (.ref (He.ga K p.1))) : ExA K mg es := by
  have both : ∀ p ∈ es, excQB K (He.ga K p.1) = true ∧ ∀ q ∈ es, PySem.W.kitOne K (.ref (He.ga K p.1)) (.ref (He.ga K q.1)) = some (decide (p.1 = q.1) || p.2.contains q.1) := fun p hp => by
    have z := List.all_eq_true.mp c p hp
    rw [Bool.and_eq_true] at z
    exact ⟨z.1, fun q hq => of_decide_eq_true (List.all_eq_true.mp z.2 q hq)⟩
  constructor
  · exact fun c bs hl => ⟨_, hg _ (lookup_mem hl), excQ_of (both _ (lookup_mem hl)).1⟩
  · intro c bs x bx C C' hl hx hC hC'
    cases (hg _ (lookup_mem hl)).symm.trans hC
    cases (hg _ (lookup_mem hx)).symm.trans hC'
    exact (both _ (lookup_mem hl)).2 _ (lookup_mem hx)
end
def dIsF (es ct : CT) : List D → Option D
  | [.exc c _ _, .glo x] => if inT es c && inT es x then some (.bl (subT es c x)) else none
  | [.non, .glo x] => if inT es x then some (.bl false) else dIsO ct [.non, .glo x]
  | ds => dIsO ct ds
/-- an exception that stands at the head, as H holds it -/
theorem Sp.excAt {K : PySem.W.Frag} {mg : Str → Option Value} {H Hb : Hp} {Z : Addr → Prop} {P : PL} {v : V} {c : Str} {ns : List Str} {ds : List D} (s : Sp K mg Z Hb H ((v, .exc c ns ds) :: P)) :
    ∃ a C d fs, v = .ref a ∧ mg c = some (.ref C) ∧ H a = some (ExV (.ref C) d a) ∧ ((d = none ∧ fs = []) ∨ ∃ dd, d = some dd ∧ H dd = some (.xd fs)) ∧ fs.map (·.1) = ns ∧ ∃ Y F, Reps K mg H Y (fs.map (·.2)) ds F := by
  obtain ⟨Y, F, r⟩ := s.head
  cases r with
  | @exc a C d fs _ _ _ hA z hC alt hn t => exact ⟨a, C, d, fs, rfl, hC, hA, alt.imp id fun ⟨dd, e, _, h, _⟩ => ⟨dd, e, h⟩, hn, Y, _, t⟩
theorem bc_isF {X : Cx} {es ct : CT} (T : ExA X.K X.mg es) (T2 : ClsT X.K X.mg ct) : BC X (.builtin "isinstance") (dIsF es ct) := by
  intro Z Hb H P vs ds d hl s e Q q
  unfold dIsF at e
  split at e
  · rename_i c ns ws x
    split at e
    · rename_i hin
      cases e
      rw [Bool.and_eq_true] at hin
      obtain ⟨bs, hb⟩ := Option.isSome_iff_exists.mp (show (es.lookup c).isSome = true from hin.1)
      obtain ⟨bx, hx⟩ := Option.isSome_iff_exists.mp (show (es.lookup x).isSome = true from hin.2)
      match vs, hl with
      | [v, w], _ =>
        have s0 : Sp X.K X.mg Z Hb H ((v, .exc c ns ws) :: (w, .glo x) :: P) := s
        obtain ⟨C', rfl, hC'⟩ := s0.drop.gloA
        obtain ⟨a, C, dd, fs, rfl, hC, hA, alt, _⟩ := s0.excAt
        obtain ⟨C1, hC1, O⟩ := T.one c bs hb
        cases hC.symm.trans hC1
        have k := T.two c bs x bx C C' hb hx hC hC'
        rw [show subT es c x = (decide (c = x) || bs.contains x) by unfold subT; rw [hb]; rfl] at q
        exact wC_of call_isF ⟨a, C, dd, fs, .ref C', .ref C', _, rfl, hA, alt, O.ec, .own C', k, q _ _ (s0.drop.drop.put fun _ => .bl)⟩
    · exact nomatch e
  · rename_i x
    split at e
    · rename_i hin
      cases e
      obtain ⟨bx, hx⟩ := Option.isSome_iff_exists.mp (show (es.lookup x).isSome = true from hin)
      match vs, hl with
      | [v, w], _ =>
        have s0 : Sp X.K X.mg Z Hb H ((v, .non) :: (w, .glo x) :: P) := s
        obtain ⟨C', rfl, hC'⟩ := s0.drop.gloA
        cases s0.non
        obtain ⟨C1, hC1, O⟩ := T.one x bx hx
        cases hC'.symm.trans hC1
        exact wC_of call_isi ⟨.non, .ref C', .type "NoneType", .ref C', _, rfl, .own C', .base .non, O.tn _ (by decide), q _ _ (s0.drop.drop.put fun _ => .bl)⟩
    · exact bc_isO T2 hl s e Q q
  · exact bc_isO T2 hl s e Q q
/-- isinstance(e, ValueError), e an own exception -/
def mIsVE (es : CT) (m : ME) : ME := fun δ => match m δ with
  | some (.exc c _ _, δ1) => if inT es c then some (.bl true, δ1) else none
  | _ => none
section
variable {X : Cx} {e : Expr} {m : ME} {es ct : CT} {p p2 pos : Pos}
theorem x_isVE (T : ExA X.K X.mg es) (hm : X.mg "isinstance" = none) (hm2 : X.mg "ValueError" = none) (he : IG X e m) (hg : Gl X "isinstance" := by rfl) (hg2 : Gl X "ValueError" := by rfl)
    (hs : starEach [e, .Name "ValueError" p2] X.env = (false, eval e X.env) :: starEach [.Name "ValueError" p2] X.env := by rfl) (hs2 : starEach [.Name "ValueError" p2] X.env = (false, eval (.Name "ValueError" p2) X.env) :: starEach [] X.env := by rfl)
    (hpl : (backTo pos (starEach [.Name "ValueError" p2] X.env)).any (·.1) = false := by rfl) : IG X (.Call (.Name "isinstance" p) [e, .Name "ValueError" p2] [] pos) (mIsVE es m) := by
  intro Z Hb H σ δ L d δ' s e' Q q
  unfold mIsVE at e'
  split at e'
  · rename_i c ns ds δ1 e1
    split at e'
    · rename_i hin
      cases e'
      obtain ⟨bs, hb⟩ := Option.isSome_iff_exists.mp (show (es.lookup c).isSome = true from hin)
      refine wE_of (pe_callB call_isF hg hm (by rfl) (pa_cons pe_w (pa_cons (pe_bltn (v := .ty "ValueError") hg2 hm2 (by rfl) rfl (by decide) (by decide)) pa_nil hs2) hs) (by decide) (by decide) hs hpl) ?_
      refine he s e1 _ fun v H1 s1 => ?_
      obtain ⟨a, C, dd, fs, rfl, hC, hA, alt, _⟩ := s1.sp.excAt
      obtain ⟨C1, hC1, O⟩ := T.one c bs hb
      cases hC.symm.trans hC1
      exact ⟨a, C, dd, fs, .ty "ValueError", .type "ValueError", true, rfl, hA, alt, O.ec, .ty _, O.ve, q _ _ ⟨s1.sp.drop.put fun _ => .bl, s1.dom⟩⟩
    · exact nomatch e'
  · exact nomatch e'
def mXF (cs : List Str) (f : Str) (m : ME) : ME := fun δ => match m δ with
  | some (.exc c ns ds, δ1) => if cs.contains c then match posOf ns f with
    | some j => match ds[j]? with
      | some d => some (fz d, δ1)
      | none => none
    | none => none else none
  | _ => none
/-- the classes of cs know no f of their own -/
def AtX (K : PySem.W.Frag) (mg : Str → Option Value) (cs : List Str) (f : Str) : Prop := ∀ c ∈ cs, ∀ C, mg c = some (.ref C) → ExcC K C ∧ PySem.W.findIn K (.ref C) f = some none
def tXa (K : PySem.W.Frag) (f : Str) (te : TE) : TE := fun σ H Q => te σ H fun x H1 => ∃ a D d fs v, x = .ref a ∧ H1 a = some (ExV (.ref D) d a) ∧ ((d = none ∧ fs = []) ∨ ∃ dd, d = some dd ∧ H1 dd = some (.xd fs)) ∧ ExcC K D ∧ PySem.W.findIn K (.ref D) f = some none ∧ fs.lookup f = some v ∧ Q v H1
theorem pe_xa {f : Str} {te : TE} (he : PE X e te) (hb : attributeBase e f X.env (eval e X.env) = eval e X.env) : PE X (.Attribute e f pos) (tXa X.K f te) := by
  constructor
  intro pins s σ H Q I h
  apply attr_of hb
  refine wpAny_mono (he.run pins s σ H _ I h) ?_ fun _ _ z => z
  rintro _ s1 ⟨_, H1, I1, rx, a, D, d, fs, v, rfl, ha, alt, C, no, l, q⟩
  cases rx
  obtain ⟨ox, od, J, look⟩ := exV_inst I1.hok ha alt
  obtain ⟨o, u, rfl, hu, ru⟩ := look f v l
  exact PySem.HandSPX.exc_get I1.kIn J C.hg C.hk C.hs (PySem.W.findObj_own C.hd no rfl hu) (handed_of ru) ⟨v, H1, I1.tok _, ru, q⟩
/-- the class and the dict's place stand in what H says -/
theorem exV_inj {c1 c2 : Value} {d1 d2 : Option Addr} {a : Addr} (h : ExV c1 d1 a = ExV c2 d2 a) : c1 = c2 ∧ d1 = d2 := by
  have ex : ∃ o : Obj, o = { cls := c1, dict := d1, data := .fields #[] } := ⟨_, rfl⟩
  obtain ⟨o, eo⟩ := ex
  have there : Heap.get? ⟨Array.replicate (a + 1) o, {}⟩ a = some o := by
    rw [Heap.get?_some_iff, eo]
    exact ⟨by simp [Array.getElem?_replicate], rfl⟩
  have ok : (fun h : Heap => ∃ (oe : Obj) (vs : Array Value), h.get? a = some oe ∧ Zc c1 d1 oe ∧ oe.data = .fields vs) ⟨Array.replicate (a + 1) o, {}⟩ := ⟨o, #[], there, by rw [eo]; exact ⟨rfl, rfl⟩, by rw [eo]⟩
  rw [HO.ext.inj h] at ok
  obtain ⟨oe, vs, e, ⟨z1, z2⟩, _⟩ := ok
  cases there.symm.trans e
  rw [eo] at z1 z2
  exact ⟨z1, z2⟩
theorem look_at {f : Str} : ∀ {fs : List (Str × V)} {j : Nat} {v : V}, posOf (fs.map (·.1)) f = some j → (fs.map (·.2))[j]? = some v → fs.lookup f = some v := fun h e => posOf_look h e
theorem x_xf {f : Str} (cs : List Str) (h : IG X e m) (hc : AtX X.K X.mg cs f) (hb : attributeBase e f X.env (eval e X.env) = eval e X.env := by rfl) : IG X (.Attribute e f pos) (mXF cs f m) := by
  intro Z Hb H σ δ L d δ' s e' Q q
  unfold mXF at e'
  split at e'
  · rename_i c ns ds δ1 e1
    split at e'
    · rename_i hcs
      split at e'
      · rename_i j hj
        split at e'
        · rename_i d0 hd
          cases e'
          refine wE_of (pe_xa pe_w hb) (h s e1 _ fun x H1 s1 => ?_)
          have s2 : Sp X.K X.mg Z Hb H1 ((x, .exc c ns (fzs ds)) :: (L ++ prs σ δ')) := Sp.freeze s1.sp
          obtain ⟨Y, F, r⟩ := s2.head
          cases r with
          | @exc a C dd fs _ _ _ hA z hC alt hn t =>
            obtain ⟨w, e2, _⟩ := Reps.get t (i := j) (d := fz d0) (fzs_get hd)
            subst hn
            obtain ⟨c1, c2⟩ := hc c (by simpa using hcs) C hC
            refine ⟨a, C, dd, fs, w, rfl, hA, alt.imp id (fun ⟨b, e, _, h, _⟩ => ⟨b, e, h⟩), c1, c2, look_at hj e2, q w H1 ⟨?_, s1.dom⟩⟩
            have s3 := s2.part (show isFz (.exc c (fs.map (·.1)) (fzs ds)) = true from isFz_fz (.exc c (fs.map (·.1)) ds)) (w := w) (t := fz d0) fun Y' r' => by
              cases r' with
              | @exc a' C' d' fs' _ _ _ hA' z' hC' alt' hn' t' =>
                obtain ⟨w', e3, r3⟩ := Reps.get t' (i := j) (d := fz d0) (fzs_get hd)
                have : fs' = fs := by
                  rcases alt with ⟨rfl, rfl⟩ | ⟨b, rfl, _, hb, _⟩
                  · exact List.map_eq_nil_iff.mp hn'
                  · rcases alt' with ⟨rfl, rfl⟩ | ⟨b', rfl, _, hb', _⟩
                    · exact (List.map_eq_nil_iff.mp hn'.symm).symm
                    · obtain ⟨_, eb⟩ := exV_inj (Option.some.inj (hA.symm.trans hA'))
                      cases eb
                      cases hb.symm.trans hb'
                      rfl
                subst this
                rw [e2] at e3
                cases e3
                exact r3
            exact (s3.perm (.swap _ _ _)).drop
        · exact nomatch e'
      · exact nomatch e'
    · exact nomatch e'
  · exact nomatch e'
end
end DL
set_option Elab.async false
set_option linter.all false
set_option maxRecDepth 100000
set_option maxHeartbeats 4000001
namespace DL
open PySem.Spec PySem L2 PyProof.Rows
/-- classes without an __init__ of their own -/
def ExP (K : PySem.W.Frag) (mg : Str → Option Value) (pl : List Str) : Prop := ∀ c ∈ pl, ∃ C, mg c = some (.ref C) ∧ ExOne K C
theorem exP_of {K : PySem.W.Frag} {mg : Str → Option Value} {pl : List Str} (h : (pl.all fun c => excOneB K (He.ga K c)) = true) (hg : ∀ c ∈ pl, mg c = some (.ref (He.ga K c))) : ExP K mg pl :=
  fun c m => ⟨_, hg c m, exOne_of (List.all_eq_true.mp h c m)⟩
structure CalE (P : Program) (w : World) (K : PySem.W.Frag) (mg : Str → Option Value) (base : Heap) (k : Nat) (c f g : Str) : Prop where
  ex : ∃ (C fI : Addr) (fd : FuncData) (self : Str), mg c = some (.ref C) ∧ OneF K C fI f ∧ FnOk P w K mg base C8.CX0 k fI fd [self, g] (spI C f) ∧ Binds K fd [self, g] [] ∧ ∀ (s : Shared) (o u : Value), K.In s.heap → BindsTo s fd ⟨[o], [(g, u)]⟩ [(self, o), (g, u)]
section
variable {X : Cx} {e : Expr} {m : ME} {p pos : Pos} {x f g : Str} {k : Nat}
/-- the dict that the __init__ leaves, and the exception over it -/
theorem Sq.kept {Z : Addr → Prop} {Hb H1 : Hp} {σ : L2.St} {δ1 : Env} {L : PL} {v : V} {d : D} {a C dx : Addr} {c f : Str} (s1 : Sq X Z Hb H1 σ δ1 ((v, d) :: L)) (nd : H1 dx = none) (na : upd H1 dx (.xd [(f, v)]) a = none) (hC : X.mg c = some (.ref C)) :
    Sq X Z Hb (upd (upd H1 dx (.xd [(f, v)])) a (ExV (.ref C) (some dx) a)) σ δ1 ((.ref a, .exc c [f] [fz d]) :: L) := by
  have s2 : Sp X.K X.mg Z Hb H1 ((v, fz d) :: (L ++ prs σ δ1)) := Sp.freeze s1.sp
  have s3 : Sp X.K X.mg Z Hb (upd H1 dx (.xd [(f, v)])) ((.ref dx, .raw true (.xd [(f, v)])) :: ((v, fz d) :: (L ++ prs σ δ1))) := Sp.new (Q := []) s2 nd fun Y F r => by
    cases r
    exact ⟨[dx], .rawO upd_same rfl trivial, .inr rfl⟩
  exact ⟨Sp.excF (ns := [f]) (vs := [v]) (ds := [fz d]) s3 na hC (by simp) rfl rfl (show (isFz (fz d) && true) = true by rw [isFz_fz]; rfl), s1.dom⟩
end
/-- what a head tells of such a class -/
theorem calE_of {P : Program} {w : World} {K : PySem.W.Frag} {mg : Str → Option Value} {base : Heap} {c f g x z self : Str} {qual : Str} {params : Arguments} {scope : Scope} {fd : FuncData} {j : Nat} {p1 p2 p3 p4 p5 p6 p7 p8 p9 p10 : Pos} {B : Addr}
    (F : FunD K "__init__" qual params [.Expr (.Call (.Attribute (.Name x p1) "__init__" p2) [.Name self p3, .Constant (.str z) j p4] [] p5) p6, .Assign [.Attribute (.Name self p7) f p8] (.Name g p9) p10] scope [] [] (He.ma K (He.ga K c) "__init__") fd) (S : FnScope [self, g] [self, g] scope)
    (Bc : BasC K mg x B) (O : oneFB K c f = true) (gm : mg c = some (.ref (He.ga K c))) (hg : scope.names.lookup x = some .globalImplicit) (h1 : scope.names.lookup self = some .local) (h2 : scope.names.lookup g = some .local)
    (hd : (x == ("__debug__" : Str)) = false) (d1 : (self == ("__debug__" : Str)) = false) (d2 : (self == ("__classdict__" : Str)) = false) (d3 : (g == ("__debug__" : Str)) = false) (d4 : (g == ("__classdict__" : Str)) = false)
    (hc : ∀ env : PySem.Env, ∃ pl : Sem Bool, eval (.Call (.Attribute (.Name x p1) "__init__" p2) [.Name self p3, .Constant (.str z) j p4] [] p5) env = (do
      let ov ← eval (.Name x p1) env
      standAt p2.atName
      let (m, first) ← holding [ov] (getMethod ov "__init__" pl)
      callWith p5 m first (backTo p5 (starEach [.Name self p3, .Constant (.str z) j p4] env)) (backToKw p5 (keywordEach [] env))))
    (hs : ∀ env : PySem.Env, swapsWith (.Name g p9) (some (.Attribute (.Name self p7) f p8)) p10.line env = pure false) (hs2 : ∀ env : PySem.Env, swapsWith (.Call (.Attribute (.Name x p1) "__init__" p2) [.Name self p3, .Constant (.str z) j p4] [] p5) none p6.line env = pure false)
    (b1 : ∀ (kV doc pm : Value) (an : Option Addr) (cdv ct : Value) (us : List Value), us.length = 2 → bindArgs (PySem.W.fnOf "__init__" qual params [.Expr (.Call (.Attribute (.Name x p1) "__init__" p2) [.Name self p3, .Constant (.str z) j p4] [] p5) p6, .Assign [.Attribute (.Name self p7) f p8] (.Name g p9) p10] scope .none kV doc pm an cdv ct) ⟨us, []⟩ = pure ([self, g].zip us))
    (b2 : ∀ (kV doc pm : Value) (an : Option Addr) (cdv ct : Value) (o u : Value), bindArgs (PySem.W.fnOf "__init__" qual params [.Expr (.Call (.Attribute (.Name x p1) "__init__" p2) [.Name self p3, .Constant (.str z) j p4] [] p5) p6, .Assign [.Attribute (.Name self p7) f p8] (.Name g p9) p10] scope .none kV doc pm an cdv ct) ⟨[o], [(g, u)]⟩ = pure [(self, o), (g, u)]) :
    CalE P w K mg base 2 c f g := by
  have O1 := oneF_of O
  refine ⟨_, _, fd, self, gm, O1, init1_ok F S Bc O1.ox O1.no hg h1 h2 hd d1 d2 d3 d4 hc hs hs2, F.bindsN b1, ?_⟩
  obtain ⟨oc, od, dV, kV, doc, pm, an, cdv, ct, osl, rfl, lk, hcd, hD, _⟩ := F.ex
  rcases hD with ⟨_, rfl⟩ | ⟨e, _⟩
  · intro s o u _
    exact .of_eq (b2 kV doc pm an cdv ct o u)
  · exact absurd rfl e
def basB (K : PySem.W.Frag) (B : Addr) : Bool := decide (PySem.W.specialIn K (.ref B) "__getattribute__" = some (some (.builtin "type.__getattribute__"))) && ((match PySem.W.findCls K (.ref B) (.type "type") "__init__" with
  | some (.val (.builtin n)) => decide (n = "ValueError.__init__")
  | _ => false) && (decide (PySem.W.typeIn K (.ref B) = some (.type "type")) && PySem.W.readsIn K B (.type "type")))
theorem bas_of {K : PySem.W.Frag} {mg : Str → Option Value} {x : Str} {B : Addr} (h : basB K B = true) (gm : mg x = some (.ref B)) : BasC K mg x B := by
  simp only [basB, decide_eq_true_eq, Bool.and_eq_true] at h
  obtain ⟨a1, a2, a3, a4⟩ := h
  refine ⟨gm, a1, ?_, a3, a4⟩
  split at a2
  · rename_i n e
    rw [e, of_decide_eq_true a2]
  · exact nomatch a2
section
variable {K : PySem.W.Frag} {mg : Str → Option Value} {es : CT} {cs : List Str} {c f : Str} {C : Addr}
theorem ExA.oneC (T : ExA K mg es) (h : (es.lookup c).isSome = true) (gm : mg c = some (.ref C)) : ExcC K C := by
  obtain ⟨bs, hb⟩ := Option.isSome_iff_exists.mp h
  obtain ⟨C1, hC, O⟩ := T.one c bs hb
  cases hC.symm.trans gm
  exact O.ec
theorem atX_nil : AtX K mg [] f := fun _ m => nomatch m
theorem atX_cons (gm : mg c = some (.ref C)) (e : ExcC K C) (no : PySem.W.findIn K (.ref C) f = some none) (r : AtX K mg cs f) : AtX K mg (c :: cs) f := by
  intro x m D hD
  rcases List.mem_cons.mp m with rfl | m
  · cases gm.symm.trans hD
    exact ⟨e, no⟩
  · exact r x m D hD
end
end DL
set_option Elab.async false
set_option linter.all false
set_option maxRecDepth 100000
set_option maxHeartbeats 4000001
namespace DL
open PySem.Spec PySem L2 PyProof.Rows
end DL
set_option Elab.async false
set_option linter.all false
set_option maxRecDepth 100000
set_option maxHeartbeats 4000001
namespace DL
open PySem.Spec PySem L2 PyProof.Rows LamX
/-- a call within a call: the inner frames are new to the outer heap -/
theorem un_inner {fs fs' : List Addr} {H H1 H2 : Hp} {h h1 h2 : Heap} (u : Un fs [] H H1 h h1) (v : Un fs' [] H1 H2 h1 h2) (new : ∀ b ∈ fs', b ∈ fs ∨ h.get? b = none) : Un fs [] H H2 h h2 where
  keep := fun b o e n nf nx => v.keep b o (u.keep b o e n nf nx) (u.free b o e n nx) (fun m => (new b m).elim nf fun z => nomatch z.symm.trans e) nx
  slot := fun b o e n hb nx => by
    obtain ⟨sl, e1⟩ := u.slot b o e n hb nx
    by_cases m : b ∈ fs'
    · obtain ⟨sl2, e2⟩ := v.slot b _ e1 (u.free b o e n nx) m nx
      exact ⟨sl2, e2⟩
    · exact ⟨sl, v.keep b _ e1 (u.free b o e n nx) m nx⟩
  free := fun b o e n nx => by
    obtain ⟨o1, e1⟩ := u.there b o e nx
    exact v.free b o1 e1 (u.free b o e n nx) nx
  there := fun b o e nx => by
    obtain ⟨o1, e1⟩ := u.there b o e nx
    exact v.there b o1 e1 nx
  tups := fun b xs e => v.tups b xs (u.tups b xs e)
  frzs := fun b o x e => v.frzs b o x (u.frzs b o x e)
  tbls := fun b ps e => by
    obtain ⟨m1, e1⟩ := u.tbls b ps e
    obtain ⟨m2, e2⟩ := v.tbls b _ e1
    exact ⟨m1 ++ m2, by rw [e2, Array.append_assoc]⟩
section
variable {X : Cx} {pins : List (Addr × Obj)} {σ : L2.St} {H H3 : Hp} {s s3 : Shared}
/-- what a body makes, wherever its frame stands -/
def anyW (X : Cx) (scope : Scope) (body : Expr) (k : Nat) (f c1 : Addr) (σ : L2.St) : XK → Hp → VK → Prop := fun E HZ Q =>
  ∀ (A : Around) (outer : List PySem.Env) (s0 : Shared) (H0 : Hp), Room k (A.deeper (lamEnv X scope s0.heap.objs.size f c1)) → A.guards = some [] → wE (lamCx X A outer s0 H0 E scope f c1) body σ HZ Q
end
end DL
set_option Elab.async false
set_option linter.all false
set_option maxRecDepth 100000
set_option maxHeartbeats 4000001
namespace DL
open PySem.Spec PySem L2 PyProof.Rows LamX
section
variable {X : Cx}
theorem prs_blank : ∀ n, prs (List.replicate n none) (List.replicate n none) = []
  | 0 => rfl
  | n + 1 => by simp [List.replicate_succ, prs, prs_blank n]
end
end DL
set_option Elab.async false
set_option linter.all false
set_option maxRecDepth 100000
set_option maxHeartbeats 4000001
namespace DL
open PySem.Spec PySem L2 PyProof.Rows
end DL
set_option Elab.async false
set_option linter.all false
set_option maxRecDepth 100000
set_option maxHeartbeats 4000001
namespace DL
open PySem.Spec PySem L2 PyProof.Rows
def xLoop (t : MG) (b : MS) (xb : MX) : List D → DL.Env → Option Ex
  | [], _ => none
  | d :: r, δ => match t d δ with
    | some δ1 => match xb δ1 with
      | some ex => some ex
      | none => match b δ1 with
        | some (.nx δ2) => xLoop t b xb r δ2
        | some (.ct δ2) => xLoop t b xb r δ2
        | _ => none
    | none => none
def xFor (i : MI) (t : MG) (b : MS) (xb : MX) : MX := fun δ => match i δ with
  | some (ds, δ1) => xLoop t b xb ds δ1
  | none => none
section
variable {X : Cx} {P : Nat → Bool} {tg iter : Expr} {body : List Stmt} {mi : MI} {t : MG} {b : MS} {xb : MX} {is : List Nat} {pos : Pos}
theorem xs_for (hpo : PassesOwn (model X.prog X.w) X.A X.env X.xe) (hc : X.calm = true) (hi : II X tg iter mi) (ht : IGt X is tg t) (hb : ISs X P body b) (hx : XSs X body xb) (hs : ∀ x, foldedSetIterable iter X.env x = pure x) : XS X (.For tg iter body [] pos) (xFor mi t b xb) := by
  intro Z Hb H σ δ L ex s e q Dn
  unfold xFor at e
  split at e
  · rename_i ds δ1 e1
    refine wS_of (ps_for hpo hc pi_w pg_w pss_w hs) (hi s e1 _ fun J H1 LI hy s1 => ?_)
    refine ⟨fun i m σ' H' => m = ds.length - i ∧ i ≤ ds.length ∧ ∃ δi, Sq X Z Hb H' σ' δi (LI ++ L) ∧ xLoop t b xb (ds.drop i) δi = some ex, ⟨ds.length, rfl, Nat.zero_le _, δ1, s1, e⟩, ?_⟩
    rintro i m σ' H' ⟨rfl, le, δi, si, el⟩
    rcases Nat.lt_or_eq_of_le le with lt | rfl
    · have sp0 : Sp X.K X.mg Z Hb H' (LI ++ (L ++ prs σ' δi)) := by
        rw [← List.append_assoc]
        exact si.sp
      obtain ⟨go, yl⟩ := (hy i sp0).1 lt
      rw [List.drop_eq_getElem_cons lt] at el
      simp only [xLoop] at el
      split at el
      · rename_i δ2 et
        refine .inr ⟨go, fun σ2 H2 => ∃ δ3, Sq X Z Hb H2 σ2 δ3 (LI ++ L) ∧ xLoop t b xb (ds.drop (i + 1)) δ3 = some ex, fun σ2 H2 ⟨δ3, s3, e3⟩ => ⟨ds.length - (i + 1), by omega, rfl, lt, δ3, s3, e3⟩, fun x H2 y => ?_⟩
        obtain ⟨d, ed, sy⟩ := yl x H2 y
        obtain rfl : d = ds[i] := by simpa [lt] using ed.symm
        have s2 : Sq X Z Hb H2 σ' δi ((x, ds[i]) :: (LI ++ L)) := ⟨by
          show Sp X.K X.mg Z Hb H2 ((x, ds[i]) :: (LI ++ L ++ prs σ' δi))
          rw [List.append_assoc]
          exact sy, si.dom⟩
        refine ht s2 et _ fun σ3 H3 s3 _ => ?_
        split at el
        · rename_i ex2 ex1
          cases el
          exact hx s3 ex1 (fun cls d σ' H' ok => q cls d σ' H' ok.dropL) _
        · split at el
          · rename_i δ4 eb
            exact hb s3 eb _ fun σ4 H4 s4 _ => ⟨δ4, s4, el⟩
          · rename_i δ4 eb
            exact hb s3 eb _ fun σ4 H4 s4 _ => ⟨δ4, s4, el⟩
          · exact nomatch el
      · exact nomatch el
    · rw [List.drop_length] at el
      exact nomatch el
  · exact nomatch e
end
end DL
set_option Elab.async false
set_option linter.all false
set_option maxRecDepth 100000
set_option maxHeartbeats 4000001
namespace DL
open PySem.Spec PySem L2 PyProof.Rows
end DL
set_option Elab.async false
set_option linter.all false
set_option maxRecDepth 100000
set_option maxHeartbeats 4000001
namespace DL
open PySem.Spec PySem L2 PyProof.Rows LamX
/-- the promise of a def that has nt hidden slots behind its n parameters -/
def spH (K : PySem.W.Frag) (mg : Str → Option Value) (nt n : Nat) (m : MF) : L2.Sp := fun vs H Q E => vs.length = n ∧ ∃ hv : List V, hv.length = nt ∧ spD K mg (n + nt) m (vs ++ hv) H Q E
theorem start_snoc {N : List Str} {vs : List V} {w : V} (h : vs.length < N.length) : L2.start N (vs ++ [w]) = (L2.start N vs).set vs.length (some w) := by
  unfold L2.start
  have e : N.length - vs.length = (N.length - (vs ++ [w]).length) + 1 := by simp; omega
  rw [e, List.replicate_succ, List.set_append_right _ _ (by simp)]
  simp
theorem inv_hidden {X : Cx} {pins : List (Addr × Obj)} {H : Hp} {s : Shared} : ∀ (hv vs : List V), Inv X pins (L2.start X.N vs) H s → (∀ j, j < hv.length → ∃ y, X.N[vs.length + j]? = some y ∧ ¬ Vis X.env.scope y) → Inv X pins (L2.start X.N (vs ++ hv)) H s
  | [], vs, I, _ => by simpa using I
  | w :: hv, vs, I, h => by
    obtain ⟨y, h1, h2⟩ := h 0 (by simp)
    have hl : vs.length < X.N.length := (List.getElem?_eq_some_iff.mp h1).1
    have I1 : Inv X pins (L2.start X.N (vs ++ [w])) H s := by
      rw [start_snoc hl]
      exact DL.Inv.blind I h1 h2
    have := inv_hidden hv (vs ++ [w]) I1 fun j hj => by
      obtain ⟨y, a, b⟩ := h (j + 1) (by simpa using hj)
      exact ⟨y, by rw [← a]; congr 1; simp; omega, b⟩
    simpa using this
section
variable {P : Program} {w : World} {K : PySem.W.Frag} {mg : Str → Option Value} {base : Heap} {k nt : Nat} {f : Addr} {x qual : Str} {params : Arguments} {body : List Stmt} {scope : Scope} {dvs : List V} {kws : List (Str × V)} {fd : FuncData} {N ps : List Str} {Pr : Nat → Bool} {mb : MS}
/-- a def whose hidden slots stand right behind its parameters -/
theorem fnD_ofH {c : Addr} (F : FunD K x qual params body scope dvs kws f fd) (S : FnScope N ps scope) (hc : fd.code = .ref c) (hid : ∀ j, j < nt → ∃ y, N[ps.length + j]? = some y ∧ ¬ Vis scope y)
    (hb : ∀ (A : Around) (outer : List PySem.Env) (s : Shared) (H : Hp) (E : XK), Room k (A.deeper (envOfC qual scope s.heap.objs.size f (.ref c))) → (A.deeper (envOfC qual scope s.heap.objs.size f (.ref c))).guards = some [] →
      ISs (cxOf CX0 P w K mg base N qual scope f (.ref c) A outer s H E).nox Pr body mb) : FnG P w K mg base (k + 1) f fd ps (spH K mg nt ps.length (mFun (ps.length + nt) N.length Pr mb)) := by
  refine FnG.ofT F S (fun vs H Q E h => h.1) fun cdv A outer s H vs Q E ec hcd hr hg ⟨hl, hv, hhv, _, Z, Hb, ds, r, ds', hld, sp, em, q⟩ => ?_
  rw [hc] at ec
  subst ec
  unfold mFun at em
  rw [if_pos hld] at em
  have hN : ps.length + nt ≤ N.length := by
    have h0 : ps.length ≤ N.length := by
      have := congrArg List.length S.pre
      rw [List.length_take] at this
      omega
    cases nt with
    | zero => exact h0
    | succ j =>
      obtain ⟨y, a, _⟩ := hid j (Nat.lt_succ_self j)
      have := (List.getElem?_eq_some_iff.mp a).1
      omega
  have hlv : (vs ++ hv).length = ds.length := by rw [List.length_append]; omega
  have dom : Dom (L2.start N (vs ++ hv)) (ds.map some ++ List.replicate (N.length - (ps.length + nt)) none) := by
    refine ⟨by simp only [L2.start, List.length_append, List.length_map, List.length_replicate] at hlv ⊢; omega, fun i d h => ?_⟩
    unfold L2.start
    by_cases hi : i < ds.length
    · exact ⟨(vs ++ hv)[i]'(by omega), by rw [List.getElem?_append_left (by simp only [List.length_map]; omega), List.getElem?_map, List.getElem?_eq_getElem (by omega)]; rfl⟩
    · rw [List.getElem?_append_right (by simp; omega)] at h
      simp [List.getElem?_replicate] at h
  have sq : Sq (cxOf CX0 P w K mg base N qual scope f (.ref c) A outer s H E).nox Z Hb H (L2.start N (vs ++ hv)) (ds.map some ++ List.replicate (N.length - (ps.length + nt)) none) (((vs ++ hv).zip ds).filter fun p => isFz p.2) := by
    refine ⟨?_, dom⟩
    unfold L2.start
    rw [prs_start _ _ hlv]
    exact sp.dups
  have fin : ∀ {v : V} {r0 : D} {σ' : L2.St} {H' : Hp} {δ : Env} {bs : List D}, Sq (cxOf CX0 P w K mg base N qual scope f (.ref c) A outer s H E).nox Z Hb H' σ' δ ((v, r0) :: (((vs ++ hv).zip ds).filter fun p => isFz p.2)) → SameP Pr (L2.start N (vs ++ hv)) σ' → backs Pr 0 ds δ = some bs → Sp K mg Z Hb H' ((v, r0) :: (vs ++ hv).zip bs) := by
    intro v r0 σ' H' δ bs s' same eb
    have s1 : Sp K mg Z Hb H' ([(v, r0)] ++ (prs σ' δ ++ (((vs ++ hv).zip ds).filter fun p => isFz p.2) ++ [])) := s'.sp.perm (by
      rw [List.append_nil]
      exact .cons _ List.perm_append_comm)
    have := backs_ok (X := (cxOf CX0 P w K mg base N qual scope f (.ref c) A outer s H E).nox) (L := [(v, r0)]) (R := []) hlv (fun j v' h => by
      have hj := (List.getElem?_eq_some_iff.mp h).1
      unfold L2.start
      rw [Nat.zero_add, List.getElem?_append_left (by rw [List.length_map]; exact hj), List.getElem?_map, h]
      rfl) same s'.dom s1 eb
    rw [List.append_nil] at this
    exact this
  have see : ∀ {Dn : Ends}, wSs (cxOf CX0 P w K mg base N qual scope f (.ref c) A outer s H E).nox body Dn (L2.start N (vs ++ hv)) H → wSs (cxOf CX0 P w K mg base N qual scope f (.ref c) A outer s H E).nox body Dn (L2.start N vs) H := fun h pins sh I =>
    h pins sh (inv_hidden hv vs I fun j hj => by rw [hl]; exact hid j (by omega))
  split at em
  · rename_i r0 δ e1
    split at em
    · rename_i bs eb
      cases em
      exact see (hb A outer s H E hr hg sq e1 _ fun v σ' H' s' same => q v H' (fin s' same eb))
    · exact nomatch em
  · rename_i δ e1
    split at em
    · rename_i bs eb
      cases em
      exact see (hb A outer s H E hr hg sq e1 _ fun σ' H' s' same => q .non H' (fin (s'.put fun _ => .non) same eb))
    · exact nomatch em
  · exact nomatch em
end
end DL
set_option Elab.async false
set_option linter.all false
set_option maxRecDepth 100000
set_option maxHeartbeats 4000001
namespace DL
open PySem.Spec PySem L2 PyProof.Rows LamX
def fragC (n : Nat) (g : Addr → Option Obj) : PySem.W.Frag := He.frT g (sysModules :: cStatics :: He.asD g n)
def apartB : List Addr → Bool
  | [] => true
  | a :: r => r.all (fun b => !(Nat.beq a b)) && apartB r
theorem apartB_ok : ∀ {l : List Addr}, apartB l = true → l.Nodup
  | [], _ => .nil
  | a :: r, h => by
    obtain ⟨h1, h2⟩ := He.ba h
    refine List.nodup_cons.mpr ⟨fun m => ?_, apartB_ok h2⟩
    have := List.all_eq_true.mp h1 a m
    rw [Nat.beq_refl] at this
    exact nomatch this
def obsH (n : Nat) (tf : List He.Defn) (fa : List He.Fa) (fn : List He.DefD) (ex : PySem.W.Frag → Bool) (g : Addr → Option Obj) : AlS :=
  (sysB (fragC n g) && (ex (fragC n g) && (He.tabsB g tf (fragC n g) && apartB (tf.map fun p => (He.cT (fragC n g) p).2))), He.obsD fa fn (fragC n g))
structure SaysH (tf : List He.Defn) (fa : List He.Fa) (fn : List He.DefD) (ex : PySem.W.Frag → Bool) (h : Heap) (K : PySem.W.Frag) : Prop where
  sys : SysD K
  ext : ex K = true
  old : He.SaysD fa fn K
  tabs : ∀ p ∈ tf, PySem.W.codeHdIn K (He.cT K p).1 (He.cT K p).2 = true ∧ K.lookup (He.cT K p).2 = none ∧ h.get? (He.cT K p).2 = some { cls := .none, data := .fields #[] }
  apart : (tf.map fun p => (He.cT K p).2).Nodup
def hookH (n : Nat) (tf : List He.Defn) (fa : List He.Fa) (fn : List He.DefD) (ex : PySem.W.Frag → Bool) : PySem.W.Hook where
  α := AlS
  obs := fun s => obsH n tf fa fn ex s.heap.get?
  val := fun _ => (true, He.valD fn)
  says := fun _ h => ∃ K : PySem.W.Frag, K.In h ∧ SaysH tf fa fn ex h K
  of := fun w s e => by
    have e1 := congrArg (fun z : AlS => z.1) e
    have e2 := congrArg (fun z : AlS => z.2) e
    obtain ⟨h1, h2⟩ := He.ba e1
    obtain ⟨h3, h4⟩ := He.ba h2
    obtain ⟨h5, h6⟩ := He.ba h4
    refine ⟨_, He.frT_in, sysB_ok h1, h3, e2, fun p hp => ?_, apartB_ok h6⟩
    obtain ⟨h7, h8⟩ := He.ba (List.all_eq_true.mp h5 p hp)
    cases q : s.heap.get? (He.cT (fragC n s.heap.get?) p).2 with
    | none =>
      rw [q] at h8
      exact nomatch h8
    | some o =>
      rw [q] at h8
      exact ⟨h7, He.frT_none q h8, q.trans (congrArg some (He.emptyTab_eq h8))⟩
  keeps := fun _ _ _ ⟨K, hin, c⟩ k => ⟨K, PySem.W.Frag.In.keeps hin k, c.sys, c.ext, c.old, fun p hp => let ⟨a, b, e⟩ := c.tabs p hp; ⟨a, b, k _ _ e⟩, c.apart⟩
theorem obsH_eq {n : Nat} {tf : List He.Defn} {fa : List He.Fa} {fn : List He.DefD} {ex : PySem.W.Frag → Bool} {g : Addr → Option Obj} {s : Shared} (h : ∀ a, g a = s.heap.get? a) : obsH n tf fa fn ex g = (hookH n tf fa fn ex).obs s := by
  obtain rfl : g = s.heap.get? := funext h
  rfl
theorem code_of {K : PySem.W.Frag} {x qual : Str} {params : Arguments} {body : List Stmt} {scope : Scope} {dvs : List V} {kws : List (Str × V)} {fd : FuncData} {p : He.Defn} (F : FunD K x qual params body scope dvs kws (He.fAd K p) fd) : fd.code = .ref (He.cT K p).1 := by
  obtain ⟨oc, od, dV, kV, doc, pm, an, cdv, ct, osl, rfl, lk, hcd, _, _⟩ := F.ex
  obtain ⟨c, rfl⟩ := He.codeIn_ref hcd
  exact congrArg Value.ref (He.codeOf_eq lk rfl).symm
theorem tabK_of {K : PySem.W.Frag} {mg : Str → Option Value} {g x qual : Str} {params : Arguments} {body : List Stmt} {scope : Scope} {dvs : List V} {kws : List (Str × V)} {fd : FuncData} {p : He.Defn} (F : FunD K x qual params body scope dvs kws (He.fAd K p) fd) (hm : mg g = some (.ref (He.fAd K p))) (hd : PySem.W.codeHdIn K (He.cT K p).1 (He.cT K p).2 = true) : TabK K mg g (He.cT K p).2 := by
  have hc := code_of F
  obtain ⟨oc, od, dV, kV, doc, pm, an, cdv, ct, osl, e, lk, hcd, _, _⟩ := F.ex
  obtain ⟨o, vs, h1, h2, h3⟩ := codeHd_fields hd
  exact ⟨_, _, oc, od, fd, osl, o, vs, hm, lk, hc, h1, h2, h3⟩
def doorsH (K : PySem.W.Frag) (Ts : List Addr) (a : Addr) (oA : Obj) (xs : List V) : Hp := fun b =>
  if b ∈ Ts then some (.tbl #[]) else if b = a ∧ K.lookup a = none then some (.frz oA (.lst xs)) else none
structure Doors (K : PySem.W.Frag) (h : Heap) (Ts : List Addr) (a : Addr) (oA : Obj) : Prop where
  kin : K.In h
  tab : ∀ T ∈ Ts, h.get? T = some { cls := .none, data := .fields #[] } ∧ K.lookup T = none
  scr : h.get? a = some oA
  seq : ∃ vs n, oA.data = .seq vs n
namespace Doors
variable {K : PySem.W.Frag} {h : Heap} {Ts : List Addr} {a b c T : Addr} {oA : Obj} {xs : List V} {mg : Str → Option Value}
theorem notA (d : Doors K h Ts a oA) : a ∉ Ts := fun m => by
  obtain ⟨vs, n, e⟩ := d.seq
  have := (d.tab a m).1
  rw [d.scr] at this
  cases this
  cases e
/-- a thing of the heap that is no table and no list is not tracked -/
theorem un (d : Doors K h Ts a oA) {o : Obj} (e : h.get? b = some o) (h1 : ∀ vs, o.data ≠ .fields vs ∨ ∃ i : Nat, i < vs.size) (h2 : ∀ vs n, o.data ≠ .seq vs n) : doorsH K Ts a oA xs b = none := by
  have n1 : b ∉ Ts := fun m => by
    rw [(d.tab b m).1] at e
    cases e
    rcases h1 #[] with z | ⟨i, z⟩
    · exact z rfl
    · exact Nat.not_lt_zero _ z
  have n2 : b ≠ a := fun z => by
    subst z
    obtain ⟨vs, n, q⟩ := d.seq
    rw [d.scr] at e
    cases e
    exact h2 _ _ q
  simp [doorsH, n1, n2]
theorem see (d : Doors K h Ts a oA) {o : Obj} (e : h.get? b = some o) (h1 : ∀ vs, o.data ≠ .fields vs ∨ ∃ i : Nat, i < vs.size) (h2 : ∀ vs n, o.data ≠ .seq vs n) : (hidT h (doorsH K Ts a oA xs)).get? b = some o := hidT_get e (d.un e h1 h2)
theorem ns (d : Doors K h Ts a oA) {m : Str → Option Value} (n : h.Ns b m) : (hidT h (doorsH K Ts a oA xs)).Ns b m := by
  obtain ⟨o, es, ep, e, dd, r⟩ := n
  exact ⟨o, es, ep, d.see e (fun vs => .inl (by rw [dd]; nofun)) (fun _ _ => by rw [dd]; nofun), dd, r⟩
theorem kin2 (d : Doors K h Ts a oA) : K.In (hidT h (doorsH K Ts a oA xs)) := fun b o e => hidT_get (d.kin b o e) (by
  have n1 : b ∉ Ts := fun m => by rw [(d.tab b m).2] at e; exact nomatch e
  have n2 : ¬ (b = a ∧ K.lookup a = none) := fun ⟨z, q⟩ => by rw [z, q] at e; exact nomatch e
  simp only [doorsH, if_neg n1, if_neg n2])
theorem tabB (d : Doors K h Ts a oA) (hT : T ∈ Ts) (hns : h.Ns mainGlobals mg) (C : PySem.W.CodeHd h c T)
    (hbm : ∃ (bm : Addr) (ob : Obj), mg "__builtins__" = some (.ref bm) ∧ bm ≠ builtinsNs ∧ h.get? bm = some ob ∧ ob.cls = .type "module" ∧ ob.dict = some builtinsNs ∧ ob.data = .plain) : TabB (hidT h (doorsH K Ts a oA xs)) mg c T := by
  have eT := (d.tab T hT).1
  have gT : mainGlobals ≠ T := fun z => by
    obtain ⟨o, _, _, e, dd, _⟩ := hns
    rw [z, eT] at e
    cases e
    exact nomatch dd
  have c2 : PySem.W.CodeHd (hidT h (doorsH K Ts a oA xs)) c T := by
    obtain ⟨oc, us, file, tf, flags, tg, inF, text, tt, e1, x1, x2, x3, xs'⟩ := C
    refine ⟨oc, us, file, tf, flags, tg, inF, text, tt, d.see e1 (fun vs => ?_) (fun _ _ => by rw [x2]; nofun), x1, x2, x3, xs'⟩
    by_cases q : vs = us
    · subst q
      exact .inr ⟨_, (Array.getElem?_eq_some_iff.mp x3).1⟩
    · exact .inl fun z => q (by rw [x2] at z; exact (Data.fields.inj z).symm)
  obtain ⟨bm, ob, y1, y2, y3, y4, y5, y6⟩ := hbm
  have nG : bm ≠ mainGlobals := fun z => by
    obtain ⟨_, _, _, e, dd, _⟩ := hns
    rw [← z, y3] at e
    cases e
    rw [y6] at dd
    exact nomatch dd
  have nT : bm ≠ T := fun z => by
    rw [z, eT] at y3
    cases y3
    exact nomatch y6
  exact ⟨c2, ⟨bm, ob, y1, y2, nG, nT, d.see y3 (fun _ => .inl (by rw [y6]; nofun)) (fun _ _ => by rw [y6]; nofun), y4, y5, y6⟩, gT⟩
theorem cases_ (d : Doors K h Ts a oA) (b : Addr) : (b ∈ Ts ∧ doorsH K Ts a oA xs b = some (.tbl #[])) ∨ (b ∉ Ts ∧ b = a ∧ doorsH K Ts a oA xs b = some (.frz oA (.lst xs))) ∨ (b ∉ Ts ∧ doorsH K Ts a oA xs b = none) := by
  unfold doorsH
  by_cases h1 : b ∈ Ts
  · exact .inl ⟨h1, if_pos h1⟩
  · rw [if_neg h1]
    by_cases h2 : b = a ∧ K.lookup a = none
    · exact .inr (.inl ⟨h1, h2.1, if_pos h2⟩)
    · exact .inr (.inr ⟨h1, if_neg h2⟩)
theorem old (d : Doors K h Ts a oA) {h' : Heap} {P : Program} {w : World} {H' : Hp} (C : ∀ T ∈ Ts, ∃ c, PySem.W.CodeHd h c T) (un : Un [] [] (doorsH K Ts a oA xs) H' h h') (ok' : HOk P w H' h') : OldK h h' := by
  have stays : ∀ b o, b ∉ Ts → h.get? b = some o → h'.get? b = some o := fun b o hb e => by
    rcases d.cases_ (xs := xs) b with z | ⟨_, rfl, z⟩ | z
    · exact absurd z.1 hb
    · rw [(ok' b _ (un.frzs b _ _ z)).1, ← e, d.scr]
    · exact un.keep b o e z.2 List.not_mem_nil List.not_mem_nil
  have grown : ∀ b, b ∈ Ts → ∃ m, h'.get? b = some { cls := .none, data := .fields (#[] ++ m) } := fun b hb => by
    obtain ⟨m, em⟩ := un.tbls b _ (if_pos hb)
    exact ⟨m, ok' b _ em⟩
  constructor
  · intro b o e
    by_cases hb : b ∈ Ts
    · obtain ⟨m, q⟩ := grown b hb
      obtain ⟨c, C⟩ := C b hb
      have eT := (d.tab b hb).1
      rw [eT] at e
      cases e
      exact .inr (.inl ⟨(C.tab eT).isCodeTable, rfl, _, m, rfl, q⟩)
    · exact .inl (stays b o hb e)
  · intro b o e
    by_cases hb : b ∈ Ts
    · exact let ⟨_, q⟩ := grown b hb; ⟨_, q⟩
    · exact ⟨o, stays b o hb e⟩
end Doors
/-- the call of a law, its tables and its helpers' laid out -/
theorem endGH {P : Program} {w : World} {K : PySem.W.Frag} {mg mb : Str → Option Value} {k : Nat} {fa a : Addr} {fd : FuncData} {x : Str} {sp : L2.Sp} {s₁ : Shared} {vs : List Value} {ns : List Int} {cs : List (Addr × Addr)}
    (inK : K.In s₁.heap) (hns : s₁.heap.Ns mainGlobals mg) (hnb : s₁.heap.Ns builtinsNs mb) (hbb : ∀ y : Str, y ≠ "__name__" → mb y = bootBuiltins y) (nol : s₁.heap.NoLimit) (noG : s₁.gens = #[])
    (hT : ∀ p ∈ cs, PySem.W.CodeHd s₁.heap p.1 p.2 ∧ s₁.heap.get? p.2 = some { cls := .none, data := .fields #[] } ∧ K.lookup p.2 = none)
    (hbm : ∃ (bm : Addr) (ob : Obj), mg "__builtins__" = some (.ref bm) ∧ bm ≠ builtinsNs ∧ s₁.heap.get? bm = some ob ∧ ob.cls = .type "module" ∧ ob.dict = some builtinsNs ∧ ob.data = .plain)
    (hA : s₁.heap.get? a = some { cls := .type "list", data := .seq vs.toArray }) (are : IntsAre vs ns) (short : ns.length ≤ sizeLine) (room : Room k callerA)
    (F : ∀ base : Heap, K.In base → base.Ns mainGlobals mg → (∀ p ∈ cs, TabB base mg p.1 p.2) → FnG P w K mg base k fa fd [x] sp) (bind : ∀ (s : Shared) (u : Value), BindsTo s fd ⟨[u], []⟩ [(x, u)])
    (law : ∀ H : Hp, (∀ p ∈ cs, H p.2 = some (.tbl #[])) → ScrAt K H a (ns.map V.int) → sp [.ref a] H (fun v _ => v = .bl true) E0) :
    codeAny (model P w) callerA (.call (.ref fa) ⟨[.ref a], []⟩) (fun r s' => r = .ok (.ret (.bool true)) ∧ OldK s₁.heap s'.heap ∧ s'.os = s₁.os ∧ AllBare s'.gens) s₁ := by
  have inT : ∀ p ∈ cs, p.2 ∈ cs.map (·.2) := fun p hp => List.mem_map_of_mem hp
  have d : Doors K s₁.heap (cs.map (·.2)) a { cls := .type "list", data := .seq vs.toArray } := ⟨inK, fun T m => by
    obtain ⟨p, hp, rfl⟩ := List.mem_map.mp m
    exact (hT p hp).2, hA, _, _, rfl⟩
  have C : ∀ T ∈ cs.map (·.2), ∃ c, PySem.W.CodeHd s₁.heap c T := fun T m => by
    obtain ⟨p, hp, rfl⟩ := List.mem_map.mp m
    exact ⟨_, (hT p hp).1⟩
  have vals := vals_ints are
  have len : vs.length ≤ sizeLine := are.length ▸ short
  have scr : ScrAt K (doorsH K (cs.map (·.2)) a { cls := .type "list", data := .seq vs.toArray } (ns.map V.int)) a (ns.map V.int) := by
    cases hk : K.lookup a with
    | none => exact .inl ⟨_, by unfold doorsH; rw [if_neg d.notA, if_pos ⟨rfl, hk⟩]⟩
    | some o =>
      obtain rfl : o = { cls := .type "list", data := .seq vs.toArray } := Option.some.inj ((inK a o hk).symm.trans hA)
      exact .inr ⟨_, _, _, hk, rfl, rfl, rfl, by simpa using len, vals⟩
  have ok : HOk P w (doorsH K (cs.map (·.2)) a { cls := .type "list", data := .seq vs.toArray } (ns.map V.int)) s₁.heap := by
    intro b u e
    rcases d.cases_ (xs := ns.map V.int) b with ⟨m, z⟩ | ⟨_, rfl, z⟩ | z
    · rw [z] at e
      cases e
      exact (d.tab b m).1
    · rw [z] at e
      cases e
      exact ⟨hA, by simpa using short, vs, _, vals, hA⟩
    · rw [z.2] at e
      exact nomatch e
  have md : L2.Mod K mg (hidT s₁.heap (doorsH K (cs.map (·.2)) a { cls := .type "list", data := .seq vs.toArray } (ns.map V.int))) := ⟨d.kin2, d.ns hns, ⟨mb, d.ns hnb, hbb⟩, let ⟨mc, l1, l2⟩ := nol; ⟨mc, d.ns l1, l2⟩⟩
  have env : Env0 P w K mg (hidT s₁.heap (doorsH K (cs.map (·.2)) a { cls := .type "list", data := .seq vs.toArray } (ns.map V.int))) callerA [] s₁ (doorsH K (cs.map (·.2)) a { cls := .type "list", data := .seq vs.toArray } (ns.map V.int)) :=
    { frames := rfl, mod := md, bs := fun _ _ e => of_hidT e, bsz := Nat.le_of_eq (hidT_size _ _), funs := trivial, frf := nofun, hok := ok, bare := .of_eq noG }
  refine codeAny_mono ((F _ d.kin2 (d.ns hns) fun p hp => d.tabB (inT p hp) hns (hT p hp).1 hbm).run callerA [] s₁ _ ⟨[.ref a], []⟩ [.ref a] [.ref a] _ _ room rfl env (bind s₁ (.ref a)) (.cons rfl .nil) (law _ (fun p hp => if_pos (inT p hp)) scr)) fun r s' out => ?_
  match r, out with
  | .ok (.ret u), ⟨v, H', so, sb, un, ok', rv, hv⟩ =>
    subst hv
    obtain rfl : u = .bool true := rv
    exact ⟨rfl, d.old C un ok', so, sb⟩
/-- the tables at the door stand for themselves -/
theorem rps_tabs {K : PySem.W.Frag} {mg : Str → Option Value} {H : Hp} {Z : Addr → Prop} : ∀ {cs : List (Addr × Addr)} {gq : List (Str × Str)}, cs.length = gq.length → (∀ z ∈ cs.zip gq, TabK K mg z.2.1 z.1.2) → (∀ p ∈ cs, H p.2 = some (.tbl #[])) →
    Rps K mg H Z ((cs.map fun p => V.ref p.2).zip (gq.map fun z => D.tab z.1 z.2)) (cs.map (·.2))
  | [], [], _, _, _ => .nil
  | p :: cs, z :: gq, l, tk, ht => .cons (F := [p.2]) (.tab (cs := []) (tk (p, z) List.mem_cons_self) (ht p List.mem_cons_self) trivial (fun _ _ e => nomatch e) nofun) (rps_tabs (Nat.succ.inj l) (fun y m => tk y (List.mem_cons_of_mem _ m)) fun y m => ht y (List.mem_cons_of_mem _ m))
  | [], _ :: _, l, _, _ => nomatch l
  | _ :: _, [], l, _, _ => nomatch l
/-- the law by its mirror, which gets the tables behind the script -/
theorem walk_ofGH {l : PySem.W.OpenLaw} {n k : Nat} {q : Program} {loose : List Str} {XP : (Str → Option Value) → Heap → Prop} {YP : World → Heap → Prop} {d : DefRec} {px : Str} {gq : List (Str × Str)} {m : MF}
    (hn : l.most = some n) (hn2 : n ≤ sizeLine) (hdf : d.params.defaults = []) (room : Room k callerA)
    (law : ∀ nums : List Int, nums.length ≤ n → ∃ ds', m (.scr (nums.map D.int) :: gq.map fun z => D.tab z.1 z.2) = some (.bl true, ds'))
    (prom : ∀ (w : World) (mg : Str → Option Value) (lf : Addr) (h : Heap), YP w h → h.Ns mainGlobals mg → mg d.name = some (.ref lf) →
      ∃ (K : PySem.W.Frag) (fd : FuncData) (cs : List (Addr × Addr)), K.In h ∧ (∀ (s : Shared) (u : Value), BindsTo s fd ⟨[u], []⟩ [(px, u)]) ∧ cs.length = gq.length ∧ (cs.map (·.2)).Nodup ∧ (∀ z ∈ cs.zip gq, TabK K mg z.2.1 z.1.2) ∧
        (∀ p ∈ cs, PySem.W.codeHdIn K p.1 p.2 = true ∧ h.get? p.2 = some { cls := .none, data := .fields #[] } ∧ K.lookup p.2 = none) ∧
        ∀ base : Heap, K.In base → base.Ns mainGlobals mg → (∀ p ∈ cs, TabB base mg p.1 p.2) → FnG l.prog w K mg base k lf fd [px] (spH K mg gq.length 1 m)) : PySem.W.WalkO q loose XP YP l.row.toRowW d [] (fun f vs => PySem.call f vs) := by
  refine Att.attach_callB hn hdf fun w s₀ s₁ mg mb lf o pmv cd doc at_ its nums G Y ho hd hcd hmg hobj hints hlen hbits hg => ?_
  obtain ⟨K, fd, cs, inK, hb, hl, nd, tk, hT, hF⟩ := prom w mg lf _ Y G.T.g hmg
  refine endGH (cs := cs) inK G.T.g G.T.b G.T.builtins G.T.nolimit hg (fun p hp => let ⟨a, b, c⟩ := hT p hp; ⟨PySem.W.codeHd_of_K inK a, b, c⟩) G.T.bmain hobj hints (Nat.le_trans hlen hn2) room hF hb fun H hH scr => ?_
  obtain ⟨ds', em⟩ := law nums hlen
  refine ⟨rfl, cs.map fun p => .ref p.2, by simpa using hl, ?_⟩
  refine ⟨by simp [hl]; omega, fun _ => True, fun a => if a ∈ cs.map (·.2) then none else H a, .scr (nums.map D.int) :: gq.map fun z => D.tab z.1 z.2, .bl true, ds', by simp; omega, ?_, em, fun v H' s' => Sp.bl s'⟩
  have notT : ∀ a u, a ∈ cs.map (·.2) → H a = some u → u = .tbl #[] := fun a u m e => by
    obtain ⟨p, hp, rfl⟩ := List.mem_map.mp m
    exact Option.some.inj (e.symm.trans (hH p hp))
  refine ⟨⟨cs.map (·.2), .cons (F := []) (.scr scr (ints_reps nums)) (rps_tabs hl tk hH), nd, fun a m => if_pos m⟩, fun a o e => ?_, fun a e => ?_⟩
  · by_cases h : a ∈ cs.map (·.2)
    · rw [if_pos h] at e
      exact nomatch e
    · rwa [if_neg h] at e
  · trivial
end DL
set_option Elab.async false
set_option linter.all false
set_option maxRecDepth 100000
set_option maxHeartbeats 4000001
namespace DL
open PySem.Spec PySem L2 PyProof.Rows LamX
def catB (K : PySem.W.Frag) (base : Str) (es : CT) : Bool := es.all fun p => decide (PySem.W.exmOne K (.ref (He.ga K p.1)) (.ref (He.ga K base)) = some true)
structure CatT (K : PySem.W.Frag) (mg : Str → Option Value) (base : Str) (es : CT) : Prop where
  cat : ∀ c, (es.lookup c).isSome = true → ∀ C CS, mg c = some (.ref C) → mg base = some (.ref CS) → PySem.W.exmOne K (.ref C) (.ref CS) = some true
theorem catT_of {K : PySem.W.Frag} {mg : Str → Option Value} {base : Str} {es : CT} (h : catB K base es = true) (hg : ∀ p ∈ es, mg p.1 = some (.ref (He.ga K p.1))) (hb : mg base = some (.ref (He.ga K base))) : CatT K mg base es := by
  refine ⟨fun c hl C CS hC hCS => ?_⟩
  obtain ⟨bs, hl⟩ := Option.isSome_iff_exists.mp hl
  have m := lookup_mem hl
  cases (hg _ m).symm.trans hC
  cases hb.symm.trans hCS
  exact of_decide_eq_true (List.all_eq_true.mp h _ m)
section
variable {X : Cx} {x f g : Str} {p pos p3 : Pos} {e : Expr} {es : List Expr} {as : List AS} {k : Nat} {ps : List Str} {m : ME} {mf : MF} {xm : List D → Option Ex} {dd : List D}
theorem xx_raise1 (c : CalE X.prog X.w X.K X.mg X.base k x f g) (hr : Room (k + 1) X.A) (he : IG X e m) (hc : X.calm = true := by rfl) (hg : Gl X x := by rfl) (hs : starEach [e] X.env = (false, eval e X.env) :: starEach [] X.env := by rfl) (hdb : (x == ("__debug__" : Str)) = false := by decide) :
    XS X (.Raise (some (.Call (.Name x p) [e] [] p3)) none pos) (xRaise1 x f m) := by
  obtain ⟨C, fI, fd, self, hC, O, F, hb, _⟩ := c.ex
  exact xs_raise1 hc O.ox O.init O.fn F hr hb hg hC he hdb hs
end
end DL
set_option Elab.async false
set_option linter.all false
set_option maxRecDepth 100000
set_option maxHeartbeats 4000001
namespace DL
open PySem.Spec PySem L2 PyProof.Rows
end DL
set_option Elab.async false
set_option linter.all false
set_option maxRecDepth 100000
set_option maxHeartbeats 4000001
namespace DL
open PySem.Spec PySem L2 PyProof.Rows
end DL
set_option Elab.async false
set_option linter.all false
set_option maxRecDepth 100000
set_option maxHeartbeats 4000001
namespace DL
open PySem.Spec PySem L2 PyProof.Rows
end DL
set_option Elab.async false
set_option linter.all false
set_option maxRecDepth 100000
set_option maxHeartbeats 4000001
namespace DL
open PySem.Spec PySem L2 PyProof.Rows
end DL
set_option Elab.async false
set_option linter.all false
set_option maxRecDepth 100000
set_option maxHeartbeats 4000001
namespace DL
open PySem.Spec PySem L2 PyProof.Rows
end DL
set_option Elab.async false
set_option linter.all false
set_option maxRecDepth 100000
set_option maxHeartbeats 4000001
namespace DL
open PySem.Spec PySem L2 PyProof.Rows
end DL
set_option Elab.async false
set_option linter.all false
set_option maxRecDepth 100000
set_option maxHeartbeats 4000001
namespace DL
open PySem.Spec PySem L2 PyProof.Rows
end DL
set_option Elab.async false
set_option linter.all false
set_option maxRecDepth 100000
set_option maxHeartbeats 4000001
namespace DL
open PySem.Spec PySem L2 PyProof.Rows LamX
end DL
set_option Elab.async false
set_option linter.all false
set_option maxRecDepth 100000
set_option maxHeartbeats 4000001
namespace DL
open PySem.Spec PySem L2 PyProof.Rows
end DL
set_option Elab.async false
set_option linter.all false
set_option maxRecDepth 100000
set_option maxHeartbeats 4000001
namespace DL
open PySem.Spec PySem L2 PyProof.Rows
end DL
set_option Elab.async false
set_option linter.all false
set_option maxRecDepth 100000
set_option maxHeartbeats 4000001
namespace DL
open PySem.Spec PySem L2 PyProof.Rows
end DL
set_option Elab.async false
set_option linter.all false
set_option maxRecDepth 100000
set_option maxHeartbeats 4000001
namespace DL
open PySem.Spec PySem L2 PyProof.Rows
end DL
set_option Elab.async false
set_option linter.all false
set_option maxRecDepth 100000
set_option maxHeartbeats 4000001
namespace DL
open PySem.Spec PySem L2 PyProof.Rows
end DL
set_option Elab.async false
set_option linter.all false
set_option maxRecDepth 100000
set_option maxHeartbeats 4000001
namespace DL
open PySem.Spec PySem L2 PyProof.Rows LamX
end DL
set_option Elab.async false
set_option linter.all false
set_option maxRecDepth 100000
set_option maxHeartbeats 4000001
namespace DL
open PySem PySem.Calls PyProof.Rows PyProof.V PySem.Spec PySem.W
open L2 hiding St
end DL
set_option Elab.async false
set_option linter.all false
set_option maxRecDepth 100000
set_option maxHeartbeats 4000001
namespace DL
open PySem.Spec PySem L2 PyProof.Rows
end DL
set_option Elab.async false
set_option linter.all false
set_option maxRecDepth 100000
set_option maxHeartbeats 4000001
namespace DL
open PySem.Spec PySem L2 PyProof.Rows
end DL
set_option Elab.async false
set_option linter.all false
set_option maxRecDepth 100000
set_option maxHeartbeats 4000001
namespace DL
open PySem.Spec PySem L2 PyProof.Rows
end DL
set_option Elab.async false
set_option linter.all false
set_option maxRecDepth 100000
set_option maxHeartbeats 4000001
namespace DL
open PySem.Spec PySem L2 PyProof.Rows
end DL
namespace DL
open PySem.Spec PySem L2 PyProof.Rows
end DL
set_option Elab.async false
set_option linter.all false
set_option maxRecDepth 100000
set_option maxHeartbeats 4000001
namespace DL
open PySem.Spec PySem L2 PyProof.Rows
end DL
set_option Elab.async false
set_option linter.all false
set_option maxRecDepth 100000
set_option maxHeartbeats 4000001
namespace DL
open PySem.Spec PySem L2 PyProof.Rows LamX
section
variable {X : Cx} {pins : List (Addr × Obj)} {σ : L2.St} {H H3 : Hp} {s s3 : Shared}
/-- since the def of X began: what the heap at s0 H0 has become, who stands in outer -/
def Since (X : Cx) (outer : List PySem.Env) (s0 : Shared) (H0 : Hp) : Prop := Un X.fs [] X.H_0 H0 X.s_0.heap s0.heap ∧ ∀ b ∈ frs outer, b ∈ X.fs ∨ X.s_0.heap.get? b = none
theorem Since.of {en : PySem.Env} {b0 : Addr} {s1 : Shared} {H1 : Hp} (I : Inv X pins σ H s) (hs : X.stack = X.env :: X.outer) (hf : X.env.frame = some X.env.locals) (hex : X.ex = []) (he : en.frame = some b0) (hb : s.heap.objs.size ≤ b0) (u : Un (frs X.stack) [] H H1 s.heap s1.heap) : Since X (en :: X.stack) s1 H1 := by
  have grown := I.base
  rw [hex] at grown
  have away : ∀ b, X.s_0.heap.objs.size ≤ b → X.s_0.heap.get? b = none := fun b l => by
    cases e : X.s_0.heap.get? b with
    | none => rfl
    | some o => exact absurd (Heap.lt_size e) (Nat.not_lt.mpr l)
  have own : frs X.stack = X.env.locals :: X.fs := by
    rw [hs]
    show (X.env :: X.outer).filterMap (·.frame) = _
    rw [List.filterMap_cons_some hf]
    rfl
  have mine : X.s_0.heap.get? X.env.locals = none := away _ I.ok.above
  refine ⟨un_inner grown u fun b m => ?_, fun b m => ?_⟩
  · rw [own] at m
    rcases List.mem_cons.mp m with rfl | m
    · exact .inr mine
    · exact .inl m
  · have : frs (en :: X.stack) = b0 :: frs X.stack := List.filterMap_cons_some he
    rw [this, own] at m
    rcases List.mem_cons.mp m with rfl | m
    · refine .inr ?_
      cases e : X.s_0.heap.get? b with
      | none => rfl
      | some o =>
        obtain ⟨o2, e2⟩ := grown.there b o e List.not_mem_nil
        exact absurd (Heap.lt_size e2) (Nat.not_lt.mpr hb)
    · rcases List.mem_cons.mp m with rfl | m
      · exact .inr mine
      · exact .inl m
/-- what a lambda's body makes, where it is known how the heap has grown since its def began -/
def sinceW (X : Cx) (scope : Scope) (body : Expr) (k : Nat) (f c1 : Addr) (σ : L2.St) : XK → Hp → VK → Prop := fun E HZ Q =>
  ∀ (A : Around) (outer : List PySem.Env) (s0 : Shared) (H0 : Hp), Room k (A.deeper (lamEnv X scope s0.heap.objs.size f c1)) → A.guards = some [] → Since X outer s0 H0 → wE (lamCx X A outer s0 H0 E scope f c1) body σ HZ Q
/-- the catcher, called with such a lambda, calls it -/
theorem pe_actS {CXg : CXT} {Eg : XK} {Ng : List Str} {qg : Str} {sg : Scope} {g f c1 : Addr} {cdg pm ctv : Value} {params : Arguments} {body : Expr} {scope : Scope} {k i : Nat} {a : Str} {pn : List (Addr × Obj)} {xe : Value → Shared → Prop} {W : WX} {E : XK} {p1 p2 : Pos}
    (I : Inv X pins σ H s) (hst : X.stack = X.env :: X.outer) (hfm : X.env.frame = some X.env.locals) (hex : X.ex = []) (L : LamS X.env.scope scope) (hf : s.heap.get? f = some (PySem.W.kla_obj "<lambda>" (X.env.qual ++ "<lambda>") params body scope (cloFrom X.env.cells scope.names []) pm c1 ctv)) (hfn : H f = none) (hfr : f ∉ frs X.stack)
    (hbind : bindArgs (PySem.W.kla_fn "<lambda>" (X.env.qual ++ "<lambda>") params body scope (cloFrom X.env.cells scope.names []) pm (.ref c1) ctv) ⟨[], []⟩ = pure [])
    (tk : Takes ((cxOf CXg X.prog X.w X.K X.mg X.base Ng qg sg g cdg X.A X.stack s H Eg).tr pn xe) W) (hW : ∀ cls d σ' H', E cls d H' → W cls d σ' H') (hr : Room (k + 1) (X.A.deeper (envOfC qg sg s.heap.objs.size g cdg))) (hg : X.A.guards = some [])
    (hN : Ng[i]? = some a) (hv : Vis sg a) (hdb : (a == ("__debug__" : Str)) = false) (hdc : (a == ("__classdict__" : Str)) = false) :
    PE ((cxOf CXg X.prog X.w X.K X.mg X.base Ng qg sg g cdg X.A X.stack s H Eg).tr pn xe) (.Call (.Name a p1) [] [] p2)
      (fun σ2 H2 Q => σ2[i]? = some (some (.ref f)) ∧ H2 c1 = some (CodeO c1 (X.env.qual ++ "<lambda>")) ∧ sinceW X scope body k f c1 σ E H2 Q) := by
  constructor
  rintro pins2 s2 σ2 H2 Q I2 ⟨hs, hc, ht⟩
  apply wpAny_Call_Name_kw
  refine wpAny_mono ((pe_var (pos := p1) hN hv hdb hdc).run pins2 s2 σ2 H2 (fun v H1 => v = .ref f ∧ H1 = H2) I2 ⟨.ref f, hs, rfl, rfl⟩) ?_ fun _ _ z => z
  rintro u s1 ⟨_, _, I1, ru, rfl, rfl⟩
  cases ru
  have lam : s1.heap.get? f = some (PySem.W.kla_obj "<lambda>" (X.env.qual ++ "<lambda>") params body scope (cloFrom X.env.cells scope.names []) pm c1 ctv) := I1.base.keep f _ hf hfn hfr List.not_mem_nil
  apply PySem.W.callWith_F0 ⟨_, _, _, _, lam⟩
  have grown : Un (frs X.stack) [] H _ s.heap s1.heap := I1.base
  have here : Since X (envOfC qg sg s.heap.objs.size g cdg :: X.stack) s1 _ := Since.of I hst hfm hex (en := envOfC qg sg s.heap.objs.size g cdg) (b0 := s.heap.objs.size) rfl (Nat.le_refl _) grown
  have rc := lam_run (tb := fun z HZ Q => sinceW X scope body k f c1 z E HZ Q) I L lam hc I1.env0 grown hbind hr ⟨fun pins s' z HZ Q J h => h _ _ s1 _ (hr.deeper _) hg here pins s' J⟩ ht
  have out := passes_call (X := (cxOf CXg X.prog X.w X.K X.mg X.base Ng qg sg g cdg X.A X.stack s H Eg).tr pn xe) tk hW
  exact wpAny_call (codeAny_mono rc fun r t z => match r, z with
    | .ok (.ret _), z => I1.after z
    | .error e, z => out pins2 σ2 _ s1 e t I1 z)
/-- a lambda of a def calls the lambda that the def got -/
theorem pe_task {y qk : Str} {f c1 kf f2 c2 : Addr} {k i : Nat} {sk scope2 : Scope} {pm2 ctv cdk : Value} {Nk : List Str} {params : Arguments} {body : Expr} {scope : Scope} {p1 p2 : Pos} {A : Around} {outer : List PySem.Env} {s0 : Shared} {H0 : Hp} {E : XK}
    (I : Inv X pins σ H s) (L : LamS X.env.scope scope) (hf : s.heap.get? f = some (PySem.W.kla_obj "<lambda>" (X.env.qual ++ "<lambda>") params body scope (cloFrom X.env.cells scope.names []) pm2 c1 ctv)) (hfn : H f = none) (hfr : f ∉ frs X.stack)
    (hbind : bindArgs (PySem.W.kla_fn "<lambda>" (X.env.qual ++ "<lambda>") params body scope (cloFrom X.env.cells scope.names []) pm2 (.ref c1) ctv) ⟨[], []⟩ = pure [])
    (now : Since (cxOf C8.CX0 X.prog X.w X.K X.mg X.base Nk qk sk kf cdk X.A X.stack s H C8.E0).nox outer s0 H0)
    (hr : Room (k + 1) (A.deeper (lamEnv (cxOf C8.CX0 X.prog X.w X.K X.mg X.base Nk qk sk kf cdk X.A X.stack s H C8.E0).nox scope2 s0.heap.objs.size f2 c2))) (hg : A.guards = some [])
    (hN : Nk[i]? = some y) (hv : Vis scope2 y) (hdy : (y == ("__debug__" : Str)) = false) (hdz : (y == ("__classdict__" : Str)) = false) :
    PE (lamCx (cxOf C8.CX0 X.prog X.w X.K X.mg X.base Nk qk sk kf cdk X.A X.stack s H C8.E0).nox A outer s0 H0 E scope2 f2 c2) (.Call (.Name y p1) [] [] p2)
      (fun σ2 H2 Q => σ2[i]? = some (some (.ref f)) ∧ H2 c1 = some (CodeO c1 (X.env.qual ++ "<lambda>")) ∧ anyW X scope body k f c1 σ E H2 Q) := by
  constructor
  rintro pins2 s2 σ2 H2 Q I2 ⟨hs, hc, ht⟩
  apply wpAny_Call_Name_kw
  refine wpAny_mono ((pe_var (pos := p1) hN hv hdy hdz).run pins2 s2 σ2 H2 (fun v H1 => v = .ref f ∧ H1 = H2) I2 ⟨.ref f, hs, rfl, rfl⟩) ?_ fun _ _ z => z
  rintro u s1 ⟨_, _, I1, ru, rfl, rfl⟩
  cases ru
  have since : Un (frs outer) [] H0 _ s0.heap s1.heap := I1.base
  have first : Un (frs X.stack) [] H H0 s.heap s0.heap := now.1
  have all : Un (frs X.stack) [] H _ s.heap s1.heap := un_inner first since now.2
  have lam : s1.heap.get? f = some (PySem.W.kla_obj "<lambda>" (X.env.qual ++ "<lambda>") params body scope (cloFrom X.env.cells scope.names []) pm2 c1 ctv) := all.keep f _ hf hfn hfr List.not_mem_nil
  apply PySem.W.callWith_F0 ⟨_, _, _, _, lam⟩
  have rc := lam_run (E := E) (tb := fun z HZ Q => anyW X scope body k f c1 z E HZ Q) I L lam hc I1.env0 all hbind hr ⟨fun pins s' z HZ Q J h => h _ _ s1 _ (hr.deeper _) hg pins s' J⟩ ht
  have out := passes_call (X := lamCx (cxOf C8.CX0 X.prog X.w X.K X.mg X.base Nk qk sk kf cdk X.A X.stack s H C8.E0).nox A outer s0 H0 E scope2 f2 c2) (takes_of rfl rfl rfl rfl) (E := E) (fun _ _ _ _ z => z)
  exact wpAny_call (codeAny_mono rc fun r t z => match r, z with
    | .ok (.ret _), z => I1.after z
    | .error e, z => out pins2 σ2 _ s1 e t I1 z)
end
end DL
set_option Elab.async false
set_option linter.all false
set_option maxRecDepth 100000
set_option maxHeartbeats 4000001
namespace DL
open PySem.Spec PySem L2 PyProof.Rows LamX
/-- the exception as it is kept -/
def excD (ex : Ex) : D := if ex.ns = [] then .exc ex.c [] [] else .exc ex.c ex.ns ex.ds
def mTold (cs : List Str) (t1 : Nat) (g1 q1 : Str) (t2 : Nat) (g2 q2 : Str) (mask : List Bool) (m : ME) (xm : MX) (n : Nat) (mb : MS) : ME := fun δ => match δ[t1]? with
  | some (some (.tab a b)) => match δ[t2]? with
    | some (some (.tab a2 b2)) => if a = g1 ∧ b = q1 ∧ a2 = g2 ∧ b2 = q2 then match xm (fzE (keepM mask δ)) with
        | some ex => if ex.c ∈ cs then match mb (some .hole :: some (.lst true []) :: some (excD ex) :: List.replicate n none) with
            | some (.rt d _) => some (d, if ex.ns = [] then δ else fzM mask δ)
            | _ => none
          else none
        | none => match m (fzE (keepM mask δ)) with
          | some (d, _) => if noal d = true then match mb (some .hole :: some (.lst true [d]) :: some .non :: List.replicate n none) with
              | some (.rt r _) => some (r, δ)
              | _ => none
            else none
          | none => none
      else none
    | _ => none
  | _ => none
section
variable {X : Cx} {body : Expr} {scope : Scope} {k : Nat} {f c1 CS : Addr} {cs : List Str} {mask : List Bool} {m : ME} {xm : MX} {Z : Addr → Prop} {Hb H1 : Hp} {σ : L2.St} {δ : Env} {L0 : PL} {d : D} {δ0 : Env} {Q : VK}
theorem parts_of (mask : List Bool) (σ : L2.St) (δ : Env) (L0 : PL) : (L0 ++ prs σ δ).Perm (prs σ (keepM mask δ) ++ (prs σ (restM mask δ) ++ L0)) := by
  refine ((prs_split mask σ δ).append_left L0).trans ?_
  rw [← List.append_assoc (prs σ (keepM mask δ))]
  exact List.perm_append_comm
/-- the lambda returns d -/
theorem lam_value (sA : Sq X Z Hb H1 σ δ L0)
    (hbody : ∀ (A : Around) (outer : List PySem.Env) (s : Shared) (H : Hp) (E : XK) (f c1 : Addr), Room k (A.deeper (lamEnv X scope s.heap.objs.size f c1)) → A.guards = some [] → IG (lamCx X A outer s H E scope f c1) body m)
    (e : m (fzE (keepM mask δ)) = some (d, δ0)) (hn : noal d = true) (fin : ∀ v H', Sq X Z Hb H' σ δ ((v, d) :: L0) → Q v H') (E : XK) : anyW X scope body k f c1 σ E H1 Q := by
  obtain ⟨Z1, sp1, back⟩ := (sA.sp.perm (parts_of mask σ δ L0)).pure
  intro A outer s0 H0 room calm
  have cap : Sq (lamCx X A outer s0 H0 E scope f c1) Z1 H1 H1 σ (fzE (keepM mask δ)) [] := ⟨by rw [prs_fzE]; exact sp1, sA.dom.keepM mask⟩
  exact hbody A outer s0 H0 E f c1 room calm cap e _ fun v H' sC => fin v H' ⟨((back H' v d (prs σ δ0) sC.sp).1 hn).perm ((parts_of mask σ δ L0).symm.cons _), sA.dom⟩
/-- the lambda raises ex, which the catcher catches -/
theorem lam_raise {ex : Ex} {Qc : VK} (sA : Sq X Z Hb H1 σ δ L0) (hin : ∀ C, X.mg ex.c = some (.ref C) → PySem.W.exmOne X.K (.ref C) (.ref CS) = some true)
    (hbody : ∀ (A : Around) (outer : List PySem.Env) (s : Shared) (H : Hp) (E : XK) (f c1 : Addr), Room k (A.deeper (lamEnv X scope s.heap.objs.size f c1)) → A.guards = some [] → XE' (lamCx X A outer s H E scope f c1) body xm)
    (e : xm (fzE (keepM mask δ)) = some ex) (fin : ∀ v H', Sq X Z Hb H' σ (if ex.ns = [] then δ else fzM mask δ) ((v, excD ex) :: L0) → Q v H') :
    anyW X scope body k f c1 σ (fun cls d H' => ∃ b, PySem.W.exmOne X.K cls (.ref CS) = some b ∧ (b = true → ∀ a, H' a = none → Q (.ref a) (upd H' a (ExV cls d a))) ∧ (b = false → False)) H1 Qc := by
  obtain ⟨Z1, sp1, back⟩ := (sA.sp.perm (parts_of mask σ δ L0)).pure
  intro A outer s0 H0 room calm
  have cap : Sq (lamCx X A outer s0 H0 (fun cls d H' => ∃ b, PySem.W.exmOne X.K cls (.ref CS) = some b ∧ (b = true → ∀ a, H' a = none → Q (.ref a) (upd H' a (ExV cls d a))) ∧ (b = false → False)) scope f c1) Z1 H1 H1 σ (fzE (keepM mask δ)) [] := ⟨by rw [prs_fzE]; exact sp1, sA.dom.keepM mask⟩
  refine hbody A outer s0 H0 _ f c1 room calm cap e (fun cls dd σ' H' ok => wx_of (W := fun cls dd _ H' => ∃ b, PySem.W.exmOne X.K cls (.ref CS) = some b ∧ (b = true → ∀ a, H' a = none → Q (.ref a) (upd H' a (ExV cls dd a))) ∧ (b = false → False)) (takes_of rfl rfl rfl rfl) ?_) _
  obtain ⟨C, rfl, hC, ⟨rfl, n1, _, sC⟩ | ⟨dd, vs, rfl, n0, l1, l2, f1, sC⟩⟩ := ok
  · refine ⟨true, hin C hC, fun _ a ha => fin _ _ ?_, nofun⟩
    unfold excD
    rw [if_pos n1, if_pos n1]
    have sD := (back H' .non .non [] (sC.put fun _ => .non)).1 rfl
    exact ⟨(Sp.exc0 sD.drop ha hC).perm ((parts_of mask σ δ L0).symm.cons _), sA.dom⟩
  · refine ⟨true, hin C hC, fun _ a ha => fin _ _ ?_, nofun⟩
    unfold excD
    rw [if_neg n0, if_neg n0]
    refine ⟨(back _ (.ref a) (.exc ex.c ex.ns ex.ds) [] (Sp.excF (P := []) sC ha hC n0 l1 l2 f1)).2.perm (.cons _ ?_), sA.dom.fzM mask⟩
    refine .trans ?_ ((prs_fzM mask σ δ).symm.append_left L0)
    rw [← List.append_assoc]
    exact List.perm_append_comm
end
section
variable {X : Cx} {x a : Str} {g c T CS : Addr} {k : Nat} {pg : Arguments} {bg : List Stmt} {sg : Scope} {dV kV doc pm cdv ct oc : Value} {an od : Option Addr} {osl : Array (Option Value)} {Ng : List Str}
    {params : Arguments} {body : Expr} {scope : Scope} {p lpos pos : Pos} {g0 q : Str} {σ : L2.St} {H Hb : Hp} {Z : Addr → Prop} {v : V} {P0 : PL} {Q : VK}
/-- c(lambda: body), c the catcher: the body's reading is told by the state in which the lambda was made -/
theorem wE_caughtS (hst : X.stack = X.env :: X.outer) (hfm : X.env.frame = some X.env.locals) (hex : X.ex = []) (hgl : Gl X x) (hm : X.mg x = some (.ref g)) (hkp : PySem.W.keepIn X.K (.ref g) = true)
    (lk : X.K.lookup g = some ⟨oc, od, .func (PySem.W.fnOf x x pg bg sg dV kV doc pm an cdv ct), osl⟩) (hcg : PySem.W.codeIn X.K cdv x = true) (hb : L2.Binds X.K (PySem.W.fnOf x x pg bg sg dV kV doc pm an cdv ct) [a] []) (Sg : FnScope Ng [a] sg) (hNg : Ng[0]? = some a) (hva : Vis sg a)
    (hG : GivesTo X Ng x sg g cdv bg a (X.env.qual ++ "<lambda>") (TTc X.K CS))
    (TB : TabB X.base X.mg c T) (hcode : X.env.code = .ref c) (hTK : TabK X.K X.mg g0 T) (hq : q = X.env.qual ++ "<lambda>") (hr : Room (k + 2) X.A) (hg : X.A.guards = some []) (L : LamS X.env.scope scope) (hdef : defaultsOf params X.env = ([], []))
    (hbind : ∀ (q : Str) (cl : List (Str × Addr)) (pm cv ctv : Value), bindArgs (PySem.W.kla_fn "<lambda>" q params body scope cl pm cv ctv) ⟨[], []⟩ = pure [])
    (hdx : (x == ("__debug__" : Str)) = false) (hda : (a == ("__debug__" : Str)) = false) (hdc : (a == ("__classdict__" : Str)) = false)
    (sT : Sp X.K X.mg Z Hb H ((v, .tab g0 q) :: P0))
    (act : ∀ f c1 H1, (∀ b o, H b = some o → (∀ ps, o ≠ .tbl ps) → H1 b = some o) → Sp X.K X.mg Z Hb H1 ((v, .tab g0 q) :: P0) → TTc X.K CS (sinceW X scope body k f c1 σ) H1 Q) :
    wE X (.Call (.Name x p) [.Lambda params body scope lpos] [] pos) σ H Q := by
  obtain ⟨T', ps, rfl, bT, hT, hk, ha⟩ := sT.tabs
  obtain rfl := bT.one hTK
  intro pins sh I
  apply wpAny_Call_Name_kw
  apply ld_glob I hgl hm _ hdx
  apply PySem.W.callWith_K (h₀ := X.base) I.ok.mod.kin hkp _ (by rfl) (by rfl)
  change wpAny _ _ (spliced ((false, eval (.Lambda params body scope lpos) X.env) :: backTo pos (starEach [] X.env))) _ _ sh
  apply Calls.spliced_cons
  apply lam_makeD I TB hcode hq hT hk ha hdef (L.has I.ok)
  intro f c1 pm' ctv H1 s1 I1 alt hf hfn hfr hco
  apply Calls.spliced_nil
  refine And.intro I1.kIn ?_
  have sA : (∀ b o, H b = some o → (∀ ps, o ≠ .tbl ps) → H1 b = some o) ∧ Sp X.K X.mg Z Hb H1 ((.ref T', .tab g0 q) :: P0) := by
    rcases alt with rfl | ⟨nC, more, rfl, k1, k2⟩
    · exact ⟨fun _ _ z _ => z, sT⟩
    · refine ⟨fun b o z nt => ?_, sT.tabbed hT nC k1 k2⟩
      have b1 : b ≠ c1 := fun e => by
        rw [e, nC] at z
        cases z
      have b2 : b ≠ T' := fun e => by
        rw [e, hT] at z
        cases z
        exact nt _ rfl
      rw [upd_ne b1, upd_ne b2]
      exact z
  have rc : codeAny (model X.prog X.w) X.A (.call (.ref g) ⟨[.ref f], []⟩) (CR C8.CX0 X.stack X.prog X.w H1 s1 Q C8.E0) s1 := by
    apply run_ofS (N := Ng) (ps := [a]) (us := [.ref f]) (vs := [.ref f]) lk hcg Sg hr I1.env0 (hb s1 [.ref f] I1.kIn rfl) (.cons rfl .nil) rfl
    intro hr1
    obtain ⟨t1, ht, hq1⟩ := hG f c1 s1 H1 Q (sinceW X scope body k f c1 σ)
      (fun W pn xe E p1 p2 tk hW => pe_actS (i := 0) I1 hst hfm hex L (by rw [← hq]; exact hf) hfn hfr (hbind _ _ _ _ _) tk hW hr1 hg hNg hva hda hdc) (by rw [← hq]; exact hco) (act f c1 H1 sA.1 sA.2)
    exact ⟨t1, ht.nox, hq1⟩
  refine wpAny_call (codeAny_mono rc fun r s3 hq3 => ?_)
  match r, hq3 with
  | .ok (.ret u), hq3 => exact I1.after hq3
end
theorem set_same {δ : Env} {t : Nat} {d : D} (h : δ[t]? = some (some d)) : δ.set t (some d) = δ := by
  apply List.ext_getElem?
  intro n
  rw [List.getElem?_set]
  by_cases e : t = n
  · subst e
    rw [if_pos rfl, if_pos (List.getElem?_eq_some_iff.mp h).1, h]
  · rw [if_neg e]
section
variable {X : Cx}
theorem ig_told {x a y b r kx g1 q1 g2 q2 : Str} {g c T c2 T2 CS kf : Addr} {k n t1 t2 : Nat} {pg kpg : Arguments} {bg rest : List Stmt} {sg ksg : Scope} {dV kV doc pm cdv ct oc kdV kkV kdoc kpm kct koc : Value} {an od kan kod : Option Addr} {osl kosl : Array (Option Value)} {Ng Nr : List Str}
    {params params2 : Arguments} {body : Expr} {scope scope2 : Scope} {p lpos pos pl pb ps1 lpos2 pp pr pA px pa pt pt2 apos cpos : Pos} {mask : List Bool} {cs : List Str} {m : ME} {xm : MX} {Pr : Nat → Bool} {mb : MS}
    -- the def that gets the lambda
    (kgl : Gl X kx) (kgm : X.mg kx = some (.ref kf)) (kkp : PySem.W.keepIn X.K (.ref kf) = true)
    (klk : X.K.lookup kf = some ⟨koc, kod, .func (PySem.W.fnOf kx kx kpg (.Assign [.Name b pb] (.List [] pl) ps1 :: .Assign [.Name r pr] (.Call (.Name x px) [.Lambda params2 (.Call (.Attribute (.Name b pa) "append" apos) [.Call (.Name y pt) [] [] pt2] [] cpos) scope2 lpos2] [] pp) pA :: rest) ksg kdV kkV kdoc kpm kan (.ref c2) kct), kosl⟩) (kcd : PySem.W.codeIn X.K (.ref c2) kx = true)
    (kb : L2.Binds X.K (PySem.W.fnOf kx kx kpg (.Assign [.Name b pb] (.List [] pl) ps1 :: .Assign [.Name r pr] (.Call (.Name x px) [.Lambda params2 (.Call (.Attribute (.Name b pa) "append" apos) [.Call (.Name y pt) [] [] pt2] [] cpos) scope2 lpos2] [] pp) pA :: rest) ksg kdV kkV kdoc kpm kan (.ref c2) kct) [y] []) (KS : FnScope (y :: b :: r :: Nr) [y] ksg) (hlb : ksg.names.lookup b = some .cell) (hlr : ksg.names.lookup r = some .local) (hgx : ksg.names.lookup x = some .globalImplicit)
    (sw1 : ∀ env : PySem.Env, swapsWith (.List [] pl) (some (.Name b pb)) ps1.line env = pure false)
    (sw2 : ∀ env : PySem.Env, swapsWith (.Call (.Name x px) [.Lambda params2 (.Call (.Attribute (.Name b pa) "append" apos) [.Call (.Name y pt) [] [] pt2] [] cpos) scope2 lpos2] [] pp) (some (.Name r pr)) pA.line env = pure false) (hNr : Nr.length = n)
    (hline : (apos.endLine == cpos.line) = true)
    (L2s : LamS ksg scope2) (vb2 : Vis scope2 b) (vy2 : Vis scope2 y) (hdef2 : ∀ env : PySem.Env, defaultsOf params2 env = ([], []))
    (hbind2 : ∀ (q : Str) (cl : List (Str × Addr)) (pm cv ctv : Value), bindArgs (PySem.W.kla_fn "<lambda>" q params2 (.Call (.Attribute (.Name b pa) "append" apos) [.Call (.Name y pt) [] [] pt2] [] cpos) scope2 cl pm cv ctv) ⟨[], []⟩ = pure [])
    (TB2 : TabB X.base X.mg c2 T2) (hTK2 : TabK X.K X.mg g2 T2) (hq2 : q2 = kx ++ ".<locals>." ++ "<lambda>")
    (hrest : ∀ (s : Shared) (H : Hp), Room (k + 3) (X.A.deeper (envOfC kx ksg s.heap.objs.size kf (.ref c2))) → (X.A.deeper (envOfC kx ksg s.heap.objs.size kf (.ref c2))).guards = some [] → ISs (cxOf C8.CX0 X.prog X.w X.K X.mg X.base (y :: b :: r :: Nr) kx ksg kf (.ref c2) X.A X.stack s H C8.E0).nox Pr rest mb)
    -- the catcher
    (hm : X.mg x = some (.ref g)) (hkp : PySem.W.keepIn X.K (.ref g) = true) (lk : X.K.lookup g = some ⟨oc, od, .func (PySem.W.fnOf x x pg bg sg dV kV doc pm an cdv ct), osl⟩) (hcg : PySem.W.codeIn X.K cdv x = true)
    (hb : L2.Binds X.K (PySem.W.fnOf x x pg bg sg dV kV doc pm an cdv ct) [a] []) (Sg : FnScope Ng [a] sg) (hNg : Ng[0]? = some a) (hva : Vis sg a)
    (hG : ∀ (Y : Cx) (q : Str), Y.K = X.K → Y.mg = X.mg → GivesTo Y Ng x sg g cdv bg a q (TTc X.K CS))
    -- the lambda
    (TB : TabB X.base X.mg c T) (hcode : X.env.code = .ref c) (hTK : TabK X.K X.mg g1 T) (hq : q1 = X.env.qual ++ "<lambda>") (hr : Room (k + 4) X.A) (hg : X.A.guards = some []) (L : LamS X.env.scope scope) (hdef : defaultsOf params X.env = ([], []))
    (hbind : ∀ q cl pm cv ctv, bindArgs (PySem.W.kla_fn "<lambda>" q params body scope cl pm cv ctv) ⟨[], []⟩ = pure []) (hcs : ∀ n ∈ cs, ∀ C, X.mg n = some (.ref C) → PySem.W.exmOne X.K (.ref C) (.ref CS) = some true)
    (hbody : ∀ (A : Around) (outer : List PySem.Env) (s : Shared) (H : Hp) (E : XK) (f c1 : Addr), Room k (A.deeper (lamEnv X scope s.heap.objs.size f c1)) → A.guards = some [] → IG (lamCx X A outer s H E scope f c1) body m ∧ XE' (lamCx X A outer s H E scope f c1) body xm)
    (hdk : (kx == ("__debug__" : Str)) = false) (hdx : (x == ("__debug__" : Str)) = false) (hda : (a == ("__debug__" : Str)) = false) (hdc : (a == ("__classdict__" : Str)) = false) (hdy : (y == ("__debug__" : Str)) = false) (hdz : (y == ("__classdict__" : Str)) = false)
    (hdb : (b == ("__debug__" : Str)) = false) (hdB : (b == ("__classdict__" : Str)) = false) :
    IG X (.Call (.Name kx p) [.Lambda params body scope lpos] [] pos) (mTold cs t1 g1 q1 t2 g2 q2 mask m xm n mb) := by
  intro Z Hb H σ δ L0 d δ' s e Q fin
  unfold mTold at e
  split at e
  · rename_i a1 b1 hd1
    split at e
    · rename_i a2 b2 hd2
      split at e
      · rename_i hab
        obtain ⟨rfl, rfl, rfl, rfl⟩ := hab
        obtain ⟨v1, hv1⟩ := s.dom.2 t1 _ hd1
        obtain ⟨v2, hv2⟩ := s.dom.2 t2 _ hd2
        have s0 := s.out hv1 hd1
        obtain ⟨T', ps, rfl, bT, hT, hk, ha⟩ := s0.tabs
        obtain rfl := bT.one hTK
        intro pins sh I
        apply wpAny_Call_Name_kw
        apply ld_glob I kgl kgm _ hdk
        apply PySem.W.callWith_K (h₀ := X.base) I.ok.mod.kin kkp _ (by rfl) (by rfl)
        change wpAny _ _ (spliced ((false, eval (.Lambda params body scope lpos) X.env) :: backTo pos (starEach [] X.env))) _ _ sh
        apply Calls.spliced_cons
        apply lam_makeD I TB hcode hq hT hk ha hdef (L.has I.ok)
        intro f c1 pm' ctv H1 s1 I1 alt hf hfn hfr hco
        apply Calls.spliced_nil
        refine And.intro I1.kIn ?_
        have sA : Sq X Z Hb H1 σ δ L0 := by
          rcases alt with rfl | ⟨nC, more, rfl, k1, k2⟩
          · exact s
          · have := Sq.back (L' := L0) s.dom hv1 hd1 (s0.tabbed hT nC k1 k2)
            rwa [set_same hd1] at this
        have rc : codeAny (model X.prog X.w) X.A (.call (.ref kf) ⟨[.ref f], []⟩) (CR C8.CX0 X.stack X.prog X.w H1 s1 Q C8.E0) s1 := by
          apply run_ofS (N := y :: b :: r :: Nr) (ps := [y]) (us := [.ref f]) (vs := [.ref f]) klk kcd KS hr I1.env0 (kb s1 [.ref f] I1.kIn rfl) (.cons rfl .nil) rfl
          intro hr1
          refine ⟨_, (pss_cons (ps_set (i := 1) KS.nd rfl (.inr hlb) (pe_lst pa_nil) (sw1 _) (.inl rfl)) (pss_cons (ps_set (i := 2) KS.nd rfl (.inl hlr) pe_w (sw2 _) (.inr hlr)) pss_w)).nox, ?_⟩
          refine ⟨Nat.zero_le _, fun bx hbx => ?_⟩
          have st : (L2.start (y :: b :: r :: Nr) [V.ref f]) = some (V.ref f) :: none :: none :: List.replicate n none := by subst hNr; rfl
          rw [st]
          have sB : Sq X Z Hb (upd H1 bx (.lst [])) σ δ ((.ref bx, .lst true []) :: L0) := ⟨Sp.newL (vs := []) (ds := []) sA.sp rfl hbx, sA.dom⟩
          have sT := sB.out hv2 hd2
          have cB : upd H1 bx (.lst []) c1 = some (CodeO c1 (X.env.qual ++ "<lambda>")) := by
            have apart : c1 ≠ bx := fun z => by
              rw [z, hbx] at hco
              cases hco
            rw [upd_ne apart, hq.symm]
            exact hco
          have done : ∀ (bs : List D) (ev : D) (δ2 : Env) (dd : D) (δ9 : Env), mb (some .hole :: some (.lst true bs) :: some ev :: List.replicate n none) = some (.rt dd δ9) → (∀ v H', Sq X Z Hb H' σ δ2 ((v, dd) :: L0) → Q v H') → ∀ w H', Sq X Z Hb H' σ δ2 ((w, ev) :: (.ref bx, .lst true bs) :: L0) →
              wSs (cxOf C8.CX0 X.prog X.w X.K X.mg X.base (y :: b :: r :: Nr) kx ksg kf (.ref c2) X.A X.stack s1 H1 C8.E0).nox rest { nx := fun _ H' => Q .non H', rt := Q } (some (.ref f) :: some (.ref bx) :: some w :: List.replicate n none) H' := by
            intro bs ev δ2 dd δ9 em q w H' sv
            have pz : prs (some (V.ref f) :: some (V.ref bx) :: some w :: List.replicate n none) (some .hole :: some (.lst true bs) :: some ev :: List.replicate n none) = [(.ref f, .hole), (.ref bx, .lst true bs), (w, ev)] := by simp only [prs, prs_blank]
            have sK : Sq (cxOf C8.CX0 X.prog X.w X.K X.mg X.base (y :: b :: r :: Nr) kx ksg kf (.ref c2) X.A X.stack s1 H1 C8.E0).nox Z Hb H' (some (.ref f) :: some (.ref bx) :: some w :: List.replicate n none) (some .hole :: some (.lst true bs) :: some ev :: List.replicate n none) (L0 ++ prs σ δ2) := by
              refine ⟨?_, by simp, fun i d h => ?_⟩
              · rw [pz]
                have sp : Sp X.K X.mg Z Hb H' ([(V.ref f, D.hole), (V.ref bx, .lst true bs), (w, ev)] ++ (L0 ++ prs σ δ2)) := by
                  have flip : Sp X.K X.mg Z Hb H' ((V.ref bx, .lst true bs) :: (w, ev) :: (L0 ++ prs σ δ2)) := sv.sp.perm (.swap _ _ _)
                  exact flip.put fun _ => .hole
                exact sp.perm List.perm_append_comm
              · match i, h with
                | 0, _ => exact ⟨_, rfl⟩
                | 1, _ => exact ⟨_, rfl⟩
                | 2, _ => exact ⟨_, rfl⟩
                | i + 3, h => simp [List.getElem?_replicate] at h
            subst hNr
            exact hrest s1 H1 hr1 hg sK em _ fun v σ' H' s' _ => q v H' ⟨(show Sp X.K X.mg Z Hb H' (((v, dd) :: (L0 ++ prs σ δ2)) ++ _) from s'.sp).dropR, sv.dom⟩
          refine wE_caughtS (k := k + 1) (X := (cxOf C8.CX0 X.prog X.w X.K X.mg X.base (y :: b :: r :: Nr) kx ksg kf (.ref c2) X.A X.stack s1 H1 C8.E0).nox) rfl rfl rfl hgx hm hkp lk hcg hb Sg hNg hva (hG _ _ rfl rfl) TB2 rfl hTK2 hq2 hr1 hg L2s (hdef2 _) hbind2 hdx hda hdc sT fun f2 c2' H3 kept sT3 => ?_
          have sC : Sq X Z Hb H3 σ δ ((.ref bx, .lst true []) :: L0) := by
            have := Sq.back (X := X) (L' := (.ref bx, .lst true []) :: L0) s.dom hv2 hd2 sT3
            rwa [set_same hd2] at this
          have cC : H3 c1 = some (CodeO c1 (X.env.qual ++ "<lambda>")) := kept _ _ cB fun _ z => by cases z
          have lC : H3 bx = some (.lst []) := kept _ _ upd_same fun _ z => by cases z
          intro A outer s9 H9 room calm now
          refine wE_of (pe_bm PySem.F.plainAttrs_list PySem.F.slot_list_append PySem.F.type_list_append mt_append (pe_var (i := 1) rfl vb2 hdb hdB) (pa_cons (pe_task (i := 0) I1 L (by rw [← hq]; exact hf) hfn hfr (hbind _ _ _ _ _) now room calm rfl vy2 hdy hdz) pa_nil) rfl rfl hline) ?_
          refine ⟨.ref bx, rfl, .inl ⟨rfl, [], .of lC⟩, rfl, cC, ?_⟩
          split at e
          · rename_i ex ex1
            split at e
            · rename_i hin
              split at e
              · rename_i dd δ9 em
                cases e
                exact lam_raise sC (hcs _ hin) (fun A outer s H E f c1 h1 h2 => (hbody A outer s H E f c1 h1 h2).2) ex1 fun v H' sv => done _ _ _ _ _ em fin v H' sv
              · exact nomatch e
            · exact nomatch e
          · split at e
            · rename_i dv δv e1
              split at e
              · rename_i hnoal
                split at e
                · rename_i dd δ9 em
                  cases e
                  refine lam_value sC (fun A outer s H E f c1 h1 h2 => (hbody A outer s H E f c1 h1 h2).1) e1 hnoal (fun v H' sv => ?_) _
                  obtain ⟨ws, hws, hl, back⟩ := Sp.mutL (P := (v, dv) :: (L0 ++ prs σ δ)) (sv.sp.perm (.swap _ _ _))
                  have nil : ws = [] := List.eq_nil_of_length_eq_zero hl
                  subst nil
                  refine ⟨bx, [], v, rfl, rfl, hws, by decide, .non, rfl, done [dv] .non δ _ _ em fin .non _ ⟨?_, sv.dom⟩⟩
                  exact (back [v] [dv] (L0 ++ prs σ δ) rfl (List.Perm.refl _)).put fun _ => .non
                · exact nomatch e
              · exact nomatch e
            · exact nomatch e
        refine wpAny_call (codeAny_mono rc fun r t z => ?_)
        match r, z with
        | .ok (.ret _), z => exact I1.after z
      · exact nomatch e
    · exact nomatch e
  · exact nomatch e
end
end DL
set_option Elab.async false
set_option linter.all false
set_option maxRecDepth 100000
set_option maxHeartbeats 4000001
namespace DL
open PySem.Spec PySem L2 PyProof.Rows LamX
section
variable {X : Cx} {tg e : Expr} {xa : MX} {pos : Pos}
theorem xs_asg (h : XE' X e xa) (hs : swapsWithSole [tg] e pos.line X.env = pure false := by rfl) (hw : swappedStores [tg] e X.env = pure none := by rfl) (h1 : (assignEach [tg] X.env).map (·.2) = [assign tg X.env] := by rfl) : XS X (.Assign [tg] e pos) xa := by
  intro Z Hb H σ δ L ex s e' q Dn
  exact wS_of (ps_asg pe_w pg_w hs hw h1) (h s e' q _)
end
/-- the body of such a def's own lambda -/
abbrev toldB (b y : Str) (pa pt pt2 apos cpos : Pos) : Expr := .Call (.Attribute (.Name b pa) "append" apos) [.Call (.Name y pt) [] [] pt2] [] cpos
structure ToldD (P : Program) (w : World) (K : PySem.W.Frag) (mg : Str → Option Value) (base : Heap) (k : Nat) (kx x g2 q2 : Str) (n : Nat) (mb : MS) : Prop where
  ex : ∃ (kf c2 T2 : Addr) (kpg params2 : Arguments) (rest : List Stmt) (ksg scope2 : Scope) (fd : FuncData) (y b r : Str) (Nr : List Str) (pl pb ps1 lpos2 pp pr pA px pa pt pt2 apos cpos : Pos) (Pr : Nat → Bool),
    FunD K kx kx kpg (.Assign [.Name b pb] (.List [] pl) ps1 :: .Assign [.Name r pr] (.Call (.Name x px) [.Lambda params2 (toldB b y pa pt pt2 apos cpos) scope2 lpos2] [] pp) pA :: rest) ksg [] [] kf fd ∧ fd.code = .ref c2 ∧ mg kx = some (.ref kf) ∧ Binds K fd [y] [] ∧
    FnScope (y :: b :: r :: Nr) [y] ksg ∧ ksg.names.lookup b = some .cell ∧ ksg.names.lookup r = some .local ∧ ksg.names.lookup x = some .globalImplicit ∧ (∀ env : PySem.Env, swapsWith (.List [] pl) (some (.Name b pb)) ps1.line env = pure false) ∧
    (∀ env : PySem.Env, swapsWith (.Call (.Name x px) [.Lambda params2 (toldB b y pa pt pt2 apos cpos) scope2 lpos2] [] pp) (some (.Name r pr)) pA.line env = pure false) ∧ Nr.length = n ∧ (apos.endLine == cpos.line) = true ∧
    LamS ksg scope2 ∧ Vis scope2 b ∧ Vis scope2 y ∧ (∀ env : PySem.Env, defaultsOf params2 env = ([], [])) ∧ (∀ (q : Str) (cl : List (Str × Addr)) (pm cv ctv : Value), bindArgs (PySem.W.kla_fn "<lambda>" q params2 (toldB b y pa pt pt2 apos cpos) scope2 cl pm cv ctv) ⟨[], []⟩ = pure []) ∧
    TabB base mg c2 T2 ∧ TabK K mg g2 T2 ∧ q2 = kx ++ ".<locals>." ++ "<lambda>" ∧ (y == ("__debug__" : Str)) = false ∧ (y == ("__classdict__" : Str)) = false ∧ (b == ("__debug__" : Str)) = false ∧ (b == ("__classdict__" : Str)) = false ∧
    ∀ (cdv : Value) (A : Around) (outer : List PySem.Env) (s : Shared) (H : Hp), Room k (A.deeper (envOfC kx ksg s.heap.objs.size kf cdv)) → (A.deeper (envOfC kx ksg s.heap.objs.size kf cdv)).guards = some [] → ISs (cxOf C8.CX0 P w K mg base (y :: b :: r :: Nr) kx ksg kf cdv A outer s H C8.E0).nox Pr rest mb
theorem told_of {P : Program} {w : World} {K : PySem.W.Frag} {mg : Str → Option Value} {base : Heap} {k n : Nat} {kx x y b r g2 q2 : Str} {mb : MS} {kf c2 T2 : Addr} {kpg params2 : Arguments} {rest : List Stmt} {ksg scope2 : Scope} {fd : FuncData} {Nr : List Str} {pl pb ps1 lpos2 pp pr pA px pa pt pt2 apos cpos : Pos} {Pr : Nat → Bool}
    (F : FunD K kx kx kpg (.Assign [.Name b pb] (.List [] pl) ps1 :: .Assign [.Name r pr] (.Call (.Name x px) [.Lambda params2 (toldB b y pa pt pt2 apos cpos) scope2 lpos2] [] pp) pA :: rest) ksg [] [] kf fd) (hc : fd.code = .ref c2) (gm : mg kx = some (.ref kf)) (S : FnScope (y :: b :: r :: Nr) [y] ksg)
    (h : ∀ (kV doc pm : Value) (an : Option Addr) (cdv ct : Value) (us : List Value), us.length = 1 → bindArgs (PySem.W.fnOf kx kx kpg (.Assign [.Name b pb] (.List [] pl) ps1 :: .Assign [.Name r pr] (.Call (.Name x px) [.Lambda params2 (toldB b y pa pt pt2 apos cpos) scope2 lpos2] [] pp) pA :: rest) ksg .none kV doc pm an cdv ct) ⟨us, []⟩ = pure ([y].zip us))
    (lb : ksg.names.lookup b = some .cell) (l : ksg.names.lookup r = some .local) (g : ksg.names.lookup x = some .globalImplicit) (sw1 : ∀ env : PySem.Env, swapsWith (.List [] pl) (some (.Name b pb)) ps1.line env = pure false)
    (sw2 : ∀ env : PySem.Env, swapsWith (.Call (.Name x px) [.Lambda params2 (toldB b y pa pt pt2 apos cpos) scope2 lpos2] [] pp) (some (.Name r pr)) pA.line env = pure false) (hn : Nr.length = n) (hline : (apos.endLine == cpos.line) = true)
    (L : LamS ksg scope2) (vb : Vis scope2 b) (vy : Vis scope2 y) (hdef : ∀ env : PySem.Env, defaultsOf params2 env = ([], [])) (hbind : ∀ (q : Str) (cl : List (Str × Addr)) (pm cv ctv : Value), bindArgs (PySem.W.kla_fn "<lambda>" q params2 (toldB b y pa pt pt2 apos cpos) scope2 cl pm cv ctv) ⟨[], []⟩ = pure [])
    (TB : TabB base mg c2 T2) (hTK : TabK K mg g2 T2) (hq : q2 = kx ++ ".<locals>." ++ "<lambda>") (d1 : (y == ("__debug__" : Str)) = false) (d2 : (y == ("__classdict__" : Str)) = false) (d3 : (b == ("__debug__" : Str)) = false) (d4 : (b == ("__classdict__" : Str)) = false)
    (hb : ∀ (cdv : Value) (A : Around) (outer : List PySem.Env) (s : Shared) (H : Hp), Room k (A.deeper (envOfC kx ksg s.heap.objs.size kf cdv)) → (A.deeper (envOfC kx ksg s.heap.objs.size kf cdv)).guards = some [] → ISs (cxOf C8.CX0 P w K mg base (y :: b :: r :: Nr) kx ksg kf cdv A outer s H C8.E0).nox Pr rest mb) : ToldD P w K mg base k kx x g2 q2 n mb :=
  ⟨kf, c2, T2, kpg, params2, rest, ksg, scope2, fd, y, b, r, Nr, pl, pb, ps1, lpos2, pp, pr, pA, px, pa, pt, pt2, apos, cpos, Pr, F, hc, gm, F.bindsN h, S, lb, l, g, sw1, sw2, hn, hline, L, vb, vy, hdef, hbind, TB, hTK, hq, d1, d2, d3, d4, hb⟩
section
variable {X : Cx} {kx x base : Str} {c T : Addr} {k j n : Nat} {params : Arguments} {body : Expr} {scope : Scope} {p lpos pos : Pos} {t1 t2 : Nat} {g1 q1 g2 q2 : Str} {mask : List Bool} {cs : List Str} {m : ME} {xm : MX} {es : CT} {mb : MS}
theorem x_told (Kd : ToldD X.prog X.w X.K X.mg X.base j kx x g2 q2 n mb) (Cd : CatchD X.K X.mg x base) (E : CatT X.K X.mg base es) (TB : TabB X.base X.mg c T) (hTK : TabK X.K X.mg g1 T) (hr : Room (k + 4) X.A) (hg : X.A.guards = some []) (L : LamS X.env.scope scope)
    (hbody : ∀ (A : Around) (outer : List PySem.Env) (s : Shared) (H : Hp) (E : XK) (f c1 : Addr), Room k (A.deeper (lamEnv X scope s.heap.objs.size f c1)) → (A.deeper (lamEnv X scope s.heap.objs.size f c1)).guards = some [] → IG (lamCx X A outer s H E scope f c1) body m ∧ XE' (lamCx X A outer s H E scope f c1) body xm)
    (hj : j ≤ k + 3 := by decide) (hgl : Gl X kx := by rfl) (hcode : X.env.code = .ref c := by rfl) (hq : q1 = X.env.qual ++ "<lambda>" := by rfl) (hdef : defaultsOf params X.env = ([], []) := by rfl)
    (hbind : ∀ (q : Str) (cl : List (Str × Addr)) (pm cv ctv : Value), bindArgs (PySem.W.kla_fn "<lambda>" q params body scope cl pm cv ctv) ⟨[], []⟩ = pure [] := by exact fun _ _ _ _ _ => rfl)
    (hcs : ∀ n ∈ cs, (es.lookup n).isSome = true := by decide) (hdk : (kx == ("__debug__" : Str)) = false := by decide) (hdx : (x == ("__debug__" : Str)) = false := by decide) :
    IG X (.Call (.Name kx p) [.Lambda params body scope lpos] [] pos) (mTold cs t1 g1 q1 t2 g2 q2 mask m xm n mb) := by
  obtain ⟨g, CS, pg, bg, sg, fd, a, Ng, F, gm, hb, S, hN0, hva, gb, ha1, ha2, hG⟩ := Cd.ex
  obtain ⟨kf, c2, T2, kpg, params2, rest, ksg, scope2, kfd, y, b, r, Nr, pl, pb, ps1, lpos2, pp, pr, pA, px, pa, pt, pt2, apos, cpos, Pr, KF, khc, kgm, kb, KS, klb, kl, kg, ksw1, ksw2, kn, kline, kL, kvb, kvy, kdef, kbind, kTB, kTK, kq, kd1, kd2, kd3, kd4, khb⟩ := Kd.ex
  have hkp := F.kp
  have kkp := KF.kp
  obtain ⟨oc, od, dV, kV, doc, pm, an, cdv, ct, osl, rfl, lk, hcd, _, _⟩ := F.ex
  obtain ⟨koc, kod, kdV, kkV, kdoc, kpm, kan, kcdv, kct, kosl, rfl, klk, khcd, _, _⟩ := KF.ex
  have code : kcdv = .ref c2 := khc
  subst code
  intro Z Hb H σ δ L0 d δ' s e'
  exact ig_told (k := k) (t1 := t1) (t2 := t2) (mask := mask) (p := p) (lpos := lpos) (pos := pos) hgl kgm kkp klk khcd kb KS klb kl kg ksw1 ksw2 kn kline kL kvb kvy kdef kbind kTB kTK kq (fun s H h1 h2 => khb (.ref c2) X.A X.stack s H (h1.mono hj) h2)
    gm hkp lk hcd hb S hN0 hva (fun Y q eK eM => by
      have := hG Y q cdv eK eM
      rwa [eK] at this) TB hcode hTK hq hr hg L hdef hbind (fun n hn C hC => E.cat n (hcs n hn) C CS hC gb) (fun A outer s H E' f c1 h1 h2 => hbody A outer s H E' f c1 h1 h2) hdk hdx ha1 ha2 kd1 kd2 kd3 kd4 s e'
end
end DL
set_option Elab.async false
set_option linter.all false
set_option maxRecDepth 100000
set_option maxHeartbeats 0
namespace K47
open PySem PySem.Spec PyProof.Rows L2 DL
def ct : CT := []
def pl : List Str := []
def es : CT := [(("BadText" : Str), (["FarError"] : List Str))]
def ps__law_begun : List Str := ["_law_script"]
def N__law_begun : List Str := ["_law_script", "_law_large", "_law_cell"]
def P__law_begun (i : Nat) : Bool := ([true] : List Bool).getD i false
def b__law_begun : MS := (sCons (sSet 1 (mLc (iAlt (iAny (mVar 0)) (keysAt 0 pVar)) [2] (tName 2) (toT (mBin dGe (mCallB dAbs (mCons (mVar 2) mNil)) (mBin dPow (mC (.int 10)) (mC (.int 18))))) (mBin dSub (mCallB dAbs (mCons (mVar 2) mNil)) (mBin dPow (mC (.int 10)) (mC (.int 18))))))
  (sRet (mDisp [((mC (.str "large")), (mMv 1)), ((mC (.str "cells")), (mLc (iAlt (iAny (mVar 0)) (keysAt 0 pVar)) [2] (tName 2) tTrue (mCallB dAbs (mCons (mVar 2) mNil)))), ((mC (.str "rest")), (mC (.int 0))), ((mC (.str "turn")), (mC (.int 0)))])))
def m__law_begun : MF := mFun ps__law_begun.length N__law_begun.length P__law_begun b__law_begun
def ps__law_line : List Str := ["_law_item"]
def N__law_line : List Str := ["_law_item", "_law_part"]
def P__law_line (i : Nat) : Bool := ([true] : List Bool).getD i false
def b__law_line : MS := (sRet (mMethV "str" gJoin (mC (.str " ")) (mCons (mLc (iAlt (iAny (mVar 0)) (keysAt 0 pVar)) [1] (tName 1) tTrue (mIf (mTru (mCallB dIsi (mCons (mVar 1) (mCons (mC (.ty .tup)) mNil)))) (mMethV "str" gJoin (mC (.str ",")) (mCons (mVar 1) mNil)) (mCallB dStr (mCons (mVar 1) mNil)))) mNil)))
def m__law_line : MF := mFun ps__law_line.length N__law_line.length P__law_line b__law_line
def ps__law_page : List Str := ["_law_items"]
def N__law_page : List Str := ["_law_items", "_law_item"]
def P__law_page (i : Nat) : Bool := ([true] : List Bool).getD i false
def b__law_page : MS := (sRet (mMethV "str" gJoin (mC (.str "")) (mCons (mLc (iAlt (iAny (mVar 0)) (keysAt 0 pVar)) [1] (tName 1) tTrue (mBin dAdd (mCall m__law_line [.e (mVar 1)] []) (mC (.str "\n")))) mNil)))
def m__law_page : MF := mFun ps__law_page.length N__law_page.length P__law_page b__law_page
def ps__law_mixed : List Str := ["_law_state"]
def N__law_mixed : List Str := ["_law_state", "_law_found", "_law_prime", "_law_blend", "_law_cell"]
def P__law_mixed (i : Nat) : Bool := ([true] : List Bool).getD i false
def b__law_mixed : MS := (sCons (sPut 0 pVar (kC (.str "turn")) (mBin dAdd (mPath 0 (pSub pVar (kC (.str "turn")))) (mC (.int 1))))
  (sCons (sSet 1 (mC (.int 0)))
  (sCons (sFor (iAny (mLst (mCons (mC (.int 2147483629)) (mCons (mC (.int 2147483587)) (mCons (mC (.int 2147483579)) (mCons (mC (.int 2147483563)) mNil)))))) (tName 2)
  (sCons (sSet 3 (mBin dAdd (mBin dMul (mC (.int 104729)) (mPath 0 (pSub pVar (kC (.str "turn"))))) (mBin dFdiv (mVar 2) (mC (.int 7)))))
  (sCons (sFor (iAlt (iAny (mPath 0 (pSub pVar (kC (.str "cells"))))) (keysAt 0 (pSub pVar (kC (.str "cells"))))) (tName 4)
  (sSet 3 (mBin dMod (mCallB dInt2 (mCons (mBin dAdd (mBin dMul (mVar 3) (mC (.int 48271))) (mVar 4)) mNil)) (mVar 2))))
  (sSet 1 (mBin dAdd (mBin dMul (mVar 1) (mC (.int 2147483647))) (mBin dMod (mCallB dInt2 (mCons (mBin dPow (mVar 3) (mC (.int 5))) mNil)) (mVar 2)))))))
  (sRet (mMv 1)))))
def m__law_mixed : MF := mFun ps__law_mixed.length N__law_mixed.length P__law_mixed b__law_mixed
def ps__law_take : List Str := ["_law_state", "_law_size"]
def N__law_take : List Str := ["_law_state", "_law_size", "_law_found"]
def P__law_take (i : Nat) : Bool := ([true, true] : List Bool).getD i false
def b__law_take : MS := (sCons (sIf (toT (mBin dEq (mPath 0 (pSub pVar (kC (.str "rest")))) (mC (.int 0))))
  (sPut 0 pVar (kC (.str "rest")) (mIf (purT [true] (toT (mBin dNe (mPath 0 (pSub pVar (kC (.str "large")))) (mLst mNil)))) (mMethP "list" gPopAt 0 (pSub pVar (kC (.str "large"))) (ksCons (kC (.int 0)) ksNil)) (mCall m__law_mixed [.v 0] [])))
  sNil)
  (sCons (sSet 2 (mBin dMod (mCallB dInt2 (mCons (mPath 0 (pSub pVar (kC (.str "rest")))) mNil)) (mVar 1)))
  (sCons (sPut 0 pVar (kC (.str "rest")) (mBin dFdiv (mPath 0 (pSub pVar (kC (.str "rest")))) (mVar 1)))
  (sRet (mMv 2)))))
def m__law_take : MF := mFun ps__law_take.length N__law_take.length P__law_take b__law_take
def ps__law_pick : List Str := ["_law_state", "_law_some"]
def N__law_pick : List Str := ["_law_state", "_law_some"]
def P__law_pick (i : Nat) : Bool := ([true, true] : List Bool).getD i false
def b__law_pick : MS := (sRet (mBin dIx (mVar 1) (mCall m__law_take [.v 0, .e (mCallB dLen (mCons (mVar 1) mNil))] [])))
def m__law_pick : MF := mFun ps__law_pick.length N__law_pick.length P__law_pick b__law_pick
def ps__law_number : List Str := ["_law_word_here"]
def N__law_number : List Str := ["_law_word_here", "_law_sign"]
def P__law_number (i : Nat) : Bool := ([true] : List Bool).getD i false
def b__law_number : MS := (sCons (sIf (tOr2 (toT (mBin dEq (mVar 0) (mC (.str "")))) (toT (mBin dNe (mLc (iAlt (iAny (mVar 0)) (keysAt 0 pVar)) [1] (tName 1) (toT (mBin dNotIn (mVar 1) (mC (.str "0123456789")))) (mVar 1)) (mLst mNil))))
  (sRet (mC .non))
  sNil)
  (sRet (mCallB dInt2 (mCons (mVar 0) mNil))))
def m__law_number : MF := mFun ps__law_number.length N__law_number.length P__law_number b__law_number
def ps__law_is_label : List Str := ["_law_item"]
def N__law_is_label : List Str := ["_law_item", "_law_sign"]
def P__law_is_label (i : Nat) : Bool := ([true] : List Bool).getD i false
def b__law_is_label : MS := (sCons (sIf (tOr2 (tNot1 (mTru (mCallB dIsi (mCons (mVar 0) (mCons (mC (.ty .str)) mNil))))) (tNot1 (toT (mChain dLt dLt (mC (.int 0)) (mCallB dLen (mCons (mVar 0) mNil)) (mC (.int 7))))))
  (sRet (mC (.bl false)))
  sNil)
  (sRet (mBin dEq (mLc (iAlt (iAny (mVar 0)) (keysAt 0 pVar)) [1] (tName 1) (toT (mBin dNotIn (mVar 1) (mC (.str "abcdefghijklmnopqrstuvwxyz")))) (mVar 1)) (mLst mNil))))
def m__law_is_label : MF := mFun ps__law_is_label.length N__law_is_label.length P__law_is_label b__law_is_label
def ps__law_is_count : List Str := ["_law_item", "_law_least"]
def N__law_is_count : List Str := ["_law_item", "_law_least"]
def P__law_is_count (i : Nat) : Bool := ([true, true] : List Bool).getD i false
def b__law_is_count : MS := (sRet (mAnd (mCallB dIsi (mCons (mVar 0) (mCons (mC (.ty .int)) mNil))) (mAnd (mNot (mCallB dIsi (mCons (mVar 0) (mCons (mC (.ty .bool)) mNil)))) (mBin dGe (mVar 0) (mVar 1)))))
def m__law_is_count : MF := mFun ps__law_is_count.length N__law_is_count.length P__law_is_count b__law_is_count
def ps__law_is_frame : List Str := ["_law_item"]
def N__law_is_frame : List Str := ["_law_item", "_law_part"]
def P__law_is_frame (i : Nat) : Bool := ([true] : List Bool).getD i false
def b__law_is_frame : MS := (sCons (sIf (tOr2 (tNot1 (mTru (mCallB dIsi (mCons (mVar 0) (mCons (mC (.ty .tup)) mNil))))) (tOr2 (toT (mBin dLt (mCallB dLen (mCons (mVar 0) mNil)) (mC (.int 4)))) (tOr2 (tNot1 (mTru (mCallB dIsi (mCons (mAlt (mPath 0 (pSub pVar (kC (.int 0)))) (mBin dIx (mVar 0) (mC (.int 0)))) (mCons (mC (.ty .str)) mNil))))) (tNot1 (mTru (mCall m__law_is_label [.e (mAlt (mPath 0 (pSub pVar (kC (.int 1)))) (mBin dIx (mVar 0) (mC (.int 1))))] []))))))
  (sRet (mC (.bl false)))
  sNil)
  (sCons (sIf (toT (mBin dEq (mAlt (mPath 0 (pSub pVar (kC (.int 0)))) (mBin dIx (mVar 0) (mC (.int 0)))) (mC (.str "tell"))))
  (sCons (sIf (tOr2 (toT (mBin dNe (mCallB dLen (mCons (mVar 0) mNil)) (mC (.int 4)))) (tOr2 (tNot1 (mTru (mCall m__law_is_count [.e (mAlt (mPath 0 (pSub pVar (kC (.int 2)))) (mBin dIx (mVar 0) (mC (.int 2)))), .e (mC (.int 0))] []))) (tNot1 (mTru (mCallB dIsi (mCons (mAlt (mPath 0 (pSub pVar (kC (.int 3)))) (mBin dIx (mVar 0) (mC (.int 3)))) (mCons (mC (.ty .tup)) mNil)))))))
  (sRet (mC (.bl false)))
  sNil)
  (sRet (mAnd (mChain dLt dLt (mC (.int 0)) (mCallB dLen (mCons (mAlt (mPath 0 (pSub pVar (kC (.int 3)))) (mBin dIx (mVar 0) (mC (.int 3)))) mNil)) (mC (.int 4))) (mBin dEq (mLc (iAlt (iAny (mAlt (mPath 0 (pSub pVar (kC (.int 3)))) (mBin dIx (mVar 0) (mC (.int 3))))) (keysAt 0 (pSub pVar (kC (.int 3))))) [1] (tName 1) (tNot1 (mTru (mCall m__law_is_label [.e (mVar 1)] []))) (mVar 1)) (mLst mNil)))))
  sNil)
  (sCons (sIf (tOr2 (tNot1 (mTru (mCall m__law_is_count [.e (mAlt (mPath 0 (pSub pVar (kC (.int 2)))) (mBin dIx (mVar 0) (mC (.int 2)))), .e (mC (.int 1))] []))) (tNot1 (mTru (mCall m__law_is_count [.e (mAlt (mPath 0 (pSub pVar (kC (.int 3)))) (mBin dIx (mVar 0) (mC (.int 3)))), .e (mC (.int 1))] []))))
  (sRet (mC (.bl false)))
  sNil)
  (sCons (sIf (toT (mBin dEq (mAlt (mPath 0 (pSub pVar (kC (.int 0)))) (mBin dIx (mVar 0) (mC (.int 0)))) (mC (.str "ask"))))
  (sRet (mAnd (mBin dEq (mCallB dLen (mCons (mVar 0) mNil)) (mC (.int 6))) (mAnd (mCall m__law_is_count [.e (mAlt (mPath 0 (pSub pVar (kC (.int 4)))) (mBin dIx (mVar 0) (mC (.int 4)))), .e (mC (.int 0))] []) (mAnd (mBin dLt (mAlt (mPath 0 (pSub pVar (kC (.int 4)))) (mBin dIx (mVar 0) (mC (.int 4)))) (mC (.int 6))) (mCall m__law_is_count [.e (mAlt (mPath 0 (pSub pVar (kC (.int 5)))) (mBin dIx (mVar 0) (mC (.int 5)))), .e (mC (.int 0))] [])))))
  sNil)
  (sRet (mAnd (mBin dEq (mAlt (mPath 0 (pSub pVar (kC (.int 0)))) (mBin dIx (mVar 0) (mC (.int 0)))) (mC (.str "told"))) (mAnd (mBin dEq (mCallB dLen (mCons (mVar 0) mNil)) (mC (.int 5))) (mBin dIn (mCallB dRepr (mCons (mAlt (mPath 0 (pSub pVar (kC (.int 4)))) (mBin dIx (mVar 0) (mC (.int 4)))) mNil)) (mLst (mCons (mC (.str "'landed'")) (mCons (mC (.str "'left'")) mNil)))))))))))
def m__law_is_frame : MF := mFun ps__law_is_frame.length N__law_is_frame.length P__law_is_frame b__law_is_frame
def ps__law_read : List Str := ["_law_row"]
def N__law_read : List Str := ["_law_row", "_law_parts", "_law_found", "_law_part"]
def P__law_read (i : Nat) : Bool := ([true] : List Bool).getD i false
def b__law_read : MS := (sCons (sSet 1 (mMethV "str" gSplit (mVar 0) (mCons (mC (.str " ")) mNil)))
  (sCons (sSet 2 (mC .non))
  (sCons (sIf (tAnd2 (toT (mBin dEq (mAlt (mPath 1 (pSub pVar (kC (.int 0)))) (mBin dIx (mVar 1) (mC (.int 0)))) (mC (.str "tell")))) (toT (mBin dEq (mCallB dLen (mCons (mVar 1) mNil)) (mC (.int 4)))))
  (sSet 2 (mTup (mCons (mC (.str "tell")) (mCons (mAlt (mPath 1 (pSub pVar (kC (.int 1)))) (mBin dIx (mVar 1) (mC (.int 1)))) (mCons (mCall m__law_number [.e (mAlt (mPath 1 (pSub pVar (kC (.int 2)))) (mBin dIx (mVar 1) (mC (.int 2))))] []) (mCons (mCallB dTuple (mCons (mMethV "str" gSplit (mAlt (mPath 1 (pSub pVar (kC (.int 3)))) (mBin dIx (mVar 1) (mC (.int 3)))) (mCons (mC (.str ",")) mNil)) mNil)) mNil))))))
  sNil)
  (sCons (sIf (tAnd2 (toT (mBin dEq (mAlt (mPath 1 (pSub pVar (kC (.int 0)))) (mBin dIx (mVar 1) (mC (.int 0)))) (mC (.str "ask")))) (toT (mBin dEq (mCallB dLen (mCons (mVar 1) mNil)) (mC (.int 6)))))
  (sSet 2 (mBin dAdd (mTup (mCons (mC (.str "ask")) (mCons (mAlt (mPath 1 (pSub pVar (kC (.int 1)))) (mBin dIx (mVar 1) (mC (.int 1)))) mNil))) (mCallB dTuple (mCons (mLc (iAny (mSl (mVar 1) (oSome (mC (.int 2))) oNone)) [3] (tName 3) tTrue (mCall m__law_number [.e (mVar 3)] [])) mNil))))
  sNil)
  (sCons (sIf (tAnd2 (toT (mBin dEq (mAlt (mPath 1 (pSub pVar (kC (.int 0)))) (mBin dIx (mVar 1) (mC (.int 0)))) (mC (.str "told")))) (toT (mBin dEq (mCallB dLen (mCons (mVar 1) mNil)) (mC (.int 5)))))
  (sSet 2 (mTup (mCons (mC (.str "told")) (mCons (mAlt (mPath 1 (pSub pVar (kC (.int 1)))) (mBin dIx (mVar 1) (mC (.int 1)))) (mCons (mCall m__law_number [.e (mAlt (mPath 1 (pSub pVar (kC (.int 2)))) (mBin dIx (mVar 1) (mC (.int 2))))] []) (mCons (mCall m__law_number [.e (mAlt (mPath 1 (pSub pVar (kC (.int 3)))) (mBin dIx (mVar 1) (mC (.int 3))))] []) (mCons (mAlt (mPath 1 (pSub pVar (kC (.int 4)))) (mBin dIx (mVar 1) (mC (.int 4)))) mNil)))))))
  sNil)
  (sRet (mIf (tAnd2 (toT (mBin dIsNot (mVar 2) (mC .non))) (tAnd2 (mTru (mCall m__law_is_frame [.e (mVar 2)] [])) (toT (mBin dEq (mCall m__law_line [.e (mVar 2)] []) (mVar 0))))) (mVar 2) (mC .non))))))))
def m__law_read : MF := mFun ps__law_read.length N__law_read.length P__law_read b__law_read
def ps__law_first_bad : List Str := ["_law_rows"]
def N__law_first_bad : List Str := ["_law_rows", "_law_at", "_law_row"]
def P__law_first_bad (i : Nat) : Bool := ([true] : List Bool).getD i false
def b__law_first_bad : MS := (sCons (sFor (iEnum2 (mCons (mVar 0) mNil)) (tTup (tsCons (tName 1) (tsCons (tName 2) tsNil)))
  (sIf (toT (mBin dIs (mCall m__law_read [.e (mVar 2)] []) (mC .non)))
  (sRet (mMv 1))
  sNil))
  (sRet (mC .non)))
def m__law_first_bad : MF := mFun ps__law_first_bad.length N__law_first_bad.length P__law_first_bad b__law_first_bad
def ps__law_told : List Str := ["_law_task"]
def N__law_told : List Str := ["_law_task", "_law_box", "_law_error"]
def P__law_told (i : Nat) : Bool := ([true] : List Bool).getD i false
def b__law_told : MS := (sCons (sIf (toT (mBin dIs (mVar 2) (mC .non)))
  (sRet (mMv 1))
  sNil)
  (sRet (mIf (tAnd2 (mTru (mCallB (dIsF es ct) (mCons (mVar 2) (mCons (mC (.glo "BadText")) mNil)))) (mTru (mIsVE es (mVar 2)))) (mXF ["BadText"] "line" (mVar 2)) (mC (.str "other")))))
def ps__law_word : List Str := ["_law_state"]
def N__law_word : List Str := ["_law_state", "_law_words", "_law_letters", "_law_k"]
def P__law_word (i : Nat) : Bool := ([true] : List Bool).getD i false
def b__law_word : MS := (sCons (sSet 1 (mMethV "str" gSplit (mC (.str "a b aa act move same value people tell zzzzzz")) (mCons (mC (.str " ")) mNil)))
  (sCons (sIf (toT (mBin dGt (mCall m__law_take [.v 0, .e (mC (.int 3))] []) (mC (.int 0))))
  (sRet (mCall m__law_pick [.v 0, .e (mVar 1)] []))
  sNil)
  (sCons (sSet 2 (mC (.str "abcdefghijklmnopqrstuvwxyz")))
  (sRet (mMethV "str" gJoin (mC (.str "")) (mCons (mLc (mRng1 (mCons (mBin dAdd (mC (.int 1)) (mCall m__law_take [.v 0, .e (mC (.int 6))] [])) mNil)) [3] (tName 3) tTrue (mCall m__law_pick [.v 0, .e (mVar 2)] [])) mNil))))))
def m__law_word : MF := mFun ps__law_word.length N__law_word.length P__law_word b__law_word
def ps__law_any_frame : List Str := ["_law_state"]
def N__law_any_frame : List Str := ["_law_state", "_law_label", "_law_boot", "_law_number_here", "_law_way", "_law_some", "_law_k"]
def P__law_any_frame (i : Nat) : Bool := ([true] : List Bool).getD i false
def b__law_any_frame : MS := (sCons (sPar [1, 2, 3] (mCons (mCall m__law_word [.v 0] []) (mCons (mBin dAdd (mC (.int 1)) (mCall m__law_take [.v 0, .e (mC (.int 12))] [])) (mCons (mBin dAdd (mC (.int 1)) (mCall m__law_take [.v 0, .e (mC (.int 12))] [])) mNil))))
  (sCons (sSet 4 (mCall m__law_take [.v 0, .e (mC (.int 3))] []))
  (sCons (sIf (toT (mBin dEq (mVar 4) (mC (.int 0))))
  (sCons (sSet 5 (mCallB dTuple (mCons (mLc (mRng1 (mCons (mBin dAdd (mC (.int 1)) (mCall m__law_take [.v 0, .e (mC (.int 3))] [])) mNil)) [6] (tName 6) tTrue (mCall m__law_word [.v 0] [])) mNil)))
  (sRet (mTup (mCons (mC (.str "tell")) (mCons (mMv 1) (mCons (mCall m__law_pick [.v 0, .e (mFz (mLst (mCons (mC (.int 0)) (mCons (mC (.int 1)) (mCons (mC (.int 7)) (mCons (mC (.int 10)) (mCons (mBin dPow (mC (.int 10)) (mC (.int 14))) mNil)))))))] []) (mCons (mMv 5) mNil)))))))
  sNil)
  (sCons (sIf (toT (mBin dEq (mVar 4) (mC (.int 1))))
  (sRet (mTup (mCons (mC (.str "ask")) (mCons (mMv 1) (mCons (mMv 2) (mCons (mMv 3) (mCons (mCall m__law_take [.v 0, .e (mC (.int 6))] []) (mCons (mCall m__law_pick [.v 0, .e (mFz (mLst (mCons (mC (.int 0)) (mCons (mC (.int 3)) (mCons (mC (.int 12)) (mCons (mC (.int 100)) mNil))))))] []) mNil))))))))
  sNil)
  (sRet (mTup (mCons (mC (.str "told")) (mCons (mMv 1) (mCons (mMv 2) (mCons (mMv 3) (mCons (mCall m__law_pick [.v 0, .e (mFz (mLst (mCons (mC (.str "landed")) (mCons (mC (.str "left")) mNil))))] []) mNil)))))))))))
def m__law_any_frame : MF := mFun ps__law_any_frame.length N__law_any_frame.length P__law_any_frame b__law_any_frame
def ps__law_broken_page : List Str := ["_law_state", "_law_page_here"]
def N__law_broken_page : List Str := ["_law_state", "_law_page_here", "_law_at", "_law_way", "_law_rows", "_law_spot"]
def P__law_broken_page (i : Nat) : Bool := ([true, true] : List Bool).getD i false
def b__law_broken_page : MS := (sCons (sPar [2, 3, 4] (mCons (mCall m__law_take [.v 0, .e (mFz (mBin dAdd (mCallB dLen (mCons (mVar 1) mNil)) (mC (.int 1))))] []) (mCons (mCall m__law_take [.v 0, .e (mC (.int 6))] []) (mCons (mMethV "str" gSplit (mVar 1) (mCons (mC (.str "\n")) mNil)) mNil))))
  (sCons (sSet 5 (mCall m__law_take [.v 0, .e (mCallB dLen (mCons (mVar 4) mNil))] []))
  (sCons (sIf (toT (mBin dEq (mVar 3) (mC (.int 0))))
  (sRet (mBin dAdd (mSl (mVar 1) oNone (oSome (mVar 2))) (mSl (mVar 1) (oSome (mBin dAdd (mVar 2) (mC (.int 1)))) oNone)))
  sNil)
  (sCons (sIf (toT (mBin dEq (mVar 3) (mC (.int 1))))
  (sRet (mBin dAdd (mBin dAdd (mSl (mVar 1) oNone (oSome (mVar 2))) (mCall m__law_pick [.v 0, .e (mFz (mLst (mCons (mC (.str " ")) (mCons (mC (.str "0")) (mCons (mC (.str "1")) (mCons (mC (.str "a")) (mCons (mC (.str ",")) (mCons (mC (.str "\n")) (mCons (mC (.str "-")) (mCons (mC (.str "A")) mNil))))))))))] [])) (mSl (mVar 1) (oSome (mVar 2)) oNone)))
  sNil)
  (sCons (sIf (toT (mBin dEq (mVar 3) (mC (.int 2))))
  (sRet (mBin dAdd (mBin dAdd (mSl (mVar 1) oNone (oSome (mVar 2))) (mCall m__law_pick [.v 0, .e (mFz (mLst (mCons (mC (.str " ")) (mCons (mC (.str "0")) (mCons (mC (.str "9")) (mCons (mC (.str "z")) (mCons (mC (.str ",")) (mCons (mC (.str "\n")) mNil))))))))] [])) (mSl (mVar 1) (oSome (mBin dAdd (mVar 2) (mC (.int 1)))) oNone)))
  sNil)
  (sCons (sIf (toT (mBin dEq (mVar 3) (mC (.int 3))))
  (sRet (mMethV "str" gJoin (mC (.str "\n")) (mCons (mBin dAdd (mSl (mVar 4) oNone (oSome (mVar 5))) (mSl (mVar 4) (oSome (mBin dAdd (mVar 5) (mC (.int 1)))) oNone)) mNil)))
  sNil)
  (sCons (sIf (toT (mBin dEq (mVar 3) (mC (.int 4))))
  (sRet (mMethV "str" gJoin (mC (.str "\n")) (mCons (mBin dAdd (mBin dAdd (mSl (mVar 4) oNone (oSome (mVar 5))) (mBin dMul (mSl (mVar 4) (oSome (mVar 5)) (oSome (mBin dAdd (mVar 5) (mC (.int 1))))) (mC (.int 2)))) (mSl (mVar 4) (oSome (mBin dAdd (mVar 5) (mC (.int 1)))) oNone)) mNil)))
  sNil)
  (sRet (mSl (mVar 1) oNone (oSome (mVar 2)))))))))))
def m__law_broken_page : MF := mFun ps__law_broken_page.length N__law_broken_page.length P__law_broken_page b__law_broken_page
def ps_is_number : List Str := ["value"]
def N_is_number : List Str := ["value"]
def P_is_number (i : Nat) : Bool := ([true] : List Bool).getD i false
def b_is_number : MS := (sRet (mAnd (mCallB dIsi (mCons (mVar 0) (mCons (mC (.ty .int)) mNil))) (mNot (mCallB dIsi (mCons (mVar 0) (mCons (mC (.ty .bool)) mNil))))))
def m_is_number : MF := mFun ps_is_number.length N_is_number.length P_is_number b_is_number
def ps_is_count : List Str := ["thing", "least"]
def N_is_count : List Str := ["thing", "least"]
def P_is_count (i : Nat) : Bool := ([true, true] : List Bool).getD i false
def b_is_count : MS := (sRet (mAnd (mCall m_is_number [.e (mVar 0)] []) (mBin dGe (mVar 0) (mVar 1))))
def m_is_count : MF := mFun ps_is_count.length N_is_count.length P_is_count b_is_count
def ps_is_name : List Str := ["value"]
def N_is_name : List Str := ["value", "sign"]
def P_is_name (i : Nat) : Bool := ([true] : List Bool).getD i false
def b_is_name : MS := (sRet (mAnd (mCallB dIsi (mCons (mVar 0) (mCons (mC (.ty .str)) mNil))) (mAnd (mChain dLe dLe (mC (.int 1)) (mCallB dLen (mCons (mVar 0) mNil)) (mC (.int 6))) (mCallB dAll (mCons (mLc (iAlt (iAny (mVar 0)) (keysAt 0 pVar)) [1] (tName 1) tTrue (mBin dIn (mVar 1) (mC (.str "abcdefghijklmnopqrstuvwxyz")))) mNil)))))
def m_is_name : MF := mFun ps_is_name.length N_is_name.length P_is_name b_is_name
def ps_is_tell : List Str := ["thing"]
def N_is_tell : List Str := ["thing", "value"]
def P_is_tell (i : Nat) : Bool := ([true] : List Bool).getD i false
def b_is_tell : MS := (sCons (sIf (tOr2 (toT (mBin dNe (mCallB dLen (mCons (mVar 0) mNil)) (mC (.int 4)))) (tOr2 (tNot1 (mTru (mCall m_is_count [.e (mAlt (mPath 0 (pSub pVar (kC (.int 2)))) (mBin dIx (mVar 0) (mC (.int 2)))), .e (mC (.int 0))] []))) (tNot1 (mTru (mCallB dIsi (mCons (mAlt (mPath 0 (pSub pVar (kC (.int 3)))) (mBin dIx (mVar 0) (mC (.int 3)))) (mCons (mC (.ty .tup)) mNil)))))))
  (sRet (mC (.bl false)))
  sNil)
  (sRet (mAnd (mChain dLe dLe (mC (.int 1)) (mCallB dLen (mCons (mAlt (mPath 0 (pSub pVar (kC (.int 3)))) (mBin dIx (mVar 0) (mC (.int 3)))) mNil)) (mC (.int 3))) (mCallB dAll (mCons (mLc (iAlt (iAny (mAlt (mPath 0 (pSub pVar (kC (.int 3)))) (mBin dIx (mVar 0) (mC (.int 3))))) (keysAt 0 (pSub pVar (kC (.int 3))))) [1] (tName 1) tTrue (mCall m_is_name [.e (mVar 1)] [])) mNil)))))
def m_is_tell : MF := mFun ps_is_tell.length N_is_tell.length P_is_tell b_is_tell
def ps_is_ask : List Str := ["thing"]
def N_is_ask : List Str := ["thing"]
def P_is_ask (i : Nat) : Bool := ([true] : List Bool).getD i false
def b_is_ask : MS := (sCons (sIf (tOr2 (toT (mBin dNe (mCallB dLen (mCons (mVar 0) mNil)) (mC (.int 6)))) (tOr2 (tNot1 (mTru (mCall m_is_count [.e (mAlt (mPath 0 (pSub pVar (kC (.int 2)))) (mBin dIx (mVar 0) (mC (.int 2)))), .e (mC (.int 1))] []))) (tNot1 (mTru (mCall m_is_count [.e (mAlt (mPath 0 (pSub pVar (kC (.int 3)))) (mBin dIx (mVar 0) (mC (.int 3)))), .e (mC (.int 1))] [])))))
  (sRet (mC (.bl false)))
  sNil)
  (sRet (mAnd (mCall m_is_count [.e (mAlt (mPath 0 (pSub pVar (kC (.int 4)))) (mBin dIx (mVar 0) (mC (.int 4)))), .e (mC (.int 0))] []) (mAnd (mBin dLe (mAlt (mPath 0 (pSub pVar (kC (.int 4)))) (mBin dIx (mVar 0) (mC (.int 4)))) (mC (.int 5))) (mCall m_is_count [.e (mAlt (mPath 0 (pSub pVar (kC (.int 5)))) (mBin dIx (mVar 0) (mC (.int 5)))), .e (mC (.int 0))] [])))))
def m_is_ask : MF := mFun ps_is_ask.length N_is_ask.length P_is_ask b_is_ask
def ps_is_told : List Str := ["thing"]
def N_is_told : List Str := ["thing"]
def P_is_told (i : Nat) : Bool := ([true] : List Bool).getD i false
def b_is_told : MS := (sCons (sIf (tOr2 (toT (mBin dNe (mCallB dLen (mCons (mVar 0) mNil)) (mC (.int 5)))) (tOr2 (tNot1 (mTru (mCall m_is_count [.e (mAlt (mPath 0 (pSub pVar (kC (.int 2)))) (mBin dIx (mVar 0) (mC (.int 2)))), .e (mC (.int 1))] []))) (tNot1 (mTru (mCall m_is_count [.e (mAlt (mPath 0 (pSub pVar (kC (.int 3)))) (mBin dIx (mVar 0) (mC (.int 3)))), .e (mC (.int 1))] [])))))
  (sRet (mC (.bl false)))
  sNil)
  (sRet (mAnd (mCallB dIsi (mCons (mAlt (mPath 0 (pSub pVar (kC (.int 4)))) (mBin dIx (mVar 0) (mC (.int 4)))) (mCons (mC (.ty .str)) mNil))) (mBin dIn (mAlt (mPath 0 (pSub pVar (kC (.int 4)))) (mBin dIx (mVar 0) (mC (.int 4)))) (mC (.tup [(.str "landed"), (.str "left")]))))))
def m_is_told : MF := mFun ps_is_told.length N_is_told.length P_is_told b_is_told
def ps_is_frame : List Str := ["thing"]
def N_is_frame : List Str := ["thing"]
def P_is_frame (i : Nat) : Bool := ([true] : List Bool).getD i false
def b_is_frame : MS := (sCons (sIf (tOr2 (tNot1 (mTru (mCallB dIsi (mCons (mVar 0) (mCons (mC (.ty .tup)) mNil))))) (tOr2 (toT (mBin dLt (mCallB dLen (mCons (mVar 0) mNil)) (mC (.int 2)))) (tOr2 (tNot1 (mTru (mCallB dIsi (mCons (mAlt (mPath 0 (pSub pVar (kC (.int 0)))) (mBin dIx (mVar 0) (mC (.int 0)))) (mCons (mC (.ty .str)) mNil))))) (tNot1 (mTru (mCall m_is_name [.e (mAlt (mPath 0 (pSub pVar (kC (.int 1)))) (mBin dIx (mVar 0) (mC (.int 1))))] []))))))
  (sRet (mC (.bl false)))
  sNil)
  (sCons (sIf (toT (mBin dEq (mAlt (mPath 0 (pSub pVar (kC (.int 0)))) (mBin dIx (mVar 0) (mC (.int 0)))) (mC (.str "tell"))))
  (sRet (mCall m_is_tell [.e (mVar 0)] []))
  sNil)
  (sCons (sIf (toT (mBin dEq (mAlt (mPath 0 (pSub pVar (kC (.int 0)))) (mBin dIx (mVar 0) (mC (.int 0)))) (mC (.str "ask"))))
  (sRet (mCall m_is_ask [.e (mVar 0)] []))
  sNil)
  (sRet (mAnd (mBin dEq (mAlt (mPath 0 (pSub pVar (kC (.int 0)))) (mBin dIx (mVar 0) (mC (.int 0)))) (mC (.str "told"))) (mCall m_is_told [.e (mVar 0)] []))))))
def m_is_frame : MF := mFun ps_is_frame.length N_is_frame.length P_is_frame b_is_frame
def ps_number_in : List Str := ["word"]
def N_number_in : List Str := ["word", "sign"]
def P_number_in (i : Nat) : Bool := ([true] : List Bool).getD i false
def b_number_in : MS := (sCons (sIf (tOr2 (toT (mBin dEq (mVar 0) (mC (.str "")))) (tOr2 (tNot1 (mTru (mCallB dAll (mCons (mLc (iAlt (iAny (mVar 0)) (keysAt 0 pVar)) [1] (tName 1) tTrue (mBin dIn (mVar 1) (mC (.str "0123456789")))) mNil)))) (tAnd2 (toT (mBin dEq (mAlt (mPath 0 (pSub pVar (kC (.int 0)))) (mBin dIx (mVar 0) (mC (.int 0)))) (mC (.str "0")))) (toT (mBin dNe (mVar 0) (mC (.str "0")))))))
  (sRet (mC .non))
  sNil)
  (sRet (mCallB dInt2 (mCons (mVar 0) mNil))))
def m_number_in : MF := mFun ps_number_in.length N_number_in.length P_number_in b_number_in
def ps_frame_in : List Str := ["line"]
def N_frame_in : List Str := ["line", "words", "found", "word"]
def P_frame_in (i : Nat) : Bool := ([true] : List Bool).getD i false
def b_frame_in : MS := (sCons (sSet 1 (mMethV "str" gSplit (mVar 0) (mCons (mC (.str " ")) mNil)))
  (sCons (sIf (toT (mBin dLt (mCallB dLen (mCons (mVar 1) mNil)) (mC (.int 4))))
  (sRet (mC .non))
  sNil)
  (sCons (sIf (toT (mBin dEq (mAlt (mPath 1 (pSub pVar (kC (.int 0)))) (mBin dIx (mVar 1) (mC (.int 0)))) (mC (.str "tell"))))
  (sSet 2 (mBin dAdd (mTup (mCons (mAlt (mPath 1 (pSub pVar (kC (.int 0)))) (mBin dIx (mVar 1) (mC (.int 0)))) (mCons (mAlt (mPath 1 (pSub pVar (kC (.int 1)))) (mBin dIx (mVar 1) (mC (.int 1)))) (mCons (mCall m_number_in [.e (mAlt (mPath 1 (pSub pVar (kC (.int 2)))) (mBin dIx (mVar 1) (mC (.int 2))))] []) (mCons (mCallB dTuple (mCons (mMethV "str" gSplit (mAlt (mPath 1 (pSub pVar (kC (.int 3)))) (mBin dIx (mVar 1) (mC (.int 3)))) (mCons (mC (.str ",")) mNil)) mNil)) mNil))))) (mCallB dTuple (mCons (mSl (mVar 1) (oSome (mC (.int 4))) oNone) mNil))))
  (sIf (toT (mBin dEq (mAlt (mPath 1 (pSub pVar (kC (.int 0)))) (mBin dIx (mVar 1) (mC (.int 0)))) (mC (.str "ask"))))
  (sSet 2 (mBin dAdd (mCallB dTuple (mCons (mSl (mVar 1) oNone (oSome (mC (.int 2)))) mNil)) (mCallB dTuple (mCons (mLc (iAny (mSl (mVar 1) (oSome (mC (.int 2))) oNone)) [3] (tName 3) tTrue (mCall m_number_in [.e (mVar 3)] [])) mNil))))
  (sSet 2 (mBin dAdd (mBin dAdd (mCallB dTuple (mCons (mSl (mVar 1) oNone (oSome (mC (.int 2)))) mNil)) (mCallB dTuple (mCons (mLc (iAny (mSl (mVar 1) (oSome (mC (.int 2))) (oSome (mC (.int 4))))) [3] (tName 3) tTrue (mCall m_number_in [.e (mVar 3)] [])) mNil))) (mCallB dTuple (mCons (mSl (mVar 1) (oSome (mC (.int 4))) oNone) mNil))))))
  (sRet (mIf (mTru (mCall m_is_frame [.e (mVar 2)] [])) (mVar 2) (mC .non))))))
def m_frame_in : MF := mFun ps_frame_in.length N_frame_in.length P_frame_in b_frame_in
def ps_cut_text : List Str := ["text"]
def N_cut_text : List Str := ["text", "lines", "found", "at", "line", "frame"]
def P_cut_text (i : Nat) : Bool := ([true] : List Bool).getD i false
def b_cut_text : MS := (sCons (sIf (tNot1 (mTru (mCallB dIsi (mCons (mVar 0) (mCons (mC (.ty .str)) mNil)))))
  sStuck
  sNil)
  (sCons (sSet 1 (mMethV "str" gSplit (mVar 0) (mCons (mC (.str "\n")) mNil)))
  (sCons (sSet 2 (mLst mNil))
  (sCons (sFor (iEnum2 (mCons (mSl (mVar 1) oNone (oSome (mNeg (mC (.int 1))))) mNil)) (tTup (tsCons (tName 3) (tsCons (tName 4) tsNil)))
  (sCons (sSet 5 (mCall m_frame_in [.e (mVar 4)] []))
  (sCons (sIf (toT (mBin dIs (mVar 5) (mC .non)))
  sStuck
  sNil)
  (sExpr (mMeth "list" gAppend 2 (mCons (mVar 5) mNil))))))
  (sRet (mTup (mCons (mMv 2) (mCons (mAlt (mPath 1 (pSub pVar (kPur [] (mNeg (mC (.int 1)))))) (mBin dIx (mVar 1) (mNeg (mC (.int 1))))) mNil))))))))
def m_cut_text : MF := mFun ps_cut_text.length N_cut_text.length P_cut_text b_cut_text
def xb_cut_text : MX := (xCons (xIf (tNot1 (mTru (mCallB dIsi (mCons (mVar 0) (mCons (mC (.ty .str)) mNil))))) (xRaise1 "BadText" "line" (mC (.int 0))) xNo) (sIf (tNot1 (mTru (mCallB dIsi (mCons (mVar 0) (mCons (mC (.ty .str)) mNil)))))
  sStuck
  sNil)
  (xCons xNo (sSet 1 (mMethV "str" gSplit (mVar 0) (mCons (mC (.str "\n")) mNil)))
  (xCons xNo (sSet 2 (mLst mNil))
  (xCons (xFor (iEnum2 (mCons (mSl (mVar 1) oNone (oSome (mNeg (mC (.int 1))))) mNil)) (tTup (tsCons (tName 3) (tsCons (tName 4) tsNil)))
  (sCons (sSet 5 (mCall m_frame_in [.e (mVar 4)] []))
  (sCons (sIf (toT (mBin dIs (mVar 5) (mC .non)))
  sStuck
  sNil)
  (sExpr (mMeth "list" gAppend 2 (mCons (mVar 5) mNil)))))
  (xCons xNo (sSet 5 (mCall m_frame_in [.e (mVar 4)] []))
  (xCons (xIf (toT (mBin dIs (mVar 5) (mC .non))) (xRaise1 "BadText" "line" (mVar 3)) xNo) (sIf (toT (mBin dIs (mVar 5) (mC .non)))
  sStuck
  sNil)
  xNo))) (sFor (iEnum2 (mCons (mSl (mVar 1) oNone (oSome (mNeg (mC (.int 1))))) mNil)) (tTup (tsCons (tName 3) (tsCons (tName 4) tsNil)))
  (sCons (sSet 5 (mCall m_frame_in [.e (mVar 4)] []))
  (sCons (sIf (toT (mBin dIs (mVar 5) (mC .non)))
  sStuck
  sNil)
  (sExpr (mMeth "list" gAppend 2 (mCons (mVar 5) mNil))))))
  xNo))))
def x_cut_text : List D → Option Ex := xFun ps_cut_text.length N_cut_text.length xb_cut_text
def ps_read_frames : List Str := ["text"]
def N_read_frames : List Str := ["text", "found", "rest"]
def P_read_frames (i : Nat) : Bool := ([true] : List Bool).getD i false
def b_read_frames : MS := (sCons (sAsg (mCall m_cut_text [.e (mVar 0)] []) (tTup (tsCons (tName 1) (tsCons (tName 2) tsNil))))
  (sCons (sIf (toT (mBin dNe (mVar 2) (mC (.str ""))))
  sStuck
  sNil)
  (sRet (mMv 1))))
def m_read_frames : MF := mFun ps_read_frames.length N_read_frames.length P_read_frames b_read_frames
def xb_read_frames : MX := (xCons (xCall x_cut_text [.e (mVar 0)] []) (sAsg (mCall m_cut_text [.e (mVar 0)] []) (tTup (tsCons (tName 1) (tsCons (tName 2) tsNil))))
  (xCons (xIf (toT (mBin dNe (mVar 2) (mC (.str "")))) (xRaise1 "BadText" "line" (mCallB dLen (mCons (mVar 1) mNil))) xNo) (sIf (toT (mBin dNe (mVar 2) (mC (.str ""))))
  sStuck
  sNil)
  xNo))
def x_read_frames : List D → Option Ex := xFun ps_read_frames.length N_read_frames.length xb_read_frames
def ps_law : List Str := ["_law_script"]
def N_law : List Str := ["_law_script", "<table of law>", "<table of _law_told>", "_law_state", "_law_turn", "_law_page_here", "_law_lap", "_law_odd", "_law_near", "_law_change", "_law_rows", "_law_at", "_law_due", "_law_k", "_law_row"]
def P_law (i : Nat) : Bool := ([true, true, true] : List Bool).getD i false
def b_law : MS := (sCons (sSet 3 (mCall m__law_begun [.e (mVar 0)] []))
  (sCons (sFor (mRng1 (mCons (mBin dAdd (mC (.int 3)) (mCallB dMin2 (mCons (mCallB dLen (mCons (mVar 0) mNil)) (mCons (mC (.int 12)) mNil)))) mNil)) (tName 4)
  (sCons (sSet 5 (mCall m__law_page [.e (mFz (mLc (mRng1 (mCons (mCall m__law_take [.v 3, .e (mC (.int 6))] []) mNil)) [13] (tName 13) tTrue (mCall m__law_any_frame [.v 3] [])))] []))
  (sCons (sFor (mRng1 (mCons (mC (.int 3)) mNil)) (tName 6)
  (sCons (sSet 8 (mVar 5))
  (sCons (sFor (mRng1 (mCons (mBin dAdd (mC (.int 1)) (mCall m__law_take [.v 3, .e (mC (.int 3))] [])) mNil)) (tName 9)
  (sSet 8 (mCall m__law_broken_page [.v 3, .e (mVar 8)] [])))
  (sCons (sSet 10 (mMethV "str" gSplit (mVar 8) (mCons (mC (.str "\n")) mNil)))
  (sCons (sSet 11 (mCall m__law_first_bad [.e (mFz (mSl (mVar 10) oNone (oSome (mNeg (mC (.int 1))))))] []))
  (sCons (sSet 12 (mIf (toT (mBin dIsNot (mVar 11) (mC .non))) (mVar 11) (mLst (mCons (mTup (mCons (mLc (iAny (mSl (mVar 10) oNone (oSome (mNeg (mC (.int 1)))))) [14] (tName 14) tTrue (mCall m__law_read [.e (mVar 14)] [])) (mCons (mAlt (mPath 10 (pSub pVar (kPur [] (mNeg (mC (.int 1)))))) (mBin dIx (mVar 10) (mNeg (mC (.int 1))))) mNil))) mNil))))
  (sCons (sIf (toT (mBin dNe (mCallB dRepr (mCons (mTold ["BadText"] 1 "law" "law.<locals>.<lambda>" 2 "_law_told" "_law_told.<locals>.<lambda>" [false, false, false, false, false, false, false, false, true] (mCall m_cut_text [.e (mVar 8)] []) (xCall x_cut_text [.e (mVar 8)] []) 0 b__law_told) mNil)) (mCallB dRepr (mCons (mVar 12) mNil))))
  (sRet (mC (.bl false)))
  sNil)
  (sCons (sIf (toT (mBin dIs (mVar 11) (mC .non)))
  (sSet 12 (mIf (toT (mBin dNe (mAlt (mPath 10 (pSub pVar (kPur [] (mNeg (mC (.int 1)))))) (mBin dIx (mVar 10) (mNeg (mC (.int 1))))) (mC (.str "")))) (mBin dSub (mCallB dLen (mCons (mVar 10) mNil)) (mC (.int 1))) (mLst (mCons (mPath 12 (pSub (pSub pVar (kC (.int 0))) (kC (.int 0)))) mNil))))
  sNil)
  (sIf (toT (mBin dNe (mCallB dRepr (mCons (mTold ["BadText"] 1 "law" "law.<locals>.<lambda>" 2 "_law_told" "_law_told.<locals>.<lambda>" [false, false, false, false, false, false, false, false, true] (mCall m_read_frames [.e (mVar 8)] []) (xCall x_read_frames [.e (mVar 8)] []) 0 b__law_told) mNil)) (mCallB dRepr (mCons (mVar 12) mNil))))
  (sRet (mC (.bl false)))
  sNil)))))))))
  (sCons (sSet 7 (mCall m__law_pick [.v 3, .e (mFz (mLst (mCons (mC .non) (mCons (mC (.int 5)) (mCons (mLst (mCons (mC (.str "tell a 0 b\n")) mNil)) (mCons (mTup (mCons (mC (.str "")) mNil)) (mCons (mC (.bl true)) (mCons (mC (.dct true [] [])) mNil))))))))] []))
  (sCons (sIf (toT (mBin dNe (mTold ["BadText"] 1 "law" "law.<locals>.<lambda>" 2 "_law_told" "_law_told.<locals>.<lambda>" [false, false, false, false, false, false, false, true] (mCall m_read_frames [.e (mVar 7)] []) (xCall x_read_frames [.e (mVar 7)] []) 0 b__law_told) (mC (.int 0))))
  (sRet (mC (.bl false)))
  sNil)
  (sIf (toT (mBin dNe (mTold ["BadText"] 1 "law" "law.<locals>.<lambda>" 2 "_law_told" "_law_told.<locals>.<lambda>" [false, false, false, false, false, false, false, true] (mCall m_cut_text [.e (mVar 7)] []) (xCall x_cut_text [.e (mVar 7)] []) 0 b__law_told) (mC (.int 0))))
  (sRet (mC (.bl false)))
  sNil))))))
  (sRet (mC (.bl true)))))
def m_law : MF := mFun (ps_law.length + 2) N_law.length P_law b_law
end K47
set_option Elab.async false
set_option linter.all false
set_option maxRecDepth 100000
set_option maxHeartbeats 0
namespace K47
open PySem PySem.Spec PyProof.Rows L2 DL LamX
def top (i : Nat) : Stmt := PySem.Challenge.pw_farkeepers_k47_texts_of_frames_changed.main.body.getD i (.Pass ⟨0, 0, 0, 0⟩)
def mst (i j : Nat) : Stmt := (bodyOf (top i)).getD j (.Pass ⟨0, 0, 0, 0⟩)
def dd (x : Str) (i : Nat) : He.DefD := ⟨(x, none), x, x, defArgs (top i), defBody (top i), defScope (top i), [], []⟩
def dm (c m q : Str) (i j : Nat) : He.DefD := ⟨(c, some m), m, q, defArgs (mst i j), defBody (mst i j), defScope (mst i j), [], []⟩
def fn : List He.DefD := [dd "_law_begun" 21, dd "_law_line" 22, dd "_law_page" 23, dd "_law_mixed" 24, dd "_law_take" 25, dd "_law_pick" 26, dd "_law_number" 30, dd "_law_is_label" 31, dd "_law_is_count" 32, dd "_law_is_frame" 33, dd "_law_read" 34, dd "_law_first_bad" 35, dd "_law_told" 37, dd "_law_word" 27, dd "_law_any_frame" 28, dd "_law_broken_page" 29, dd "is_number" 5, dd "is_count" 11, dd "is_name" 6, dd "is_tell" 12, dd "is_ask" 13, dd "is_told" 14, dd "is_frame" 15, dd "number_in" 16, dd "frame_in" 17, dd "cut_text" 18, dd "read_frames" 19, dd "law" 38, dd "_law_caught" 36, dm "BadText" "__init__" "BadText.__init__" 2 0]
def fa : List He.Fa := [.glo "_law_begun", .glo "_law_line", .glo "_law_page", .glo "_law_mixed", .glo "_law_take", .glo "_law_pick", .glo "_law_number", .glo "_law_is_label", .glo "_law_is_count", .glo "_law_is_frame", .glo "_law_read", .glo "_law_first_bad", .glo "_law_told", .glo "_law_word", .glo "_law_any_frame", .glo "_law_broken_page", .glo "is_number", .glo "is_count", .glo "is_name", .glo "is_tell", .glo "is_ask", .glo "is_told", .glo "is_frame", .glo "number_in", .glo "frame_in", .glo "cut_text", .glo "read_frames", .glo "law", .free "abs", .free "isinstance", .free "tuple", .free "str", .free "int", .free "len", .free "bool", .free "repr", .free "enumerate", .free "ValueError", .free "range", .free "all", .free "min", .glo "_law_caught", .glo "FarError", .glo "BadText", .str "LETTERS" "abcdefghijklmnopqrstuvwxyz", .int "MOST_RULE" 5, .glo "WORDS", .str "FIGURES" "0123456789"]
def ex (K : PySem.W.Frag) : Bool := catB K "FarError" es && (excAB K es && ((pl.all fun c => excOneB K (He.ga K c)) && ((basB K (He.ga K "FarError") && oneFB K "BadText" "line") && (clsTB K ct && (He.tupB K "WORDS" [.str "landed", .str "left"])))))
abbrev R : PySem.W.OpenRow := PySem.W.OpenLaw.row PySem.Challenge.rw_farkeepers_k47_texts_of_frames_changed
def tf : List He.Defn := [("law", none), ("_law_told", none)]
def gq : List (Str × Str) := [("law", "law.<locals>.<lambda>"), ("_law_told", "_law_told.<locals>.<lambda>")]
abbrev hk : PySem.W.Hook := hookH 4 tf fa fn ex
def ob (s : PySem.W.SharedT) : AlS := obsH 4 tf fa fn ex (HandSHeadRun.getT s)
theorem ob_eq (s : PySem.W.SharedT) : ob s = hk.obs s.abs := obsH_eq (HandSHeadRun.getT_eq s)
def names : List Str := (["FarError", "BadText", "LETTERS", "is_number", "is_name", "FIGURES", "MOST_RULE", "WORDS", "is_count", "is_tell", "is_ask", "is_told", "is_frame", "number_in", "frame_in", "cut_text", "read_frames", "_law_begun", "_law_line", "_law_page", "_law_mixed", "_law_take", "_law_pick", "_law_word", "_law_any_frame"] : List Str) ++ (["_law_broken_page", "_law_number", "_law_is_label", "_law_is_count", "_law_is_frame", "_law_read", "_law_first_bad", "_law_caught", "_law_told"] : List Str)
theorem run (w : World) : HandSHeadRun.RunEq R (PySem.W.view R.prog [38]) hk ob 12000 names w := by
  intro os
  kernel_rfl
end K47
set_option Elab.async false
set_option linter.all false
set_option maxRecDepth 100000
set_option maxHeartbeats 0
namespace K47
open PySem PySem.Spec PyProof.Rows L2 DL LamX
theorem bo_abs : bootBuiltins "abs" = some (.builtin "abs") := by kernel_rfl
theorem bo_isinstance : bootBuiltins "isinstance" = some (.builtin "isinstance") := by kernel_rfl
theorem bo_tuple : bootBuiltins "tuple" = some (.type "tuple") := by kernel_rfl
theorem bo_str : bootBuiltins "str" = some (.type "str") := by kernel_rfl
theorem bo_int : bootBuiltins "int" = some (.type "int") := by kernel_rfl
theorem bo_len : bootBuiltins "len" = some (.builtin "len") := by kernel_rfl
theorem bo_bool : bootBuiltins "bool" = some (.type "bool") := by kernel_rfl
theorem bo_repr : bootBuiltins "repr" = some (.builtin "repr") := by kernel_rfl
theorem bo_all : bootBuiltins "all" = some (.builtin "all") := by kernel_rfl
theorem bo_min : bootBuiltins "min" = some (.builtin "min") := by kernel_rfl
section
variable {P : Program} {w : World} {K : PySem.W.Frag} {mg : Str → Option Value} {base : Heap} {f : Addr} {fd : FuncData}
theorem sc__law_begun : FnScope N__law_begun ps__law_begun (defScope (top 21)) := ⟨rfl, rfl, rfl, by decide +kernel, rfl, by decide +kernel, by decide +kernel⟩
theorem w__law_begun (F : FunD K "_law_begun" "_law_begun" (defArgs (top 21)) (defBody (top 21)) (defScope (top 21)) [] [] f fd) (b_abs : mg "abs" = none) :
    FnG P w K mg base 1 f fd ps__law_begun (spD K mg ps__law_begun.length m__law_begun) :=
  fnD_of (N := N__law_begun) (ps := ps__law_begun) (Pr := P__law_begun) (mb := b__law_begun) F sc__law_begun fun cdv A outer s H E hr hg =>
  (iss_cons (by exact (x_setLcA (own := [("_law_cell", 2)]) sc__law_begun.nd (ii_any (x_var 0)) (x_pv 0) (by show BlkOk N__law_begun (defScope (top 21)) _ _; exact ⟨rfl, by decide +kernel, by decide +kernel, by decide +kernel, by decide +kernel⟩) (fun _ _ _ _ _ => (x_tg 2 sc__law_begun.nd)) (fun _ _ _ _ _ => (its1 (x_tcmp br_ge (x_blt bc_abs b_abs bo_abs (by refine (x_lc (x_var 2) ?_); exact il_nil)) (ig_bin br_pow ig_int ig_int)))) (fun _ _ _ _ _ => (ig_bin br_sub (x_blt bc_abs b_abs bo_abs (by refine (x_lc (x_var 2) ?_); exact il_nil)) (ig_bin br_pow ig_int ig_int)))))
  (iss_one (by exact (is_ret (ig_disp (ips_cons ig_str (x_mv 1) (ips_cons ig_str (x_lcompA (own := [("_law_cell", 2)]) sc__law_begun.nd (ii_any (x_var 0)) (x_pv 0) (by show BlkOk N__law_begun (defScope (top 21)) _ _; exact ⟨rfl, by decide +kernel, by decide +kernel, by decide +kernel, by decide +kernel⟩) (fun _ _ _ _ _ => (x_tg 2 sc__law_begun.nd)) (fun _ _ _ _ _ => its0) (fun _ _ _ _ _ => (x_blt bc_abs b_abs bo_abs (by refine (x_lc (x_var 2) ?_); exact il_nil)))) (ips_cons ig_str ig_int (ips_cons ig_str ig_int ips_nil)))) rfl rfl nofun (by decide))))))
theorem sc__law_line : FnScope N__law_line ps__law_line (defScope (top 22)) := ⟨rfl, rfl, rfl, by decide +kernel, rfl, by decide +kernel, by decide +kernel⟩
theorem w__law_line (F : FunD K "_law_line" "_law_line" (defArgs (top 22)) (defBody (top 22)) (defScope (top 22)) [] [] f fd) (b_isinstance : mg "isinstance" = none) (b_tuple : mg "tuple" = none) (b_str : mg "str" = none) :
    FnG P w K mg base 1 f fd ps__law_line (spD K mg ps__law_line.length m__law_line) :=
  fnD_of (N := N__law_line) (ps := ps__law_line) (Pr := P__law_line) (mb := b__law_line) F sc__law_line fun cdv A outer s H E hr hg =>
  (iss_one (by exact (is_ret (x_methV PySem.F.plainAttrs_str PySem.F.slot_str_join PySem.F.type_str_join bm_join ig_str (by refine (x_lc (x_lcompA (own := [("_law_part", 1)]) sc__law_line.nd (ii_any (x_var 0)) (x_pv 0) (by show BlkOk N__law_line (defScope (top 22)) _ _; exact ⟨rfl, by decide +kernel, by decide +kernel, by decide +kernel, by decide +kernel⟩) (fun _ _ _ _ _ => (x_tg 1 sc__law_line.nd)) (fun _ _ _ _ _ => its0) (fun _ _ _ _ _ => (ig_if (x_val (x_blt bc_isi b_isinstance bo_isinstance (by refine (x_lc (x_var 1) ?_); refine (x_lc (x_ty .tup b_tuple bo_tuple) ?_); exact il_nil))) (x_methV PySem.F.plainAttrs_str PySem.F.slot_str_join PySem.F.type_str_join bm_join ig_str (by refine (x_lc (x_var 1) ?_); exact il_nil)) (x_bty bc_str b_str bo_str (by refine (x_lc (x_var 1) ?_); exact il_nil))))) ?_); exact il_nil)))))
theorem sc__law_page : FnScope N__law_page ps__law_page (defScope (top 23)) := ⟨rfl, rfl, rfl, by decide +kernel, rfl, by decide +kernel, by decide +kernel⟩
theorem w__law_page (F : FunD K "_law_page" "_law_page" (defArgs (top 23)) (defBody (top 23)) (defScope (top 23)) [] [] f fd)
    (c__law_line : CalF P w K mg base 1 "_law_line" ps__law_line [] m__law_line) :
    FnG P w K mg base 2 f fd ps__law_page (spD K mg ps__law_page.length m__law_page) :=
  fnD_of (N := N__law_page) (ps := ps__law_page) (Pr := P__law_page) (mb := b__law_page) F sc__law_page fun cdv A outer s H E hr hg =>
  (iss_one (by exact (is_ret (x_methV PySem.F.plainAttrs_str PySem.F.slot_str_join PySem.F.type_str_join bm_join ig_str (by refine (x_lc (x_lcompA (own := [("_law_item", 1)]) sc__law_page.nd (ii_any (x_var 0)) (x_pv 0) (by show BlkOk N__law_page (defScope (top 23)) _ _; exact ⟨rfl, by decide +kernel, by decide +kernel, by decide +kernel, by decide +kernel⟩) (fun _ _ _ _ _ => (x_tg 1 sc__law_page.nd)) (fun _ _ _ _ _ => its0) (fun _ _ _ _ _ => (ig_bin br_add (x_call c__law_line (hr.mono (by decide)) hg (x_ae (x_var 1) x_a0)) ig_str))) ?_); exact il_nil)))))
theorem sc__law_mixed : FnScope N__law_mixed ps__law_mixed (defScope (top 24)) := ⟨rfl, rfl, rfl, by decide +kernel, rfl, by decide +kernel, by decide +kernel⟩
theorem w__law_mixed (F : FunD K "_law_mixed" "_law_mixed" (defArgs (top 24)) (defBody (top 24)) (defScope (top 24)) [] [] f fd) (b_int : mg "int" = none) :
    FnG P w K mg base 1 f fd ps__law_mixed (spD K mg ps__law_mixed.length m__law_mixed) :=
  fnD_of (N := N__law_mixed) (ps := ps__law_mixed) (Pr := P__law_mixed) (mb := b__law_mixed) F sc__law_mixed fun cdv A outer s H E hr hg =>
  (iss_cons (by exact (x_put (Room.u65 hr) (ig_bin br_add (ig_path (x_psub (Room.u65 hr) (x_pv 0) ik_str)) ig_int) (x_pv 0) ik_str))
  (iss_cons (by exact (x_set 1 sc__law_mixed.nd ig_int))
  (iss_cons (by exact (x_for PassesOwn.never (ii_any (ig_lst (by refine (x_lc ig_int ?_); refine (x_lc ig_int ?_); refine (x_lc ig_int ?_); refine (x_lc ig_int ?_); exact il_nil))) (x_tg 2 sc__law_mixed.nd)
  (iss_cons (by exact (x_set 3 sc__law_mixed.nd (ig_bin br_add (ig_bin br_mul ig_int (ig_path (x_psub (Room.u65 hr) (x_pv 0) ik_str))) (ig_bin br_fdiv (x_var 2) ig_int))))
  (iss_cons (by exact (x_forA PassesOwn.never (ii_any (ig_path (x_psub (Room.u65 hr) (x_pv 0) ik_str))) (x_psub (Room.u65 hr) (x_pv 0) ik_str) (x_tg 4 sc__law_mixed.nd)
  (iss_one (by exact (x_set 3 sc__law_mixed.nd (ig_bin br_mod (x_bty bc_int2 b_int bo_int (by refine (x_lc (ig_bin br_add (ig_bin br_mul (x_var 3) ig_int) (x_var 4)) ?_); exact il_nil)) (x_var 2)))))))
  (iss_one (by exact (x_set 1 sc__law_mixed.nd (ig_bin br_add (ig_bin br_mul (x_var 1) ig_int) (ig_bin br_mod (x_bty bc_int2 b_int bo_int (by refine (x_lc (ig_bin br_pow (x_var 3) ig_int) ?_); exact il_nil)) (x_var 2))))))))))
  (iss_one (by exact (is_ret (x_mv 1)))))))
theorem sc__law_take : FnScope N__law_take ps__law_take (defScope (top 25)) := ⟨rfl, rfl, rfl, by decide +kernel, rfl, by decide +kernel, by decide +kernel⟩
theorem w__law_take (F : FunD K "_law_take" "_law_take" (defArgs (top 25)) (defBody (top 25)) (defScope (top 25)) [] [] f fd)
    (c__law_mixed : CalF P w K mg base 1 "_law_mixed" ps__law_mixed [] m__law_mixed) (b_int : mg "int" = none) :
    FnG P w K mg base 2 f fd ps__law_take (spD K mg ps__law_take.length m__law_take) :=
  fnD_of (N := N__law_take) (ps := ps__law_take) (Pr := P__law_take) (mb := b__law_take) F sc__law_take fun cdv A outer s H E hr hg =>
  (iss_cons (by exact (is_if (x_tcmp (br_eq (lt64 (Room.u65 hr))) (ig_path (x_psub (Room.u65 hr) (x_pv 0) ik_str)) ig_int)
  (iss_one (by exact (x_put (Room.u65 hr) (ig_if (it_pur [true] (x_tcmp (br_ne (lt64 (Room.u65 hr))) (ig_path (x_psub (Room.u65 hr) (x_pv 0) ik_str)) (ig_lst (by exact il_nil)))) (x_methP PySem.F.plainAttrs_list PySem.F.slot_list_pop PySem.F.type_list_pop mb_popAt (x_psub (Room.u65 hr) (x_pv 0) ik_str) (iks_cons ik_int iks_nil rfl)) (x_call c__law_mixed (hr.mono (by decide)) hg (x_av 0 x_a0))) (x_pv 0) ik_str)))
  iss_nil))
  (iss_cons (by exact (x_set 2 sc__law_take.nd (ig_bin br_mod (x_bty bc_int2 b_int bo_int (by refine (x_lc (ig_path (x_psub (Room.u65 hr) (x_pv 0) ik_str)) ?_); exact il_nil)) (x_var 1))))
  (iss_cons (by exact (x_put (Room.u65 hr) (ig_bin br_fdiv (ig_path (x_psub (Room.u65 hr) (x_pv 0) ik_str)) (x_var 1)) (x_pv 0) ik_str))
  (iss_one (by exact (is_ret (x_mv 2)))))))
theorem sc__law_pick : FnScope N__law_pick ps__law_pick (defScope (top 26)) := ⟨rfl, rfl, rfl, by decide +kernel, rfl, by decide +kernel, by decide +kernel⟩
theorem w__law_pick (F : FunD K "_law_pick" "_law_pick" (defArgs (top 26)) (defBody (top 26)) (defScope (top 26)) [] [] f fd)
    (c__law_take : CalF P w K mg base 2 "_law_take" ps__law_take [] m__law_take) (b_len : mg "len" = none) :
    FnG P w K mg base 3 f fd ps__law_pick (spD K mg ps__law_pick.length m__law_pick) :=
  fnD_of (N := N__law_pick) (ps := ps__law_pick) (Pr := P__law_pick) (mb := b__law_pick) F sc__law_pick fun cdv A outer s H E hr hg =>
  (iss_one (by exact (is_ret (x_ix (Room.u65 hr) (x_var 1) (x_call c__law_take (hr.mono (by decide)) hg (x_av 0 (x_ae (x_blt bc_len b_len bo_len (by refine (x_lc (x_var 1) ?_); exact il_nil)) x_a0)))))))
theorem sc__law_number : FnScope N__law_number ps__law_number (defScope (top 30)) := ⟨rfl, rfl, rfl, by decide +kernel, rfl, by decide +kernel, by decide +kernel⟩
theorem w__law_number (F : FunD K "_law_number" "_law_number" (defArgs (top 30)) (defBody (top 30)) (defScope (top 30)) [] [] f fd) (b_int : mg "int" = none) :
    FnG P w K mg base 1 f fd ps__law_number (spD K mg ps__law_number.length m__law_number) :=
  fnD_of (N := N__law_number) (ps := ps__law_number) (Pr := P__law_number) (mb := b__law_number) F sc__law_number fun cdv A outer s H E hr hg =>
  (iss_cons (by exact (is_if (it_w (iw_or (x_tcmp (br_eq (lt64 (Room.u65 hr))) (x_var 0) ig_str) (iw_or1 (x_tcmp (br_ne (lt64 (Room.u65 hr))) (x_lcompA (own := [("_law_sign", 1)]) sc__law_number.nd (ii_any (x_var 0)) (x_pv 0) (by show BlkOk N__law_number (defScope (top 30)) _ _; exact ⟨rfl, by decide +kernel, by decide +kernel, by decide +kernel, by decide +kernel⟩) (fun _ _ _ _ _ => (x_tg 1 sc__law_number.nd)) (fun _ _ _ _ _ => (its1 (x_tcmp (br_notIn (Room.u65 hr)) (x_var 1) ig_str))) (fun _ _ _ _ _ => (x_var 1))) (ig_lst (by exact il_nil))))))
  (iss_one (by exact (is_ret ig_non)))
  iss_nil))
  (iss_one (by exact (is_ret (x_bty bc_int2 b_int bo_int (by refine (x_lc (x_var 0) ?_); exact il_nil))))))
theorem sc__law_is_label : FnScope N__law_is_label ps__law_is_label (defScope (top 31)) := ⟨rfl, rfl, rfl, by decide +kernel, rfl, by decide +kernel, by decide +kernel⟩
theorem w__law_is_label (F : FunD K "_law_is_label" "_law_is_label" (defArgs (top 31)) (defBody (top 31)) (defScope (top 31)) [] [] f fd) (b_isinstance : mg "isinstance" = none) (b_str : mg "str" = none) (b_len : mg "len" = none) :
    FnG P w K mg base 1 f fd ps__law_is_label (spD K mg ps__law_is_label.length m__law_is_label) :=
  fnD_of (N := N__law_is_label) (ps := ps__law_is_label) (Pr := P__law_is_label) (mb := b__law_is_label) F sc__law_is_label fun cdv A outer s H E hr hg =>
  (iss_cons (by exact (is_if (it_w (iw_or (it_not (x_val (x_blt bc_isi b_isinstance bo_isinstance (by refine (x_lc (x_var 0) ?_); refine (x_lc (x_ty .str b_str bo_str) ?_); exact il_nil)))) (iw_or1 (it_not (x_tchain br_lt br_lt ig_int (x_blt bc_len b_len bo_len (by refine (x_lc (x_var 0) ?_); exact il_nil)) ig_int)))))
  (iss_one (by exact (is_ret ig_bl)))
  iss_nil))
  (iss_one (by exact (is_ret (x_cmp (br_eq (lt64 (Room.u65 hr))) (x_lcompA (own := [("_law_sign", 1)]) sc__law_is_label.nd (ii_any (x_var 0)) (x_pv 0) (by show BlkOk N__law_is_label (defScope (top 31)) _ _; exact ⟨rfl, by decide +kernel, by decide +kernel, by decide +kernel, by decide +kernel⟩) (fun _ _ _ _ _ => (x_tg 1 sc__law_is_label.nd)) (fun _ _ _ _ _ => (its1 (x_tcmp (br_notIn (Room.u65 hr)) (x_var 1) ig_str))) (fun _ _ _ _ _ => (x_var 1))) (ig_lst (by exact il_nil)))))))
theorem sc__law_is_count : FnScope N__law_is_count ps__law_is_count (defScope (top 32)) := ⟨rfl, rfl, rfl, by decide +kernel, rfl, by decide +kernel, by decide +kernel⟩
theorem w__law_is_count (F : FunD K "_law_is_count" "_law_is_count" (defArgs (top 32)) (defBody (top 32)) (defScope (top 32)) [] [] f fd) (b_isinstance : mg "isinstance" = none) (b_int : mg "int" = none) (b_bool : mg "bool" = none) :
    FnG P w K mg base 1 f fd ps__law_is_count (spD K mg ps__law_is_count.length m__law_is_count) :=
  fnD_of (N := N__law_is_count) (ps := ps__law_is_count) (Pr := P__law_is_count) (mb := b__law_is_count) F sc__law_is_count fun cdv A outer s H E hr hg =>
  (iss_one (by exact (is_ret (ig_and (x_blt bc_isi b_isinstance bo_isinstance (by refine (x_lc (x_var 0) ?_); refine (x_lc (x_ty .int b_int bo_int) ?_); exact il_nil)) (ig_and (ig_not (x_blt bc_isi b_isinstance bo_isinstance (by refine (x_lc (x_var 0) ?_); refine (x_lc (x_ty .bool b_bool bo_bool) ?_); exact il_nil))) (ig_one (x_cmp br_ge (x_var 0) (x_var 1))))))))
theorem sc__law_is_frame : FnScope N__law_is_frame ps__law_is_frame (defScope (top 33)) := ⟨rfl, rfl, rfl, by decide +kernel, rfl, by decide +kernel, by decide +kernel⟩
theorem w__law_is_frame (F : FunD K "_law_is_frame" "_law_is_frame" (defArgs (top 33)) (defBody (top 33)) (defScope (top 33)) [] [] f fd)
    (c__law_is_label : CalF P w K mg base 1 "_law_is_label" ps__law_is_label [] m__law_is_label)
    (c__law_is_count : CalF P w K mg base 1 "_law_is_count" ps__law_is_count [] m__law_is_count) (b_isinstance : mg "isinstance" = none) (b_tuple : mg "tuple" = none) (b_len : mg "len" = none) (b_str : mg "str" = none) (b_repr : mg "repr" = none) (hS : SysD K) :
    FnG P w K mg base 2 f fd ps__law_is_frame (spD K mg ps__law_is_frame.length m__law_is_frame) :=
  fnD_of (N := N__law_is_frame) (ps := ps__law_is_frame) (Pr := P__law_is_frame) (mb := b__law_is_frame) F sc__law_is_frame fun cdv A outer s H E hr hg =>
  (iss_cons (by exact (is_if (it_w (iw_or (it_not (x_val (x_blt bc_isi b_isinstance bo_isinstance (by refine (x_lc (x_var 0) ?_); refine (x_lc (x_ty .tup b_tuple bo_tuple) ?_); exact il_nil)))) (iw_or (x_tcmp br_lt (x_blt bc_len b_len bo_len (by refine (x_lc (x_var 0) ?_); exact il_nil)) ig_int) (iw_or (it_not (x_val (x_blt bc_isi b_isinstance bo_isinstance (by refine (x_lc (ig_alt (ig_path (x_psub (Room.u65 hr) (x_pv 0) ik_int)) (x_ix (Room.u65 hr) (x_var 0) ig_int)) ?_); refine (x_lc (x_ty .str b_str bo_str) ?_); exact il_nil)))) (iw_or1 (it_not (x_val (x_call c__law_is_label (hr.mono (by decide)) hg (x_ae (ig_alt (ig_path (x_psub (Room.u65 hr) (x_pv 0) ik_int)) (x_ix (Room.u65 hr) (x_var 0) ig_int)) x_a0)))))))))
  (iss_one (by exact (is_ret ig_bl)))
  iss_nil))
  (iss_cons (by exact (is_if (x_tcmp (br_eq (lt64 (Room.u65 hr))) (ig_alt (ig_path (x_psub (Room.u65 hr) (x_pv 0) ik_int)) (x_ix (Room.u65 hr) (x_var 0) ig_int)) ig_str)
  (iss_cons (by exact (is_if (it_w (iw_or (x_tcmp (br_ne (lt64 (Room.u65 hr))) (x_blt bc_len b_len bo_len (by refine (x_lc (x_var 0) ?_); exact il_nil)) ig_int) (iw_or (it_not (x_val (x_call c__law_is_count (hr.mono (by decide)) hg (x_ae (ig_alt (ig_path (x_psub (Room.u65 hr) (x_pv 0) ik_int)) (x_ix (Room.u65 hr) (x_var 0) ig_int)) (x_ae ig_int x_a0))))) (iw_or1 (it_not (x_val (x_blt bc_isi b_isinstance bo_isinstance (by refine (x_lc (ig_alt (ig_path (x_psub (Room.u65 hr) (x_pv 0) ik_int)) (x_ix (Room.u65 hr) (x_var 0) ig_int)) ?_); refine (x_lc (x_ty .tup b_tuple bo_tuple) ?_); exact il_nil))))))))
  (iss_one (by exact (is_ret ig_bl)))
  iss_nil))
  (iss_one (by exact (is_ret (ig_and (x_chain br_lt br_lt ig_int (x_blt bc_len b_len bo_len (by refine (x_lc (ig_alt (ig_path (x_psub (Room.u65 hr) (x_pv 0) ik_int)) (x_ix (Room.u65 hr) (x_var 0) ig_int)) ?_); exact il_nil)) ig_int) (ig_one (x_cmp (br_eq (lt64 (Room.u65 hr))) (x_lcompA (own := [("_law_part", 1)]) sc__law_is_frame.nd (ii_any (ig_alt (ig_path (x_psub (Room.u65 hr) (x_pv 0) ik_int)) (x_ix (Room.u65 hr) (x_var 0) ig_int))) (x_psub (Room.u65 hr) (x_pv 0) ik_int) (by show BlkOk N__law_is_frame (defScope (top 33)) _ _; exact ⟨rfl, by decide +kernel, by decide +kernel, by decide +kernel, by decide +kernel⟩) (fun _ _ _ _ _ => (x_tg 1 sc__law_is_frame.nd)) (fun _ _ _ _ _ => (its1 (it_not (x_val (x_call c__law_is_label (hr.mono (by decide)) hg (x_ae (x_var 1) x_a0)))))) (fun _ _ _ _ _ => (x_var 1))) (ig_lst (by exact il_nil)))))))))
  iss_nil))
  (iss_cons (by exact (is_if (it_w (iw_or (it_not (x_val (x_call c__law_is_count (hr.mono (by decide)) hg (x_ae (ig_alt (ig_path (x_psub (Room.u65 hr) (x_pv 0) ik_int)) (x_ix (Room.u65 hr) (x_var 0) ig_int)) (x_ae ig_int x_a0))))) (iw_or1 (it_not (x_val (x_call c__law_is_count (hr.mono (by decide)) hg (x_ae (ig_alt (ig_path (x_psub (Room.u65 hr) (x_pv 0) ik_int)) (x_ix (Room.u65 hr) (x_var 0) ig_int)) (x_ae ig_int x_a0))))))))
  (iss_one (by exact (is_ret ig_bl)))
  iss_nil))
  (iss_cons (by exact (is_if (x_tcmp (br_eq (lt64 (Room.u65 hr))) (ig_alt (ig_path (x_psub (Room.u65 hr) (x_pv 0) ik_int)) (x_ix (Room.u65 hr) (x_var 0) ig_int)) ig_str)
  (iss_one (by exact (is_ret (ig_and (x_cmp (br_eq (lt64 (Room.u65 hr))) (x_blt bc_len b_len bo_len (by refine (x_lc (x_var 0) ?_); exact il_nil)) ig_int) (ig_and (x_call c__law_is_count (hr.mono (by decide)) hg (x_ae (ig_alt (ig_path (x_psub (Room.u65 hr) (x_pv 0) ik_int)) (x_ix (Room.u65 hr) (x_var 0) ig_int)) (x_ae ig_int x_a0))) (ig_and (x_cmp br_lt (ig_alt (ig_path (x_psub (Room.u65 hr) (x_pv 0) ik_int)) (x_ix (Room.u65 hr) (x_var 0) ig_int)) ig_int) (ig_one (x_call c__law_is_count (hr.mono (by decide)) hg (x_ae (ig_alt (ig_path (x_psub (Room.u65 hr) (x_pv 0) ik_int)) (x_ix (Room.u65 hr) (x_var 0) ig_int)) (x_ae ig_int x_a0))))))))))
  iss_nil))
  (iss_one (by exact (is_ret (ig_and (x_cmp (br_eq (lt64 (Room.u65 hr))) (ig_alt (ig_path (x_psub (Room.u65 hr) (x_pv 0) ik_int)) (x_ix (Room.u65 hr) (x_var 0) ig_int)) ig_str) (ig_and (x_cmp (br_eq (lt64 (Room.u65 hr))) (x_blt bc_len b_len bo_len (by refine (x_lc (x_var 0) ?_); exact il_nil)) ig_int) (ig_one (x_cmp (br_in (Room.u65 hr)) (x_blt (bc_repr hS hg (Room.u65 hr)) b_repr bo_repr (by refine (x_lc (ig_alt (ig_path (x_psub (Room.u65 hr) (x_pv 0) ik_int)) (x_ix (Room.u65 hr) (x_var 0) ig_int)) ?_); exact il_nil)) (ig_lst (by refine (x_lc ig_str ?_); refine (x_lc ig_str ?_); exact il_nil)))))))))))))
theorem sc__law_read : FnScope N__law_read ps__law_read (defScope (top 34)) := ⟨rfl, rfl, rfl, by decide +kernel, rfl, by decide +kernel, by decide +kernel⟩
theorem w__law_read (F : FunD K "_law_read" "_law_read" (defArgs (top 34)) (defBody (top 34)) (defScope (top 34)) [] [] f fd)
    (c__law_number : CalF P w K mg base 1 "_law_number" ps__law_number [] m__law_number)
    (c__law_is_frame : CalF P w K mg base 2 "_law_is_frame" ps__law_is_frame [] m__law_is_frame)
    (c__law_line : CalF P w K mg base 1 "_law_line" ps__law_line [] m__law_line) (b_len : mg "len" = none) (b_tuple : mg "tuple" = none) :
    FnG P w K mg base 3 f fd ps__law_read (spD K mg ps__law_read.length m__law_read) :=
  fnD_of (N := N__law_read) (ps := ps__law_read) (Pr := P__law_read) (mb := b__law_read) F sc__law_read fun cdv A outer s H E hr hg =>
  (iss_cons (by exact (x_set 1 sc__law_read.nd (x_methV PySem.F.plainAttrs_str PySem.F.slot_str_split PySem.F.type_str_split bm_split (x_var 0) (by refine (x_lc ig_str ?_); exact il_nil))))
  (iss_cons (by exact (x_set 2 sc__law_read.nd ig_non))
  (iss_cons (by exact (is_if (it_w (iw_and (x_tcmp (br_eq (lt64 (Room.u65 hr))) (ig_alt (ig_path (x_psub (Room.u65 hr) (x_pv 1) ik_int)) (x_ix (Room.u65 hr) (x_var 1) ig_int)) ig_str) (iw_and1 (x_tcmp (br_eq (lt64 (Room.u65 hr))) (x_blt bc_len b_len bo_len (by refine (x_lc (x_var 1) ?_); exact il_nil)) ig_int))))
  (iss_one (by exact (x_set 2 sc__law_read.nd (ig_tup (by refine (x_lc ig_str ?_); refine (x_lc (ig_alt (ig_path (x_psub (Room.u65 hr) (x_pv 1) ik_int)) (x_ix (Room.u65 hr) (x_var 1) ig_int)) ?_); refine (x_lc (x_call c__law_number (hr.mono (by decide)) hg (x_ae (ig_alt (ig_path (x_psub (Room.u65 hr) (x_pv 1) ik_int)) (x_ix (Room.u65 hr) (x_var 1) ig_int)) x_a0)) ?_); refine (x_lc (x_bty bc_tuple b_tuple bo_tuple (by refine (x_lc (x_methV PySem.F.plainAttrs_str PySem.F.slot_str_split PySem.F.type_str_split bm_split (ig_alt (ig_path (x_psub (Room.u65 hr) (x_pv 1) ik_int)) (x_ix (Room.u65 hr) (x_var 1) ig_int)) (by refine (x_lc ig_str ?_); exact il_nil)) ?_); exact il_nil)) ?_); exact il_nil)))))
  iss_nil))
  (iss_cons (by exact (is_if (it_w (iw_and (x_tcmp (br_eq (lt64 (Room.u65 hr))) (ig_alt (ig_path (x_psub (Room.u65 hr) (x_pv 1) ik_int)) (x_ix (Room.u65 hr) (x_var 1) ig_int)) ig_str) (iw_and1 (x_tcmp (br_eq (lt64 (Room.u65 hr))) (x_blt bc_len b_len bo_len (by refine (x_lc (x_var 1) ?_); exact il_nil)) ig_int))))
  (iss_one (by exact (x_set 2 sc__law_read.nd (ig_bin br_add (ig_tup (by refine (x_lc ig_str ?_); refine (x_lc (ig_alt (ig_path (x_psub (Room.u65 hr) (x_pv 1) ik_int)) (x_ix (Room.u65 hr) (x_var 1) ig_int)) ?_); exact il_nil)) (x_bty bc_tuple b_tuple bo_tuple (by refine (x_lc (x_lcomp (own := [("_law_part", 3)]) sc__law_read.nd (ii_any (ig_slice (x_var 1) (io_some ig_int) io_none)) (by show BlkOk N__law_read (defScope (top 34)) _ _; exact ⟨rfl, by decide +kernel, by decide +kernel, by decide +kernel, by decide +kernel⟩) (fun _ _ _ _ _ => (x_tg 3 sc__law_read.nd)) (fun _ _ _ _ _ => its0) (fun _ _ _ _ _ => (x_call c__law_number (hr.mono (by decide)) hg (x_ae (x_var 3) x_a0)))) ?_); exact il_nil))))))
  iss_nil))
  (iss_cons (by exact (is_if (it_w (iw_and (x_tcmp (br_eq (lt64 (Room.u65 hr))) (ig_alt (ig_path (x_psub (Room.u65 hr) (x_pv 1) ik_int)) (x_ix (Room.u65 hr) (x_var 1) ig_int)) ig_str) (iw_and1 (x_tcmp (br_eq (lt64 (Room.u65 hr))) (x_blt bc_len b_len bo_len (by refine (x_lc (x_var 1) ?_); exact il_nil)) ig_int))))
  (iss_one (by exact (x_set 2 sc__law_read.nd (ig_tup (by refine (x_lc ig_str ?_); refine (x_lc (ig_alt (ig_path (x_psub (Room.u65 hr) (x_pv 1) ik_int)) (x_ix (Room.u65 hr) (x_var 1) ig_int)) ?_); refine (x_lc (x_call c__law_number (hr.mono (by decide)) hg (x_ae (ig_alt (ig_path (x_psub (Room.u65 hr) (x_pv 1) ik_int)) (x_ix (Room.u65 hr) (x_var 1) ig_int)) x_a0)) ?_); refine (x_lc (x_call c__law_number (hr.mono (by decide)) hg (x_ae (ig_alt (ig_path (x_psub (Room.u65 hr) (x_pv 1) ik_int)) (x_ix (Room.u65 hr) (x_var 1) ig_int)) x_a0)) ?_); refine (x_lc (ig_alt (ig_path (x_psub (Room.u65 hr) (x_pv 1) ik_int)) (x_ix (Room.u65 hr) (x_var 1) ig_int)) ?_); exact il_nil)))))
  iss_nil))
  (iss_one (by exact (is_ret (ig_if (it_w (iw_and (x_tcmp br_isNot (x_var 2) ig_non) (iw_and (x_val (x_call c__law_is_frame (hr.mono (by decide)) hg (x_ae (x_var 2) x_a0))) (iw_and1 (x_tcmp (br_eq (lt64 (Room.u65 hr))) (x_call c__law_line (hr.mono (by decide)) hg (x_ae (x_var 2) x_a0)) (x_var 0)))))) (x_var 2) ig_non)))))))))
theorem sc__law_first_bad : FnScope N__law_first_bad ps__law_first_bad (defScope (top 35)) := ⟨rfl, rfl, rfl, by decide +kernel, rfl, by decide +kernel, by decide +kernel⟩
theorem w__law_first_bad (F : FunD K "_law_first_bad" "_law_first_bad" (defArgs (top 35)) (defBody (top 35)) (defScope (top 35)) [] [] f fd)
    (c__law_read : CalF P w K mg base 3 "_law_read" ps__law_read [] m__law_read) (b_enumerate : mg "enumerate" = none) :
    FnG P w K mg base 4 f fd ps__law_first_bad (spD K mg ps__law_first_bad.length m__law_first_bad) :=
  fnD_of (N := N__law_first_bad) (ps := ps__law_first_bad) (Pr := P__law_first_bad) (mb := b__law_first_bad) F sc__law_first_bad fun cdv A outer s H E hr hg =>
  (iss_cons (by exact (x_for PassesOwn.never (x_enum2 b_enumerate (by refine (x_lc (x_var 0) ?_); exact il_nil)) (it_tup rfl (its_cons (x_tg 1 sc__law_first_bad.nd) (its_cons (x_tg 2 sc__law_first_bad.nd) its_nil rfl) rfl) rfl rfl (tsCons_len (tsCons_len tsNil_len)))
  (iss_one (by exact (is_if (x_tcmp br_is (x_call c__law_read (hr.mono (by decide)) hg (x_ae (x_var 2) x_a0)) ig_non)
  (iss_one (by exact (is_ret (x_mv 1))))
  iss_nil)))))
  (iss_one (by exact (is_ret ig_non))))
theorem sc__law_told : FnScope N__law_told ps__law_told (defScope (top 37)) := ⟨rfl, rfl, rfl, by decide +kernel, rfl, by decide +kernel, by decide +kernel⟩
theorem w__law_told  (b_isinstance : mg "isinstance" = none) (b_ValueError : mg "ValueError" = none) (g_BadText : GlD K mg "BadText" (.glo "BadText")) (hEA : ExA K mg es) (xf_line : AtX K mg ["BadText"] "line") (hCT : ClsT K mg ct) (cdv : Value) (A : Around) (outer : List PySem.Env) (s : Shared) (H : Hp) (hr : Room 0 (A.deeper (envOfC "_law_told" (defScope (top 37)) s.heap.objs.size f cdv))) (hg : (A.deeper (envOfC "_law_told" (defScope (top 37)) s.heap.objs.size f cdv)).guards = some []) :
    ISs (cxOf C8.CX0 P w K mg base N__law_told "_law_told" (defScope (top 37)) f cdv A outer s H C8.E0).nox P__law_told (defBody (top 37)).tail.tail b__law_told :=
  (iss_cons (by exact (is_if (x_tcmp br_is (x_var 2) ig_non)
  (iss_one (by exact (is_ret (x_mv 1))))
  iss_nil))
  (iss_one (by exact (is_ret (ig_if (it_w (iw_and (x_val (x_blt (bc_isF hEA hCT) b_isinstance bo_isinstance (by refine (x_lc (x_var 2) ?_); refine (x_lc (x_gl g_BadText) ?_); exact il_nil))) (iw_and1 (x_val (x_isVE hEA b_isinstance b_ValueError (x_var 2)))))) (x_xf ["BadText"] (x_var 2) xf_line) ig_str)))))
theorem sc__law_word : FnScope N__law_word ps__law_word (defScope (top 27)) := ⟨rfl, rfl, rfl, by decide +kernel, rfl, by decide +kernel, by decide +kernel⟩
theorem w__law_word (F : FunD K "_law_word" "_law_word" (defArgs (top 27)) (defBody (top 27)) (defScope (top 27)) [] [] f fd)
    (c__law_take : CalF P w K mg base 2 "_law_take" ps__law_take [] m__law_take)
    (c__law_pick : CalF P w K mg base 3 "_law_pick" ps__law_pick [] m__law_pick) (b_range : mg "range" = none) :
    FnG P w K mg base 4 f fd ps__law_word (spD K mg ps__law_word.length m__law_word) :=
  fnD_of (N := N__law_word) (ps := ps__law_word) (Pr := P__law_word) (mb := b__law_word) F sc__law_word fun cdv A outer s H E hr hg =>
  (iss_cons (by exact (x_set 1 sc__law_word.nd (x_methV PySem.F.plainAttrs_str PySem.F.slot_str_split PySem.F.type_str_split bm_split ig_str (by refine (x_lc ig_str ?_); exact il_nil))))
  (iss_cons (by exact (is_if (x_tcmp br_gt (x_call c__law_take (hr.mono (by decide)) hg (x_av 0 (x_ae ig_int x_a0))) ig_int)
  (iss_one (by exact (is_ret (x_call c__law_pick (hr.mono (by decide)) hg (x_av 0 (x_ae (x_var 1) x_a0))))))
  iss_nil))
  (iss_cons (by exact (x_set 2 sc__law_word.nd ig_str))
  (iss_one (by exact (is_ret (x_methV PySem.F.plainAttrs_str PySem.F.slot_str_join PySem.F.type_str_join bm_join ig_str (by refine (x_lc (x_lcomp (own := [("_law_k", 3)]) sc__law_word.nd (x_rng1 b_range (by refine (x_lc (ig_bin br_add ig_int (x_call c__law_take (hr.mono (by decide)) hg (x_av 0 (x_ae ig_int x_a0)))) ?_); exact il_nil)) (by show BlkOk N__law_word (defScope (top 27)) _ _; exact ⟨rfl, by decide +kernel, by decide +kernel, by decide +kernel, by decide +kernel⟩) (fun _ _ _ _ _ => (x_tg 3 sc__law_word.nd)) (fun _ _ _ _ _ => its0) (fun _ _ _ _ _ => (x_call c__law_pick (hr.mono (by decide)) hg (x_av 0 (x_ae (x_var 2) x_a0))))) ?_); exact il_nil))))))))
theorem sc__law_any_frame : FnScope N__law_any_frame ps__law_any_frame (defScope (top 28)) := ⟨rfl, rfl, rfl, by decide +kernel, rfl, by decide +kernel, by decide +kernel⟩
theorem w__law_any_frame (F : FunD K "_law_any_frame" "_law_any_frame" (defArgs (top 28)) (defBody (top 28)) (defScope (top 28)) [] [] f fd)
    (c__law_word : CalF P w K mg base 4 "_law_word" ps__law_word [] m__law_word)
    (c__law_take : CalF P w K mg base 2 "_law_take" ps__law_take [] m__law_take)
    (c__law_pick : CalF P w K mg base 3 "_law_pick" ps__law_pick [] m__law_pick) (b_tuple : mg "tuple" = none) (b_range : mg "range" = none) :
    FnG P w K mg base 5 f fd ps__law_any_frame (spD K mg ps__law_any_frame.length m__law_any_frame) :=
  fnD_of (N := N__law_any_frame) (ps := ps__law_any_frame) (Pr := P__law_any_frame) (mb := b__law_any_frame) F sc__law_any_frame fun cdv A outer s H E hr hg =>
  (iss_cons (by exact (is_par3 rfl rfl rfl (ps_par3 (i := 1) (j := 2) (l := 3) rfl sc__law_any_frame.nd rfl rfl rfl (by decide) (by decide) (by decide) rfl rfl rfl pa_w rfl rfl) (by refine (x_lc (x_call c__law_word (hr.mono (by decide)) hg (x_av 0 x_a0)) ?_); refine (x_lc (ig_bin br_add ig_int (x_call c__law_take (hr.mono (by decide)) hg (x_av 0 (x_ae ig_int x_a0)))) ?_); refine (x_lc (ig_bin br_add ig_int (x_call c__law_take (hr.mono (by decide)) hg (x_av 0 (x_ae ig_int x_a0)))) ?_); exact il_nil)))
  (iss_cons (by exact (x_set 4 sc__law_any_frame.nd (x_call c__law_take (hr.mono (by decide)) hg (x_av 0 (x_ae ig_int x_a0)))))
  (iss_cons (by exact (is_if (x_tcmp (br_eq (lt64 (Room.u65 hr))) (x_var 4) ig_int)
  (iss_cons (by exact (x_set 5 sc__law_any_frame.nd (x_bty bc_tuple b_tuple bo_tuple (by refine (x_lc (x_lcomp (own := [("_law_k", 6)]) sc__law_any_frame.nd (x_rng1 b_range (by refine (x_lc (ig_bin br_add ig_int (x_call c__law_take (hr.mono (by decide)) hg (x_av 0 (x_ae ig_int x_a0)))) ?_); exact il_nil)) (by show BlkOk N__law_any_frame (defScope (top 28)) _ _; exact ⟨rfl, by decide +kernel, by decide +kernel, by decide +kernel, by decide +kernel⟩) (fun _ _ _ _ _ => (x_tg 6 sc__law_any_frame.nd)) (fun _ _ _ _ _ => its0) (fun _ _ _ _ _ => (x_call c__law_word (hr.mono (by decide)) hg (x_av 0 x_a0)))) ?_); exact il_nil))))
  (iss_one (by exact (is_ret (ig_tup (by refine (x_lc ig_str ?_); refine (x_lc (x_mv 1) ?_); refine (x_lc (x_call c__law_pick (hr.mono (by decide)) hg (x_av 0 (x_ae (ig_fz (ig_lst (by refine (x_lc ig_int ?_); refine (x_lc ig_int ?_); refine (x_lc ig_int ?_); refine (x_lc ig_int ?_); refine (x_lc (ig_bin br_pow ig_int ig_int) ?_); exact il_nil))) x_a0))) ?_); refine (x_lc (x_mv 5) ?_); exact il_nil))))))
  iss_nil))
  (iss_cons (by exact (is_if (x_tcmp (br_eq (lt64 (Room.u65 hr))) (x_var 4) ig_int)
  (iss_one (by exact (is_ret (ig_tup (by refine (x_lc ig_str ?_); refine (x_lc (x_mv 1) ?_); refine (x_lc (x_mv 2) ?_); refine (x_lc (x_mv 3) ?_); refine (x_lc (x_call c__law_take (hr.mono (by decide)) hg (x_av 0 (x_ae ig_int x_a0))) ?_); refine (x_lc (x_call c__law_pick (hr.mono (by decide)) hg (x_av 0 (x_ae (ig_fz (ig_lst (by refine (x_lc ig_int ?_); refine (x_lc ig_int ?_); refine (x_lc ig_int ?_); refine (x_lc ig_int ?_); exact il_nil))) x_a0))) ?_); exact il_nil)))))
  iss_nil))
  (iss_one (by exact (is_ret (ig_tup (by refine (x_lc ig_str ?_); refine (x_lc (x_mv 1) ?_); refine (x_lc (x_mv 2) ?_); refine (x_lc (x_mv 3) ?_); refine (x_lc (x_call c__law_pick (hr.mono (by decide)) hg (x_av 0 (x_ae (ig_fz (ig_lst (by refine (x_lc ig_str ?_); refine (x_lc ig_str ?_); exact il_nil))) x_a0))) ?_); exact il_nil)))))))))
theorem sc__law_broken_page : FnScope N__law_broken_page ps__law_broken_page (defScope (top 29)) := ⟨rfl, rfl, rfl, by decide +kernel, rfl, by decide +kernel, by decide +kernel⟩
theorem w__law_broken_page (F : FunD K "_law_broken_page" "_law_broken_page" (defArgs (top 29)) (defBody (top 29)) (defScope (top 29)) [] [] f fd)
    (c__law_take : CalF P w K mg base 2 "_law_take" ps__law_take [] m__law_take)
    (c__law_pick : CalF P w K mg base 3 "_law_pick" ps__law_pick [] m__law_pick) (b_len : mg "len" = none) :
    FnG P w K mg base 4 f fd ps__law_broken_page (spD K mg ps__law_broken_page.length m__law_broken_page) :=
  fnD_of (N := N__law_broken_page) (ps := ps__law_broken_page) (Pr := P__law_broken_page) (mb := b__law_broken_page) F sc__law_broken_page fun cdv A outer s H E hr hg =>
  (iss_cons (by exact (is_par3 rfl rfl rfl (ps_par3 (i := 2) (j := 3) (l := 4) rfl sc__law_broken_page.nd rfl rfl rfl (by decide) (by decide) (by decide) rfl rfl rfl pa_w rfl rfl) (by refine (x_lc (x_call c__law_take (hr.mono (by decide)) hg (x_av 0 (x_ae (ig_fz (ig_bin br_add (x_blt bc_len b_len bo_len (by refine (x_lc (x_var 1) ?_); exact il_nil)) ig_int)) x_a0))) ?_); refine (x_lc (x_call c__law_take (hr.mono (by decide)) hg (x_av 0 (x_ae ig_int x_a0))) ?_); refine (x_lc (x_methV PySem.F.plainAttrs_str PySem.F.slot_str_split PySem.F.type_str_split bm_split (x_var 1) (by refine (x_lc ig_str ?_); exact il_nil)) ?_); exact il_nil)))
  (iss_cons (by exact (x_set 5 sc__law_broken_page.nd (x_call c__law_take (hr.mono (by decide)) hg (x_av 0 (x_ae (x_blt bc_len b_len bo_len (by refine (x_lc (x_var 4) ?_); exact il_nil)) x_a0)))))
  (iss_cons (by exact (is_if (x_tcmp (br_eq (lt64 (Room.u65 hr))) (x_var 3) ig_int)
  (iss_one (by exact (is_ret (ig_bin br_add (ig_slice (x_var 1) io_none (io_some (x_var 2))) (ig_slice (x_var 1) (io_some (ig_bin br_add (x_var 2) ig_int)) io_none)))))
  iss_nil))
  (iss_cons (by exact (is_if (x_tcmp (br_eq (lt64 (Room.u65 hr))) (x_var 3) ig_int)
  (iss_one (by exact (is_ret (ig_bin br_add (ig_bin br_add (ig_slice (x_var 1) io_none (io_some (x_var 2))) (x_call c__law_pick (hr.mono (by decide)) hg (x_av 0 (x_ae (ig_fz (ig_lst (by refine (x_lc ig_str ?_); refine (x_lc ig_str ?_); refine (x_lc ig_str ?_); refine (x_lc ig_str ?_); refine (x_lc ig_str ?_); refine (x_lc ig_str ?_); refine (x_lc ig_str ?_); refine (x_lc ig_str ?_); exact il_nil))) x_a0)))) (ig_slice (x_var 1) (io_some (x_var 2)) io_none)))))
  iss_nil))
  (iss_cons (by exact (is_if (x_tcmp (br_eq (lt64 (Room.u65 hr))) (x_var 3) ig_int)
  (iss_one (by exact (is_ret (ig_bin br_add (ig_bin br_add (ig_slice (x_var 1) io_none (io_some (x_var 2))) (x_call c__law_pick (hr.mono (by decide)) hg (x_av 0 (x_ae (ig_fz (ig_lst (by refine (x_lc ig_str ?_); refine (x_lc ig_str ?_); refine (x_lc ig_str ?_); refine (x_lc ig_str ?_); refine (x_lc ig_str ?_); refine (x_lc ig_str ?_); exact il_nil))) x_a0)))) (ig_slice (x_var 1) (io_some (ig_bin br_add (x_var 2) ig_int)) io_none)))))
  iss_nil))
  (iss_cons (by exact (is_if (x_tcmp (br_eq (lt64 (Room.u65 hr))) (x_var 3) ig_int)
  (iss_one (by exact (is_ret (x_methV PySem.F.plainAttrs_str PySem.F.slot_str_join PySem.F.type_str_join bm_join ig_str (by refine (x_lc (ig_bin br_add (ig_slice (x_var 4) io_none (io_some (x_var 5))) (ig_slice (x_var 4) (io_some (ig_bin br_add (x_var 5) ig_int)) io_none)) ?_); exact il_nil)))))
  iss_nil))
  (iss_cons (by exact (is_if (x_tcmp (br_eq (lt64 (Room.u65 hr))) (x_var 3) ig_int)
  (iss_one (by exact (is_ret (x_methV PySem.F.plainAttrs_str PySem.F.slot_str_join PySem.F.type_str_join bm_join ig_str (by refine (x_lc (ig_bin br_add (ig_bin br_add (ig_slice (x_var 4) io_none (io_some (x_var 5))) (ig_bin br_mul (ig_slice (x_var 4) (io_some (x_var 5)) (io_some (ig_bin br_add (x_var 5) ig_int))) ig_int)) (ig_slice (x_var 4) (io_some (ig_bin br_add (x_var 5) ig_int)) io_none)) ?_); exact il_nil)))))
  iss_nil))
  (iss_one (by exact (is_ret (ig_slice (x_var 1) io_none (io_some (x_var 2)))))))))))))
theorem sc_is_number : FnScope N_is_number ps_is_number (defScope (top 5)) := ⟨rfl, rfl, rfl, by decide +kernel, rfl, by decide +kernel, by decide +kernel⟩
theorem w_is_number (F : FunD K "is_number" "is_number" (defArgs (top 5)) (defBody (top 5)) (defScope (top 5)) [] [] f fd) (b_isinstance : mg "isinstance" = none) (b_int : mg "int" = none) (b_bool : mg "bool" = none) :
    FnG P w K mg base 1 f fd ps_is_number (spD K mg ps_is_number.length m_is_number) :=
  fnD_of (N := N_is_number) (ps := ps_is_number) (Pr := P_is_number) (mb := b_is_number) F sc_is_number fun cdv A outer s H E hr hg =>
  (iss_one (by exact (is_ret (ig_and (x_blt bc_isi b_isinstance bo_isinstance (by refine (x_lc (x_var 0) ?_); refine (x_lc (x_ty .int b_int bo_int) ?_); exact il_nil)) (ig_one (ig_not (x_blt bc_isi b_isinstance bo_isinstance (by refine (x_lc (x_var 0) ?_); refine (x_lc (x_ty .bool b_bool bo_bool) ?_); exact il_nil))))))))
theorem sc_is_count : FnScope N_is_count ps_is_count (defScope (top 11)) := ⟨rfl, rfl, rfl, by decide +kernel, rfl, by decide +kernel, by decide +kernel⟩
theorem w_is_count (F : FunD K "is_count" "is_count" (defArgs (top 11)) (defBody (top 11)) (defScope (top 11)) [] [] f fd)
    (c_is_number : CalF P w K mg base 1 "is_number" ps_is_number [] m_is_number) :
    FnG P w K mg base 2 f fd ps_is_count (spD K mg ps_is_count.length m_is_count) :=
  fnD_of (N := N_is_count) (ps := ps_is_count) (Pr := P_is_count) (mb := b_is_count) F sc_is_count fun cdv A outer s H E hr hg =>
  (iss_one (by exact (is_ret (ig_and (x_call c_is_number (hr.mono (by decide)) hg (x_ae (x_var 0) x_a0)) (ig_one (x_cmp br_ge (x_var 0) (x_var 1)))))))
theorem sc_is_name : FnScope N_is_name ps_is_name (defScope (top 6)) := ⟨rfl, rfl, rfl, by decide +kernel, rfl, by decide +kernel, by decide +kernel⟩
theorem w_is_name (F : FunD K "is_name" "is_name" (defArgs (top 6)) (defBody (top 6)) (defScope (top 6)) [] [] f fd) (b_isinstance : mg "isinstance" = none) (b_str : mg "str" = none) (b_len : mg "len" = none) (b_all : mg "all" = none) (g_LETTERS : GlD K mg "LETTERS" (.str "abcdefghijklmnopqrstuvwxyz")) :
    FnG P w K mg base 1 f fd ps_is_name (spD K mg ps_is_name.length m_is_name) :=
  fnD_of (N := N_is_name) (ps := ps_is_name) (Pr := P_is_name) (mb := b_is_name) F sc_is_name fun cdv A outer s H E hr hg =>
  (iss_one (by exact (is_ret (ig_and (x_blt bc_isi b_isinstance bo_isinstance (by refine (x_lc (x_var 0) ?_); refine (x_lc (x_ty .str b_str bo_str) ?_); exact il_nil)) (ig_and (x_chain br_le br_le ig_int (x_blt bc_len b_len bo_len (by refine (x_lc (x_var 0) ?_); exact il_nil)) ig_int) (ig_one (x_blt (bc_all rfl) b_all bo_all (by refine (x_lc (x_lcompA (own := [("sign", 1)]) sc_is_name.nd (ii_any (x_var 0)) (x_pv 0) (by show BlkOk N_is_name (defScope (top 6)) _ _; exact ⟨rfl, by decide +kernel, by decide +kernel, by decide +kernel, by decide +kernel⟩) (fun _ _ _ _ _ => (x_tg 1 sc_is_name.nd)) (fun _ _ _ _ _ => its0) (fun _ _ _ _ _ => (x_cmp (br_in (Room.u65 hr)) (x_var 1) (x_gl g_LETTERS)))) ?_); exact il_nil))))))))
theorem sc_is_tell : FnScope N_is_tell ps_is_tell (defScope (top 12)) := ⟨rfl, rfl, rfl, by decide +kernel, rfl, by decide +kernel, by decide +kernel⟩
theorem w_is_tell (F : FunD K "is_tell" "is_tell" (defArgs (top 12)) (defBody (top 12)) (defScope (top 12)) [] [] f fd)
    (c_is_count : CalF P w K mg base 2 "is_count" ps_is_count [] m_is_count)
    (c_is_name : CalF P w K mg base 1 "is_name" ps_is_name [] m_is_name) (b_len : mg "len" = none) (b_isinstance : mg "isinstance" = none) (b_tuple : mg "tuple" = none) (b_all : mg "all" = none) :
    FnG P w K mg base 3 f fd ps_is_tell (spD K mg ps_is_tell.length m_is_tell) :=
  fnD_of (N := N_is_tell) (ps := ps_is_tell) (Pr := P_is_tell) (mb := b_is_tell) F sc_is_tell fun cdv A outer s H E hr hg =>
  (iss_cons (by exact (is_if (it_w (iw_or (x_tcmp (br_ne (lt64 (Room.u65 hr))) (x_blt bc_len b_len bo_len (by refine (x_lc (x_var 0) ?_); exact il_nil)) ig_int) (iw_or (it_not (x_val (x_call c_is_count (hr.mono (by decide)) hg (x_ae (ig_alt (ig_path (x_psub (Room.u65 hr) (x_pv 0) ik_int)) (x_ix (Room.u65 hr) (x_var 0) ig_int)) (x_ae ig_int x_a0))))) (iw_or1 (it_not (x_val (x_blt bc_isi b_isinstance bo_isinstance (by refine (x_lc (ig_alt (ig_path (x_psub (Room.u65 hr) (x_pv 0) ik_int)) (x_ix (Room.u65 hr) (x_var 0) ig_int)) ?_); refine (x_lc (x_ty .tup b_tuple bo_tuple) ?_); exact il_nil))))))))
  (iss_one (by exact (is_ret ig_bl)))
  iss_nil))
  (iss_one (by exact (is_ret (ig_and (x_chain br_le br_le ig_int (x_blt bc_len b_len bo_len (by refine (x_lc (ig_alt (ig_path (x_psub (Room.u65 hr) (x_pv 0) ik_int)) (x_ix (Room.u65 hr) (x_var 0) ig_int)) ?_); exact il_nil)) ig_int) (ig_one (x_blt (bc_all rfl) b_all bo_all (by refine (x_lc (x_lcompA (own := [("value", 1)]) sc_is_tell.nd (ii_any (ig_alt (ig_path (x_psub (Room.u65 hr) (x_pv 0) ik_int)) (x_ix (Room.u65 hr) (x_var 0) ig_int))) (x_psub (Room.u65 hr) (x_pv 0) ik_int) (by show BlkOk N_is_tell (defScope (top 12)) _ _; exact ⟨rfl, by decide +kernel, by decide +kernel, by decide +kernel, by decide +kernel⟩) (fun _ _ _ _ _ => (x_tg 1 sc_is_tell.nd)) (fun _ _ _ _ _ => its0) (fun _ _ _ _ _ => (x_call c_is_name (hr.mono (by decide)) hg (x_ae (x_var 1) x_a0)))) ?_); exact il_nil))))))))
theorem sc_is_ask : FnScope N_is_ask ps_is_ask (defScope (top 13)) := ⟨rfl, rfl, rfl, by decide +kernel, rfl, by decide +kernel, by decide +kernel⟩
theorem w_is_ask (F : FunD K "is_ask" "is_ask" (defArgs (top 13)) (defBody (top 13)) (defScope (top 13)) [] [] f fd)
    (c_is_count : CalF P w K mg base 2 "is_count" ps_is_count [] m_is_count) (b_len : mg "len" = none) (g_MOST_RULE : GlD K mg "MOST_RULE" (.int 5)) :
    FnG P w K mg base 3 f fd ps_is_ask (spD K mg ps_is_ask.length m_is_ask) :=
  fnD_of (N := N_is_ask) (ps := ps_is_ask) (Pr := P_is_ask) (mb := b_is_ask) F sc_is_ask fun cdv A outer s H E hr hg =>
  (iss_cons (by exact (is_if (it_w (iw_or (x_tcmp (br_ne (lt64 (Room.u65 hr))) (x_blt bc_len b_len bo_len (by refine (x_lc (x_var 0) ?_); exact il_nil)) ig_int) (iw_or (it_not (x_val (x_call c_is_count (hr.mono (by decide)) hg (x_ae (ig_alt (ig_path (x_psub (Room.u65 hr) (x_pv 0) ik_int)) (x_ix (Room.u65 hr) (x_var 0) ig_int)) (x_ae ig_int x_a0))))) (iw_or1 (it_not (x_val (x_call c_is_count (hr.mono (by decide)) hg (x_ae (ig_alt (ig_path (x_psub (Room.u65 hr) (x_pv 0) ik_int)) (x_ix (Room.u65 hr) (x_var 0) ig_int)) (x_ae ig_int x_a0)))))))))
  (iss_one (by exact (is_ret ig_bl)))
  iss_nil))
  (iss_one (by exact (is_ret (ig_and (x_call c_is_count (hr.mono (by decide)) hg (x_ae (ig_alt (ig_path (x_psub (Room.u65 hr) (x_pv 0) ik_int)) (x_ix (Room.u65 hr) (x_var 0) ig_int)) (x_ae ig_int x_a0))) (ig_and (x_cmp br_le (ig_alt (ig_path (x_psub (Room.u65 hr) (x_pv 0) ik_int)) (x_ix (Room.u65 hr) (x_var 0) ig_int)) (x_gl g_MOST_RULE)) (ig_one (x_call c_is_count (hr.mono (by decide)) hg (x_ae (ig_alt (ig_path (x_psub (Room.u65 hr) (x_pv 0) ik_int)) (x_ix (Room.u65 hr) (x_var 0) ig_int)) (x_ae ig_int x_a0))))))))))
theorem sc_is_told : FnScope N_is_told ps_is_told (defScope (top 14)) := ⟨rfl, rfl, rfl, by decide +kernel, rfl, by decide +kernel, by decide +kernel⟩
theorem w_is_told (F : FunD K "is_told" "is_told" (defArgs (top 14)) (defBody (top 14)) (defScope (top 14)) [] [] f fd)
    (c_is_count : CalF P w K mg base 2 "is_count" ps_is_count [] m_is_count) (b_len : mg "len" = none) (b_isinstance : mg "isinstance" = none) (b_str : mg "str" = none) (g_WORDS : GlD K mg "WORDS" (.tup [(.str "landed"), (.str "left")])) :
    FnG P w K mg base 3 f fd ps_is_told (spD K mg ps_is_told.length m_is_told) :=
  fnD_of (N := N_is_told) (ps := ps_is_told) (Pr := P_is_told) (mb := b_is_told) F sc_is_told fun cdv A outer s H E hr hg =>
  (iss_cons (by exact (is_if (it_w (iw_or (x_tcmp (br_ne (lt64 (Room.u65 hr))) (x_blt bc_len b_len bo_len (by refine (x_lc (x_var 0) ?_); exact il_nil)) ig_int) (iw_or (it_not (x_val (x_call c_is_count (hr.mono (by decide)) hg (x_ae (ig_alt (ig_path (x_psub (Room.u65 hr) (x_pv 0) ik_int)) (x_ix (Room.u65 hr) (x_var 0) ig_int)) (x_ae ig_int x_a0))))) (iw_or1 (it_not (x_val (x_call c_is_count (hr.mono (by decide)) hg (x_ae (ig_alt (ig_path (x_psub (Room.u65 hr) (x_pv 0) ik_int)) (x_ix (Room.u65 hr) (x_var 0) ig_int)) (x_ae ig_int x_a0)))))))))
  (iss_one (by exact (is_ret ig_bl)))
  iss_nil))
  (iss_one (by exact (is_ret (ig_and (x_blt bc_isi b_isinstance bo_isinstance (by refine (x_lc (ig_alt (ig_path (x_psub (Room.u65 hr) (x_pv 0) ik_int)) (x_ix (Room.u65 hr) (x_var 0) ig_int)) ?_); refine (x_lc (x_ty .str b_str bo_str) ?_); exact il_nil)) (ig_one (x_cmp (br_in (Room.u65 hr)) (ig_alt (ig_path (x_psub (Room.u65 hr) (x_pv 0) ik_int)) (x_ix (Room.u65 hr) (x_var 0) ig_int)) (x_gl g_WORDS))))))))
theorem sc_is_frame : FnScope N_is_frame ps_is_frame (defScope (top 15)) := ⟨rfl, rfl, rfl, by decide +kernel, rfl, by decide +kernel, by decide +kernel⟩
theorem w_is_frame (F : FunD K "is_frame" "is_frame" (defArgs (top 15)) (defBody (top 15)) (defScope (top 15)) [] [] f fd)
    (c_is_name : CalF P w K mg base 1 "is_name" ps_is_name [] m_is_name)
    (c_is_tell : CalF P w K mg base 3 "is_tell" ps_is_tell [] m_is_tell)
    (c_is_ask : CalF P w K mg base 3 "is_ask" ps_is_ask [] m_is_ask)
    (c_is_told : CalF P w K mg base 3 "is_told" ps_is_told [] m_is_told) (b_isinstance : mg "isinstance" = none) (b_tuple : mg "tuple" = none) (b_len : mg "len" = none) (b_str : mg "str" = none) :
    FnG P w K mg base 4 f fd ps_is_frame (spD K mg ps_is_frame.length m_is_frame) :=
  fnD_of (N := N_is_frame) (ps := ps_is_frame) (Pr := P_is_frame) (mb := b_is_frame) F sc_is_frame fun cdv A outer s H E hr hg =>
  (iss_cons (by exact (is_if (it_w (iw_or (it_not (x_val (x_blt bc_isi b_isinstance bo_isinstance (by refine (x_lc (x_var 0) ?_); refine (x_lc (x_ty .tup b_tuple bo_tuple) ?_); exact il_nil)))) (iw_or (x_tcmp br_lt (x_blt bc_len b_len bo_len (by refine (x_lc (x_var 0) ?_); exact il_nil)) ig_int) (iw_or (it_not (x_val (x_blt bc_isi b_isinstance bo_isinstance (by refine (x_lc (ig_alt (ig_path (x_psub (Room.u65 hr) (x_pv 0) ik_int)) (x_ix (Room.u65 hr) (x_var 0) ig_int)) ?_); refine (x_lc (x_ty .str b_str bo_str) ?_); exact il_nil)))) (iw_or1 (it_not (x_val (x_call c_is_name (hr.mono (by decide)) hg (x_ae (ig_alt (ig_path (x_psub (Room.u65 hr) (x_pv 0) ik_int)) (x_ix (Room.u65 hr) (x_var 0) ig_int)) x_a0)))))))))
  (iss_one (by exact (is_ret ig_bl)))
  iss_nil))
  (iss_cons (by exact (is_if (x_tcmp (br_eq (lt64 (Room.u65 hr))) (ig_alt (ig_path (x_psub (Room.u65 hr) (x_pv 0) ik_int)) (x_ix (Room.u65 hr) (x_var 0) ig_int)) ig_str)
  (iss_one (by exact (is_ret (x_call c_is_tell (hr.mono (by decide)) hg (x_ae (x_var 0) x_a0)))))
  iss_nil))
  (iss_cons (by exact (is_if (x_tcmp (br_eq (lt64 (Room.u65 hr))) (ig_alt (ig_path (x_psub (Room.u65 hr) (x_pv 0) ik_int)) (x_ix (Room.u65 hr) (x_var 0) ig_int)) ig_str)
  (iss_one (by exact (is_ret (x_call c_is_ask (hr.mono (by decide)) hg (x_ae (x_var 0) x_a0)))))
  iss_nil))
  (iss_one (by exact (is_ret (ig_and (x_cmp (br_eq (lt64 (Room.u65 hr))) (ig_alt (ig_path (x_psub (Room.u65 hr) (x_pv 0) ik_int)) (x_ix (Room.u65 hr) (x_var 0) ig_int)) ig_str) (ig_one (x_call c_is_told (hr.mono (by decide)) hg (x_ae (x_var 0) x_a0))))))))))
theorem sc_number_in : FnScope N_number_in ps_number_in (defScope (top 16)) := ⟨rfl, rfl, rfl, by decide +kernel, rfl, by decide +kernel, by decide +kernel⟩
theorem w_number_in (F : FunD K "number_in" "number_in" (defArgs (top 16)) (defBody (top 16)) (defScope (top 16)) [] [] f fd) (b_all : mg "all" = none) (b_int : mg "int" = none) (g_FIGURES : GlD K mg "FIGURES" (.str "0123456789")) :
    FnG P w K mg base 1 f fd ps_number_in (spD K mg ps_number_in.length m_number_in) :=
  fnD_of (N := N_number_in) (ps := ps_number_in) (Pr := P_number_in) (mb := b_number_in) F sc_number_in fun cdv A outer s H E hr hg =>
  (iss_cons (by exact (is_if (it_w (iw_or (x_tcmp (br_eq (lt64 (Room.u65 hr))) (x_var 0) ig_str) (iw_or (it_not (x_val (x_blt (bc_all rfl) b_all bo_all (by refine (x_lc (x_lcompA (own := [("sign", 1)]) sc_number_in.nd (ii_any (x_var 0)) (x_pv 0) (by show BlkOk N_number_in (defScope (top 16)) _ _; exact ⟨rfl, by decide +kernel, by decide +kernel, by decide +kernel, by decide +kernel⟩) (fun _ _ _ _ _ => (x_tg 1 sc_number_in.nd)) (fun _ _ _ _ _ => its0) (fun _ _ _ _ _ => (x_cmp (br_in (Room.u65 hr)) (x_var 1) (x_gl g_FIGURES)))) ?_); exact il_nil)))) (iw_or1 (it_w (iw_and (x_tcmp (br_eq (lt64 (Room.u65 hr))) (ig_alt (ig_path (x_psub (Room.u65 hr) (x_pv 0) ik_int)) (x_ix (Room.u65 hr) (x_var 0) ig_int)) ig_str) (iw_and1 (x_tcmp (br_ne (lt64 (Room.u65 hr))) (x_var 0) ig_str))))))))
  (iss_one (by exact (is_ret ig_non)))
  iss_nil))
  (iss_one (by exact (is_ret (x_bty bc_int2 b_int bo_int (by refine (x_lc (x_var 0) ?_); exact il_nil))))))
theorem sc_frame_in : FnScope N_frame_in ps_frame_in (defScope (top 17)) := ⟨rfl, rfl, rfl, by decide +kernel, rfl, by decide +kernel, by decide +kernel⟩
theorem w_frame_in (F : FunD K "frame_in" "frame_in" (defArgs (top 17)) (defBody (top 17)) (defScope (top 17)) [] [] f fd)
    (c_number_in : CalF P w K mg base 1 "number_in" ps_number_in [] m_number_in)
    (c_is_frame : CalF P w K mg base 4 "is_frame" ps_is_frame [] m_is_frame) (b_len : mg "len" = none) (b_tuple : mg "tuple" = none) :
    FnG P w K mg base 5 f fd ps_frame_in (spD K mg ps_frame_in.length m_frame_in) :=
  fnD_of (N := N_frame_in) (ps := ps_frame_in) (Pr := P_frame_in) (mb := b_frame_in) F sc_frame_in fun cdv A outer s H E hr hg =>
  (iss_cons (by exact (x_set 1 sc_frame_in.nd (x_methV PySem.F.plainAttrs_str PySem.F.slot_str_split PySem.F.type_str_split bm_split (x_var 0) (by refine (x_lc ig_str ?_); exact il_nil))))
  (iss_cons (by exact (is_if (x_tcmp br_lt (x_blt bc_len b_len bo_len (by refine (x_lc (x_var 1) ?_); exact il_nil)) ig_int)
  (iss_one (by exact (is_ret ig_non)))
  iss_nil))
  (iss_cons (by exact (is_if (x_tcmp (br_eq (lt64 (Room.u65 hr))) (ig_alt (ig_path (x_psub (Room.u65 hr) (x_pv 1) ik_int)) (x_ix (Room.u65 hr) (x_var 1) ig_int)) ig_str)
  (iss_one (by exact (x_set 2 sc_frame_in.nd (ig_bin br_add (ig_tup (by refine (x_lc (ig_alt (ig_path (x_psub (Room.u65 hr) (x_pv 1) ik_int)) (x_ix (Room.u65 hr) (x_var 1) ig_int)) ?_); refine (x_lc (ig_alt (ig_path (x_psub (Room.u65 hr) (x_pv 1) ik_int)) (x_ix (Room.u65 hr) (x_var 1) ig_int)) ?_); refine (x_lc (x_call c_number_in (hr.mono (by decide)) hg (x_ae (ig_alt (ig_path (x_psub (Room.u65 hr) (x_pv 1) ik_int)) (x_ix (Room.u65 hr) (x_var 1) ig_int)) x_a0)) ?_); refine (x_lc (x_bty bc_tuple b_tuple bo_tuple (by refine (x_lc (x_methV PySem.F.plainAttrs_str PySem.F.slot_str_split PySem.F.type_str_split bm_split (ig_alt (ig_path (x_psub (Room.u65 hr) (x_pv 1) ik_int)) (x_ix (Room.u65 hr) (x_var 1) ig_int)) (by refine (x_lc ig_str ?_); exact il_nil)) ?_); exact il_nil)) ?_); exact il_nil)) (x_bty bc_tuple b_tuple bo_tuple (by refine (x_lc (ig_slice (x_var 1) (io_some ig_int) io_none) ?_); exact il_nil))))))
  (iss_one (by exact (is_if (x_tcmp (br_eq (lt64 (Room.u65 hr))) (ig_alt (ig_path (x_psub (Room.u65 hr) (x_pv 1) ik_int)) (x_ix (Room.u65 hr) (x_var 1) ig_int)) ig_str)
  (iss_one (by exact (x_set 2 sc_frame_in.nd (ig_bin br_add (x_bty bc_tuple b_tuple bo_tuple (by refine (x_lc (ig_slice (x_var 1) io_none (io_some ig_int)) ?_); exact il_nil)) (x_bty bc_tuple b_tuple bo_tuple (by refine (x_lc (x_lcomp (own := [("word", 3)]) sc_frame_in.nd (ii_any (ig_slice (x_var 1) (io_some ig_int) io_none)) (by show BlkOk N_frame_in (defScope (top 17)) _ _; exact ⟨rfl, by decide +kernel, by decide +kernel, by decide +kernel, by decide +kernel⟩) (fun _ _ _ _ _ => (x_tg 3 sc_frame_in.nd)) (fun _ _ _ _ _ => its0) (fun _ _ _ _ _ => (x_call c_number_in (hr.mono (by decide)) hg (x_ae (x_var 3) x_a0)))) ?_); exact il_nil))))))
  (iss_one (by exact (x_set 2 sc_frame_in.nd (ig_bin br_add (ig_bin br_add (x_bty bc_tuple b_tuple bo_tuple (by refine (x_lc (ig_slice (x_var 1) io_none (io_some ig_int)) ?_); exact il_nil)) (x_bty bc_tuple b_tuple bo_tuple (by refine (x_lc (x_lcomp (own := [("word", 3)]) sc_frame_in.nd (ii_any (ig_slice (x_var 1) (io_some ig_int) (io_some ig_int))) (by show BlkOk N_frame_in (defScope (top 17)) _ _; exact ⟨rfl, by decide +kernel, by decide +kernel, by decide +kernel, by decide +kernel⟩) (fun _ _ _ _ _ => (x_tg 3 sc_frame_in.nd)) (fun _ _ _ _ _ => its0) (fun _ _ _ _ _ => (x_call c_number_in (hr.mono (by decide)) hg (x_ae (x_var 3) x_a0)))) ?_); exact il_nil))) (x_bty bc_tuple b_tuple bo_tuple (by refine (x_lc (ig_slice (x_var 1) (io_some ig_int) io_none) ?_); exact il_nil)))))))))))
  (iss_one (by exact (is_ret (ig_if (x_val (x_call c_is_frame (hr.mono (by decide)) hg (x_ae (x_var 2) x_a0))) (x_var 2) ig_non)))))))
theorem sc_cut_text : FnScope N_cut_text ps_cut_text (defScope (top 18)) := ⟨rfl, rfl, rfl, by decide +kernel, rfl, by decide +kernel, by decide +kernel⟩
theorem w_cut_text (F : FunD K "cut_text" "cut_text" (defArgs (top 18)) (defBody (top 18)) (defScope (top 18)) [] [] f fd)
    (c_frame_in : CalF P w K mg base 5 "frame_in" ps_frame_in [] m_frame_in) (b_isinstance : mg "isinstance" = none) (b_str : mg "str" = none) (b_enumerate : mg "enumerate" = none)
    (e_BadText : CalE P w K mg base 2 "BadText" "line" "line") :
    FnG P w K mg base 6 f fd ps_cut_text (spD K mg ps_cut_text.length m_cut_text) :=
  fnD_of (N := N_cut_text) (ps := ps_cut_text) (Pr := P_cut_text) (mb := b_cut_text) F sc_cut_text fun cdv A outer s H E hr hg =>
  (iss_cons (by exact (is_if (it_not (x_val (x_blt bc_isi b_isinstance bo_isinstance (by refine (x_lc (x_var 0) ?_); refine (x_lc (x_ty .str b_str bo_str) ?_); exact il_nil))))
  (iss_one (by exact is_stuck))
  iss_nil))
  (iss_cons (by exact (x_set 1 sc_cut_text.nd (x_methV PySem.F.plainAttrs_str PySem.F.slot_str_split PySem.F.type_str_split bm_split (x_var 0) (by refine (x_lc ig_str ?_); exact il_nil))))
  (iss_cons (by exact (x_set 2 sc_cut_text.nd (ig_lst (by exact il_nil))))
  (iss_cons (by exact (x_for PassesOwn.never (x_enum2 b_enumerate (by refine (x_lc (ig_slice (x_var 1) io_none (io_some (ig_neg ig_int))) ?_); exact il_nil)) (it_tup rfl (its_cons (x_tg 3 sc_cut_text.nd) (its_cons (x_tg 4 sc_cut_text.nd) its_nil rfl) rfl) rfl rfl (tsCons_len (tsCons_len tsNil_len)))
  (iss_cons (by exact (x_set 5 sc_cut_text.nd (x_call c_frame_in (hr.mono (by decide)) hg (x_ae (x_var 4) x_a0))))
  (iss_cons (by exact (is_if (x_tcmp br_is (x_var 5) ig_non)
  (iss_one (by exact is_stuck))
  iss_nil))
  (iss_one (by exact (x_expr (x_meth 2 PySem.F.plainAttrs_list PySem.F.slot_list_append PySem.F.type_list_append mb_append (by refine (x_lc (x_var 5) ?_); exact il_nil)))))))))
  (iss_one (by exact (is_ret (ig_tup (by refine (x_lc (x_mv 2) ?_); refine (x_lc (ig_alt (ig_path (x_psub (Room.u65 hr) (x_pv 1) (ik_pur [] (ig_neg ig_int)))) (x_ix (Room.u65 hr) (x_var 1) (ig_neg ig_int))) ?_); exact il_nil)))))))))
theorem wx_cut_text (F : FunD K "cut_text" "cut_text" (defArgs (top 18)) (defBody (top 18)) (defScope (top 18)) [] [] f fd)
    (c_frame_in : CalF P w K mg base 5 "frame_in" ps_frame_in [] m_frame_in) (b_isinstance : mg "isinstance" = none) (b_str : mg "str" = none) (b_enumerate : mg "enumerate" = none)
    (e_BadText : CalE P w K mg base 2 "BadText" "line" "line") :
    FnX P w K mg base 6 f fd ps_cut_text (spX K mg ps_cut_text.length m_cut_text x_cut_text) :=
  fnX_of (N := N_cut_text) (ps := ps_cut_text) (Pr := P_cut_text) (mb := b_cut_text) (xb := xb_cut_text) F sc_cut_text fun cdv A outer s H E hr hg =>
  ⟨(iss_cons (by exact (is_if (it_not (x_val (x_blt bc_isi b_isinstance bo_isinstance (by refine (x_lc (x_var 0) ?_); refine (x_lc (x_ty .str b_str bo_str) ?_); exact il_nil))))
  (iss_one (by exact is_stuck))
  iss_nil))
  (iss_cons (by exact (x_set 1 sc_cut_text.nd (x_methV PySem.F.plainAttrs_str PySem.F.slot_str_split PySem.F.type_str_split bm_split (x_var 0) (by refine (x_lc ig_str ?_); exact il_nil))))
  (iss_cons (by exact (x_set 2 sc_cut_text.nd (ig_lst (by exact il_nil))))
  (iss_cons (by exact (x_for (passes_of rfl) (x_enum2 b_enumerate (by refine (x_lc (ig_slice (x_var 1) io_none (io_some (ig_neg ig_int))) ?_); exact il_nil)) (it_tup rfl (its_cons (x_tg 3 sc_cut_text.nd) (its_cons (x_tg 4 sc_cut_text.nd) its_nil rfl) rfl) rfl rfl (tsCons_len (tsCons_len tsNil_len)))
  (iss_cons (by exact (x_set 5 sc_cut_text.nd (x_call c_frame_in (hr.mono (by decide)) hg (x_ae (x_var 4) x_a0))))
  (iss_cons (by exact (is_if (x_tcmp br_is (x_var 5) ig_non)
  (iss_one (by exact is_stuck))
  iss_nil))
  (iss_one (by exact (x_expr (x_meth 2 PySem.F.plainAttrs_list PySem.F.slot_list_append PySem.F.type_list_append mb_append (by refine (x_lc (x_var 5) ?_); exact il_nil)))))))))
  (iss_one (by exact (is_ret (ig_tup (by refine (x_lc (x_mv 2) ?_); refine (x_lc (ig_alt (ig_path (x_psub (Room.u65 hr) (x_pv 1) (ik_pur [] (ig_neg ig_int)))) (x_ix (Room.u65 hr) (x_var 1) (ig_neg ig_int))) ?_); exact il_nil))))))))),
  (xss_cons (P := P_cut_text) (by exact (is_if (it_not (x_val (x_blt bc_isi b_isinstance bo_isinstance (by refine (x_lc (x_var 0) ?_); refine (x_lc (x_ty .str b_str bo_str) ?_); exact il_nil))))
  (iss_one (by exact is_stuck))
  iss_nil)) (by exact (xs_if (it_not (x_val (x_blt bc_isi b_isinstance bo_isinstance (by refine (x_lc (x_var 0) ?_); refine (x_lc (x_ty .str b_str bo_str) ?_); exact il_nil)))) (xss_one (xx_raise1 e_BadText (hr.mono (by decide)) ig_int)) xss_no))
  (xss_cons (P := P_cut_text) (by exact (x_set 1 sc_cut_text.nd (x_methV PySem.F.plainAttrs_str PySem.F.slot_str_split PySem.F.type_str_split bm_split (x_var 0) (by refine (x_lc ig_str ?_); exact il_nil)))) (by exact xs_no)
  (xss_cons (P := P_cut_text) (by exact (x_set 2 sc_cut_text.nd (ig_lst (by exact il_nil)))) (by exact xs_no)
  (xss_cons (P := P_cut_text) (by exact (x_for (passes_of rfl) (x_enum2 b_enumerate (by refine (x_lc (ig_slice (x_var 1) io_none (io_some (ig_neg ig_int))) ?_); exact il_nil)) (it_tup rfl (its_cons (x_tg 3 sc_cut_text.nd) (its_cons (x_tg 4 sc_cut_text.nd) its_nil rfl) rfl) rfl rfl (tsCons_len (tsCons_len tsNil_len)))
  (iss_cons (by exact (x_set 5 sc_cut_text.nd (x_call c_frame_in (hr.mono (by decide)) hg (x_ae (x_var 4) x_a0))))
  (iss_cons (by exact (is_if (x_tcmp br_is (x_var 5) ig_non)
  (iss_one (by exact is_stuck))
  iss_nil))
  (iss_one (by exact (x_expr (x_meth 2 PySem.F.plainAttrs_list PySem.F.slot_list_append PySem.F.type_list_append mb_append (by refine (x_lc (x_var 5) ?_); exact il_nil))))))))) (by exact (xs_for (passes_of rfl) rfl (x_enum2 b_enumerate (by refine (x_lc (ig_slice (x_var 1) io_none (io_some (ig_neg ig_int))) ?_); exact il_nil)) (it_tup rfl (its_cons (x_tg 3 sc_cut_text.nd) (its_cons (x_tg 4 sc_cut_text.nd) its_nil rfl) rfl) rfl rfl (tsCons_len (tsCons_len tsNil_len))) (P := P_cut_text) (by exact (iss_cons (by exact (x_set 5 sc_cut_text.nd (x_call c_frame_in (hr.mono (by decide)) hg (x_ae (x_var 4) x_a0))))
  (iss_cons (by exact (is_if (x_tcmp br_is (x_var 5) ig_non)
  (iss_one (by exact is_stuck))
  iss_nil))
  (iss_one (by exact (x_expr (x_meth 2 PySem.F.plainAttrs_list PySem.F.slot_list_append PySem.F.type_list_append mb_append (by refine (x_lc (x_var 5) ?_); exact il_nil)))))))) (by exact (xss_cons (P := P_cut_text) (by exact (x_set 5 sc_cut_text.nd (x_call c_frame_in (hr.mono (by decide)) hg (x_ae (x_var 4) x_a0)))) (by exact xs_no)
  (xss_cons (P := P_cut_text) (by exact (is_if (x_tcmp br_is (x_var 5) ig_non)
  (iss_one (by exact is_stuck))
  iss_nil)) (by exact (xs_if (x_tcmp br_is (x_var 5) ig_non) (xss_one (xx_raise1 e_BadText (hr.mono (by decide)) (x_var 3))) xss_no))
  xss_no))) (fun _ => rfl)))
  xss_no))))⟩
theorem sc_read_frames : FnScope N_read_frames ps_read_frames (defScope (top 19)) := ⟨rfl, rfl, rfl, by decide +kernel, rfl, by decide +kernel, by decide +kernel⟩
theorem w_read_frames (F : FunD K "read_frames" "read_frames" (defArgs (top 19)) (defBody (top 19)) (defScope (top 19)) [] [] f fd)
    (c_cut_text : CalF P w K mg base 6 "cut_text" ps_cut_text [] m_cut_text) (b_len : mg "len" = none)
    (xc_cut_text : CalXF P w K mg base 6 "cut_text" ps_cut_text m_cut_text x_cut_text)
    (e_BadText : CalE P w K mg base 2 "BadText" "line" "line") :
    FnG P w K mg base 7 f fd ps_read_frames (spD K mg ps_read_frames.length m_read_frames) :=
  fnD_of (N := N_read_frames) (ps := ps_read_frames) (Pr := P_read_frames) (mb := b_read_frames) F sc_read_frames fun cdv A outer s H E hr hg =>
  (iss_cons (by exact (is_asg (x_call c_cut_text (hr.mono (by decide)) hg (x_ae (x_var 0) x_a0)) (it_tup rfl (its_cons (x_tg 1 sc_read_frames.nd) (its_cons (x_tg 2 sc_read_frames.nd) its_nil rfl) rfl) rfl rfl (tsCons_len (tsCons_len tsNil_len))) (by decide) rfl rfl rfl))
  (iss_cons (by exact (is_if (x_tcmp (br_ne (lt64 (Room.u65 hr))) (x_var 2) ig_str)
  (iss_one (by exact is_stuck))
  iss_nil))
  (iss_one (by exact (is_ret (x_mv 1))))))
theorem wx_read_frames (F : FunD K "read_frames" "read_frames" (defArgs (top 19)) (defBody (top 19)) (defScope (top 19)) [] [] f fd)
    (c_cut_text : CalF P w K mg base 6 "cut_text" ps_cut_text [] m_cut_text) (b_len : mg "len" = none)
    (xc_cut_text : CalXF P w K mg base 6 "cut_text" ps_cut_text m_cut_text x_cut_text)
    (e_BadText : CalE P w K mg base 2 "BadText" "line" "line") :
    FnX P w K mg base 7 f fd ps_read_frames (spX K mg ps_read_frames.length m_read_frames x_read_frames) :=
  fnX_of (N := N_read_frames) (ps := ps_read_frames) (Pr := P_read_frames) (mb := b_read_frames) (xb := xb_read_frames) F sc_read_frames fun cdv A outer s H E hr hg =>
  ⟨(iss_cons (by exact (is_asg (x_call c_cut_text (hr.mono (by decide)) hg (x_ae (x_var 0) x_a0)) (it_tup rfl (its_cons (x_tg 1 sc_read_frames.nd) (its_cons (x_tg 2 sc_read_frames.nd) its_nil rfl) rfl) rfl rfl (tsCons_len (tsCons_len tsNil_len))) (by decide) rfl rfl rfl))
  (iss_cons (by exact (is_if (x_tcmp (br_ne (lt64 (Room.u65 hr))) (x_var 2) ig_str)
  (iss_one (by exact is_stuck))
  iss_nil))
  (iss_one (by exact (is_ret (x_mv 1)))))),
  (xss_cons (P := P_read_frames) (by exact (is_asg (x_call c_cut_text (hr.mono (by decide)) hg (x_ae (x_var 0) x_a0)) (it_tup rfl (its_cons (x_tg 1 sc_read_frames.nd) (its_cons (x_tg 2 sc_read_frames.nd) its_nil rfl) rfl) rfl rfl (tsCons_len (tsCons_len tsNil_len))) (by decide) rfl rfl rfl)) (by exact (xs_asg (xx_call xc_cut_text (hr.mono (by decide)) hg (x_ae (x_var 0) x_a0))))
  (xss_cons (P := P_read_frames) (by exact (is_if (x_tcmp (br_ne (lt64 (Room.u65 hr))) (x_var 2) ig_str)
  (iss_one (by exact is_stuck))
  iss_nil)) (by exact (xs_if (x_tcmp (br_ne (lt64 (Room.u65 hr))) (x_var 2) ig_str) (xss_one (xx_raise1 e_BadText (hr.mono (by decide)) (x_blt bc_len b_len bo_len (by refine (x_lc (x_var 1) ?_); exact il_nil)))) xss_no))
  xss_no))⟩
theorem sc_law : FnScope N_law ps_law (defScope (top 38)) := ⟨rfl, rfl, rfl, by decide +kernel, rfl, by decide +kernel, by decide +kernel⟩
theorem w_law {c T : Addr} (F : FunD K "law" "law" (defArgs (top 38)) (defBody (top 38)) (defScope (top 38)) [] [] f fd) (hc : fd.code = .ref c)
    (c__law_begun : CalF P w K mg base 1 "_law_begun" ps__law_begun [] m__law_begun)
    (c__law_page : CalF P w K mg base 2 "_law_page" ps__law_page [] m__law_page)
    (c__law_take : CalF P w K mg base 2 "_law_take" ps__law_take [] m__law_take)
    (c__law_any_frame : CalF P w K mg base 5 "_law_any_frame" ps__law_any_frame [] m__law_any_frame)
    (c__law_broken_page : CalF P w K mg base 4 "_law_broken_page" ps__law_broken_page [] m__law_broken_page)
    (c__law_first_bad : CalF P w K mg base 4 "_law_first_bad" ps__law_first_bad [] m__law_first_bad)
    (c__law_read : CalF P w K mg base 3 "_law_read" ps__law_read [] m__law_read)
    (c_cut_text : CalF P w K mg base 6 "cut_text" ps_cut_text [] m_cut_text)
    (c_read_frames : CalF P w K mg base 7 "read_frames" ps_read_frames [] m_read_frames)
    (c__law_pick : CalF P w K mg base 3 "_law_pick" ps__law_pick [] m__law_pick)
    (td__law_told : ToldD P w K mg base 0 "_law_told" "_law_caught" "_law_told" "_law_told.<locals>.<lambda>" 0 b__law_told) (b_range : mg "range" = none) (b_min : mg "min" = none) (b_len : mg "len" = none) (b_repr : mg "repr" = none)
    (xc_cut_text : CalXF P w K mg base 6 "cut_text" ps_cut_text m_cut_text x_cut_text)
    (xc_read_frames : CalXF P w K mg base 7 "read_frames" ps_read_frames m_read_frames x_read_frames) (hCat : CatchD K mg "_law_caught" "FarError") (hCaT : CatT K mg "FarError" es) (TB : TabB base mg c T) (hTK : TabK K mg "law" T) (hS : SysD K) :
    FnG P w K mg base 12 f fd ps_law (spH K mg 2 ps_law.length m_law) :=
  fnD_ofH (N := N_law) (ps := ps_law) (Pr := P_law) (mb := b_law) (nt := 2) F sc_law hc (fun j hj => by
    match j, hj with
    | 0, _ => exact ⟨"<table of law>", rfl, by unfold L2.Vis; decide +kernel⟩
    | 1, _ => exact ⟨"<table of _law_told>", rfl, by unfold L2.Vis; decide +kernel⟩) fun A outer s H E hr hg =>
  (iss_cons (by exact (x_set 3 sc_law.nd (x_call c__law_begun (hr.mono (by decide)) hg (x_ae (x_var 0) x_a0))))
  (iss_cons (by exact (x_for PassesOwn.never (x_rng1 b_range (by refine (x_lc (ig_bin br_add ig_int (x_blt (bc_min2 rfl) b_min bo_min (by refine (x_lc (x_blt bc_len b_len bo_len (by refine (x_lc (x_var 0) ?_); exact il_nil)) ?_); refine (x_lc ig_int ?_); exact il_nil))) ?_); exact il_nil)) (x_tg 4 sc_law.nd)
  (iss_cons (by exact (x_set 5 sc_law.nd (x_call c__law_page (hr.mono (by decide)) hg (x_ae (ig_fz (x_lcomp (own := [("_law_k", 13)]) sc_law.nd (x_rng1 b_range (by refine (x_lc (x_call c__law_take (hr.mono (by decide)) hg (x_av 3 (x_ae ig_int x_a0))) ?_); exact il_nil)) (by show BlkOk N_law (defScope (top 38)) _ _; exact ⟨rfl, by decide +kernel, by decide +kernel, by decide +kernel, by decide +kernel⟩) (fun _ _ _ _ _ => (x_tg 13 sc_law.nd)) (fun _ _ _ _ _ => its0) (fun _ _ _ _ _ => (x_call c__law_any_frame (hr.mono (by decide)) hg (x_av 3 x_a0))))) x_a0))))
  (iss_cons (by exact (x_for PassesOwn.never (x_rng1 b_range (by refine (x_lc ig_int ?_); exact il_nil)) (x_tg 6 sc_law.nd)
  (iss_cons (by exact (x_set 8 sc_law.nd (x_var 5)))
  (iss_cons (by exact (x_for PassesOwn.never (x_rng1 b_range (by refine (x_lc (ig_bin br_add ig_int (x_call c__law_take (hr.mono (by decide)) hg (x_av 3 (x_ae ig_int x_a0)))) ?_); exact il_nil)) (x_tg 9 sc_law.nd)
  (iss_one (by exact (x_set 8 sc_law.nd (x_call c__law_broken_page (hr.mono (by decide)) hg (x_av 3 (x_ae (x_var 8) x_a0))))))))
  (iss_cons (by exact (x_set 10 sc_law.nd (x_methV PySem.F.plainAttrs_str PySem.F.slot_str_split PySem.F.type_str_split bm_split (x_var 8) (by refine (x_lc ig_str ?_); exact il_nil))))
  (iss_cons (by exact (x_set 11 sc_law.nd (x_call c__law_first_bad (hr.mono (by decide)) hg (x_ae (ig_fz (ig_slice (x_var 10) io_none (io_some (ig_neg ig_int)))) x_a0))))
  (iss_cons (by exact (x_set 12 sc_law.nd (ig_if (x_tcmp br_isNot (x_var 11) ig_non) (x_var 11) (ig_lst (by refine (x_lc (ig_tup (by refine (x_lc (x_lcomp (own := [("_law_row", 14)]) sc_law.nd (ii_any (ig_slice (x_var 10) io_none (io_some (ig_neg ig_int)))) (by show BlkOk N_law (defScope (top 38)) _ _; exact ⟨rfl, by decide +kernel, by decide +kernel, by decide +kernel, by decide +kernel⟩) (fun _ _ _ _ _ => (x_tg 14 sc_law.nd)) (fun _ _ _ _ _ => its0) (fun _ _ _ _ _ => (x_call c__law_read (hr.mono (by decide)) hg (x_ae (x_var 14) x_a0)))) ?_); refine (x_lc (ig_alt (ig_path (x_psub (Room.u65 hr) (x_pv 10) (ik_pur [] (ig_neg ig_int)))) (x_ix (Room.u65 hr) (x_var 10) (ig_neg ig_int))) ?_); exact il_nil)) ?_); exact il_nil)))))
  (iss_cons (by exact (is_if (x_tcmp (br_ne (lt64 (Room.u65 hr))) (x_blt (bc_repr hS hg (Room.u65 hr)) b_repr bo_repr (by refine (x_lc (x_told (k := 6) td__law_told hCat hCaT TB hTK (hr.mono (by decide)) hg (lamS_by (by show lamSB (defScope (top 38)) _ = true; decide +kernel)) (fun _ _ _ _ _ _ _ hr hg => ⟨(x_call c_cut_text (hr.mono (by decide)) hg (x_ae (x_var 8) x_a0)), (xx_call xc_cut_text (hr.mono (by decide)) hg (x_ae (x_var 8) x_a0))⟩)) ?_); exact il_nil)) (x_blt (bc_repr hS hg (Room.u65 hr)) b_repr bo_repr (by refine (x_lc (x_var 12) ?_); exact il_nil)))
  (iss_one (by exact (is_ret ig_bl)))
  iss_nil))
  (iss_cons (by exact (is_if (x_tcmp br_is (x_var 11) ig_non)
  (iss_one (by exact (x_set 12 sc_law.nd (ig_if (x_tcmp (br_ne (lt64 (Room.u65 hr))) (ig_alt (ig_path (x_psub (Room.u65 hr) (x_pv 10) (ik_pur [] (ig_neg ig_int)))) (x_ix (Room.u65 hr) (x_var 10) (ig_neg ig_int))) ig_str) (ig_bin br_sub (x_blt bc_len b_len bo_len (by refine (x_lc (x_var 10) ?_); exact il_nil)) ig_int) (ig_lst (by refine (x_lc (ig_path (x_psub (Room.u65 hr) (x_psub (Room.u65 hr) (x_pv 12) ik_int) ik_int)) ?_); exact il_nil))))))
  iss_nil))
  (iss_one (by exact (is_if (x_tcmp (br_ne (lt64 (Room.u65 hr))) (x_blt (bc_repr hS hg (Room.u65 hr)) b_repr bo_repr (by refine (x_lc (x_told (k := 7) td__law_told hCat hCaT TB hTK (hr.mono (by decide)) hg (lamS_by (by show lamSB (defScope (top 38)) _ = true; decide +kernel)) (fun _ _ _ _ _ _ _ hr hg => ⟨(x_call c_read_frames (hr.mono (by decide)) hg (x_ae (x_var 8) x_a0)), (xx_call xc_read_frames (hr.mono (by decide)) hg (x_ae (x_var 8) x_a0))⟩)) ?_); exact il_nil)) (x_blt (bc_repr hS hg (Room.u65 hr)) b_repr bo_repr (by refine (x_lc (x_var 12) ?_); exact il_nil)))
  (iss_one (by exact (is_ret ig_bl)))
  iss_nil))))))))))))
  (iss_cons (by exact (x_set 7 sc_law.nd (x_call c__law_pick (hr.mono (by decide)) hg (x_av 3 (x_ae (ig_fz (ig_lst (by refine (x_lc ig_non ?_); refine (x_lc ig_int ?_); refine (x_lc (ig_lst (by refine (x_lc ig_str ?_); exact il_nil)) ?_); refine (x_lc (ig_tup (by refine (x_lc ig_str ?_); exact il_nil)) ?_); refine (x_lc ig_bl ?_); refine (x_lc ig_dnew ?_); exact il_nil))) x_a0)))))
  (iss_cons (by exact (is_if (x_tcmp (br_ne (lt64 (Room.u65 hr))) (x_told (k := 7) td__law_told hCat hCaT TB hTK (hr.mono (by decide)) hg (lamS_by (by show lamSB (defScope (top 38)) _ = true; decide +kernel)) (fun _ _ _ _ _ _ _ hr hg => ⟨(x_call c_read_frames (hr.mono (by decide)) hg (x_ae (x_var 7) x_a0)), (xx_call xc_read_frames (hr.mono (by decide)) hg (x_ae (x_var 7) x_a0))⟩)) ig_int)
  (iss_one (by exact (is_ret ig_bl)))
  iss_nil))
  (iss_one (by exact (is_if (x_tcmp (br_ne (lt64 (Room.u65 hr))) (x_told (k := 6) td__law_told hCat hCaT TB hTK (hr.mono (by decide)) hg (lamS_by (by show lamSB (defScope (top 38)) _ = true; decide +kernel)) (fun _ _ _ _ _ _ _ hr hg => ⟨(x_call c_cut_text (hr.mono (by decide)) hg (x_ae (x_var 7) x_a0)), (xx_call xc_cut_text (hr.mono (by decide)) hg (x_ae (x_var 7) x_a0))⟩)) ig_int)
  (iss_one (by exact (is_ret ig_bl)))
  iss_nil)))))))))
  (iss_one (by exact (is_ret ig_bl)))))
end
end K47
set_option Elab.async false
set_option linter.all false
set_option maxRecDepth 100000
set_option maxHeartbeats 0
namespace K47
open PySem PySem.Spec PyProof.Rows L2 DL LamX
theorem facts {P : Program} {w : World} {K : PySem.W.Frag} {h : Heap} {mg : Str → Option Value} {f : Addr} (X : K.In h) (G : h.Ns mainGlobals mg) (hfa : mg ("law" : Str) = some (.ref f)) (c : SaysH tf fa fn ex h K) :
    ∃ fd : FuncData, (∀ (s : Shared) (v : Value), BindsTo s fd ⟨[v], []⟩ [("_law_script", v)]) ∧ (∀ z ∈ (tf.map (He.cT K)).zip gq, TabK K mg z.2.1 z.1.2) ∧ ∀ base : Heap, K.In base → base.Ns mainGlobals mg → (∀ p ∈ tf.map (He.cT K), TabB base mg p.1 p.2) → FnG P w K mg base 12 f fd ["_law_script"] (spH K mg gq.length 1 m_law) := by
  have hS : SysD K := c.sys
  have b_abs : mg "abs" = none := He.free_ok X G (c.old.fact 28 (f := .free "abs") rfl)
  have b_isinstance : mg "isinstance" = none := He.free_ok X G (c.old.fact 29 (f := .free "isinstance") rfl)
  have b_tuple : mg "tuple" = none := He.free_ok X G (c.old.fact 30 (f := .free "tuple") rfl)
  have b_str : mg "str" = none := He.free_ok X G (c.old.fact 31 (f := .free "str") rfl)
  have b_int : mg "int" = none := He.free_ok X G (c.old.fact 32 (f := .free "int") rfl)
  have b_len : mg "len" = none := He.free_ok X G (c.old.fact 33 (f := .free "len") rfl)
  have b_bool : mg "bool" = none := He.free_ok X G (c.old.fact 34 (f := .free "bool") rfl)
  have b_repr : mg "repr" = none := He.free_ok X G (c.old.fact 35 (f := .free "repr") rfl)
  have b_enumerate : mg "enumerate" = none := He.free_ok X G (c.old.fact 36 (f := .free "enumerate") rfl)
  have b_ValueError : mg "ValueError" = none := He.free_ok X G (c.old.fact 37 (f := .free "ValueError") rfl)
  have b_range : mg "range" = none := He.free_ok X G (c.old.fact 38 (f := .free "range") rfl)
  have b_all : mg "all" = none := He.free_ok X G (c.old.fact 39 (f := .free "all") rfl)
  have b_min : mg "min" = none := He.free_ok X G (c.old.fact 40 (f := .free "min") rfl)
  have hx0 := He.ba c.ext
  have hx1 := He.ba hx0.2
  have hx2 := He.ba hx1.2
  have hx3 := He.ba hx2.2
  have hext := He.ba hx3.2
  have hxf : basB K (He.ga K "FarError") = true ∧ oneFB K "BadText" "line" = true := by
    have z := hx3.1
    simp only [Bool.and_eq_true, and_assoc] at z
    exact z
  have gx_FarError := He.glo_ok X G (c.old.fact 42 (f := .glo "FarError") rfl)
  have gx_BadText := He.glo_ok X G (c.old.fact 43 (f := .glo "BadText") rfl)
  have hEA : ExA K mg es := exA_of hx1.1 (fun p hp => by
    obtain rfl | hp := List.mem_cons.mp hp
    · exact gx_BadText
    cases hp)
  have hEP : ExP K mg pl := exP_of hx2.1 (fun p hp => by
    cases hp)
  have hBC : BasC K mg "FarError" _ := bas_of hxf.1 gx_FarError
  have ofb_BadText := hxf.2
  have xf_line : AtX K mg ["BadText"] "line" := (atX_cons gx_BadText (hEA.oneC (by decide) gx_BadText) (oneF_of ofb_BadText).no atX_nil)
  have g_BadText : GlD K mg "BadText" (.glo "BadText") := gl_cls (He.glo_ok X G (c.old.fact 43 (f := .glo "BadText") rfl))
  have g_LETTERS : GlD K mg "LETTERS" (.str "abcdefghijklmnopqrstuvwxyz") := gl_str X G (c.old.fact 44 (f := .str "LETTERS" "abcdefghijklmnopqrstuvwxyz") rfl)
  have g_MOST_RULE : GlD K mg "MOST_RULE" (.int 5) := gl_int X G (c.old.fact 45 (f := .int "MOST_RULE" 5) rfl)
  have g_WORDS : GlD K mg "WORDS" (.tup [(.str "landed"), (.str "left")]) := gl_tup (vs := [.str "landed", .str "left"]) X G (c.old.fact 46 (f := .glo "WORDS") rfl) hext.2 rfl
  have g_FIGURES : GlD K mg "FIGURES" (.str "0123456789") := gl_str X G (c.old.fact 47 (f := .str "FIGURES" "0123456789") rfl)
  have hCT : ClsT K mg ct := clsT_of X G hext.1 (fun p hp => by
    cases hp)
  have gx_base := He.glo_ok X G (c.old.fact 42 (f := .glo "FarError") rfl)
  have hCaT : CatT K mg "FarError" es := catT_of hx0.1 (fun p hp => by
    obtain rfl | hp := List.mem_cons.mp hp
    · exact gx_BadText
    cases hp) gx_base
  obtain ⟨fd_cat, F_cat⟩ := c.old.def_ 28 (d := dd "_law_caught" 36) rfl
  have hCat : CatchD K mg "_law_caught" "FarError" := catch_of (a := "_law_task") (r := "_law_caught_here") (n := "_law_error") F_cat (He.glo_ok X G (c.old.fact 41 (f := .glo "_law_caught") rfl)) gx_base ⟨rfl, rfl, rfl, by decide +kernel, rfl, by decide +kernel, by decide +kernel⟩ (fun _ _ _ _ _ _ us hl => match us, hl with | [_], _ => rfl) rfl rfl rfl rfl (.inl rfl) (by decide) (by decide) (by decide) (by decide) (by decide) (by decide)
  obtain ⟨fd__law_begun, F__law_begun⟩ := c.old.def_ 0 (d := dd "_law_begun" 21) rfl
  obtain ⟨fd__law_line, F__law_line⟩ := c.old.def_ 1 (d := dd "_law_line" 22) rfl
  obtain ⟨fd__law_page, F__law_page⟩ := c.old.def_ 2 (d := dd "_law_page" 23) rfl
  obtain ⟨fd__law_mixed, F__law_mixed⟩ := c.old.def_ 3 (d := dd "_law_mixed" 24) rfl
  obtain ⟨fd__law_take, F__law_take⟩ := c.old.def_ 4 (d := dd "_law_take" 25) rfl
  obtain ⟨fd__law_pick, F__law_pick⟩ := c.old.def_ 5 (d := dd "_law_pick" 26) rfl
  obtain ⟨fd__law_number, F__law_number⟩ := c.old.def_ 6 (d := dd "_law_number" 30) rfl
  obtain ⟨fd__law_is_label, F__law_is_label⟩ := c.old.def_ 7 (d := dd "_law_is_label" 31) rfl
  obtain ⟨fd__law_is_count, F__law_is_count⟩ := c.old.def_ 8 (d := dd "_law_is_count" 32) rfl
  obtain ⟨fd__law_is_frame, F__law_is_frame⟩ := c.old.def_ 9 (d := dd "_law_is_frame" 33) rfl
  obtain ⟨fd__law_read, F__law_read⟩ := c.old.def_ 10 (d := dd "_law_read" 34) rfl
  obtain ⟨fd__law_first_bad, F__law_first_bad⟩ := c.old.def_ 11 (d := dd "_law_first_bad" 35) rfl
  obtain ⟨fd__law_told, F__law_told⟩ := c.old.def_ 12 (d := dd "_law_told" 37) rfl
  obtain ⟨fd__law_word, F__law_word⟩ := c.old.def_ 13 (d := dd "_law_word" 27) rfl
  obtain ⟨fd__law_any_frame, F__law_any_frame⟩ := c.old.def_ 14 (d := dd "_law_any_frame" 28) rfl
  obtain ⟨fd__law_broken_page, F__law_broken_page⟩ := c.old.def_ 15 (d := dd "_law_broken_page" 29) rfl
  obtain ⟨fd_is_number, F_is_number⟩ := c.old.def_ 16 (d := dd "is_number" 5) rfl
  obtain ⟨fd_is_count, F_is_count⟩ := c.old.def_ 17 (d := dd "is_count" 11) rfl
  obtain ⟨fd_is_name, F_is_name⟩ := c.old.def_ 18 (d := dd "is_name" 6) rfl
  obtain ⟨fd_is_tell, F_is_tell⟩ := c.old.def_ 19 (d := dd "is_tell" 12) rfl
  obtain ⟨fd_is_ask, F_is_ask⟩ := c.old.def_ 20 (d := dd "is_ask" 13) rfl
  obtain ⟨fd_is_told, F_is_told⟩ := c.old.def_ 21 (d := dd "is_told" 14) rfl
  obtain ⟨fd_is_frame, F_is_frame⟩ := c.old.def_ 22 (d := dd "is_frame" 15) rfl
  obtain ⟨fd_number_in, F_number_in⟩ := c.old.def_ 23 (d := dd "number_in" 16) rfl
  obtain ⟨fd_frame_in, F_frame_in⟩ := c.old.def_ 24 (d := dd "frame_in" 17) rfl
  obtain ⟨fd_cut_text, F_cut_text⟩ := c.old.def_ 25 (d := dd "cut_text" 18) rfl
  obtain ⟨fd_read_frames, F_read_frames⟩ := c.old.def_ 26 (d := dd "read_frames" 19) rfl
  obtain ⟨fd_law, F_law⟩ := c.old.def_ 27 (d := dd "law" 38) rfl
  obtain ⟨fdx_BadText, FX_BadText⟩ := c.old.def_ 29 (d := dm "BadText" "__init__" "BadText.__init__" 2 0) rfl
  have e_BadText : ∀ base : Heap, K.In base → CalE P w K mg base 2 "BadText" "line" "line" := fun base _ => calE_of (x := "FarError") (self := "self") FX_BadText ⟨rfl, rfl, rfl, by decide +kernel, rfl, by decide +kernel, by decide +kernel⟩ hBC ofb_BadText gx_BadText rfl rfl rfl (by decide) (by decide) (by decide) (by decide) (by decide) (fun env => ⟨_, rfl⟩) (fun env => rfl) (fun env => rfl) (fun _ _ _ _ _ _ us hl => match us, hl with | [_, _], _ => rfl) (fun _ _ _ _ _ _ _ _ => rfl)
  have e := hfa.symm.trans (He.glo_ok X G (c.old.fact 27 (f := .glo "law") rfl))
  cases e
  refine ⟨fd_law, fun s v => FunD.bindsA (ps := ["_law_script"]) F_law (fun _ _ _ _ _ _ us hl => match us, hl with | [_], _ => rfl) s [v] rfl, ?_, fun base hbase _ TBS => ?_⟩
  · intro z hz
    obtain rfl | hz := List.mem_cons.mp hz
    · exact tabK_of F_law (He.glo_ok X G (c.old.fact 27 (f := .glo "law") rfl)) (c.tabs ("law", none) (by simp [tf])).1
    obtain rfl | hz := List.mem_cons.mp hz
    · exact tabK_of F__law_told (He.glo_ok X G (c.old.fact 12 (f := .glo "_law_told") rfl)) (c.tabs ("_law_told", none) (by simp [tf])).1
    cases hz
  have G__law_begun : FnG P w K mg base 1 _ fd__law_begun ps__law_begun (spD K mg ps__law_begun.length m__law_begun) := w__law_begun F__law_begun b_abs
  have c__law_begun : CalF P w K mg base 1 "_law_begun" ps__law_begun [] m__law_begun := calF_of F__law_begun G__law_begun (He.glo_ok X G (c.old.fact 0 (f := .glo "_law_begun") rfl)) fun _ _ _ _ _ _ us hl => match us, hl with | [_], _ => rfl
  have G__law_line : FnG P w K mg base 1 _ fd__law_line ps__law_line (spD K mg ps__law_line.length m__law_line) := w__law_line F__law_line b_isinstance b_tuple b_str
  have c__law_line : CalF P w K mg base 1 "_law_line" ps__law_line [] m__law_line := calF_of F__law_line G__law_line (He.glo_ok X G (c.old.fact 1 (f := .glo "_law_line") rfl)) fun _ _ _ _ _ _ us hl => match us, hl with | [_], _ => rfl
  have G__law_page : FnG P w K mg base 2 _ fd__law_page ps__law_page (spD K mg ps__law_page.length m__law_page) := w__law_page F__law_page c__law_line
  have c__law_page : CalF P w K mg base 2 "_law_page" ps__law_page [] m__law_page := calF_of F__law_page G__law_page (He.glo_ok X G (c.old.fact 2 (f := .glo "_law_page") rfl)) fun _ _ _ _ _ _ us hl => match us, hl with | [_], _ => rfl
  have G__law_mixed : FnG P w K mg base 1 _ fd__law_mixed ps__law_mixed (spD K mg ps__law_mixed.length m__law_mixed) := w__law_mixed F__law_mixed b_int
  have c__law_mixed : CalF P w K mg base 1 "_law_mixed" ps__law_mixed [] m__law_mixed := calF_of F__law_mixed G__law_mixed (He.glo_ok X G (c.old.fact 3 (f := .glo "_law_mixed") rfl)) fun _ _ _ _ _ _ us hl => match us, hl with | [_], _ => rfl
  have G__law_take : FnG P w K mg base 2 _ fd__law_take ps__law_take (spD K mg ps__law_take.length m__law_take) := w__law_take F__law_take c__law_mixed b_int
  have c__law_take : CalF P w K mg base 2 "_law_take" ps__law_take [] m__law_take := calF_of F__law_take G__law_take (He.glo_ok X G (c.old.fact 4 (f := .glo "_law_take") rfl)) fun _ _ _ _ _ _ us hl => match us, hl with | [_, _], _ => rfl
  have G__law_pick : FnG P w K mg base 3 _ fd__law_pick ps__law_pick (spD K mg ps__law_pick.length m__law_pick) := w__law_pick F__law_pick c__law_take b_len
  have c__law_pick : CalF P w K mg base 3 "_law_pick" ps__law_pick [] m__law_pick := calF_of F__law_pick G__law_pick (He.glo_ok X G (c.old.fact 5 (f := .glo "_law_pick") rfl)) fun _ _ _ _ _ _ us hl => match us, hl with | [_, _], _ => rfl
  have G__law_number : FnG P w K mg base 1 _ fd__law_number ps__law_number (spD K mg ps__law_number.length m__law_number) := w__law_number F__law_number b_int
  have c__law_number : CalF P w K mg base 1 "_law_number" ps__law_number [] m__law_number := calF_of F__law_number G__law_number (He.glo_ok X G (c.old.fact 6 (f := .glo "_law_number") rfl)) fun _ _ _ _ _ _ us hl => match us, hl with | [_], _ => rfl
  have G__law_is_label : FnG P w K mg base 1 _ fd__law_is_label ps__law_is_label (spD K mg ps__law_is_label.length m__law_is_label) := w__law_is_label F__law_is_label b_isinstance b_str b_len
  have c__law_is_label : CalF P w K mg base 1 "_law_is_label" ps__law_is_label [] m__law_is_label := calF_of F__law_is_label G__law_is_label (He.glo_ok X G (c.old.fact 7 (f := .glo "_law_is_label") rfl)) fun _ _ _ _ _ _ us hl => match us, hl with | [_], _ => rfl
  have G__law_is_count : FnG P w K mg base 1 _ fd__law_is_count ps__law_is_count (spD K mg ps__law_is_count.length m__law_is_count) := w__law_is_count F__law_is_count b_isinstance b_int b_bool
  have c__law_is_count : CalF P w K mg base 1 "_law_is_count" ps__law_is_count [] m__law_is_count := calF_of F__law_is_count G__law_is_count (He.glo_ok X G (c.old.fact 8 (f := .glo "_law_is_count") rfl)) fun _ _ _ _ _ _ us hl => match us, hl with | [_, _], _ => rfl
  have G__law_is_frame : FnG P w K mg base 2 _ fd__law_is_frame ps__law_is_frame (spD K mg ps__law_is_frame.length m__law_is_frame) := w__law_is_frame F__law_is_frame c__law_is_label c__law_is_count b_isinstance b_tuple b_len b_str b_repr hS
  have c__law_is_frame : CalF P w K mg base 2 "_law_is_frame" ps__law_is_frame [] m__law_is_frame := calF_of F__law_is_frame G__law_is_frame (He.glo_ok X G (c.old.fact 9 (f := .glo "_law_is_frame") rfl)) fun _ _ _ _ _ _ us hl => match us, hl with | [_], _ => rfl
  have G__law_read : FnG P w K mg base 3 _ fd__law_read ps__law_read (spD K mg ps__law_read.length m__law_read) := w__law_read F__law_read c__law_number c__law_is_frame c__law_line b_len b_tuple
  have c__law_read : CalF P w K mg base 3 "_law_read" ps__law_read [] m__law_read := calF_of F__law_read G__law_read (He.glo_ok X G (c.old.fact 10 (f := .glo "_law_read") rfl)) fun _ _ _ _ _ _ us hl => match us, hl with | [_], _ => rfl
  have G__law_first_bad : FnG P w K mg base 4 _ fd__law_first_bad ps__law_first_bad (spD K mg ps__law_first_bad.length m__law_first_bad) := w__law_first_bad F__law_first_bad c__law_read b_enumerate
  have c__law_first_bad : CalF P w K mg base 4 "_law_first_bad" ps__law_first_bad [] m__law_first_bad := calF_of F__law_first_bad G__law_first_bad (He.glo_ok X G (c.old.fact 11 (f := .glo "_law_first_bad") rfl)) fun _ _ _ _ _ _ us hl => match us, hl with | [_], _ => rfl
  have td__law_told : ToldD P w K mg base 0 "_law_told" "_law_caught" "_law_told" "_law_told.<locals>.<lambda>" 0 b__law_told := told_of F__law_told (code_of F__law_told) (He.glo_ok X G (c.old.fact 12 (f := .glo "_law_told") rfl)) sc__law_told (fun _ _ _ _ _ _ us hl => match us, hl with | [_], _ => rfl) rfl rfl rfl (fun _ => rfl) (fun _ => rfl) rfl rfl (lamS_by (by decide +kernel)) (by unfold L2.Vis; decide +kernel) (by unfold L2.Vis; decide +kernel) (fun _ => rfl) (fun _ _ _ _ _ => rfl) (TBS (He.cT K ("_law_told", none)) (List.mem_map_of_mem (by simp [tf]))) (tabK_of F__law_told (He.glo_ok X G (c.old.fact 12 (f := .glo "_law_told") rfl)) (c.tabs ("_law_told", none) (by simp [tf])).1) rfl (by decide) (by decide) (by decide) (by decide) (w__law_told b_isinstance b_ValueError g_BadText hEA xf_line hCT)
  have G__law_word : FnG P w K mg base 4 _ fd__law_word ps__law_word (spD K mg ps__law_word.length m__law_word) := w__law_word F__law_word c__law_take c__law_pick b_range
  have c__law_word : CalF P w K mg base 4 "_law_word" ps__law_word [] m__law_word := calF_of F__law_word G__law_word (He.glo_ok X G (c.old.fact 13 (f := .glo "_law_word") rfl)) fun _ _ _ _ _ _ us hl => match us, hl with | [_], _ => rfl
  have G__law_any_frame : FnG P w K mg base 5 _ fd__law_any_frame ps__law_any_frame (spD K mg ps__law_any_frame.length m__law_any_frame) := w__law_any_frame F__law_any_frame c__law_word c__law_take c__law_pick b_tuple b_range
  have c__law_any_frame : CalF P w K mg base 5 "_law_any_frame" ps__law_any_frame [] m__law_any_frame := calF_of F__law_any_frame G__law_any_frame (He.glo_ok X G (c.old.fact 14 (f := .glo "_law_any_frame") rfl)) fun _ _ _ _ _ _ us hl => match us, hl with | [_], _ => rfl
  have G__law_broken_page : FnG P w K mg base 4 _ fd__law_broken_page ps__law_broken_page (spD K mg ps__law_broken_page.length m__law_broken_page) := w__law_broken_page F__law_broken_page c__law_take c__law_pick b_len
  have c__law_broken_page : CalF P w K mg base 4 "_law_broken_page" ps__law_broken_page [] m__law_broken_page := calF_of F__law_broken_page G__law_broken_page (He.glo_ok X G (c.old.fact 15 (f := .glo "_law_broken_page") rfl)) fun _ _ _ _ _ _ us hl => match us, hl with | [_, _], _ => rfl
  have G_is_number : FnG P w K mg base 1 _ fd_is_number ps_is_number (spD K mg ps_is_number.length m_is_number) := w_is_number F_is_number b_isinstance b_int b_bool
  have c_is_number : CalF P w K mg base 1 "is_number" ps_is_number [] m_is_number := calF_of F_is_number G_is_number (He.glo_ok X G (c.old.fact 16 (f := .glo "is_number") rfl)) fun _ _ _ _ _ _ us hl => match us, hl with | [_], _ => rfl
  have G_is_count : FnG P w K mg base 2 _ fd_is_count ps_is_count (spD K mg ps_is_count.length m_is_count) := w_is_count F_is_count c_is_number
  have c_is_count : CalF P w K mg base 2 "is_count" ps_is_count [] m_is_count := calF_of F_is_count G_is_count (He.glo_ok X G (c.old.fact 17 (f := .glo "is_count") rfl)) fun _ _ _ _ _ _ us hl => match us, hl with | [_, _], _ => rfl
  have G_is_name : FnG P w K mg base 1 _ fd_is_name ps_is_name (spD K mg ps_is_name.length m_is_name) := w_is_name F_is_name b_isinstance b_str b_len b_all g_LETTERS
  have c_is_name : CalF P w K mg base 1 "is_name" ps_is_name [] m_is_name := calF_of F_is_name G_is_name (He.glo_ok X G (c.old.fact 18 (f := .glo "is_name") rfl)) fun _ _ _ _ _ _ us hl => match us, hl with | [_], _ => rfl
  have G_is_tell : FnG P w K mg base 3 _ fd_is_tell ps_is_tell (spD K mg ps_is_tell.length m_is_tell) := w_is_tell F_is_tell c_is_count c_is_name b_len b_isinstance b_tuple b_all
  have c_is_tell : CalF P w K mg base 3 "is_tell" ps_is_tell [] m_is_tell := calF_of F_is_tell G_is_tell (He.glo_ok X G (c.old.fact 19 (f := .glo "is_tell") rfl)) fun _ _ _ _ _ _ us hl => match us, hl with | [_], _ => rfl
  have G_is_ask : FnG P w K mg base 3 _ fd_is_ask ps_is_ask (spD K mg ps_is_ask.length m_is_ask) := w_is_ask F_is_ask c_is_count b_len g_MOST_RULE
  have c_is_ask : CalF P w K mg base 3 "is_ask" ps_is_ask [] m_is_ask := calF_of F_is_ask G_is_ask (He.glo_ok X G (c.old.fact 20 (f := .glo "is_ask") rfl)) fun _ _ _ _ _ _ us hl => match us, hl with | [_], _ => rfl
  have G_is_told : FnG P w K mg base 3 _ fd_is_told ps_is_told (spD K mg ps_is_told.length m_is_told) := w_is_told F_is_told c_is_count b_len b_isinstance b_str g_WORDS
  have c_is_told : CalF P w K mg base 3 "is_told" ps_is_told [] m_is_told := calF_of F_is_told G_is_told (He.glo_ok X G (c.old.fact 21 (f := .glo "is_told") rfl)) fun _ _ _ _ _ _ us hl => match us, hl with | [_], _ => rfl
  have G_is_frame : FnG P w K mg base 4 _ fd_is_frame ps_is_frame (spD K mg ps_is_frame.length m_is_frame) := w_is_frame F_is_frame c_is_name c_is_tell c_is_ask c_is_told b_isinstance b_tuple b_len b_str
  have c_is_frame : CalF P w K mg base 4 "is_frame" ps_is_frame [] m_is_frame := calF_of F_is_frame G_is_frame (He.glo_ok X G (c.old.fact 22 (f := .glo "is_frame") rfl)) fun _ _ _ _ _ _ us hl => match us, hl with | [_], _ => rfl
  have G_number_in : FnG P w K mg base 1 _ fd_number_in ps_number_in (spD K mg ps_number_in.length m_number_in) := w_number_in F_number_in b_all b_int g_FIGURES
  have c_number_in : CalF P w K mg base 1 "number_in" ps_number_in [] m_number_in := calF_of F_number_in G_number_in (He.glo_ok X G (c.old.fact 23 (f := .glo "number_in") rfl)) fun _ _ _ _ _ _ us hl => match us, hl with | [_], _ => rfl
  have G_frame_in : FnG P w K mg base 5 _ fd_frame_in ps_frame_in (spD K mg ps_frame_in.length m_frame_in) := w_frame_in F_frame_in c_number_in c_is_frame b_len b_tuple
  have c_frame_in : CalF P w K mg base 5 "frame_in" ps_frame_in [] m_frame_in := calF_of F_frame_in G_frame_in (He.glo_ok X G (c.old.fact 24 (f := .glo "frame_in") rfl)) fun _ _ _ _ _ _ us hl => match us, hl with | [_], _ => rfl
  have G_cut_text : FnG P w K mg base 6 _ fd_cut_text ps_cut_text (spD K mg ps_cut_text.length m_cut_text) := w_cut_text F_cut_text c_frame_in b_isinstance b_str b_enumerate (e_BadText base hbase)
  have GX_cut_text : FnX P w K mg base 6 _ fd_cut_text ps_cut_text (spX K mg ps_cut_text.length m_cut_text x_cut_text) := wx_cut_text F_cut_text c_frame_in b_isinstance b_str b_enumerate (e_BadText base hbase)
  have xc_cut_text : CalXF P w K mg base 6 "cut_text" ps_cut_text m_cut_text x_cut_text := calXF_of F_cut_text GX_cut_text (He.glo_ok X G (c.old.fact 25 (f := .glo "cut_text") rfl)) fun _ _ _ _ _ _ us hl => match us, hl with | [_], _ => rfl
  have c_cut_text : CalF P w K mg base 6 "cut_text" ps_cut_text [] m_cut_text := calF_of F_cut_text G_cut_text (He.glo_ok X G (c.old.fact 25 (f := .glo "cut_text") rfl)) fun _ _ _ _ _ _ us hl => match us, hl with | [_], _ => rfl
  have G_read_frames : FnG P w K mg base 7 _ fd_read_frames ps_read_frames (spD K mg ps_read_frames.length m_read_frames) := w_read_frames F_read_frames c_cut_text b_len xc_cut_text (e_BadText base hbase)
  have GX_read_frames : FnX P w K mg base 7 _ fd_read_frames ps_read_frames (spX K mg ps_read_frames.length m_read_frames x_read_frames) := wx_read_frames F_read_frames c_cut_text b_len xc_cut_text (e_BadText base hbase)
  have xc_read_frames : CalXF P w K mg base 7 "read_frames" ps_read_frames m_read_frames x_read_frames := calXF_of F_read_frames GX_read_frames (He.glo_ok X G (c.old.fact 26 (f := .glo "read_frames") rfl)) fun _ _ _ _ _ _ us hl => match us, hl with | [_], _ => rfl
  have c_read_frames : CalF P w K mg base 7 "read_frames" ps_read_frames [] m_read_frames := calF_of F_read_frames G_read_frames (He.glo_ok X G (c.old.fact 26 (f := .glo "read_frames") rfl)) fun _ _ _ _ _ _ us hl => match us, hl with | [_], _ => rfl
  have G_law : FnG P w K mg base 12 _ fd_law ps_law (spH K mg 2 ps_law.length m_law) := w_law F_law (code_of F_law) c__law_begun c__law_page c__law_take c__law_any_frame c__law_broken_page c__law_first_bad c__law_read c_cut_text c_read_frames c__law_pick td__law_told b_range b_min b_len b_repr xc_cut_text xc_read_frames hCat hCaT (TBS (He.cT K ("law", none)) (List.mem_map_of_mem (by simp [tf]))) (tabK_of F_law (He.glo_ok X G (c.old.fact 27 (f := .glo "law") rfl)) (c.tabs ("law", none) (by simp [tf])).1) hS
  exact G_law
end K47
set_option Elab.async false
set_option linter.all false
set_option maxRecDepth 100000
set_option maxHeartbeats 0
namespace K47
open PySem PySem.Spec PyProof.Rows L2 DL
theorem ev_alt {a b : MI} {δ : DL.Env} {r : List D × DL.Env} (h : a δ = some r) : iAlt a b δ = some r := by
  unfold iAlt
  rw [h]
theorem path_turn (s : Dr) (r : DL.Env) : mPath 0 (pSub pVar (kC (.str "turn"))) (some s.d :: r) = some (.int s.t, some s.d :: r) := by
  show (match walk s.d [.sub (.inr "turn")] with | some (t, d') => some (t, (some s.d :: r).set 0 (some d')) | none => none) = _
  rw [walk_turn]; rfl
theorem path_rest (s : Dr) (r : DL.Env) : mPath 0 (pSub pVar (kC (.str "rest"))) (some s.d :: r) = some (.int s.r, some s.d :: r) := by
  show (match walk s.d [.sub (.inr "rest")] with | some (t, d') => some (t, (some s.d :: r).set 0 (some d')) | none => none) = _
  rw [walk_rest]; rfl
theorem path_cells (s : Dr) (r : DL.Env) : mPath 0 (pSub pVar (kC (.str "cells"))) (some s.d :: r) = some (.lst false (s.C.map D.int), some ({ s with o := false } : Dr).d :: r) := by
  show (match walk s.d [.sub (.inr "cells")] with | some (t, d') => some (t, (some s.d :: r).set 0 (some d')) | none => none) = _
  rw [walk_cells]; rfl
theorem put_turn {s : Dr} {r r' : DL.Env} {s' : Dr} {e : ME} {i : Int} (h : e (some s.d :: r) = some (.int i, some s'.d :: r')) : sPut 0 pVar (kC (.str "turn")) e (some s.d :: r) = some (.nx (some ({ s' with t := i } : Dr).d :: r')) := by
  unfold sPut
  rw [h]
  show (match dSetIt s'.d (.str "turn") (.int i) with | some t' => some (Fl.nx ((some s'.d :: r').set 0 (some (putO s'.d [] t')))) | none => none) = _
  rw [set_turn]; rfl
theorem put_rest {s : Dr} {r r' : DL.Env} {s' : Dr} {e : ME} {i : Int} (h : e (some s.d :: r) = some (.int i, some s'.d :: r')) : sPut 0 pVar (kC (.str "rest")) e (some s.d :: r) = some (.nx (some ({ s' with r := i } : Dr).d :: r')) := by
  unfold sPut
  rw [h]
  show (match dSetIt s'.d (.str "rest") (.int i) with | some t' => some (Fl.nx ((some s'.d :: r').set 0 (some (putO s'.d [] t')))) | none => none) = _
  rw [set_rest]; rfl
theorem mixed_ok {s : Dr} {b : Nat} (h : s.Ok b) (hb : b < 2 ^ 40) : ∃ v, 0 ≤ v ∧ ∃ s' : Dr, s'.Ok (b + 1) ∧ s'.L = s.L ∧ m__law_mixed [s.d] = some (.int v, [s'.d]) := by
  have ht0 := h.t0
  have ht := h.t
  have h1 : ({ s with t := s.t + 1 } : Dr).Ok (b + 1) := ⟨h.L, h.C, h.r, by show 0 ≤ s.t + 1; omega, by show s.t + 1 ≤ ((b + 1 : Nat) : Int); push_cast; omega, h.ls, h.cs⟩
  obtain ⟨δ', eo, _, s4, f4, x4, y4, z4, h4, hL4, hf4, rfl⟩ := loopF_ind (t := tName 2) (b := (sCons (sSet 3 (mBin dAdd (mBin dMul (mC (.int 104729)) (mPath 0 (pSub pVar (kC (.str "turn"))))) (mBin dFdiv (mVar 2) (mC (.int 7)))))
      (sCons (sFor (iAlt (iAny (mPath 0 (pSub pVar (kC (.str "cells"))))) (keysAt 0 (pSub pVar (kC (.str "cells"))))) (tName 4) (sSet 3 (mBin dMod (mCallB dInt2 (mCons (mBin dAdd (mBin dMul (mVar 3) (mC (.int 48271))) (mVar 4)) mNil)) (mVar 2))))
      (sSet 1 (mBin dAdd (mBin dMul (mVar 1) (mC (.int 2147483647))) (mBin dMod (mCallB dInt2 (mCons (mBin dPow (mVar 3) (mC (.int 5))) mNil)) (mVar 2)))))))
      (J := fun ds δ => (∃ ps : List Int, ds = ps.map D.int ∧ ∀ p ∈ ps, 0 < p ∧ p < 2 ^ 31) ∧ ∃ (s2 : Dr) (f : Int) (x y z : Option D), s2.Ok (b + 1) ∧ s2.L = s.L ∧ 0 ≤ f ∧ δ = [some s2.d, some (.int f), x, y, z])
      (fun d r δ hJ => by
        obtain ⟨⟨ps, e, hp⟩, s2, f, x, y, z, h2, hL, hf, rfl⟩ := hJ
        match ps, e with
        | p :: ps, e =>
          cases e
          obtain ⟨p0, p1⟩ := hp p List.mem_cons_self
          have t20 := h2.t0
          have t2 := h2.t
          have x00 : 0 ≤ 104729 * s2.t + p / 7 := by omega
          have x01 : 104729 * s2.t + p / 7 < 2 ^ 64 := by
            have : (b : Int) < 2 ^ 40 := by exact_mod_cast hb
            push_cast at t2
            omega
          have a1 := ev_set (i := 3) (δ := [some s2.d, some (.int f), some (.int p), y, z]) (ev_bin (g := dAdd) (ev_bin (g := dMul) (a := mC (.int 104729)) rfl (path_turn s2 _) (dMul_l (by decide))) (ev_bin (g := dFdiv) (a := mVar 2) (b := mC (.int 7)) (ev_int rfl) rfl (dFdiv_p (by decide) (by decide))) rfl) (by simp)
          obtain ⟨δi, ei, _, w, x2, x20, x21, rfl⟩ := loopF_ind (t := tName 4) (b := (sSet 3 (mBin dMod (mCallB dInt2 (mCons (mBin dAdd (mBin dMul (mVar 3) (mC (.int 48271))) (mVar 4)) mNil)) (mVar 2))))
            (J := fun ds δ => (∃ cs : List Int, ds = cs.map D.int ∧ ∀ c ∈ cs, 0 ≤ c) ∧ ∃ (w : Option D) (x : Int), 0 ≤ x ∧ x < 2 ^ 64 ∧ δ = [some ({ s2 with o := false } : Dr).d, some (.int f), some (.int p), some (.int x), w])
            (fun d r δ hJ => by
              obtain ⟨⟨cs, e, hc⟩, w, x, x0, x1, rfl⟩ := hJ
              match cs, e with
              | c :: cs, e =>
                cases e
                have c0 := hc c List.mem_cons_self
                refine ⟨_, _, rfl, ev_set (i := 3) (ev_bin (g := dMod) (ev_call1 (g := dInt2) (ev_bin (g := dAdd) (ev_bin (g := dMul) (a := mVar 3) (b := mC (.int 48271)) (ev_int rfl) rfl (dMul_r (by decide))) (ev_int rfl) rfl) rfl) (ev_int rfl) (dMod_p p0)) (by simp), ⟨cs, rfl, fun c hc' => hc c (List.mem_cons_of_mem _ hc')⟩, _, _, ?_, ?_, rfl⟩
                · exact Int.emod_nonneg _ (by omega)
                · have := Int.emod_lt_of_pos (x * 48271 + c) p0
                  omega) (s2.C.map D.int) [some ({ s2 with o := false } : Dr).d, some (.int f), some (.int p), some (.int (104729 * s2.t + p / 7)), z] ⟨⟨s2.C, rfl, h2.C⟩, z, _, x00, x01, rfl⟩
          refine ⟨_, _, rfl, (ev_seq a1).trans ((ev_seq ((ev_for (ev_alt (ev_ints (path_cells s2 _)))).trans ei)).trans (ev_set (i := 1) (ev_bin (g := dAdd) (ev_bin (g := dMul) (a := mVar 1) (b := mC (.int 2147483647)) (ev_int rfl) rfl (dMul_r (by decide))) (ev_bin (g := dMod) (ev_call1 (g := dInt2) (ev_bin (g := dPow) (a := mVar 3) (b := mC (.int 5)) (ev_int rfl) rfl (dPow_p (j := 5) ⟨x20, x21⟩ (by decide))) rfl) (ev_int rfl) (dMod_p p0)) rfl) (by simp))), ⟨ps, rfl, fun q hq => hp q (List.mem_cons_of_mem _ hq)⟩, { s2 with o := false }, _, _, _, _, ⟨h2.L, h2.C, h2.r, h2.t0, h2.t, h2.ls, h2.cs⟩, hL, ?_, rfl⟩
          have := Int.emod_nonneg (x2 ^ 5) (show p ≠ 0 by omega)
          omega) [.int 2147483629, .int 2147483587, .int 2147483579, .int 2147483563] [some ({ s with t := s.t + 1 } : Dr).d, some (.int 0), none, none, none] ⟨⟨[2147483629, 2147483587, 2147483579, 2147483563], rfl, by decide⟩, { s with t := s.t + 1 }, 0, none, none, none, h1, rfl, by decide, rfl⟩
  refine ⟨f4, hf4, s4, h4, hL4, ?_⟩
  have body : b__law_mixed [some s.d, none, none, none, none] = some (.rt (.int f4) [some s4.d, none, x4, y4, z4]) := by
    refine (ev_seq (put_turn (ev_bin (g := dAdd) (path_turn s _) (b := mC (.int 1)) rfl rfl))).trans ((ev_seq (ev_set (i := 1) (m := mC (.int 0)) rfl (by simp))).trans ((ev_seq ((ev_for (ds := [.int 2147483629, .int 2147483587, .int 2147483579, .int 2147483563]) rfl).trans eo)).trans (ev_ret rfl)))
  show (if ([s.d] : List D).length = 1 then match b__law_mixed [some s.d, none, none, none, none] with | some (.rt r δ) => (match backs P__law_mixed 0 [s.d] δ with | some bs => some (r, bs) | none => none) | some (.nx δ) => (match backs P__law_mixed 0 [s.d] δ with | some bs => some (D.non, bs) | none => none) | _ => none else none) = _
  rw [body]
  rfl
theorem take_ok {s : Dr} {b : Nat} {n : Int} (h : s.Ok b) (hb : b < 2 ^ 40) (hn : 0 < n) (hn2 : n < 1073741824) : ∃ v, 0 ≤ v ∧ v < n ∧ ∃ s' : Dr, s'.Ok (b + 1) ∧ m__law_take [s.d, .int n] = some (.int v, [s'.d, .int n]) := by
  have A : ∃ s1 : Dr, s1.Ok (b + 1) ∧ (sIf (toT (mBin dEq (mPath 0 (pSub pVar (kC (.str "rest")))) (mC (.int 0))))
      (sPut 0 pVar (kC (.str "rest")) (mIf (purT [true] (toT (mBin dNe (mPath 0 (pSub pVar (kC (.str "large")))) (mLst mNil)))) (mMethP "list" gPopAt 0 (pSub pVar (kC (.str "large"))) (ksCons (kC (.int 0)) ksNil)) (mCall m__law_mixed [.v 0] [])))
      sNil) [some s.d, some (.int n), none] = some (.nx [some s1.d, some (.int n), none]) := by
    have c0 : toT (mBin dEq (mPath 0 (pSub pVar (kC (.str "rest")))) (mC (.int 0))) [some s.d, some (.int n), none] = some (decide (s.r = 0), [some s.d, some (.int n), none]) := ev_toT (ev_bin (path_rest s _) (b := mC (.int 0)) rfl rfl)
    have up : s.Ok (b + 1) := ⟨h.L, h.C, h.r, h.t0, by have := h.t; push_cast; omega, h.ls, h.cs⟩
    by_cases hr : s.r = 0
    · rw [decide_eq_true hr] at c0
      rw [ev_if1 c0]
      cases hL : s.L with
      | nil =>
        obtain ⟨v, hv, s', h', _, e⟩ := mixed_ok h hb
        refine ⟨{ s' with r := v }, ⟨h'.L, h'.C, hv, h'.t0, h'.t, h'.ls, h'.cs⟩, put_rest ?_⟩
        rw [ev_if_e (ev_large s _), hL]
        exact ev_callv0 rfl e
      | cons x L =>
        have hx : 0 ≤ x := h.L x (by rw [hL]; exact List.mem_cons_self)
        refine ⟨{ s with L := L, r := x }, ⟨fun y hy => h.L y (by rw [hL]; exact List.mem_cons_of_mem _ hy), h.C, hx, h.t0, up.t, ?_, h.cs⟩, put_rest (s' := { s with L := L }) ?_⟩
        · have := h.ls
          rw [hL] at this
          simp at this
          show L.length ≤ 1000
          omega
        · rw [ev_if_e (ev_large s _), hL]
          exact ev_pop0 s hL _
    · rw [decide_eq_false hr] at c0
      rw [ev_if0 c0]
      exact ⟨s, up, rfl⟩
  obtain ⟨s1, h1, e1⟩ := A
  have r0 := h1.r
  refine ⟨s1.r % n, Int.emod_nonneg _ (by omega), Int.emod_lt_of_pos _ hn, { s1 with r := s1.r / n }, ⟨h1.L, h1.C, Int.ediv_nonneg r0 (by omega), h1.t0, h1.t, h1.ls, h1.cs⟩, ?_⟩
  have body : b__law_take [some s.d, some (.int n), none] = some (.rt (.int (s1.r % n)) [some ({ s1 with r := s1.r / n } : Dr).d, some (.int n), none]) :=
    (ev_seq e1).trans ((ev_seq (ev_set (i := 2) (ev_bin (g := dMod) (ev_call1 (g := dInt2) (path_rest s1 _) rfl) (ev_int rfl) (dMod_p hn)) (by simp))).trans ((ev_seq (put_rest (ev_bin (g := dFdiv) (path_rest s1 _) (ev_int rfl) (dFdiv_p hn hn2)))).trans (ev_ret rfl)))
  show (if ([s.d, .int n] : List D).length = 2 then match b__law_take [some s.d, some (.int n), none] with | some (.rt r δ) => (match backs P__law_take 0 [s.d, .int n] δ with | some bs => some (r, bs) | none => none) | some (.nx δ) => (match backs P__law_take 0 [s.d, .int n] δ with | some bs => some (D.non, bs) | none => none) | _ => none else none) = _
  rw [body]
  rfl
theorem pick_ok {s : Dr} {b : Nat} {o : Bool} {ds : List D} (h : s.Ok b) (hb : b < 2 ^ 40) (hn : ds ≠ []) (hn2 : ds.length ≤ 1000) : ∃ (j : Nat) (d : D), ds[j]? = some d ∧ ∃ s' : Dr, s'.Ok (b + 1) ∧ m__law_pick [s.d, .lst o ds] = some (fz d, [s'.d, .lst false (fzs ds)]) := by
  have hp : 0 < ds.length := List.length_pos_iff.mpr hn
  obtain ⟨v, v0, v1, s', h', e⟩ := take_ok (n := (ds.length : Int)) h hb (by omega) (by omega)
  have hv : v.toNat < ds.length := by omega
  obtain ⟨d, hd⟩ : ∃ d, ds[v.toNat]? = some d := ⟨ds[v.toNat], by simp [hv]⟩
  refine ⟨v.toNat, d, hd, s', h', ?_⟩
  have body : b__law_pick [some s.d, some (.lst o ds)] = some (.rt (fz d) [some s'.d, some (.lst false (fzs ds))]) := by
    refine ev_ret (ev_bin (g := dIx) (ev_varf (i := 1) (d := .lst o ds) rfl) (ev_callv0e (d := s.d) (d1 := s.d) (ev_call1 (g := dLen) (ev_var (i := 1) (d := .lst false (fzs ds)) rfl (isFz_fz (.lst o ds))) (d := .int ds.length) ?_) rfl e) ?_)
    · show some (D.int (fzs ds).length) = _
      rw [fzs_length]
    · show (atI (fzs ds) v).map fz = _
      rw [atI_nat v0 (fzs_get hd)]
      exact congrArg some (fz_fz d)
  show (if ([s.d, .lst o ds] : List D).length = 2 then match b__law_pick [some s.d, some (.lst o ds)] with | some (.rt r δ) => (match backs P__law_pick 0 [s.d, .lst o ds] δ with | some bs => some (r, bs) | none => none) | some (.nx δ) => (match backs P__law_pick 0 [s.d, .lst o ds] δ with | some bs => some (D.non, bs) | none => none) | _ => none else none) = _
  rw [body]
  rfl
theorem pick_str {s : Dr} {b : Nat} {z : Str} (h : s.Ok b) (hb : b < 2 ^ 40) (hn : 0 < z.length) (hn2 : z.length ≤ 1000) : ∃ (j : Nat) (c : Nat), z.cps.toList[j]? = some c ∧ ∃ s' : Dr, s'.Ok (b + 1) ∧ m__law_pick [s.d, .str z] = some (.str ⟨#[c]⟩, [s'.d, .str z]) := by
  obtain ⟨v, v0, v1, s', h', e⟩ := take_ok (n := (z.length : Int)) h hb (by omega) (by omega)
  have hz : z.cps.toList.length = z.length := Array.length_toList
  have hv : v.toNat < z.cps.toList.length := by omega
  obtain ⟨c, hc⟩ : ∃ c, z.cps.toList[v.toNat]? = some c := ⟨z.cps.toList[v.toNat], by simp [hv]⟩
  have hs : z.length ≤ sizeLine := Nat.le_trans hn2 (by decide)
  refine ⟨v.toNat, c, hc, s', h', ?_⟩
  have body : b__law_pick [some s.d, some (.str z)] = some (.rt (.str ⟨#[c]⟩) [some s'.d, some (.str z)]) := by
    refine ev_ret (ev_bin (g := dIx) (ev_var (i := 1) (d := .str z) rfl rfl) (ev_callv0e (d := s.d) (d1 := s.d) (ev_call1 (g := dLen) (ev_var (i := 1) (d := .str z) rfl rfl) (d := .int z.length) (if_pos hs)) rfl e) ?_)
    show (if z.length ≤ sizeLine then (atI z.cps.toList v).map fun c => D.str ⟨#[c]⟩ else none) = _
    rw [if_pos hs, atI_nat v0 hc]
    rfl
  show (if ([s.d, .str z] : List D).length = 2 then match b__law_pick [some s.d, some (.str z)] with | some (.rt r δ) => (match backs P__law_pick 0 [s.d, .str z] δ with | some bs => some (r, bs) | none => none) | some (.nx δ) => (match backs P__law_pick 0 [s.d, .str z] δ with | some bs => some (D.non, bs) | none => none) | _ => none else none) = _
  rw [body]
  rfl
def WS : List Str := ["a", "b", "aa", "act", "move", "same", "value", "people", "tell", "zzzzzz"]
theorem ws_lab : ∀ w ∈ WS, (1 ≤ w.length ∧ w.length ≤ 6 ∧ ∀ c ∈ w.cps.toList, 97 ≤ c ∧ c ≤ 122) := by decide +kernel
theorem letters_ok : ∀ c ∈ (Str.ofString "abcdefghijklmnopqrstuvwxyz").cps.toList, 97 ≤ c ∧ c ≤ 122 := by decide +kernel
theorem letters_len : (Str.ofString "abcdefghijklmnopqrstuvwxyz").length = 26 := by decide +kernel
theorem ws_split (δ : DL.Env) : (mMethV "str" gSplit (mC (.str "a b aa act move same value people tell zzzzzz")) (mCons (mC (.str " ")) mNil)) δ = some (.lst true (WS.map D.str), δ) := by kernel_rfl
theorem word_ok {s : Dr} {b : Nat} (h : s.Ok b) (hb : b + 10 < 2 ^ 40) : ∃ z, Lab z ∧ ∃ s' : Dr, s'.Ok (b + 10) ∧ m__law_word [s.d] = some (.str z, [s'.d]) := by
  have fin : ∀ {z : Str} {s' : Dr} {x y w : Option D}, b__law_word [some s.d, none, none, none] = some (.rt (.str z) [some s'.d, x, y, w]) → m__law_word [s.d] = some (.str z, [s'.d]) := fun {z s' x y w} e => by
    show (if ([s.d] : List D).length = 1 then match b__law_word [some s.d, none, none, none] with | some (.rt r δ) => (match backs P__law_word 0 [s.d] δ with | some bs => some (r, bs) | none => none) | some (.nx δ) => (match backs P__law_word 0 [s.d] δ with | some bs => some (D.non, bs) | none => none) | _ => none else none) = _
    rw [e]
    rfl
  obtain ⟨v, v0, v1, s1, h1, e1⟩ := take_ok (n := 3) h (by omega) (by decide) (by decide)
  have a1 := ev_set (i := 1) (ws_split [some s.d, none, none, none]) (by simp)
  have t1 : toT (mBin dGt (mCall m__law_take [.v 0, .e (mC (.int 3))] []) (mC (.int 0))) [some s.d, some (.lst true (WS.map D.str)), none, none] = some (decide (0 < v), [some s1.d, some (.lst true (WS.map D.str)), none, none]) :=
    ev_toT (ev_bin (g := dGt) (ev_callv0e (d := s.d) (d1 := s.d) (a := mC (.int 3)) rfl rfl e1) (b := mC (.int 0)) rfl rfl)
  by_cases hv : 0 < v
  · rw [decide_eq_true hv] at t1
    obtain ⟨j, d, hd, s2, h2, e2⟩ := pick_ok (o := false) (ds := WS.map D.str) h1 (by omega) (by decide) (by decide)
    rw [List.getElem?_map] at hd
    obtain ⟨w, hw, rfl⟩ := Option.map_eq_some_iff.mp hd
    obtain ⟨l1, l2, l3⟩ := ws_lab w (List.mem_of_getElem? hw)
    refine ⟨w, ⟨l1, l2, l3⟩, s2, h2.mono (by omega), fin (x := some (.lst false (fzs (WS.map D.str)))) (y := none) (w := none) ?_⟩
    exact (ev_seq a1).trans (ev_stop ((ev_if1 t1).trans (ev_ret (ev_callv0e (d := s1.d) (d1 := s1.d) (a := mVar 1) (x := .lst false (WS.map D.str)) (ev_varf (i := 1) (d := .lst true (WS.map D.str)) rfl) rfl e2))))
  · rw [decide_eq_false hv] at t1
    obtain ⟨n, n0, n1, s2, h2, e2⟩ := take_ok (n := 6) h1 (by omega) (by decide) (by decide)
    have hrng : mRng1 (mCons (mBin dAdd (mC (.int 1)) (mCall m__law_take [.v 0, .e (mC (.int 6))] [])) mNil) [some s1.d, some (.lst true (WS.map D.str)), some (.str "abcdefghijklmnopqrstuvwxyz"), none] = some (rngD 0 (1 + n).toNat, [some s2.d, some (.lst true (WS.map D.str)), some (.str "abcdefghijklmnopqrstuvwxyz"), none]) :=
      ev_rng (ev_bin (g := dAdd) (a := mC (.int 1)) rfl (ev_callv0e (d := s1.d) (d1 := s1.d) (a := mC (.int 6)) rfl rfl e2) rfl) (by omega) (by omega)
    obtain ⟨δ', acc, el, hr, s3, cs, x, hs3, rfl, hc, hl, rfl⟩ := loopC_ind (own := [3]) (t := tName 3) (c := tTrue) (m := mCall m__law_pick [.v 0, .e (mVar 2)] [])
      (J := fun r δ acc => r.length ≤ 6 ∧ ∃ (s3 : Dr) (cs : List Nat) (x : Unit), s3.Ok (b + 8 - r.length) ∧ acc = (cs.map fun c => D.str ⟨#[c]⟩) ∧ (∀ c ∈ cs, 97 ≤ c ∧ c ≤ 122) ∧ cs.length + r.length = (1 + n).toNat ∧ δ = [some s3.d, some (.lst true (WS.map D.str)), some (.str "abcdefghijklmnopqrstuvwxyz"), none])
      (fun d r δ acc hJ => by
        obtain ⟨hr, s3, cs, x, hs3, rfl, hc, hl, rfl⟩ := hJ
        simp only [List.length_cons] at hr hs3 hl
        obtain ⟨j, c, hcj, s4, h4, e4⟩ := pick_str (z := "abcdefghijklmnopqrstuvwxyz") hs3 (by omega) (by rw [letters_len]; decide) (by rw [letters_len]; decide)
        refine ⟨_, _, rfl, .inr ⟨rfl, _, _, ev_callv0e (d := s3.d) (d1 := s3.d) (a := mVar 2) (x := .str "abcdefghijklmnopqrstuvwxyz") (ev_var (i := 2) rfl rfl) rfl e4, by omega, s4, cs ++ [c], (), h4.mono (by omega), by simp, fun q hq => ?_, by simp; omega, rfl⟩⟩
        (rcases List.mem_append.mp hq with hq | hq)
        · exact hc q hq
        · (rw [List.mem_singleton.mp hq])
          exact letters_ok c (List.mem_of_getElem? hcj)) (rngD 0 (1 + n).toNat) [some s2.d, some (.lst true (WS.map D.str)), some (.str "abcdefghijklmnopqrstuvwxyz"), none] [] ⟨by rw [rng_len]; omega, s2, [], (), h2.mono (by rw [rng_len]; omega), rfl, by simp, by rw [rng_len]; simp, rfl⟩
    have hcl : cs.length = (1 + n).toNat := by simpa using hl
    refine ⟨Txt.join "" (cs.map fun c => (⟨#[c]⟩ : Str)), ⟨?_, ?_, ?_⟩, s3, hs3.mono (by simp), fin (x := some (.lst true (WS.map D.str))) (y := some (.str "abcdefghijklmnopqrstuvwxyz")) (w := none) ?_⟩
    · show 1 ≤ Array.size _
      rw [← Array.length_toList, join_signs]; omega
    · show Array.size _ ≤ 6
      rw [← Array.length_toList, join_signs]; omega
    · rw [join_signs]; exact hc
    · refine (ev_seq a1).trans ?_
      have nx : (sIf (toT (mBin dGt (mCall m__law_take [.v 0, .e (mC (.int 3))] []) (mC (.int 0)))) (sRet (mCall m__law_pick [.v 0, .e (mVar 1)] [])) sNil) [some s.d, some (.lst true (WS.map D.str)), none, none] = some (.nx [some s1.d, some (.lst true (WS.map D.str)), none, none]) := by
        rw [ev_if0 t1]; rfl
      refine (ev_seq nx).trans ((ev_seq (ev_set (i := 2) (m := mC (.str "abcdefghijklmnopqrstuvwxyz")) rfl (by simp))).trans (ev_ret ?_))
      have lc := ev_lc hrng (own := [3]) (by rw [rng_len]; exact Nat.le_trans (show (1 + n).toNat ≤ 6 by omega) (by decide)) el
      have g1 : gJoin (.str "") [.lst true (cs.map fun c => D.str ⟨#[c]⟩)] = some (.str (Txt.join "" (cs.map fun c => (⟨#[c]⟩ : Str)))) := by
        have es : strsOf (cs.map fun c => D.str ⟨#[c]⟩) = some (cs.map fun c => (⟨#[c]⟩ : Str)) := by
          have := strs_strs (cs.map fun c => (⟨#[c]⟩ : Str))
          rw [List.map_map] at this
          exact this
        simp only [gJoin, es, sum_ones]
        refine if_pos ?_
        rw [List.length_map, show (Str.ofString "").length = 0 from rfl]
        omega
      exact ev_methV (a := mC (.str "")) rfl (tyD_str _) (ev_cons lc rfl) g1
end K47
set_option Elab.async false
set_option linter.all false
set_option maxRecDepth 100000
set_option maxHeartbeats 0
namespace K47
open PySem PySem.Spec PyProof.Rows L2 DL
def ks1 : List Int := [0, 1, 7, 10, 100000000000000]
def ks2 : List Int := [0, 3, 12, 100]
inductive Fr : D → Prop
  | tell {z : Str} {k : Int} {ws : List Str} : Lab z → k ∈ ks1 → 1 ≤ ws.length → ws.length ≤ 3 → (∀ w ∈ ws, Lab w) → Fr (.tup [.str "tell", .str z, .int k, .tup (ws.map D.str)])
  | ask {z : Str} {a b c d : Int} : Lab z → 1 ≤ a → a ≤ 12 → 1 ≤ b → b ≤ 12 → 0 ≤ c → c ≤ 5 → d ∈ ks2 → Fr (.tup [.str "ask", .str z, .int a, .int b, .int c, .int d])
  | told {z w : Str} {a b : Int} : Lab z → 1 ≤ a → a ≤ 12 → 1 ≤ b → b ≤ 12 → (w = "landed" ∨ w = "left") → Fr (.tup [.str "told", .str z, .int a, .int b, .str w])
theorem l1_ev (δ : DL.Env) : mFz (mLst (mCons (mC (.int 0)) (mCons (mC (.int 1)) (mCons (mC (.int 7)) (mCons (mC (.int 10)) (mCons (mBin dPow (mC (.int 10)) (mC (.int 14))) mNil)))))) δ = some (.lst false (ks1.map D.int), δ) := by kernel_rfl
theorem l2_ev (δ : DL.Env) : mFz (mLst (mCons (mC (.int 0)) (mCons (mC (.int 3)) (mCons (mC (.int 12)) (mCons (mC (.int 100)) mNil))))) δ = some (.lst false (ks2.map D.int), δ) := by kernel_rfl
theorem l3_ev (δ : DL.Env) : mFz (mLst (mCons (mC (.str "landed")) (mCons (mC (.str "left")) mNil))) δ = some (.lst false ([Str.ofString "landed", Str.ofString "left"].map D.str), δ) := by kernel_rfl
theorem pick_ints {s : Dr} {b : Nat} {L : List Int} (h : s.Ok b) (hb : b < 2 ^ 40) (hn : L ≠ []) (hn2 : L.length ≤ 1000) : ∃ k ∈ L, ∃ s' : Dr, s'.Ok (b + 1) ∧ ∃ x', m__law_pick [s.d, .lst false (L.map D.int)] = some (.int k, [s'.d, x']) := by
  obtain ⟨j, d, hd, s', h', e⟩ := pick_ok (o := false) (ds := L.map D.int) h hb (by simpa using hn) (by simpa using hn2)
  rw [List.getElem?_map] at hd
  obtain ⟨k, hk, rfl⟩ := Option.map_eq_some_iff.mp hd
  exact ⟨k, List.mem_of_getElem? hk, s', h', _, e⟩
theorem pick_strs {s : Dr} {b : Nat} {L : List Str} (h : s.Ok b) (hb : b < 2 ^ 40) (hn : L ≠ []) (hn2 : L.length ≤ 1000) : ∃ k ∈ L, ∃ s' : Dr, s'.Ok (b + 1) ∧ ∃ x', m__law_pick [s.d, .lst false (L.map D.str)] = some (.str k, [s'.d, x']) := by
  obtain ⟨j, d, hd, s', h', e⟩ := pick_ok (o := false) (ds := L.map D.str) h hb (by simpa using hn) (by simpa using hn2)
  rw [List.getElem?_map] at hd
  obtain ⟨k, hk, rfl⟩ := Option.map_eq_some_iff.mp hd
  exact ⟨k, List.mem_of_getElem? hk, s', h', _, e⟩
theorem any_ok {s : Dr} {b : Nat} (h : s.Ok b) (hb : b + 60 < 2 ^ 40) : ∃ f, Fr f ∧ ∃ s' : Dr, s'.Ok (b + 60) ∧ m__law_any_frame [s.d] = some (f, [s'.d]) := by
  have fin : ∀ {f : D} {s' : Dr} {x1 x2 x3 x4 x5 x6 : Option D}, b__law_any_frame [some s.d, none, none, none, none, none, none] = some (.rt f [some s'.d, x1, x2, x3, x4, x5, x6]) → m__law_any_frame [s.d] = some (f, [s'.d]) := fun {f s' x1 x2 x3 x4 x5 x6} e => by
    show (if ([s.d] : List D).length = 1 then match b__law_any_frame [some s.d, none, none, none, none, none, none] with | some (.rt r δ) => (match backs P__law_any_frame 0 [s.d] δ with | some bs => some (r, bs) | none => none) | some (.nx δ) => (match backs P__law_any_frame 0 [s.d] δ with | some bs => some (D.non, bs) | none => none) | _ => none else none) = _
    rw [e]
    rfl
  obtain ⟨z, hz, s1, h1, e1⟩ := word_ok h (by omega)
  obtain ⟨a, a0, a1, s2, h2, e2⟩ := take_ok (n := 12) h1 (by omega) (by decide) (by decide)
  obtain ⟨c, c0, c1, s3, h3, e3⟩ := take_ok (n := 12) h2 (by omega) (by decide) (by decide)
  obtain ⟨v, v0, v1, s4, h4, e4⟩ := take_ok (n := 3) h3 (by omega) (by decide) (by decide)
  have q1 := ev_par3 (i := 1) (j := 2) (k := 3) (δ := [some s.d, none, none, none, none, none, none]) (ev_cons (ev_callv0 rfl e1) (ev_cons (ev_bin (g := dAdd) (a := mC (.int 1)) rfl (ev_callv0e (d := s1.d) (d1 := s1.d) (a := mC (.int 12)) rfl rfl e2) rfl) (ev_cons (ev_bin (g := dAdd) (a := mC (.int 1)) rfl (ev_callv0e (d := s2.d) (d1 := s2.d) (a := mC (.int 12)) rfl rfl e3) rfl) (r := mNil) rfl))) (by simp) (by simp) (by simp)
  have q2 := ev_set (i := 4) (δ := [some s3.d, some (.str z), some (.int (1 + a)), some (.int (1 + c)), none, none, none]) (ev_callv0e (d := s3.d) (d1 := s3.d) (a := mC (.int 3)) rfl rfl e4) (by simp)
  have t1 : toT (mBin dEq (mVar 4) (mC (.int 0))) [some s4.d, some (.str z), some (.int (1 + a)), some (.int (1 + c)), some (.int v), none, none] = some (decide (v = 0), [some s4.d, some (.str z), some (.int (1 + a)), some (.int (1 + c)), some (.int v), none, none]) := ev_toT (ev_bin (ev_int rfl) (b := mC (.int 0)) rfl rfl)
  have t2 : toT (mBin dEq (mVar 4) (mC (.int 1))) [some s4.d, some (.str z), some (.int (1 + a)), some (.int (1 + c)), some (.int v), none, none] = some (decide (v = 1), [some s4.d, some (.str z), some (.int (1 + a)), some (.int (1 + c)), some (.int v), none, none]) := ev_toT (ev_bin (ev_int rfl) (b := mC (.int 1)) rfl rfl)
  by_cases hv : v = 0
  · rw [decide_eq_true hv] at t1
    obtain ⟨n, n0, n1, s5, h5, e5⟩ := take_ok (n := 3) h4 (by omega) (by decide) (by decide)
    have hrng : mRng1 (mCons (mBin dAdd (mC (.int 1)) (mCall m__law_take [.v 0, .e (mC (.int 3))] [])) mNil) [some s4.d, some (.str z), some (.int (1 + a)), some (.int (1 + c)), some (.int v), none, none] = some (rngD 0 (1 + n).toNat, [some s5.d, some (.str z), some (.int (1 + a)), some (.int (1 + c)), some (.int v), none, none]) :=
      ev_rng (ev_bin (g := dAdd) (a := mC (.int 1)) rfl (ev_callv0e (d := s4.d) (d1 := s4.d) (a := mC (.int 3)) rfl rfl e5) rfl) (by omega) (by omega)
    obtain ⟨δ', acc, el, hr, s6, ws, hs6, rfl, hw, hl, rfl⟩ := loopC_ind (own := [6]) (t := tName 6) (c := tTrue) (m := mCall m__law_word [.v 0] [])
      (J := fun r δ acc => r.length ≤ 3 ∧ ∃ (s6 : Dr) (ws : List Str), s6.Ok (b + 44 - 10 * r.length) ∧ acc = ws.map D.str ∧ (∀ w ∈ ws, Lab w) ∧ ws.length + r.length = (1 + n).toNat ∧ δ = [some s6.d, some (.str z), some (.int (1 + a)), some (.int (1 + c)), some (.int v), none, none])
      (fun d r δ acc hJ => by
        obtain ⟨hr, s6, ws, hs6, rfl, hw, hl, rfl⟩ := hJ
        simp only [List.length_cons] at hr hs6 hl
        obtain ⟨w, hw1, s7, h7, e7⟩ := word_ok hs6 (by omega)
        refine ⟨_, _, rfl, .inr ⟨rfl, _, _, ev_callv0 rfl e7, by omega, s7, ws ++ [w], h7.mono (by omega), by simp, fun q hq => ?_, by simp; omega, rfl⟩⟩
        (rcases List.mem_append.mp hq with hq | hq)
        · exact hw q hq
        · rw [List.mem_singleton.mp hq]; exact hw1) (rngD 0 (1 + n).toNat) [some s5.d, some (.str z), some (.int (1 + a)), some (.int (1 + c)), some (.int v), none, none] [] ⟨by rw [rng_len]; omega, s5, [], h5.mono (by rw [rng_len]; omega), rfl, by simp, by rw [rng_len]; simp, rfl⟩
    have hwl : ws.length = (1 + n).toNat := by simpa using hl
    have lc := ev_lc hrng (own := [6]) (by rw [rng_len]; exact Nat.le_trans (show (1 + n).toNat ≤ 3 by omega) (by decide)) el
    obtain ⟨k, hk, s7, h7, x7, e7⟩ := pick_ints (L := ks1) (hs6.mono (Nat.le_refl _)) (by simp; omega) (by decide) (by decide)
    refine ⟨.tup [.str "tell", .str z, .int k, .tup (ws.map D.str)], .tell hz hk (by omega) (by omega) hw, s7, h7.mono (by simp), fin (x1 := none) (x2 := some (.int (1 + a))) (x3 := some (.int (1 + c))) (x4 := some (.int v)) (x5 := none) (x6 := none) ?_⟩
    refine (ev_seq q1).trans ((ev_seq q2).trans (ev_stop ((ev_if1 t1).trans ((ev_seq (ev_set (i := 5) (ev_call1 (g := dTuple) lc rfl) (by simp))).trans (ev_ret (ev_tup (xs := [.str "tell", .str z, .int k, .tup (ws.map D.str)]) ?_ (show 4 ≤ sizeLine by decide)))))))
    exact ev_cons (a := mC (.str "tell")) rfl (ev_cons (ev_mv rfl) (ev_cons (ev_callv0e (l1_ev _) rfl e7) (ev_cons (ev_mv rfl) (r := mNil) rfl)))
  · rw [decide_eq_false hv] at t1
    have n1 : (sIf (toT (mBin dEq (mVar 4) (mC (.int 0)))) (sCons (sSet 5 (mCallB dTuple (mCons (mLc (mRng1 (mCons (mBin dAdd (mC (.int 1)) (mCall m__law_take [.v 0, .e (mC (.int 3))] [])) mNil)) [6] (tName 6) tTrue (mCall m__law_word [.v 0] [])) mNil)))
      (sRet (mTup (mCons (mC (.str "tell")) (mCons (mMv 1) (mCons (mCall m__law_pick [.v 0, .e (mFz (mLst (mCons (mC (.int 0)) (mCons (mC (.int 1)) (mCons (mC (.int 7)) (mCons (mC (.int 10)) (mCons (mBin dPow (mC (.int 10)) (mC (.int 14))) mNil)))))))] []) (mCons (mMv 5) mNil))))))) sNil) [some s4.d, some (.str z), some (.int (1 + a)), some (.int (1 + c)), some (.int v), none, none] = some (.nx [some s4.d, some (.str z), some (.int (1 + a)), some (.int (1 + c)), some (.int v), none, none]) := (ev_if0 t1).trans rfl
    by_cases hv1 : v = 1
    · rw [decide_eq_true hv1] at t2
      obtain ⟨n, n0, n1', s5, h5, e5⟩ := take_ok (n := 6) h4 (by omega) (by decide) (by decide)
      obtain ⟨k, hk, s7, h7, x7, e7⟩ := pick_ints (L := ks2) h5 (by omega) (by decide) (by decide)
      refine ⟨.tup [.str "ask", .str z, .int (1 + a), .int (1 + c), .int n, .int k], .ask hz (by omega) (by omega) (by omega) (by omega) n0 (by omega) hk, s7, h7.mono (by omega), fin (x1 := none) (x2 := none) (x3 := none) (x4 := some (.int v)) (x5 := none) (x6 := none) ?_⟩
      refine (ev_seq q1).trans ((ev_seq q2).trans ((ev_seq n1).trans (ev_stop ((ev_if1 t2).trans (ev_ret (ev_tup (xs := [.str "ask", .str z, .int (1 + a), .int (1 + c), .int n, .int k]) ?_ (show 6 ≤ sizeLine by decide)))))))
      exact ev_cons (a := mC (.str "ask")) rfl (ev_cons (ev_mv rfl) (ev_cons (ev_mv rfl) (ev_cons (ev_mv rfl) (ev_cons (ev_callv0e (d := s4.d) (d1 := s4.d) (a := mC (.int 6)) rfl rfl e5) (ev_cons (ev_callv0e (l2_ev _) rfl e7) (r := mNil) rfl)))))
    · rw [decide_eq_false hv1] at t2
      obtain ⟨k, hk, s7, h7, x7, e7⟩ := pick_strs (L := [Str.ofString "landed", Str.ofString "left"]) h4 (by omega) (by decide) (by decide)
      refine ⟨.tup [.str "told", .str z, .int (1 + a), .int (1 + c), .str k], .told hz (by omega) (by omega) (by omega) (by omega) (by simpa using hk), s7, h7.mono (by omega), fin (x1 := none) (x2 := none) (x3 := none) (x4 := some (.int v)) (x5 := none) (x6 := none) ?_⟩
      refine (ev_seq q1).trans ((ev_seq q2).trans ((ev_seq n1).trans ((ev_seq ((ev_if0 t2).trans rfl)).trans (ev_ret (ev_tup (xs := [.str "told", .str z, .int (1 + a), .int (1 + c), .str k]) ?_ (show 5 ≤ sizeLine by decide))))))
      exact ev_cons (a := mC (.str "told")) rfl (ev_cons (ev_mv rfl) (ev_cons (ev_mv rfl) (ev_cons (ev_mv rfl) (ev_cons (ev_callv0e (l3_ev _) rfl e7) (r := mNil) rfl))))
end K47
set_option Elab.async false
set_option linter.all false
set_option maxRecDepth 100000
set_option maxHeartbeats 0
set_option exponentiation.threshold 2003
namespace K47.J
open PySem PySem.Spec PyProof.Rows L2 DL
open K47
theorem ev_atA {ds : List D} {d : D} {k : Nat} {δ : DL.Env} (hf : isFzs ds = true) (hk : ds[k]? = some d) : mAlt (mPath 0 (pSub pVar (kC (.int k)))) (mBin dIx (mVar 0) (mC (.int k))) (some (.tup ds) :: δ) = some (d, some (.tup ds) :: δ) := ev_altE (DL.ev_at hf hk)
theorem any_tupA {m : ME} {z : MI} {δ δ1 : DL.Env} {ws : List D} (h : m δ = some (.tup ws, δ1)) (hf : isFzs ws = true) : iAlt (iAny m) z δ = some (ws, δ1) := ev_altI (any_tup h hf)
theorem ev_callf0A {m : MF} {d d' r : D} {δ : DL.Env} (hf : isFz d = true) (h : m [d] = some (r, [d'])) : mCall m [.e (mVar 0)] [] (some d :: δ) = some (r, some d :: δ) := ev_calle1 (ev_var (i := 0) rfl hf) h
theorem ev_callfiA {m : MF} {d d' r : D} {δ : DL.Env} {i : Nat} (hi : δ[i]? = some (some d)) (hf : isFz d = true) (h : m [d] = some (r, [d'])) : mCall m [.e (mVar i)] [] δ = some (r, δ) := ev_calle1 (ev_var (i := i) hi hf) h
def CH : List Nat := [97, 98, 99, 100, 101, 102, 103, 104, 105, 106, 107, 108, 109, 110, 111, 112, 113, 114, 115, 116, 117, 118, 119, 120, 121, 122, 65, 48, 49, 50, 51, 52, 53, 54, 55, 56, 57, 32, 44, 45]
def intB (i : Int) : Bool := decide (0 ≤ i) && decide (i < 10 ^ 400)
def wordB (z : Str) : Bool := decide (z.length ≤ 400) && z.cps.toList.all fun c => CH.contains c
def atomB : D → Bool
  | .non => true
  | .bl _ => true
  | .int i => intB i
  | .str z => wordB z
  | _ => false
def it1B : D → Bool
  | .tup ds => decide (ds.length ≤ 400) && ds.all atomB
  | .lst false ds => decide (ds.length ≤ 400) && ds.all atomB
  | .dct false [] [] => true
  | d => atomB d
def it2B : D → Bool
  | .tup ds => decide (ds.length ≤ 400) && ds.all it1B
  | .lst false ds => decide (ds.length ≤ 400) && ds.all it1B
  | d => it1B d
def small (c : Nat) : Bool := decide (97 ≤ c) && decide (c ≤ 122)
def labB : D → Bool
  | .str z => decide (1 ≤ z.length) && decide (z.length ≤ 6) && z.cps.toList.all small
  | _ => false
def cntB (k : Int) : D → Bool
  | .int i => decide (k ≤ i)
  | _ => false
theorem atom_it {d : D} (h : atomB d = true) : it1B d = true := by
  cases d <;> simp_all [atomB, it1B]
theorem atom_fz {d : D} (h : atomB d = true) : isFz d = true := by
  cases d <;> simp_all [atomB, isFz]
theorem atoms_fz {ds : List D} (h : ds.all atomB = true) : isFzs ds = true := isFzs_iff.mpr fun d hd => atom_fz (List.all_eq_true.mp h d hd)
theorem it1_fz {d : D} (h : it1B d = true) : isFz d = true := by
  unfold it1B at h
  split at h
  · simp only [Bool.and_eq_true] at h
    exact atoms_fz h.2
  · simp only [Bool.and_eq_true] at h
    show (!false && isFzs _) = true
    rw [atoms_fz h.2]; rfl
  · rfl
  · exact atom_fz h
theorem its_fz {ds : List D} (h : ds.all it1B = true) : isFzs ds = true := isFzs_iff.mpr fun d hd => it1_fz (List.all_eq_true.mp h d hd)
theorem it2_fz {d : D} (h : it2B d = true) : isFz d = true := by
  unfold it2B at h
  split at h
  · simp only [Bool.and_eq_true] at h
    exact its_fz h.2
  · simp only [Bool.and_eq_true] at h
    show (!false && isFzs _) = true
    rw [its_fz h.2]; rfl
  · exact it1_fz h
/-- what isinstance says -/
def isB (t : BT) : D → Bool
  | .bl _ => decide (t = .bool) || decide (t = .int)
  | .int _ => decide (t = .int)
  | .str _ => decide (t = .str)
  | .tup _ => decide (t = .tup)
  | .lst _ _ => decide (t = .lst)
  | .dct _ _ _ => decide (t = .dct)
  | _ => false
theorem isi_ok {d : D} (t : BT) (h : it2B d = true) : dIsi [d, .ty t] = some (.bl (isB t d)) := by
  unfold it2B it1B atomB at h
  cases d <;> first | rfl | simp at h
theorem it1_it2 {d : D} (h : it1B d = true) : it2B d = true := by
  cases d with
  | tup ds =>
    simp only [it1B, it2B, Bool.and_eq_true, decide_eq_true_eq, List.all_eq_true] at h ⊢
    exact ⟨by omega, fun x hx => atom_it (h.2 x hx)⟩
  | lst o ds =>
    cases o
    · simp only [it1B, it2B, Bool.and_eq_true, decide_eq_true_eq, List.all_eq_true] at h ⊢
      exact ⟨by omega, fun x hx => atom_it (h.2 x hx)⟩
    · exact h
  | _ => exact h
theorem in_letters : ∀ c ∈ CH, dIn (.str ⟨#[c]⟩) (.str "abcdefghijklmnopqrstuvwxyz") = some (.bl (small c)) := by
  have h : ∀ c ∈ CH, dInB (.str ⟨#[c]⟩) (.str "abcdefghijklmnopqrstuvwxyz") = some (small c) := by decide +kernel
  intro c hc
  unfold dIn
  rw [h c hc]; rfl
theorem notIn_letters : ∀ c ∈ CH, dNotIn (.str ⟨#[c]⟩) (.str "abcdefghijklmnopqrstuvwxyz") = some (.bl (!small c)) := by
  have h : ∀ c ∈ CH, dInB (.str ⟨#[c]⟩) (.str "abcdefghijklmnopqrstuvwxyz") = some (small c) := by decide +kernel
  intro c hc
  unfold dNotIn
  rw [h c hc]; rfl
theorem signs_of {z : Str} (h : wordB z = true) : z.length ≤ 400 ∧ ∀ c ∈ z.cps.toList, c ∈ CH := by
  unfold wordB at h
  simp only [Bool.and_eq_true, decide_eq_true_eq, List.all_eq_true] at h
  exact ⟨h.1, fun c hc => by simpa using h.2 c hc⟩
theorem txt_any {z : Str} {δ : DL.Env} : iAlt (iAny (mVar 0)) (keysAt 0 pVar) (some (.str z) :: δ) = some (z.cps.toList.map fun c => D.str ⟨#[c]⟩, some (.str z) :: δ) := ev_altI rfl
theorem fin1 {N : Nat} {P : Nat → Bool} {b : MS} {x r : D} {δ : DL.Env} (hP : P 0 = true) (h : b (some x :: List.replicate (N - 1) none) = some (.rt r (some x :: δ))) : mFun 1 N P b [x] = some (r, [x]) := by
  show (if ([x] : List D).length = 1 then match b (some x :: List.replicate (N - 1) none) with | some (.rt r δ) => (match backs P 0 [x] δ with | some bs => some (r, bs) | none => none) | some (.nx δ) => (match backs P 0 [x] δ with | some bs => some (D.non, bs) | none => none) | _ => none else none) = _
  rw [h]
  show (match backs P 0 [x] (some x :: δ) with | some bs => some (r, bs) | none => none) = _
  have : backs P 0 [x] (some x :: δ) = some [x] := by simp [backs, hP]
  rw [this]
theorem name_ok {v : D} (h : it1B v = true) : m_is_name [v] = some (.bl (labB v), [v]) := by
  refine fin1 (N := 2) rfl (δ := [none]) (ev_ret ?_)
  have e1 := ev_callB (g := dIsi) (ev_cons (ev_var (i := 0) (δ := [some v, none]) rfl (it1_fz h)) (ev_cons (a := mC (.ty .str)) rfl (r := mNil) rfl)) (isi_ok .str (it1_it2 h))
  by_cases hs : ∃ z, v = .str z
  · obtain ⟨z, rfl⟩ := hs
    obtain ⟨h7, hc⟩ := signs_of h
    have hz : z.length ≤ sizeLine := Nat.le_trans h7 (by decide)
    refine (ev_and1 e1).trans ?_
    have e2 := ev_chain (g := dLe) (g' := dLe) (a := mC (.int 1)) (c := mC (.int 6)) (δ := [some (.str z), none]) rfl (ev_call1 (g := dLen) (ev_var (i := 0) (d := .str z) rfl rfl) (d := .int z.length) (if_pos hz)) rfl rfl rfl rfl
    have e3 : (mCallB dAll (mCons (mLc (iAlt (iAny (mVar 0)) (keysAt 0 pVar)) [1] (tName 1) tTrue (mBin dIn (mVar 1) (mC (.str "abcdefghijklmnopqrstuvwxyz")))) mNil)) [some (.str z), none] = some (.bl (z.cps.toList.all small), [some (.str z), none]) := by
      have lc := loopC_map (own := [1]) (t := tName 1) (m := mBin dIn (mVar 1) (mC (.str "abcdefghijklmnopqrstuvwxyz"))) (f := fun d => match d with | .str y => .bl (y.cps.toList.all small) | _ => .non) (δ0 := [some (.str z), none]) (ds := z.cps.toList.map fun c => D.str ⟨#[c]⟩) (acc := []) (fun d hd => by
        obtain ⟨c, hc1, rfl⟩ := List.mem_map.mp hd
        refine ⟨_, _, rfl, ev_bin (g := dIn) (ev_var (i := 1) (d := .str ⟨#[c]⟩) rfl rfl) (b := mC (.str "abcdefghijklmnopqrstuvwxyz")) rfl ?_, rfl⟩
        rw [in_letters c (hc c hc1)]
        show _ = some (D.bl (small c && true))
        rw [Bool.and_true])
      refine ev_call1 (g := dAll) (ev_lc txt_any (own := [1]) (by rw [List.length_map, Array.length_toList]; exact hz) lc) ?_
      rw [List.nil_append, List.map_map]
      have e : blsOf (z.cps.toList.map ((fun d => match d with | .str y => D.bl (y.cps.toList.all small) | _ => .non) ∘ fun c => D.str ⟨#[c]⟩)) = some (z.cps.toList.map small) := by
        have : ∀ l : List Nat, blsOf (l.map ((fun d => match d with | .str y => D.bl (y.cps.toList.all small) | _ => .non) ∘ fun c => D.str ⟨#[c]⟩)) = some (l.map small) := by
          intro l
          induction l with
          | nil => rfl
          | cons c l ih =>
            simp only [List.map_cons, Function.comp] at ih ⊢
            simp only [blsOf, ih]
            simp
        exact this _
      show (blsOf _).map _ = _
      rw [e]
      simp [List.all_map]
    have e4 := ev_and e2 (fun _ => e3)
    refine e4.trans ?_
    congr 3
    show (decide ((1 : Int) ≤ z.length) && decide ((z.length : Int) ≤ 6) && _) = (decide (1 ≤ z.length) && decide (z.length ≤ 6) && _)
    congr 1
    congr 1 <;> exact decide_eq_decide.mpr (by omega)
  · have hb : isB .str v = false := by cases v <;> first | rfl | exact absurd ⟨_, rfl⟩ hs
    have hl : labB v = false := by cases v <;> first | rfl | exact absurd ⟨_, rfl⟩ hs
    rw [hb] at e1
    rw [hl]
    exact ev_and0 e1
theorem label_ok {v : D} (h : it1B v = true) : m__law_is_label [v] = some (.bl (labB v), [v]) := by
  have e1 := ev_callB (g := dIsi) (ev_cons (ev_var (i := 0) (δ := [some v, none]) rfl (it1_fz h)) (ev_cons (a := mC (.ty .str)) rfl (r := mNil) rfl)) (isi_ok .str (it1_it2 h))
  by_cases hs : ∃ z, v = .str z
  · obtain ⟨z, rfl⟩ := hs
    obtain ⟨h7, hc⟩ := signs_of h
    have hz : z.length ≤ sizeLine := Nat.le_trans h7 (by decide)
    have e2 := ev_chain (g := dLt) (g' := dLt) (a := mC (.int 0)) (c := mC (.int 7)) (δ := [some (.str z), none]) rfl (ev_call1 (g := dLen) (ev_var (i := 0) (d := .str z) rfl rfl) (d := .int z.length) (if_pos hz)) rfl rfl rfl rfl
    have c1 := ev_or2 (ev_not1 (ev_tru e1)) (fun _ => ev_not1 (ev_toT e2))
    have lc := loopC_filter (own := [1]) (t := tName 1) (c := toT (mBin dNotIn (mVar 1) (mC (.str "abcdefghijklmnopqrstuvwxyz")))) (m := mVar 1) (p := fun d => match d with | .str y => !(y.cps.toList.all small) | _ => true) (δ0 := [some (.str z), none]) (ds := z.cps.toList.map fun c => D.str ⟨#[c]⟩) (acc := []) (fun d hd => by
      obtain ⟨c, hc1, rfl⟩ := List.mem_map.mp hd
      refine ⟨_, rfl, ev_toT (ev_bin (g := dNotIn) (ev_var (i := 1) (d := .str ⟨#[c]⟩) rfl rfl) (b := mC (.str "abcdefghijklmnopqrstuvwxyz")) rfl ?_), rfl, _, ev_var (i := 1) (d := .str ⟨#[c]⟩) rfl rfl, rfl⟩
      rw [notIn_letters c (hc c hc1)]
      show _ = some (D.bl !(small c && true))
      rw [Bool.and_true])
    have e3 := ev_bin (g := dEq) (ev_lc (txt_any (z := z) (δ := [none])) (own := [1]) (by rw [List.length_map, Array.length_toList]; exact hz) lc) (b := mLst mNil) (y := .lst true []) rfl (d := .bl (([] ++ (z.cps.toList.map fun c => D.str ⟨#[c]⟩).filter fun d => match d with | .str y => !(y.cps.toList.all small) | _ => true) : List D).isEmpty) rfl
    have hE : ((([] ++ (z.cps.toList.map fun c => D.str ⟨#[c]⟩).filter fun d => match d with | .str y => !(y.cps.toList.all small) | _ => true) : List D).isEmpty) = z.cps.toList.all small := by
      rw [List.nil_append]
      have : ∀ l : List Nat, (((l.map fun c => D.str ⟨#[c]⟩).filter fun d => match d with | .str y => !(y.cps.toList.all small) | _ => true) : List D).isEmpty = l.all small := by
        intro l
        induction l with
        | nil => rfl
        | cons c l ih =>
          rw [List.map_cons, List.filter_cons]
          cases hs : small c with
          | true => simpa [hs] using ih
          | false => simp [hs]
      exact this _
    rw [hE] at e3
    refine fin1 (N := 2) rfl (δ := [none]) ?_
    by_cases hl : 1 ≤ z.length ∧ z.length ≤ 6
    · have c0 : (!isB .str (.str z) || !(decide ((0 : Int) < z.length) && decide ((z.length : Int) < 7))) = false := by
        have a : decide ((0 : Int) < z.length) = true := decide_eq_true (by omega)
        have b : decide ((z.length : Int) < 7) = true := decide_eq_true (by omega)
        rw [a, b]; rfl
      have c1' := c1.trans (by rw [show (!isB BT.str (D.str z) || !(decide ((0 : Int) < z.length) && decide ((z.length : Int) < 7))) = false from c0])
      refine (ev_seq ((ev_if0 c1').trans rfl)).trans ((ev_ret e3).trans ?_)
      have : labB (.str z) = z.cps.toList.all small := by
        show (decide (1 ≤ z.length) && decide (z.length ≤ 6) && _) = _
        rw [decide_eq_true hl.1, decide_eq_true hl.2]; rfl
      rw [this]
    · have c0 : (!isB .str (.str z) || !(decide ((0 : Int) < z.length) && decide ((z.length : Int) < 7))) = true := by
        have : (decide ((0 : Int) < z.length) && decide ((z.length : Int) < 7)) = false := by
          rw [← Bool.not_eq_true, Bool.and_eq_true, decide_eq_true_eq, decide_eq_true_eq]
          omega
        rw [this, Bool.not_false, Bool.or_true]
      have c1' := c1.trans (by rw [show (!isB BT.str (D.str z) || !(decide ((0 : Int) < z.length) && decide ((z.length : Int) < 7))) = true from c0])
      refine (ev_stop ((ev_if1 c1').trans (ev_ret (m := mC (.bl false)) rfl))).trans ?_
      have : labB (.str z) = false := by
        show (decide (1 ≤ z.length) && decide (z.length ≤ 6) && _) = false
        have : (decide (1 ≤ z.length) && decide (z.length ≤ 6)) = false := by
          rw [← Bool.not_eq_true, Bool.and_eq_true, decide_eq_true_eq, decide_eq_true_eq]
          exact hl
        rw [this]; rfl
      rw [this]
  · have hb : isB .str v = false := by cases v <;> first | rfl | exact absurd ⟨_, rfl⟩ hs
    have hl : labB v = false := by cases v <;> first | rfl | exact absurd ⟨_, rfl⟩ hs
    rw [hb] at e1
    rw [hl]
    refine fin1 (N := 2) rfl (δ := [none]) (ev_stop ((ev_if1 ?_).trans (ev_ret (m := mC (.bl false)) rfl)))
    exact ev_or2 (q := true) (ev_not1 (ev_tru e1)) (fun h => by cases h)
theorem fin2 {N : Nat} {P : Nat → Bool} {b : MS} {x y r : D} {δ : DL.Env} (hP : P 0 = true) (hP1 : P 1 = true) (h : b (some x :: some y :: List.replicate (N - 2) none) = some (.rt r (some x :: some y :: δ))) : mFun 2 N P b [x, y] = some (r, [x, y]) := by
  show (if ([x, y] : List D).length = 2 then match b (some x :: some y :: List.replicate (N - 2) none) with | some (.rt r δ) => (match backs P 0 [x, y] δ with | some bs => some (r, bs) | none => none) | some (.nx δ) => (match backs P 0 [x, y] δ with | some bs => some (D.non, bs) | none => none) | _ => none else none) = _
  rw [h]
  show (match backs P 0 [x, y] (some x :: some y :: δ) with | some bs => some (r, bs) | none => none) = _
  have : backs P 0 [x, y] (some x :: some y :: δ) = some [x, y] := by simp [backs, hP, hP1]
  rw [this]
def numB (d : D) : Bool := isB .int d && !isB .bool d
theorem number_ok {v : D} (h : it1B v = true) : m_is_number [v] = some (.bl (numB v), [v]) := by
  have e1 := ev_callB (g := dIsi) (ev_cons (ev_var (i := 0) (δ := [some v]) rfl (it1_fz h)) (ev_cons (a := mC (.ty .int)) rfl (r := mNil) rfl)) (isi_ok .int (it1_it2 h))
  have e2 := ev_callB (g := dIsi) (ev_cons (ev_var (i := 0) (δ := [some v]) rfl (it1_fz h)) (ev_cons (a := mC (.ty .bool)) rfl (r := mNil) rfl)) (isi_ok .bool (it1_it2 h))
  exact fin1 (N := 1) rfl (δ := []) (ev_ret (ev_and e1 fun _ => ev_not e2))
theorem ge_num {v : D} {k : Int} (h : numB v = true) : dGe v (.int k) = some (.bl (cntB k v)) ∧ numB v = true := by
  refine ⟨?_, h⟩
  cases v <;> first | rfl | (simp [numB, isB] at h)
theorem cnt_num {v : D} {k : Int} : (numB v && cntB k v) = cntB k v := by
  cases v <;> first | rfl | simp [numB, isB, cntB]
theorem count_ok {v : D} (k : Int) (h : it1B v = true) : m_is_count [v, .int k] = some (.bl (cntB k v), [v, .int k]) := by
  have e1 := ev_callf0A (δ := [some (.int k)]) (it1_fz h) (number_ok h)
  have := fin2 (N := 2) (P := P_is_count) (b := b_is_count) (x := v) (y := .int k) (δ := []) rfl rfl (ev_ret (ev_and e1 (q := cntB k v) fun hn => ev_bin (g := dGe) (ev_var (i := 0) rfl (it1_fz h)) (ev_int (i := 1) rfl) (ge_num hn).1))
  rw [cnt_num] at this
  exact this
theorem lcount_ok {v : D} (k : Int) (h : it1B v = true) : m__law_is_count [v, .int k] = some (.bl (cntB k v), [v, .int k]) := by
  have e1 := ev_callB (g := dIsi) (ev_cons (ev_var (i := 0) (δ := [some v, some (.int k)]) rfl (it1_fz h)) (ev_cons (a := mC (.ty .int)) rfl (r := mNil) rfl)) (isi_ok .int (it1_it2 h))
  have e2 := ev_callB (g := dIsi) (ev_cons (ev_var (i := 0) (δ := [some v, some (.int k)]) rfl (it1_fz h)) (ev_cons (a := mC (.ty .bool)) rfl (r := mNil) rfl)) (isi_ok .bool (it1_it2 h))
  by_cases hn : numB v = true
  · have hn2 := hn
    unfold numB at hn2
    rw [Bool.and_eq_true] at hn2
    have := fin2 (N := 2) (P := P__law_is_count) (b := b__law_is_count) (x := v) (y := .int k) (δ := []) rfl rfl (ev_ret (ev_and e1 fun _ => ev_and (ev_not e2) (q := cntB k v) fun _ => ev_bin (g := dGe) (ev_var (i := 0) rfl (it1_fz h)) (ev_int (i := 1) rfl) (ge_num hn).1))
    rw [hn2.1, hn2.2, Bool.true_and, Bool.true_and] at this
    exact this
  · have hc : cntB k v = false := by
      have := cnt_num (v := v) (k := k)
      rw [show numB v = false by simpa using hn] at this
      exact this.symm
    rw [hc]
    unfold numB at hn
    refine fin2 (N := 2) (P := P__law_is_count) (b := b__law_is_count) (x := v) (y := .int k) (δ := []) rfl rfl (ev_ret ?_)
    cases hi : isB .int v with
    | false =>
      rw [hi] at e1
      exact ev_and0 e1
    | true =>
      rw [hi] at e1 hn
      refine (ev_and1 e1).trans (ev_and0 ((ev_not e2).trans ?_))
      have : isB .bool v = true := by simpa using hn
      rw [this]; rfl
end K47.J
set_option Elab.async false
set_option linter.all false
set_option maxRecDepth 100000
set_option maxHeartbeats 0
set_option exponentiation.threshold 2003
namespace K47.J
open PySem PySem.Spec PyProof.Rows L2 DL
open K47
def le5 : D → Bool
  | .int i => decide (i ≤ 5)
  | _ => false
def landB : D → Bool
  | .str z => decide (z = "landed") || decide (z = "left")
  | _ => false
def tellB : List D → Bool
  | [_, _, a, .tup ws] => cntB 0 a && (decide (1 ≤ ws.length) && decide (ws.length ≤ 3) && ws.all labB)
  | _ => false
def askB : List D → Bool
  | [_, _, a, b, c, d] => cntB 1 a && cntB 1 b && (cntB 0 c && (le5 c && cntB 0 d))
  | _ => false
def toldB : List D → Bool
  | [_, _, a, b, w] => cntB 1 a && cntB 1 b && landB w
  | _ => false
section
variable {ds : List D} {r : DL.Env}
theorem len_ev (hf : isFzs ds = true) : (mCallB dLen (mCons (mVar 0) mNil)) (some (.tup ds) :: r) = some (.int ds.length, some (.tup ds) :: r) := ev_call1 (g := dLen) (ev_var (i := 0) (d := .tup ds) rfl hf) rfl
theorem lenNe_ev (hf : isFzs ds = true) (k : Int) : toT (mBin dNe (mCallB dLen (mCons (mVar 0) mNil)) (mC (.int k))) (some (.tup ds) :: r) = some (!decide ((ds.length : Int) = k), some (.tup ds) :: r) := ev_toT (ev_bin (len_ev hf) (b := mC (.int k)) rfl rfl)
theorem cnt_ev {a : D} {k : Nat} {j : Int} (hf : isFzs ds = true) (hk : ds[k]? = some a) (ha : it1B a = true) : (mCall m_is_count [.e (mAlt (mPath 0 (pSub pVar (kC (.int k)))) (mBin dIx (mVar 0) (mC (.int k)))), .e (mC (.int j))] []) (some (.tup ds) :: r) = some (.bl (cntB j a), some (.tup ds) :: r) := ev_calle2 (ev_atA hf hk) (b := mC (.int j)) rfl (count_ok j ha)
theorem lcnt_ev {a : D} {k : Nat} {j : Int} (hf : isFzs ds = true) (hk : ds[k]? = some a) (ha : it1B a = true) : (mCall m__law_is_count [.e (mAlt (mPath 0 (pSub pVar (kC (.int k)))) (mBin dIx (mVar 0) (mC (.int k)))), .e (mC (.int j))] []) (some (.tup ds) :: r) = some (.bl (cntB j a), some (.tup ds) :: r) := ev_calle2 (ev_atA hf hk) (b := mC (.int j)) rfl (lcount_ok j ha)
theorem isiAt_ev {a : D} {k : Nat} (t : BT) (hf : isFzs ds = true) (hk : ds[k]? = some a) (ha : it1B a = true) : (mCallB dIsi (mCons (mAlt (mPath 0 (pSub pVar (kC (.int k)))) (mBin dIx (mVar 0) (mC (.int k)))) (mCons (mC (.ty t)) mNil))) (some (.tup ds) :: r) = some (.bl (isB t a), some (.tup ds) :: r) :=
  ev_callB (g := dIsi) (ev_cons (ev_atA hf hk) (ev_cons (a := mC (.ty t)) rfl (r := mNil) rfl)) (isi_ok t (it1_it2 ha))
end
theorem all_at {ds : List D} (h : ds.all it1B = true) {k : Nat} {a : D} (hk : ds[k]? = some a) : it1B a = true := List.all_eq_true.mp h a (List.mem_of_getElem? hk)
theorem isTup {a : D} (h : isB .tup a = true) : ∃ ws, a = .tup ws := by
  cases a <;> first | exact ⟨_, rfl⟩ | simp [isB] at h
theorem atoms_of {ws : List D} (h : it1B (.tup ws) = true) : ws.length ≤ 400 ∧ ∀ w ∈ ws, atomB w = true := by
  simp only [it1B, Bool.and_eq_true, decide_eq_true_eq, List.all_eq_true] at h
  exact h
theorem tell_ok {ds : List D} (h : ds.all it1B = true) : m_is_tell [.tup ds] = some (.bl (tellB ds), [.tup ds]) := by
  have hf := its_fz h
  refine fin1 (N := 2) rfl (δ := [none]) ?_
  by_cases h4 : ds.length = 4
  · match ds, h4, h, hf with
    | [a0, a1, a2, a3], h4, h, hf =>
      have c1 := lenNe_ev (r := [none]) hf 4
      have c2 := ev_not1 (ev_tru (cnt_ev (r := [none]) (k := 2) (j := 0) hf rfl (all_at h (k := 2) rfl)))
      have c3 := ev_not1 (ev_tru (isiAt_ev (r := [none]) (k := 3) .tup hf rfl (all_at h (k := 3) rfl)))
      have c := ev_or2 c1 (fun _ => ev_or2 c2 (fun _ => c3))
      by_cases hc : cntB 0 a2 = true ∧ isB .tup a3 = true
      · obtain ⟨ws, rfl⟩ := isTup hc.2
        obtain ⟨hw8, hwa⟩ := atoms_of (all_at h (k := 3) rfl)
        have hwf : isFzs ws = true := isFzs_iff.mpr fun d hd => atom_fz (hwa d hd)
        have c0 : (!decide ((([a0, a1, a2, .tup ws] : List D).length : Int) = 4) || (!cntB 0 a2 || !isB .tup (.tup ws))) = false := by
          rw [hc.1, hc.2]; rfl
        rw [c0] at c
        have e1 := ev_chain (g := dLe) (g' := dLe) (a := mC (.int 1)) (c := mC (.int 3)) (δ := [some (.tup [a0, a1, a2, .tup ws]), none]) rfl (ev_call1 (g := dLen) (ev_atA (k := 3) hf rfl) (d := .int ws.length) rfl) rfl rfl rfl rfl
        have lc := loopC_map (own := [1]) (t := tName 1) (m := mCall m_is_name [.e (mVar 1)] []) (f := fun d => .bl (labB d)) (δ0 := [some (.tup [a0, a1, a2, .tup ws]), none]) (ds := ws) (acc := []) (fun d hd => ⟨_, _, rfl, ev_callfiA (i := 1) rfl (atom_fz (hwa d hd)) (name_ok (atom_it (hwa d hd))), rfl⟩)
        have e2 := ev_call1 (g := dAll) (ev_lc (any_tupA (z := keysAt 0 (pSub pVar (kC (.int 3)))) (ev_atA (k := 3) (δ := [none]) hf rfl) hwf) (own := [1]) (Nat.le_trans hw8 (by decide)) lc) (d := .bl ((ws.map labB).all id)) (by
          show (blsOf _).map _ = _
          rw [List.nil_append, bls_of]; rfl)
        refine (ev_seq ((ev_if0 c).trans rfl)).trans ((ev_ret (ev_and e1 fun _ => e2)).trans ?_)
        have : tellB [a0, a1, a2, .tup ws] = ((decide ((1 : Int) ≤ ws.length) && decide ((ws.length : Int) ≤ 3)) && (ws.map labB).all id) := by
          show (cntB 0 a2 && _) = _
          rw [hc.1, Bool.true_and]
          congr 1
          · congr 1 <;> exact decide_eq_decide.mpr (by omega)
          · simp [List.all_map]
        rw [this]
      · have c0 : (!decide ((([a0, a1, a2, a3] : List D).length : Int) = 4) || (!cntB 0 a2 || !isB .tup a3)) = true := by
          cases x : cntB 0 a2 <;> cases y : isB .tup a3 <;> simp_all
        rw [c0] at c
        have : tellB [a0, a1, a2, a3] = false := by
          unfold tellB
          split
          · rename_i ws e
            cases e
            have : cntB 0 a2 = false := by
              cases x : cntB 0 a2
              · rfl
              · exact absurd ⟨x, rfl⟩ hc
            rw [this]; rfl
          · rfl
        rw [this]
        exact ev_stop ((ev_if1 c).trans (ev_ret (m := mC (.bl false)) rfl))
  · have c := ev_or2 (q := true) (b := tOr2 (tNot1 (mTru (mCall m_is_count [.e (mAlt (mPath 0 (pSub pVar (kC (.int 2)))) (mBin dIx (mVar 0) (mC (.int 2)))), .e (mC (.int 0))] []))) (tNot1 (mTru (mCallB dIsi (mCons (mAlt (mPath 0 (pSub pVar (kC (.int 3)))) (mBin dIx (mVar 0) (mC (.int 3)))) (mCons (mC (.ty .tup)) mNil)))))) (lenNe_ev (r := [none]) hf 4) (fun h => by
      have : decide ((ds.length : Int) = 4) = false := decide_eq_false (by omega)
      rw [this] at h; cases h)
    have c0 : (!decide ((ds.length : Int) = 4) || true) = true := by simp
    rw [c0] at c
    have : tellB ds = false := by
      unfold tellB
      split
      · exact absurd rfl h4
      · rfl
    rw [this]
    exact ev_stop ((ev_if1 c).trans (ev_ret (m := mC (.bl false)) rfl))
theorem or2_true {a b : MT} {δ : DL.Env} (h : a δ = some (true, δ)) : tOr2 a b δ = some (true, δ) := by
  unfold tOr2
  rw [h]
theorem le5_ev {a : D} (h : cntB 0 a = true) : dLe a (.int 5) = some (.bl (le5 a)) := by
  cases a <;> first | rfl | simp [cntB] at h
theorem ask_ok {ds : List D} (h : ds.all it1B = true) : m_is_ask [.tup ds] = some (.bl (askB ds), [.tup ds]) := by
  have hf := its_fz h
  refine fin1 (N := 1) rfl (δ := []) ?_
  by_cases h6 : ds.length = 6
  · match ds, h6, h, hf with
    | [a0, a1, a2, a3, a4, a5], h6, h, hf =>
      have c1 := lenNe_ev (r := []) hf 6
      have c2 := ev_not1 (ev_tru (cnt_ev (r := []) (k := 2) (j := 1) hf rfl (all_at h (k := 2) rfl)))
      have c3 := ev_not1 (ev_tru (cnt_ev (r := []) (k := 3) (j := 1) hf rfl (all_at h (k := 3) rfl)))
      have c := ev_or2 c1 (fun _ => ev_or2 c2 (fun _ => c3))
      by_cases hc : cntB 1 a2 = true ∧ cntB 1 a3 = true
      · have c0 : (!decide ((([a0, a1, a2, a3, a4, a5] : List D).length : Int) = 6) || (!cntB 1 a2 || !cntB 1 a3)) = false := by
          rw [hc.1, hc.2]; rfl
        rw [c0] at c
        have e := ev_and (cnt_ev (r := []) (k := 4) (j := 0) hf rfl (all_at h (k := 4) rfl)) (fun h0 => ev_and (ev_bin (g := dLe) (ev_atA (k := 4) hf rfl) (b := mC (.int 5)) rfl (le5_ev h0)) (fun _ => cnt_ev (r := []) (k := 5) (j := 0) hf rfl (all_at h (k := 5) rfl)))
        refine (ev_seq ((ev_if0 c).trans rfl)).trans ((ev_ret e).trans ?_)
        have : askB [a0, a1, a2, a3, a4, a5] = (cntB 0 a4 && (le5 a4 && cntB 0 a5)) := by
          show (cntB 1 a2 && cntB 1 a3 && _) = _
          rw [hc.1, hc.2]; rfl
        rw [this]
      · have hn : (cntB 1 a2 && cntB 1 a3) = false := by
          cases x : cntB 1 a2 <;> cases y : cntB 1 a3 <;> simp_all
        have c0 : (!decide ((([a0, a1, a2, a3, a4, a5] : List D).length : Int) = 6) || (!cntB 1 a2 || !cntB 1 a3)) = true := by
          cases x : cntB 1 a2 <;> cases y : cntB 1 a3 <;> simp_all
        rw [c0] at c
        have : askB [a0, a1, a2, a3, a4, a5] = false := by
          show (cntB 1 a2 && cntB 1 a3 && _) = _
          rw [hn]; rfl
        rw [this]
        exact ev_stop ((ev_if1 c).trans (ev_ret (m := mC (.bl false)) rfl))
  · have c1 := lenNe_ev (r := []) hf 6
    have : decide ((ds.length : Int) = 6) = false := decide_eq_false (by omega)
    rw [this] at c1
    have : askB ds = false := by
      unfold askB
      split
      · exact absurd rfl h6
      · rfl
    rw [this]
    exact ev_stop ((ev_if1 (or2_true c1)).trans (ev_ret (m := mC (.bl false)) rfl))
theorem land_in0 {z : Str} (hz : PyData.strOk z = true) : dIn (.str z) (.tup [.str "landed", .str "left"]) = some (.bl (landB (.str z))) := by
  have e : pyIn (.str z) (.tup [.str "landed", .str "left"]) = some (landB (.str z)) := by
    have s1 : SeqAt.shaped (.str z) = true := by
      unfold SeqAt.shaped
      simp only [PyData.canLay0, hz]; rfl
    have s2 : SeqAt.shaped (.tuple [.str "landed", .str "left"]) = true := by decide +kernel
    unfold pyIn
    simp only [toPy, toPys, Option.map_some, s1, s2]
    show some _ = some _
    congr 1
    show (PyData.eqv (.str "landed") (.str z) || (PyData.eqv (.str "left") (.str z) || false)) = (decide (z = "landed") || decide (z = "left"))
    simp only [PyData.eqv, Bool.or_false]
    congr 1
    · by_cases h : z = "landed"
      · simp [h]
      · simp [h, show ¬ (Str.ofString "landed" = z) from fun e => h e.symm]
    · by_cases h : z = "left"
      · simp [h]
      · simp [h, show ¬ (Str.ofString "left" = z) from fun e => h e.symm]
  show (pyIn (.str z) (.tup [.str "landed", .str "left"])).map D.bl = _
  rw [e]; rfl
theorem land_in {z : Str} (hw : wordB z = true) : dIn (.str z) (.tup [.str "landed", .str "left"]) = some (.bl (landB (.str z))) := by
  refine land_in0 ?_
  obtain ⟨h1, h2⟩ := signs_of hw
  have hm : ∀ c ∈ CH, c < 0x110000 := by decide
  unfold PyData.strOk
  (rw [← Array.all_toList, List.all_eq_true])
  exact fun c hc => decide_eq_true (hm c (h2 c hc))
theorem told_ok {ds : List D} (h : ds.all it1B = true) : m_is_told [.tup ds] = some (.bl (toldB ds), [.tup ds]) := by
  have hf := its_fz h
  refine fin1 (N := 1) rfl (δ := []) ?_
  by_cases h5 : ds.length = 5
  · match ds, h5, h, hf with
    | [a0, a1, a2, a3, a4], h5, h, hf =>
      have c1 := lenNe_ev (r := []) hf 5
      have c2 := ev_not1 (ev_tru (cnt_ev (r := []) (k := 2) (j := 1) hf rfl (all_at h (k := 2) rfl)))
      have c3 := ev_not1 (ev_tru (cnt_ev (r := []) (k := 3) (j := 1) hf rfl (all_at h (k := 3) rfl)))
      have c := ev_or2 c1 (fun _ => ev_or2 c2 (fun _ => c3))
      by_cases hc : cntB 1 a2 = true ∧ cntB 1 a3 = true
      · have c0 : (!decide ((([a0, a1, a2, a3, a4] : List D).length : Int) = 5) || (!cntB 1 a2 || !cntB 1 a3)) = false := by
          rw [hc.1, hc.2]; rfl
        rw [c0] at c
        have e := ev_and (isiAt_ev (r := []) (k := 4) .str hf rfl (all_at h (k := 4) rfl)) (q := landB a4) (fun h0 => by
          have : ∃ z, a4 = .str z := by cases a4 <;> first | exact ⟨_, rfl⟩ | simp [isB] at h0
          obtain ⟨z, rfl⟩ := this
          exact ev_bin (g := dIn) (ev_atA (k := 4) hf rfl) (b := mC (.tup [.str "landed", .str "left"])) rfl (land_in (all_at h (k := 4) (a := .str z) rfl)))
        refine (ev_seq ((ev_if0 c).trans rfl)).trans ((ev_ret e).trans ?_)
        have : toldB [a0, a1, a2, a3, a4] = (isB .str a4 && landB a4) := by
          show (cntB 1 a2 && cntB 1 a3 && landB a4) = _
          rw [hc.1, hc.2]
          cases a4 <;> rfl
        rw [this]
      · have hn : (cntB 1 a2 && cntB 1 a3) = false := by
          cases x : cntB 1 a2 <;> cases y : cntB 1 a3 <;> simp_all
        have c0 : (!decide ((([a0, a1, a2, a3, a4] : List D).length : Int) = 5) || (!cntB 1 a2 || !cntB 1 a3)) = true := by
          cases x : cntB 1 a2 <;> cases y : cntB 1 a3 <;> simp_all
        rw [c0] at c
        have : toldB [a0, a1, a2, a3, a4] = false := by
          show (cntB 1 a2 && cntB 1 a3 && _) = _
          rw [hn]; rfl
        rw [this]
        exact ev_stop ((ev_if1 c).trans (ev_ret (m := mC (.bl false)) rfl))
  · have c1 := lenNe_ev (r := []) hf 5
    have : decide ((ds.length : Int) = 5) = false := decide_eq_false (by omega)
    rw [this] at c1
    have : toldB ds = false := by
      unfold toldB
      split
      · exact absurd rfl h5
      · rfl
    rw [this]
    exact ev_stop ((ev_if1 (or2_true c1)).trans (ev_ret (m := mC (.bl false)) rfl))
/-- the head of a frame: a text, a label -/
def headB (t : Str) : List D → Bool
  | .str z :: l :: _ => decide (z = t) && labB l
  | _ => false
def frB : D → Bool
  | .tup ds => (headB "tell" ds && tellB ds) || (headB "ask" ds && askB ds) || (headB "told" ds && toldB ds)
  | _ => false
theorem str_eq_ev {ds : List D} {r : DL.Env} {z t : Str} (hf : isFzs ds = true) (hk : ds[0]? = some (.str z)) : toT (mBin dEq (mAlt (mPath 0 (pSub pVar (kC (.int 0)))) (mBin dIx (mVar 0) (mC (.int 0)))) (mC (.str t))) (some (.tup ds) :: r) = some (decide (z = t), some (.tup ds) :: r) := ev_toT (ev_bin (ev_atA (k := 0) hf hk) (b := mC (.str t)) rfl rfl)
theorem s_at : decide (Str.ofString "ask" = Str.ofString "tell") = false := by decide +kernel
theorem s_ad : decide (Str.ofString "ask" = Str.ofString "told") = false := by decide +kernel
theorem s_ta : decide (Str.ofString "tell" = Str.ofString "ask") = false := by decide +kernel
theorem s_td : decide (Str.ofString "tell" = Str.ofString "told") = false := by decide +kernel
theorem frame_ok {x : D} (h : it2B x = true) : m_is_frame [x] = some (.bl (frB x), [x]) := by
  have hx := it2_fz h
  refine fin1 (N := 1) rfl (δ := []) ?_
  have e1 := ev_not1 (ev_tru (ev_callB (g := dIsi) (ev_cons (ev_var (i := 0) (δ := [some x]) rfl hx) (ev_cons (a := mC (.ty .tup)) rfl (r := mNil) rfl)) (isi_ok .tup h)))
  by_cases ht : ∃ ds, x = .tup ds
  · obtain ⟨ds, rfl⟩ := ht
    have hi : ds.all it1B = true := by
      simp only [it2B, Bool.and_eq_true] at h
      exact h.2
    have hf := its_fz hi
    have e2 : toT (mBin dLt (mCallB dLen (mCons (mVar 0) mNil)) (mC (.int 2))) [some (.tup ds)] = some (decide ((ds.length : Int) < 2), [some (.tup ds)]) := ev_toT (ev_bin (len_ev hf) (b := mC (.int 2)) rfl rfl)
    match ds, hi, hf, e1, e2 with
    | [], hi, hf, e1, e2 => exact ev_stop ((ev_if1 (ev_or2 (q := true) e1 fun _ => or2_true e2)).trans (ev_ret (m := mC (.bl false)) rfl))
    | [a], hi, hf, e1, e2 =>
      have : frB (.tup [a]) = false := by cases a <;> rfl
      rw [this]
      exact ev_stop ((ev_if1 (ev_or2 (q := true) e1 fun _ => or2_true e2)).trans (ev_ret (m := mC (.bl false)) rfl))
    | a :: l :: r, hi, hf, e1, e2 =>
      have e3 := ev_not1 (ev_tru (isiAt_ev (r := []) (k := 0) .str hf rfl (all_at hi (k := 0) rfl)))
      have e4 := ev_not1 (ev_tru (ev_calle1 (ev_atA (k := 1) (δ := []) hf rfl) (name_ok (all_at hi (k := 1) rfl))))
      have h2 : decide ((((a :: l :: r) : List D).length : Int) < 2) = false := decide_eq_false (by simp; omega)
      rw [h2] at e2
      have c := ev_or2 e1 (fun _ => ev_or2 e2 (fun _ => ev_or2 e3 (fun _ => e4)))
      by_cases hc : isB .str a = true ∧ labB l = true
      · have : ∃ z, a = .str z := by cases a <;> first | exact ⟨_, rfl⟩ | simp [isB] at hc
        obtain ⟨z, rfl⟩ := this
        have c0 : (!isB .tup (.tup (.str z :: l :: r)) || (false || (!isB .str (.str z) || !labB l))) = false := by rw [hc.2]; rfl
        rw [c0] at c
        refine (ev_seq ((ev_if0 c).trans rfl)).trans ?_
        have t1 := str_eq_ev (r := []) (t := "tell") hf rfl
        have t2 := str_eq_ev (r := []) (t := "ask") hf rfl
        have t3 := ev_bin (g := dEq) (ev_atA (k := 0) (δ := []) hf rfl) (b := mC (.str "told")) rfl (d := .bl (decide (z = "told"))) rfl
        have hh : ∀ t : Str, headB t (.str z :: l :: r) = decide (z = t) := fun t => by
          show (decide (z = t) && labB l) = _
          rw [hc.2, Bool.and_true]
        by_cases z1 : z = "tell"
        · rw [decide_eq_true z1] at t1
          refine (ev_stop ((ev_if1 t1).trans (ev_ret (ev_callf0A hf (tell_ok hi))))).trans ?_
          have : frB (.tup (.str z :: l :: r)) = tellB (.str z :: l :: r) := by
            show (headB "tell" _ && _ || headB "ask" _ && _ || headB "told" _ && _) = _
            rw [hh, hh, hh, z1, s_ta, s_td]
            simp
          rw [this]
        · rw [decide_eq_false z1] at t1
          refine (ev_seq ((ev_if0 t1).trans rfl)).trans ?_
          by_cases z2 : z = "ask"
          · rw [decide_eq_true z2] at t2
            refine (ev_stop ((ev_if1 t2).trans (ev_ret (ev_callf0A hf (ask_ok hi))))).trans ?_
            have : frB (.tup (.str z :: l :: r)) = askB (.str z :: l :: r) := by
              show (headB "tell" _ && _ || headB "ask" _ && _ || headB "told" _ && _) = _
              rw [hh, hh, hh, z2, s_at, s_ad]
              simp
            rw [this]
          · rw [decide_eq_false z2] at t2
            refine (ev_seq ((ev_if0 t2).trans rfl)).trans ((ev_ret (ev_and t3 fun _ => ev_callf0A hf (told_ok hi))).trans ?_)
            have : frB (.tup (.str z :: l :: r)) = (decide (z = "told") && toldB (.str z :: l :: r)) := by
              show (headB "tell" _ && _ || headB "ask" _ && _ || headB "told" _ && _) = _
              rw [hh, hh, hh, decide_eq_false z1, decide_eq_false z2]
              simp
            rw [this]
      · have c0 : (!isB .tup (.tup (a :: l :: r)) || (false || (!isB .str a || !labB l))) = true := by
          cases p : isB .str a <;> cases q : labB l <;> simp_all
        rw [c0] at c
        have : frB (.tup (a :: l :: r)) = false := by
          have hh : ∀ t : Str, headB t (a :: l :: r) = false := fun t => by
            cases a <;> first | rfl | skip
            show (_ && labB l) = false
            have : labB l = false := by
              cases q : labB l
              · rfl
              · exact absurd ⟨rfl, q⟩ hc
            rw [this, Bool.and_false]
          show (headB "tell" _ && _ || headB "ask" _ && _ || headB "told" _ && _) = _
          rw [hh, hh, hh]; rfl
        rw [this]
        exact ev_stop ((ev_if1 c).trans (ev_ret (m := mC (.bl false)) rfl))
  · have hb : isB .tup x = false := by cases x <;> first | rfl | exact absurd ⟨_, rfl⟩ ht
    have hl : frB x = false := by cases x <;> first | rfl | exact absurd ⟨_, rfl⟩ ht
    rw [hb] at e1
    rw [hl]
    exact ev_stop ((ev_if1 (or2_true e1)).trans (ev_ret (m := mC (.bl false)) rfl))
end K47.J
set_option Elab.async false
set_option linter.all false
set_option maxRecDepth 100000
set_option maxHeartbeats 0
set_option exponentiation.threshold 2003
namespace K47.J
open PySem PySem.Spec PyProof.Rows L2 DL
open K47
structure Bd (n : Nat) (y : Str) : Prop where
  ok : ∀ c ∈ y.cps.toList, c < 0x110000
  len : y.length ≤ n
theorem Bd.mono {n m : Nat} {y : Str} (h : Bd n y) (hm : n ≤ m) : Bd m y := ⟨h.ok, Nat.le_trans h.len hm⟩
theorem cps_app (x y : Str) : (x ++ y).cps.toList = x.cps.toList ++ y.cps.toList := TL.tl_append x y
theorem Bd.app {n m : Nat} {x y : Str} (h : Bd n x) (k : Bd m y) : Bd (n + m) (x ++ y) := by
  refine ⟨fun c hc => ?_, by rw [strLen_append]; exact Nat.add_le_add h.len k.len⟩
  rw [cps_app] at hc
  (rcases List.mem_append.mp hc with hc | hc)
  · exact h.ok c hc
  · exact k.ok c hc
theorem bd_lit {y : Str} (h : (y.cps.toList.all fun c => decide (c < 0x110000)) = true) : Bd y.length y := ⟨fun c hc => by simpa using List.all_eq_true.mp h c hc, Nat.le_refl _⟩
theorem bd_cs : Bd 2 (Str.ofString ", ") := (bd_lit (by decide +kernel)).mono (by decide +kernel)
theorem Bd.join {n : Nat} : ∀ {ts : List Str}, (∀ t ∈ ts, Bd n t) → Bd (ts.length * (n + 2)) (Str.join ", " ts)
  | [], _ => ⟨fun c hc => (by cases hc), Nat.zero_le _⟩
  | [x], h => (h x List.mem_cons_self).mono (by simp)
  | x :: y :: r, h => by
    have ih := Bd.join (ts := y :: r) fun t ht => h t (List.mem_cons_of_mem _ ht)
    have e : Str.join ", " (x :: y :: r) = x ++ Str.ofString ", " ++ Str.join ", " (y :: r) := rfl
    rw [e]
    refine (((h x List.mem_cons_self).app bd_cs).app ih).mono ?_
    simp only [List.length_cons, Nat.add_mul]
    omega
theorem Bd.tuple {n : Nat} {ts : List Str} (h : ∀ t ∈ ts, Bd n t) : Bd (ts.length * (n + 2) + 3) (tupleText ts) := by
  have a : Bd 1 (Str.ofString "(") := (bd_lit (by decide +kernel)).mono (by decide +kernel)
  have b : ∀ k : Bool, Bd 2 (Str.ofString (if k then ",)" else ")")) := fun k => by cases k <;> exact (bd_lit (by decide +kernel)).mono (by decide +kernel)
  exact (((a.app (Bd.join h)).app (b (ts.length == 1)))).mono (by omega)
theorem textFrom_bd {n : Nat} : ∀ {ts : List Str} {k m : Nat} {acc : Str}, Bd m acc → (∀ t ∈ ts, Bd n t) → Bd (m + ts.length * (n + 2)) (textFrom k acc ts)
  | [], k, m, acc, h, _ => h.mono (by omega)
  | t :: ts, k, m, acc, h, ht => by
    have b : Bd 2 (Str.ofString (if k > 0 then ", " else "")) := by
      by_cases hk : k > 0
      · rw [if_pos hk]; exact bd_cs
      · rw [if_neg hk]; exact (bd_lit (by decide +kernel)).mono (by decide +kernel)
    have := textFrom_bd (k := k + 1) ((h.app b).app (ht t List.mem_cons_self)) fun x hx => ht x (List.mem_cons_of_mem _ hx)
    refine Bd.mono this ?_
    simp only [List.length_cons, Nat.add_mul]
    omega
theorem Bd.list {n : Nat} {ts : List Str} (h : ∀ t ∈ ts, Bd n t) : Bd (ts.length * (n + 2) + 3) (listText ts) := by
  have a : Bd 1 (Str.ofString "[") := (bd_lit (by decide +kernel)).mono (by decide +kernel)
  have b : Bd 1 (Str.ofString "]") := (bd_lit (by decide +kernel)).mono (by decide +kernel)
  exact ((textFrom_bd (k := 0) a h).app b).mono (by omega)
theorem text_first : ∀ (ts : List Str) (k : Nat) (acc : Str) (c : Nat), acc.cps.toList.head? = some c → (textFrom k acc ts).cps.toList.head? = some c
  | [], k, acc, c, h => h
  | t :: ts, k, acc, c, h => by
    refine text_first ts (k + 1) _ c ?_
    rw [cps_app, cps_app, List.append_assoc, List.head?_append, h]; rfl
theorem repr_word {z : Str} (h : wordB z = true) : (reprText z).cps.toList = 39 :: (z.cps.toList ++ [39]) := by
  obtain ⟨_, hc⟩ := signs_of h
  have q : reprQuote z = 39 := by
    have : z.cps.contains 39 = false := by
      rw [← Bool.not_eq_true, Array.contains_iff_mem, ← Array.mem_toList_iff]
      intro m
      exact absurd (hc 39 m) (by decide)
    unfold reprQuote
    rw [this]; rfl
  have hr : ∀ c ∈ CH, Builtin.Str.reprChar 39 c = [c] := by decide +kernel
  have fold : ∀ (l : List Nat) (acc : Array Nat), (∀ c ∈ l, c ∈ CH) → (l.foldl (fun out c => out ++ (Builtin.Str.reprChar 39 c).toArray) acc).toList = acc.toList ++ l := by
    intro l
    induction l with
    | nil => intro acc _; simp
    | cons c l ih =>
      intro acc hl
      rw [List.foldl_cons, ih _ fun x hx => hl x (List.mem_cons_of_mem _ hx), hr c (hl c List.mem_cons_self)]
      simp
  unfold reprText
  rw [q]
  simp only [Array.toList_push, ← Array.foldl_toList]
  rw [fold _ _ hc]
  rfl
/-- what is shown of an item -/
structure Sh (n k : Nat) (d : D) (p : PyData) : Prop where
  py : toPyR d = some p
  sh : p.showable = true
  dp : p.depth ≤ k
  bd : Bd n p.shown
theorem ints_sh (i : Int) (h : intB i = true) : i.natAbs.log2 < 1920 ∧ ((toString i : Str).cps.toList.all fun c => decide (48 ≤ c) && decide (c ≤ 57)) = true ∧ (toString i : Str).length ≤ 401 := by
  unfold intB at h
  simp only [Bool.and_eq_true, decide_eq_true_eq] at h
  obtain ⟨m, rfl⟩ := Int.eq_ofNat_of_zero_le h.1
  have hm : m < 10 ^ 400 := by
    have := h.2
    exact_mod_cast this
  have signs : (toString (m : Int) : Str).cps.toList = (Nat.toDigits 10 m).map Char.toNat := PySem.W.KIN.signs_num m
  refine ⟨?_, ?_, ?_⟩
  · by_cases z : m = 0
    · subst z
      decide
    · rw [Int.natAbs_natCast, Nat.log2_lt z]
      exact Nat.lt_trans hm (by decide +kernel)
  · rw [signs, List.all_eq_true]
    intro c hc
    obtain ⟨x, hx, rfl⟩ := List.mem_map.mp hc
    have := Nat.isDigit_of_mem_toDigits (by decide) (by decide) hx
    simp only [Char.isDigit, Bool.and_eq_true, decide_eq_true_eq] at this
    simp only [Bool.and_eq_true, decide_eq_true_eq]
    exact this
  · show (toString (m : Int) : Str).cps.size ≤ 401
    rw [← Array.length_toList, signs, List.length_map]
    have := toDigits_len_pow (b := 10) (k := 400) (by decide) (by decide) hm
    omega
theorem Sh.mono {n m k j : Nat} {d : D} {p : PyData} (h : Sh n k d p) (hn : n ≤ m) (hk : k ≤ j) : Sh m j d p := ⟨h.py, h.sh, Nat.le_trans h.dp hk, h.bd.mono hn⟩
theorem atom_sh {d : D} (h : atomB d = true) : ∃ p, Sh 403 0 d p ∧ ((∀ z, d ≠ .str z) → p.shown.cps.toList.head? ≠ some 39) := by
  cases d with
  | non => exact ⟨.none, ⟨rfl, rfl, Nat.le_refl _, (bd_lit (by decide +kernel)).mono (by decide +kernel)⟩, fun _ => by decide +kernel⟩
  | bl b => cases b <;> exact ⟨.bool _, ⟨rfl, rfl, Nat.le_refl _, (bd_lit (by decide +kernel)).mono (by decide +kernel)⟩, fun _ => by decide +kernel⟩
  | int i =>
    obtain ⟨a, b, c⟩ := ints_sh i h
    have each : ∀ x ∈ (toString i : Str).cps.toList, 48 ≤ x ∧ x ≤ 57 := fun x hx => by simpa using List.all_eq_true.mp b x hx
    refine ⟨.int i, ⟨rfl, by simpa [PyData.showable] using a, Nat.le_refl _, ⟨fun x hx => by have := each x hx; omega, Nat.le_trans c (by decide)⟩⟩, fun _ e => ?_⟩
    have := each 39 (List.mem_of_mem_head? e)
    omega
  | str z =>
    have hz : wordB z = true := h
    obtain ⟨h7, hc⟩ := signs_of hz
    have hm : ∀ c ∈ CH, c < 0x110000 := by decide
    refine ⟨.str z, ⟨rfl, rfl, Nat.le_refl _, ⟨fun c hc' => ?_, ?_⟩⟩, fun hn => absurd rfl (hn z)⟩
    · have : c ∈ 39 :: (z.cps.toList ++ [39]) := by rw [← repr_word hz]; exact hc'
      rcases List.mem_cons.mp this with e | e
      · rw [e]; decide
      · rcases List.mem_append.mp e with e | e
        · exact hm c (hc c e)
        · rw [List.mem_singleton.mp e]; decide
    · show (reprText z).cps.size ≤ 403
      rw [← Array.length_toList, repr_word hz, List.length_cons, List.length_append, Array.length_toList]
      have : z.cps.size ≤ 400 := h7
      simp; omega
  | _ => cases h
theorem seq_sh {n k : Nat} : ∀ {ds : List D}, (∀ d ∈ ds, ∃ p, Sh n k d p) → ∃ ps, toPyRs ds = some ps ∧ PyData.showableAll ps = true ∧ PyData.depthAll ps ≤ k ∧ (PyData.shownAll ps).length = ds.length ∧ ∀ t ∈ PyData.shownAll ps, Bd n t
  | [], _ => ⟨[], rfl, rfl, Nat.zero_le _, rfl, fun t ht => by cases ht⟩
  | d :: r, h => by
    obtain ⟨p, hp⟩ := h d List.mem_cons_self
    obtain ⟨ps, a, b, c, e, f⟩ := seq_sh (ds := r) fun x hx => h x (List.mem_cons_of_mem _ hx)
    refine ⟨p :: ps, ?_, ?_, ?_, ?_, ?_⟩
    · simp only [toPyRs, hp.py, a]
    · simp only [PyData.showableAll, hp.sh, b]; rfl
    · simp only [PyData.depthAll]
      exact Nat.max_le.mpr ⟨hp.dp, c⟩
    · simp only [PyData.shownAll, List.length_cons, e]
    · intro t ht
      simp only [PyData.shownAll] at ht
      rcases List.mem_cons.mp ht with e | e
      · rw [e]; exact hp.bd
      · exact f t e
theorem tup_sh {n k l : Nat} {ds : List D} (h : ∀ d ∈ ds, ∃ p, Sh n k d p) (hl : ds.length ≤ l) : ∃ p, Sh (l * (n + 2) + 3) (k + 1) (.tup ds) p ∧ p.shown.cps.toList.head? ≠ some 39 := by
  obtain ⟨ps, a, b, c, e, f⟩ := seq_sh h
  refine ⟨.tuple ps, ⟨by simp only [toPyR, a]; rfl, by simpa [PyData.showable] using b, by simp only [PyData.depth]; omega, ?_⟩, ?_⟩
  · show Bd _ (tupleText (PyData.shownAll ps))
    refine (Bd.tuple f).mono ?_
    rw [e]
    have := Nat.mul_le_mul_right (n + 2) hl
    omega
  · show (tupleText (PyData.shownAll ps)).cps.toList.head? ≠ some 39
    unfold tupleText
    rw [cps_app, cps_app, List.append_assoc, List.head?_append, show (Str.ofString "(").cps.toList.head? = some 40 by decide +kernel]
    show (some 40 : Option Nat) ≠ some 39
    decide
theorem lst_sh {n k l : Nat} {o : Bool} {ds : List D} (h : ∀ d ∈ ds, ∃ p, Sh n k d p) (hl : ds.length ≤ l) : ∃ p, Sh (l * (n + 2) + 3) (k + 1) (.lst o ds) p ∧ p.shown.cps.toList.head? ≠ some 39 := by
  obtain ⟨ps, a, b, c, e, f⟩ := seq_sh h
  refine ⟨.list ps, ⟨by simp only [toPyR, a]; rfl, by simpa [PyData.showable] using b, by simp only [PyData.depth]; omega, ?_⟩, ?_⟩
  · show Bd _ (listText (PyData.shownAll ps))
    refine (Bd.list f).mono ?_
    rw [e]
    have := Nat.mul_le_mul_right (n + 2) hl
    omega
  · show (listText (PyData.shownAll ps)).cps.toList.head? ≠ some 39
    unfold listText
    rw [cps_app, List.head?_append, text_first _ 0 (Str.ofString "[") 91 (by decide +kernel)]
    decide
theorem it1_sh {d : D} (h : it1B d = true) : ∃ p, Sh 170000 1 d p ∧ ((∀ z, d ≠ .str z) → p.shown.cps.toList.head? ≠ some 39) := by
  unfold it1B at h
  split at h
  · simp only [Bool.and_eq_true, decide_eq_true_eq, List.all_eq_true] at h
    obtain ⟨p, a, b⟩ := tup_sh (n := 403) (k := 0) (l := 400) (fun d hd => let ⟨p, hp, _⟩ := atom_sh (h.2 d hd); ⟨p, hp⟩) h.1
    exact ⟨p, a.mono (by decide) (by decide), fun _ => b⟩
  · simp only [Bool.and_eq_true, decide_eq_true_eq, List.all_eq_true] at h
    obtain ⟨p, a, b⟩ := lst_sh (o := false) (n := 403) (k := 0) (l := 400) (fun d hd => let ⟨p, hp, _⟩ := atom_sh (h.2 d hd); ⟨p, hp⟩) h.1
    exact ⟨p, a.mono (by decide) (by decide), fun _ => b⟩
  · exact ⟨.dict [], ⟨rfl, rfl, by decide, (bd_lit (by decide +kernel)).mono (by decide +kernel)⟩, fun _ => by decide +kernel⟩
  · obtain ⟨p, a, b⟩ := atom_sh h
    exact ⟨p, a.mono (by decide) (by decide), b⟩
theorem repr_of {n k : Nat} {d : D} {p : PyData} (h : Sh n k d p) (hn : n ≤ 16000000) (hk : k ≤ 64) : reprD d = some p.shown := by
  unfold reprD
  simp only [h.py]
  exact if_pos ⟨h.sh, Nat.le_trans h.dp hk, Nat.le_trans h.bd.len (Nat.le_trans hn (by decide))⟩
end K47.J
set_option Elab.async false
set_option linter.all false
set_option maxRecDepth 100000
set_option maxHeartbeats 0
set_option exponentiation.threshold 2003
namespace K47.J
open PySem PySem.Spec PyProof.Rows L2 DL
open K47
theorem pair_in {y : Str} (hy : PyData.strOk y = true) : dIn (.str y) (.lst true [.str "'landed'", .str "'left'"]) = some (.bl (decide (y = "'landed'") || decide (y = "'left'"))) := by
  have e : pyIn (.str y) (.lst true [.str "'landed'", .str "'left'"]) = some (decide (y = "'landed'") || decide (y = "'left'")) := by
    have s1 : SeqAt.shaped (.str y) = true := by
      unfold SeqAt.shaped
      simp only [PyData.canLay0, hy]; rfl
    have s2 : SeqAt.shaped (.list [.str "'landed'", .str "'left'"]) = true := by decide +kernel
    unfold pyIn
    simp only [toPy, toPys, Option.map_some, s1, s2]
    show some _ = some _
    congr 1
    show (PyData.eqv (.str "'landed'") (.str y) || (PyData.eqv (.str "'left'") (.str y) || false)) = _
    simp only [PyData.eqv, Bool.or_false]
    congr 1
    · by_cases h : y = "'landed'"
      · simp [h]
      · simp [h, show ¬ (Str.ofString "'landed'" = y) from fun e => h e.symm]
    · by_cases h : y = "'left'"
      · simp [h]
      · simp [h, show ¬ (Str.ofString "'left'" = y) from fun e => h e.symm]
  show (pyIn (.str y) (.lst true [.str "'landed'", .str "'left'"])).map D.bl = _
  rw [e]; rfl
theorem str_ext {x y : Str} (h : x.cps.toList = y.cps.toList) : x = y := by
  obtain ⟨a⟩ := x
  obtain ⟨b⟩ := y
  have : a = b := Array.toList_inj.mp h
  rw [this]
theorem word_eq {z w : Str} {q : Str} (hz : wordB z = true) (hq : q.cps.toList = 39 :: (w.cps.toList ++ [39])) : decide (reprText z = q) = decide (z = w) := by
  refine decide_eq_decide.mpr ⟨fun e => ?_, fun e => ?_⟩
  · have h1 := repr_word hz
    rw [e, hq] at h1
    have h2 : w.cps.toList ++ [39] = z.cps.toList ++ [39] := by simpa using h1
    exact str_ext (List.append_cancel_right h2).symm
  · refine str_ext ?_
    rw [repr_word hz, hq, e]
theorem land_repr {a : D} (h : it1B a = true) : ∃ y, reprD a = some y ∧ dIn (.str y) (.lst true [.str "'landed'", .str "'left'"]) = some (.bl (landB a)) := by
  obtain ⟨p, hp, hf⟩ := it1_sh h
  have ok : PyData.strOk p.shown = true := by
    unfold PyData.strOk
    (rw [← Array.all_toList, List.all_eq_true])
    exact fun c hc => decide_eq_true (hp.bd.ok c hc)
  refine ⟨p.shown, repr_of hp (by decide) (by decide), ?_⟩
  rw [pair_in ok]
  by_cases hs : ∃ z, a = .str z
  · obtain ⟨z, rfl⟩ := hs
    have e := hp.py
    cases e
    show some (D.bl (decide (reprText z = "'landed'") || decide (reprText z = "'left'"))) = some (.bl (decide (z = "landed") || decide (z = "left")))
    rw [word_eq (w := "landed") h (by decide +kernel), word_eq (w := "left") h (by decide +kernel)]
  · have h1 : landB a = false := by cases a <;> first | rfl | exact absurd ⟨_, rfl⟩ hs
    have h2 := hf (fun z e => hs ⟨z, e⟩)
    have f1 : decide (p.shown = "'landed'") = false := decide_eq_false fun e => h2 (by rw [e]; decide +kernel)
    have f2 : decide (p.shown = "'left'") = false := decide_eq_false fun e => h2 (by rw [e]; decide +kernel)
    rw [h1, f1, f2]; rfl
theorem lt6_ev {a : D} (h : cntB 0 a = true) : dLt a (.int 6) = some (.bl (le5 a)) := by
  cases a <;> first | (show some (D.bl _) = some (D.bl _); congr 2; exact decide_eq_decide.mpr (by omega)) | simp [cntB] at h
theorem or2_if {a b : MT} {δ : DL.Env} {p q : Bool} (h : a δ = some (p, δ)) (h2 : p = false → b δ = some (q, δ)) : tOr2 a b δ = some (p || q, δ) := ev_or2 h h2
theorem filter_all (f : D → Bool) : ∀ ws : List D, (ws.filter fun d => !f d).isEmpty = ws.all f
  | [] => rfl
  | w :: ws => by
    have ih := filter_all f ws
    rw [List.filter_cons]
    cases hl : f w with
    | true => simpa [hl] using ih
    | false => simp [hl]
theorem len4 : ∀ {ds : List D}, ¬ ds.length < 4 → ∃ a l p q r, ds = a :: l :: p :: q :: r
  | a :: l :: p :: q :: r, _ => ⟨a, l, p, q, r, rfl⟩
  | [], h => absurd (by simp) h
  | [_], h => absurd (by simp) h
  | [_, _], h => absurd (by simp) h
  | [_, _, _], h => absurd (by simp) h
theorem lframe_ok {x : D} (h : it2B x = true) : m__law_is_frame [x] = some (.bl (frB x), [x]) := by
  have hx := it2_fz h
  refine fin1 (N := 2) rfl (δ := [none]) ?_
  have e1 := ev_not1 (ev_tru (ev_callB (g := dIsi) (ev_cons (ev_var (i := 0) (δ := [some x, none]) rfl hx) (ev_cons (a := mC (.ty .tup)) rfl (r := mNil) rfl)) (isi_ok .tup h)))
  by_cases ht : ∃ ds, x = .tup ds
  · obtain ⟨ds, rfl⟩ := ht
    have hi : ds.all it1B = true := by
      simp only [it2B, Bool.and_eq_true] at h
      exact h.2
    have hf := its_fz hi
    have e2 : toT (mBin dLt (mCallB dLen (mCons (mVar 0) mNil)) (mC (.int 4))) [some (.tup ds), none] = some (decide ((ds.length : Int) < 4), [some (.tup ds), none]) := ev_toT (ev_bin (len_ev hf) (b := mC (.int 4)) rfl rfl)
    by_cases h4 : ds.length < 4
    · rw [decide_eq_true (show (ds.length : Int) < 4 by omega)] at e2
      have : frB (.tup ds) = false := by
        have a : tellB ds = false := by
          unfold tellB; split
          · simp at h4
          · rfl
        have b : askB ds = false := by
          unfold askB; split
          · simp at h4
          · rfl
        have c : toldB ds = false := by
          unfold toldB; split
          · simp at h4
          · rfl
        show (headB "tell" _ && tellB ds || headB "ask" _ && askB ds || headB "told" _ && toldB ds) = _
        rw [a, b, c]; simp
      rw [this]
      exact ev_stop ((ev_if1 (ev_or2 (q := true) e1 fun _ => or2_true e2)).trans (ev_ret (m := mC (.bl false)) rfl))
    · rw [decide_eq_false (show ¬ (ds.length : Int) < 4 by omega)] at e2
      obtain ⟨a, l, p, q, r, rfl⟩ := len4 h4
      · 
        have e3 := ev_not1 (ev_tru (isiAt_ev (r := [none]) (k := 0) .str hf rfl (all_at hi (k := 0) rfl)))
        have e4 := ev_not1 (ev_tru (ev_calle1 (ev_atA (k := 1) (δ := [none]) hf rfl) (label_ok (all_at hi (k := 1) rfl))))
        have c := ev_or2 e1 (fun _ => ev_or2 e2 (fun _ => ev_or2 e3 (fun _ => e4)))
        by_cases hc : isB .str a = true ∧ labB l = true
        · have : ∃ z, a = .str z := by cases a <;> first | exact ⟨_, rfl⟩ | simp [isB] at hc
          obtain ⟨z, rfl⟩ := this
          have c0 : (!isB .tup (.tup (.str z :: l :: p :: q :: r)) || (false || (!isB .str (.str z) || !labB l))) = false := by rw [hc.2]; rfl
          rw [c0] at c
          refine (ev_seq ((ev_if0 c).trans rfl)).trans ?_
          have t1 := str_eq_ev (r := [none]) (t := "tell") hf rfl
          have t2 := str_eq_ev (r := [none]) (t := "ask") hf rfl
          have hh : ∀ t : Str, headB t (.str z :: l :: p :: q :: r) = decide (z = t) := fun t => by
            show (decide (z = t) && labB l) = _
            rw [hc.2, Bool.and_true]
          by_cases z1 : z = "tell"
          · rw [decide_eq_true z1] at t1
            have hF : frB (.tup (.str z :: l :: p :: q :: r)) = tellB (.str z :: l :: p :: q :: r) := by
              show (headB "tell" _ && _ || headB "ask" _ && _ || headB "told" _ && _) = _
              rw [hh, hh, hh, z1, s_ta, s_td]
              simp
            rw [hF]
            have c1 := lenNe_ev (r := [none]) hf 4
            have c2 := ev_not1 (ev_tru (lcnt_ev (r := [none]) (k := 2) (j := 0) hf rfl (all_at hi (k := 2) rfl)))
            have c3 := ev_not1 (ev_tru (isiAt_ev (r := [none]) (k := 3) .tup hf rfl (all_at hi (k := 3) rfl)))
            have cc := ev_or2 c1 (fun _ => ev_or2 c2 (fun _ => c3))
            refine ev_stop ((ev_if1 t1).trans ?_)
            by_cases hk : r = [] ∧ cntB 0 p = true ∧ isB .tup q = true
            · obtain ⟨rfl, k1, k2⟩ := hk
              obtain ⟨ws, rfl⟩ := isTup k2
              obtain ⟨hw8, hwa⟩ := atoms_of (all_at hi (k := 3) rfl)
              have hwf : isFzs ws = true := isFzs_iff.mpr fun d hd => atom_fz (hwa d hd)
              have c0 : (!decide ((([.str z, l, p, .tup ws] : List D).length : Int) = 4) || (!cntB 0 p || !isB .tup (.tup ws))) = false := by
                rw [k1]; rfl
              rw [c0] at cc
              have g1 := ev_chain (g := dLt) (g' := dLt) (a := mC (.int 0)) (c := mC (.int 4)) (δ := [some (.tup [.str z, l, p, .tup ws]), none]) rfl (ev_call1 (g := dLen) (ev_atA (k := 3) hf rfl) (d := .int ws.length) rfl) rfl rfl rfl rfl
              have lc := loopC_filter (own := [1]) (t := tName 1) (c := tNot1 (mTru (mCall m__law_is_label [.e (mVar 1)] []))) (m := mVar 1) (p := fun d => !labB d) (δ0 := [some (.tup [.str z, l, p, .tup ws]), none]) (ds := ws) (acc := []) (fun d hd => ⟨_, rfl, ev_not1 (ev_tru (ev_callfiA (i := 1) rfl (atom_fz (hwa d hd)) (label_ok (atom_it (hwa d hd))))), rfl, _, ev_var (i := 1) rfl (atom_fz (hwa d hd)), rfl⟩)
              have g2 := ev_bin (g := dEq) (ev_lc (any_tupA (z := keysAt 0 (pSub pVar (kC (.int 3)))) (ev_atA (k := 3) (δ := [none]) hf rfl) hwf) (own := [1]) (Nat.le_trans hw8 (by decide)) lc) (b := mLst mNil) (y := .lst true []) rfl (d := .bl (([] ++ ws.filter fun d => !labB d) : List D).isEmpty) rfl
              refine (ev_seq ((ev_if0 cc).trans rfl)).trans ((ev_ret (ev_and g1 fun _ => g2)).trans ?_)
              have hE : ((([] ++ ws.filter fun d => !labB d) : List D).isEmpty) = ws.all labB := by
                rw [List.nil_append]
                exact filter_all labB ws
              rw [hE]
              have : tellB [.str z, l, p, .tup ws] = ((decide ((0 : Int) < ws.length) && decide ((ws.length : Int) < 4)) && ws.all labB) := by
                show (cntB 0 p && _) = _
                rw [k1, Bool.true_and]
                congr 1
                congr 1 <;> exact decide_eq_decide.mpr (by omega)
              rw [this]
            · have c0 : (!decide ((((.str z :: l :: p :: q :: r) : List D).length : Int) = 4) || (!cntB 0 p || !isB .tup q)) = true := by
                by_cases hr : r = []
                · subst hr
                  cases x1 : cntB 0 p <;> cases x2 : isB .tup q <;> simp_all
                · have : ¬ ((((.str z :: l :: p :: q :: r) : List D).length : Int) = 4) := fun e => hr (List.eq_nil_of_length_eq_zero (by simp at e; omega))
                  rw [decide_eq_false this]; rfl
              rw [c0] at cc
              have : tellB (.str z :: l :: p :: q :: r) = false := by
                unfold tellB
                split
                · rename_i ws e
                  cases e
                  have : cntB 0 p = false := by
                    cases x : cntB 0 p
                    · rfl
                    · exact absurd ⟨rfl, x, rfl⟩ hk
                  rw [this]; rfl
                · rfl
              rw [this]
              exact ev_stop ((ev_if1 cc).trans (ev_ret (m := mC (.bl false)) rfl))
          · rw [decide_eq_false z1] at t1
            refine (ev_seq ((ev_if0 t1).trans rfl)).trans ?_
            have hF : frB (.tup (.str z :: l :: p :: q :: r)) = (decide (z = "ask") && askB (.str z :: l :: p :: q :: r) || decide (z = "told") && toldB (.str z :: l :: p :: q :: r)) := by
              show (headB "tell" _ && _ || headB "ask" _ && _ || headB "told" _ && _) = _
              rw [hh, hh, hh, decide_eq_false z1]
              simp
            rw [hF]
            have c2 := ev_not1 (ev_tru (lcnt_ev (r := [none]) (k := 2) (j := 1) hf rfl (all_at hi (k := 2) rfl)))
            have c3 := ev_not1 (ev_tru (lcnt_ev (r := [none]) (k := 3) (j := 1) hf rfl (all_at hi (k := 3) rfl)))
            have cc := ev_or2 c2 (fun _ => c3)
            by_cases hk : cntB 1 p = true ∧ cntB 1 q = true
            · have c0 : (!cntB 1 p || !cntB 1 q) = false := by rw [hk.1, hk.2]; rfl
              rw [c0] at cc
              refine (ev_seq ((ev_if0 cc).trans rfl)).trans ?_
              by_cases z2 : z = "ask"
              · rw [decide_eq_true z2] at t2
                have hz2 : decide (z = "told") = false := by rw [z2]; exact s_ad
                rw [decide_eq_true z2, hz2]
                refine ev_stop ((ev_if1 t2).trans (ev_ret ?_))
                have l6 := ev_bin (g := dEq) (len_ev (r := [none]) hf) (b := mC (.int 6)) rfl (d := .bl (decide ((((.str z :: l :: p :: q :: r) : List D).length : Int) = 6))) rfl
                by_cases hr : r.length = 2
                · match r, hr, hi, hf, l6 with
                  | [a4, a5], hr, hi, hf, l6 =>
                    have g := ev_and l6 (fun _ => ev_and (lcnt_ev (r := [none]) (k := 4) (j := 0) hf rfl (all_at hi (k := 4) rfl)) (fun h0 => ev_and (ev_bin (g := dLt) (ev_atA (k := 4) hf rfl) (b := mC (.int 6)) rfl (lt6_ev h0)) (fun _ => lcnt_ev (r := [none]) (k := 5) (j := 0) hf rfl (all_at hi (k := 5) rfl))))
                    refine g.trans ?_
                    have : askB [.str z, l, p, q, a4, a5] = (cntB 0 a4 && (le5 a4 && cntB 0 a5)) := by
                      show (cntB 1 p && cntB 1 q && _) = _
                      rw [hk.1, hk.2]; rfl
                    rw [this]
                    simp
                · have : ¬ ((((.str z :: l :: p :: q :: r) : List D).length : Int) = 6) := fun e => hr (by simp at e; omega)
                  rw [decide_eq_false this] at l6
                  have hA : askB (.str z :: l :: p :: q :: r) = false := by
                    unfold askB
                    split
                    · rename_i e
                      cases e
                      simp at hr
                    · rfl
                  rw [hA]
                  exact ev_and0 l6
              · rw [decide_eq_false z2] at t2
                rw [decide_eq_false z2]
                refine (ev_seq ((ev_if0 t2).trans rfl)).trans (ev_ret ?_)
                have t3 := ev_bin (g := dEq) (ev_atA (k := 0) (δ := [none]) hf rfl) (b := mC (.str "told")) rfl (d := .bl (decide (z = "told"))) rfl
                have l5 := ev_bin (g := dEq) (len_ev (r := [none]) hf) (b := mC (.int 5)) rfl (d := .bl (decide ((((.str z :: l :: p :: q :: r) : List D).length : Int) = 5))) rfl
                rw [Bool.false_and, Bool.false_or]
                by_cases hr : r.length = 1
                · match r, hr, hi, hf, t3, l5 with
                  | [a4], hr, hi, hf, t3, l5 =>
                    obtain ⟨y, hy, hin⟩ := land_repr (all_at hi (k := 4) rfl)
                    have g := ev_and t3 (fun _ => ev_and l5 (fun _ => ev_bin (g := dIn) (ev_call1 (g := dRepr) (ev_atA (k := 4) (δ := [none]) hf rfl) (d := .str y) (by show (reprD a4).map D.str = _; rw [hy]; rfl)) (b := mLst (mCons (mC (.str "'landed'")) (mCons (mC (.str "'left'")) mNil))) (y := .lst true [.str "'landed'", .str "'left'"]) rfl hin))
                    refine g.trans ?_
                    have : toldB [.str z, l, p, q, a4] = landB a4 := by
                      show (cntB 1 p && cntB 1 q && _) = _
                      rw [hk.1, hk.2]; rfl
                    rw [this]
                    simp
                · have : ¬ ((((.str z :: l :: p :: q :: r) : List D).length : Int) = 5) := fun e => hr (by simp at e; omega)
                  rw [decide_eq_false this] at l5
                  have hA : toldB (.str z :: l :: p :: q :: r) = false := by
                    unfold toldB
                    split
                    · rename_i e
                      cases e
                      simp at hr
                    · rfl
                  rw [hA, Bool.and_false]
                  have g := ev_and t3 (q := false) (fun _ => ev_and0 (b := mBin dIn (mCallB dRepr (mCons (mAlt (mPath 0 (pSub pVar (kC (.int 4)))) (mBin dIx (mVar 0) (mC (.int 4)))) mNil)) (mLst (mCons (mC (.str "'landed'")) (mCons (mC (.str "'left'")) mNil)))) l5)
                  rw [Bool.and_false] at g
                  exact g
            · have c0 : (!cntB 1 p || !cntB 1 q) = true := by
                cases x1 : cntB 1 p <;> cases x2 : cntB 1 q <;> simp_all
              have hn : (cntB 1 p && cntB 1 q) = false := by
                cases x1 : cntB 1 p <;> cases x2 : cntB 1 q <;> simp_all
              rw [c0] at cc
              have hA : askB (.str z :: l :: p :: q :: r) = false := by
                unfold askB
                split
                · rename_i e
                  cases e
                  rw [hn]; rfl
                · rfl
              have hT : toldB (.str z :: l :: p :: q :: r) = false := by
                unfold toldB
                split
                · rename_i e
                  cases e
                  rw [hn]; rfl
                · rfl
              rw [hA, hT, Bool.and_false, Bool.and_false]
              exact ev_stop ((ev_if1 cc).trans (ev_ret (m := mC (.bl false)) rfl))
        · have c0 : (!isB .tup (.tup (a :: l :: p :: q :: r)) || (false || (!isB .str a || !labB l))) = true := by
            cases x1 : isB .str a <;> cases x2 : labB l <;> simp_all
          rw [c0] at c
          have : frB (.tup (a :: l :: p :: q :: r)) = false := by
            have hh : ∀ t : Str, headB t (a :: l :: p :: q :: r) = false := fun t => by
              cases a <;> first | rfl | skip
              show (_ && labB l) = false
              have : labB l = false := by
                cases q : labB l
                · rfl
                · exact absurd ⟨rfl, q⟩ hc
              rw [this, Bool.and_false]
            show (headB "tell" _ && _ || headB "ask" _ && _ || headB "told" _ && _) = _
            rw [hh, hh, hh]; rfl
          rw [this]
          exact ev_stop ((ev_if1 c).trans (ev_ret (m := mC (.bl false)) rfl))
  · have hb : isB .tup x = false := by cases x <;> first | rfl | exact absurd ⟨_, rfl⟩ ht
    have hl : frB x = false := by cases x <;> first | rfl | exact absurd ⟨_, rfl⟩ ht
    rw [hb] at e1
    rw [hl]
    exact ev_stop ((ev_if1 (or2_true e1)).trans (ev_ret (m := mC (.bl false)) rfl))
end K47.J
set_option Elab.async false
set_option linter.all false
set_option maxRecDepth 100000
set_option maxHeartbeats 0
namespace K47
open PySem PySem.Spec PyProof.Rows L2 DL
inductive F
  | tell (z : Str) (k : Int) (ws : List Str)
  | ask (z : Str) (a b c d : Int)
  | told (z : Str) (a b : Int) (w : Str)
def NUMS : List Int := [0, 1, 2, 3, 4, 5, 6, 7, 8, 9, 10, 11, 12, 100, 100000000000000]
def F.ok : F → Prop
  | .tell z k ws => Lab z ∧ k ∈ NUMS ∧ 1 ≤ ws.length ∧ ws.length ≤ 3 ∧ ∀ w ∈ ws, Lab w
  | .ask z a b c d => Lab z ∧ (a ∈ NUMS ∧ 1 ≤ a) ∧ (b ∈ NUMS ∧ 1 ≤ b) ∧ (c ∈ NUMS ∧ c ≤ 5) ∧ d ∈ NUMS
  | .told z a b w => Lab z ∧ (a ∈ NUMS ∧ 1 ≤ a) ∧ (b ∈ NUMS ∧ 1 ≤ b) ∧ (w = "landed" ∨ w = "left")
def F.d : F → D
  | .tell z k ws => .tup [.str "tell", .str z, .int k, tpS ws]
  | .ask z a b c d => .tup [.str "ask", .str z, .int a, .int b, .int c, .int d]
  | .told z a b w => .tup [.str "told", .str z, .int a, .int b, .str w]
theorem nums_range : ∀ a : Int, 0 ≤ a → a ≤ 12 → a ∈ NUMS := fun a h1 h2 => by
  have : ∀ n : Fin 13, ((n.val : Nat) : Int) ∈ NUMS := by decide
  have := this ⟨a.toNat, by omega⟩
  rwa [show ((a.toNat : Nat) : Int) = a by omega] at this
theorem nums_pos : ∀ k ∈ NUMS, 0 ≤ k := by decide
theorem fz_d (g : F) : isFz g.d = true := by
  cases g with
  | tell z k ws => simp only [F.d, isFz, isFzs, fz_tps]; rfl
  | _ => rfl
theorem letter_in : ∀ c ∈ List.range' 97 26, dInB (.str ⟨#[c]⟩) (.str "abcdefghijklmnopqrstuvwxyz") = some true := by decide +kernel
theorem letter_ok {c : Nat} (h : 97 ≤ c ∧ c ≤ 122) : dIn (.str ⟨#[c]⟩) (.str "abcdefghijklmnopqrstuvwxyz") = some (.bl true) := by
  have := letter_in c (List.mem_range'.mpr ⟨c - 97, by omega, by omega⟩)
  unfold dIn
  rw [this]; rfl
theorem lab_len {z : Str} (h : Lab z) : z.length ≤ sizeLine := Nat.le_trans h.b (by decide)
theorem txt_any {z : Str} {i : Nat} {δ : DL.Env} (h : δ[i]? = some (some (.str z))) : iAny (mVar i) δ = some (z.cps.toList.map fun c => D.str ⟨#[c]⟩, δ) := by
  have := ev_var h rfl
  unfold iAny DL.iLst DL.iTup DL.iTxt
  rw [this]
  rfl
theorem is_name_ok {z : Str} (h : Lab z) : m_is_name [.str z] = some (.bl true, [.str z]) := by
  refine fin_rt (np := 1) (N := 2) (δ := [none]) rfl (by decide) (ev_ret ?_)
  have e1 : (mCallB dIsi (mCons (mVar 0) (mCons (mC (.ty .str)) mNil))) [some (.str z), none] = some (.bl true, [some (.str z), none]) := rfl
  have e2 := ev_chain (g := dLe) (g' := dLe) (a := mC (.int 1)) (c := mC (.int 6)) (δ := [some (.str z), none]) rfl (ev_call1 (g := dLen) (ev_var (i := 0) (d := .str z) rfl rfl) (d := .int z.length) (if_pos (lab_len h))) rfl rfl rfl rfl
  have h1 := h.a
  have h2 := h.b
  rw [show decide ((1 : Int) ≤ z.length) = true from decide_eq_true (by omega), show decide ((z.length : Int) ≤ 6) = true from decide_eq_true (by omega)] at e2
  have e3 := all_typ (own := [1]) (t := tName 1) (m := mBin dIn (mVar 1) (mC (.str "abcdefghijklmnopqrstuvwxyz"))) z.cps.toList (fun c => D.str ⟨#[c]⟩) (fun _ => true) (ev_altI (b := keysAt 0 pVar) (txt_any (i := 0) (δ := [some (.str z), none]) rfl)) rfl (by rw [Array.length_toList]; exact lab_len h) fun c hc => ⟨_, rfl, rfl, ev_bin (g := dIn) (ev_var (i := 1) (d := .str ⟨#[c]⟩) rfl rfl) (b := mC (.str "abcdefghijklmnopqrstuvwxyz")) rfl (letter_ok (h.c c hc))⟩
  exact ((ev_and1 e1).trans ((ev_and1 e2).trans e3)).trans (by simp)
theorem is_count_ok {i j : Int} (h : j ≤ i) : m_is_count [.int i, .int j] = some (.bl true, [.int i, .int j]) := by
  have n : m_is_number [.int i] = some (.bl true, [.int i]) := rfl
  refine fin_rt (np := 2) (N := 2) (δ := []) rfl (by decide) (ev_ret ((ev_and1 (ev_calle1 (ev_var (i := 0) rfl rfl) n)).trans (ev_bin (g := dGe) (ev_var (i := 0) rfl rfl) (ev_var (i := 1) rfl rfl) ?_)))
  show some (D.bl (decide (j ≤ i))) = _
  rw [decide_eq_true h]
theorem ix_nat {n k : Nat} (h : k < n) : ixN n (k : Int) = some k := by
  unfold ixN
  rw [if_pos (by omega), if_pos (by omega)]
  simp
theorem at_path {i k : Nat} {ds : List D} {d : D} {δ : DL.Env} (h : δ[i]? = some (some (.tup ds))) (hf : isFzs ds = true) (hk : ds[k]? = some d) : mPath i (pSub pVar (kC (.int k))) δ = some (d, δ) :=
  ev_pathF h (p := [.sub (.inl k)]) rfl (walkF (by simp only [isFz, hf]) (j := k) (ix_nat (List.getElem?_eq_some_iff.mp hk).1) hk (walk_nilF (isFzs_get hf hk)))
theorem at_ev {i k : Nat} {ds : List D} {d : D} {δ : DL.Env} (h : δ[i]? = some (some (.tup ds))) (hf : isFzs ds = true) (hk : ds[k]? = some d) : mAlt (mPath i (pSub pVar (kC (.int k)))) (mBin dIx (mVar i) (mC (.int k))) δ = some (d, δ) := ev_altE (at_path h hf hk)
theorem len_ev {ds : List D} {δ : DL.Env} {i : Nat} (h : δ[i]? = some (some (.tup ds))) (hf : isFzs ds = true) : mCallB dLen (mCons (mVar i) mNil) δ = some (.int ds.length, δ) := ev_call1 (g := dLen) (ev_var h (by simp only [isFz, hf])) rfl
theorem nelen {ds : List D} {δ : DL.Env} {n : Int} (h : δ[0]? = some (some (.tup ds))) (hf : isFzs ds = true) (hn : (ds.length : Int) = n) : toT (mBin dNe (mCallB dLen (mCons (mVar 0) mNil)) (mC (.int n))) δ = some (false, δ) := by
  refine ev_toT (ev_bin (g := dNe) (len_ev h hf) (b := mC (.int n)) rfl ?_)
  show some (D.bl (!decide ((ds.length : Int) = n))) = _
  rw [decide_eq_true hn]; rfl
theorem tell_ok {z : Str} {k : Int} {ws : List Str} (h : (F.tell z k ws).ok) : m_is_tell [(F.tell z k ws).d] = some (.bl true, [(F.tell z k ws).d]) := by
  obtain ⟨hz, hk, h1, h3, hw⟩ := h
  have hf : isFzs [.str "tell", .str z, .int k, tpS ws] = true := by simp only [isFzs, isFz, fz_tps]; rfl
  have E : ∀ (j : Nat) (d : D), [D.str "tell", .str z, .int k, tpS ws][j]? = some d → mAlt (mPath 0 (pSub pVar (kC (.int j)))) (mBin dIx (mVar 0) (mC (.int j))) [some (F.tell z k ws).d, none] = some (d, [some (F.tell z k ws).d, none]) := fun j d hj => at_ev (i := 0) rfl hf hj
  refine fin_rt (np := 1) (N := 2) (δ := [none]) rfl (by decide) ((ev_seq ((ev_if0 (ev_or2 (p := false) (q := false) (nelen (n := 4) rfl hf rfl) fun _ => ev_or2 (p := false) (q := false) (ev_not1 (p := true) (ev_tru (ev_calle2 (E 2 (.int k) rfl) (b := mC (.int 0)) rfl (is_count_ok (nums_pos k hk))))) fun _ => ev_not1 (p := true) (ev_tru (ev_callB (ev_cons (E 3 (tpS ws) rfl) (ev_cons (a := mC (.ty .tup)) rfl (r := mNil) rfl)) rfl)))).trans rfl)).trans (ev_ret ?_))
  have e2 := ev_chain (g := dLe) (g' := dLe) (a := mC (.int 1)) (c := mC (.int 3)) (δ := [some (F.tell z k ws).d, none]) rfl (ev_call1 (g := dLen) (E 3 (tpS ws) rfl) (d := .int ws.length) (by simp [dLen, tpS])) rfl rfl rfl rfl
  rw [show decide ((1 : Int) ≤ ws.length) = true from decide_eq_true (by omega), show decide ((ws.length : Int) ≤ 3) = true from decide_eq_true (by omega)] at e2
  have e3 := all_typ (own := [1]) (t := tName 1) (m := mCall m_is_name [.e (mVar 1)] []) (δ1 := [some (F.tell z k ws).d, none]) ws D.str (fun _ => true) (ev_altI (b := keysAt 0 (pSub pVar (kC (.int 3)))) (iAny_tup (E 3 (tpS ws) rfl) (isFzs_strs ws))) rfl (Nat.le_trans h3 (by decide)) fun w hw' => ⟨_, rfl, rfl, ev_calle1 (ev_var (i := 1) rfl rfl) (is_name_ok (hw w hw'))⟩
  exact (ev_and1 e2).trans (e3.trans (by simp))
theorem ask_ok {z : Str} {a b c d : Int} (h : (F.ask z a b c d).ok) : m_is_ask [(F.ask z a b c d).d] = some (.bl true, [(F.ask z a b c d).d]) := by
  obtain ⟨hz, ⟨_, ha⟩, ⟨_, hb⟩, ⟨hc, hc5⟩, hd⟩ := h
  have hf : isFzs [.str "ask", .str z, .int a, .int b, .int c, .int d] = true := rfl
  have E : ∀ (j : Nat) (x : D), [D.str "ask", .str z, .int a, .int b, .int c, .int d][j]? = some x → mAlt (mPath 0 (pSub pVar (kC (.int j)))) (mBin dIx (mVar 0) (mC (.int j))) [some (F.ask z a b c d).d] = some (x, [some (F.ask z a b c d).d]) := fun j x hj => at_ev (i := 0) rfl hf hj
  refine fin_rt (np := 1) (N := 1) (δ := []) rfl (by decide) ((ev_seq ((ev_if0 (ev_or2 (p := false) (q := false) (nelen (n := 6) rfl hf rfl) fun _ => ev_or2 (p := false) (q := false) (ev_not1 (p := true) (ev_tru (ev_calle2 (E 2 (.int a) rfl) (b := mC (.int 1)) rfl (is_count_ok ha)))) fun _ => ev_not1 (p := true) (ev_tru (ev_calle2 (E 3 (.int b) rfl) (b := mC (.int 1)) rfl (is_count_ok hb))))).trans rfl)).trans (ev_ret ((ev_and1 (ev_calle2 (E 4 (.int c) rfl) (b := mC (.int 0)) rfl (is_count_ok (nums_pos c hc)))).trans ((ev_and1 (ev_bin (g := dLe) (E 4 (.int c) rfl) (b := mC (.int 5)) rfl ?_)).trans (ev_calle2 (E 5 (.int d) rfl) (b := mC (.int 0)) rfl (is_count_ok (nums_pos d hd)))))))
  show some (D.bl (decide (c ≤ 5))) = _
  rw [decide_eq_true hc5]
theorem told_ok {z : Str} {a b : Int} {w : Str} (h : (F.told z a b w).ok) : m_is_told [(F.told z a b w).d] = some (.bl true, [(F.told z a b w).d]) := by
  obtain ⟨hz, ⟨_, ha⟩, ⟨_, hb⟩, hw⟩ := h
  have hf : isFzs [.str "told", .str z, .int a, .int b, .str w] = true := rfl
  have E : ∀ (j : Nat) (x : D), [D.str "told", .str z, .int a, .int b, .str w][j]? = some x → mAlt (mPath 0 (pSub pVar (kC (.int j)))) (mBin dIx (mVar 0) (mC (.int j))) [some (F.told z a b w).d] = some (x, [some (F.told z a b w).d]) := fun j x hj => at_ev (i := 0) rfl hf hj
  refine fin_rt (np := 1) (N := 1) (δ := []) rfl (by decide) ((ev_seq ((ev_if0 (ev_or2 (p := false) (q := false) (nelen (n := 5) rfl hf rfl) fun _ => ev_or2 (p := false) (q := false) (ev_not1 (p := true) (ev_tru (ev_calle2 (E 2 (.int a) rfl) (b := mC (.int 1)) rfl (is_count_ok ha)))) fun _ => ev_not1 (p := true) (ev_tru (ev_calle2 (E 3 (.int b) rfl) (b := mC (.int 1)) rfl (is_count_ok hb))))).trans rfl)).trans (ev_ret ((ev_and1 (ev_callB (ev_cons (E 4 (.str w) rfl) (ev_cons (a := mC (.ty .str)) rfl (r := mNil) rfl)) rfl)).trans (ev_bin (g := dIn) (E 4 (.str w) rfl) (b := mC (.tup [(.str "landed"), (.str "left")])) rfl ?_))))
  rcases hw with rfl | rfl
  · have : dInB (.str "landed") (.tup [.str "landed", .str "left"]) = some true := by decide +kernel
    unfold dIn; rw [this]; rfl
  · have : dInB (.str "left") (.tup [.str "landed", .str "left"]) = some true := by decide +kernel
    unfold dIn; rw [this]; rfl
theorem eqs (a b : Str) : dEq (.str a) (.str b) = some (.bl (decide (a = b))) := rfl
theorem frame_ok {g : F} (h : g.ok) : m_is_frame [g.d] = some (.bl true, [g.d]) := by
  have key : ∀ (w z : Str) (r : List D), g.d = .tup (.str w :: .str z :: r) → Lab z → isFzs (.str w :: .str z :: r) = true → (tOr2 (tNot1 (mTru (mCallB dIsi (mCons (mVar 0) (mCons (mC (.ty .tup)) mNil))))) (tOr2 (toT (mBin dLt (mCallB dLen (mCons (mVar 0) mNil)) (mC (.int 2)))) (tOr2 (tNot1 (mTru (mCallB dIsi (mCons (mAlt (mPath 0 (pSub pVar (kC (.int 0)))) (mBin dIx (mVar 0) (mC (.int 0)))) (mCons (mC (.ty .str)) mNil))))) (tNot1 (mTru (mCall m_is_name [.e (mAlt (mPath 0 (pSub pVar (kC (.int 1)))) (mBin dIx (mVar 0) (mC (.int 1))))] [])))))) [some g.d] = some (false, [some g.d]) := fun w z r e hz hf => by
    have h0 : ([some g.d] : DL.Env)[0]? = some (some (.tup (.str w :: .str z :: r))) := by rw [e]; rfl
    refine ev_or2 (p := false) (q := false) (ev_not1 (p := true) (ev_tru (ev_callB (ev_cons (ev_var h0 (by simp only [isFz, hf])) (ev_cons (a := mC (.ty .tup)) rfl (r := mNil) rfl)) rfl))) fun _ => ev_or2 (p := false) (q := false) (ev_toT (ev_bin (g := dLt) (len_ev h0 hf) (b := mC (.int 2)) rfl ?_)) fun _ => ev_or2 (p := false) (q := false) (ev_not1 (p := true) (ev_tru (ev_callB (ev_cons (at_ev (k := 0) h0 hf rfl) (ev_cons (a := mC (.ty .str)) rfl (r := mNil) rfl)) rfl))) fun _ => ev_not1 (p := true) (ev_tru (ev_calle1 (at_ev (k := 1) h0 hf rfl) (is_name_ok hz)))
    show some (D.bl (decide (((D.str w :: .str z :: r).length : Int) < 2))) = _
    rw [decide_eq_false (by simp; omega)]
  have eq0 : ∀ (w z t : Str) (r : List D), g.d = .tup (.str w :: .str z :: r) → isFzs (.str w :: .str z :: r) = true → (mBin dEq (mAlt (mPath 0 (pSub pVar (kC (.int 0)))) (mBin dIx (mVar 0) (mC (.int 0)))) (mC (.str t))) [some g.d] = some (.bl (decide (w = t)), [some g.d]) := fun w z t r e hf => by
    have h0 : ([some g.d] : DL.Env)[0]? = some (some (.tup (.str w :: .str z :: r))) := by rw [e]; rfl
    exact ev_bin (g := dEq) (at_ev (k := 0) h0 hf rfl) (b := mC (.str t)) rfl (eqs _ _)
  have v0 : mVar 0 [some g.d] = some (g.d, [some g.d]) := ev_var rfl (fz_d g)
  refine fin_rt (np := 1) (N := 1) (δ := []) rfl (by decide) ?_
  cases g with
  | tell z k ws =>
    have hf : isFzs [.str "tell", .str z, .int k, tpS ws] = true := by simp only [isFzs, isFz, fz_tps]; rfl
    have q := ev_toT (eq0 "tell" z "tell" [.int k, tpS ws] rfl hf)
    rw [decide_eq_true rfl] at q
    exact (ev_seq ((ev_if0 (key "tell" z [.int k, tpS ws] rfl h.1 hf)).trans rfl)).trans (ev_stop ((ev_if1 q).trans (ev_ret (ev_calle1 v0 (tell_ok h)))))
  | ask z a b c d =>
    have q := ev_toT (eq0 "ask" z "tell" [.int a, .int b, .int c, .int d] rfl rfl)
    have q2 := ev_toT (eq0 "ask" z "ask" [.int a, .int b, .int c, .int d] rfl rfl)
    rw [show decide (Str.ofString "ask" = Str.ofString "tell") = false by decide +kernel] at q
    rw [decide_eq_true rfl] at q2
    exact (ev_seq ((ev_if0 (key "ask" z [.int a, .int b, .int c, .int d] rfl h.1 rfl)).trans rfl)).trans ((ev_seq ((ev_if0 q).trans rfl)).trans (ev_stop ((ev_if1 q2).trans (ev_ret (ev_calle1 v0 (ask_ok h))))))
  | told z a b w =>
    have q := ev_toT (eq0 "told" z "tell" [.int a, .int b, .str w] rfl rfl)
    have q2 := ev_toT (eq0 "told" z "ask" [.int a, .int b, .str w] rfl rfl)
    have q3 := eq0 "told" z "told" [.int a, .int b, .str w] rfl rfl
    rw [show decide (Str.ofString "told" = Str.ofString "tell") = false by decide +kernel] at q
    rw [show decide (Str.ofString "told" = Str.ofString "ask") = false by decide +kernel] at q2
    rw [decide_eq_true rfl] at q3
    exact (ev_seq ((ev_if0 (key "told" z [.int a, .int b, .str w] rfl h.1 rfl)).trans rfl)).trans ((ev_seq ((ev_if0 q).trans rfl)).trans ((ev_seq ((ev_if0 q2).trans rfl)).trans (ev_ret ((ev_and1 q3).trans (ev_calle1 v0 (told_ok h))))))
end K47
set_option Elab.async false
set_option linter.all false
set_option maxRecDepth 100000
set_option maxHeartbeats 0
namespace K47
open PySem PySem.Spec PyProof.Rows L2 DL
def num (i : Int) : Str := (toString i : Str)
def its : F → List (D × Str)
  | .tell z k ws => [(.str "tell", "tell"), (.str z, z), (.int k, num k), (tpS ws, Txt.join "," ws)]
  | .ask z a b c d => [(.str "ask", "ask"), (.str z, z), (.int a, num a), (.int b, num b), (.int c, num c), (.int d, num d)]
  | .told z a b w => [(.str "told", "told"), (.str z, z), (.int a, num a), (.int b, num b), (.str w, w)]
def parts (g : F) : List Str := (its g).map (·.2)
def line (g : F) : Str := Txt.join " " (parts g)
theorem d_its (g : F) : g.d = .tup ((its g).map (·.1)) := by cases g <;> rfl
/-- no sign that cuts -/
def Cl (p : Str) : Prop := (∀ c ∈ TL.tl p, c ≠ 32 ∧ c ≠ 10 ∧ c < 0x110000) ∧ p.length ≤ 20
theorem num_facts : ∀ k ∈ NUMS, k.natAbs.log2 < 1920 ∧ (num k).length ≤ 20 ∧ ((TL.tl (num k)).all fun c => decide (48 ≤ c) && decide (c ≤ 57)) = true := by decide +kernel
def isInt (k : Int) : Option (D × List D) → Bool
  | some (.int i, [.str z]) => decide (i = k) && decide (z = num k)
  | _ => false
theorem isInt_ok {k : Int} {r : Option (D × List D)} (h : isInt k r = true) : r = some (.int k, [.str (num k)]) := by
  unfold isInt at h
  split at h
  · simp only [Bool.and_eq_true, decide_eq_true_eq] at h
    rw [h.1, h.2]
  · cases h
theorem number_b : ∀ k ∈ NUMS, isInt k (m_number_in [.str (num k)]) = true := by decide +kernel
theorem number_ok {k : Int} (h : k ∈ NUMS) : m_number_in [.str (num k)] = some (.int k, [.str (num k)]) := isInt_ok (number_b k h)
theorem cl_num {k : Int} (h : k ∈ NUMS) : Cl (num k) := by
  obtain ⟨_, h2, h3⟩ := num_facts k h
  refine ⟨fun c hc => ?_, h2⟩
  have := List.all_eq_true.mp h3 c hc
  simp only [Bool.and_eq_true, decide_eq_true_eq] at this
  omega
theorem cl_lab {z : Str} (h : Lab z) : Cl z := ⟨fun c hc => by have := h.c c hc; omega, by have := h.b; omega⟩
theorem joinL_mem {S : List Nat} : ∀ {l : List (List Nat)} {c : Nat}, c ∈ TL.joinL S l → c ∈ S ∨ ∃ p ∈ l, c ∈ p
  | [], c, h => by cases h
  | [p], c, h => .inr ⟨p, List.mem_cons_self, h⟩
  | p :: q :: r, c, h => by
    have h : c ∈ p ++ (S ++ TL.joinL S (q :: r)) := by
      have e : TL.joinL S (p :: q :: r) = p ++ (S ++ TL.joinL S (q :: r)) := by first | rfl | (unfold TL.joinL; simp)
      rwa [e] at h
    rcases List.mem_append.mp h with h | h
    · exact .inr ⟨p, List.mem_cons_self, h⟩
    · rcases List.mem_append.mp h with h | h
      · exact .inl h
      · rcases joinL_mem h with h | ⟨x, hx, hc⟩
        · exact .inl h
        · exact .inr ⟨x, List.mem_cons_of_mem _ hx, hc⟩
theorem joinL_len {S : List Nat} {n : Nat} : ∀ {l : List (List Nat)}, (∀ p ∈ l, p.length ≤ n) → (TL.joinL S l).length ≤ l.length * (n + S.length)
  | [], _ => Nat.zero_le _
  | [p], h => by
    have := h p List.mem_cons_self
    show p.length ≤ _
    simp; omega
  | p :: q :: r, h => by
    have e : TL.joinL S (p :: q :: r) = p ++ (S ++ TL.joinL S (q :: r)) := by first | rfl | (unfold TL.joinL; simp)
    have ih := joinL_len (S := S) (l := q :: r) fun x hx => h x (List.mem_cons_of_mem _ hx)
    have := h p List.mem_cons_self
    rw [e, List.length_append, List.length_append, List.length_cons, Nat.add_mul]
    omega
theorem tl_join (y : Str) (ps : List Str) : TL.tl (Txt.join y ps) = TL.joinL (TL.tl y) (ps.map TL.tl) := by rw [TL.join_eq]; exact TL.tl_join y ps
theorem len_tl (x : Str) : x.length = (TL.tl x).length := TL.len_tl x
theorem cl_join {ws : List Str} (h : ∀ w ∈ ws, Lab w) (hl : ws.length ≤ 3) : Cl (Txt.join "," ws) ∧ (Txt.join "," ws).length ≤ 20 := by
  have hlen : (Txt.join "," ws).length ≤ 20 := by
    match ws, hl with
    | [], _ => decide
    | [a], _ =>
      have := (h a (by simp)).b
      rw [len_tl] at this
      rw [len_tl, tl_join]
      show (TL.tl a).length ≤ 20
      omega
    | [a, b], _ =>
      have h1 := (h a (by simp)).b
      have h2 := (h b (by simp)).b
      rw [len_tl] at h1 h2
      rw [len_tl, tl_join]
      show (TL.joinL [44] [TL.tl a, TL.tl b]).length ≤ 20
      have e : TL.joinL [44] [TL.tl a, TL.tl b] = TL.tl a ++ ([44] ++ TL.tl b) := by first | rfl | simp [TL.joinL]
      rw [e]; simp only [List.length_append, List.length_singleton]; omega
    | [a, b, c], _ =>
      have h1 := (h a (by simp)).b
      have h2 := (h b (by simp)).b
      have h3 := (h c (by simp)).b
      rw [len_tl] at h1 h2 h3
      rw [len_tl, tl_join]
      show (TL.joinL [44] [TL.tl a, TL.tl b, TL.tl c]).length ≤ 20
      have e : TL.joinL [44] [TL.tl a, TL.tl b, TL.tl c] = TL.tl a ++ ([44] ++ (TL.tl b ++ ([44] ++ TL.tl c))) := by first | rfl | simp [TL.joinL]
      rw [e]; simp only [List.length_append, List.length_singleton]; omega
  refine ⟨⟨fun c hc => ?_, hlen⟩, hlen⟩
  rw [tl_join] at hc
  rcases joinL_mem hc with hc | ⟨p, hp, hc⟩
  · have : c = 44 := by simpa using (show c ∈ [44] from hc)
    omega
  · obtain ⟨w, hw, rfl⟩ := List.mem_map.mp hp
    have := (h w hw).c c hc
    omega
theorem lit_cl {s : Str} (h : ((TL.tl s).all fun c => decide (97 ≤ c) && decide (c ≤ 122)) = true) (hl : s.length ≤ 20) : Cl s := ⟨fun c hc => by
  have := List.all_eq_true.mp h c hc
  simp only [Bool.and_eq_true, decide_eq_true_eq] at this
  omega, hl⟩
theorem parts_cl {g : F} (h : g.ok) : (∀ p ∈ parts g, Cl p) ∧ 4 ≤ (parts g).length ∧ (parts g).length ≤ 6 := by
  cases g with
  | tell z k ws =>
    obtain ⟨hz, hk, h1, h3, hw⟩ := h
    refine ⟨fun p hp => ?_, by show 4 ≤ 4; omega, by show 4 ≤ 6; omega⟩
    simp only [parts, its, List.map_cons, List.map_nil, List.mem_cons, List.not_mem_nil, or_false] at hp
    rcases hp with rfl | rfl | rfl | rfl
    · exact lit_cl (by decide +kernel) (by decide +kernel)
    · exact cl_lab hz
    · exact cl_num hk
    · exact (cl_join hw h3).1
  | ask z a b c d =>
    obtain ⟨hz, ⟨ha, _⟩, ⟨hb, _⟩, ⟨hc, _⟩, hd⟩ := h
    refine ⟨fun p hp => ?_, by show 4 ≤ 6; omega, by show 6 ≤ 6; omega⟩
    simp only [parts, its, List.map_cons, List.map_nil, List.mem_cons, List.not_mem_nil, or_false] at hp
    rcases hp with rfl | rfl | rfl | rfl | rfl | rfl
    · exact lit_cl (by decide +kernel) (by decide +kernel)
    · exact cl_lab hz
    · exact cl_num ha
    · exact cl_num hb
    · exact cl_num hc
    · exact cl_num hd
  | told z a b w =>
    obtain ⟨hz, ⟨ha, _⟩, ⟨hb, _⟩, hw⟩ := h
    refine ⟨fun p hp => ?_, by show 4 ≤ 5; omega, by show 5 ≤ 6; omega⟩
    simp only [parts, its, List.map_cons, List.map_nil, List.mem_cons, List.not_mem_nil, or_false] at hp
    rcases hp with rfl | rfl | rfl | rfl | rfl
    · exact lit_cl (by decide +kernel) (by decide +kernel)
    · exact cl_lab hz
    · exact cl_num ha
    · exact cl_num hb
    · rcases hw with rfl | rfl <;> exact lit_cl (by decide +kernel) (by decide +kernel)
theorem line_ok {g : F} (h : g.ok) : (∀ c ∈ TL.tl (line g), c ≠ 10 ∧ c < 0x110000) ∧ (line g).length ≤ 126 := by
  obtain ⟨h1, h2, h3⟩ := parts_cl h
  constructor
  · intro c hc
    unfold line at hc
    rw [tl_join] at hc
    rcases joinL_mem hc with hc | ⟨p, hp, hc⟩
    · have : c = 32 := by simpa using (show c ∈ [32] from hc)
      omega
    · obtain ⟨w, hw, rfl⟩ := List.mem_map.mp hp
      exact ((h1 w hw).1 c hc).2
  · rw [len_tl]
    unfold line
    rw [tl_join]
    have := joinL_len (S := TL.tl " ") (n := 20) (l := (parts g).map TL.tl) fun p hp => by
      obtain ⟨w, hw, rfl⟩ := List.mem_map.mp hp
      rw [← len_tl]
      exact (h1 w hw).2
    rw [List.length_map] at this
    refine Nat.le_trans this ?_
    show (parts g).length * (20 + 1) ≤ 126
    omega
theorem sum_len : ∀ {ys : List Str} {n : Nat}, (∀ y ∈ ys, y.length ≤ n) → (ys.map (·.length)).sum ≤ ys.length * n
  | [], _, _ => Nat.zero_le _
  | y :: r, n, h => by
    have := sum_len fun x hx => h x (List.mem_cons_of_mem _ hx)
    have := h y List.mem_cons_self
    simp only [List.map_cons, List.sum_cons, List.length_cons, Nat.add_mul]
    omega
theorem join_ok {a : Str} {ys : List Str} {o : Bool} {n : Nat} (h : ∀ y ∈ ys, y.length ≤ n) (hb : ys.length * n + ys.length * a.length ≤ 16777216) : gJoin (.str a) [.lst o (ys.map D.str)] = some (.str (Txt.join a ys)) := by
  unfold gJoin
  simp only [strs_strs]
  exact if_pos (Nat.le_trans (Nat.add_le_add_right (sum_len h) _) hb)
theorem join_tup {a : Str} {ys : List Str} {n : Nat} (h : ∀ y ∈ ys, y.length ≤ n) (hb : ys.length * n + ys.length * a.length ≤ 16777216) : gJoin (.str a) [tpS ys] = some (.str (Txt.join a ys)) := by
  unfold gJoin tpS
  simp only [strs_strs]
  exact if_pos (Nat.le_trans (Nat.add_le_add_right (sum_len h) _) hb)
/-- what str says of a plain item -/
theorem dstr_num {k : Int} (h : k ∈ NUMS) : dStr [.int k] = some (.str (num k)) := if_pos (num_facts k h).1
/-- the items: a tuple of words, or a text or a number -/
def ItOk (p : D × Str) : Prop := isFz p.1 = true ∧ ((∃ ws, p.1 = tpS ws ∧ p.2 = Txt.join "," ws ∧ ws.length ≤ 3 ∧ ∀ w ∈ ws, Lab w) ∨ (dIsi [p.1, .ty .tup] = some (.bl false) ∧ dStr [p.1] = some (.str p.2)))
theorem it_s (z : Str) : ItOk (.str z, z) := ⟨rfl, .inr ⟨rfl, rfl⟩⟩
theorem it_n {k : Int} (h : k ∈ NUMS) : ItOk (.int k, num k) := ⟨rfl, .inr ⟨rfl, dstr_num h⟩⟩
theorem its_ok {g : F} (h : g.ok) : ∀ p ∈ its g, ItOk p := by
  cases g with
  | tell z k ws =>
    obtain ⟨hz, hk, h1, h3, hw⟩ := h
    intro p hp
    simp only [its, List.mem_cons, List.not_mem_nil, or_false] at hp
    rcases hp with rfl | rfl | rfl | rfl
    · exact it_s _
    · exact it_s _
    · exact it_n hk
    · exact ⟨fz_tps ws, .inl ⟨ws, rfl, rfl, h3, hw⟩⟩
  | ask z a b c d =>
    obtain ⟨hz, ⟨ha, _⟩, ⟨hb, _⟩, ⟨hc, _⟩, hd⟩ := h
    intro p hp
    simp only [its, List.mem_cons, List.not_mem_nil, or_false] at hp
    rcases hp with rfl | rfl | rfl | rfl | rfl | rfl
    · exact it_s _
    · exact it_s _
    · exact it_n ha
    · exact it_n hb
    · exact it_n hc
    · exact it_n hd
  | told z a b w =>
    obtain ⟨hz, ⟨ha, _⟩, ⟨hb, _⟩, hw⟩ := h
    intro p hp
    simp only [its, List.mem_cons, List.not_mem_nil, or_false] at hp
    rcases hp with rfl | rfl | rfl | rfl | rfl
    · exact it_s _
    · exact it_s _
    · exact it_n ha
    · exact it_n hb
    · exact it_s _
theorem its_fz {g : F} (h : g.ok) : isFzs ((its g).map (·.1)) = true := isFzs_iff.mpr fun d hd => by
  obtain ⟨p, hp, rfl⟩ := List.mem_map.mp hd
  exact (its_ok h p hp).1
theorem words_join {ws : List Str} (hl : ws.length ≤ 3) (hw : ∀ w ∈ ws, Lab w) : gJoin (.str ",") [tpS ws] = some (.str (Txt.join "," ws)) :=
  join_tup (n := 6) (fun y hy => (hw y hy).b) (by
    have : (Str.ofString ",").length = 1 := by decide +kernel
    rw [this]; omega)
theorem law_line_ok {g : F} (h : g.ok) : m__law_line [g.d] = some (.str (line g), [g.d]) := by
  obtain ⟨pc, p4, p6⟩ := parts_cl h
  have hl : (its g).length ≤ 6 := by have : (parts g).length = (its g).length := by simp [parts]
                                     omega
  refine fin_rt (np := 1) (N := 2) (δ := [none]) rfl (by decide) (ev_ret (ev_methV (a := mC (.str " ")) rfl (tyD_str _) (ev_cons (lc_map (own := [1]) (t := tName 1) (m := (mIf (mTru (mCallB dIsi (mCons (mVar 1) (mCons (mC (.ty .tup)) mNil)))) (mMethV "str" gJoin (mC (.str ",")) (mCons (mVar 1) mNil)) (mCallB dStr (mCons (mVar 1) mNil)))) (δ1 := [some g.d, none]) (its g) (·.1) (fun p => .str p.2) (ev_altI (b := keysAt 0 pVar) (iAny_tup (ds := (its g).map (·.1)) ?_ (its_fz h))) rfl (Nat.le_trans hl (by decide)) fun p hp => ⟨_, rfl, rfl, ?_⟩) (r := mNil) rfl) ?_))
  · rw [← d_its]
    exact ev_var rfl (fz_d g)
  · obtain ⟨pf, hq⟩ := its_ok h p hp
    have v1 : mVar 1 [some g.d, some p.1] = some (p.1, [some g.d, some p.1]) := ev_var rfl pf
    rcases hq with ⟨ws, e1, e2, e3, e4⟩ | ⟨e1, e2⟩
    · have t1 : mTru (mCallB dIsi (mCons (mVar 1) (mCons (mC (.ty .tup)) mNil))) [some g.d, some p.1] = some (true, [some g.d, some p.1]) := ev_tru (ev_callB (ev_cons v1 (ev_cons (a := mC (.ty .tup)) rfl (r := mNil) rfl)) (by rw [e1]; rfl))
      refine (ev_if_e t1).trans ?_
      rw [if_pos rfl, e2]
      exact ev_methV (a := mC (.str ",")) rfl (tyD_str _) (ev_cons v1 (r := mNil) rfl) (by rw [e1]; exact words_join e3 e4)
    · have t1 : mTru (mCallB dIsi (mCons (mVar 1) (mCons (mC (.ty .tup)) mNil))) [some g.d, some p.1] = some (false, [some g.d, some p.1]) := ev_tru (ev_callB (ev_cons v1 (ev_cons (a := mC (.ty .tup)) rfl (r := mNil) rfl)) e1)
      refine (ev_if_e t1).trans ?_
      rw [if_neg (by decide)]
      exact ev_call1 (g := dStr) v1 e2
  · have := join_ok (a := " ") (ys := parts g) (o := true) (n := 20) (fun y hy => (pc y hy).2) (by
      have : (Str.ofString " ").length = 1 := by decide +kernel
      rw [this]; omega)
    rw [show (its g).map (fun p => D.str p.2) = (parts g).map D.str by simp [parts, List.map_map, Function.comp]]
    exact this
end K47
set_option Elab.async false
set_option linter.all false
set_option maxRecDepth 100000
set_option maxHeartbeats 0
namespace K47
open PySem PySem.Spec PyProof.Rows L2 DL
theorem gSplit_ok {a b : Str} {ps : List Str} (e : Txt.split a b = ps) (hb : (b.length == 0) = false) (hl : a.length + 2 ≤ sizeLine) : gSplit (.str a) [.str b] = some (.lst true (ps.map D.str)) := by
  subst e
  unfold gSplit
  exact if_pos ⟨hb, hl⟩
def text (g : F) : Str := line g ++ "\n"
theorem lst_path {i k : Nat} {ps : List Str} {p : Str} {δ : DL.Env} (h : δ[i]? = some (some (.lst false (ps.map D.str)))) (hk : ps[k]? = some p) : mAlt (mPath i (pSub pVar (kC (.int k)))) (mBin dIx (mVar i) (mC (.int k))) δ = some (.str p, δ) := by
  have hk' : (ps.map D.str)[k]? = some (.str p) := by rw [List.getElem?_map, hk]; rfl
  exact ev_altE (ev_pathF h (p := [.sub (.inl k)]) rfl (walkF (isFz_lst' ps) (j := k) (ix_nat (List.getElem?_eq_some_iff.mp hk').1) hk' (walk_nilF rfl)))
where
  isFz_lst' (ps : List Str) : isFz (.lst false (ps.map D.str)) = true := by simp only [isFz, isFzs_strs]; rfl
theorem isFz_strs (ps : List Str) : isFz (.lst false (ps.map D.str)) = true := by simp only [isFz, isFzs_strs]; rfl
theorem ev_slL {a : ME} {lo hi : MO} {δ δ1 δ2 δ3 : DL.Env} {o : Bool} {ds : List D} {l h : Option Int} (h1 : a δ = some (.lst o ds, δ1)) (h2 : lo δ1 = some (l, δ2)) (h3 : hi δ2 = some (h, δ3)) : mSl a lo hi δ = some (.lst true (DL.cutD ds l h), δ3) := by
  unfold mSl
  simp only [h1, h2, h3]
  rfl
end K47
set_option Elab.async false
set_option linter.all false
set_option maxRecDepth 100000
set_option maxHeartbeats 0
namespace K47
open PySem PySem.Spec PyProof.Rows L2 DL
/-- the signs of the frames' lines -/
def Tx (gs : List F) : List Nat := gs.flatMap fun g => TL.tl (line g) ++ [10]
theorem ne_str_refl (a : Str) : dNe (.str a) (.str a) = some (.bl false) := by
  show some (D.bl (!decide (a = a))) = _
  rw [decide_eq_true rfl]; rfl
theorem nl_tl : TL.tl (Str.ofString "\n") = [10] := by decide +kernel
theorem text_tl (g : F) : TL.tl (text g) = TL.tl (line g) ++ [10] := by
  unfold text
  rw [TL.tl_append, nl_tl]
theorem cut_last {α : Type} (ds : List α) : DL.cutD ds none (some (-1)) = ds.dropLast := by
  unfold DL.cutD
  rw [HT.sIx_none]
  have : HT.sIx ds.length ds.length (some (-1)) = ds.length - 1 := by
    show (if (-1 : Int) < 0 then ((-1 : Int) + (ds.length : Int)).toNat else min (-1 : Int).toNat ds.length) = _
    rw [if_pos (by decide)]
    omega
  rw [this, List.dropLast_eq_take]
  simp
theorem d_fzs (gs : List F) : isFzs (gs.map F.d) = true := isFzs_typ F.d fz_d gs
theorem law_page_ok {gs : List F} (hg : ∀ g ∈ gs, g.ok) (hn : gs.length ≤ 8) : ∃ z : Str, TL.tl z = Tx gs ∧ z.length ≤ 1100 ∧ m__law_page [.lst false (gs.map F.d)] = some (.str z, [.lst false (gs.map F.d)]) := by
  have tlen : ∀ g ∈ gs, (text g).length ≤ 127 := fun g hg' => by
    have := (line_ok (hg g hg')).2
    rw [len_tl] at this ⊢
    rw [text_tl]
    simp only [List.length_append, List.length_singleton]
    omega
  have je : ∀ ys : List Str, TL.tl (Txt.join "" ys) = ys.flatMap TL.tl := by
    intro ys
    rw [tl_join]
    have e0 : TL.tl (Str.ofString "") = [] := rfl
    rw [e0]
    induction ys with
    | nil => rfl
    | cons y r ih =>
      cases r with
      | nil => simp [TL.joinL]
      | cons y2 r =>
        have e : TL.joinL [] (TL.tl y :: TL.tl y2 :: r.map TL.tl) = TL.tl y ++ ([] ++ TL.joinL [] (TL.tl y2 :: r.map TL.tl)) := by first | rfl | simp [TL.joinL]
        rw [List.map_cons, List.map_cons, e]
        rw [List.map_cons] at ih
        rw [ih]
        simp
  have hz : TL.tl (Txt.join "" (gs.map text)) = Tx gs := by
    rw [je, List.flatMap_map]
    simp only [text_tl, Tx]
  have hlen : (Tx gs).length ≤ gs.length * 127 := by
    clear hz je hn
    induction gs with
    | nil => simp [Tx]
    | cons g r ih =>
      have := ih (fun x hx => hg x (List.mem_cons_of_mem _ hx)) fun x hx => tlen x (List.mem_cons_of_mem _ hx)
      have h1 := tlen g List.mem_cons_self
      rw [len_tl, text_tl] at h1
      simp only [Tx, List.flatMap_cons, List.length_append, List.length_cons] at this h1 ⊢
      omega
  refine ⟨Txt.join "" (gs.map text), hz, by rw [len_tl, hz]; omega, ?_⟩
  refine fin_rt (np := 1) (N := 2) (δ := [none]) rfl (by decide) (ev_ret (ev_methV (a := mC (.str "")) rfl (tyD_str _) (ev_cons (lc_map (own := [1]) (t := tName 1) (m := (mBin dAdd (mCall m__law_line [.e (mVar 1)] []) (mC (.str "\n")))) (δ1 := [some (.lst false (gs.map F.d)), none]) gs F.d (fun g => .str (text g)) (ev_altI (b := keysAt 0 pVar) ((iAny_lst (o := false) (ev_var (i := 0) rfl (by simp only [isFz, d_fzs]; rfl))).trans (by rw [fzs_typ F.d fz_d]; rfl))) rfl (Nat.le_trans hn (by decide)) fun g hg' => ⟨_, rfl, rfl, ev_bin (g := dAdd) (ev_calle1 (ev_var (i := 1) (d := g.d) rfl (fz_d g)) (law_line_ok (hg g hg'))) (b := mC (.str "\n")) rfl (add_str ?_)⟩) (r := mNil) rfl) ?_))
  · have := (line_ok (hg g hg')).2
    have e : (Str.ofString "\n").length = 1 := by decide +kernel
    rw [e]
    exact Nat.le_trans (show _ ≤ 127 by omega) (by decide)
  · have := join_ok (a := "") (ys := gs.map text) (o := true) (n := 127) (fun y hy => by
      obtain ⟨g, hg', rfl⟩ := List.mem_map.mp hy
      exact tlen g hg') (by
      have : (Str.ofString "").length = 0 := rfl
      rw [this, List.length_map]; omega)
    rw [List.map_map] at this
    exact this
end K47
set_option Elab.async false
set_option linter.all false
set_option maxRecDepth 100000
set_option maxHeartbeats 0
set_option exponentiation.threshold 2003
namespace K47
open PySem PySem.Spec PyProof.Rows L2 DL
theorem joinL_cons (c : Nat) (p q : List Nat) (r : List (List Nat)) : TL.joinL [c] (p :: q :: r) = p ++ (c :: TL.joinL [c] (q :: r)) := rfl
theorem pieces_of (c : Nat) : ∀ l : List Nat, ∃ ps : List (List Nat), ps ≠ [] ∧ TL.joinL [c] ps = l ∧ ∀ p ∈ ps, c ∉ p
  | [] => ⟨[[]], by simp, rfl, by simp⟩
  | x :: l => by
    obtain ⟨ps, h1, h2, h3⟩ := pieces_of c l
    match ps, h1 with
    | p :: r, _ =>
      by_cases e : x = c
      · subst e
        refine ⟨[] :: p :: r, by simp, ?_, fun q hq => ?_⟩
        · rw [joinL_cons, h2]
          rfl
        · rcases List.mem_cons.mp hq with rfl | hq
          · simp
          · exact h3 q hq
      · refine ⟨(x :: p) :: r, by simp, ?_, fun q hq => ?_⟩
        · rw [← h2]
          cases r <;> rfl
        · rcases List.mem_cons.mp hq with rfl | hq
          · intro m
            rcases List.mem_cons.mp m with m | m
            · exact e m.symm
            · exact h3 p List.mem_cons_self m
          · exact h3 q (List.mem_cons_of_mem _ hq)
/-- a part of l, in one stretch -/
def Stretch (v l : List Nat) : Prop := ∃ u w, l = u ++ v ++ w
theorem Stretch.refl (l : List Nat) : Stretch l l := ⟨[], [], by simp⟩
theorem Stretch.trans {a b c : List Nat} (h : Stretch a b) (k : Stretch b c) : Stretch a c := by
  obtain ⟨u, w, rfl⟩ := h
  obtain ⟨u', w', rfl⟩ := k
  exact ⟨u' ++ u, w ++ w', by simp⟩
theorem Stretch.mem {v l : List Nat} (h : Stretch v l) {c : Nat} (m : c ∈ v) : c ∈ l := by
  obtain ⟨u, w, rfl⟩ := h
  simp [m]
theorem Stretch.len {v l : List Nat} (h : Stretch v l) : v.length ≤ l.length := by
  obtain ⟨u, w, rfl⟩ := h
  simp; omega
theorem piece_in (c : Nat) : ∀ {ps : List (List Nat)} {p : List Nat}, p ∈ ps → Stretch p (TL.joinL [c] ps)
  | [q], p, h => by
    rw [List.mem_singleton.mp h]
    exact .refl _
  | q :: q2 :: r, p, h => by
    rw [joinL_cons]
    rcases List.mem_cons.mp h with rfl | h
    · exact ⟨[], c :: TL.joinL [c] (q2 :: r), by simp⟩
    · obtain ⟨u, w, e⟩ := piece_in c h
      exact ⟨q ++ c :: u, w, by rw [e]; simp⟩
theorem pieces_len (c : Nat) : ∀ ps : List (List Nat), ps.length ≤ (TL.joinL [c] ps).length + 1
  | [] => by simp
  | [p] => by simp
  | p :: q :: r => by
    have := pieces_len c (q :: r)
    rw [joinL_cons]
    simp only [List.length_append, List.length_cons] at this ⊢
    omega
/-- a text, split at a sign: pieces without that sign, which joined give the text -/
theorem split_of {y : Str} {c : Nat} (hy : TL.tl y = [c]) (hk : y.cps.all (· < 256) = true) (z : Str) : ∃ ps : List Str, ps ≠ [] ∧ Txt.split z y = ps ∧ Txt.join y ps = z ∧ ps.length ≤ z.length + 1 ∧ ∀ p ∈ ps, c ∉ TL.tl p ∧ Stretch (TL.tl p) (TL.tl z) := by
  obtain ⟨ls, h1, h2, h3⟩ := pieces_of c (TL.tl z)
  have back : (ls.map fun l => (⟨l.toArray⟩ : Str)).map TL.tl = ls := by
    rw [List.map_map]
    exact (List.map_congr_left fun l _ => TL.tl_mk l).trans (List.map_id ls)
  have joined : Txt.join y (ls.map fun l => (⟨l.toArray⟩ : Str)) = z := by
    refine TL.ext_tl ?_
    rw [tl_join, back, hy, h2]
  have ne : (ls.map fun l => (⟨l.toArray⟩ : Str)) ≠ [] := fun e => h1 (List.map_eq_nil_iff.mp e)
  have free : ∀ p ∈ ls.map fun l => (⟨l.toArray⟩ : Str), c ∉ TL.tl p := fun p hp => by
    obtain ⟨l, hl, rfl⟩ := List.mem_map.mp hp
    exact h3 l hl
  refine ⟨_, ne, ?_, joined, ?_, fun p hp => ⟨free p hp, ?_⟩⟩
  · have := TL.split_join (s := c) (S := []) hy hk ne free
    rwa [joined] at this
  · rw [List.length_map, len_tl, ← h2]
    exact pieces_len c ls
  · obtain ⟨l, hl, rfl⟩ := List.mem_map.mp hp
    rw [← h2]
    exact piece_in c hl
theorem join_inj {y : Str} {c : Nat} (hy : TL.tl y = [c]) (hk : y.cps.all (· < 256) = true) {ps qs : List Str} (h1 : ps ≠ []) (h2 : qs ≠ []) (f1 : ∀ p ∈ ps, c ∉ TL.tl p) (f2 : ∀ p ∈ qs, c ∉ TL.tl p) (e : Txt.join y ps = Txt.join y qs) : ps = qs := by
  rw [← TL.split_join (s := c) (S := []) hy hk h1 f1, ← TL.split_join (s := c) (S := []) hy hk h2 f2, e]
theorem sp_tl : TL.tl (Str.ofString " ") = [32] := by decide +kernel
theorem cm_tl : TL.tl (Str.ofString ",") = [44] := by decide +kernel
def digB (w : Str) : Bool := !(TL.tl w).isEmpty && (TL.tl w).all fun c => decide (48 ≤ c) && decide (c ≤ 57)
def val (w : Str) : Nat := NumText.digitsVal (TL.tl w)
/-- the number's own text -/
def cnB (w : Str) : Bool := digB w && (decide ((TL.tl w).length = 1) || !decide ((TL.tl w).head? = some 48))
theorem digB_all {w : Str} (h : digB w = true) : NumText.AllDigits (TL.tl w) ∧ TL.tl w ≠ [] := by
  unfold digB at h
  simp only [Bool.and_eq_true, List.all_eq_true, decide_eq_true_eq, Bool.not_eq_true', List.isEmpty_eq_false_iff] at h
  exact ⟨h.2, h.1⟩
theorem num_tl (n : Nat) : TL.tl (num (n : Int)) = (Nat.toDigits 10 n).map Char.toNat := PySem.W.KIN.signs_num n
theorem ofNat_back : ∀ l : List Nat, NumText.AllDigits l → (l.map Char.ofNat).map Char.toNat = l
  | [], _ => rfl
  | c :: l, h => by
    rw [List.map_cons, List.map_cons, ofNat_back l h.tail]
    have hc := h.head
    have : (Char.ofNat c).toNat = c := by
      have : c ∈ List.range' 48 10 := by simp; omega
      exact (show ∀ c ∈ List.range' 48 10, (Char.ofNat c).toNat = c by decide) c this
    rw [this]
/-- its own text is the text that str makes of it -/
theorem cn_num {w : Str} (h : cnB w = true) : num (val w : Int) = w := by
  unfold cnB at h
  rw [Bool.and_eq_true] at h
  obtain ⟨hd, hc⟩ := h
  obtain ⟨ad, ne⟩ := digB_all hd
  refine TL.ext_tl ?_
  rw [num_tl]
  unfold val
  obtain ⟨n, hn⟩ : ∃ n, (TL.tl w).length = n + 1 := ⟨(TL.tl w).length - 1, by
    have := List.length_pos_iff.mpr ne
    omega⟩
  rw [NumText.toDigits_digitsVal n _ hn ad ?_, ofNat_back _ ad]
  simp only [Bool.or_eq_true, decide_eq_true_eq, Bool.not_eq_true', decide_eq_false_iff_not] at hc
  rcases hc with hc | hc
  · exact .inl (by omega)
  · right
    match hw : TL.tl w, ne with
    | c :: r, _ =>
      rw [hw] at hc ad
      have := ad.head
      exact ⟨c, r, rfl, by
        have : c ≠ 48 := fun e => hc (by rw [e]; rfl)
        omega⟩
theorem num_cn {w : Str} (hd : digB w = true) (h : num (val w : Int) = w) : cnB w = true := by
  obtain ⟨ad, ne⟩ := digB_all hd
  unfold cnB
  rw [hd, Bool.true_and, Bool.or_eq_true, decide_eq_true_eq]
  have e : TL.tl (num (val w : Int)) = TL.tl w := by rw [h]
  rw [num_tl] at e
  unfold val at e
  match hw : TL.tl w, ne with
  | c :: r, _ =>
    rw [hw] at e ad
    by_cases z : c = 48
    · left
      subst z
      rw [NumText.toDigits_all _ ad] at e
      split at e
      · have : r = [] := by simpa using e.symm
        rw [this]; rfl
      · rename_i c' r' hdw
        have : c' ≠ 48 := by
          intro q
          have hh := List.head?_dropWhile_not (p := fun x : Nat => x == 48) (48 :: r)
          rw [hdw] at hh
          simp [q] at hh
        have hmem : ∀ x ∈ c' :: r', 48 ≤ x ∧ x ≤ 57 := fun x hx => ad x ((List.dropWhile_sublist (l := 48 :: r) (p := fun x : Nat => x == 48)).subset (by rw [hdw]; exact hx))
        rw [ofNat_back _ hmem] at e
        injection e with e1 _
        exact absurd e1 this
    · right
      simp [z]
theorem val_lt {w : Str} (h : (TL.tl w).length ≤ 400) (hd : digB w = true) : val w < 10 ^ 400 := by
  obtain ⟨ad, _⟩ := digB_all hd
  have : ∀ (l : List Nat) (a : Nat), NumText.AllDigits l → l.foldl (fun acc c => acc * 10 + (c - 48)) a < (a + 1) * 10 ^ l.length := by
    intro l
    induction l with
    | nil => intro a _; simp
    | cons c l ih =>
      intro a h
      have := ih (a * 10 + (c - 48)) h.tail
      have hc := h.head
      rw [List.foldl_cons]
      refine Nat.lt_of_lt_of_le this ?_
      rw [List.length_cons, Nat.pow_succ, Nat.mul_comm (10 ^ l.length) 10, ← Nat.mul_assoc]
      exact Nat.mul_le_mul_right _ (by omega)
  have h1 := this (TL.tl w) 0 ad
  unfold val NumText.digitsVal
  refine Nat.lt_of_lt_of_le h1 ?_
  rw [Nat.zero_add, Nat.one_mul]
  exact Nat.pow_le_pow_right (by decide) h
end K47
set_option Elab.async false
set_option linter.all false
set_option maxRecDepth 100000
set_option maxHeartbeats 0
set_option exponentiation.threshold 2003
namespace K47
open PySem PySem.Spec PyProof.Rows L2 DL
open J (CH wordB atomB it1B it2B signs_of)
def dig (c : Nat) : Bool := decide (48 ≤ c) && decide (c ≤ 57)
theorem in_figures : ∀ c ∈ CH, dIn (.str ⟨#[c]⟩) (.str "0123456789") = some (.bl (dig c)) := by
  have h : ∀ c ∈ CH, dInB (.str ⟨#[c]⟩) (.str "0123456789") = some (dig c) := by decide +kernel
  intro c hc
  unfold dIn
  rw [h c hc]; rfl
theorem out_figures : ∀ c ∈ CH, dNotIn (.str ⟨#[c]⟩) (.str "0123456789") = some (.bl (!dig c)) := by
  have h : ∀ c ∈ CH, dInB (.str ⟨#[c]⟩) (.str "0123456789") = some (dig c) := by decide +kernel
  intro c hc
  unfold dNotIn
  rw [h c hc]; rfl
theorem empty_iff (w : Str) : decide (w = Str.ofString "") = (TL.tl w).isEmpty := by
  cases h : TL.tl w with
  | nil =>
    refine decide_eq_true (TL.ext_tl ?_)
    rw [h]; rfl
  | cons c r =>
    refine decide_eq_false fun e => ?_
    rw [e] at h
    cases h
theorem signs_fun (l : List Nat) : blsOf (l.map ((fun d => match d with | .str y => D.bl (y.cps.toList.all dig) | _ => .non) ∘ fun c => D.str ⟨#[c]⟩)) = some (l.map dig) := by
  induction l with
  | nil => rfl
  | cons c l ih =>
    simp only [List.map_cons, Function.comp] at ih ⊢
    simp only [blsOf, ih]
    simp
theorem ne_none {o o' : Bool} {L : List Str} (h : ∀ z ∈ L, PyData.strOk z = true) : dNe (.lst o (L.map D.str)) (.lst o' []) = some (.bl (!L.isEmpty)) := by
  have e : pyEq (.lst o (L.map D.str)) (.lst o' []) = some L.isEmpty := by
    unfold pyEq
    have s2 : SeqAt.shaped (.list []) = true := by decide +kernel
    simp only [toPy, toPys_strs, toPys, Option.map_some, (shaped_strs L h).1, s2, Bool.and_self, if_true]
    cases L <;> rfl
  show (pyEq _ _).map _ = _
  rw [e]; rfl
theorem sign_ok {c : Nat} (h : c ∈ CH) : PyData.strOk (⟨#[c]⟩ : Str) = true := by
  have hm : ∀ c ∈ CH, c < 0x110000 := by decide
  unfold PyData.strOk
  (rw [← Array.all_toList, List.all_eq_true])
  intro x hx
  have : x = c := by simpa using hx
  rw [this]
  exact decide_eq_true (hm c h)
section
variable {w : Str} (hw : wordB w = true)
include hw
theorem all_figures : (mCallB dAll (mCons (mLc (iAlt (iAny (mVar 0)) (keysAt 0 pVar)) [1] (tName 1) tTrue (mBin dIn (mVar 1) (mC (.str "0123456789")))) mNil)) [some (.str w), none] = some (.bl ((TL.tl w).all dig), [some (.str w), none]) := by
  obtain ⟨h4, hc⟩ := signs_of hw
  have hz : w.length ≤ sizeLine := Nat.le_trans h4 (by decide)
  have lc := loopC_map (own := [1]) (t := tName 1) (m := mBin dIn (mVar 1) (mC (.str "0123456789"))) (f := fun d => match d with | .str y => .bl (y.cps.toList.all dig) | _ => .non) (δ0 := [some (.str w), none]) (ds := w.cps.toList.map fun c => D.str ⟨#[c]⟩) (acc := []) (fun d hd => by
    obtain ⟨c, hc1, rfl⟩ := List.mem_map.mp hd
    refine ⟨_, _, rfl, ev_bin (g := dIn) (ev_var (i := 1) (d := .str ⟨#[c]⟩) rfl rfl) (b := mC (.str "0123456789")) rfl ?_, rfl⟩
    rw [in_figures c (hc c hc1)]
    show _ = some (D.bl (dig c && true))
    rw [Bool.and_true])
  refine ev_call1 (g := dAll) (ev_lc J.txt_any (own := [1]) (by rw [List.length_map, Array.length_toList]; exact hz) lc) ?_
  rw [List.nil_append, List.map_map]
  show (blsOf _).map _ = _
  rw [signs_fun]
  show some (D.bl _) = some (D.bl _)
  rw [List.all_map]
  rfl
theorem no_figures : toT (mBin dNe (mLc (iAlt (iAny (mVar 0)) (keysAt 0 pVar)) [1] (tName 1) (toT (mBin dNotIn (mVar 1) (mC (.str "0123456789")))) (mVar 1)) (mLst mNil)) [some (.str w), none] = some (!(TL.tl w).all dig, [some (.str w), none]) := by
  obtain ⟨h4, hc⟩ := signs_of hw
  have hz : w.length ≤ sizeLine := Nat.le_trans h4 (by decide)
  have lc := loopC_filter (own := [1]) (t := tName 1) (c := toT (mBin dNotIn (mVar 1) (mC (.str "0123456789")))) (m := mVar 1) (p := fun d => match d with | .str y => !(y.cps.toList.all dig) | _ => true) (δ0 := [some (.str w), none]) (ds := w.cps.toList.map fun c => D.str ⟨#[c]⟩) (acc := []) (fun d hd => by
    obtain ⟨c, hc1, rfl⟩ := List.mem_map.mp hd
    refine ⟨_, rfl, ev_toT (ev_bin (g := dNotIn) (ev_var (i := 1) (d := .str ⟨#[c]⟩) rfl rfl) (b := mC (.str "0123456789")) rfl ?_), rfl, _, ev_var (i := 1) (d := .str ⟨#[c]⟩) rfl rfl, rfl⟩
    rw [out_figures c (hc c hc1)]
    show _ = some (D.bl !(dig c && true))
    rw [Bool.and_true])
  have pick : ∀ l : List Nat, ((l.map fun c => D.str ⟨#[c]⟩).filter fun d => match d with | .str y => !(y.cps.toList.all dig) | _ => true) = ((l.filter fun c => !dig c).map fun c => (⟨#[c]⟩ : Str)).map D.str := by
    intro l
    induction l with
    | nil => rfl
    | cons c l ih =>
      rw [List.map_cons, List.filter_cons, List.filter_cons, ih]
      cases hs : dig c <;> simp [hs]
  have bad := ev_lc (J.txt_any (z := w) (δ := [none])) (own := [1]) (by rw [List.length_map, Array.length_toList]; exact hz) lc
  rw [List.nil_append, pick] at bad
  refine (ev_toT (ev_bin (g := dNe) bad (b := mLst mNil) (y := .lst true []) rfl (ne_none fun z hz => ?_))).trans ?_
  · obtain ⟨c, hc1, rfl⟩ := List.mem_map.mp hz
    exact sign_ok (hc c (List.mem_filter.mp hc1).1)
  · have : ∀ l : List Nat, ((l.filter fun c => !dig c).map fun c => (⟨#[c]⟩ : Str)).isEmpty = l.all dig := by
      intro l
      induction l with
      | nil => rfl
      | cons c l ih =>
        rw [List.filter_cons]
        cases hs : dig c <;> simp_all
    rw [this]
    first | rfl | skip
theorem int_of (hd : digB w = true) : dInt2 [.str w] = some (.int (val w)) := by
  obtain ⟨h4, _⟩ := signs_of hw
  obtain ⟨ad, ne⟩ := digB_all hd
  unfold dInt2
  have := PySem.intText_digits (x := w) ad ne (Nat.le_trans h4 (by decide))
  simp only [this]
  rw [if_pos (Nat.le_trans h4 (by decide))]
  rfl
theorem number_in_ok : m_number_in [.str w] = some (if cnB w then .int (val w) else .non, [.str w]) := by
  have e0 : toT (mBin dEq (mVar 0) (mC (.str ""))) [some (.str w), none] = some ((TL.tl w).isEmpty, [some (.str w), none]) := by
    refine ev_toT (ev_bin (g := dEq) (ev_var (i := 0) rfl rfl) (b := mC (.str "")) rfl ?_)
    rw [← empty_iff]
    rfl
  have e1 := ev_not1 (ev_tru (all_figures hw))
  have stop : ∀ {c : MT}, c [some (.str w), none] = some (true, [some (.str w), none]) → (sCons (sIf c (sRet (mC .non)) sNil) (sRet (mCallB dInt2 (mCons (mVar 0) mNil)))) [some (.str w), none] = some (.rt .non [some (.str w), none]) := fun h => ev_stop ((ev_if1 h).trans (ev_ret (m := mC .non) rfl))
  have go : ∀ {c : MT}, digB w = true → c [some (.str w), none] = some (false, [some (.str w), none]) → (sCons (sIf c (sRet (mC .non)) sNil) (sRet (mCallB dInt2 (mCons (mVar 0) mNil)))) [some (.str w), none] = some (.rt (.int (val w)) [some (.str w), none]) := fun hd h => (ev_seq ((ev_if0 h).trans rfl)).trans (ev_ret (ev_call1 (g := dInt2) (ev_var (i := 0) rfl rfl) (int_of hw hd)))
  refine J.fin1 (N := 2) rfl (δ := [none]) ?_
  cases hl : TL.tl w with
  | nil =>
    have : cnB w = false := by
      unfold cnB digB
      rw [hl]; rfl
    rw [this]
    rw [hl] at e0
    exact stop (J.or2_true e0)
  | cons c r =>
    rw [hl] at e0 e1
    cases ha : (c :: r).all dig with
    | false =>
      have : cnB w = false := by
        unfold cnB digB
        rw [hl]
        have : ((c :: r).all fun c => decide (48 ≤ c) && decide (c ≤ 57)) = false := ha
        rw [this]; rfl
      rw [this]
      rw [ha] at e1
      exact stop ((J.or2_if e0 fun _ => J.or2_true e1))
    | true =>
      have hd : digB w = true := by
        unfold digB
        rw [hl]
        have : ((c :: r).all fun c => decide (48 ≤ c) && decide (c ≤ 57)) = true := ha
        rw [this]; rfl
      rw [ha] at e1
      have at0 : mAlt (mPath 0 (pSub pVar (kC (.int 0)))) (mBin dIx (mVar 0) (mC (.int 0))) [some (.str w), none] = some (.str ⟨#[c]⟩, [some (.str w), none]) := by
        unfold mAlt
        have : mPath 0 (pSub pVar (kC (.int 0))) [some (.str w), none] = none := rfl
        rw [this]
        refine ev_bin (g := dIx) (ev_var (i := 0) rfl rfl) (b := mC (.int 0)) rfl ?_
        obtain ⟨h4, _⟩ := signs_of hw
        show (if w.length ≤ sizeLine then (atI w.cps.toList 0).map fun c => D.str ⟨#[c]⟩ else none) = _
        rw [if_pos (Nat.le_trans h4 (by decide)), show w.cps.toList = c :: r from hl]
        have : atI (c :: r) 0 = some c := by
          unfold atI
          have : ixN (c :: r).length 0 = some 0 := by
            unfold ixN
            rw [if_pos (by omega)]
            simp
          rw [this]; rfl
        rw [this]; rfl
      have f0 := ev_toT (ev_bin (g := dEq) at0 (b := mC (.str "0")) rfl (eqs _ _))
      have f1 : toT (mBin dNe (mVar 0) (mC (.str "0"))) [some (.str w), none] = some (!decide (w = "0"), [some (.str w), none]) := ev_toT (ev_bin (g := dNe) (ev_var (i := 0) rfl rfl) (b := mC (.str "0")) rfl rfl)
      have z0 : (Str.ofString "0") = ⟨#[48]⟩ := by decide +kernel
      have c0 : decide ((⟨#[c]⟩ : Str) = Str.ofString "0") = decide (c = 48) := by
        rw [z0]
        exact decide_eq_decide.mpr ⟨fun e => by injection e with e; simpa using e, fun e => by rw [e]⟩
      have c1 : decide (w = Str.ofString "0") = decide (c = 48 ∧ r = []) := by
        refine decide_eq_decide.mpr ⟨fun e => ?_, fun e => TL.ext_tl ?_⟩
        · rw [e, z0] at hl
          have : [48] = c :: r := hl
          injection this with a b
          exact ⟨a.symm, b.symm⟩
        · rw [hl, e.1, e.2, z0]
      rw [c0] at f0
      rw [c1] at f1
      have all := J.or2_if e0 fun _ => J.or2_if e1 fun _ => ev_and2 f0 fun _ => f1
      have hcn : cnB w = !(decide (c = 48) && !decide (c = 48 ∧ r = [])) := by
        unfold cnB
        rw [hd, hl, Bool.true_and]
        cases r with
        | nil => by_cases e : c = 48 <;> simp [e]
        | cons x r => by_cases e : c = 48 <;> simp [e]
      rw [hcn]
      cases hx : (decide (c = 48) && !decide (c = 48 ∧ r = [])) with
      | true =>
        rw [hx] at all
        exact stop all
      | false =>
        rw [hx] at all
        exact go hd all
theorem law_number_ok : m__law_number [.str w] = some (if digB w then .int (val w) else .non, [.str w]) := by
  have e0 : toT (mBin dEq (mVar 0) (mC (.str ""))) [some (.str w), none] = some ((TL.tl w).isEmpty, [some (.str w), none]) := by
    refine ev_toT (ev_bin (g := dEq) (ev_var (i := 0) rfl rfl) (b := mC (.str "")) rfl ?_)
    rw [← empty_iff]
    rfl
  have all := J.or2_if e0 fun _ => no_figures hw
  refine J.fin1 (N := 2) rfl (δ := [none]) ?_
  have hd : digB w = !((TL.tl w).isEmpty || !(TL.tl w).all dig) := by
    unfold digB
    rw [Bool.not_or, Bool.not_not]
    rfl
  rw [hd]
  cases hx : ((TL.tl w).isEmpty || !(TL.tl w).all dig) with
  | true =>
    rw [hx] at all
    exact ev_stop ((ev_if1 all).trans (ev_ret (m := mC .non) rfl))
  | false =>
    rw [hx] at all hd
    exact (ev_seq ((ev_if0 all).trans rfl)).trans (ev_ret (ev_call1 (g := dInt2) (ev_var (i := 0) rfl rfl) (int_of hw hd)))
end
end K47
set_option Elab.async false
set_option linter.all false
set_option maxRecDepth 100000
set_option maxHeartbeats 0
set_option exponentiation.threshold 2003
namespace K47
open PySem PySem.Spec PyProof.Rows L2 DL
open J (CH wordB atomB it1B it2B signs_of frB headB tellB askB toldB labB cntB)
def nP (w : Str) : D := if cnB w then .int (val w) else .non
def vals (p : Str) : List Str := Txt.split p ","
def F1 (p0 p1 p2 p3 : Str) (t : List Str) : D :=
  if p0 = "tell" then .tup ([.str p0, .str p1, nP p2, tpS (vals p3)] ++ t.map D.str)
  else if p0 = "ask" then .tup ([.str p0, .str p1] ++ (p2 :: p3 :: t).map nP)
  else .tup (([.str p0, .str p1] ++ [p2, p3].map nP) ++ t.map D.str)
def keepF (x : D) : D := if frB x = true then x else .non
def fr (r : Str) : D := match Txt.split r " " with
  | p0 :: p1 :: p2 :: p3 :: t => keepF (F1 p0 p1 p2 p3 t)
  | _ => .non
theorem word_part {z p : Str} (h : wordB z = true) (s : Stretch (TL.tl p) (TL.tl z)) : wordB p = true := by
  obtain ⟨h1, h2⟩ := signs_of h
  unfold wordB
  rw [Bool.and_eq_true, decide_eq_true_eq, List.all_eq_true]
  refine ⟨?_, fun c hc => ?_⟩
  · have := s.len
    rw [len_tl] at h1 ⊢
    omega
  · simpa using h2 c (s.mem hc)
theorem nP_it {w : Str} (h : wordB w = true) : it1B (nP w) = true := by
  unfold nP
  split
  · rename_i hc
    refine J.atom_it ?_
    show J.intB (val w) = true
    unfold J.intB
    rw [Bool.and_eq_true, decide_eq_true_eq, decide_eq_true_eq]
    refine ⟨by omega, ?_⟩
    have hd : digB w = true := by
      unfold cnB at hc
      rw [Bool.and_eq_true] at hc
      exact hc.1
    have := val_lt (w := w) (by
      have := (signs_of h).1
      rw [len_tl] at this
      exact this) hd
    exact_mod_cast this
  · rfl
/-- a row, a word of a row -/
structure RowOk (r : Str) : Prop where
  w : wordB r = true
  l : r.length ≤ 395
theorem RowOk.part {z p : Str} (h : RowOk z) (s : Stretch (TL.tl p) (TL.tl z)) : RowOk p := ⟨word_part h.w s, by
  have := s.len
  have h2 := h.l
  rw [len_tl] at h2 ⊢
  omega⟩
theorem vals_ok {p : Str} (h : RowOk p) : vals p ≠ [] ∧ Txt.join "," (vals p) = p ∧ (vals p).length ≤ 396 ∧ ∀ v ∈ vals p, RowOk v ∧ 44 ∉ TL.tl v := by
  obtain ⟨ps, h1, h2, h3, h4, h5⟩ := split_of cm_tl (by decide +kernel) p
  unfold vals
  rw [h2]
  refine ⟨h1, h3, ?_, fun v hv => ⟨h.part (h5 v hv).2, (h5 v hv).1⟩⟩
  have := h.l
  omega
theorem words_ok {r : Str} (h : RowOk r) : ∃ ps : List Str, ps ≠ [] ∧ Txt.split r " " = ps ∧ Txt.join " " ps = r ∧ ps.length ≤ 396 ∧ ∀ p ∈ ps, RowOk p ∧ 32 ∉ TL.tl p := by
  obtain ⟨ps, h1, h2, h3, h4, h5⟩ := split_of sp_tl (by decide +kernel) r
  refine ⟨ps, h1, h2, h3, ?_, fun v hv => ⟨h.part (h5 v hv).2, (h5 v hv).1⟩⟩
  have := h.l
  omega
theorem vals_it {p : Str} (h : RowOk p) : it1B (tpS (vals p)) = true := by
  obtain ⟨_, _, h1, h2⟩ := vals_ok h
  show (decide (((vals p).map D.str).length ≤ 400) && ((vals p).map D.str).all atomB) = true
  rw [Bool.and_eq_true, decide_eq_true_eq, List.length_map, List.all_eq_true]
  refine ⟨by omega, fun d hd => ?_⟩
  obtain ⟨v, hv, rfl⟩ := List.mem_map.mp hd
  exact (h2 v hv).1.w
theorem F1_it {p0 p1 p2 p3 : Str} {t : List Str} (h : ∀ p ∈ p0 :: p1 :: p2 :: p3 :: t, RowOk p) (hl : t.length ≤ 392) : it2B (F1 p0 p1 p2 p3 t) = true := by
  have h0 := h p0 (by simp)
  have h1 := h p1 (by simp)
  have h2 := h p2 (by simp)
  have h3 := h p3 (by simp)
  have ht : ∀ p ∈ t, RowOk p := fun p hp => h p (by simp [hp])
  unfold F1
  split
  · show (decide (_ ≤ 400) && _) = true
    rw [Bool.and_eq_true, decide_eq_true_eq, List.all_eq_true]
    refine ⟨by simp; omega, fun d hd => ?_⟩
    simp only [List.cons_append, List.nil_append, List.mem_cons, List.mem_map] at hd
    rcases hd with rfl | rfl | rfl | rfl | ⟨p, hp, rfl⟩
    · exact h0.w
    · exact h1.w
    · exact nP_it h2.w
    · exact vals_it h3
    · exact (ht p hp).w
  · split
    · show (decide (_ ≤ 400) && _) = true
      rw [Bool.and_eq_true, decide_eq_true_eq, List.all_eq_true]
      refine ⟨by simp; omega, fun d hd => ?_⟩
      simp only [List.cons_append, List.nil_append, List.mem_cons, List.mem_map, List.map_cons] at hd
      rcases hd with rfl | rfl | rfl | rfl | ⟨p, hp, rfl⟩
      · exact h0.w
      · exact h1.w
      · exact nP_it h2.w
      · exact nP_it h3.w
      · exact nP_it (ht p hp).w
    · show (decide (_ ≤ 400) && _) = true
      rw [Bool.and_eq_true, decide_eq_true_eq, List.all_eq_true]
      refine ⟨by simp; omega, fun d hd => ?_⟩
      simp only [List.cons_append, List.nil_append, List.mem_cons, List.mem_map, List.map_cons, List.map_nil] at hd
      rcases hd with rfl | rfl | rfl | rfl | ⟨p, hp, rfl⟩
      · exact h0.w
      · exact h1.w
      · exact nP_it h2.w
      · exact nP_it h3.w
      · exact (ht p hp).w
theorem cut_from {α : Type} (ds : List α) (n : Nat) : DL.cutD ds (some (n : Int)) none = ds.drop n := by
  unfold DL.cutD
  rw [HT.sIx_nat, HT.sIx_none]
  rcases Nat.le_total n ds.length with h | h
  · rw [Nat.min_eq_left h, List.take_of_length_le (by simp)]
  · rw [Nat.min_eq_right h, List.drop_of_length_le (Nat.le_refl _), List.drop_of_length_le h]
    simp
theorem cut_to {α : Type} (ds : List α) (n : Nat) : DL.cutD ds none (some (n : Int)) = ds.take n := by
  unfold DL.cutD
  rw [HT.sIx_nat, HT.sIx_none, List.drop_zero, Nat.sub_zero]
  rcases Nat.le_total n ds.length with h | h
  · rw [Nat.min_eq_left h]
  · rw [Nat.min_eq_right h, List.take_of_length_le h, List.take_of_length_le (Nat.le_refl _)]
theorem cut_mid {α : Type} (ds : List α) {a b : Nat} (hb : b ≤ ds.length) (ha : a ≤ b) : DL.cutD ds (some (a : Int)) (some (b : Int)) = (ds.drop a).take (b - a) := by
  unfold DL.cutD
  rw [HT.sIx_nat, HT.sIx_nat, Nat.min_eq_left hb, Nat.min_eq_left (Nat.le_trans ha hb)]
theorem split_ev {r : Str} (h : RowOk r) {ps : List Str} (hs : Txt.split r " " = ps) {i : Nat} {δ : DL.Env} (hi : δ[i]? = some (some (.str r))) : mMethV "str" gSplit (mVar i) (mCons (mC (.str " ")) mNil) δ = some (.lst true (ps.map D.str), δ) :=
  ev_methV (ev_var hi rfl) (tyD_str _) (ev_cons (a := mC (.str " ")) rfl (r := mNil) rfl) (gSplit_ok hs (by decide +kernel) (by
    have := h.l
    exact Nat.le_trans (show _ ≤ 397 by omega) (by decide)))
theorem frame_in_ok {r : Str} (h : RowOk r) : m_frame_in [.str r] = some (fr r, [.str r]) := by
  obtain ⟨ps, pn, hs, hj, pl, pw⟩ := words_ok h
  have s1 : sSet 1 (mMethV "str" gSplit (mVar 0) (mCons (mC (.str " ")) mNil)) [some (.str r), none, none, none] = some (.nx [some (.str r), some (.lst true (ps.map D.str)), none, none]) := ev_set (i := 1) (split_ev h hs rfl) (by simp)
  have vf : mVar 1 [some (.str r), some (.lst true (ps.map D.str)), none, none] = some (.lst false (ps.map D.str), [some (.str r), some (.lst false (ps.map D.str)), none, none]) := by
    have := ev_varf (i := 1) (δ := [some (.str r), some (.lst true (ps.map D.str)), none, none]) rfl
    rw [show fz (.lst true (ps.map D.str)) = .lst false (ps.map D.str) by simp only [fz, fzs_strs]] at this
    exact this
  have c1 : toT (mBin dLt (mCallB dLen (mCons (mVar 1) mNil)) (mC (.int 4))) [some (.str r), some (.lst true (ps.map D.str)), none, none] = some (decide ((ps.length : Int) < 4), [some (.str r), some (.lst false (ps.map D.str)), none, none]) := by
    refine ev_toT (ev_bin (g := dLt) (ev_call1 (g := dLen) vf (d := .int ps.length) (by simp [dLen])) (b := mC (.int 4)) rfl rfl)
  unfold fr
  rw [hs]
  match ps, hs, hj, pl, pw, s1, vf, c1 with
  | [], _, _, _, _, _, _, _ => exact absurd rfl pn
  | [_], _, _, _, _, s1, vf, c1 => exact fin_rt (np := 1) (N := 4) (δ := [some _, none, none]) rfl (by decide) ((ev_seq s1).trans (ev_stop ((ev_if1 (c1.trans (by rw [decide_eq_true (by simp)]; rfl))).trans (ev_ret (m := mC .non) rfl))))
  | [_, _], _, _, _, _, s1, vf, c1 => exact fin_rt (np := 1) (N := 4) (δ := [some _, none, none]) rfl (by decide) ((ev_seq s1).trans (ev_stop ((ev_if1 (c1.trans (by rw [decide_eq_true (by simp)]; rfl))).trans (ev_ret (m := mC .non) rfl))))
  | [_, _, _], _, _, _, _, s1, vf, c1 => exact fin_rt (np := 1) (N := 4) (δ := [some _, none, none]) rfl (by decide) ((ev_seq s1).trans (ev_stop ((ev_if1 (c1.trans (by rw [decide_eq_true (by simp)]; rfl))).trans (ev_ret (m := mC .non) rfl))))
  | p0 :: p1 :: p2 :: p3 :: t, hs, hj, pl, pw, s1, vf, c1 =>
    have h3 := (pw p3 (by simp)).1
    have c1' : toT (mBin dLt (mCallB dLen (mCons (mVar 1) mNil)) (mC (.int 4))) [some (.str r), some (.lst true ((p0 :: p1 :: p2 :: p3 :: t).map D.str)), none, none] = some (false, [some (.str r), some (.lst false ((p0 :: p1 :: p2 :: p3 :: t).map D.str)), none, none]) := by
      rw [c1, decide_eq_false (by simp; omega)]
    have itF : it2B (F1 p0 p1 p2 p3 t) = true := F1_it (fun p hp => (pw p hp).1) (by simp at pl; omega)
    have zF := J.it2_fz itF
    have fin : ∀ {x : Option D}, (sRet (mIf (mTru (mCall m_is_frame [.e (mVar 2)] [])) (mVar 2) (mC .non))) [some (.str r), some (.lst false ((p0 :: p1 :: p2 :: p3 :: t).map D.str)), some (F1 p0 p1 p2 p3 t), x] = some (.rt (keepF (F1 p0 p1 p2 p3 t)) [some (.str r), some (.lst false ((p0 :: p1 :: p2 :: p3 :: t).map D.str)), some (F1 p0 p1 p2 p3 t), x]) := fun {x} => by
      have v2 : mVar 2 [some (.str r), some (.lst false ((p0 :: p1 :: p2 :: p3 :: t).map D.str)), some (F1 p0 p1 p2 p3 t), x] = some (F1 p0 p1 p2 p3 t, [some (.str r), some (.lst false ((p0 :: p1 :: p2 :: p3 :: t).map D.str)), some (F1 p0 p1 p2 p3 t), x]) := ev_var rfl zF
      refine ev_ret ((ev_if_e (ev_tru (ev_calle1 v2 (J.frame_ok itF)))).trans ?_)
      unfold keepF
      cases hb : frB (F1 p0 p1 p2 p3 t)
      · rfl
      · rw [if_pos rfl, if_pos rfl]
        exact v2
    have E : ∀ (k : Nat) (p : Str), (p0 :: p1 :: p2 :: p3 :: t)[k]? = some p → ∀ x y, mAlt (mPath 1 (pSub pVar (kC (.int k)))) (mBin dIx (mVar 1) (mC (.int k))) [some (.str r), some (.lst false ((p0 :: p1 :: p2 :: p3 :: t).map D.str)), x, y] = some (.str p, [some (.str r), some (.lst false ((p0 :: p1 :: p2 :: p3 :: t).map D.str)), x, y]) := fun k p hk x y => lst_path (i := 1) rfl hk
    have v1 : ∀ x y, mVar 1 [some (.str r), some (.lst false ((p0 :: p1 :: p2 :: p3 :: t).map D.str)), x, y] = some (.lst false ((p0 :: p1 :: p2 :: p3 :: t).map D.str), [some (.str r), some (.lst false ((p0 :: p1 :: p2 :: p3 :: t).map D.str)), x, y]) := fun x y => ev_var rfl (isFz_strs _)
    refine fin_rt (np := 1) (N := 4) (δ := [some (.lst false ((p0 :: p1 :: p2 :: p3 :: t).map D.str)), some (F1 p0 p1 p2 p3 t), none]) rfl (by decide) ((ev_seq s1).trans ((ev_seq ((ev_if0 c1').trans rfl)).trans ?_))
    have q := ev_toT (ev_bin (g := dEq) (E 0 p0 rfl none none) (b := mC (.str "tell")) rfl (eqs _ _))
    have q2 := ev_toT (ev_bin (g := dEq) (E 0 p0 rfl none none) (b := mC (.str "ask")) rfl (eqs _ _))
    have room : ∀ {a b : List D}, a.length + b.length ≤ 400 → dAdd (.tup a) (.tup b) = some (.tup (a ++ b)) := fun hl => add_tup (Nat.le_trans hl (by decide))
    have tl4 : t.length ≤ 392 := by simp at pl; omega
    by_cases e0 : p0 = "tell"
    · rw [decide_eq_true e0] at q
      have sp : gSplit (.str p3) [.str ","] = some (.lst true ((vals p3).map D.str)) := gSplit_ok rfl (by decide +kernel) (by
        have := h3.l
        exact Nat.le_trans (show _ ≤ 397 by omega) (by decide))
      obtain ⟨_, _, vl, _⟩ := vals_ok h3
      refine (ev_seq ((ev_if1 q).trans (ev_set (i := 2) (d := F1 p0 p1 p2 p3 t) (ev_bin (g := dAdd) (x := .tup [.str p0, .str p1, nP p2, tpS (vals p3)]) (y := .tup (t.map D.str)) (ev_tup (ev_cons (E 0 p0 rfl none none) (ev_cons (E 1 p1 rfl none none) (ev_cons (ev_calle1 (E 2 p2 rfl none none) (number_in_ok (pw p2 (by simp)).1.w)) (ev_cons (ev_call1 (g := dTuple) (ev_methV (E 3 p3 rfl none none) (tyD_str _) (ev_cons (a := mC (.str ",")) rfl (r := mNil) rfl) sp) (d := tpS (vals p3)) rfl) (r := mNil) rfl)))) (by show 4 ≤ sizeLine; decide)) (ev_call1 (g := dTuple) (ev_slL (hi := oNone) (v1 none none) (ev_some (m := mC (.int 4)) rfl) rfl) ?_) ?_) (by simp)))).trans fin
      · exact congrArg (fun z => some (D.tup z)) (cut_from ((p0 :: p1 :: p2 :: p3 :: t).map D.str) 4)
      · unfold F1
        rw [if_pos e0]
        exact room (by simp; omega)
    · rw [decide_eq_false e0] at q
      by_cases e1 : p0 = "ask"
      · rw [decide_eq_true e1] at q2
        have lc := lc_map (own := [3]) (t := tName 3) (m := mCall m_number_in [.e (mVar 3)] []) (δ1 := [some (.str r), some (.lst false ((p0 :: p1 :: p2 :: p3 :: t).map D.str)), none, none]) (p2 :: p3 :: t) D.str nP ((iAny_lst (o := true) (ds := (p2 :: p3 :: t).map D.str) (by
          have := ev_slL (hi := oNone) (v1 none none) (ev_some (m := mC (.int 2)) rfl) rfl
          rw [show (2 : Int) = ((2 : Nat) : Int) from rfl, cut_from] at this
          exact this)).trans (by rw [fzs_strs])) rfl (Nat.le_trans (show _ ≤ 396 by simp; omega) (by decide)) fun p hp => ⟨_, rfl, rfl, ev_calle1 (ev_var (i := 3) (d := .str p) rfl rfl) (number_in_ok (pw p (List.mem_cons_of_mem _ (List.mem_cons_of_mem _ hp))).1.w)⟩
        refine (ev_seq ((ev_if0 q).trans ((ev_if1 q2).trans (ev_set (i := 2) (d := F1 p0 p1 p2 p3 t) (ev_bin (g := dAdd) (x := .tup [.str p0, .str p1]) (y := .tup ((p2 :: p3 :: t).map nP)) (ev_call1 (g := dTuple) (ev_slL (lo := oNone) (v1 none none) rfl (ev_some (m := mC (.int 2)) rfl)) ?_) (ev_call1 (g := dTuple) lc rfl) ?_) (by simp))))).trans fin
        · exact congrArg (fun z => some (D.tup z)) (cut_to ((p0 :: p1 :: p2 :: p3 :: t).map D.str) 2)
        · unfold F1
          rw [if_neg e0, if_pos e1]
          exact room (by simp; omega)
      · rw [decide_eq_false e1] at q2
        have lc := lc_map (own := [3]) (t := tName 3) (m := mCall m_number_in [.e (mVar 3)] []) (δ1 := [some (.str r), some (.lst false ((p0 :: p1 :: p2 :: p3 :: t).map D.str)), none, none]) [p2, p3] D.str nP ((iAny_lst (o := true) (ds := [p2, p3].map D.str) (by
          have := ev_slL (v1 none none) (ev_some (m := mC (.int 2)) rfl) (ev_some (m := mC (.int 4)) rfl)
          rw [show (2 : Int) = ((2 : Nat) : Int) from rfl, show (4 : Int) = ((4 : Nat) : Int) from rfl, cut_mid _ (by simp) (by decide)] at this
          exact this)).trans (by rw [fzs_strs])) rfl (by show 2 ≤ sizeLine; decide) fun p hp => ⟨_, rfl, rfl, ev_calle1 (ev_var (i := 3) (d := .str p) rfl rfl) (number_in_ok (pw p (by simp only [List.mem_cons, List.not_mem_nil, or_false] at hp; rcases hp with rfl | rfl <;> simp)).1.w)⟩
        refine (ev_seq ((ev_if0 q).trans ((ev_if0 q2).trans (ev_set (i := 2) (d := F1 p0 p1 p2 p3 t) (ev_bin (g := dAdd) (x := .tup ([.str p0, .str p1] ++ [p2, p3].map nP)) (y := .tup (t.map D.str)) (ev_bin (g := dAdd) (x := .tup [.str p0, .str p1]) (y := .tup ([p2, p3].map nP)) (ev_call1 (g := dTuple) (ev_slL (lo := oNone) (v1 none none) rfl (ev_some (m := mC (.int 2)) rfl)) ?_) (ev_call1 (g := dTuple) lc rfl) (room (by simp))) (ev_call1 (g := dTuple) (ev_slL (hi := oNone) (v1 none none) (ev_some (m := mC (.int 4)) rfl) rfl) ?_) ?_) (by simp))))).trans fin
        · exact congrArg (fun z => some (D.tup z)) (cut_to ((p0 :: p1 :: p2 :: p3 :: t).map D.str) 2)
        · exact congrArg (fun z => some (D.tup z)) (cut_from ((p0 :: p1 :: p2 :: p3 :: t).map D.str) 4)
        · unfold F1
          rw [if_neg e0, if_neg e1]
          exact room (by simp; omega)
end K47
set_option Elab.async false
set_option linter.all false
set_option maxRecDepth 100000
set_option maxHeartbeats 0
set_option exponentiation.threshold 2003
namespace K47
open PySem PySem.Spec PyProof.Rows L2 DL
open J (CH wordB atomB it1B it2B signs_of frB headB tellB askB toldB labB cntB)
def LIt (p : D × Str) : Prop := isFz p.1 = true ∧ p.2.length ≤ 401 ∧ ((∃ ws, p.1 = tpS ws ∧ gJoin (.str ",") [tpS ws] = some (.str p.2)) ∨ (dIsi [p.1, .ty .tup] = some (.bl false) ∧ dStr [p.1] = some (.str p.2)))
theorem line_gen {xs : List (D × Str)} (h : ∀ p ∈ xs, LIt p) (hl : xs.length ≤ 6) : m__law_line [.tup (xs.map (·.1))] = some (.str (Txt.join " " (xs.map (·.2))), [.tup (xs.map (·.1))]) := by
  have hf : isFzs (xs.map (·.1)) = true := isFzs_iff.mpr fun d hd => by
    obtain ⟨p, hp, rfl⟩ := List.mem_map.mp hd
    exact (h p hp).1
  have zf : isFz (.tup (xs.map (·.1))) = true := by simp only [isFz, hf]
  refine fin_rt (np := 1) (N := 2) (δ := [none]) rfl (by decide) (ev_ret (ev_methV (a := mC (.str " ")) rfl (tyD_str _) (ev_cons (lc_map (own := [1]) (t := tName 1) (m := (mIf (mTru (mCallB dIsi (mCons (mVar 1) (mCons (mC (.ty .tup)) mNil)))) (mMethV "str" gJoin (mC (.str ",")) (mCons (mVar 1) mNil)) (mCallB dStr (mCons (mVar 1) mNil)))) (δ1 := [some (.tup (xs.map (·.1))), none]) xs (·.1) (fun p => .str p.2) (ev_altI (b := keysAt 0 pVar) (iAny_tup (ds := xs.map (·.1)) (ev_var rfl zf) hf)) rfl (Nat.le_trans hl (by decide)) fun p hp => ⟨_, rfl, rfl, ?_⟩) (r := mNil) rfl) ?_))
  · obtain ⟨pf, _, hq⟩ := h p hp
    have v1 : mVar 1 [some (.tup (xs.map (·.1))), some p.1] = some (p.1, [some (.tup (xs.map (·.1))), some p.1]) := ev_var rfl pf
    rcases hq with ⟨ws, e1, e2⟩ | ⟨e1, e2⟩
    · have t1 : mTru (mCallB dIsi (mCons (mVar 1) (mCons (mC (.ty .tup)) mNil))) [some (.tup (xs.map (·.1))), some p.1] = some (true, [some (.tup (xs.map (·.1))), some p.1]) := ev_tru (ev_callB (ev_cons v1 (ev_cons (a := mC (.ty .tup)) rfl (r := mNil) rfl)) (by rw [e1]; rfl))
      refine (ev_if_e t1).trans ?_
      rw [if_pos rfl]
      exact ev_methV (a := mC (.str ",")) rfl (tyD_str _) (ev_cons v1 (r := mNil) rfl) (by rw [e1]; exact e2)
    · have t1 : mTru (mCallB dIsi (mCons (mVar 1) (mCons (mC (.ty .tup)) mNil))) [some (.tup (xs.map (·.1))), some p.1] = some (false, [some (.tup (xs.map (·.1))), some p.1]) := ev_tru (ev_callB (ev_cons v1 (ev_cons (a := mC (.ty .tup)) rfl (r := mNil) rfl)) e1)
      refine (ev_if_e t1).trans ?_
      rw [if_neg (by decide)]
      exact ev_call1 (g := dStr) v1 e2
  · have := join_ok (a := " ") (ys := xs.map (·.2)) (o := true) (n := 401) (fun y hy => by
      obtain ⟨p, hp, rfl⟩ := List.mem_map.mp hy
      exact (h p hp).2.1) (by
      have : (Str.ofString " ").length = 1 := by decide +kernel
      rw [this, List.length_map]; omega)
    rw [show xs.map (fun p => D.str p.2) = (xs.map (·.2)).map D.str by simp [List.map_map, Function.comp]]
    exact this
theorem lit_str {w : Str} (h : RowOk w) : LIt (.str w, w) := ⟨rfl, Nat.le_trans h.l (by decide), .inr ⟨rfl, rfl⟩⟩
theorem dig_int {w : Str} (h : RowOk w) (hd : digB w = true) : J.intB (val w) = true := by
  unfold J.intB
  rw [Bool.and_eq_true, decide_eq_true_eq, decide_eq_true_eq]
  refine ⟨by omega, ?_⟩
  have := val_lt (w := w) (by
    have := h.l
    rw [len_tl] at this
    omega) hd
  exact_mod_cast this
theorem lit_num {w : Str} (h : RowOk w) (hd : digB w = true) : LIt (.int (val w), num (val w)) := by
  obtain ⟨a, _, c⟩ := J.ints_sh _ (dig_int h hd)
  exact ⟨rfl, c, .inr ⟨rfl, if_pos a⟩⟩
theorem lit_vals {p : Str} (h : RowOk p) : LIt (tpS (vals p), p) := by
  obtain ⟨_, h2, h3, h4⟩ := vals_ok h
  refine ⟨J.it1_fz (vals_it h), Nat.le_trans h.l (by decide), .inl ⟨vals p, rfl, ?_⟩⟩
  have := join_tup (a := ",") (ys := vals p) (n := 395) (fun y hy => (h4 y hy).1.l) (by
    have : (Str.ofString ",").length = 1 := by decide +kernel
    rw [this]; omega)
  rwa [h2] at this
def en (r : Str) (ps : List Str) (o : Bool) (x y : Option D) : DL.Env := [some (.str r), some (.lst o (ps.map D.str)), x, y]
theorem at_en {r : Str} {ps : List Str} {o : Bool} {x y : Option D} {k : Nat} {p : Str} (hk : ps[k]? = some p) : mAlt (mPath 1 (pSub pVar (kC (.int k)))) (mBin dIx (mVar 1) (mC (.int k))) (en r ps o x y) = some (.str p, en r ps o x y) := by
  cases o with
  | false => exact lst_path (i := 1) rfl hk
  | true =>
    have hk' : (ps.map D.str)[k]? = some (.str p) := by rw [List.getElem?_map, hk]; rfl
    have hl := (List.getElem?_eq_some_iff.mp hk').1
    refine ev_altE ?_
    have w := walk1 (d := .lst true (ps.map D.str)) (st := .sub (.inl k)) (j := k) (e := .str p) rfl (ix_nat hl) hk' (walk_nilF rfl)
    have e : setKids (.lst true (ps.map D.str)) ((kids (.lst true (ps.map D.str))).set k (.str p)) = .lst true (ps.map D.str) := by
      show D.lst true ((ps.map D.str).set k (.str p)) = _
      congr 1
      apply List.ext_getElem?
      intro n
      rw [List.getElem?_set]
      by_cases q : k = n
      · subst q
        rw [if_pos rfl, if_pos hl, hk']
      · rw [if_neg q]
    rw [e] at w
    exact ev_path (i := 1) (δ := en r ps true x y) rfl (p := [.sub (.inl k)]) rfl w
theorem var_en {r : Str} {ps : List Str} {o : Bool} {x y : Option D} : mVar 1 (en r ps o x y) = some (.lst false (ps.map D.str), en r ps false x y) := by
  have := ev_varf (i := 1) (δ := en r ps o x y) rfl
  rw [show fz (.lst o (ps.map D.str)) = .lst false (ps.map D.str) by simp only [fz, fzs_strs]] at this
  exact this
theorem cond_no {r : Str} {p0 : Str} {ps : List Str} {o : Bool} {x y : Option D} {lit : Str} {b : MT} (h : p0 ≠ lit) : tAnd2 (toT (mBin dEq (mAlt (mPath 1 (pSub pVar (kC (.int 0)))) (mBin dIx (mVar 1) (mC (.int 0)))) (mC (.str lit)))) b (en r (p0 :: ps) o x y) = some (false, en r (p0 :: ps) o x y) := by
  have e0 := ev_toT (ev_bin (g := dEq) (at_en (r := r) (ps := p0 :: ps) (o := o) (x := x) (y := y) (k := 0) rfl) (b := mC (.str lit)) rfl (eqs _ _))
  rw [decide_eq_false h] at e0
  unfold tAnd2
  rw [show ((0 : Nat) : Int) = 0 from rfl] at e0
  rw [e0]
theorem cond_yes {r : Str} {p0 : Str} {ps : List Str} {o : Bool} {x y : Option D} {lit : Str} {n : Nat} (h : p0 = lit) : tAnd2 (toT (mBin dEq (mAlt (mPath 1 (pSub pVar (kC (.int 0)))) (mBin dIx (mVar 1) (mC (.int 0)))) (mC (.str lit)))) (toT (mBin dEq (mCallB dLen (mCons (mVar 1) mNil)) (mC (.int n)))) (en r (p0 :: ps) o x y) = some (decide ((p0 :: ps).length = n), en r (p0 :: ps) false x y) := by
  have e0 := ev_toT (ev_bin (g := dEq) (at_en (r := r) (ps := p0 :: ps) (o := o) (x := x) (y := y) (k := 0) rfl) (b := mC (.str lit)) rfl (eqs _ _))
  rw [decide_eq_true h] at e0
  unfold tAnd2
  rw [show ((0 : Nat) : Int) = 0 from rfl] at e0
  rw [e0]
  have : (mBin dEq (mCallB dLen (mCons (mVar 1) mNil)) (mC (.int n))) (en r (p0 :: ps) o x y) = some (.bl (decide (((p0 :: ps).length : Int) = n)), en r (p0 :: ps) false x y) := ev_bin (g := dEq) (ev_call1 (g := dLen) var_en (d := .int (p0 :: ps).length) (by simp [dLen])) (b := mC (.int n)) rfl rfl
  refine (ev_toT this).trans ?_
  congr 2
  exact decide_eq_decide.mpr (by omega)
def lend : MS := (sRet (mIf (tAnd2 (toT (mBin dIsNot (mVar 2) (mC .non))) (tAnd2 (mTru (mCall m__law_is_frame [.e (mVar 2)] [])) (toT (mBin dEq (mCall m__law_line [.e (mVar 2)] []) (mVar 0))))) (mVar 2) (mC .non)))
theorem end_non {r : Str} {ps : List Str} {o : Bool} {y : Option D} : lend (en r ps o (some .non) y) = some (.rt .non (en r ps o (some .non) y)) := by
  refine ev_ret ?_
  have c : tAnd2 (toT (mBin dIsNot (mVar 2) (mC .non))) (tAnd2 (mTru (mCall m__law_is_frame [.e (mVar 2)] [])) (toT (mBin dEq (mCall m__law_line [.e (mVar 2)] []) (mVar 0)))) (en r ps o (some .non) y) = some (false, en r ps o (some .non) y) := by
    unfold tAnd2
    rw [show toT (mBin dIsNot (mVar 2) (mC .non)) (en r ps o (some .non) y) = some (false, en r ps o (some .non) y) from rfl]
  exact (ev_if_e c).trans rfl
theorem end_tup {r : Str} {ps : List Str} {o : Bool} {y : Option D} {ds : List D} (h : it2B (.tup ds) = true) {l : Str} (hl : frB (.tup ds) = true → m__law_line [.tup ds] = some (.str l, [.tup ds])) :
    lend (en r ps o (some (.tup ds)) y) = some (.rt (if frB (.tup ds) = true ∧ l = r then .tup ds else .non) (en r ps o (some (.tup ds)) y)) := by
  have v2 : mVar 2 (en r ps o (some (.tup ds)) y) = some (.tup ds, en r ps o (some (.tup ds)) y) := ev_var (i := 2) rfl (J.it2_fz h)
  have a : toT (mBin dIsNot (mVar 2) (mC .non)) (en r ps o (some (.tup ds)) y) = some (true, en r ps o (some (.tup ds)) y) := ev_toT (ev_bin (g := dIsNot) v2 (b := mC .non) rfl rfl)
  have b := ev_tru (ev_calle1 v2 (J.lframe_ok h))
  have v0 : mVar 0 (en r ps o (some (.tup ds)) y) = some (.str r, en r ps o (some (.tup ds)) y) := ev_var (i := 0) rfl rfl
  have c : tAnd2 (toT (mBin dIsNot (mVar 2) (mC .non))) (tAnd2 (mTru (mCall m__law_is_frame [.e (mVar 2)] [])) (toT (mBin dEq (mCall m__law_line [.e (mVar 2)] []) (mVar 0)))) (en r ps o (some (.tup ds)) y) = some (true && (frB (.tup ds) && decide (l = r)), en r ps o (some (.tup ds)) y) :=
    ev_and2 a fun _ => ev_and2 b fun hb => ev_toT (ev_bin (g := dEq) (ev_calle1 v2 (hl hb)) v0 (eqs _ _))
  refine ev_ret ((ev_if_e c).trans ?_)
  rw [Bool.true_and]
  cases hb : frB (.tup ds) with
  | false =>
    rw [if_neg (by simp), if_neg (by simp)]
    rfl
  | true =>
    by_cases e : l = r
    · rw [if_pos (by simp [e]), if_pos ⟨rfl, e⟩]
      exact v2
    · rw [if_neg (by simp [e]), if_neg (fun h => e h.2)]
      rfl
end K47
set_option Elab.async false
set_option linter.all false
set_option maxRecDepth 100000
set_option maxHeartbeats 0
set_option exponentiation.threshold 2003
namespace K47
open PySem PySem.Spec PyProof.Rows L2 DL
open J (CH wordB atomB it1B it2B signs_of frB headB tellB askB toldB labB cntB)
def nL (w : Str) : D := if digB w then .int (val w) else .non
theorem nL_it {w : Str} (h : RowOk w) : it1B (nL w) = true := by
  unfold nL
  split
  · rename_i hd
    exact J.atom_it (dig_int h hd)
  · rfl
theorem cnt_dig {k : Int} {w : Str} (h : cntB k (nL w) = true) : digB w = true := by
  unfold nL at h
  cases hd : digB w with
  | true => rfl
  | false =>
    rw [hd] at h
    cases h
theorem nP_cn {w : Str} (h : cnB w = true) : nP w = .int (val w) ∧ nL w = .int (val w) ∧ num (val w) = w := by
  have hd : digB w = true := by
    unfold cnB at h
    rw [Bool.and_eq_true] at h
    exact h.1
  unfold nP nL
  rw [h, hd]
  exact ⟨rfl, rfl, cn_num h⟩
theorem nP_not {w : Str} (h : cnB w = false) : nP w = .non := by
  unfold nP
  rw [h]
  rfl
theorem num_free {w : Str} : 32 ∉ TL.tl (num (val w)) := by
  rw [num_tl]
  intro hc
  obtain ⟨x, hx, e⟩ := List.mem_map.mp hc
  have := Nat.isDigit_of_mem_toDigits (by decide) (by decide) hx
  simp only [Char.isDigit, Bool.and_eq_true, decide_eq_true_eq] at this
  have h48 : 48 ≤ x.toNat := this.1
  omega
theorem lit_free {s : Str} (h : ((TL.tl s).all fun c => decide (c ≠ 32)) = true) : 32 ∉ TL.tl s := fun hc => by simpa using List.all_eq_true.mp h 32 hc
theorem fr_tell (l : D) (r : List D) : frB (.tup (.str "tell" :: l :: r)) = (labB l && tellB (.str "tell" :: l :: r)) := by
  show ((decide (Str.ofString "tell" = "tell") && labB l) && _ || (decide (Str.ofString "tell" = "ask") && labB l) && _ || (decide (Str.ofString "tell" = "told") && labB l) && _) = _
  rw [J.s_ta, J.s_td, decide_eq_true rfl]
  simp
theorem fr_ask (l : D) (r : List D) : frB (.tup (.str "ask" :: l :: r)) = (labB l && askB (.str "ask" :: l :: r)) := by
  show ((decide (Str.ofString "ask" = "tell") && labB l) && _ || (decide (Str.ofString "ask" = "ask") && labB l) && _ || (decide (Str.ofString "ask" = "told") && labB l) && _) = _
  rw [J.s_at, J.s_ad, decide_eq_true rfl]
  simp
theorem s_dt : decide (Str.ofString "told" = Str.ofString "tell") = false := by decide +kernel
theorem s_da : decide (Str.ofString "told" = Str.ofString "ask") = false := by decide +kernel
theorem fr_told (l : D) (r : List D) : frB (.tup (.str "told" :: l :: r)) = (labB l && toldB (.str "told" :: l :: r)) := by
  show ((decide (Str.ofString "told" = "tell") && labB l) && tellB (.str "told" :: l :: r) || (decide (Str.ofString "told" = "ask") && labB l) && askB (.str "told" :: l :: r) || (decide (Str.ofString "told" = "told") && labB l) && toldB (.str "told" :: l :: r)) = _
  rw [s_dt, s_da, decide_eq_true rfl]
  simp
theorem fr_other {z : Str} (l : D) (r : List D) (h1 : z ≠ "tell") (h2 : z ≠ "ask") (h3 : z ≠ "told") : frB (.tup (.str z :: l :: r)) = false := by
  show ((decide (z = "tell") && labB l) && _ || (decide (z = "ask") && labB l) && _ || (decide (z = "told") && labB l) && _) = _
  rw [decide_eq_false h1, decide_eq_false h2, decide_eq_false h3]
  simp
theorem keep_no {x : D} (h : frB x = false) : keepF x = .non := by
  unfold keepF
  rw [h]
  rfl
theorem ne_at : ("ask" : Str) ≠ "tell" := of_decide_eq_false J.s_at
theorem ne_ad : ("ask" : Str) ≠ "told" := of_decide_eq_false J.s_ad
theorem ne_ta : ("tell" : Str) ≠ "ask" := of_decide_eq_false J.s_ta
theorem ne_td : ("tell" : Str) ≠ "told" := of_decide_eq_false J.s_td
theorem ne_dt : ("told" : Str) ≠ "tell" := of_decide_eq_false s_dt
theorem ne_da : ("told" : Str) ≠ "ask" := of_decide_eq_false s_da
theorem same_tell {r p1 p2 p3 : Str} (hr : Txt.join " " ["tell", p1, p2, p3] = r) (w : ∀ p ∈ [p1, p2, p3], RowOk p ∧ 32 ∉ TL.tl p) :
    (if frB (.tup [.str "tell", .str p1, nL p2, tpS (vals p3)]) = true ∧ Txt.join " " ["tell", p1, num (val p2), p3] = r then D.tup [.str "tell", .str p1, nL p2, tpS (vals p3)] else .non) = keepF (F1 "tell" p1 p2 p3 []) := by
  have eF : F1 "tell" p1 p2 p3 [] = .tup [.str "tell", .str p1, nP p2, tpS (vals p3)] := by
    unfold F1
    rw [if_pos rfl]
    rfl
  rw [eF]
  cases hc : cnB p2 with
  | true =>
    obtain ⟨e1, e2, e3⟩ := nP_cn hc
    rw [e1, e2, e3]
    unfold keepF
    by_cases hb : frB (.tup [.str "tell", .str p1, .int (val p2), tpS (vals p3)]) = true
    · rw [if_pos ⟨hb, hr⟩, if_pos hb]
    · rw [if_neg fun h => hb h.1, if_neg hb]
  | false =>
    rw [nP_not hc, keep_no (by rw [fr_tell, show tellB [.str "tell", .str p1, .non, tpS (vals p3)] = false from rfl, Bool.and_false]), if_neg]
    rintro ⟨hb, hj⟩
    rw [fr_tell, Bool.and_eq_true] at hb
    have h2 : (cntB 0 (nL p2) && _) = true := hb.2
    rw [Bool.and_eq_true] at h2
    rw [← hr] at hj
    have := join_inj sp_tl (by decide +kernel) (by simp) (by simp) (fun p hp => by
      simp only [List.mem_cons, List.not_mem_nil, or_false] at hp
      rcases hp with rfl | rfl | rfl | rfl
      · exact lit_free (by decide +kernel)
      · exact (w _ (by simp)).2
      · exact num_free
      · exact (w _ (by simp)).2) (fun p hp => by
      simp only [List.mem_cons, List.not_mem_nil, or_false] at hp
      rcases hp with rfl | rfl | rfl | rfl
      · exact lit_free (by decide +kernel)
      · exact (w _ (by simp)).2
      · exact (w _ (by simp)).2
      · exact (w _ (by simp)).2) hj
    injection this with _ t
    injection t with _ t
    injection t with e _
    rw [num_cn (cnt_dig h2.1) e] at hc
    cases hc
theorem same_ask {r p1 a b c d : Str} (hr : Txt.join " " ["ask", p1, a, b, c, d] = r) (w : ∀ p ∈ [p1, a, b, c, d], RowOk p ∧ 32 ∉ TL.tl p) :
    (if frB (.tup [.str "ask", .str p1, nL a, nL b, nL c, nL d]) = true ∧ Txt.join " " ["ask", p1, num (val a), num (val b), num (val c), num (val d)] = r then D.tup [.str "ask", .str p1, nL a, nL b, nL c, nL d] else .non) = keepF (F1 "ask" p1 a b [c, d]) := by
  have eF : F1 "ask" p1 a b [c, d] = .tup [.str "ask", .str p1, nP a, nP b, nP c, nP d] := by
    unfold F1
    rw [if_neg ne_at, if_pos rfl]
    rfl
  rw [eF]
  by_cases hc : cnB a = true ∧ cnB b = true ∧ cnB c = true ∧ cnB d = true
  · obtain ⟨ha, hb, hc, hd⟩ := hc
    obtain ⟨a1, a2, a3⟩ := nP_cn ha
    obtain ⟨b1, b2, b3⟩ := nP_cn hb
    obtain ⟨c1, c2, c3⟩ := nP_cn hc
    obtain ⟨d1, d2, d3⟩ := nP_cn hd
    rw [a1, a2, a3, b1, b2, b3, c1, c2, c3, d1, d2, d3]
    unfold keepF
    by_cases hb : frB (.tup [.str "ask", .str p1, .int (val a), .int (val b), .int (val c), .int (val d)]) = true
    · rw [if_pos ⟨hb, hr⟩, if_pos hb]
    · rw [if_neg fun h => hb h.1, if_neg hb]
  · have no : askB [.str "ask", .str p1, nP a, nP b, nP c, nP d] = false := by
      show (cntB 1 (nP a) && cntB 1 (nP b) && (cntB 0 (nP c) && (_ && cntB 0 (nP d)))) = false
      cases ha : cnB a with
      | false => rw [nP_not ha]; rfl
      | true =>
        cases hb : cnB b with
        | false => rw [nP_not hb]; show (_ && false && _) = false; simp
        | true =>
          cases hc2 : cnB c with
          | false => rw [nP_not hc2]; show (_ && (false && _)) = false; simp
          | true =>
            cases hd : cnB d with
            | false => rw [nP_not hd]; show (_ && (_ && (_ && false))) = false; simp
            | true => exact absurd ⟨ha, hb, hc2, hd⟩ hc
    rw [keep_no (by rw [fr_ask, no, Bool.and_false]), if_neg]
    rintro ⟨hb, hj⟩
    rw [fr_ask, Bool.and_eq_true] at hb
    have h2 : (cntB 1 (nL a) && cntB 1 (nL b) && (cntB 0 (nL c) && (_ && cntB 0 (nL d)))) = true := hb.2
    simp only [Bool.and_eq_true] at h2
    obtain ⟨⟨ga, gb⟩, gc, _, gd⟩ := h2
    rw [← hr] at hj
    have := join_inj sp_tl (by decide +kernel) (by simp) (by simp) (fun p hp => by
      simp only [List.mem_cons, List.not_mem_nil, or_false] at hp
      rcases hp with rfl | rfl | rfl | rfl | rfl | rfl
      · exact lit_free (by decide +kernel)
      · exact (w _ (by simp)).2
      all_goals exact num_free) (fun p hp => by
      simp only [List.mem_cons, List.not_mem_nil, or_false] at hp
      rcases hp with rfl | rfl | rfl | rfl | rfl | rfl
      · exact lit_free (by decide +kernel)
      all_goals exact (w _ (by simp)).2) hj
    injection this with _ t
    injection t with _ t
    injection t with ea t
    injection t with eb t
    injection t with ec t
    injection t with ed _
    exact hc ⟨num_cn (cnt_dig ga) ea, num_cn (cnt_dig gb) eb, num_cn (cnt_dig gc) ec, num_cn (cnt_dig gd) ed⟩
theorem same_told {r p1 a b z : Str} (hr : Txt.join " " ["told", p1, a, b, z] = r) (w : ∀ p ∈ [p1, a, b, z], RowOk p ∧ 32 ∉ TL.tl p) :
    (if frB (.tup [.str "told", .str p1, nL a, nL b, .str z]) = true ∧ Txt.join " " ["told", p1, num (val a), num (val b), z] = r then D.tup [.str "told", .str p1, nL a, nL b, .str z] else .non) = keepF (F1 "told" p1 a b [z]) := by
  have eF : F1 "told" p1 a b [z] = .tup [.str "told", .str p1, nP a, nP b, .str z] := by
    unfold F1
    rw [if_neg ne_dt, if_neg ne_da]
    rfl
  rw [eF]
  by_cases hc : cnB a = true ∧ cnB b = true
  · obtain ⟨ha, hb⟩ := hc
    obtain ⟨a1, a2, a3⟩ := nP_cn ha
    obtain ⟨b1, b2, b3⟩ := nP_cn hb
    rw [a1, a2, a3, b1, b2, b3]
    unfold keepF
    by_cases hb : frB (.tup [.str "told", .str p1, .int (val a), .int (val b), .str z]) = true
    · rw [if_pos ⟨hb, hr⟩, if_pos hb]
    · rw [if_neg fun h => hb h.1, if_neg hb]
  · have no : toldB [.str "told", .str p1, nP a, nP b, .str z] = false := by
      show (cntB 1 (nP a) && cntB 1 (nP b) && _) = false
      cases ha : cnB a with
      | false => rw [nP_not ha]; rfl
      | true =>
        cases hb : cnB b with
        | false => rw [nP_not hb]; show (_ && false && _) = false; simp
        | true => exact absurd ⟨ha, hb⟩ hc
    rw [keep_no (by rw [fr_told, no, Bool.and_false]), if_neg]
    rintro ⟨hb, hj⟩
    rw [fr_told, Bool.and_eq_true] at hb
    have h2 : (cntB 1 (nL a) && cntB 1 (nL b) && _) = true := hb.2
    simp only [Bool.and_eq_true] at h2
    obtain ⟨⟨ga, gb⟩, _⟩ := h2
    rw [← hr] at hj
    have := join_inj sp_tl (by decide +kernel) (by simp) (by simp) (fun p hp => by
      simp only [List.mem_cons, List.not_mem_nil, or_false] at hp
      rcases hp with rfl | rfl | rfl | rfl | rfl
      · exact lit_free (by decide +kernel)
      · exact (w _ (by simp)).2
      · exact num_free
      · exact num_free
      · exact (w _ (by simp)).2) (fun p hp => by
      simp only [List.mem_cons, List.not_mem_nil, or_false] at hp
      rcases hp with rfl | rfl | rfl | rfl | rfl
      · exact lit_free (by decide +kernel)
      all_goals exact (w _ (by simp)).2) hj
    injection this with _ t
    injection t with _ t
    injection t with ea t
    injection t with eb t
    exact hc ⟨num_cn (cnt_dig ga) ea, num_cn (cnt_dig gb) eb⟩
end K47
set_option Elab.async false
set_option linter.all false
set_option maxRecDepth 100000
set_option maxHeartbeats 0
set_option exponentiation.threshold 2003
namespace K47
open PySem PySem.Spec PyProof.Rows L2 DL
open J (CH wordB atomB it1B it2B signs_of frB headB tellB askB toldB labB cntB)
theorem skip {c : MT} {a b : MS} {δ δ' : DL.Env} (h : c δ = some (false, δ')) : sCons (sIf c a sNil) b δ = b δ' := ev_seq ((ev_if0 h).trans rfl)
theorem stepn {c : MT} {a b : MS} {δ δ1 δ2 : DL.Env} (h : c δ = some (true, δ1)) (k : a δ1 = some (.nx δ2)) : sCons (sIf c a sNil) b δ = b δ2 := ev_seq ((ev_if1 h).trans k)
theorem fr_short {r : Str} {ps : List Str} (hs : Txt.split r " " = ps) (h : ps.length < 4) : fr r = .non := by
  unfold fr
  rw [hs]
  match ps, h with
  | [], _ => rfl
  | [_], _ => rfl
  | [_, _], _ => rfl
  | [_, _, _], _ => rfl
  | _ :: _ :: _ :: _ :: _, h =>
    simp only [List.length_cons] at h
    omega
theorem fr_tell_no {r : Str} {t : List Str} (hs : Txt.split r " " = ("tell" : Str) :: t) (h : t.length ≠ 3) : fr r = .non := by
  by_cases h4 : ((("tell" : Str) :: t).length) < 4
  · exact fr_short hs h4
  · unfold fr
    rw [hs]
    match t, h, h4 with
    | p1 :: p2 :: p3 :: q :: t, _, _ =>
      refine keep_no ?_
      unfold F1
      rw [if_pos rfl]
      show frB (.tup (.str "tell" :: .str p1 :: nP p2 :: tpS (vals p3) :: .str q :: t.map D.str)) = false
      rw [fr_tell, show tellB (.str "tell" :: .str p1 :: nP p2 :: tpS (vals p3) :: .str q :: t.map D.str) = false from rfl, Bool.and_false]
    | [], _, h4 => simp at h4
    | [_], _, h4 => simp at h4
    | [_, _], _, h4 => simp at h4
    | [_, _, _], h, _ => simp at h
theorem fr_ask_no {r : Str} {t : List Str} (hs : Txt.split r " " = ("ask" : Str) :: t) (h : t.length ≠ 5) : fr r = .non := by
  by_cases h4 : ((("ask" : Str) :: t).length) < 4
  · exact fr_short hs h4
  · unfold fr
    rw [hs]
    match t, h, h4 with
    | p1 :: p2 :: p3 :: q, h, _ =>
      refine keep_no ?_
      unfold F1
      rw [if_neg ne_at, if_pos rfl]
      show frB (.tup (.str "ask" :: .str p1 :: nP p2 :: nP p3 :: q.map nP)) = false
      rw [fr_ask]
      have : askB (.str "ask" :: .str p1 :: nP p2 :: nP p3 :: q.map nP) = false := by
        match q, h with
        | [], _ => rfl
        | [_], _ => rfl
        | [_, _], h => simp at h
        | _ :: _ :: _ :: _, _ => rfl
      rw [this, Bool.and_false]
    | [], _, h4 => simp at h4
    | [_], _, h4 => simp at h4
    | [_, _], _, h4 => simp at h4
theorem fr_told_no {r : Str} {t : List Str} (hs : Txt.split r " " = ("told" : Str) :: t) (h : t.length ≠ 4) : fr r = .non := by
  by_cases h4 : ((("told" : Str) :: t).length) < 4
  · exact fr_short hs h4
  · unfold fr
    rw [hs]
    match t, h, h4 with
    | p1 :: p2 :: p3 :: q, h, _ =>
      refine keep_no ?_
      unfold F1
      rw [if_neg ne_dt, if_neg ne_da]
      show frB (.tup (.str "told" :: .str p1 :: nP p2 :: nP p3 :: q.map D.str)) = false
      rw [fr_told]
      have : toldB (.str "told" :: .str p1 :: nP p2 :: nP p3 :: q.map D.str) = false := by
        match q, h with
        | [], _ => rfl
        | [_], h => simp at h
        | _ :: _ :: _, _ => rfl
      rw [this, Bool.and_false]
    | [], _, h4 => simp at h4
    | [_], _, h4 => simp at h4
    | [_, _], _, h4 => simp at h4
theorem fr_other_no {r p0 : Str} {t : List Str} (hs : Txt.split r " " = p0 :: t) (h1 : p0 ≠ "tell") (h2 : p0 ≠ "ask") (h3 : p0 ≠ "told") : fr r = .non := by
  by_cases h4 : (p0 :: t).length < 4
  · exact fr_short hs h4
  · unfold fr
    rw [hs]
    match t, h4 with
    | p1 :: p2 :: p3 :: q, _ =>
      refine keep_no ?_
      unfold F1
      rw [if_neg h1, if_neg h2]
      exact fr_other _ _ h1 h2 h3
    | [], h4 => simp at h4
    | [_], h4 => simp at h4
    | [_, _], h4 => simp at h4
theorem law_read_ok {r : Str} (h : RowOk r) : m__law_read [.str r] = some (fr r, [.str r]) := by
  obtain ⟨ps, pn, hs, hj, pl, pw⟩ := words_ok h
  match ps, pn with
  | p0 :: t, _ =>
  have s1 : sSet 1 (mMethV "str" gSplit (mVar 0) (mCons (mC (.str " ")) mNil)) [some (.str r), none, none, none] = some (.nx (en r (p0 :: t) true none none)) := ev_set (i := 1) (split_ev h hs rfl) (by simp)
  have s2 : sSet 2 (mC .non) (en r (p0 :: t) true none none) = some (.nx (en r (p0 :: t) true (some .non) none)) := ev_set (i := 2) (δ1 := en r (p0 :: t) true none none) rfl (by simp [en])
  have fin : ∀ ⦃o : Bool⦄ ⦃x y : Option D⦄ ⦃b : MS⦄ ⦃d : D⦄, b (en r (p0 :: t) true (some .non) none) = some (.rt d (en r (p0 :: t) o x y)) → (sCons (sSet 1 (mMethV "str" gSplit (mVar 0) (mCons (mC (.str " ")) mNil))) (sCons (sSet 2 (mC .non)) b)) [some (.str r), none, none, none] = some (.rt d (some (.str r) :: [some (.lst o ((p0 :: t).map D.str)), x, y])) := fun _ _ _ _ _ hb => (ev_seq s1).trans ((ev_seq s2).trans hb)
  by_cases z1 : p0 = "tell"
  · subst z1
    have c1 := cond_yes (p0 := "tell") (lit := "tell") (r := r) (ps := t) (o := true) (x := some .non) (y := none) (n := 4) rfl
    by_cases h4 : ((("tell" : Str) :: t).length) = 4
    · match t, h4, hs, hj, pw, c1, fin with
      | [p1, p2, p3], _, hs, hj, pw, c1, fin =>
        have w : ∀ p ∈ [p1, p2, p3], RowOk p ∧ 32 ∉ TL.tl p := fun p hp => pw p (List.mem_cons_of_mem _ hp)
        have w1 := (w p1 (by simp)).1
        have w2 := (w p2 (by simp)).1
        have w3 := (w p3 (by simp)).1
        have itX : it2B (.tup [.str "tell", .str p1, nL p2, tpS (vals p3)]) = true := by
          show (decide (4 ≤ 400) && ([.str "tell", .str p1, nL p2, tpS (vals p3)] : List D).all it1B) = true
          rw [List.all_cons, List.all_cons, List.all_cons, List.all_cons, show it1B (.str "tell") = true by decide +kernel, show it1B (.str p1) = true from w1.w, nL_it w2, vals_it w3]
          rfl
        have sp : gSplit (.str p3) [.str ","] = some (.lst true ((vals p3).map D.str)) := gSplit_ok rfl (by decide +kernel) (by
          have := w3.l
          exact Nat.le_trans (show _ ≤ 397 by omega) (by decide))
        have E : ∀ (k : Nat) (p : Str), (["tell", p1, p2, p3] : List Str)[k]? = some p → ∀ x y, mAlt (mPath 1 (pSub pVar (kC (.int k)))) (mBin dIx (mVar 1) (mC (.int k))) (en r ["tell", p1, p2, p3] false x y) = some (.str p, en r ["tell", p1, p2, p3] false x y) := fun k p hk x y => at_en hk
        have k1 := ev_set (i := 2) (d := .tup [.str "tell", .str p1, nL p2, tpS (vals p3)]) (ev_tup (ev_cons (a := mC (.str "tell")) rfl (ev_cons (E 1 p1 rfl (some .non) none) (ev_cons (ev_calle1 (E 2 p2 rfl (some .non) none) (law_number_ok w2.w)) (ev_cons (ev_call1 (g := dTuple) (ev_methV (E 3 p3 rfl (some .non) none) (tyD_str _) (ev_cons (a := mC (.str ",")) rfl (r := mNil) rfl) sp) (d := tpS (vals p3)) rfl) (r := mNil) rfl)))) (by show 4 ≤ sizeLine; decide)) (by simp [en])
        have l : frB (.tup [.str "tell", .str p1, nL p2, tpS (vals p3)]) = true → m__law_line [.tup [.str "tell", .str p1, nL p2, tpS (vals p3)]] = some (.str (Txt.join " " ["tell", p1, num (val p2), p3]), [.tup [.str "tell", .str p1, nL p2, tpS (vals p3)]]) := fun hb => by
          rw [fr_tell, Bool.and_eq_true] at hb
          have h2 : (cntB 0 (nL p2) && _) = true := hb.2
          rw [Bool.and_eq_true] at h2
          have hd := cnt_dig h2.1
          have e : nL p2 = .int (val p2) := by
            unfold nL
            rw [hd]; rfl
          rw [e]
          exact line_gen (xs := [(.str "tell", "tell"), (.str p1, p1), (.int (val p2), num (val p2)), (tpS (vals p3), p3)]) (fun p hp => by
            simp only [List.mem_cons, List.not_mem_nil, or_false] at hp
            rcases hp with rfl | rfl | rfl | rfl
            · exact ⟨rfl, by decide +kernel, .inr ⟨rfl, rfl⟩⟩
            · exact lit_str w1
            · exact lit_num w2 hd
            · exact lit_vals w3) (by simp)
        have res : fr r = (if frB (.tup [.str "tell", .str p1, nL p2, tpS (vals p3)]) = true ∧ Txt.join " " ["tell", p1, num (val p2), p3] = r then D.tup [.str "tell", .str p1, nL p2, tpS (vals p3)] else .non) := by
          rw [same_tell hj w]
          unfold fr
          rw [hs]
        rw [res]
        exact fin_rt (np := 1) (N := 4) (δ := [_, _, _]) rfl (by decide) (fin ((stepn (c1.trans (by rw [decide_eq_true (by simp)])) k1).trans ((skip (cond_no ne_ta)).trans ((skip (cond_no ne_td)).trans (end_tup itX l)))))
    · have h3 : t.length ≠ 3 := fun e => h4 (by simp [e])
      rw [fr_tell_no hs h3]
      exact fin_rt (np := 1) (N := 4) (δ := [_, _, _]) rfl (by decide) (fin ((skip (c1.trans (by rw [decide_eq_false h4]))).trans ((skip (cond_no ne_ta)).trans ((skip (cond_no ne_td)).trans end_non))))
  · by_cases z2 : p0 = "ask"
    · subst z2
      have c2 := cond_yes (p0 := "ask") (lit := "ask") (r := r) (ps := t) (o := true) (x := some .non) (y := none) (n := 6) rfl
      by_cases h6 : ((("ask" : Str) :: t).length) = 6
      · match t, h6, hs, hj, pw, c2, fin with
        | [p1, a, b, c, d], _, hs, hj, pw, c2, fin =>
          have w : ∀ p ∈ [p1, a, b, c, d], RowOk p ∧ 32 ∉ TL.tl p := fun p hp => pw p (List.mem_cons_of_mem _ hp)
          have w1 := (w p1 (by simp)).1
          have wa := (w a (by simp)).1
          have wb := (w b (by simp)).1
          have wc := (w c (by simp)).1
          have wd := (w d (by simp)).1
          have itX : it2B (.tup [.str "ask", .str p1, nL a, nL b, nL c, nL d]) = true := by
            show (decide (6 ≤ 400) && ([.str "ask", .str p1, nL a, nL b, nL c, nL d] : List D).all it1B) = true
            rw [List.all_cons, List.all_cons, List.all_cons, List.all_cons, List.all_cons, List.all_cons, show it1B (.str "ask") = true by decide +kernel, show it1B (.str p1) = true from w1.w, nL_it wa, nL_it wb, nL_it wc, nL_it wd]
            rfl
          have lc := lc_map (own := [3]) (t := tName 3) (m := mCall m__law_number [.e (mVar 3)] []) (δ1 := en r ["ask", p1, a, b, c, d] false (some .non) none) [a, b, c, d] D.str nL ((iAny_lst (o := true) (ds := [a, b, c, d].map D.str) (by
            have := ev_slL (hi := oNone) (var_en (r := r) (ps := ["ask", p1, a, b, c, d]) (o := false) (x := some .non) (y := none)) (ev_some (m := mC (.int 2)) rfl) rfl
            rw [show (2 : Int) = ((2 : Nat) : Int) from rfl, cut_from] at this
            exact this)).trans (by rw [fzs_strs])) rfl (by show 4 ≤ sizeLine; decide) fun p hp => ⟨_, rfl, rfl, ev_calle1 (ev_var (i := 3) (d := .str p) rfl rfl) (law_number_ok (w p (List.mem_cons_of_mem _ hp)).1.w)⟩
          have k2 := ev_set (i := 2) (d := .tup [.str "ask", .str p1, nL a, nL b, nL c, nL d]) (ev_bin (g := dAdd) (x := .tup [.str "ask", .str p1]) (y := .tup ([a, b, c, d].map nL)) (ev_tup (ev_cons (a := mC (.str "ask")) rfl (ev_cons (at_en (k := 1) rfl) (r := mNil) rfl)) (by show 2 ≤ sizeLine; decide)) (ev_call1 (g := dTuple) lc rfl) (add_tup (by show 2 + 4 ≤ sizeLine; decide))) (by simp [en])
          have l : frB (.tup [.str "ask", .str p1, nL a, nL b, nL c, nL d]) = true → m__law_line [.tup [.str "ask", .str p1, nL a, nL b, nL c, nL d]] = some (.str (Txt.join " " ["ask", p1, num (val a), num (val b), num (val c), num (val d)]), [.tup [.str "ask", .str p1, nL a, nL b, nL c, nL d]]) := fun hb => by
            rw [fr_ask, Bool.and_eq_true] at hb
            have h2 : (cntB 1 (nL a) && cntB 1 (nL b) && (cntB 0 (nL c) && (_ && cntB 0 (nL d)))) = true := hb.2
            simp only [Bool.and_eq_true] at h2
            obtain ⟨⟨ga, gb⟩, gc, _, gd⟩ := h2
            have e : ∀ {w : Str}, digB w = true → nL w = .int (val w) := fun hd => by
              unfold nL
              rw [hd]; rfl
            rw [e (cnt_dig ga), e (cnt_dig gb), e (cnt_dig gc), e (cnt_dig gd)]
            exact line_gen (xs := [(.str "ask", "ask"), (.str p1, p1), (.int (val a), num (val a)), (.int (val b), num (val b)), (.int (val c), num (val c)), (.int (val d), num (val d))]) (fun p hp => by
              simp only [List.mem_cons, List.not_mem_nil, or_false] at hp
              rcases hp with rfl | rfl | rfl | rfl | rfl | rfl
              · exact ⟨rfl, by decide +kernel, .inr ⟨rfl, rfl⟩⟩
              · exact lit_str w1
              · exact lit_num wa (cnt_dig ga)
              · exact lit_num wb (cnt_dig gb)
              · exact lit_num wc (cnt_dig gc)
              · exact lit_num wd (cnt_dig gd)) (by simp)
          have res : fr r = (if frB (.tup [.str "ask", .str p1, nL a, nL b, nL c, nL d]) = true ∧ Txt.join " " ["ask", p1, num (val a), num (val b), num (val c), num (val d)] = r then D.tup [.str "ask", .str p1, nL a, nL b, nL c, nL d] else .non) := by
            rw [same_ask hj w]
            unfold fr
            rw [hs]
          rw [res]
          exact fin_rt (np := 1) (N := 4) (δ := [_, _, _]) rfl (by decide) (fin ((skip (cond_no ne_at)).trans ((stepn (c2.trans (by rw [decide_eq_true (by simp)])) k2).trans ((skip (cond_no ne_ad)).trans (end_tup itX l)))))
      · have h5 : t.length ≠ 5 := fun e => h6 (by simp [e])
        rw [fr_ask_no hs h5]
        exact fin_rt (np := 1) (N := 4) (δ := [_, _, _]) rfl (by decide) (fin ((skip (cond_no ne_at)).trans ((skip (c2.trans (by rw [decide_eq_false h6]))).trans ((skip (cond_no ne_ad)).trans end_non))))
    · by_cases z3 : p0 = "told"
      · subst z3
        have c3 := cond_yes (p0 := "told") (lit := "told") (r := r) (ps := t) (o := true) (x := some .non) (y := none) (n := 5) rfl
        by_cases h5 : ((("told" : Str) :: t).length) = 5
        · match t, h5, hs, hj, pw, c3, fin with
          | [p1, a, b, z], _, hs, hj, pw, c3, fin =>
            have w : ∀ p ∈ [p1, a, b, z], RowOk p ∧ 32 ∉ TL.tl p := fun p hp => pw p (List.mem_cons_of_mem _ hp)
            have w1 := (w p1 (by simp)).1
            have wa := (w a (by simp)).1
            have wb := (w b (by simp)).1
            have wz := (w z (by simp)).1
            have itX : it2B (.tup [.str "told", .str p1, nL a, nL b, .str z]) = true := by
              show (decide (5 ≤ 400) && ([.str "told", .str p1, nL a, nL b, .str z] : List D).all it1B) = true
              rw [List.all_cons, List.all_cons, List.all_cons, List.all_cons, List.all_cons, show it1B (.str "told") = true by decide +kernel, show it1B (.str p1) = true from w1.w, nL_it wa, nL_it wb, show it1B (.str z) = true from wz.w]
              rfl
            have E : ∀ (k : Nat) (p : Str), (["told", p1, a, b, z] : List Str)[k]? = some p → ∀ x y, mAlt (mPath 1 (pSub pVar (kC (.int k)))) (mBin dIx (mVar 1) (mC (.int k))) (en r ["told", p1, a, b, z] false x y) = some (.str p, en r ["told", p1, a, b, z] false x y) := fun k p hk x y => at_en hk
            have k3 := ev_set (i := 2) (d := .tup [.str "told", .str p1, nL a, nL b, .str z]) (ev_tup (ev_cons (a := mC (.str "told")) rfl (ev_cons (E 1 p1 rfl (some .non) none) (ev_cons (ev_calle1 (E 2 a rfl (some .non) none) (law_number_ok wa.w)) (ev_cons (ev_calle1 (E 3 b rfl (some .non) none) (law_number_ok wb.w)) (ev_cons (E 4 z rfl (some .non) none) (r := mNil) rfl))))) (by show 5 ≤ sizeLine; decide)) (by simp [en])
            have l : frB (.tup [.str "told", .str p1, nL a, nL b, .str z]) = true → m__law_line [.tup [.str "told", .str p1, nL a, nL b, .str z]] = some (.str (Txt.join " " ["told", p1, num (val a), num (val b), z]), [.tup [.str "told", .str p1, nL a, nL b, .str z]]) := fun hb => by
              rw [fr_told, Bool.and_eq_true] at hb
              have h2 : (cntB 1 (nL a) && cntB 1 (nL b) && _) = true := hb.2
              simp only [Bool.and_eq_true] at h2
              obtain ⟨⟨ga, gb⟩, _⟩ := h2
              have e : ∀ {w : Str}, digB w = true → nL w = .int (val w) := fun hd => by
                unfold nL
                rw [hd]; rfl
              rw [e (cnt_dig ga), e (cnt_dig gb)]
              exact line_gen (xs := [(.str "told", "told"), (.str p1, p1), (.int (val a), num (val a)), (.int (val b), num (val b)), (.str z, z)]) (fun p hp => by
                simp only [List.mem_cons, List.not_mem_nil, or_false] at hp
                rcases hp with rfl | rfl | rfl | rfl | rfl
                · exact ⟨rfl, by decide +kernel, .inr ⟨rfl, rfl⟩⟩
                · exact lit_str w1
                · exact lit_num wa (cnt_dig ga)
                · exact lit_num wb (cnt_dig gb)
                · exact lit_str wz) (by simp)
            have res : fr r = (if frB (.tup [.str "told", .str p1, nL a, nL b, .str z]) = true ∧ Txt.join " " ["told", p1, num (val a), num (val b), z] = r then D.tup [.str "told", .str p1, nL a, nL b, .str z] else .non) := by
              rw [same_told hj w]
              unfold fr
              rw [hs]
            rw [res]
            exact fin_rt (np := 1) (N := 4) (δ := [_, _, _]) rfl (by decide) (fin ((skip (cond_no ne_dt)).trans ((skip (cond_no ne_da)).trans ((stepn (c3.trans (by rw [decide_eq_true (by simp)])) k3).trans (end_tup itX l)))))
        · have h4 : t.length ≠ 4 := fun e => h5 (by simp [e])
          rw [fr_told_no hs h4]
          exact fin_rt (np := 1) (N := 4) (δ := [_, _, _]) rfl (by decide) (fin ((skip (cond_no ne_dt)).trans ((skip (cond_no ne_da)).trans ((skip (c3.trans (by rw [decide_eq_false h5]))).trans end_non))))
      · rw [fr_other_no hs z1 z2 z3]
        exact fin_rt (np := 1) (N := 4) (δ := [_, _, _]) rfl (by decide) (fin ((skip (cond_no z1)).trans ((skip (cond_no z2)).trans ((skip (cond_no z3)).trans end_non))))
end K47
set_option Elab.async false
set_option linter.all false
set_option maxRecDepth 100000
set_option maxHeartbeats 0
set_option exponentiation.threshold 2003
namespace K47
open PySem PySem.Spec PyProof.Rows L2 DL
open J (CH wordB atomB it1B it2B signs_of frB headB tellB askB toldB labB cntB)
def nonB : D → Bool
  | .non => true
  | _ => false
theorem frB_tup {x : D} (h : frB x = true) : ∃ ds, x = .tup ds := by
  cases x <;> first | exact ⟨_, rfl⟩ | cases h
theorem fr_cases (r : Str) : fr r = .non ∨ ∃ ds, fr r = .tup ds ∧ frB (.tup ds) = true := by
  unfold fr
  split
  · rename_i p0 p1 p2 p3 t _
    unfold keepF
    cases hb : frB (F1 p0 p1 p2 p3 t) with
    | false => exact .inl rfl
    | true =>
      obtain ⟨ds, e⟩ := frB_tup hb
      rw [e] at hb
      exact .inr ⟨ds, by rw [e]; rfl, hb⟩
  · exact .inl rfl
theorem fr_it {r : Str} (h : RowOk r) : it2B (fr r) = true := by
  obtain ⟨ps, pn, hs, hj, pl, pw⟩ := words_ok h
  unfold fr
  rw [hs]
  split
  · rename_i p0 p1 p2 p3 t
    unfold keepF
    split
    · exact F1_it (fun p hp => (pw p hp).1) (by simp at pl; omega)
    · rfl
  · rfl
theorem fr_fz {r : Str} (h : RowOk r) : isFz (fr r) = true := J.it2_fz (fr_it h)
theorem fr_is (r : Str) : dIs (fr r) .non = some (.bl (nonB (fr r))) := by
  rcases fr_cases r with e | ⟨ds, e, _⟩ <;> rw [e] <;> rfl
/-- the first row that is no frame -/
def fb : Nat → List Str → Option Nat
  | _, [] => none
  | n, r :: rs => if nonB (fr r) = true then some n else fb (n + 1) rs
def rowD (p : Str × Nat) : D := .tup [.int p.2, .str p.1]
def bdA : MS := (sIf (toT (mBin dIs (mCall m__law_read [.e (mVar 2)] []) (mC .non))) (sRet (mMv 1)) sNil)
theorem fb_loop (h0 : Option D) : ∀ (L : List Str) (n : Nat) (x1 x2 : Option D), (∀ r ∈ L, RowOk r) →
    (fb n L = none → ∃ y1 y2, loopF (tTup (tsCons (tName 1) (tsCons (tName 2) tsNil))) bdA ((L.zipIdx n).map rowD) [h0, x1, x2] = some (.nx [h0, y1, y2])) ∧
    ∀ k, fb n L = some k → ∃ y1 y2, loopF (tTup (tsCons (tName 1) (tsCons (tName 2) tsNil))) bdA ((L.zipIdx n).map rowD) [h0, x1, x2] = some (.rt (.int k) [h0, y1, y2])
  | [], n, x1, x2, _ => ⟨fun _ => ⟨x1, x2, rfl⟩, fun _ h => by cases h⟩
  | r :: L, n, x1, x2, h => by
    have hr := h r List.mem_cons_self
    have c : toT (mBin dIs (mCall m__law_read [.e (mVar 2)] []) (mC .non)) [h0, some (.int n), some (.str r)] = some (nonB (fr r), [h0, some (.int n), some (.str r)]) := ev_toT (ev_bin (g := dIs) (ev_calle1 (ev_var (i := 2) (d := .str r) rfl rfl) (law_read_ok hr)) (b := mC .non) rfl (fr_is r))
    have tg : (tTup (tsCons (tName 1) (tsCons (tName 2) tsNil))) (rowD (r, n)) [h0, x1, x2] = some [h0, some (.int n), some (.str r)] := rfl
    rw [List.zipIdx_cons, List.map_cons]
    simp only [loopF, tg, fb]
    cases hb : nonB (fr r) with
    | true =>
      rw [hb] at c
      have e : bdA [h0, some (.int n), some (.str r)] = some (.rt (.int n) [h0, none, some (.str r)]) := (ev_if1 c).trans (ev_ret (ev_mv rfl))
      simp only [e, if_true]
      exact ⟨fun h => (nomatch h), fun k h => by cases h; exact ⟨_, _, rfl⟩⟩
    | false =>
      rw [hb] at c
      have e : bdA [h0, some (.int n), some (.str r)] = some (.nx [h0, some (.int n), some (.str r)]) := (ev_if0 c).trans rfl
      simp only [e, Bool.false_eq_true, if_false]
      exact fb_loop h0 L (n + 1) (some (.int n)) (some (.str r)) fun x hx => h x (List.mem_cons_of_mem _ hx)
def dueN : Option Nat → D
  | some k => .int k
  | none => .non
theorem first_bad_ok {L : List Str} (h : ∀ r ∈ L, RowOk r) : m__law_first_bad [.lst false (L.map D.str)] = some (dueN (fb 0 L), [.lst false (L.map D.str)]) := by
  have v0 : mVar 0 [some (.lst false (L.map D.str)), none, none] = some (.lst false (L.map D.str), [some (.lst false (L.map D.str)), none, none]) := ev_var (i := 0) rfl (isFz_strs L)
  have hi : iEnum2 (mCons (mVar 0) mNil) [some (.lst false (L.map D.str)), none, none] = some ((L.zipIdx 0).map rowD, [some (.lst false (L.map D.str)), none, none]) := by
    unfold iEnum2
    rw [ev_cons v0 (r := mNil) rfl]
    simp only [seqD]
    rw [fzs_strs, enumF_typ]
    rfl
  obtain ⟨l1, l2⟩ := fb_loop (some (.lst false (L.map D.str))) L 0 none none h
  cases hb : fb 0 L with
  | none =>
    obtain ⟨y1, y2, e⟩ := l1 hb
    exact fin_rt (np := 1) (N := 3) (δ := [y1, y2]) rfl (by decide) ((ev_seq ((ev_for hi).trans e)).trans (ev_ret (m := mC .non) rfl))
  | some k =>
    obtain ⟨y1, y2, e⟩ := l2 k hb
    exact fin_rt (np := 1) (N := 3) (δ := [y1, y2]) rfl (by decide) (ev_stop ((ev_for hi).trans e))
def bdC : MS := (sCons (sSet 5 (mCall m_frame_in [.e (mVar 4)] []))
  (sCons (sIf (toT (mBin dIs (mVar 5) (mC .non))) sStuck sNil) (sExpr (mMeth "list" gAppend 2 (mCons (mVar 5) mNil)))))
def xbC : MX := (xCons xNo (sSet 5 (mCall m_frame_in [.e (mVar 4)] []))
  (xCons (xIf (toT (mBin dIs (mVar 5) (mC .non))) (xRaise1 "BadText" "line" (mVar 3)) xNo) (sIf (toT (mBin dIs (mVar 5) (mC .non))) sStuck sNil) xNo))
def tgC : MG := (tTup (tsCons (tName 3) (tsCons (tName 4) tsNil)))
section
variable {h0 h1 : Option D}
theorem c_set {acc : List D} {n : Nat} {r : Str} {x5 : Option D} (hr : RowOk r) : sSet 5 (mCall m_frame_in [.e (mVar 4)] []) [h0, h1, some (.lst true acc), some (.int n), some (.str r), x5] = some (.nx [h0, h1, some (.lst true acc), some (.int n), some (.str r), some (fr r)]) :=
  ev_set (i := 5) (ev_calle1 (ev_var (i := 4) (d := .str r) rfl rfl) (frame_in_ok hr)) (by simp)
theorem c_is {acc : List D} {n : Nat} {r : Str} (hr : RowOk r) : toT (mBin dIs (mVar 5) (mC .non)) [h0, h1, some (.lst true acc), some (.int n), some (.str r), some (fr r)] = some (nonB (fr r), [h0, h1, some (.lst true acc), some (.int n), some (.str r), some (fr r)]) :=
  ev_toT (ev_bin (g := dIs) (ev_var (i := 5) rfl (fr_fz hr)) (b := mC .non) rfl (fr_is r))
theorem c_go {acc : List D} {n : Nat} {r : Str} {x5 : Option D} (hr : RowOk r) (hb : nonB (fr r) = false) (hl : acc.length < sizeLine) : bdC [h0, h1, some (.lst true acc), some (.int n), some (.str r), x5] = some (.nx [h0, h1, some (.lst true (acc ++ [fr r])), some (.int n), some (.str r), some (fr r)]) := by
  have c := c_is (h0 := h0) (h1 := h1) (acc := acc) (n := n) hr
  rw [hb] at c
  refine (ev_seq (c_set hr)).trans ((skip c).trans (ev_expr (d := .non) ?_))
  have v5 := ev_cons (ev_var (i := 5) (δ := [h0, h1, some (.lst true acc), some (.int n), some (.str r), some (fr r)]) rfl (fr_fz hr)) (r := mNil) rfl
  unfold mMeth
  show (match (mCons (mVar 5) mNil) _ with | some (ds, δ1) => _ | none => none) = _
  rw [v5]
  show (match gAppend (.lst true acc) [fr r] with | some (a', d2) => some (a', _) | none => none) = _
  rw [gAppend_ok hl]
  rfl
theorem x_no {acc : List D} {n : Nat} {r : Str} {x5 : Option D} (hr : RowOk r) (hb : nonB (fr r) = false) : xbC [h0, h1, some (.lst true acc), some (.int n), some (.str r), x5] = none := by
  have c := c_is (h0 := h0) (h1 := h1) (acc := acc) (n := n) hr
  rw [hb] at c
  have s : (sIf (toT (mBin dIs (mVar 5) (mC .non))) sStuck sNil) [h0, h1, some (.lst true acc), some (.int n), some (.str r), some (fr r)] = some (.nx [h0, h1, some (.lst true acc), some (.int n), some (.str r), some (fr r)]) := (ev_if0 c).trans rfl
  unfold xbC xCons xNo
  simp only [c_set hr]
  have x : (xIf (toT (mBin dIs (mVar 5) (mC .non))) (xRaise1 "BadText" "line" (mVar 3)) fun _ => none) [h0, h1, some (.lst true acc), some (.int n), some (.str r), some (fr r)] = none := by
    unfold xIf
    rw [c]
  simp only [x, s]
theorem x_yes {acc : List D} {n : Nat} {r : Str} {x5 : Option D} (hr : RowOk r) (hb : nonB (fr r) = true) : xbC [h0, h1, some (.lst true acc), some (.int n), some (.str r), x5] = some ⟨"BadText", ["line"], [.int n]⟩ := by
  have c := c_is (h0 := h0) (h1 := h1) (acc := acc) (n := n) hr
  rw [hb] at c
  unfold xbC xCons xNo
  simp only [c_set hr]
  have x : (xIf (toT (mBin dIs (mVar 5) (mC .non))) (xRaise1 "BadText" "line" (mVar 3)) fun _ => none) [h0, h1, some (.lst true acc), some (.int n), some (.str r), some (fr r)] = some ⟨"BadText", ["line"], [.int n]⟩ := by
    unfold xIf
    rw [c]
    rfl
  simp only [x]
theorem cut_loop : ∀ (L : List Str) (n : Nat) (acc : List D) (x3 x4 x5 : Option D), (∀ r ∈ L, RowOk r) → acc.length + L.length ≤ 100000 →
    (fb n L = none → (∃ y3 y4 y5, loopF tgC bdC ((L.zipIdx n).map rowD) [h0, h1, some (.lst true acc), x3, x4, x5] = some (.nx [h0, h1, some (.lst true (acc ++ L.map fr)), y3, y4, y5])) ∧ xLoop tgC bdC xbC ((L.zipIdx n).map rowD) [h0, h1, some (.lst true acc), x3, x4, x5] = none) ∧
    ∀ k, fb n L = some k → xLoop tgC bdC xbC ((L.zipIdx n).map rowD) [h0, h1, some (.lst true acc), x3, x4, x5] = some ⟨"BadText", ["line"], [.int k]⟩
  | [], n, acc, x3, x4, x5, _, _ => ⟨fun _ => ⟨⟨x3, x4, x5, by simp [loopF]⟩, rfl⟩, fun _ h => by cases h⟩
  | r :: L, n, acc, x3, x4, x5, h, hl => by
    have hr := h r List.mem_cons_self
    have tg : tgC (rowD (r, n)) [h0, h1, some (.lst true acc), x3, x4, x5] = some [h0, h1, some (.lst true acc), some (.int n), some (.str r), x5] := rfl
    rw [List.zipIdx_cons, List.map_cons]
    simp only [loopF, xLoop, tg, fb]
    cases hb : nonB (fr r) with
    | true =>
      simp only [if_true, x_yes hr hb]
      exact ⟨fun h => (nomatch h), fun k h => by cases h; rfl⟩
    | false =>
      have hz : acc.length < sizeLine := Nat.lt_of_lt_of_le (show acc.length < 100001 by omega) (by decide)
      simp only [Bool.false_eq_true, if_false, x_no hr hb, c_go hr hb hz]
      have ih := cut_loop L (n + 1) (acc ++ [fr r]) (some (.int n)) (some (.str r)) (some (fr r)) (fun x hx => h x (List.mem_cons_of_mem _ hx)) (by simp at hl ⊢; omega)
      rw [List.append_assoc] at ih
      exact ih
end
end K47
set_option Elab.async false
set_option linter.all false
set_option maxRecDepth 100000
set_option maxHeartbeats 0
set_option exponentiation.threshold 2003
namespace K47
open PySem PySem.Spec PyProof.Rows L2 DL
open J (CH wordB atomB it1B it2B signs_of frB headB tellB askB toldB labB cntB)
/-- a text of rows, its last one not ended -/
structure PageOk (z : Str) (L : List Str) (t : Str) : Prop where
  sp : Txt.split z "\n" = L ++ [t]
  row : ∀ r ∈ L, RowOk r
  n : L.length ≤ 2000
  len : z.length ≤ 2000
  end_ : RowOk t
theorem xc_skip {xa xb : MX} {a : MS} {δ δ1 : DL.Env} (h1 : xa δ = none) (h2 : a δ = some (.nx δ1)) : xCons xa a xb δ = xb δ1 := by
  unfold xCons
  rw [h1, h2]
theorem xc_hit {xa xb : MX} {a : MS} {δ : DL.Env} {e : Ex} (h1 : xa δ = some e) : xCons xa a xb δ = some e := by
  unfold xCons
  rw [h1]
def badE (k : Nat) : Ex := ⟨"BadText", ["line"], [.int k]⟩
section
variable {z t : Str} {L : List Str} (h : PageOk z L t)
include h
theorem sp_ev {i : Nat} {δ : DL.Env} (hi : δ[i]? = some (some (.str z))) : mMethV "str" gSplit (mVar i) (mCons (mC (.str "\n")) mNil) δ = some (.lst true ((L ++ [t]).map D.str), δ) :=
  ev_methV (ev_var hi rfl) (tyD_str _) (ev_cons (a := mC (.str "\n")) rfl (r := mNil) rfl) (gSplit_ok h.sp (by decide +kernel) (by
    have := h.len
    exact Nat.le_trans (show _ ≤ 2002 by omega) (by decide)))
theorem cut_env : iEnum2 (mCons (mSl (mVar 1) oNone (oSome (mNeg (mC (.int 1))))) mNil) [some (.str z), some (.lst true ((L ++ [t]).map D.str)), some (.lst true []), none, none, none] = some ((L.zipIdx 0).map rowD, [some (.str z), some (.lst false ((L ++ [t]).map D.str)), some (.lst true []), none, none, none]) := by
  have vf : mVar 1 [some (.str z), some (.lst true ((L ++ [t]).map D.str)), some (.lst true []), none, none, none] = some (.lst false ((L ++ [t]).map D.str), [some (.str z), some (.lst false ((L ++ [t]).map D.str)), some (.lst true []), none, none, none]) := by
    have := ev_varf (i := 1) (δ := [some (.str z), some (.lst true ((L ++ [t]).map D.str)), some (.lst true []), none, none, none]) rfl
    rw [show fz (.lst true ((L ++ [t]).map D.str)) = .lst false ((L ++ [t]).map D.str) by simp only [fz, fzs_strs]] at this
    exact this
  unfold iEnum2
  rw [ev_cons (ev_slL (lo := oNone) vf rfl (ev_some (m := mNeg (mC (.int 1))) (i := -1) rfl)) (r := mNil) rfl]
  simp only [seqD, cut_last]
  rw [← List.map_dropLast, List.dropLast_concat, fzs_strs, enumF_typ]
  rfl
theorem cut_isi : (tNot1 (mTru (mCallB dIsi (mCons (mVar 0) (mCons (mC (.ty .str)) mNil))))) [some (.str z), none, none, none, none, none] = some (false, [some (.str z), none, none, none, none, none]) := rfl
theorem cut_s1 : sSet 1 (mMethV "str" gSplit (mVar 0) (mCons (mC (.str "\n")) mNil)) [some (.str z), none, none, none, none, none] = some (.nx [some (.str z), some (.lst true ((L ++ [t]).map D.str)), none, none, none, none]) := ev_set (i := 1) (sp_ev h rfl) (by simp)
theorem cut_s2 : sSet 2 (mLst mNil) [some (.str z), some (.lst true ((L ++ [t]).map D.str)), none, none, none, none] = some (.nx [some (.str z), some (.lst true ((L ++ [t]).map D.str)), some (.lst true []), none, none, none]) := rfl
theorem last_ev {i : Nat} {x : DL.Env} {o : Bool} (hi : x[i]? = some (some (.lst o ((L ++ [t]).map D.str)))) (ho : o = false) : mAlt (mPath i (pSub pVar (kPur [] (mNeg (mC (.int 1)))))) (mBin dIx (mVar i) (mNeg (mC (.int 1)))) x = some (.str t, x) := by
  subst ho
  have hlen : ((L ++ [t]).map D.str).length = L.length + 1 := by simp
  have hk : ((L ++ [t]).map D.str)[L.length]? = some (.str t) := by
    rw [List.map_append, List.getElem?_append_right (by simp)]
    simp
  refine ev_altE (ev_pathF (i := i) (d := .lst false ((L ++ [t]).map D.str)) hi (p := [.sub (.inl (-1))]) rfl (walkF (isFz_strs _) (j := L.length) ?_ hk (walk_nilF rfl)))
  show ixN ((L ++ [t]).map D.str).length (-1) = some L.length
  rw [hlen]
  unfold ixN
  rw [if_neg (by decide)]
  first
    | (rw [if_pos (by omega)]; congr 1; omega)
    | (simp; omega)
theorem cut_ok (hb : fb 0 L = none) : m_cut_text [.str z] = some (.tup [.lst true (L.map fr), .str t], [.str z]) ∧ x_cut_text [.str z] = none := by
  have hn := h.n
  obtain ⟨⟨⟨y3, y4, y5, e⟩, ex⟩, _⟩ := (cut_loop (h0 := some (.str z)) (h1 := some (.lst false ((L ++ [t]).map D.str))) L 0 [] none none none h.row (by simp; omega)).imp (fun k => k hb) id
  have f1 : sFor (iEnum2 (mCons (mSl (mVar 1) oNone (oSome (mNeg (mC (.int 1))))) mNil)) tgC bdC [some (.str z), some (.lst true ((L ++ [t]).map D.str)), some (.lst true []), none, none, none] = some (.nx [some (.str z), some (.lst false ((L ++ [t]).map D.str)), some (.lst true (L.map fr)), y3, y4, y5]) := (ev_for (cut_env h)).trans e
  constructor
  · exact fin_rt (np := 1) (N := 6) (δ := [some (.lst false ((L ++ [t]).map D.str)), none, y3, y4, y5]) rfl (by decide) ((ev_seq ((ev_if0 (cut_isi h)).trans rfl)).trans ((ev_seq (cut_s1 h)).trans ((ev_seq (cut_s2 h)).trans ((ev_seq f1).trans (ev_ret (ev_tup (ev_cons (ev_mv rfl) (ev_cons (last_ev h (i := 1) (o := false) rfl rfl) (r := mNil) rfl)) (by show 2 ≤ sizeLine; decide)))))))
  · show xb_cut_text [some (.str z), none, none, none, none, none] = none
    have xf : xFor (iEnum2 (mCons (mSl (mVar 1) oNone (oSome (mNeg (mC (.int 1))))) mNil)) tgC bdC xbC [some (.str z), some (.lst true ((L ++ [t]).map D.str)), some (.lst true []), none, none, none] = none := by
      unfold xFor
      rw [cut_env h]
      exact ex
    unfold xb_cut_text
    have x0 : xIf (tNot1 (mTru (mCallB dIsi (mCons (mVar 0) (mCons (mC (.ty .str)) mNil))))) (xRaise1 "BadText" "line" (mC (.int 0))) xNo [some (.str z), none, none, none, none, none] = none := rfl
    have s0 : sIf (tNot1 (mTru (mCallB dIsi (mCons (mVar 0) (mCons (mC (.ty .str)) mNil))))) sStuck sNil [some (.str z), none, none, none, none, none] = some (.nx [some (.str z), none, none, none, none, none]) := rfl
    exact (xc_skip x0 s0).trans ((xc_skip rfl (cut_s1 h)).trans ((xc_skip rfl (cut_s2 h)).trans ((xc_skip xf f1).trans rfl)))
theorem cut_bad {k : Nat} (hb : fb 0 L = some k) : x_cut_text [.str z] = some (badE k) := by
  have hn := h.n
  have ex := (cut_loop (h0 := some (.str z)) (h1 := some (.lst false ((L ++ [t]).map D.str))) L 0 [] none none none h.row (by simp; omega)).2 k hb
  show xb_cut_text [some (.str z), none, none, none, none, none] = _
  have xf : xFor (iEnum2 (mCons (mSl (mVar 1) oNone (oSome (mNeg (mC (.int 1))))) mNil)) tgC bdC xbC [some (.str z), some (.lst true ((L ++ [t]).map D.str)), some (.lst true []), none, none, none] = some (badE k) := by
    unfold xFor
    rw [cut_env h]
    exact ex
  unfold xb_cut_text
  have x0 : xIf (tNot1 (mTru (mCallB dIsi (mCons (mVar 0) (mCons (mC (.ty .str)) mNil))))) (xRaise1 "BadText" "line" (mC (.int 0))) xNo [some (.str z), none, none, none, none, none] = none := rfl
  have s0 : sIf (tNot1 (mTru (mCallB dIsi (mCons (mVar 0) (mCons (mC (.ty .str)) mNil))))) sStuck sNil [some (.str z), none, none, none, none, none] = some (.nx [some (.str z), none, none, none, none, none]) := rfl
  exact (xc_skip x0 s0).trans ((xc_skip rfl (cut_s1 h)).trans ((xc_skip rfl (cut_s2 h)).trans (xc_hit xf)))
end
end K47
set_option Elab.async false
set_option linter.all false
set_option maxRecDepth 100000
set_option maxHeartbeats 0
set_option exponentiation.threshold 2003
namespace K47
open PySem PySem.Spec PyProof.Rows L2 DL
open J (CH wordB atomB it1B it2B signs_of frB headB tellB askB labB cntB)
section
variable {z t : Str} {L : List Str} (h : PageOk z L t)
include h
theorem read_s1 (hb : fb 0 L = none) : sAsg (mCall m_cut_text [.e (mVar 0)] []) (tTup (tsCons (tName 1) (tsCons (tName 2) tsNil))) [some (.str z), none, none] = some (.nx [some (.str z), some (.lst true (L.map fr)), some (.str t)]) := by
  unfold sAsg
  rw [ev_calle1 (ev_var (i := 0) (d := .str z) rfl rfl) (cut_ok h hb).1]
  rfl
theorem read_ne {x : Option D} : toT (mBin dNe (mVar 2) (mC (.str ""))) [some (.str z), x, some (.str t)] = some (!decide (t = ""), [some (.str z), x, some (.str t)]) := ev_toT (ev_bin (g := dNe) (ev_var (i := 2) (d := .str t) rfl rfl) (b := mC (.str "")) rfl rfl)
theorem read_bad {k : Nat} (hb : fb 0 L = some k) : x_read_frames [.str z] = some (badE k) := by
  show xb_read_frames [some (.str z), none, none] = _
  exact xc_hit (show x_cut_text [.str z] = some (badE k) from cut_bad h hb)
theorem read_open (hb : fb 0 L = none) (ht : t ≠ "") : x_read_frames [.str z] = some (badE L.length) := by
  show xb_read_frames [some (.str z), none, none] = _
  have c := read_ne h (x := some (.lst true (L.map fr)))
  rw [decide_eq_false ht] at c
  refine (xc_skip (show x_cut_text [.str z] = none from (cut_ok h hb).2) (read_s1 h hb)).trans (xc_hit ?_)
  unfold xIf
  rw [c]
  show xRaise1 "BadText" "line" (mCallB dLen (mCons (mVar 1) mNil)) [some (.str z), some (.lst true (L.map fr)), some (.str t)] = _
  unfold xRaise1
  have v := ev_call1 (g := dLen) (ev_varf (i := 1) (δ := [some (.str z), some (.lst true (L.map fr)), some (.str t)]) rfl) (d := .int L.length) (by
    show dLen [.lst false (fzs (L.map fr))] = _
    simp [dLen, fzs_length])
  rw [v]
  rfl
theorem read_ok (hb : fb 0 L = none) (ht : t = "") : m_read_frames [.str z] = some (.lst true (L.map fr), [.str z]) ∧ x_read_frames [.str z] = none := by
  have c := read_ne h (x := some (.lst true (L.map fr)))
  rw [decide_eq_true ht] at c
  constructor
  · exact fin_rt (np := 1) (N := 3) (δ := [none, some (.str t)]) rfl (by decide) ((ev_seq (read_s1 h hb)).trans ((ev_seq ((ev_if0 c).trans rfl)).trans (ev_ret (ev_mv rfl))))
  · show xb_read_frames [some (.str z), none, none] = _
    refine (xc_skip (show x_cut_text [.str z] = none from (cut_ok h hb).2) (read_s1 h hb)).trans ((xc_skip ?_ ((ev_if0 c).trans rfl)).trans rfl)
    unfold xIf
    rw [c]
    rfl
end
theorem lab_is {l : D} (h : labB l = true) : ∃ z, l = .str z ∧ z.length ≤ 6 := by
  cases l with
  | str z =>
    refine ⟨z, rfl, ?_⟩
    have h : (decide (1 ≤ z.length) && decide (z.length ≤ 6) && _) = true := h
    simp only [Bool.and_eq_true, decide_eq_true_eq] at h
    exact h.1.2
  | _ => cases h
theorem cnt_is {k : Int} {a : D} (h : cntB k a = true) : ∃ i, a = .int i := by
  cases a with
  | int i => exact ⟨i, rfl⟩
  | _ => cases h
theorem head_is {t : Str} {ds : List D} (h : headB t ds = true) : ∃ l r, ds = .str t :: .str l :: r := by
  unfold headB at h
  split at h
  · rename_i z l r
    rw [Bool.and_eq_true, decide_eq_true_eq] at h
    obtain ⟨y, rfl, _⟩ := lab_is h.2
    exact ⟨y, r, by rw [h.1]⟩
  · cases h
theorem fr_shape {ds : List D} (h : frB (.tup ds) = true) : (∃ l a ws, ds = [.str "tell", .str l, .int a, .tup ws] ∧ ws.length ≤ 3 ∧ ∀ w ∈ ws, labB w = true) ∨ (∃ l a b c d, ds = [.str "ask", .str l, .int a, .int b, .int c, .int d]) ∨ ∃ l a b w, ds = [.str "told", .str l, .int a, .int b, .str w] := by
  have h : ((headB "tell" ds && tellB ds) || (headB "ask" ds && askB ds) || (headB "told" ds && J.toldB ds)) = true := h
  rw [Bool.or_eq_true, Bool.or_eq_true, Bool.and_eq_true, Bool.and_eq_true, Bool.and_eq_true] at h
  rcases h with (⟨h1, h2⟩ | ⟨h1, h2⟩) | ⟨h1, h2⟩
  · left
    obtain ⟨l, r, rfl⟩ := head_is h1
    unfold tellB at h2
    split at h2
    · rename_i a ws e
      injection e with _ e
      injection e with _ e
      subst e
      simp only [Bool.and_eq_true, decide_eq_true_eq, List.all_eq_true] at h2
      obtain ⟨i, rfl⟩ := cnt_is h2.1
      exact ⟨l, i, ws, rfl, h2.2.1.2, h2.2.2⟩
    · cases h2
  · right; left
    obtain ⟨l, r, rfl⟩ := head_is h1
    unfold askB at h2
    split at h2
    · rename_i a b c d e
      injection e with _ e
      injection e with _ e
      subst e
      simp only [Bool.and_eq_true] at h2
      obtain ⟨i, rfl⟩ := cnt_is h2.1.1
      obtain ⟨j, rfl⟩ := cnt_is h2.1.2
      obtain ⟨m, rfl⟩ := cnt_is h2.2.1
      obtain ⟨n, rfl⟩ := cnt_is h2.2.2.2
      exact ⟨l, i, j, m, n, rfl⟩
    · cases h2
  · right; right
    obtain ⟨l, r, rfl⟩ := head_is h1
    unfold J.toldB at h2
    split at h2
    · rename_i a b w e
      injection e with _ e
      injection e with _ e
      subst e
      simp only [Bool.and_eq_true] at h2
      obtain ⟨i, rfl⟩ := cnt_is h2.1.1
      obtain ⟨j, rfl⟩ := cnt_is h2.1.2
      have : ∃ x, w = .str x := by
        cases w with
        | str x => exact ⟨x, rfl⟩
        | _ => cases h2.2
      obtain ⟨x, rfl⟩ := this
      exact ⟨l, i, j, x, rfl⟩
    · cases h2
theorem fr_noal {ds : List D} (h : frB (.tup ds) = true) : noal (.tup ds) = true := by
  rcases fr_shape h with ⟨l, a, ws, rfl, _, hw⟩ | ⟨l, a, b, c, d, rfl⟩ | ⟨l, a, b, w, rfl⟩
  · have : noals ws = true := noals_iff.mpr fun w hw' => by
      obtain ⟨z, rfl, _⟩ := lab_is (hw w hw')
      rfl
    simp only [noal, noals, this]
    rfl
  · rfl
  · rfl
theorem str_sh {z : Str} (h : wordB z = true) {n : Nat} (hl : z.length ≤ n) : ∃ p, J.Sh (n + 2) 0 (.str z) p := by
  obtain ⟨h7, hc⟩ := signs_of h
  have hm : ∀ c ∈ CH, c < 0x110000 := by decide
  refine ⟨.str z, rfl, rfl, Nat.le_refl _, ⟨fun c hc' => ?_, ?_⟩⟩
  · have : c ∈ 39 :: (z.cps.toList ++ [39]) := by rw [← J.repr_word h]; exact hc'
    rcases List.mem_cons.mp this with e | e
    · rw [e]; decide
    · rcases List.mem_append.mp e with e | e
      · exact hm c (hc c e)
      · rw [List.mem_singleton.mp e]; decide
  · show (reprText z).cps.size ≤ n + 2
    rw [← Array.length_toList, J.repr_word h, List.length_cons, List.length_append, Array.length_toList]
    have : z.cps.size ≤ n := hl
    simp; omega
theorem fr_sh {ds : List D} (h : frB (.tup ds) = true) (hi : it2B (.tup ds) = true) : ∃ p, J.Sh 2433 2 (.tup ds) p := by
  have hall : ∀ d ∈ ds, it1B d = true := by
    simp only [it2B, Bool.and_eq_true, List.all_eq_true] at hi
    exact hi.2
  have atom : ∀ {d : D}, d ∈ ds → atomB d = true → ∃ p, J.Sh 403 1 d p := fun hd ha => by
    obtain ⟨p, hp, _⟩ := J.atom_sh ha
    exact ⟨p, hp.mono (Nat.le_refl _) (by decide)⟩
  have all : ∀ d ∈ ds, ∃ p, J.Sh 403 1 d p := by
    intro d hd
    rcases fr_shape h with ⟨l, a, ws, rfl, hl, hw⟩ | ⟨l, a, b, c, e, rfl⟩ | ⟨l, a, b, w, rfl⟩
    · have hd0 := hall d hd
      simp only [List.mem_cons, List.not_mem_nil, or_false] at hd
      rcases hd with rfl | rfl | rfl | rfl
      · exact atom (by simp) hd0
      · exact atom (by simp) hd0
      · exact atom (by simp) hd0
      · obtain ⟨p, hp, _⟩ := J.tup_sh (n := 8) (k := 0) (l := 3) (ds := ws) (fun w hw' => by
          obtain ⟨z, rfl, hz⟩ := lab_is (hw w hw')
          exact str_sh ((J.atoms_of hd0).2 _ hw') hz) hl
        exact ⟨p, hp.mono (by decide) (by decide)⟩
    · have hd0 := hall d hd
      simp only [List.mem_cons, List.not_mem_nil, or_false] at hd
      rcases hd with rfl | rfl | rfl | rfl | rfl | rfl <;> exact atom (by simp) hd0
    · have hd0 := hall d hd
      simp only [List.mem_cons, List.not_mem_nil, or_false] at hd
      rcases hd with rfl | rfl | rfl | rfl | rfl <;> exact atom (by simp) hd0
  have len : ds.length ≤ 6 := by
    rcases fr_shape h with ⟨l, a, ws, rfl, hl, hw⟩ | ⟨l, a, b, c, e, rfl⟩ | ⟨l, a, b, w, rfl⟩ <;> simp
  obtain ⟨p, hp, _⟩ := J.tup_sh all len
  exact ⟨p, hp⟩
/-- rows that are frames, all of them -/
theorem all_fr : ∀ {L : List Str} {n : Nat}, fb n L = none → ∀ r ∈ L, ∃ ds, fr r = .tup ds ∧ frB (.tup ds) = true
  | [], _, _, _, hr => nomatch hr
  | x :: L, n, h, r, hr => by
    simp only [fb] at h
    cases hb : nonB (fr x) with
    | true => rw [hb] at h; cases h
    | false =>
      rw [hb] at h
      rcases List.mem_cons.mp hr with rfl | hr
      · rcases fr_cases r with e | e
        · rw [e] at hb; cases hb
        · exact e
      · exact all_fr h r hr
theorem frs_noal {L : List Str} {n : Nat} (h : fb n L = none) : noals (L.map fr) = true := noals_iff.mpr fun d hd => by
  obtain ⟨r, hr, rfl⟩ := List.mem_map.mp hd
  obtain ⟨ds, e, hb⟩ := all_fr h r hr
  rw [e]
  exact fr_noal hb
theorem frs_fz {L : List Str} (h : ∀ r ∈ L, RowOk r) : fzs (L.map fr) = L.map fr := fzs_isFzs _ (isFzs_iff.mpr fun d hd => by
  obtain ⟨r, hr, rfl⟩ := List.mem_map.mp hd
  exact fr_fz (h r hr))
theorem frs_repr {L : List Str} {n : Nat} (h : fb n L = none) (hr : ∀ r ∈ L, RowOk r) (hl : L.length ≤ 2000) {t : Str} (ht : RowOk t) :
    (∃ w, ∀ o o1 : Bool, reprD (.lst o [.tup [.lst o1 (L.map fr), .str t]]) = some w) ∧ ∃ w, ∀ o o1 : Bool, reprD (.lst o [.lst o1 (L.map fr)]) = some w := by
  obtain ⟨ps, a, b, c, e, f⟩ := J.seq_sh (n := 2433) (k := 2) (ds := L.map fr) (fun d hd => by
    obtain ⟨r, hr', rfl⟩ := List.mem_map.mp hd
    obtain ⟨ds, e, hb⟩ := all_fr h r hr'
    have hi := fr_it (hr r hr')
    rw [e] at hi ⊢
    exact fr_sh hb hi)
  have lst : ∀ o, J.Sh 4870003 3 (.lst o (L.map fr)) (.list ps) := fun o => by
    refine ⟨by simp only [toPyR, a]; rfl, by simpa [PyData.showable] using b, by simp only [PyData.depth]; omega, ?_⟩
    show J.Bd _ (listText (PyData.shownAll ps))
    refine (J.Bd.list f).mono ?_
    rw [e, List.length_map]
    omega
  obtain ⟨q, hq⟩ := str_sh ht.w (n := 395) ht.l
  have qe := hq.py
  simp only [toPyR, Option.some.injEq] at qe
  subst qe
  have pair : ∀ o1, J.Sh 9740013 4 (.tup [.lst o1 (L.map fr), .str t]) (.tuple [.list ps, .str t]) := fun o1 => by
    refine ⟨?_, ?_, ?_, ?_⟩
    · simp only [toPyR, toPyRs, a]
      rfl
    · have := (lst o1).sh
      simp only [PyData.showable, PyData.showableAll, hq.sh] at this ⊢
      simpa using this
    · have := (lst o1).dp
      have := hq.dp
      simp only [PyData.depth, PyData.depthAll] at *
      omega
    · show J.Bd _ (tupleText (PyData.shownAll [.list ps, .str t]))
      refine (J.Bd.tuple (n := 4870003) fun x hx => ?_).mono (by simp [PyData.shownAll])
      simp only [PyData.shownAll, List.mem_cons, List.not_mem_nil, or_false] at hx
      rcases hx with rfl | rfl
      · exact (lst o1).bd
      · exact hq.bd.mono (by decide)
  have one : ∀ {n k : Nat} {d : D} {p : PyData}, J.Sh n k d p → ∀ o, J.Sh (n + 5) (k + 1) (.lst o [d]) (.list [p]) := fun {n k d p} hp o => by
    refine ⟨?_, ?_, ?_, ?_⟩
    · simp only [toPyR, toPyRs, hp.py]
      rfl
    · simp only [PyData.showable, PyData.showableAll, hp.sh]
      rfl
    · have := hp.dp
      simp only [PyData.depth, PyData.depthAll] at *
      omega
    · show J.Bd _ (listText (PyData.shownAll [p]))
      refine (J.Bd.list (n := n) fun x hx => ?_).mono (by simp [PyData.shownAll])
      simp only [PyData.shownAll, List.mem_cons, List.not_mem_nil, or_false] at hx
      rw [hx]
      exact hp.bd
  exact ⟨⟨_, fun o o1 => J.repr_of (one (pair o1) o) (by decide) (by decide)⟩, ⟨_, fun o o1 => J.repr_of (one (lst o1) o) (by decide) (by decide)⟩⟩
end K47
set_option Elab.async false
set_option linter.all false
set_option maxRecDepth 100000
set_option maxHeartbeats 0
set_option exponentiation.threshold 2003
namespace K47
open PySem PySem.Spec PyProof.Rows L2 DL
def tb1 : D := .tab "law" "law.<locals>.<lambda>"
def tb2 : D := .tab "_law_told" "_law_told.<locals>.<lambda>"
def toldM (mask : List Bool) (m : ME) (xm : MX) : ME := mTold ["BadText"] 1 "law" "law.<locals>.<lambda>" 2 "_law_told" "_law_told.<locals>.<lambda>" mask m xm 0 b__law_told
theorem b_err (k : Nat) : b__law_told [some .hole, some (.lst true []), some (.exc "BadText" ["line"] [.int k])] = some (.rt (.int k) [some .hole, some (.lst true []), some (.exc "BadText" ["line"] [.int k])]) := by kernel_rfl
theorem b_val (d : D) : b__law_told [some .hole, some (.lst true [d]), some .non] = some (.rt (.lst true [d]) [some .hole, none, some .non]) := rfl
theorem told_e {δ : DL.Env} {mask : List Bool} {m : ME} {xm : MX} {k : Nat} (h1 : δ[1]? = some (some tb1)) (h2 : δ[2]? = some (some tb2)) (hx : xm (fzE (keepM mask δ)) = some (badE k)) : toldM mask m xm δ = some (.int k, fzM mask δ) := by
  unfold toldM mTold
  simp only [h1, h2, tb1, tb2, hx, and_self, if_true]
  have e : excD (badE k) = .exc "BadText" ["line"] [.int k] := by
    unfold excD badE
    rw [if_neg (by simp)]
  rw [if_pos (by simp [badE]), e]
  show (match b__law_told [some .hole, some (.lst true []), some (.exc "BadText" ["line"] [.int k])] with | some (.rt d _) => some (d, if (badE k).ns = [] then δ else fzM mask δ) | _ => none) = _
  rw [b_err]
  show some (D.int k, if (badE k).ns = [] then δ else fzM mask δ) = _
  rw [if_neg (by simp [badE])]
theorem told_v {δ δ0 : DL.Env} {mask : List Bool} {m : ME} {xm : MX} {d : D} (h1 : δ[1]? = some (some tb1)) (h2 : δ[2]? = some (some tb2)) (hx : xm (fzE (keepM mask δ)) = none) (hm : m (fzE (keepM mask δ)) = some (d, δ0)) (hn : noal d = true) : toldM mask m xm δ = some (.lst true [d], δ) := by
  unfold toldM mTold
  simp only [h1, h2, tb1, tb2, hx, hm, hn, and_self, if_true]
  show (match b__law_told [some .hole, some (.lst true [d]), some .non] with | some (.rt r _) => some (r, δ) | _ => none) = _
  rw [b_val]
/-- the law's names -/
def Ev (scr : D) (s : Dr) (x4 x5 x6 x7 x8 x9 x10 x11 x12 : Option D) : DL.Env := [some scr, some tb1, some tb2, some s.d, x4, x5, x6, x7, x8, x9, x10, x11, x12, none, none]
def mk8 : List Bool := [false, false, false, false, false, false, false, false, true]
def mk7 : List Bool := [false, false, false, false, false, false, false, true]
def cutT : ME := toldM mk8 (mCall m_cut_text [.e (mVar 8)] []) (xCall x_cut_text [.e (mVar 8)] [])
def readT : ME := toldM mk8 (mCall m_read_frames [.e (mVar 8)] []) (xCall x_read_frames [.e (mVar 8)] [])
section
variable {scr : D} {s : Dr} {x4 x5 x6 x7 x9 x10 x11 x12 : Option D} {z t : Str} {L : List Str} (h : PageOk z L t)
include h
theorem cutT_v (hb : fb 0 L = none) : cutT (Ev scr s x4 x5 x6 x7 (some (.str z)) x9 x10 x11 x12) = some (.lst true [.tup [.lst true (L.map fr), .str t]], Ev scr s x4 x5 x6 x7 (some (.str z)) x9 x10 x11 x12) := by
  obtain ⟨c1, c2⟩ := cut_ok h hb
  refine told_v rfl rfl (show x_cut_text [.str z] = none from c2) (ev_calle1 (ev_var (i := 8) (d := .str z) rfl rfl) c1) ?_
  have := frs_noal hb
  simp only [noal, noals, this]
  rfl
theorem cutT_e {k : Nat} (hb : fb 0 L = some k) : cutT (Ev scr s x4 x5 x6 x7 (some (.str z)) x9 x10 x11 x12) = some (.int k, Ev scr s x4 x5 x6 x7 (some (.str z)) x9 x10 x11 x12) :=
  (told_e rfl rfl (show x_cut_text [.str z] = some (badE k) from cut_bad h hb)).trans rfl
theorem readT_v (hb : fb 0 L = none) (ht : t = "") : readT (Ev scr s x4 x5 x6 x7 (some (.str z)) x9 x10 x11 x12) = some (.lst true [.lst true (L.map fr)], Ev scr s x4 x5 x6 x7 (some (.str z)) x9 x10 x11 x12) := by
  obtain ⟨c1, c2⟩ := read_ok h hb ht
  refine told_v rfl rfl (show x_read_frames [.str z] = none from c2) (ev_calle1 (ev_var (i := 8) (d := .str z) rfl rfl) c1) ?_
  have := frs_noal hb
  simp only [noal, this]
  rfl
theorem readT_e {k : Nat} (hb : fb 0 L = some k) : readT (Ev scr s x4 x5 x6 x7 (some (.str z)) x9 x10 x11 x12) = some (.int k, Ev scr s x4 x5 x6 x7 (some (.str z)) x9 x10 x11 x12) :=
  (told_e rfl rfl (show x_read_frames [.str z] = some (badE k) from read_bad h hb)).trans rfl
theorem readT_o (hb : fb 0 L = none) (ht : t ≠ "") : readT (Ev scr s x4 x5 x6 x7 (some (.str z)) x9 x10 x11 x12) = some (.int L.length, Ev scr s x4 x5 x6 x7 (some (.str z)) x9 x10 x11 x12) :=
  (told_e rfl rfl (show x_read_frames [.str z] = some (badE L.length) from read_open h hb ht)).trans rfl
end
def OD : List D := [.non, .int 5, .lst false [.str "tell a 0 b\n"], .tup [.str ""], .bl true, .dct false [] []]
theorem od_ev (δ : DL.Env) : mFz (mLst (mCons (mC .non) (mCons (mC (.int 5)) (mCons (mLst (mCons (mC (.str "tell a 0 b\n")) mNil)) (mCons (mTup (mCons (mC (.str "")) mNil)) (mCons (mC (.bl true)) (mCons (mC (.dct true [] [])) mNil))))))) δ = some (.lst false OD, δ) := by kernel_rfl
def isBad0 : Option Ex → Bool
  | some ⟨c, [n], [.int 0]⟩ => decide (c = "BadText") && decide (n = "line")
  | _ => false
theorem isBad0_ok {e : Option Ex} (h : isBad0 e = true) : e = some (badE 0) := by
  unfold isBad0 at h
  split at h
  · simp only [Bool.and_eq_true, decide_eq_true_eq] at h
    rw [h.1, h.2]
    rfl
  · cases h
theorem od_bad : ∀ d ∈ OD, isFz d = true ∧ x_cut_text [d] = some (badE 0) ∧ x_read_frames [d] = some (badE 0) := by
  have h : ∀ d ∈ OD, isFz d = true ∧ isBad0 (x_cut_text [d]) = true ∧ isBad0 (x_read_frames [d]) = true := by
    intro d hd
    simp only [OD, List.mem_cons, List.not_mem_nil, or_false] at hd
    rcases hd with rfl | rfl | rfl | rfl | rfl | rfl <;> refine ⟨?_, ?_, ?_⟩ <;> kernel_rfl
  exact fun d hd => ⟨(h d hd).1, isBad0_ok (h d hd).2.1, isBad0_ok (h d hd).2.2⟩
def cutO : ME := toldM mk7 (mCall m_cut_text [.e (mVar 7)] []) (xCall x_cut_text [.e (mVar 7)] [])
def readO : ME := toldM mk7 (mCall m_read_frames [.e (mVar 7)] []) (xCall x_read_frames [.e (mVar 7)] [])
section
variable {scr : D} {s : Dr} {x4 x5 x6 x8 x9 x10 x11 x12 : Option D} {d : D} (h : d ∈ OD)
include h
theorem cutO_e : cutO (Ev scr s x4 x5 x6 (some d) x8 x9 x10 x11 x12) = some (.int 0, Ev scr s x4 x5 x6 (some d) x8 x9 x10 x11 x12) := by
  obtain ⟨f, c, _⟩ := od_bad d h
  have x : xCall x_cut_text [.e (mVar 7)] [] (fzE (keepM mk7 (Ev scr s x4 x5 x6 (some d) x8 x9 x10 x11 x12))) = some (badE 0) := by
    simp only [OD, List.mem_cons, List.not_mem_nil, or_false] at h
    rcases h with rfl | rfl | rfl | rfl | rfl | rfl <;> exact c
  refine (told_e (k := 0) rfl rfl x).trans ?_
  simp only [OD, List.mem_cons, List.not_mem_nil, or_false] at h
  rcases h with rfl | rfl | rfl | rfl | rfl | rfl <;> rfl
theorem readO_e : readO (Ev scr s x4 x5 x6 (some d) x8 x9 x10 x11 x12) = some (.int 0, Ev scr s x4 x5 x6 (some d) x8 x9 x10 x11 x12) := by
  obtain ⟨f, _, c⟩ := od_bad d h
  have x : xCall x_read_frames [.e (mVar 7)] [] (fzE (keepM mk7 (Ev scr s x4 x5 x6 (some d) x8 x9 x10 x11 x12))) = some (badE 0) := by
    simp only [OD, List.mem_cons, List.not_mem_nil, or_false] at h
    rcases h with rfl | rfl | rfl | rfl | rfl | rfl <;> exact c
  refine (told_e (k := 0) rfl rfl x).trans ?_
  simp only [OD, List.mem_cons, List.not_mem_nil, or_false] at h
  rcases h with rfl | rfl | rfl | rfl | rfl | rfl <;> rfl
end
end K47
set_option Elab.async false
set_option linter.all false
set_option maxRecDepth 100000
set_option maxHeartbeats 0
set_option exponentiation.threshold 2003
namespace K47
open PySem PySem.Spec PyProof.Rows L2 DL
open J (CH wordB)
theorem stretch_iff {v l : List Nat} : Stretch v l ↔ ∃ i j, v = (l.drop i).take j := by
  constructor
  · rintro ⟨u, w, rfl⟩
    refine ⟨u.length, v.length, ?_⟩
    rw [List.append_assoc, List.drop_left, List.take_left]
  · rintro ⟨i, j, rfl⟩
    refine ⟨l.take i, (l.drop i).drop j, ?_⟩
    rw [List.append_assoc, List.take_append_drop, List.take_append_drop]
theorem stretch_app {v A B : List Nat} (h : Stretch v (A ++ B)) : ∃ v1 v2, v = v1 ++ v2 ∧ Stretch v1 A ∧ Stretch v2 B := by
  obtain ⟨i, j, rfl⟩ := stretch_iff.mp h
  rw [List.drop_append, List.take_append]
  exact ⟨_, _, rfl, stretch_iff.mpr ⟨_, _, rfl⟩, stretch_iff.mpr ⟨_, _, rfl⟩⟩
theorem stretch_sep {v A B : List Nat} {c : Nat} (h : Stretch v (A ++ c :: B)) (hc : c ∉ v) : Stretch v A ∨ Stretch v B := by
  obtain ⟨u, w, e⟩ := h
  by_cases h1 : u.length + v.length ≤ A.length
  · left
    refine stretch_iff.mpr ⟨u.length, v.length, ?_⟩
    have := congrArg (fun l => (l.drop u.length).take v.length) e
    simp only [List.append_assoc, List.drop_left, List.take_left] at this
    rw [List.drop_append_of_le_length (by omega), List.take_append_of_le_length (by simp; omega)] at this
    exact this.symm
  · by_cases h2 : A.length + 1 ≤ u.length
    · right
      refine stretch_iff.mpr ⟨u.length - (A.length + 1), v.length, ?_⟩
      have := congrArg (fun l => (l.drop u.length).take v.length) e
      simp only [List.append_assoc, List.drop_left, List.take_left] at this
      rw [show A ++ c :: B = (A ++ [c]) ++ B by simp, List.drop_append, List.drop_of_length_le (by simp; omega), List.nil_append] at this
      rw [← this]
      simp
    · exfalso
      have : (A ++ c :: B)[A.length]? = some c := by simp
      rw [e, List.append_assoc, List.getElem?_append_right (by omega), List.getElem?_append_left (by omega)] at this
      exact hc (List.mem_of_getElem? this)
theorem stretch_join {c M : Nat} : ∀ {ps : List (List Nat)}, (∀ p ∈ ps, p.length ≤ M) → ∀ {v}, Stretch v (TL.joinL [c] ps) → c ∉ v → v.length ≤ M
  | [], _, v, h, _ => by
    have := h.len
    have e : (TL.joinL [c] []).length = 0 := rfl
    omega
  | [p], hp, v, h, _ => Nat.le_trans h.len (hp p List.mem_cons_self)
  | p :: q :: r, hp, v, h, hv => by
    rw [joinL_cons] at h
    rcases stretch_sep h hv with h | h
    · exact Nat.le_trans h.len (hp p List.mem_cons_self)
    · exact stretch_join (fun x hx => hp x (List.mem_cons_of_mem _ hx)) h hv
structure TxO (M N : Nat) (z : Str) : Prop where
  ch : ∀ c ∈ TL.tl z, c = 10 ∨ c ∈ CH
  run : ∀ v, Stretch v (TL.tl z) → 10 ∉ v → v.length ≤ M
  len : z.length ≤ N
theorem nl_split (z : Str) : ∃ ps : List Str, ps ≠ [] ∧ Txt.split z "\n" = ps ∧ Txt.join "\n" ps = z ∧ ps.length ≤ z.length + 1 ∧ ∀ p ∈ ps, 10 ∉ TL.tl p ∧ Stretch (TL.tl p) (TL.tl z) := split_of nl_tl (by decide +kernel) z
theorem TxO.row {M N : Nat} {z p : Str} (h : TxO M N z) (hM : M ≤ 395) (hp : 10 ∉ TL.tl p ∧ Stretch (TL.tl p) (TL.tl z)) : RowOk p := by
  have hl := h.run _ hp.2 hp.1
  refine ⟨?_, by rw [len_tl]; omega⟩
  unfold wordB
  rw [Bool.and_eq_true, decide_eq_true_eq, List.all_eq_true]
  refine ⟨by rw [len_tl]; omega, fun c hc => ?_⟩
  rcases h.ch c (hp.2.mem hc) with e | e
  · exact absurd (show 10 ∈ TL.tl p by rw [← e]; exact hc) hp.1
  · simpa using e
/-- such a text is a page -/
theorem TxO.page {M N : Nat} {z : Str} (h : TxO M N z) (hM : M ≤ 395) (hN : N ≤ 2000) : ∃ L t, PageOk z L t := by
  obtain ⟨ps, h1, h2, h3, h4, h5⟩ := nl_split z
  have e := List.dropLast_concat_getLast h1
  refine ⟨ps.dropLast, ps.getLast h1, ⟨by rw [h2, e], fun r hr => ?_, ?_, ?_, ?_⟩⟩
  · exact h.row hM (h5 r (by rw [← e]; exact List.mem_append_left _ hr))
  · have := h.len
    rw [List.length_dropLast]
    omega
  · have := h.len
    omega
  · exact h.row hM (h5 _ (List.getLast_mem h1))
/-- a piece ahead, a sign at most, a piece behind -/
theorem TxO.splice {M N : Nat} {z y : Str} (h : TxO M N z) {i j : Nat} {x : List Nat} (hx : x.length ≤ 1) (hc : ∀ c ∈ x, c = 10 ∨ c ∈ CH) (e : TL.tl y = (TL.tl z).take i ++ (x ++ (TL.tl z).drop j)) : TxO (2 * M + 1) (2 * N + 2) y := by
  have t1 : Stretch ((TL.tl z).take i) (TL.tl z) := stretch_iff.mpr ⟨0, i, by simp⟩
  have t2 : Stretch ((TL.tl z).drop j) (TL.tl z) := stretch_iff.mpr ⟨j, (TL.tl z).length, by rw [List.take_of_length_le (by simp)]⟩
  refine ⟨fun c hc' => ?_, fun v hv hn => ?_, ?_⟩
  · rw [e] at hc'
    rcases List.mem_append.mp hc' with hc' | hc'
    · exact h.ch c (t1.mem hc')
    · rcases List.mem_append.mp hc' with hc' | hc'
      · exact hc c hc'
      · exact h.ch c (t2.mem hc')
  · rw [e] at hv
    obtain ⟨v1, v23, rfl, s1, s23⟩ := stretch_app hv
    obtain ⟨v2, v3, rfl, s2, s3⟩ := stretch_app s23
    have l1 := h.run v1 (s1.trans t1) fun m => hn (by simp [m])
    have l3 := h.run v3 (s3.trans t2) fun m => hn (by simp [m])
    have l2 := s2.len
    simp only [List.length_append]
    omega
  · have := h.len
    rw [len_tl] at this ⊢
    rw [e]
    simp only [List.length_append, List.length_take, List.length_drop]
    omega
def wide (ps : List (List Nat)) : Nat := (ps.map fun p => p.length + 1).sum
theorem wide_app (a b : List (List Nat)) : wide (a ++ b) = wide a + wide b := by simp [wide]
theorem join_wide (c : Nat) : ∀ {ps : List (List Nat)}, (TL.joinL [c] ps).length ≤ wide ps
  | [] => Nat.zero_le _
  | [p] => by simp [wide, TL.joinL]
  | p :: q :: r => by
    have := join_wide c (ps := q :: r)
    rw [joinL_cons]
    simp only [wide, List.map_cons, List.sum_cons, List.length_append, List.length_cons] at this ⊢
    omega
theorem wide_join (c : Nat) : ∀ {ps : List (List Nat)}, ps ≠ [] → wide ps = (TL.joinL [c] ps).length + 1
  | [], h => absurd rfl h
  | [p], _ => by simp [wide, TL.joinL]
  | p :: q :: r, _ => by
    have := wide_join c (ps := q :: r) (by simp)
    rw [joinL_cons]
    simp only [wide, List.map_cons, List.sum_cons, List.length_append, List.length_cons] at this ⊢
    omega
/-- rows put together anew -/
theorem TxO.rows {M N : Nat} {z : Str} (h : TxO M N z) {ps qs : List Str} (hs : Txt.split z "\n" = ps) (hq : ∀ q ∈ qs, q ∈ ps) (hw : wide (qs.map TL.tl) ≤ 2 * wide (ps.map TL.tl)) : TxO (2 * M + 1) (2 * N + 2) (Txt.join "\n" qs) := by
  obtain ⟨ps', h1, h2, h3, h4, h5⟩ := nl_split z
  rw [hs] at h2
  subst h2
  have e : TL.tl (Txt.join "\n" qs) = TL.joinL [10] (qs.map TL.tl) := by rw [tl_join, nl_tl]
  have ez : TL.joinL [10] (ps.map TL.tl) = TL.tl z := by
    rw [← nl_tl, ← tl_join, h3]
  have each : ∀ p ∈ qs.map TL.tl, 10 ∉ p ∧ Stretch p (TL.tl z) := fun p hp => by
    obtain ⟨q, hq', rfl⟩ := List.mem_map.mp hp
    exact h5 q (hq q hq')
  refine ⟨fun c hc => ?_, fun v hv hn => ?_, ?_⟩
  · rw [e] at hc
    rcases joinL_mem hc with hc | ⟨p, hp, hc⟩
    · exact .inl (by simpa using hc)
    · exact h.ch c ((each p hp).2.mem hc)
  · rw [e] at hv
    have := stretch_join (M := M) (fun p hp => h.run p (each p hp).2 (each p hp).1) hv hn
    omega
  · rw [len_tl, e]
    have a := join_wide 10 (ps := qs.map TL.tl)
    have b := wide_join 10 (ps := ps.map TL.tl) (fun x => h1 (List.map_eq_nil_iff.mp x))
    rw [ez] at b
    have := h.len
    rw [len_tl] at this
    omega
end K47
set_option Elab.async false
set_option linter.all false
set_option maxRecDepth 100000
set_option maxHeartbeats 0
namespace K47
open PySem PySem.Spec PyProof.Rows L2 DL
theorem cutS_to (z : Str) {e : Nat} (he : e ≤ z.length) : TL.tl (cutS z none (some (e : Int))) = (TL.tl z).take e := by
  unfold cutS
  rw [HT.sIx_none, HT.sIx_nat, TL.tl_mk, Nat.min_eq_left he]
  simp [TL.tl]
theorem sl_str {a : ME} {lo hi : MO} {δ δ1 δ2 δ3 : DL.Env} {z : Str} {l h : Option Int} (h1 : a δ = some (.str z, δ1)) (h2 : lo δ1 = some (l, δ2)) (h3 : hi δ2 = some (h, δ3)) (hz : z.length ≤ sizeLine) : mSl a lo hi δ = some (.str (cutS z l h), δ3) := by
  have : dSl (.str z) l h = some (.str (cutS z l h)) := by
    unfold dSl
    exact if_pos hz
  unfold mSl
  simp only [h1, h2, h3, this]
end K47
set_option Elab.async false
set_option linter.all false
set_option maxRecDepth 100000
set_option maxHeartbeats 0
namespace K47
open PySem PySem.Spec PyProof.Rows L2 DL
theorem any_scr {nums : List Int} {r : DL.Env} : iAny (mVar 0) (some (.scr (nums.map D.int)) :: r) = some (nums.map D.int, some (.scr (nums.map D.int)) :: r) := by
  have hv : mVar 0 (some (.scr (nums.map D.int)) :: r) = some (.scr (nums.map D.int), some (.scr (nums.map D.int)) :: r) := ev_var rfl (isFzs_ints nums)
  have e : DL.iLst (mVar 0) (some (.scr (nums.map D.int)) :: r) = some (nums.map D.int, some (.scr (nums.map D.int)) :: r) := by
    unfold DL.iLst
    rw [hv]
    simp only [itemsD, fzs_ints]
  unfold iAny
  rw [e]
theorem abs_ev {i : Int} {a b : Option D} : (mCallB dAbs (mCons (mVar 2) mNil)) [a, b, some (.int i)] = some (.int (if i < 0 then -i else i), [a, b, some (.int i)]) := ev_call1 (g := dAbs) (ev_int rfl) rfl
theorem ten18 (δ : DL.Env) : (mBin dPow (mC (.int 10)) (mC (.int 18))) δ = some (.int 1000000000000000000, δ) := by kernel_rfl
theorem begun_ok {nums : List Int} (hn : nums.length ≤ 63) : ∃ s : Dr, s.Ok 0 ∧ m__law_begun [.scr (nums.map D.int)] = some (s.d, [.scr (nums.map D.int)]) := by
  have hz : (nums.map D.int).length ≤ sizeLine := by rw [List.length_map]; exact Nat.le_trans hn (by decide)
  obtain ⟨δ1, acc1, el1, ⟨rs, hrs, hrl⟩, L, hL, rfl, hLl, rfl⟩ := loopC_ind (own := [2]) (t := tName 2) (c := toT (mBin dGe (mCallB dAbs (mCons (mVar 2) mNil)) (mBin dPow (mC (.int 10)) (mC (.int 18))))) (m := mBin dSub (mCallB dAbs (mCons (mVar 2) mNil)) (mBin dPow (mC (.int 10)) (mC (.int 18))))
    (J := fun r δ acc => (∃ rs : List Int, r = rs.map D.int ∧ rs.length ≤ 63) ∧ ∃ L : List Int, (∀ x ∈ L, 0 ≤ x) ∧ acc = L.map D.int ∧ L.length + r.length ≤ 63 ∧ δ = [some (.scr (nums.map D.int)), none, none])
    (fun d r δ acc hJ => by
      obtain ⟨⟨rs, hrs, hrl⟩, L, hL, rfl, hLl, rfl⟩ := hJ
      match rs, hrs with
      | i :: rs, hrs =>
        cases hrs
        simp only [List.length_cons] at hrl hLl
        have c := ev_toT (ev_bin (g := dGe) (abs_ev (i := i) (a := some (.scr (nums.map D.int))) (b := none)) (ten18 _) rfl)
        by_cases hc : (1000000000000000000 : Int) ≤ (if i < 0 then -i else i)
        · rw [decide_eq_true hc] at c
          refine ⟨_, _, rfl, .inr ⟨c, _, _, ev_bin (g := dSub) abs_ev (ten18 _) rfl, ⟨rs, rfl, by omega⟩, L ++ [(if i < 0 then -i else i) - 1000000000000000000], fun x hx => ?_, by simp, by simp at hLl ⊢; omega, rfl⟩⟩
          (rcases List.mem_append.mp hx with hx | hx)
          · exact hL x hx
          · rw [List.mem_singleton.mp hx]; omega
        · rw [decide_eq_false hc] at c
          exact ⟨_, _, rfl, .inl ⟨c, ⟨rs, rfl, by omega⟩, L, hL, rfl, by omega, rfl⟩⟩) (nums.map D.int) [some (.scr (nums.map D.int)), none, none] [] ⟨⟨nums, rfl, hn⟩, [], by simp, rfl, by simpa using hn, rfl⟩
  obtain ⟨δ2, acc2, el2, _, C, hC, rfl, hCl, rfl⟩ := loopC_ind (own := [2]) (t := tName 2) (c := tTrue) (m := mCallB dAbs (mCons (mVar 2) mNil))
    (J := fun r δ acc => (∃ rs : List Int, r = rs.map D.int ∧ rs.length ≤ 63) ∧ ∃ L : List Int, (∀ x ∈ L, 0 ≤ x) ∧ acc = L.map D.int ∧ L.length + r.length ≤ 63 ∧ δ = [some (.scr (nums.map D.int)), none, none])
    (fun d r δ acc hJ => by
      obtain ⟨⟨rs, hrs, hrl⟩, L, hL, rfl, hLl, rfl⟩ := hJ
      match rs, hrs with
      | i :: rs, hrs =>
        cases hrs
        simp only [List.length_cons] at hrl hLl
        refine ⟨_, _, rfl, .inr ⟨rfl, _, _, abs_ev, ⟨rs, rfl, by omega⟩, L ++ [if i < 0 then -i else i], fun x hx => ?_, by simp, by simp at hLl ⊢; omega, rfl⟩⟩
        (rcases List.mem_append.mp hx with hx | hx)
        · exact hL x hx
        · rw [List.mem_singleton.mp hx]; split <;> omega) (nums.map D.int) [some (.scr (nums.map D.int)), none, none] [] ⟨⟨nums, rfl, hn⟩, [], by simp, rfl, by simpa using hn, rfl⟩
  have lc1 := ev_lc (ev_altI (b := keysAt 0 pVar) (any_scr (nums := nums) (r := [none, none]))) hz el1
  have lc2 := ev_lc (ev_altI (b := keysAt 0 pVar) (any_scr (nums := nums) (r := [none, none]))) hz el2
  refine ⟨⟨L, true, C, 0, 0⟩, ⟨hL, hC, Int.le_refl 0, Int.le_refl 0, Int.le_refl 0, by simp at hLl; show L.length ≤ 1000; omega, by simp at hCl; show C.length ≤ 1000; omega⟩, ?_⟩
  refine fin_rt (np := 1) (N := 3) (δ := [none, none]) rfl (by decide) ?_
  refine (ev_seq (ev_set (i := 1) lc1 (by simp))).trans (ev_ret ?_)
  have lc2' : (mLc (iAlt (iAny (mVar 0)) (keysAt 0 pVar)) [2] (tName 2) tTrue (mCallB dAbs (mCons (mVar 2) mNil))) [some (.scr (nums.map D.int)), none, none] = some (.lst true (C.map D.int), [some (.scr (nums.map D.int)), none, none]) := lc2
  have pr : mPairs [((mC (.str "large")), (mMv 1)), ((mC (.str "cells")), (mLc (iAlt (iAny (mVar 0)) (keysAt 0 pVar)) [2] (tName 2) tTrue (mCallB dAbs (mCons (mVar 2) mNil)))), ((mC (.str "rest")), (mC (.int 0))), ((mC (.str "turn")), (mC (.int 0)))] [some (.scr (nums.map D.int)), some (.lst true (L.map D.int)), none] = some ([(.inr "large", .lst true (L.map D.int)), (.inr "cells", .lst true (C.map D.int)), (.inr "rest", .int 0), (.inr "turn", .int 0)], [some (.scr (nums.map D.int)), none, none]) := by
    have m1 : mMv 1 [some (.scr (nums.map D.int)), some (.lst true (L.map D.int)), none] = some (.lst true (L.map D.int), [some (.scr (nums.map D.int)), none, none]) := rfl
    simp only [mPairs, mC, keyD, m1, lc2']
  show mDisp _ [some (.scr (nums.map D.int)), some (.lst true (L.map D.int)), none] = _
  unfold mDisp
  rw [pr]
  exact if_pos (show Dr.ks.Nodup ∧ 4 ≤ 15 from ⟨by decide +kernel, by decide⟩)
end K47
set_option Elab.async false
set_option linter.all false
set_option maxRecDepth 100000
set_option maxHeartbeats 0
set_option exponentiation.threshold 2003
namespace K47
open PySem PySem.Spec PyProof.Rows L2 DL
open J (CH wordB)
theorem cutS_from (z : Str) (n : Nat) : TL.tl (cutS z (some (n : Int)) none) = (TL.tl z).drop n := by
  unfold cutS
  rw [HT.sIx_nat, HT.sIx_none, TL.tl_mk]
  have hl := len_tl z
  rcases Nat.le_total n z.length with h | h
  · rw [Nat.min_eq_left h]
    exact List.take_of_length_le (by rw [List.length_drop]; show (TL.tl z).length - n ≤ z.length - n; omega)
  · rw [Nat.min_eq_right h, Nat.sub_self, List.take_zero, List.drop_of_length_le (by omega)]
def K1 : List Str := [" ", "0", "1", "a", ",", "\n", "-", "A"]
def K2 : List Str := [" ", "0", "9", "z", ",", "\n"]
theorem k1_ev (δ : DL.Env) : mFz (mLst (mCons (mC (.str " ")) (mCons (mC (.str "0")) (mCons (mC (.str "1")) (mCons (mC (.str "a")) (mCons (mC (.str ",")) (mCons (mC (.str "\n")) (mCons (mC (.str "-")) (mCons (mC (.str "A")) mNil))))))))) δ = some (.lst false (K1.map D.str), δ) := by kernel_rfl
theorem k2_ev (δ : DL.Env) : mFz (mLst (mCons (mC (.str " ")) (mCons (mC (.str "0")) (mCons (mC (.str "9")) (mCons (mC (.str "z")) (mCons (mC (.str ",")) (mCons (mC (.str "\n")) mNil))))))) δ = some (.lst false (K2.map D.str), δ) := by kernel_rfl
theorem k_one : ∀ k ∈ K1 ++ K2, (TL.tl k).length ≤ 1 ∧ ∀ c ∈ TL.tl k, c = 10 ∨ c ∈ CH := by decide +kernel
section
variable {M N : Nat} {z : Str} (h : TxO M N z) (hN : N ≤ 1000)
include h hN
theorem z_line : z.length ≤ sizeLine := Nat.le_trans (Nat.le_trans h.len hN) (by decide)
theorem to_ev {a : ME} {δ δ1 : DL.Env} {n : Nat} (hz : mVar 1 δ = some (.str z, δ)) (ha : a δ = some (.int n, δ1)) : mSl (mVar 1) oNone (oSome a) δ = some (.str (cutS z none (some (n : Int))), δ1) := sl_str (lo := oNone) hz rfl (ev_some ha) (z_line h hN)
theorem from_ev {a : ME} {δ δ1 : DL.Env} {n : Nat} (hz : mVar 1 δ = some (.str z, δ)) (ha : a δ = some (.int n, δ1)) : mSl (mVar 1) (oSome a) oNone δ = some (.str (cutS z (some (n : Int)) none), δ1) := sl_str (hi := oNone) hz (ev_some ha) rfl (z_line h hN)
theorem len_cut {lo hi : Option Int} : (cutS z lo hi).length ≤ 1000 := by
  have := Nat.le_trans h.len hN
  rw [len_tl]
  unfold cutS
  rw [TL.tl_mk]
  have hl := len_tl z
  have : ((z.cps.toList.drop (HT.sIx z.length 0 lo)).take (HT.sIx z.length z.length hi - HT.sIx z.length 0 lo)).length ≤ (TL.tl z).length := by
    rw [List.length_take, List.length_drop]
    show min _ ((TL.tl z).length - _) ≤ _
    omega
  omega
theorem broken_ok {s : Dr} {b : Nat} (hs : s.Ok b) (hb : b + 10 < 2 ^ 40) : ∃ y, TxO (2 * M + 1) (2 * N + 2) y ∧ ∃ s' : Dr, s'.Ok (b + 10) ∧ m__law_broken_page [s.d, .str z] = some (.str y, [s'.d, .str z]) := by
  have zl := Nat.le_trans h.len hN
  obtain ⟨ps, pn, hsp, hj, pl, pw⟩ := nl_split z
  obtain ⟨a, a0, a1, s1, h1, e1⟩ := take_ok (n := (z.length : Int) + 1) hs (by omega) (by omega) (by omega)
  obtain ⟨v, v0, v1, s2, h2, e2⟩ := take_ok (n := 6) h1 (by omega) (by decide) (by decide)
  have pp : 0 < ps.length := List.length_pos_iff.mpr pn
  obtain ⟨p, p0, p1, s3, h3, e3⟩ := take_ok (n := (ps.length : Int)) h2 (by omega) (by omega) (by omega)
  obtain ⟨n, rfl⟩ := Int.eq_ofNat_of_zero_le a0
  obtain ⟨k, rfl⟩ := Int.eq_ofNat_of_zero_le p0
  have hn : n ≤ z.length := by omega
  have hk : k < ps.length := by omega
  let E : Dr → DL.Env := fun s => [some s.d, some (.str z), some (.int n), some (.int v), some (.lst false (ps.map D.str)), some (.int k)]
  have q1 : sPar [2, 3, 4] (mCons (mCall m__law_take [.v 0, .e (mFz (mBin dAdd (mCallB dLen (mCons (mVar 1) mNil)) (mC (.int 1))))] []) (mCons (mCall m__law_take [.v 0, .e (mC (.int 6))] []) (mCons (mMethV "str" gSplit (mVar 1) (mCons (mC (.str "\n")) mNil)) mNil))) [some s.d, some (.str z), none, none, none, none] = some (.nx [some s2.d, some (.str z), some (.int n), some (.int v), some (.lst true (ps.map D.str)), none]) := by
    refine ev_par3 (i := 2) (j := 3) (k := 4) (ev_cons (ev_callv0e (d := s.d) (d1 := s.d) (x := .int ((z.length : Int) + 1)) (ev_fz (d := .int ((z.length : Int) + 1)) (ev_bin (g := dAdd) (ev_call1 (g := dLen) (ev_var (i := 1) (d := .str z) rfl rfl) (d := .int z.length) (if_pos (z_line h hN))) (b := mC (.int 1)) rfl rfl)) rfl e1) (ev_cons (ev_callv0e (d := s1.d) (d1 := s1.d) (a := mC (.int 6)) rfl rfl e2) (ev_cons (ev_methV (ev_var (i := 1) (d := .str z) rfl rfl) (tyD_str _) (ev_cons (a := mC (.str "\n")) rfl (r := mNil) rfl) (gSplit_ok hsp (by decide +kernel) (Nat.le_trans (show _ ≤ 1002 by omega) (by decide)))) (r := mNil) rfl))) (by simp) (by simp) (by simp)
  have vf : mVar 4 [some s2.d, some (.str z), some (.int n), some (.int v), some (.lst true (ps.map D.str)), none] = some (.lst false (ps.map D.str), [some s2.d, some (.str z), some (.int n), some (.int v), some (.lst false (ps.map D.str)), none]) := by
    have := ev_varf (i := 4) (δ := [some s2.d, some (.str z), some (.int n), some (.int v), some (.lst true (ps.map D.str)), none]) rfl
    rw [show fz (.lst true (ps.map D.str)) = .lst false (ps.map D.str) by simp only [fz, fzs_strs]] at this
    exact this
  have q2 : sSet 5 (mCall m__law_take [.v 0, .e (mCallB dLen (mCons (mVar 4) mNil))] []) [some s2.d, some (.str z), some (.int n), some (.int v), some (.lst true (ps.map D.str)), none] = some (.nx (E s3)) :=
    ev_set (i := 5) (ev_callv0e (d := s2.d) (d1 := s2.d) (ev_call1 (g := dLen) vf (d := .int ps.length) (by simp [dLen])) rfl e3) (by simp)
  have z1 : ∀ s, mVar 1 (E s) = some (.str z, E s) := fun s => ev_var (i := 1) rfl rfl
  have vn : ∀ s, mVar 2 (E s) = some (.int n, E s) := fun s => ev_int (i := 2) rfl
  have vn1 : ∀ s, mBin dAdd (mVar 2) (mC (.int 1)) (E s) = some (.int ((n + 1 : Nat) : Int), E s) := fun s => ev_bin (g := dAdd) (vn s) (b := mC (.int 1)) rfl rfl
  have vk : ∀ s, mVar 5 (E s) = some (.int k, E s) := fun s => ev_int (i := 5) rfl
  have vk1 : ∀ s, mBin dAdd (mVar 5) (mC (.int 1)) (E s) = some (.int ((k + 1 : Nat) : Int), E s) := fun s => ev_bin (g := dAdd) (vk s) (b := mC (.int 1)) rfl rfl
  have vl : ∀ s, mVar 4 (E s) = some (.lst false (ps.map D.str), E s) := fun s => ev_var (i := 4) rfl (isFz_strs _)
  have cond : ∀ (j : Int), toT (mBin dEq (mVar 3) (mC (.int j))) (E s3) = some (decide (v = j), E s3) := fun j => ev_toT (ev_bin (g := dEq) (ev_int (i := 3) rfl) (b := mC (.int j)) rfl rfl)
  have fin : ∀ {y : Str} {s' : Dr} {b : MS}, TxO (2 * M + 1) (2 * N + 2) y → b (E s3) = some (.rt (.str y) (E s')) → (sCons (sPar [2, 3, 4] (mCons (mCall m__law_take [.v 0, .e (mFz (mBin dAdd (mCallB dLen (mCons (mVar 1) mNil)) (mC (.int 1))))] []) (mCons (mCall m__law_take [.v 0, .e (mC (.int 6))] []) (mCons (mMethV "str" gSplit (mVar 1) (mCons (mC (.str "\n")) mNil)) mNil))))
    (sCons (sSet 5 (mCall m__law_take [.v 0, .e (mCallB dLen (mCons (mVar 4) mNil))] [])) b)) [some s.d, some (.str z), none, none, none, none] = some (.rt (.str y) (E s')) := fun _ hb => (ev_seq q1).trans ((ev_seq q2).trans hb)
  have done : ∀ {y : Str} {s' : Dr}, TxO (2 * M + 1) (2 * N + 2) y → s'.Ok (b + 10) → b__law_broken_page [some s.d, some (.str z), none, none, none, none] = some (.rt (.str y) (E s')) → ∃ y, TxO (2 * M + 1) (2 * N + 2) y ∧ ∃ s' : Dr, s'.Ok (b + 10) ∧ m__law_broken_page [s.d, .str z] = some (.str y, [s'.d, .str z]) := fun {y s'} hy hs' e => by
    refine ⟨y, hy, s', hs', ?_⟩
    show (if ([s.d, .str z] : List D).length = 2 then match b__law_broken_page [some s.d, some (.str z), none, none, none, none] with | some (.rt r δ) => (match backs P__law_broken_page 0 [s.d, .str z] δ with | some bs => some (r, bs) | none => none) | some (.nx δ) => (match backs P__law_broken_page 0 [s.d, .str z] δ with | some bs => some (D.non, bs) | none => none) | _ => none else none) = _
    rw [e]
    rfl
  have app : ∀ {x y : Str}, x.length ≤ 2002 → y.length ≤ 1000 → dAdd (.str x) (.str y) = some (.str (x ++ y)) := fun hx hy => add_str (Nat.le_trans (show _ ≤ 3002 by omega) (by decide))
  by_cases w0 : v = 0
  · have y : TxO (2 * M + 1) (2 * N + 2) (cutS z none (some (n : Int)) ++ cutS z (some ((n + 1 : Nat) : Int)) none) := h.splice (x := []) (i := n) (j := n + 1) (by simp) (by simp) (by rw [TL.tl_append, cutS_to z hn, cutS_from]; simp)
    refine done y (h3.mono (by omega)) (fin y (ev_stop ((ev_if1 ((cond 0).trans (by rw [decide_eq_true w0]))).trans (ev_ret (ev_bin (g := dAdd) (to_ev h hN (z1 s3) (vn s3)) (from_ev h hN (z1 s3) (vn1 s3)) (app (Nat.le_trans (len_cut h hN) (by decide)) (len_cut h hN)))))))
  · have n0 : ∀ {a b : MS}, sCons (sIf (toT (mBin dEq (mVar 3) (mC (.int 0)))) a sNil) b (E s3) = b (E s3) := skip ((cond 0).trans (by rw [decide_eq_false w0]))
    have lenT : (cutS z none (some (n : Int))).length ≤ 1000 := len_cut h hN
    have one : ∀ {x : Str}, x ∈ K1 ++ K2 → (cutS z none (some (n : Int)) ++ x).length ≤ 2002 := fun {x} hx => by
      have := (k_one x hx).1
      rw [← len_tl] at this
      rw [strLen_append]
      omega
    by_cases w1 : v = 1
    · obtain ⟨x, hx, s4, h4, x', e4⟩ := pick_strs (L := K1) h3 (by omega) (by decide) (by decide)
      have hx' : x ∈ K1 ++ K2 := List.mem_append_left _ hx
      have y : TxO (2 * M + 1) (2 * N + 2) (cutS z none (some (n : Int)) ++ x ++ cutS z (some (n : Int)) none) := h.splice (x := TL.tl x) (i := n) (j := n) (k_one x hx').1 (k_one x hx').2 (by rw [TL.tl_append, TL.tl_append, cutS_to z hn, cutS_from]; simp)
      have pk : mCall m__law_pick [.v 0, .e (mFz (mLst (mCons (mC (.str " ")) (mCons (mC (.str "0")) (mCons (mC (.str "1")) (mCons (mC (.str "a")) (mCons (mC (.str ",")) (mCons (mC (.str "\n")) (mCons (mC (.str "-")) (mCons (mC (.str "A")) mNil))))))))))] [] (E s3) = some (.str x, E s4) := ev_callv0e (d := s3.d) (d1 := s3.d) (k1_ev _) rfl e4
      refine done y (h4.mono (by omega)) (fin y (n0.trans (ev_stop ((ev_if1 ((cond 1).trans (by rw [decide_eq_true w1]))).trans (ev_ret (ev_bin (g := dAdd) (ev_bin (g := dAdd) (to_ev h hN (z1 s3) (vn s3)) pk (add_str ?_)) (from_ev h hN (z1 s4) (vn s4)) (app (one hx') (len_cut h hN))))))))
      have := one hx'
      rw [strLen_append] at this
      exact Nat.le_trans this (by decide)
    · have n1 : ∀ {a b : MS}, sCons (sIf (toT (mBin dEq (mVar 3) (mC (.int 1)))) a sNil) b (E s3) = b (E s3) := skip ((cond 1).trans (by rw [decide_eq_false w1]))
      by_cases w2 : v = 2
      · obtain ⟨x, hx, s4, h4, x', e4⟩ := pick_strs (L := K2) h3 (by omega) (by decide) (by decide)
        have hx' : x ∈ K1 ++ K2 := List.mem_append_right _ hx
        have y : TxO (2 * M + 1) (2 * N + 2) (cutS z none (some (n : Int)) ++ x ++ cutS z (some ((n + 1 : Nat) : Int)) none) := h.splice (x := TL.tl x) (i := n) (j := n + 1) (k_one x hx').1 (k_one x hx').2 (by rw [TL.tl_append, TL.tl_append, cutS_to z hn, cutS_from]; simp)
        have pk : mCall m__law_pick [.v 0, .e (mFz (mLst (mCons (mC (.str " ")) (mCons (mC (.str "0")) (mCons (mC (.str "9")) (mCons (mC (.str "z")) (mCons (mC (.str ",")) (mCons (mC (.str "\n")) mNil))))))))] [] (E s3) = some (.str x, E s4) := ev_callv0e (d := s3.d) (d1 := s3.d) (k2_ev _) rfl e4
        refine done y (h4.mono (by omega)) (fin y (n0.trans (n1.trans (ev_stop ((ev_if1 ((cond 2).trans (by rw [decide_eq_true w2]))).trans (ev_ret (ev_bin (g := dAdd) (ev_bin (g := dAdd) (to_ev h hN (z1 s3) (vn s3)) pk (add_str ?_)) (from_ev h hN (z1 s4) (vn1 s4)) (app (one hx') (len_cut h hN)))))))))
        have := one hx'
        rw [strLen_append] at this
        exact Nat.le_trans this (by decide)
      · have n2 : ∀ {a b : MS}, sCons (sIf (toT (mBin dEq (mVar 3) (mC (.int 2)))) a sNil) b (E s3) = b (E s3) := skip ((cond 2).trans (by rw [decide_eq_false w2]))
        have lt : mSl (mVar 4) oNone (oSome (mVar 5)) (E s3) = some (.lst true ((ps.take k).map D.str), E s3) := by
          have := ev_slL (lo := oNone) (vl s3) rfl (ev_some (vk s3))
          rwa [cut_to, ← List.map_take] at this
        have lf : mSl (mVar 4) (oSome (mBin dAdd (mVar 5) (mC (.int 1)))) oNone (E s3) = some (.lst true ((ps.drop (k + 1)).map D.str), E s3) := by
          have := ev_slL (hi := oNone) (vl s3) (ev_some (vk1 s3)) rfl
          rwa [cut_from, ← List.map_drop] at this
        have lm : mSl (mVar 4) (oSome (mVar 5)) (oSome (mBin dAdd (mVar 5) (mC (.int 1)))) (E s3) = some (.lst true (((ps.drop k).take 1).map D.str), E s3) := by
          have := ev_slL (vl s3) (ev_some (vk s3)) (ev_some (vk1 s3))
          rwa [cut_mid _ (by simp; omega) (by omega), show k + 1 - k = 1 by omega, ← List.map_drop, ← List.map_take] at this
        have each : ∀ q ∈ ps, q.length ≤ 1000 := fun q hq => by
          have := (pw q hq).2.len
          rw [← len_tl, ← len_tl] at this
          omega
        have join : ∀ {qs : List Str}, (∀ q ∈ qs, q ∈ ps) → qs.length ≤ 4004 → gJoin (.str "\n") [.lst true (qs.map D.str)] = some (.str (Txt.join "\n" qs)) := fun {qs} hq hl => join_ok (n := 1000) (fun y hy => each y (hq y hy)) (by
          have : (Str.ofString "\n").length = 1 := by decide +kernel
          rw [this]; omega)
        have cat : ∀ {a b : List Str}, a.length + b.length ≤ 4004 → dAdd (.lst true (a.map D.str)) (.lst true (b.map D.str)) = some (.lst true ((a ++ b).map D.str)) := fun {a b} hl => by
          rw [List.map_append]
          exact if_pos (by rw [List.length_map, List.length_map]; exact Nat.le_trans hl (by decide))
        have wk : wide (ps.map TL.tl) = wide ((ps.take k).map TL.tl) + (wide (((ps.drop k).take 1).map TL.tl) + wide ((ps.drop (k + 1)).map TL.tl)) := by
          rw [← wide_app, ← wide_app, ← List.map_append, ← List.map_append]
          congr 2
          rw [show ps.drop (k + 1) = (ps.drop k).drop 1 by rw [List.drop_drop], List.take_append_drop, List.take_append_drop]
        by_cases w3 : v = 3
        · have y : TxO (2 * M + 1) (2 * N + 2) (Txt.join "\n" (ps.take k ++ ps.drop (k + 1))) := h.rows hsp (fun q hq => by
            rcases List.mem_append.mp hq with hq | hq
            · exact List.mem_of_mem_take hq
            · exact List.mem_of_mem_drop hq) (by rw [List.map_append, wide_app]; omega)
          refine done y (h3.mono (by omega)) (fin y (n0.trans (n1.trans (n2.trans (ev_stop ((ev_if1 ((cond 3).trans (by rw [decide_eq_true w3]))).trans (ev_ret (ev_methV (a := mC (.str "\n")) rfl (tyD_str _) (ev_cons (ev_bin (g := dAdd) lt lf (cat (by simp; omega))) (r := mNil) rfl) (join (fun q hq => ?_) (by simp; omega))))))))))
          rcases List.mem_append.mp hq with hq | hq
          · exact List.mem_of_mem_take hq
          · exact List.mem_of_mem_drop hq
        · have n3 : ∀ {a b : MS}, sCons (sIf (toT (mBin dEq (mVar 3) (mC (.int 3)))) a sNil) b (E s3) = b (E s3) := skip ((cond 3).trans (by rw [decide_eq_false w3]))
          by_cases w4 : v = 4
          · have inps : ∀ q ∈ ps.take k ++ ((ps.drop k).take 1 ++ (ps.drop k).take 1) ++ ps.drop (k + 1), q ∈ ps := fun q hq => by
              rcases List.mem_append.mp hq with hq | hq
              · rcases List.mem_append.mp hq with hq | hq
                · exact List.mem_of_mem_take hq
                · rcases List.mem_append.mp hq with hq | hq <;> exact List.mem_of_mem_drop (List.mem_of_mem_take hq)
              · exact List.mem_of_mem_drop hq
            have y : TxO (2 * M + 1) (2 * N + 2) (Txt.join "\n" (ps.take k ++ ((ps.drop k).take 1 ++ (ps.drop k).take 1) ++ ps.drop (k + 1))) := h.rows hsp inps (by
              rw [List.map_append, List.map_append, List.map_append, wide_app, wide_app, wide_app]; omega)
            have two : dMul (.lst true (((ps.drop k).take 1).map D.str)) (.int 2) = some (.lst true (((ps.drop k).take 1 ++ (ps.drop k).take 1).map D.str)) := by
              have : (((ps.drop k).take 1).map D.str).length ≤ 1 := by simp; omega
              have cond : -2 ^ 63 ≤ (2 : Int) ∧ (2 : Int) < 2 ^ 63 ∧ (((ps.drop k).take 1).map D.str).length * (2 : Int).toNat ≤ sizeLine := ⟨by decide, by decide, Nat.le_trans (Nat.mul_le_mul_right _ this) (by decide)⟩
              refine (show dMul (.lst true (((ps.drop k).take 1).map D.str)) (.int 2) = some (.lst true (List.replicate (2 : Int).toNat (fzs (((ps.drop k).take 1).map D.str))).flatten) from if_pos cond).trans ?_
              rw [fzs_strs, List.map_append]
              show some (D.lst true (List.replicate 2 (((ps.drop k).take 1).map D.str)).flatten) = _
              simp
            refine done y (h3.mono (by omega)) (fin y (n0.trans (n1.trans (n2.trans (n3.trans (ev_stop ((ev_if1 ((cond 4).trans (by rw [decide_eq_true w4]))).trans (ev_ret (ev_methV (a := mC (.str "\n")) rfl (tyD_str _) (ev_cons (ev_bin (g := dAdd) (ev_bin (g := dAdd) lt (ev_bin (g := dMul) lm (b := mC (.int 2)) rfl two) (cat (by simp; omega))) lf (cat (by simp; omega))) (r := mNil) rfl) (join inps (by simp; omega)))))))))))
          · have n4 : ∀ {a b : MS}, sCons (sIf (toT (mBin dEq (mVar 3) (mC (.int 4)))) a sNil) b (E s3) = b (E s3) := skip ((cond 4).trans (by rw [decide_eq_false w4]))
            have y : TxO (2 * M + 1) (2 * N + 2) (cutS z none (some (n : Int))) := h.splice (x := []) (i := n) (j := z.length) (by simp) (by simp) (by rw [cutS_to z hn, List.drop_of_length_le (by rw [← len_tl]; exact Nat.le_refl _)]; simp)
            exact done y (h3.mono (by omega)) (fin y (n0.trans (n1.trans (n2.trans (n3.trans (n4.trans (ev_ret (to_ev h hN (z1 s3) (vn s3)))))))))
end
end K47
set_option Elab.async false
set_option linter.all false
set_option maxRecDepth 100000
set_option maxHeartbeats 0
set_option exponentiation.threshold 2003
namespace K47
open PySem PySem.Spec PyProof.Rows L2 DL
open J (CH wordB)
theorem letter_ch {c : Nat} (h : 97 ≤ c ∧ c ≤ 122) : c ∈ CH := (show ∀ c ∈ List.range' 97 26, c ∈ CH by decide) c (by simp; omega)
theorem digit_ch {c : Nat} (h : 48 ≤ c ∧ c ≤ 57) : c ∈ CH := (show ∀ c ∈ List.range' 48 10, c ∈ CH by decide) c (by simp; omega)
def Chs (p : Str) : Prop := ∀ c ∈ TL.tl p, c ∈ CH
theorem lab_ch {z : Str} (h : Lab z) : Chs z := fun c hc => letter_ch (h.c c hc)
theorem num_ch {k : Int} (h : k ∈ NUMS) : Chs (num k) := fun c hc => by
  have := List.all_eq_true.mp (num_facts k h).2.2 c hc
  simp only [Bool.and_eq_true, decide_eq_true_eq] at this
  exact digit_ch this
theorem lit_ch {s : Str} (h : ((TL.tl s).all fun c => decide (c ∈ CH)) = true) : Chs s := fun c hc => by simpa using List.all_eq_true.mp h c hc
theorem join_ch {y : Str} {ps : List Str} (hy : Chs y) (h : ∀ p ∈ ps, Chs p) : Chs (Txt.join y ps) := fun c hc => by
  rw [tl_join] at hc
  rcases joinL_mem hc with hc | ⟨p, hp, hc⟩
  · exact hy c hc
  · obtain ⟨q, hq, rfl⟩ := List.mem_map.mp hp
    exact h q hq c hc
theorem line_ch {g : F} (h : g.ok) : Chs (line g) := by
  refine join_ch (lit_ch (by decide +kernel)) fun p hp => ?_
  cases g with
  | tell z k ws =>
    obtain ⟨hz, hk, h1, h3, hw⟩ := h
    simp only [parts, its, List.map_cons, List.map_nil, List.mem_cons, List.not_mem_nil, or_false] at hp
    rcases hp with rfl | rfl | rfl | rfl
    · exact lit_ch (by decide +kernel)
    · exact lab_ch hz
    · exact num_ch hk
    · exact join_ch (lit_ch (by decide +kernel)) fun w hw' => lab_ch (hw w hw')
  | ask z a b c d =>
    obtain ⟨hz, ⟨ha, _⟩, ⟨hb, _⟩, ⟨hc, _⟩, hd⟩ := h
    simp only [parts, its, List.map_cons, List.map_nil, List.mem_cons, List.not_mem_nil, or_false] at hp
    rcases hp with rfl | rfl | rfl | rfl | rfl | rfl
    · exact lit_ch (by decide +kernel)
    · exact lab_ch hz
    · exact num_ch ha
    · exact num_ch hb
    · exact num_ch hc
    · exact num_ch hd
  | told z a b w =>
    obtain ⟨hz, ⟨ha, _⟩, ⟨hb, _⟩, hw⟩ := h
    simp only [parts, its, List.map_cons, List.map_nil, List.mem_cons, List.not_mem_nil, or_false] at hp
    rcases hp with rfl | rfl | rfl | rfl | rfl
    · exact lit_ch (by decide +kernel)
    · exact lab_ch hz
    · exact num_ch ha
    · exact num_ch hb
    · rcases hw with rfl | rfl <;> exact lit_ch (by decide +kernel)
theorem n12 {a : Int} (h0 : 0 ≤ a) (h1 : a ≤ 12) : (TL.tl (num a)).length ≤ 2 := by
  have : ∀ n : Fin 13, (TL.tl (num (n.val : Int))).length ≤ 2 := by decide +kernel
  have := this ⟨a.toNat, by omega⟩
  rwa [show ((a.toNat : Nat) : Int) = a by omega] at this
theorem nk1 : ∀ k ∈ ks1, (TL.tl (num k)).length ≤ 15 := by decide +kernel
theorem nk2 : ∀ k ∈ ks2, (TL.tl (num k)).length ≤ 3 := by decide +kernel
theorem fr_small {f : D} (h : Fr f) : ∃ g : F, g.ok ∧ f = g.d ∧ (TL.tl (line g)).length ≤ 48 := by
  have t4 : (TL.tl (Str.ofString "tell")).length = 4 := by decide +kernel
  have t3 : (TL.tl (Str.ofString "ask")).length = 3 := by decide +kernel
  have t5 : (TL.tl (Str.ofString "told")).length = 4 := by decide +kernel
  cases h with
  | @tell z k ws hz hk h1 h3 hw =>
    refine ⟨.tell z k ws, ⟨hz, (show ∀ k ∈ ks1, k ∈ NUMS by decide) k hk, h1, h3, hw⟩, rfl, ?_⟩
    have a := hz.b
    have b := nk1 k hk
    have c := (cl_join hw h3).2
    rw [len_tl] at a c
    unfold line
    rw [tl_join, sp_tl]
    show (TL.joinL [32] [TL.tl (Str.ofString "tell"), TL.tl z, TL.tl (num k), TL.tl (Txt.join "," ws)]).length ≤ 48
    simp only [TL.joinL, List.length_append, List.length_cons, List.length_nil, t4]
    omega
  | @ask z a b c d hz a1 a2 b1 b2 c1 c2 hd =>
    refine ⟨.ask z a b c d, ⟨hz, ⟨nums_range a (by omega) a2, a1⟩, ⟨nums_range b (by omega) b2, b1⟩, ⟨nums_range c c1 (by omega), c2⟩, (show ∀ k ∈ ks2, k ∈ NUMS by decide) d hd⟩, rfl, ?_⟩
    have e0 := hz.b
    have e1 := n12 (a := a) (by omega) a2
    have e2 := n12 (a := b) (by omega) b2
    have e3 := n12 (a := c) c1 (by omega)
    have e4 := nk2 d hd
    rw [len_tl] at e0
    unfold line
    rw [tl_join, sp_tl]
    show (TL.joinL [32] [TL.tl (Str.ofString "ask"), TL.tl z, TL.tl (num a), TL.tl (num b), TL.tl (num c), TL.tl (num d)]).length ≤ 48
    simp only [TL.joinL, List.length_append, List.length_cons, List.length_nil, t3]
    omega
  | @told z w a b hz a1 a2 b1 b2 hw =>
    refine ⟨.told z a b w, ⟨hz, ⟨nums_range a (by omega) a2, a1⟩, ⟨nums_range b (by omega) b2, b1⟩, hw⟩, rfl, ?_⟩
    have e0 := hz.b
    have e1 := n12 (a := a) (by omega) a2
    have e2 := n12 (a := b) (by omega) b2
    have e3 : (TL.tl w).length ≤ 6 := by rcases hw with rfl | rfl <;> decide +kernel
    rw [len_tl] at e0
    unfold line
    rw [tl_join, sp_tl]
    show (TL.joinL [32] [TL.tl (Str.ofString "told"), TL.tl z, TL.tl (num a), TL.tl (num b), TL.tl w]).length ≤ 48
    simp only [TL.joinL, List.length_append, List.length_cons, List.length_nil, t5]
    omega
theorem Tx_cons (g : F) (gs : List F) : Tx (g :: gs) = TL.tl (line g) ++ 10 :: Tx gs := by simp [Tx]
theorem Tx_run : ∀ {gs : List F}, (∀ g ∈ gs, (TL.tl (line g)).length ≤ 48) → ∀ {v}, Stretch v (Tx gs) → 10 ∉ v → v.length ≤ 48
  | [], _, v, h, _ => by
    have := h.len
    have e : (Tx []).length = 0 := rfl
    omega
  | g :: gs, hg, v, h, hv => by
    rw [Tx_cons] at h
    rcases stretch_sep h hv with h | h
    · exact Nat.le_trans h.len (hg g List.mem_cons_self)
    · exact Tx_run (fun x hx => hg x (List.mem_cons_of_mem _ hx)) h hv
theorem Tx_ch : ∀ {gs : List F}, (∀ g ∈ gs, g.ok) → ∀ c ∈ Tx gs, c = 10 ∨ c ∈ CH
  | [], _, c, h => nomatch h
  | g :: gs, hg, c, h => by
    rw [Tx_cons] at h
    rcases List.mem_append.mp h with h | h
    · exact .inr (line_ch (hg g List.mem_cons_self) c h)
    · rcases List.mem_cons.mp h with h | h
      · exact .inl h
      · exact Tx_ch (fun x hx => hg x (List.mem_cons_of_mem _ hx)) c h
theorem Tx_len : ∀ {gs : List F}, (∀ g ∈ gs, (TL.tl (line g)).length ≤ 48) → (Tx gs).length ≤ gs.length * 49
  | [], _ => Nat.zero_le _
  | g :: gs, hg => by
    have := Tx_len fun x hx => hg x (List.mem_cons_of_mem g hx)
    have := hg g List.mem_cons_self
    rw [Tx_cons]
    simp only [List.length_append, List.length_cons]
    omega
section
variable {scr : D} {x4 x5 x6 x7 x8 x9 x10 x11 x12 : Option D} {s : Dr} {b : Nat}
theorem page_ok (h : s.Ok b) (hb : b + 1000 < 2 ^ 40) : ∃ (z : Str) (s' : Dr), TxO 48 248 z ∧ s'.Ok (b + 400) ∧
    (sSet 5 (mCall m__law_page [.e (mFz (mLc (mRng1 (mCons (mCall m__law_take [.v 3, .e (mC (.int 6))] []) mNil)) [13] (tName 13) tTrue (mCall m__law_any_frame [.v 3] [])))] [])) (Ev scr s x4 x5 x6 x7 x8 x9 x10 x11 x12) = some (.nx (Ev scr s' x4 (some (.str z)) x6 x7 x8 x9 x10 x11 x12)) := by
  obtain ⟨v, v0, v1, s1, k1, p1⟩ := take_ok (n := 6) h (by omega) (by decide) (by decide)
  have rg : mRng1 (mCons (mCall m__law_take [.v 3, .e (mC (.int 6))] []) mNil) (Ev scr s x4 x5 x6 x7 x8 x9 x10 x11 x12) = some (rngD 0 v.toNat, Ev scr s1 x4 x5 x6 x7 x8 x9 x10 x11 x12) := ev_rng (ev_cve (i := 3) (d := s.d) (δ := Ev scr s x4 x5 x6 x7 x8 x9 x10 x11 x12) rfl (a := mC (.int 6)) rfl (d1 := s.d) rfl rfl p1) v0 (by omega)
  obtain ⟨δ', acc, el, _, s2, gs, k2, rfl, hg, hl, rfl⟩ := loopC_ind (own := [13]) (t := tName 13) (c := tTrue) (m := (mCall m__law_any_frame [.v 3] []))
    (J := fun r δ acc => r.length ≤ 5 ∧ ∃ (s2 : Dr) (gs : List F), s2.Ok (b + 390 - 60 * r.length) ∧ acc = gs.map F.d ∧ (∀ g ∈ gs, g.ok ∧ (TL.tl (line g)).length ≤ 48) ∧ gs.length + r.length = v.toNat ∧ δ = Ev scr s2 x4 x5 x6 x7 x8 x9 x10 x11 x12)
    (fun d r δ acc hJ => by
      obtain ⟨hr, s2, gs, k2, rfl, hg, hl, rfl⟩ := hJ
      simp only [List.length_cons] at hr k2 hl
      obtain ⟨f, hf, s3, k3, p3⟩ := any_ok k2 (by omega)
      obtain ⟨g, hgo, rfl, hgl⟩ := fr_small hf
      refine ⟨_, _, rfl, .inr ⟨rfl, _, _, ev_cv (i := 3) (d := s2.d) rfl rfl p3, by omega, s3, gs ++ [g], k3.mono (by omega), by simp, fun x hx => ?_, by simp; omega, rfl⟩⟩
      rcases List.mem_append.mp hx with hx | hx
      · exact hg x hx
      · rw [List.mem_singleton.mp hx]; exact ⟨hgo, hgl⟩) (rngD 0 v.toNat) (Ev scr s1 x4 x5 x6 x7 x8 x9 x10 x11 x12) [] ⟨by rw [rng_len]; omega, s1, [], k1.mono (by rw [rng_len]; omega), rfl, by simp, by rw [rng_len]; simp, rfl⟩
  have gl : gs.length ≤ 5 := by simp at hl; omega
  have lc := ev_lc rg (own := [13]) (by rw [rng_len]; exact Nat.le_trans (show v.toNat ≤ 9 by omega) (by decide)) el
  obtain ⟨z, hz, _, pg⟩ := law_page_ok (gs := gs) (fun g hg' => (hg g hg').1) (by omega)
  have lf : mFz (mLc (mRng1 (mCons (mCall m__law_take [.v 3, .e (mC (.int 6))] []) mNil)) [13] (tName 13) tTrue (mCall m__law_any_frame [.v 3] [])) (Ev scr s x4 x5 x6 x7 x8 x9 x10 x11 x12) = some (.lst false (gs.map F.d), Ev scr s2 x4 x5 x6 x7 x8 x9 x10 x11 x12) := by
    have := ev_fz lc
    rwa [show fz (.lst true (gs.map F.d)) = .lst false (gs.map F.d) by simp only [fz, fzs_typ F.d fz_d]] at this
  refine ⟨z, s2, ⟨?_, ?_, ?_⟩, k2.mono (by simp), ev_set (i := 5) (ev_ce1 lf pg) (by simp [Ev])⟩
  · rw [hz]
    exact Tx_ch fun g hg' => (hg g hg').1
  · rw [hz]
    exact fun v hv hn => Tx_run (fun g hg' => (hg g hg').2) hv hn
  · have := Tx_len fun g hg' => (hg g hg').2
    rw [len_tl, hz]
    omega
theorem near_ok {z : Str} (hz : TxO 48 248 z) (h : s.Ok b) (hb : b + 1000 < 2 ^ 40) : ∃ (y : Str) (s' : Dr) (y9 : Option D), TxO 391 1998 y ∧ s'.Ok (b + 40) ∧
    (sFor (mRng1 (mCons (mBin dAdd (mC (.int 1)) (mCall m__law_take [.v 3, .e (mC (.int 3))] [])) mNil)) (tName 9) (sSet 8 (mCall m__law_broken_page [.v 3, .e (mVar 8)] []))) (Ev scr s x4 x5 x6 x7 (some (.str z)) x9 x10 x11 x12) = some (.nx (Ev scr s' x4 x5 x6 x7 (some (.str y)) y9 x10 x11 x12)) := by
  obtain ⟨v, v0, v1, s1, k1, p1⟩ := take_ok (n := 3) h (by omega) (by decide) (by decide)
  have rg : mRng1 (mCons (mBin dAdd (mC (.int 1)) (mCall m__law_take [.v 3, .e (mC (.int 3))] [])) mNil) (Ev scr s x4 x5 x6 x7 (some (.str z)) x9 x10 x11 x12) = some (rngD 0 (1 + v).toNat, Ev scr s1 x4 x5 x6 x7 (some (.str z)) x9 x10 x11 x12) := ev_rng (ev_bin (g := dAdd) (a := mC (.int 1)) rfl (ev_cve (i := 3) (d := s.d) (δ := Ev scr s x4 x5 x6 x7 (some (.str z)) x9 x10 x11 x12) rfl (a := mC (.int 3)) rfl (d1 := s.d) rfl rfl p1) rfl) (by omega) (by omega)
  obtain ⟨δ', el, s2, y, j, y9, k2, hj, hy, rfl⟩ := loopF_ind (t := tName 9) (b := sSet 8 (mCall m__law_broken_page [.v 3, .e (mVar 8)] []))
    (J := fun r δ => ∃ (s2 : Dr) (y : Str) (j : Nat) (y9 : Option D), s2.Ok (b + 1 + 10 * j) ∧ j + r.length ≤ 3 ∧ TxO (49 * 2 ^ j - 1) (250 * 2 ^ j - 2) y ∧ δ = Ev scr s2 x4 x5 x6 x7 (some (.str y)) y9 x10 x11 x12)
    (fun d r δ hJ => by
      obtain ⟨s2, y, j, y9, k2, hj, hy, rfl⟩ := hJ
      simp only [List.length_cons] at hj
      have pj : 1 ≤ 2 ^ j := Nat.one_le_two_pow
      have pj4 : 2 ^ j ≤ 2 ^ 2 := Nat.pow_le_pow_right (by decide) (by omega)
      obtain ⟨y', hy', s3, k3, e3⟩ := broken_ok hy (by omega) k2 (by omega)
      refine ⟨_, _, rfl, ev_set (i := 8) (ev_cve (i := 3) (d := s2.d) (δ := Ev scr s2 x4 x5 x6 x7 (some (.str y)) (some d) x10 x11 x12) rfl (ev_var (i := 8) (d := .str y) rfl rfl) (d1 := s2.d) rfl rfl e3) (by simp [Ev]), s3, y', j + 1, some d, k3.mono (by omega), by omega, ?_, rfl⟩
      have e1 : 2 * (49 * 2 ^ j - 1) + 1 = 49 * 2 ^ (j + 1) - 1 := by rw [Nat.pow_succ]; omega
      have e2 : 2 * (250 * 2 ^ j - 2) + 2 = 250 * 2 ^ (j + 1) - 2 := by rw [Nat.pow_succ]; omega
      rwa [e1, e2] at hy') (rngD 0 (1 + v).toNat) (Ev scr s1 x4 x5 x6 x7 (some (.str z)) x9 x10 x11 x12) ⟨s1, z, 0, x9, k1.mono (by omega), by rw [rng_len]; omega, hz, rfl⟩
  have pj : 2 ^ j ≤ 2 ^ 3 := Nat.pow_le_pow_right (by decide) (by simp at hj; omega)
  refine ⟨y, s2, y9, ⟨hy.ch, fun v hv hn => Nat.le_trans (hy.run v hv hn) (by omega), Nat.le_trans hy.len (by omega)⟩, k2.mono (by simp at hj; omega), (ev_for rg).trans el⟩
end
end K47
set_option Elab.async false
set_option linter.all false
set_option maxRecDepth 100000
set_option maxHeartbeats 0
set_option exponentiation.threshold 2003
namespace K47
open PySem PySem.Spec PyProof.Rows L2 DL
open J (CH wordB)
def lastE : ME := mAlt (mPath 10 (pSub pVar (kPur [] (mNeg (mC (.int 1)))))) (mBin dIx (mVar 10) (mNeg (mC (.int 1))))
def S10 : MS := sSet 10 (mMethV "str" gSplit (mVar 8) (mCons (mC (.str "\n")) mNil))
def S11 : MS := sSet 11 (mCall m__law_first_bad [.e (mFz (mSl (mVar 10) oNone (oSome (mNeg (mC (.int 1))))))] [])
def S12 : MS := sSet 12 (mIf (toT (mBin dIsNot (mVar 11) (mC .non))) (mVar 11) (mLst (mCons (mTup (mCons (mLc (iAny (mSl (mVar 10) oNone (oSome (mNeg (mC (.int 1)))))) [14] (tName 14) tTrue (mCall m__law_read [.e (mVar 14)] [])) (mCons lastE mNil))) mNil)))
def cmpC : MS := sIf (toT (mBin dNe (mCallB dRepr (mCons cutT mNil)) (mCallB dRepr (mCons (mVar 12) mNil)))) (sRet (mC (.bl false))) sNil
def cmpR : MS := sIf (toT (mBin dNe (mCallB dRepr (mCons readT mNil)) (mCallB dRepr (mCons (mVar 12) mNil)))) (sRet (mC (.bl false))) sNil
def D2 : MS := sIf (toT (mBin dIs (mVar 11) (mC .non)))
  (sSet 12 (mIf (toT (mBin dNe lastE (mC (.str "")))) (mBin dSub (mCallB dLen (mCons (mVar 10) mNil)) (mC (.int 1))) (mLst (mCons (mPath 12 (pSub (pSub pVar (kC (.int 0))) (kC (.int 0)))) mNil))))
  sNil
def LAP2 : MS := sCons S10 (sCons S11 (sCons S12 (sCons cmpC (sCons D2 cmpR))))
theorem int_repr (k : Nat) (hk : k ≤ 2000) : ∃ w, dRepr [.int k] = some (.str w) := by
  have hi : J.atomB (.int k) = true := by
    show J.intB k = true
    unfold J.intB
    rw [Bool.and_eq_true, decide_eq_true_eq, decide_eq_true_eq]
    refine ⟨by omega, ?_⟩
    have : k < 10 ^ 400 := Nat.lt_of_le_of_lt hk (by decide +kernel)
    exact_mod_cast this
  obtain ⟨p, hp, _⟩ := J.atom_sh hi
  refine ⟨p.shown, ?_⟩
  show (reprD (.int k)).map D.str = _
  rw [J.repr_of hp (by decide) (by decide)]
  rfl
theorem fb_lt : ∀ {L : List Str} {n k : Nat}, fb n L = some k → k < n + L.length
  | [], _, _, h => nomatch h
  | r :: L, n, k, h => by
    simp only [fb] at h
    split at h
    · cases h
      simp
    · have := fb_lt h
      simp only [List.length_cons]
      omega
section
variable {scr : D} {s : Dr} {x4 x5 x6 x7 x9 x10 x11 x12 : Option D} {z t : Str} {L : List Str} (h : PageOk z L t)
include h
theorem lap10 : S10 (Ev scr s x4 x5 x6 x7 (some (.str z)) x9 x10 x11 x12) = some (.nx (Ev scr s x4 x5 x6 x7 (some (.str z)) x9 (some (.lst true ((L ++ [t]).map D.str))) x11 x12)) := ev_set (i := 10) (sp_ev h rfl) (by simp [Ev])
theorem lap11 : S11 (Ev scr s x4 x5 x6 x7 (some (.str z)) x9 (some (.lst true ((L ++ [t]).map D.str))) x11 x12) = some (.nx (Ev scr s x4 x5 x6 x7 (some (.str z)) x9 (some (.lst false ((L ++ [t]).map D.str))) (some (dueN (fb 0 L))) x12)) := by
  have vf : mVar 10 (Ev scr s x4 x5 x6 x7 (some (.str z)) x9 (some (.lst true ((L ++ [t]).map D.str))) x11 x12) = some (.lst false ((L ++ [t]).map D.str), Ev scr s x4 x5 x6 x7 (some (.str z)) x9 (some (.lst false ((L ++ [t]).map D.str))) x11 x12) := by
    have := ev_varf (i := 10) (δ := Ev scr s x4 x5 x6 x7 (some (.str z)) x9 (some (.lst true ((L ++ [t]).map D.str))) x11 x12) rfl
    rw [show fz (.lst true ((L ++ [t]).map D.str)) = .lst false ((L ++ [t]).map D.str) by simp only [fz, fzs_strs]] at this
    exact this
  have sl := ev_slL (lo := oNone) vf rfl (ev_some (m := mNeg (mC (.int 1))) (i := -1) rfl)
  rw [cut_last, ← List.map_dropLast, List.dropLast_concat] at sl
  have fz1 := ev_fz sl
  rw [show fz (.lst true (L.map D.str)) = .lst false (L.map D.str) by simp only [fz, fzs_strs]] at fz1
  exact ev_set (i := 11) (ev_ce1 fz1 (first_bad_ok h.row)) (by simp [Ev])
theorem last10 {y11 y12 : Option D} : lastE (Ev scr s x4 x5 x6 x7 (some (.str z)) x9 (some (.lst false ((L ++ [t]).map D.str))) y11 y12) = some (.str t, Ev scr s x4 x5 x6 x7 (some (.str z)) x9 (some (.lst false ((L ++ [t]).map D.str))) y11 y12) := last_ev h (i := 10) (o := false) rfl rfl
theorem lap_bad {k : Nat} (hb : fb 0 L = some k) : LAP2 (Ev scr s x4 x5 x6 x7 (some (.str z)) x9 x10 x11 x12) = some (.nx (Ev scr s x4 x5 x6 x7 (some (.str z)) x9 (some (.lst false ((L ++ [t]).map D.str))) (some (.int k)) (some (.int k)))) := by
  have hk : k ≤ 2000 := by
    have := fb_lt hb
    have := h.n
    omega
  obtain ⟨w, hw⟩ := int_repr k hk
  have l11 := lap11 (scr := scr) (s := s) (x4 := x4) (x5 := x5) (x6 := x6) (x7 := x7) (x9 := x9) (x11 := x11) (x12 := x12) h
  rw [hb] at l11
  have s12 : S12 (Ev scr s x4 x5 x6 x7 (some (.str z)) x9 (some (.lst false ((L ++ [t]).map D.str))) (some (.int k)) x12) = some (.nx (Ev scr s x4 x5 x6 x7 (some (.str z)) x9 (some (.lst false ((L ++ [t]).map D.str))) (some (.int k)) (some (.int k)))) := by
    have i11 : mVar 11 (Ev scr s x4 x5 x6 x7 (some (.str z)) x9 (some (.lst false ((L ++ [t]).map D.str))) (some (.int k)) x12) = some (.int k, Ev scr s x4 x5 x6 x7 (some (.str z)) x9 (some (.lst false ((L ++ [t]).map D.str))) (some (.int k)) x12) := ev_int (i := 11) rfl
    refine ev_set (i := 12) (δ1 := Ev scr s x4 x5 x6 x7 (some (.str z)) x9 (some (.lst false ((L ++ [t]).map D.str))) (some (.int k)) x12) ((ev_if_e (ev_toT (ev_bin (g := dIsNot) i11 (b := mC .non) rfl rfl))).trans ?_) (show 12 < 15 by decide)
    exact (if_pos rfl).trans i11
  have v12 : ∀ {y : Option D}, mCallB dRepr (mCons (mVar 12) mNil) (Ev scr s x4 x5 x6 x7 (some (.str z)) x9 (some (.lst false ((L ++ [t]).map D.str))) y (some (.int k))) = some (.str w, Ev scr s x4 x5 x6 x7 (some (.str z)) x9 (some (.lst false ((L ++ [t]).map D.str))) y (some (.int k))) := ev_call1 (g := dRepr) (ev_int (i := 12) rfl) hw
  have c1 : cmpC (Ev scr s x4 x5 x6 x7 (some (.str z)) x9 (some (.lst false ((L ++ [t]).map D.str))) (some (.int k)) (some (.int k))) = some (.nx (Ev scr s x4 x5 x6 x7 (some (.str z)) x9 (some (.lst false ((L ++ [t]).map D.str))) (some (.int k)) (some (.int k)))) := (ev_if0 (ev_toT (ev_bin (g := dNe) (ev_call1 (g := dRepr) (cutT_e h hb) hw) v12 (ne_str_refl w)))).trans rfl
  have c2 : cmpR (Ev scr s x4 x5 x6 x7 (some (.str z)) x9 (some (.lst false ((L ++ [t]).map D.str))) (some (.int k)) (some (.int k))) = some (.nx (Ev scr s x4 x5 x6 x7 (some (.str z)) x9 (some (.lst false ((L ++ [t]).map D.str))) (some (.int k)) (some (.int k)))) := (ev_if0 (ev_toT (ev_bin (g := dNe) (ev_call1 (g := dRepr) (readT_e h hb) hw) v12 (ne_str_refl w)))).trans rfl
  have d2 : D2 (Ev scr s x4 x5 x6 x7 (some (.str z)) x9 (some (.lst false ((L ++ [t]).map D.str))) (some (.int k)) (some (.int k))) = some (.nx (Ev scr s x4 x5 x6 x7 (some (.str z)) x9 (some (.lst false ((L ++ [t]).map D.str))) (some (.int k)) (some (.int k)))) := (ev_if0 (ev_toT (ev_bin (g := dIs) (ev_int (i := 11) rfl) (b := mC .non) rfl rfl))).trans rfl
  exact (ev_seq (lap10 h)).trans ((ev_seq l11).trans ((ev_seq s12).trans ((ev_seq c1).trans ((ev_seq d2).trans c2))))
theorem lap_good (hb : fb 0 L = none) : ∃ y12, LAP2 (Ev scr s x4 x5 x6 x7 (some (.str z)) x9 x10 x11 x12) = some (.nx (Ev scr s x4 x5 x6 x7 (some (.str z)) x9 (some (.lst false ((L ++ [t]).map D.str))) (some .non) y12)) := by
  have hn := h.n
  obtain ⟨⟨w, hw⟩, w2, hw2⟩ := frs_repr hb h.row hn h.end_
  have l11 := lap11 (scr := scr) (s := s) (x4 := x4) (x5 := x5) (x6 := x6) (x7 := x7) (x9 := x9) (x11 := x11) (x12 := x12) h
  rw [hb] at l11
  let E : Option D → DL.Env := fun y => Ev scr s x4 x5 x6 x7 (some (.str z)) x9 (some (.lst false ((L ++ [t]).map D.str))) (some .non) y
  have v10 : ∀ y, mVar 10 (E y) = some (.lst false ((L ++ [t]).map D.str), E y) := fun y => ev_var (i := 10) rfl (isFz_strs _)
  have s12 : S12 (E x12) = some (.nx (E (some (.lst true [.tup [.lst true (L.map fr), .str t]])))) := by
    have sl := ev_slL (lo := oNone) (v10 x12) rfl (ev_some (m := mNeg (mC (.int 1))) (i := -1) rfl)
    rw [cut_last, ← List.map_dropLast, List.dropLast_concat] at sl
    have lc := lc_map (own := [14]) (t := tName 14) (m := mCall m__law_read [.e (mVar 14)] []) (δ1 := E x12) L D.str fr ((iAny_lst sl).trans (by rw [fzs_strs])) rfl (Nat.le_trans hn (by decide)) fun r hr => ⟨_, rfl, rfl, ev_calle1 (ev_var (i := 14) (d := .str r) rfl rfl) (law_read_ok (h.row r hr))⟩
    refine ev_set (i := 12) (δ1 := E x12) ((ev_if_e (ev_toT (ev_bin (g := dIsNot) (ev_var (i := 11) (d := .non) (δ := E x12) rfl rfl) (b := mC .non) rfl rfl))).trans ?_) (show 12 < 15 by decide)
    rw [if_neg (by decide)]
    exact ev_lst (ev_cons (ev_tup (ev_cons lc (ev_cons (last10 h) (r := mNil) rfl)) (by show 2 ≤ sizeLine; decide)) (r := mNil) rfl) (by show 1 ≤ sizeLine; decide)
  have zf : fz (.lst true [.tup [.lst true (L.map fr), .str t]]) = .lst false [.tup [.lst false (L.map fr), .str t]] := by simp only [fz, fzs, frs_fz h.row]
  have e12 : mVar 12 (E (some (.lst true [.tup [.lst true (L.map fr), .str t]]))) = some (.lst false [.tup [.lst false (L.map fr), .str t]], E (some (.lst false [.tup [.lst false (L.map fr), .str t]]))) := by
    have := ev_varf (i := 12) (δ := E (some (.lst true [.tup [.lst true (L.map fr), .str t]]))) rfl
    rw [zf] at this
    exact this
  have r1 : ∀ o o1, dRepr [.lst o [.tup [.lst o1 (L.map fr), .str t]]] = some (.str w) := fun o o1 => by
    show (reprD _).map D.str = _
    rw [hw o o1]
    rfl
  have r2 : ∀ o o1, dRepr [.lst o [.lst o1 (L.map fr)]] = some (.str w2) := fun o o1 => by
    show (reprD _).map D.str = _
    rw [hw2 o o1]
    rfl
  have c1 : cmpC (E (some (.lst true [.tup [.lst true (L.map fr), .str t]]))) = some (.nx (E (some (.lst false [.tup [.lst false (L.map fr), .str t]])))) := (ev_if0 (ev_toT (ev_bin (g := dNe) (ev_call1 (g := dRepr) (cutT_v h hb) (r1 true true)) (ev_call1 (g := dRepr) e12 (r1 false false)) (ne_str_refl w)))).trans rfl
  have is : toT (mBin dIs (mVar 11) (mC .non)) (E (some (.lst false [.tup [.lst false (L.map fr), .str t]]))) = some (true, E (some (.lst false [.tup [.lst false (L.map fr), .str t]]))) := ev_toT (ev_bin (g := dIs) (ev_var (i := 11) (d := .non) rfl rfl) (b := mC .non) rfl rfl)
  have ne : toT (mBin dNe lastE (mC (.str ""))) (E (some (.lst false [.tup [.lst false (L.map fr), .str t]]))) = some (!decide (t = ""), E (some (.lst false [.tup [.lst false (L.map fr), .str t]]))) := ev_toT (ev_bin (g := dNe) (last10 h) (b := mC (.str "")) rfl rfl)
  by_cases ht : t = ""
  · rw [decide_eq_true ht] at ne
    have fzl : isFzs (L.map fr) = true := isFzs_iff.mpr fun d hd => by
      obtain ⟨r, hr, rfl⟩ := List.mem_map.mp hd
      exact fr_fz (h.row r hr)
    have z1 : isFz (.lst false (L.map fr)) = true := by simp only [isFz, fzl]; rfl
    have z2 : isFz (.tup [.lst false (L.map fr), .str t]) = true := by simp only [isFz, isFzs, fzl]; rfl
    have z3 : isFz (.lst false [.tup [.lst false (L.map fr), .str t]]) = true := by simp only [isFz, isFzs, fzl]; rfl
    have pth : mPath 12 (pSub (pSub pVar (kC (.int 0))) (kC (.int 0))) (E (some (.lst false [.tup [.lst false (L.map fr), .str t]]))) = some (.lst false (L.map fr), E (some (.lst false [.tup [.lst false (L.map fr), .str t]]))) :=
      ev_pathF (i := 12) (d := .lst false [.tup [.lst false (L.map fr), .str t]]) rfl (p := [.sub (.inl 0), .sub (.inl 0)]) rfl (walkF z3 (j := 0) rfl rfl (walkF z2 (j := 0) rfl rfl (walk_nilF z1)))
    have d2 : D2 (E (some (.lst false [.tup [.lst false (L.map fr), .str t]]))) = some (.nx (E (some (.lst true [.lst false (L.map fr)])))) := by
      refine (ev_if1 is).trans (ev_set (i := 12) (δ1 := E (some (.lst false [.tup [.lst false (L.map fr), .str t]]))) ((ev_if_e ne).trans ?_) (show 12 < 15 by decide))
      rw [if_neg (by decide)]
      exact ev_lst (ev_cons pth (r := mNil) rfl) (by show 1 ≤ sizeLine; decide)
    have f12 : mVar 12 (E (some (.lst true [.lst false (L.map fr)]))) = some (.lst false [.lst false (L.map fr)], E (some (.lst false [.lst false (L.map fr)]))) := by
      have := ev_varf (i := 12) (δ := E (some (.lst true [.lst false (L.map fr)]))) rfl
      rw [show fz (.lst true [.lst false (L.map fr)]) = .lst false [.lst false (L.map fr)] by simp only [fz, fzs, frs_fz h.row]] at this
      exact this
    have c2 : cmpR (E (some (.lst true [.lst false (L.map fr)]))) = some (.nx (E (some (.lst false [.lst false (L.map fr)])))) := (ev_if0 (ev_toT (ev_bin (g := dNe) (ev_call1 (g := dRepr) (readT_v h hb ht) (r2 true true)) (ev_call1 (g := dRepr) f12 (r2 false false)) (ne_str_refl w2)))).trans rfl
    exact ⟨_, (ev_seq (lap10 h)).trans ((ev_seq l11).trans ((ev_seq s12).trans ((ev_seq c1).trans ((ev_seq d2).trans c2))))⟩
  · rw [decide_eq_false ht] at ne
    obtain ⟨w3, hw3⟩ := int_repr L.length hn
    have d2 : D2 (E (some (.lst false [.tup [.lst false (L.map fr), .str t]]))) = some (.nx (E (some (.int L.length)))) := by
      refine (ev_if1 is).trans (ev_set (i := 12) (δ1 := E (some (.lst false [.tup [.lst false (L.map fr), .str t]]))) ((ev_if_e ne).trans ?_) (show 12 < 15 by decide))
      refine (if_pos rfl).trans ?_
      refine ev_bin (g := dSub) (ev_call1 (g := dLen) (v10 _) (d := .int ((L.length : Int) + 1)) (by simp [dLen])) (b := mC (.int 1)) rfl ?_
      show some (D.int ((L.length : Int) + 1 - 1)) = _
      congr 2
      omega
    have c2 : cmpR (E (some (.int L.length))) = some (.nx (E (some (.int L.length)))) := (ev_if0 (ev_toT (ev_bin (g := dNe) (ev_call1 (g := dRepr) (readT_o h hb ht) hw3) (ev_call1 (g := dRepr) (ev_int (i := 12) rfl) hw3) (ne_str_refl w3)))).trans rfl
    exact ⟨_, (ev_seq (lap10 h)).trans ((ev_seq l11).trans ((ev_seq s12).trans ((ev_seq c1).trans ((ev_seq d2).trans c2))))⟩
theorem lap2_ok : ∃ y10 y11 y12, LAP2 (Ev scr s x4 x5 x6 x7 (some (.str z)) x9 x10 x11 x12) = some (.nx (Ev scr s x4 x5 x6 x7 (some (.str z)) x9 y10 y11 y12)) := by
  cases hb : fb 0 L with
  | none =>
    obtain ⟨y, e⟩ := lap_good (scr := scr) (s := s) (x4 := x4) (x5 := x5) (x6 := x6) (x7 := x7) (x9 := x9) (x10 := x10) (x11 := x11) (x12 := x12) h hb
    exact ⟨_, _, _, e⟩
  | some k => exact ⟨_, _, _, lap_bad h hb⟩
end
end K47
set_option Elab.async false
set_option linter.all false
set_option maxRecDepth 100000
set_option maxHeartbeats 0
set_option exponentiation.threshold 2003
namespace K47
open PySem PySem.Spec PyProof.Rows L2 DL
def SP : MS := (sSet 5 (mCall m__law_page [.e (mFz (mLc (mRng1 (mCons (mCall m__law_take [.v 3, .e (mC (.int 6))] []) mNil)) [13] (tName 13) tTrue (mCall m__law_any_frame [.v 3] [])))] []))
def SN : MS := (sFor (mRng1 (mCons (mBin dAdd (mC (.int 1)) (mCall m__law_take [.v 3, .e (mC (.int 3))] [])) mNil)) (tName 9) (sSet 8 (mCall m__law_broken_page [.v 3, .e (mVar 8)] [])))
def LAP : MS := sCons (sSet 8 (mVar 5)) (sCons SN LAP2)
def SO : MS := (sSet 7 (mCall m__law_pick [.v 3, .e (mFz (mLst (mCons (mC .non) (mCons (mC (.int 5)) (mCons (mLst (mCons (mC (.str "tell a 0 b\n")) mNil)) (mCons (mTup (mCons (mC (.str "")) mNil)) (mCons (mC (.bl true)) (mCons (mC (.dct true [] [])) mNil))))))))] []))
def ODR : MS := sIf (toT (mBin dNe readO (mC (.int 0)))) (sRet (mC (.bl false))) sNil
def ODC : MS := sIf (toT (mBin dNe cutO (mC (.int 0)))) (sRet (mC (.bl false))) sNil
def TURN : MS := sCons SP (sCons (sFor (mRng1 (mCons (mC (.int 3)) mNil)) (tName 6) LAP) (sCons SO (sCons ODR ODC)))
def RNG : MI := mRng1 (mCons (mBin dAdd (mC (.int 3)) (mCallB dMin2 (mCons (mCallB dLen (mCons (mVar 0) mNil)) (mCons (mC (.int 12)) mNil)))) mNil)
theorem b_law_is : b_law = sCons (sSet 3 (mCall m__law_begun [.e (mVar 0)] [])) (sCons (sFor RNG (tName 4) TURN) (sRet (mC (.bl true)))) := rfl
section
variable {scr : D} {x4 x5 x6 x7 x8 x9 x10 x11 x12 : Option D} {s : Dr} {b : Nat}
theorem lap_ok {z : Str} (hz : TxO 48 248 z) (h : s.Ok b) (hb : b + 1000 < 2 ^ 40) : ∃ (s' : Dr) (y8 y9 y10 y11 y12 : Option D), s'.Ok (b + 40) ∧ LAP (Ev scr s x4 (some (.str z)) x6 x7 x8 x9 x10 x11 x12) = some (.nx (Ev scr s' x4 (some (.str z)) x6 x7 y8 y9 y10 y11 y12)) := by
  have s8 : sSet 8 (mVar 5) (Ev scr s x4 (some (.str z)) x6 x7 x8 x9 x10 x11 x12) = some (.nx (Ev scr s x4 (some (.str z)) x6 x7 (some (.str z)) x9 x10 x11 x12)) := ev_set (i := 8) (ev_var (i := 5) (d := .str z) (δ := Ev scr s x4 (some (.str z)) x6 x7 x8 x9 x10 x11 x12) rfl rfl) (show 8 < 15 by decide)
  obtain ⟨y, s1, y9, hy, k1, e1⟩ := near_ok (scr := scr) (x4 := x4) (x5 := some (.str z)) (x6 := x6) (x7 := x7) (x9 := x9) (x10 := x10) (x11 := x11) (x12 := x12) hz h hb
  obtain ⟨L, t, pg⟩ := hy.page (by decide) (by decide)
  obtain ⟨y10, y11, y12, e2⟩ := lap2_ok (scr := scr) (s := s1) (x4 := x4) (x5 := some (.str z)) (x6 := x6) (x7 := x7) (x9 := y9) (x10 := x10) (x11 := x11) (x12 := x12) pg
  exact ⟨s1, _, _, _, _, _, k1, (ev_seq s8).trans ((ev_seq e1).trans e2)⟩
theorem pick_odd (h : s.Ok b) (hb : b < 2 ^ 40) : ∃ d ∈ OD, ∃ s' : Dr, s'.Ok (b + 1) ∧ ∃ x', m__law_pick [s.d, .lst false OD] = some (d, [s'.d, x']) := by
  obtain ⟨j, d, hd, s', h', e⟩ := pick_ok (o := false) (ds := OD) h hb (by simp [OD]) (by decide)
  have hm := List.mem_of_getElem? hd
  refine ⟨d, hm, s', h', .lst false (fzs OD), ?_⟩
  rw [fz_isFz d (od_bad d hm).1] at e
  exact e
theorem turn_ok (h : s.Ok b) (hb : b + 2000 < 2 ^ 40) : ∃ (s' : Dr) (y5 y6 y7 y8 y9 y10 y11 y12 : Option D), s'.Ok (b + 600) ∧ TURN (Ev scr s x4 x5 x6 x7 x8 x9 x10 x11 x12) = some (.nx (Ev scr s' x4 y5 y6 y7 y8 y9 y10 y11 y12)) := by
  obtain ⟨z, s1, hz, k1, e1⟩ := page_ok (scr := scr) (x4 := x4) (x5 := x5) (x6 := x6) (x7 := x7) (x8 := x8) (x9 := x9) (x10 := x10) (x11 := x11) (x12 := x12) h (by omega)
  have rg : mRng1 (mCons (mC (.int 3)) mNil) (Ev scr s1 x4 (some (.str z)) x6 x7 x8 x9 x10 x11 x12) = some (rngD 0 3, Ev scr s1 x4 (some (.str z)) x6 x7 x8 x9 x10 x11 x12) := ev_rng (n := 3) rfl (by decide) (by decide)
  obtain ⟨δ', el, s2, y6, y8, y9, y10, y11, y12, _, k2, rfl⟩ := loopF_ind (t := tName 6) (b := LAP)
    (J := fun r δ => ∃ (s2 : Dr) (y6 y8 y9 y10 y11 y12 : Option D), r.length ≤ 3 ∧ s2.Ok (b + 400 + 40 * (3 - r.length)) ∧ δ = Ev scr s2 x4 (some (.str z)) y6 x7 y8 y9 y10 y11 y12)
    (fun d r δ hJ => by
      obtain ⟨s2, y6, y8, y9, y10, y11, y12, hr, k2, rfl⟩ := hJ
      simp only [List.length_cons] at hr k2
      obtain ⟨s3, w8, w9, w10, w11, w12, k3, e3⟩ := lap_ok (scr := scr) (x4 := x4) (x6 := some d) (x7 := x7) (x8 := y8) (x9 := y9) (x10 := y10) (x11 := y11) (x12 := y12) hz k2 (by omega)
      exact ⟨_, _, rfl, e3, s3, some d, w8, w9, w10, w11, w12, by omega, k3.mono (by omega), rfl⟩) (rngD 0 3) (Ev scr s1 x4 (some (.str z)) x6 x7 x8 x9 x10 x11 x12) ⟨s1, x6, x8, x9, x10, x11, x12, by rw [rng_len]; exact Nat.le_refl _, k1.mono (by rw [rng_len]; omega), rfl⟩
  obtain ⟨d, hd, s3, k3, x', e3⟩ := pick_odd k2 (show b + 400 + 120 < 2 ^ 40 by omega)
  have so : SO (Ev scr s2 x4 (some (.str z)) y6 x7 y8 y9 y10 y11 y12) = some (.nx (Ev scr s3 x4 (some (.str z)) y6 (some d) y8 y9 y10 y11 y12)) := ev_set (i := 7) (ev_cve (i := 3) (d := s2.d) (δ := Ev scr s2 x4 (some (.str z)) y6 x7 y8 y9 y10 y11 y12) rfl (od_ev _) (d1 := s2.d) rfl rfl e3) (show 7 < 15 by decide)
  have r1 : ODR (Ev scr s3 x4 (some (.str z)) y6 (some d) y8 y9 y10 y11 y12) = some (.nx (Ev scr s3 x4 (some (.str z)) y6 (some d) y8 y9 y10 y11 y12)) := (ev_if0 (ev_toT (ev_bin (g := dNe) (readO_e hd) (b := mC (.int 0)) rfl rfl))).trans rfl
  have r2 : ODC (Ev scr s3 x4 (some (.str z)) y6 (some d) y8 y9 y10 y11 y12) = some (.nx (Ev scr s3 x4 (some (.str z)) y6 (some d) y8 y9 y10 y11 y12)) := (ev_if0 (ev_toT (ev_bin (g := dNe) (cutO_e hd) (b := mC (.int 0)) rfl rfl))).trans rfl
  exact ⟨s3, _, _, _, _, _, _, _, _, k3.mono (show b + 400 + 120 + 1 ≤ b + 600 by omega), (ev_seq e1).trans ((ev_seq ((ev_for rg).trans el)).trans ((ev_seq so).trans ((ev_seq r1).trans r2)))⟩
end
theorem law_true (nums : List Int) (hn : nums.length ≤ 63) : ∃ ds', m_law [.scr (nums.map D.int), .tab "law" "law.<locals>.<lambda>", .tab "_law_told" "_law_told.<locals>.<lambda>"] = some (.bl true, ds') := by
  obtain ⟨s0, h0, e0⟩ := begun_ok hn
  have scf : isFz (.scr (nums.map D.int)) = true := isFzs_ints nums
  have q0 : sSet 3 (mCall m__law_begun [.e (mVar 0)] []) [some (.scr (nums.map D.int)), some tb1, some tb2, none, none, none, none, none, none, none, none, none, none, none, none] = some (.nx (Ev (.scr (nums.map D.int)) s0 none none none none none none none none none)) := ev_set (i := 3) (ev_ce1 (ev_var (i := 0) rfl scf) e0) (by simp)
  let k : Int := 3 + (if (12 : Int) < ((nums.map D.int).length : Int) then 12 else ((nums.map D.int).length : Int))
  have k0 : 0 ≤ k := by show 0 ≤ 3 + (if (12 : Int) < ((nums.map D.int).length : Int) then (12 : Int) else ((nums.map D.int).length : Int)); split <;> omega
  have k1 : k ≤ 15 := by show 3 + (if (12 : Int) < ((nums.map D.int).length : Int) then (12 : Int) else ((nums.map D.int).length : Int)) ≤ 15; split <;> omega
  have rg : RNG (Ev (.scr (nums.map D.int)) s0 none none none none none none none none none) = some (rngD 0 k.toNat, Ev (.scr (nums.map D.int)) s0 none none none none none none none none none) :=
    ev_rng (ev_bin (g := dAdd) (a := mC (.int 3)) rfl (ev_callB (g := dMin2) (ev_cons (ev_call1 (g := dLen) (ev_var (i := 0) rfl scf) rfl) (ev_cons (a := mC (.int 12)) rfl (r := mNil) rfl)) rfl) rfl) k0 (by omega)
  obtain ⟨δ', el, _, sj, w4, w5, w6, w7, w8, w9, w10, w11, w12, kj, rfl⟩ := loopF_ind (t := tName 4) (b := TURN)
    (J := fun r δ => r.length ≤ 15 ∧ ∃ (sj : Dr) (w4 w5 w6 w7 w8 w9 w10 w11 w12 : Option D), sj.Ok (20000 - 700 * r.length) ∧ δ = Ev (.scr (nums.map D.int)) sj w4 w5 w6 w7 w8 w9 w10 w11 w12) (fun d r δ hJ => by
      obtain ⟨hr, sj, w4, w5, w6, w7, w8, w9, w10, w11, w12, kj, rfl⟩ := hJ
      rw [List.length_cons] at hr kj
      obtain ⟨s', v5, v6, v7, v8, v9, v10, v11, v12, k', e⟩ := turn_ok (scr := .scr (nums.map D.int)) (s := sj) (x4 := some d) (x5 := w5) (x6 := w6) (x7 := w7) (x8 := w8) (x9 := w9) (x10 := w10) (x11 := w11) (x12 := w12) kj (by omega)
      exact ⟨_, _, rfl, e, by omega, s', some d, v5, v6, v7, v8, v9, v10, v11, v12, k'.mono (by omega), rfl⟩) (rngD 0 k.toNat) (Ev (.scr (nums.map D.int)) s0 none none none none none none none none none) ⟨by rw [rng_len]; omega, s0, none, none, none, none, none, none, none, none, none, h0.mono (by omega), rfl⟩
  have body : b_law [some (.scr (nums.map D.int)), some tb1, some tb2, none, none, none, none, none, none, none, none, none, none, none, none] = some (.rt (.bl true) (Ev (.scr (nums.map D.int)) sj w4 w5 w6 w7 w8 w9 w10 w11 w12)) := by
    rw [b_law_is]
    exact (ev_seq q0).trans ((ev_seq ((ev_for rg).trans el)).trans (ev_ret (m := mC (.bl true)) rfl))
  refine ⟨[.scr (nums.map D.int), tb1, tb2], ?_⟩
  show (if ([.scr (nums.map D.int), tb1, tb2] : List D).length = 3 then match b_law [some (.scr (nums.map D.int)), some tb1, some tb2, none, none, none, none, none, none, none, none, none, none, none, none] with | some (.rt r δ) => (match backs P_law 0 [.scr (nums.map D.int), tb1, tb2] δ with | some bs => some (r, bs) | none => none) | some (.nx δ) => (match backs P_law 0 [.scr (nums.map D.int), tb1, tb2] δ with | some bs => some (D.non, bs) | none => none) | _ => none else none) = _
  rw [body]; rfl
end K47
set_option Elab.async false
set_option linter.all false
set_option maxRecDepth 100000
set_option maxHeartbeats 0
open PySem PySem.W PySem.Calls PyProof.Rows
theorem PySem.Challenge.cw_farkeepers_k47_texts_of_frames_changed_holds : PySem.Challenge.rw_farkeepers_k47_texts_of_frames_changed.Holds := by
  w_on; o_law
  refine HandSHeadRun.head_any (r := OpenLaw.row PySem.Challenge.rw_farkeepers_k47_texts_of_frames_changed) (q := view (OpenLaw.row PySem.Challenge.rw_farkeepers_k47_texts_of_frames_changed).prog [38]) (H := K47.hk) (ob := K47.ob) (M := 12000) (loose := K47.names) (d := HandSHeadRun.topDef (OpenLaw.row PySem.Challenge.rw_farkeepers_k47_texts_of_frames_changed).prog 38) (kwd := []) K47.ob_eq
    (by kernel_rfl) (fun s => by kernel_rfl) K47.run (by kernel_rfl) (by kernel_rfl) (by kernel_rfl) (by rfl) (by first | assumption | decide +kernel) (by decide +kernel) ⟨rfl, rfl, rfl, rfl, rfl, by decide +kernel⟩ ?hw ?hc
  case hw => w_witness2
  case hc =>
    refine DL.walk_ofGH (gq := K47.gq) (l := PySem.Challenge.rw_farkeepers_k47_texts_of_frames_changed) (n := 63) (k := 12) (px := "_law_script") (m := K47.m_law) rfl (by decide) (by kernel_rfl) ⟨rfl, by decide, by decide⟩ K47.law_true ?F
    intro w mg lf h Y G hmg0
    obtain ⟨K, KX, c⟩ := Y
    have hmg : mg ("law" : PySem.Str) = some (.ref lf) := by
      have e : (HandSHeadRun.topDef (OpenLaw.row PySem.Challenge.rw_farkeepers_k47_texts_of_frames_changed).prog 38).name = ("law" : PySem.Str) := by kernel_rfl
      rw [← e]
      exact hmg0
    obtain ⟨fd, hb, tk, hF⟩ := K47.facts (P := (PySem.Challenge.rw_farkeepers_k47_texts_of_frames_changed).prog) (w := w) KX G hmg c
    refine ⟨K, fd, K47.tf.map (_root_.He.cT K), KX, hb, rfl, ?_, tk, fun p hp => ?_, hF⟩
    · rw [List.map_map]
      exact c.apart
    · obtain ⟨d, hd, rfl⟩ := List.mem_map.mp hp
      have z := c.tabs d hd
      exact ⟨z.1, z.2.2, z.2.1⟩
